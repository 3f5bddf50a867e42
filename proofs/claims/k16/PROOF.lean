import PyProof.Rows.All
import Wide.All
import OpenK.AllK
import Wide.FinOn
import PyProof.EqAt
import PyProof.EqKinds
import PyProof.TupleCall
import HandS.ForMost
import HandS.WordsExc
import HandS.Exc
import HandS.ExcInit
import HandS.Defaults
import HandS.HeadHook1
import HandS.HeadHook2
import HandS.HeadHook3
import HandS.HeadHook4
import HandS.HeadEnd
import HandS.Head0
import HandS.Head1
import HandS.Head2
import HandS.Wide
import HandS.Gcd
import HandS.Lambda
import HandS.IsInst
import HandS.Deep
import HandS.ClsMeth
import HandS.Zip
import HandS.FStr
import HandS.Text
import HandS.Style
import HandS.LawCells
import KE.KExcInit
import HandS.ExcField
import HandS.TryMany
import HandS.ExcOwn
import HandS.HotCalls
import KE.KTryMore
import HandS.EndTab
import HandS.Head3
import KE.KOpsOwn
import PyProof.InstEq
import KE.KCallOwn
import HandS.Small
import HandS.Property
import HandS.Star
import HandS.MakeKw
import KE.GoesEnum
import HandS.TupAny
import PyProof.StrBlock2
import PyProof.Conv_bool
import HandS.HeadNt
import HandS.Codes
import KE.IntTextLaws
import HandS.Nested
import KE.KSuper
import HandS.TupMul
import PyProof.SumWalkG
import HandS.Dict
import HandS.DictComp
import HandS.List
import PyProof.Rows.StrMeet
import KE.KEqDict
import HandS.DictEq
import HandS.TryOnly
import HandS.StrSplit
import HandS.Finally
import KE.OsSetLaws
import KE.SortData
import KE.KDictCopyH
import HandS.DictTup
import PySem.Challenge.RW_anystride_k16_directions_of_lines
/-! DA -/
set_option Elab.async false
set_option linter.all false
set_option maxRecDepth 100000
set_option maxHeartbeats 4000000
/-! Data beneath the heap: values as trees, and what stands for them. -/
namespace DL
open PySem PySem.Spec PyProof.Rows L2
/-- a lambda without parameters: what its function object holds -/
structure LamO where
  q : Str
  params : Arguments
  body : Expr
  scope : Scope
  cl : List (Str × Addr)
  pm : Value
  c' : Addr
  ctv : Value
def LamO.obj (o : LamO) : Obj := PySem.W.kla_obj "<lambda>" o.q o.params o.body o.scope o.cl o.pm o.c' o.ctv
/-- the object at f is that function -/
def FnH (f : Addr) (o : LamO) : HO := .ext fun h => h.get? f = some o.obj
inductive D where
  | non | bl (b : Bool) | int (i : Int) | str (x : Str)
  | tup (xs : List D) | lst (xs : List D) | dic (ks : List Key) (xs : List D)
  | ins (c : Str) (ns : List Str) (xs : List D)
  | bag
  | clo (o : LamO)
  | frl (a : Addr) (xs : List D)
  | frd (ks : List Key) (xs : List D)
  | exc (c : Str) (ns : List Str) (xs : List D)
  | cel (a : Addr)
abbrev Fg := PySem.W.Frag
/-- a list that nobody has locked -/
def SqS (K : Fg) (H : Hp) (a : Addr) (xs : List V) : Prop :=
  (H a = some (.lst xs) ∨ False) ∨
    ∃ (o : Obj) (its : Array Value) (n : Nat), K.lookup a = some o ∧ o.cls = .type "list" ∧ o.dict = none ∧ o.data = .seq its n ∧ its.size ≤ sizeLine ∧ Vals xs its.toList
theorem SqS.l {K : Fg} {H : Hp} {a : Addr} {xs : List V} (h : SqS K H a xs) : SqL K H a xs := h.imp (fun h => h.imp id fun h => h.elim) id
section
variable (K : Fg) (b : Option Addr) (H : Hp)
mutual
def Rep : D → V → Prop
  | .non, v => v = .non
  | .bl x, v => v = .bl x
  | .int i, v => v = .int i
  | .str x, v => v = .str x
  | .tup ds, v => ∃ a vs, v = .ref a ∧ some a ≠ b ∧ SqT K H a vs ∧ Reps ds vs
  | .lst ds, v => ∃ a vs, v = .ref a ∧ some a ≠ b ∧ SqS K H a vs ∧ Reps ds vs
  | .dic ks ds, v => ∃ a o vs, v = .ref a ∧ some a ≠ b ∧ H a = some (.frz o (.dK (ks.zip vs))) ∧ ks.length = vs.length ∧ Reps ds vs
  | .ins c ns ds, v => ∃ a dx vs, v = .ref a ∧ some a ≠ b ∧ H a = some (.ins (He.ga K c) dx (ns.zip vs)) ∧ ns.length = vs.length ∧ Reps ds vs
  | .bag, v => ∃ a, v = .ref a ∧ b = some a
  | .clo o, v => ∃ f, v = .ref f ∧ some f ≠ b ∧ H f = some (FnH f o) ∧ some o.c' ≠ b ∧ H o.c' = some (LamX.CodeO o.c' o.q)
  | .frl f ds, v => ∃ o vs, v = .ref f ∧ some f ≠ b ∧ H f = some (.frz o (.lst vs)) ∧ Reps ds vs
  | .frd ks ds, v => ∃ a vs, v = .ref a ∧ some a ≠ b ∧ H a = some (.dK (ks.zip vs)) ∧ ks.length = vs.length ∧ Reps ds vs
  | .exc c ns ds, v => ∃ a dx vs, v = .ref a ∧ some a ≠ b ∧ some dx ≠ b ∧ H a = some (exo a (He.ga K c) (some dx)) ∧ H dx = some (exd dx (ns.zip vs)) ∧ ns.length = vs.length ∧ Reps ds vs
  | .cel a, v => v = .ref a
def Reps : List D → List V → Prop
  | [], vs => vs = []
  | d :: r, vs => ∃ v q, vs = v :: q ∧ Rep d v ∧ Reps r q
end
end
/-- what may change is the bag alone -/
def nt : HO → Bool
  | .tbl _ => false
  | _ => true
def Le (b : Option Addr) (H H' : Hp) : Prop := ∀ a o, some a ≠ b → H a = some o → nt o = true → H' a = some o
/-- the tables of code objects stay tables of the same names -/
class TabC where
  T : List (Addr × Str)
variable [TabC]
def Tk (H H' : Hp) : Prop := LamX.Tabs TabC.T H → LamX.Tabs TabC.T H'
def BagAt (H : Hp) (a : Addr) : Prop := ∃ (c : Addr) (i j m : Int) (ns : List Int), H a = some (.lst [.ref c, .int i, .int j, .int m]) ∧ c ≠ a ∧ H c = some (.lst (ns.map V.int)) ∧ 0 ≤ i
def Bg (b : Option Addr) (H : Hp) : Prop := ∀ a, b = some a → BagAt H a
/-- the bag stays a bag of the same cells -/
def Bs (b : Option Addr) (H H' : Hp) : Prop := ∀ a, b = some a → ∀ (c : Addr) (i j m : Int), H a = some (.lst [.ref c, .int i, .int j, .int m]) → 0 ≤ i → ∃ i' j' : Int, 0 ≤ i' ∧ H' a = some (.lst [.ref c, .int i', .int j', .int m])
def Ext (b : Option Addr) (H H' : Hp) : Prop := Le b H H' ∧ Bs b H H' ∧ Tk H H'
def hide (O : List Addr) (H : Hp) : Hp := fun a => if a ∈ O then none else H a
theorem Le.refl {b : Option Addr} (H : Hp) : Le b H H := fun _ _ _ h _ => h
theorem Le.trans {b : Option Addr} {H H1 H2 : Hp} (x : Le b H H1) (y : Le b H1 H2) : Le b H H2 := fun a o n h t => y a o n (x a o n h t) t
theorem Ext.refl {b : Option Addr} (H : Hp) : Ext b H H := ⟨.refl H, fun a e c i j m h h0 => ⟨i, j, h0, h⟩, fun h => h⟩
theorem Ext.trans {b : Option Addr} {H H1 H2 : Hp} (x : Ext b H H1) (y : Ext b H1 H2) : Ext b H H2 := ⟨x.1.trans y.1, fun a e c i j m h h0 => by
  obtain ⟨i', j', h1, h2⟩ := x.2.1 a e c i j m h h0
  exact y.2.1 a e c i' j' m h2 h1, fun h => y.2.2 (x.2.2 h)⟩
theorem hide_in {O : List Addr} {H : Hp} {a : Addr} (h : a ∈ O) : hide O H a = none := if_pos h
theorem hide_out {O : List Addr} {H : Hp} {a : Addr} (h : a ∉ O) : hide O H a = H a := if_neg h
theorem of_hide {O : List Addr} {H : Hp} {a : Addr} {o : HO} (h : hide O H a = some o) : a ∉ O ∧ H a = some o := by
  unfold hide at h
  split at h
  · cases h
  · exact ⟨by assumption, h⟩
theorem hide_le {b : Option Addr} {O : List Addr} {H : Hp} : Le b (hide O H) H := fun _ _ _ h _ => (of_hide h).2
theorem Le.hide {b : Option Addr} {H H' : Hp} (O : List Addr) (x : Le b H H') : Le b (hide O H) (hide O H') := fun a o n h t => by
  obtain ⟨h1, h2⟩ := of_hide h
  rw [hide_out h1]
  exact x a o n h2 t
theorem hide_upd {O : List Addr} {H : Hp} {a : Addr} {o : HO} (h : a ∈ O) : DL.hide O (upd H a o) = DL.hide O H := by
  funext c
  unfold DL.hide
  by_cases hc : c ∈ O
  · rw [if_pos hc, if_pos hc]
  · rw [if_neg hc, if_neg hc, upd_ne (fun e => hc (by rw [e]; exact h))]
theorem hide_new {O : List Addr} {H : Hp} {a : Addr} {o : HO} (h : a ∉ O) : DL.hide O (upd H a o) = upd (DL.hide O H) a o := by
  funext c
  unfold DL.hide upd
  by_cases e : c = a
  · subst e; simp [h]
  · simp [e]
theorem hide_mono {b : Option Addr} {O O' : List Addr} {H : Hp} (h : ∀ a ∈ O, a ∈ O') : Le b (DL.hide O' H) (DL.hide O H) := fun a o _ e _ => by
  obtain ⟨h1, h2⟩ := of_hide e
  rw [hide_out (fun z => h1 (h a z))]
  exact h2
theorem Le.new {b : Option Addr} {H : Hp} {p : Addr} {o : HO} (h : H p = none) : Le b H (upd H p o) := fun a u _ e _ => by
  rw [upd_ne (ne_of_none e h)]
  exact e
theorem Bg.le {b : Option Addr} {H H' : Hp} (h : Bg b H) (x : ∀ a o, H a = some o → H' a = some o) : Bg b H' := fun a e => by
  obtain ⟨c, i, j, m, ns, h1, h2, h3, h4⟩ := h a e
  exact ⟨c, i, j, m, ns, x _ _ h1, h2, x _ _ h3, h4⟩
theorem Ext.all {b : Option Addr} {H H' : Hp} (x : ∀ a o, H a = some o → H' a = some o) : Ext b H H' := ⟨fun a o _ h _ => x a o h, fun a e c i j m h h0 => ⟨i, j, h0, x _ _ h⟩, fun t => t.ext x⟩
/-- what may be hidden: nothing else leans on it -/
def Hid (O : List Addr) (H : Hp) (a : Addr) : Prop := ∃ o, H a = some o ∧ match o with
  | .lst _ => True
  | .dK _ => True
  | .dT _ => True
  | .ins _ dx _ => dx ∈ O
  | .own x => x ∈ O ∧ ∃ C fs, H x = some (.ins C a fs)
  | _ => False
theorem Hid.ne {O : List Addr} {H : Hp} {a : Addr} (h : Hid O H a) : H a ≠ none := by
  obtain ⟨o, e, _⟩ := h
  rw [e]; simp
theorem Hid.nt {O : List Addr} {H : Hp} {a : Addr} (h : Hid O H a) : ∃ o, H a = some o ∧ nt o = true ∧ ∀ c q, o ≠ LamX.CodeO c q := by
  obtain ⟨o, e, h⟩ := h
  refine ⟨o, e, ?_, fun c q z => ?_⟩
  · cases o <;> first | rfl | exact h.elim
  · subst z
    exact h.elim
theorem tab_hide {O : List Addr} {H : Hp} {P : Addr} {q : Str} (hO : ∀ a ∈ O, ∃ o, H a = some o ∧ DL.nt o = true ∧ ∀ c q, o ≠ LamX.CodeO c q) (t : LamX.TabS H P q) : LamX.TabS (DL.hide O H) P q := by
  obtain ⟨ps, h1, h2, h3⟩ := t
  refine ⟨ps, ?_, h2, fun pos cv hc => ?_⟩
  · rw [hide_out (fun m => ?_)]; exact h1
    obtain ⟨o, e, n, _⟩ := hO P m
    rw [h1] at e; cases e; cases n
  · obtain ⟨c, e1, e2⟩ := h3 pos cv hc
    refine ⟨c, e1, ?_⟩
    rw [hide_out (fun m => ?_)]; exact e2
    obtain ⟨o, e, _, n⟩ := hO c m
    rw [e2] at e; cases e; exact n _ _ rfl
theorem tabs_unhide {O : List Addr} {H : Hp} {T : List (Addr × Str)} (t : LamX.Tabs T (DL.hide O H)) : LamX.Tabs T H := t.ext fun _ _ e => (of_hide e).2
theorem tabs_hide {O : List Addr} {H : Hp} {T : List (Addr × Str)} (hO : ∀ a ∈ O, ∃ o, H a = some o ∧ DL.nt o = true ∧ ∀ c q, o ≠ LamX.CodeO c q) (t : LamX.Tabs T H) : LamX.Tabs T (DL.hide O H) := fun p hp => tab_hide hO (t p hp)
theorem Ext.hide {b : Option Addr} {H H' : Hp} {O : List Addr} (x : Ext b H H') (hO : ∀ a ∈ O, some a ≠ b ∧ Hid O H a) : Ext b (DL.hide O H) (DL.hide O H') := ⟨x.1.hide O, fun a e c i j m h h0 => by
  obtain ⟨h1, h2⟩ := of_hide h
  rw [hide_out h1]
  exact x.2.1 a e c i j m h2 h0, fun t => tabs_hide (fun a m => by
    obtain ⟨n, h⟩ := hO a m
    obtain ⟨o, e, t1, t2⟩ := h.nt
    exact ⟨o, x.1 a o n e t1, t1, t2⟩) (x.2.2 (tabs_unhide t))⟩
theorem Bg.ext {b : Option Addr} {H H' : Hp} (h : Bg b H) (x : Ext b H H') : Bg b H' := fun a e => by
  obtain ⟨c, i, j, m, ns, h1, h2, h3, h4⟩ := h a e
  obtain ⟨i', j', h5, h6⟩ := x.2.1 a e c i j m h1 h4
  exact ⟨c, i', j', m, ns, h6, h2, x.1 c _ (fun z => h2 (Option.some.inj (z.trans e))) h3 rfl, h5⟩
theorem Ext.new {b : Option Addr} {H : Hp} {p : Addr} {o : HO} (h : H p = none) : Ext b H (upd H p o) := .all fun a u e => by
  rw [upd_ne (ne_of_none e h)]
  exact e
theorem Bg.ne {b : Option Addr} {H : Hp} (h : Bg b H) {p : Addr} (hp : H p = none) : some p ≠ b := fun e => by
  obtain ⟨c, i, j, m, ns, h1, _⟩ := h p e.symm
  rw [hp] at h1; cases h1
section
variable {K : Fg} {b : Option Addr} {H H' : Hp}
theorem rd_mono {a : Addr} {u : HO} (x : Le b H H') (hb : some a ≠ b) (h : Rd H a u) (t : nt u = true) : Rd H' a u := by
  rcases h with h | ⟨o, h⟩
  · exact .inl (x _ _ hb h t)
  · exact .inr ⟨o, x _ _ hb h rfl⟩
theorem sqL_mono {a : Addr} {xs : List V} (x : Le b H H') (hb : some a ≠ b) (h : SqL K H a xs) : SqL K H' a xs := by
  rcases h with h | h
  · exact .inl (rd_mono x hb h rfl)
  · exact .inr h
theorem sqS_mono {a : Addr} {xs : List V} (x : Le b H H') (hb : some a ≠ b) (h : SqS K H a xs) : SqS K H' a xs := by
  rcases h with (h | h) | h
  · exact .inl (.inl (x _ _ hb h rfl))
  · exact h.elim
  · exact .inr h
theorem sqT_mono {a : Addr} {xs : List V} (x : Le b H H') (hb : some a ≠ b) (h : SqT K H a xs) : SqT K H' a xs := by
  rcases h with h | h
  · exact .inl (rd_mono x hb h rfl)
  · exact .inr h
mutual
theorem Rep.mono (x : Le b H H') : ∀ {d : D} {v : V}, Rep K b H d v → Rep K b H' d v
  | .non, _, h => h
  | .bl _, _, h => h
  | .int _, _, h => h
  | .str _, _, h => h
  | .tup ds, v, h => by
    simp only [Rep] at h ⊢
    obtain ⟨a, vs, e, n, q, r⟩ := h
    exact ⟨a, vs, e, n, sqT_mono x n q, Reps.mono x r⟩
  | .lst ds, v, h => by
    simp only [Rep] at h ⊢
    obtain ⟨a, vs, e, n, q, r⟩ := h
    exact ⟨a, vs, e, n, sqS_mono x n q, Reps.mono x r⟩
  | .dic ks ds, v, h => by
    simp only [Rep] at h ⊢
    obtain ⟨a, o, vs, e, n, q, l, r⟩ := h
    exact ⟨a, o, vs, e, n, x _ _ n q rfl, l, Reps.mono x r⟩
  | .ins c ns ds, v, h => by
    simp only [Rep] at h ⊢
    obtain ⟨a, dx, vs, e, n, q, l, r⟩ := h
    exact ⟨a, dx, vs, e, n, x _ _ n q rfl, l, Reps.mono x r⟩
  | .bag, _, h => h
  | .clo o, v, h => by
    simp only [Rep] at h ⊢
    obtain ⟨f, e, n, q, n2, q2⟩ := h
    exact ⟨f, e, n, x _ _ n q rfl, n2, x _ _ n2 q2 rfl⟩
  | .frl f ds, v, h => by
    simp only [Rep] at h ⊢
    obtain ⟨o, vs, e, n, q, r⟩ := h
    exact ⟨o, vs, e, n, x _ _ n q rfl, Reps.mono x r⟩
  | .frd ks ds, v, h => by
    simp only [Rep] at h ⊢
    obtain ⟨a, vs, e, n, q, l, r⟩ := h
    exact ⟨a, vs, e, n, x _ _ n q rfl, l, Reps.mono x r⟩
  | .exc c ns ds, v, h => by
    simp only [Rep] at h ⊢
    obtain ⟨a, dx, vs, e, n, n2, q, q2, l, r⟩ := h
    exact ⟨a, dx, vs, e, n, n2, x _ _ n q rfl, x _ _ n2 q2 rfl, l, Reps.mono x r⟩
  | .cel _, _, h => h
theorem Reps.mono (x : Le b H H') : ∀ {ds : List D} {vs : List V}, Reps K b H ds vs → Reps K b H' ds vs
  | [], _, h => h
  | d :: r, vs, h => by
    simp only [Reps] at h ⊢
    obtain ⟨v, q, e, h1, h2⟩ := h
    exact ⟨v, q, e, Rep.mono x h1, Reps.mono x h2⟩
end
theorem Reps.length : ∀ {ds : List D} {vs : List V}, Reps K b H ds vs → ds.length = vs.length
  | [], _, h => by simp only [Reps] at h; rw [h]; rfl
  | d :: r, vs, h => by
    simp only [Reps] at h
    obtain ⟨v, q, rfl, _, h2⟩ := h
    simp [Reps.length h2]
theorem Reps.nil : Reps K b H [] [] := by simp only [Reps]
theorem Reps.cons {d : D} {ds : List D} {v : V} {vs : List V} (h : Rep K b H d v) (r : Reps K b H ds vs) : Reps K b H (d :: ds) (v :: vs) := by
  simp only [Reps]
  exact ⟨v, vs, rfl, h, r⟩
theorem Reps.of_cons {d : D} {ds : List D} {vs : List V} (h : Reps K b H (d :: ds) vs) : ∃ v q, vs = v :: q ∧ Rep K b H d v ∧ Reps K b H ds q := by
  simpa only [Reps] using h
theorem Reps.of_nil {vs : List V} (h : Reps K b H [] vs) : vs = [] := by
  simpa only [Reps] using h
theorem Reps.append : ∀ {ds es : List D} {vs us : List V}, Reps K b H ds vs → Reps K b H es us → Reps K b H (ds ++ es) (vs ++ us)
  | [], _, _, _, h, q => by rw [h.of_nil]; exact q
  | d :: r, _, vs, _, h, q => by
    obtain ⟨v, w, rfl, h1, h2⟩ := h.of_cons
    exact Reps.cons h1 (Reps.append h2 q)
theorem Reps.get : ∀ {ds : List D} {vs : List V} {i : Nat} {d : D}, Reps K b H ds vs → ds[i]? = some d → ∃ v, vs[i]? = some v ∧ Rep K b H d v
  | [], _, _, _, _, e => by simp at e
  | d :: r, vs, 0, d', h, e => by
    obtain ⟨v, w, rfl, h1, h2⟩ := h.of_cons
    simp at e; subst e
    exact ⟨v, rfl, h1⟩
  | d :: r, vs, i + 1, d', h, e => by
    obtain ⟨v, w, rfl, h1, h2⟩ := h.of_cons
    obtain ⟨u, e1, e2⟩ := Reps.get h2 (by simpa using e)
    exact ⟨u, by simpa using e1, e2⟩
theorem Reps.take : ∀ {ds : List D} {vs : List V} (n : Nat), Reps K b H ds vs → Reps K b H (ds.take n) (vs.take n)
  | _, _, 0, _ => Reps.nil
  | [], _, n + 1, h => by rw [h.of_nil]; exact Reps.nil
  | d :: r, vs, n + 1, h => by
    obtain ⟨v, w, rfl, h1, h2⟩ := h.of_cons
    exact Reps.cons h1 (Reps.take n h2)
theorem Reps.drop : ∀ {ds : List D} {vs : List V} (n : Nat), Reps K b H ds vs → Reps K b H (ds.drop n) (vs.drop n)
  | _, _, 0, h => h
  | [], _, n + 1, h => by rw [h.of_nil]; exact Reps.nil
  | d :: r, vs, n + 1, h => by
    obtain ⟨v, w, rfl, h1, h2⟩ := h.of_cons
    exact Reps.drop n h2
theorem Reps.set {d : D} {v : V} (r : Rep K b H d v) : ∀ {ds : List D} {vs : List V} (i : Nat), Reps K b H ds vs → Reps K b H (ds.set i d) (vs.set i v)
  | [], _, _, h => by rw [h.of_nil]; exact Reps.nil
  | e :: q, vs, 0, h => by
    obtain ⟨w, u, rfl, h1, h2⟩ := h.of_cons
    exact Reps.cons r h2
  | e :: q, vs, i + 1, h => by
    obtain ⟨w, u, rfl, h1, h2⟩ := h.of_cons
    exact Reps.cons h1 (Reps.set r i h2)
theorem Rep.int {i : Int} {v : V} (h : Rep K b H (.int i) v) : v = .int i := h
theorem Rep.bl {i : Bool} {v : V} (h : Rep K b H (.bl i) v) : v = .bl i := h
theorem Rep.str {i : Str} {v : V} (h : Rep K b H (.str i) v) : v = .str i := h
theorem Rep.cel {a : Addr} {v : V} (h : Rep K b H (.cel a) v) : v = .ref a := h
theorem Rep.non {v : V} (h : Rep K b H .non v) : v = .non := h
theorem Rep.tup {ds : List D} {v : V} (h : Rep K b H (.tup ds) v) : ∃ a vs, v = .ref a ∧ some a ≠ b ∧ SqT K H a vs ∧ Reps K b H ds vs := by simpa only [Rep] using h
theorem Rep.lst {ds : List D} {v : V} (h : Rep K b H (.lst ds) v) : ∃ a vs, v = .ref a ∧ some a ≠ b ∧ SqL K H a vs ∧ Reps K b H ds vs := by
  simp only [Rep] at h
  obtain ⟨a, vs, e, n, q, r⟩ := h
  exact ⟨a, vs, e, n, q.l, r⟩
theorem Rep.frl {a : Addr} {ds : List D} {v : V} (h : Rep K b H (.frl a ds) v) : ∃ o vs, v = .ref a ∧ some a ≠ b ∧ H a = some (.frz o (.lst vs)) ∧ Reps K b H ds vs := by simpa only [Rep] using h
theorem Rep.frd {ks : List Key} {ds : List D} {v : V} (h : Rep K b H (.frd ks ds) v) : ∃ a vs, v = .ref a ∧ some a ≠ b ∧ H a = some (.dK (ks.zip vs)) ∧ ks.length = vs.length ∧ Reps K b H ds vs := by simpa only [Rep] using h
theorem Rep.exc {c : Str} {ns : List Str} {ds : List D} {v : V} (h : Rep K b H (.exc c ns ds) v) : ∃ a dx vs, v = .ref a ∧ some a ≠ b ∧ some dx ≠ b ∧ H a = some (exo a (He.ga K c) (some dx)) ∧ H dx = some (exd dx (ns.zip vs)) ∧ ns.length = vs.length ∧ Reps K b H ds vs := by simpa only [Rep] using h
theorem Rep.ins {c : Str} {ns : List Str} {ds : List D} {v : V} (h : Rep K b H (.ins c ns ds) v) : ∃ a dx vs, v = .ref a ∧ some a ≠ b ∧ H a = some (.ins (He.ga K c) dx (ns.zip vs)) ∧ ns.length = vs.length ∧ Reps K b H ds vs := by simpa only [Rep] using h
theorem Rep.mkTup {ds : List D} {a : Addr} {vs : List V} (hb : some a ≠ b) (h : SqT K H a vs) (r : Reps K b H ds vs) : Rep K b H (.tup ds) (.ref a) := by
  simp only [Rep]
  exact ⟨a, vs, rfl, hb, h, r⟩
theorem Rep.mkLst {ds : List D} {a : Addr} {vs : List V} (hb : some a ≠ b) (h : SqS K H a vs) (r : Reps K b H ds vs) : Rep K b H (.lst ds) (.ref a) := by
  simp only [Rep]
  exact ⟨a, vs, rfl, hb, h, r⟩
theorem Rep.mkIns {c : Str} {ns : List Str} {ds : List D} {a dx : Addr} {vs : List V} (hb : some a ≠ b) (h : H a = some (.ins (He.ga K c) dx (ns.zip vs))) (l : ns.length = vs.length) (r : Reps K b H ds vs) : Rep K b H (.ins c ns ds) (.ref a) := by
  simp only [Rep]
  exact ⟨a, dx, vs, rfl, hb, h, l, r⟩
end
/-! ### the frame's slots as data -/
inductive SD where
  | unset | sh (d : D) | own (ds : List D) | obj (a dx : Addr) (c : Str) (ns : List Str) (ds : List D) | owd (ks : List Key) (ds : List D) | ott (ks : List (List Key)) (ds : List D) | gho (a : Addr) (ds : List D)
abbrev StD := List SD
def look : StD → Nat → SD
  | [], _ => .unset
  | x :: _, 0 => x
  | _ :: r, n + 1 => look r n
def put : StD → Nat → SD → StD
  | [], _, _ => []
  | _ :: r, 0, y => y :: r
  | x :: r, n + 1, y => x :: put r n y
theorem put_length : ∀ (σ : StD) (i : Nat) (x : SD), (put σ i x).length = σ.length
  | [], _, _ => rfl
  | _ :: _, 0, _ => rfl
  | _ :: r, n + 1, y => by simp [put, put_length r n y]
theorem look_put : ∀ {σ : StD} {i : Nat} {x : SD} (j : Nat), i < σ.length → look (put σ i x) j = if j = i then x else look σ j
  | [], _, _, _, h => by simp at h
  | _ :: _, 0, _, 0, _ => by simp [put, look]
  | _ :: _, 0, _, j + 1, _ => by simp [put, look]
  | _ :: _, i + 1, _, 0, _ => by simp [put, look]
  | _ :: r, i + 1, x, j + 1, h => by
    have ih := look_put (σ := r) (i := i) (x := x) j (by simpa using h)
    simp only [put, look, ih, Nat.add_right_cancel_iff]
theorem look_out : ∀ {σ : StD} {i : Nat}, σ.length ≤ i → look σ i = .unset
  | [], _, _ => rfl
  | _ :: _, 0, h => by simp at h
  | _ :: r, i + 1, h => by simp only [look]; exact look_out (by simpa using h)
def SlotOk (K : Fg) (b : Option Addr) (O : List Addr) (H : Hp) : SD → Option V → Prop
  | .unset, _ => True
  | .sh d, x => ∃ v, x = some v ∧ Rep K b (hide O H) d v
  | .own ds, x => ∃ a vs, x = some (.ref a) ∧ a ∈ O ∧ H a = some (.lst vs) ∧ Reps K b (hide O H) ds vs
  | .obj a dx c ns ds, x => ∃ vs, x = some (.ref a) ∧ a ∈ O ∧ dx ∈ O ∧ H a = some (.ins (He.ga K c) dx (ns.zip vs)) ∧ H dx = some (.own a) ∧ ns.length = vs.length ∧ Reps K b (hide O H) ds vs
  | .owd ks ds, x => ∃ a vs, x = some (.ref a) ∧ a ∈ O ∧ H a = some (.dK (ks.zip vs)) ∧ Reps K b (hide O H) ds vs
  | .ott ks ds, x => ∃ a vs, x = some (.ref a) ∧ a ∈ O ∧ H a = some (.dT (ks.zip vs)) ∧ Reps K b (hide O H) ds vs
  | .gho a ds, _ => ∃ vs, a ∈ O ∧ H a = some (.lst vs) ∧ Reps K b (hide O H) ds vs
def Owns : SD → Option V → Addr → Prop
  | .own _, some (.ref a), c => c = a
  | .obj _ _ _ _ _, some (.ref a), c => c = a
  | .owd _ _, some (.ref a), c => c = a
  | .ott _ _, some (.ref a), c => c = a
  | .gho a _, _, c => c = a
  | _, _, _ => False
structure Rst (K : Fg) (b : Option Addr) (H0 : Hp) (σd : StD) (σ : L2.St) (H : Hp) (O : List Addr) : Prop where
  len : σd.length = σ.length
  slot : ∀ i, SlotOk K b O H (look σd i) (σ.getD i none)
  uniq : ∀ i j a, Owns (look σd i) (σ.getD i none) a → Owns (look σd j) (σ.getD j none) a → i = j
  nb : ∀ a ∈ O, some a ≠ b ∧ True ∧ Hid O H a
  le : Ext b H0 (hide O H)
  bg : Bg b (hide O H)
section
variable {K : Fg} {b : Option Addr} {H0 H H' : Hp} {σd : StD} {σ : L2.St} {O : List Addr}
theorem SlotOk.mono (x : Ext b H H') (nb : ∀ a ∈ O, some a ≠ b) : ∀ {s : SD} {v : Option V}, SlotOk K b O H s v → SlotOk K b O H' s v
  | .unset, _, _ => trivial
  | .sh d, _, ⟨v, e, r⟩ => ⟨v, e, r.mono (x.1.hide O)⟩
  | .own ds, _, ⟨a, vs, e, m, h, r⟩ => ⟨a, vs, e, m, x.1 _ _ (nb a m) h rfl, r.mono (x.1.hide O)⟩
  | .obj a dx c ns ds, _, ⟨vs, e, m, md, h, hd, l, r⟩ => ⟨vs, e, m, md, x.1 _ _ (nb a m) h rfl, x.1 _ _ (nb dx md) hd rfl, l, r.mono (x.1.hide O)⟩
  | .owd ks ds, _, ⟨a, vs, e, m, h, r⟩ => ⟨a, vs, e, m, x.1 _ _ (nb a m) h rfl, r.mono (x.1.hide O)⟩
  | .ott ks ds, _, ⟨a, vs, e, m, h, r⟩ => ⟨a, vs, e, m, x.1 _ _ (nb a m) h rfl, r.mono (x.1.hide O)⟩
  | .gho a ds, _, ⟨vs, m, h, r⟩ => ⟨vs, m, x.1 _ _ (nb a m) h rfl, r.mono (x.1.hide O)⟩
theorem Rst.hx (R : Rst K b H0 σd σ H O) (x : Ext b H H') : Ext b (hide O H) (hide O H') := x.hide fun a m => ⟨(R.nb a m).1, (R.nb a m).2.2⟩
theorem Rst.mono (R : Rst K b H0 σd σ H O) (x : Ext b H H') : Rst K b H0 σd σ H' O where
  len := R.len
  slot := fun i => (R.slot i).mono x fun a m => (R.nb a m).1
  uniq := R.uniq
  nb := fun a m => ⟨(R.nb a m).1, (R.nb a m).2.1, by
    obtain ⟨o, e, q⟩ := (R.nb a m).2.2
    refine ⟨o, x.1 a o (R.nb a m).1 e (by cases o <;> first | rfl | exact q.elim), ?_⟩
    cases o <;> first | exact q | (obtain ⟨q1, C, fs, q2⟩ := q; exact ⟨q1, C, fs, x.1 _ _ (R.nb _ q1).1 q2 rfl⟩)⟩
  le := R.le.trans (R.hx x)
  bg := R.bg.ext (R.hx x)
theorem Rst.free (R : Rst K b H0 σd σ H O) {p : Addr} (h : H p = none) : p ∉ O ∧ some p ≠ b := ⟨fun m => (R.nb p m).2.2.ne h, R.bg.ne (by unfold DL.hide; split; rfl; exact h)⟩
end
end DL
/-! DB -/
set_option Elab.async false
set_option linter.all false
set_option maxRecDepth 100000
set_option maxHeartbeats 4000000
/-! The judgements: an expression of the program, read as data. -/
namespace DL
open PySem PySem.Spec PyProof.Rows L2
variable [TabC]
abbrev GE := StD → (D → Prop) → Prop
abbrev GA := StD → (List D → Prop) → Prop
abbrev GT := StD → (Bool → Prop) → Prop
def Mn {α : Type} (g : StD → (α → Prop) → Prop) : Prop := ∀ σ k k', (∀ d, k d → k' d) → g σ k → g σ k'
section
variable (K : Fg) (b : Option Addr) (H0 : Hp)
/-- strong: what is read stands apart from the frame's own lists; weak: it stands in the heap -/
def LE (g : GE) : TE := fun σ H Q => ∃ σd O, Rst K b H0 σd σ H O ∧ g σd fun d => ∀ v H', Ext b H H' → Rep K b (hide O H') d v → Q v H'
def LT (g : GE) : TE := fun σ H Q => ∃ σd O, Rst K b H0 σd σ H O ∧ g σd fun d => ∀ v H', Ext b H H' → Rep K b H' d v → Q v H'
def LA (g : GA) : TA := fun σ H Q => ∃ σd O, Rst K b H0 σd σ H O ∧ g σd fun ds => ∀ vs H', Ext b H H' → Reps K b (hide O H') ds vs → Q vs H'
def LAT (g : GA) : TA := fun σ H Q => ∃ σd O, Rst K b H0 σd σ H O ∧ g σd fun ds => ∀ vs H', Ext b H H' → Reps K b H' ds vs → Q vs H'
def LB (g : GT) : TT := fun σ H Q => ∃ σd O, Rst K b H0 σd σ H O ∧ g σd fun c => ∀ H', Ext b H H' → Q c H'
end
structure DE (b : Option Addr) (H0 : Hp) (X : Cx) (e : Expr) (g : GE) : Prop where
  pe : PE X e (LE X.K b H0 g)
  mn : Mn g
structure DT (b : Option Addr) (H0 : Hp) (X : Cx) (e : Expr) (g : GE) : Prop where
  pe : PE X e (LT X.K b H0 g)
  mn : Mn g
structure DAr (b : Option Addr) (H0 : Hp) (X : Cx) (es : List Expr) (g : GA) : Prop where
  pa : PA X es (LA X.K b H0 g)
  mn : Mn g
structure DAT (b : Option Addr) (H0 : Hp) (X : Cx) (es : List Expr) (g : GA) : Prop where
  pa : PA X es (LAT X.K b H0 g)
  mn : Mn g
structure DB (b : Option Addr) (H0 : Hp) (X : Cx) (e : Expr) (g : GT) : Prop where
  pt : PT X e (LB X.K b H0 g)
  mn : Mn g
structure DW (b : Option Addr) (H0 : Hp) (X : Cx) (e : Expr) (g : GT) : Prop where
  pw : PW X e (LB X.K b H0 g)
  mn : Mn g
section
variable {X : Cx} {b : Option Addr} {H0 : Hp}
theorem pe_imp {e : Expr} {t t' : TE} (h : PE X e t) (i : ∀ σ H Q, t' σ H Q → t σ H Q) : PE X e t' := ⟨fun pins s σ H Q I q => h.run pins s σ H Q I (i σ H Q q)⟩
theorem pt_imp {e : Expr} {t t' : TT} (h : PT X e t) (i : ∀ σ H Q, t' σ H Q → t σ H Q) : PT X e t' := ⟨fun pins s σ H Q I q => h.run pins s σ H Q I (i σ H Q q)⟩
theorem pw_imp {e : Expr} {t t' : TT} (h : PW X e t) (i : ∀ σ H Q, t' σ H Q → t σ H Q) : PW X e t' := ⟨fun wh pins s σ H Q I q => h.run wh pins s σ H Q I (i σ H Q q)⟩
theorem pa_imp {e : List Expr} {t t' : TA} (h : PA X e t) (i : ∀ σ H Q, t' σ H Q → t σ H Q) : PA X e t' := ⟨fun pos pins s σ H Q I q => h.run pos pins s σ H Q I (i σ H Q q)⟩
theorem DE.dt {e : Expr} {g : GE} (h : DE b H0 X e g) : DT b H0 X e g := ⟨pe_imp h.pe fun σ H Q ⟨σd, O, R, q⟩ => ⟨σd, O, R, h.mn _ _ _ (fun d k v H' x r => k v H' x (r.mono hide_le)) q⟩, h.mn⟩
theorem DAr.dt {e : List Expr} {g : GA} (h : DAr b H0 X e g) : DAT b H0 X e g := ⟨pa_imp h.pa fun σ H Q ⟨σd, O, R, q⟩ => ⟨σd, O, R, h.mn _ _ _ (fun d k v H' x r => k v H' x (r.mono hide_le)) q⟩, h.mn⟩
/-- one of two readings -/
theorem DE.or {e : Expr} {g1 g2 : GE} (h1 : DE b H0 X e g1) (h2 : DE b H0 X e g2) : DE b H0 X e (fun σ k => g1 σ k ∨ g2 σ k) := ⟨⟨fun pins s σ H Q I ⟨σd, O, R, q⟩ => by
  rcases q with q | q
  · exact h1.pe.run pins s σ H Q I ⟨σd, O, R, q⟩
  · exact h2.pe.run pins s σ H Q I ⟨σd, O, R, q⟩⟩, fun σ k k' i q => q.imp (h1.mn σ k k' i) (h2.mn σ k k' i)⟩
theorem DE.imp {e : Expr} {g g' : GE} (h : DE b H0 X e g) (i : ∀ σ k, g' σ k → g σ k) (m : Mn g') : DE b H0 X e g' := ⟨pe_imp h.pe fun σ H Q ⟨σd, O, R, q⟩ => ⟨σd, O, R, i _ _ q⟩, m⟩
/-! ### names, constants -/
def gVar (i : Nat) : GE := fun σ k => match look σ i with | .sh d => k d | _ => False
def gVarT (i : Nat) : GE := fun σ k => match look σ i with | .sh d => k d | .own ds => k (.lst ds) | .obj _ _ c ns ds => k (.ins c ns ds) | .owd _ _ => False | .ott _ _ => False | .gho _ _ => False | .unset => False
def gC (d : D) : GE := fun _ k => k d
theorem gVar_mn (i : Nat) : Mn (gVar i) := fun σ k k' h q => by
  unfold gVar at q ⊢
  cases e : look σ i <;> rw [e] at q <;> first | exact h _ q | exact q.elim
theorem gVarT_mn (i : Nat) : Mn (gVarT i) := fun σ k k' h q => by
  unfold gVarT at q ⊢
  cases e : look σ i <;> rw [e] at q <;> first | exact h _ q | exact ⟨q.1, h _ q.2⟩ | exact q.elim
theorem getD_some {σ : L2.St} {i : Nat} {v : V} (h : σ.getD i none = some v) : σ[i]? = some (some v) := by
  rw [List.getD_eq_getElem?_getD] at h
  cases e : σ[i]? with
  | none => rw [e] at h; cases h
  | some x => rw [e] at h; simp at h; rw [h]
theorem de_var (i : Nat) {x : Str} {pos : Pos} (hN : X.N[i]? = some x := by rfl) (hv : Vis X.env.scope x := by first | exact Or.inl rfl | exact Or.inr (Or.inl rfl) | exact Or.inr (Or.inr rfl)) (hd : (x == ("__debug__" : Str)) = false := by decide)
    (hcd : (x == ("__classdict__" : Str)) = false := by decide) : DE b H0 X (.Name x pos) (gVar i) := ⟨pe_imp (pe_var hN hv hd hcd) fun σ H Q ⟨σd, O, R, q⟩ => by
  have s := R.slot i
  unfold gVar at q
  cases e : look σd i with
  | sh d =>
    rw [e] at q s
    obtain ⟨v, e1, r⟩ := s
    exact ⟨v, getD_some e1, q v H (.refl H) r⟩
  | unset => rw [e] at q; exact q.elim
  | own ds => rw [e] at q; exact q.elim
  | gho a ds => rw [e] at q; exact q.elim
  | owd ks ds => rw [e] at q; exact q.elim
  | ott ks ds => rw [e] at q; exact q.elim
  | obj a dx c ns ds => rw [e] at q; exact q.elim, gVar_mn i⟩
theorem dt_var (i : Nat) {x : Str} {pos : Pos} (hN : X.N[i]? = some x := by rfl) (hv : Vis X.env.scope x := by first | exact Or.inl rfl | exact Or.inr (Or.inl rfl) | exact Or.inr (Or.inr rfl)) (hd : (x == ("__debug__" : Str)) = false := by decide)
    (hcd : (x == ("__classdict__" : Str)) = false := by decide) : DT b H0 X (.Name x pos) (gVarT i) := ⟨pe_imp (pe_var hN hv hd hcd) fun σ H Q ⟨σd, O, R, q⟩ => by
  have s := R.slot i
  unfold gVarT at q
  cases e : look σd i with
  | sh d =>
    rw [e] at q s
    obtain ⟨v, e1, r⟩ := s
    exact ⟨v, getD_some e1, q v H (.refl H) (r.mono hide_le)⟩
  | unset => rw [e] at q; exact q.elim
  | own ds =>
    rw [e] at q s
    obtain ⟨a, vs, e1, m, h, r⟩ := s
    exact ⟨.ref a, getD_some e1, q _ H (.refl H) (Rep.mkLst (R.nb a m).1 (.inl (.inl h)) (r.mono hide_le))⟩
  | obj a dx c ns ds =>
    rw [e] at q s
    obtain ⟨vs, e1, m, _, h, _, l, r⟩ := s
    exact ⟨.ref a, getD_some e1, q _ H (.refl H) (Rep.mkIns (R.nb a m).1 h l (r.mono hide_le))⟩
  | gho a ds => rw [e] at q; exact q.elim
  | owd ks ds => rw [e] at q; exact q.elim
  | ott ks ds => rw [e] at q; exact q.elim, gVarT_mn i⟩
theorem de_c {e : Expr} {d : D} {v : V} (h : PE X e (tC v)) (r : ∀ K H, Rep K b H d v) : DE b H0 X e (gC d) := ⟨pe_imp h fun σ H Q ⟨σd, O, R, q⟩ => q v H (.refl H) (r _ _), fun σ k k' h q => h _ q⟩
theorem de_int {i j pos} : DE b H0 X (.Constant (.int i) j pos) (gC (.int i)) := de_c pe_int fun _ _ => rfl
theorem de_bl {i j pos} : DE b H0 X (.Constant (.bool i) j pos) (gC (.bl i)) := de_c pe_bl fun _ _ => rfl
theorem de_non {j pos} : DE b H0 X (.Constant .none j pos) (gC .non) := de_c pe_non fun _ _ => rfl
theorem de_str {x j pos} : DE b H0 X (.Constant (.str x) j pos) (gC (.str x)) := de_c pe_str fun _ _ => rfl
/-- a module's constant -/
theorem de_gint {x : Str} {i : Int} {t : Tok} {pos : Pos} (hg : Gl X x) (hm : X.mg x = some (.int i t)) (hd : (x == ("__debug__" : Str)) = false := by decide) : DE b H0 X (.Name x pos) (gC (.int i)) := de_c (pe_glob (v := .int i) hg hm ⟨t, rfl⟩ hd) fun _ _ => rfl
/-! ### two operands, one -/
/-- what a two-place rule on values does, as data -/
structure Op2 (K : Fg) (b : Option Addr) (r : R2) (rd : D → D → (D → Prop) → Prop) : Prop where
  mn : ∀ x y (k k' : D → Prop), (∀ d, k d → k' d) → rd x y k → rd x y k'
  ok : ∀ (O : List Addr) (H : Hp) (dx dy : D) (x y : V) (Q : VK), (∀ p, H p = none → p ∉ O ∧ some p ≠ b) → Rep K b H dx x → Rep K b H dy y → rd dx dy (fun d => ∀ v H', Ext b H H' → Rep K b (hide O H') d v → Q v H') → r x y H Q
structure Op1 (K : Fg) (b : Option Addr) (r : V → Hp → VK → Prop) (rd : D → (D → Prop) → Prop) : Prop where
  mn : ∀ x (k k' : D → Prop), (∀ d, k d → k' d) → rd x k → rd x k'
  ok : ∀ (O : List Addr) (H : Hp) (dx : D) (x : V) (Q : VK), (∀ p, H p = none → p ∉ O ∧ some p ≠ b) → Rep K b H dx x → rd dx (fun d => ∀ v H', Ext b H H' → Rep K b (hide O H') d v → Q v H') → r x H Q
/-- the result leans on what was handed in: strong operands, a strong result -/
structure Op2S (K : Fg) (b : Option Addr) (r : R2) (rd : D → D → (D → Prop) → Prop) : Prop where
  mn : ∀ x y (k k' : D → Prop), (∀ d, k d → k' d) → rd x y k → rd x y k'
  ok : ∀ (O : List Addr) (H : Hp) (dx dy : D) (x y : V) (Q : VK), (∀ p, H p = none → p ∉ O ∧ some p ≠ b) → Rep K b (hide O H) dx x → Rep K b (hide O H) dy y → rd dx dy (fun d => ∀ v H', Ext b H H' → Rep K b (hide O H') d v → Q v H') → r x y H Q
def g2 (rd : D → D → (D → Prop) → Prop) (ga gb : GE) : GE := fun σ k => ga σ fun x => gb σ fun y => rd x y k
def g1 (rd : D → (D → Prop) → Prop) (ga : GE) : GE := fun σ k => ga σ fun x => rd x k
theorem g2_mn {rd : D → D → (D → Prop) → Prop} {ga gb : GE} (h : ∀ x y (k k' : D → Prop), (∀ d, k d → k' d) → rd x y k → rd x y k') (A : Mn ga) (B : Mn gb) : Mn (g2 rd ga gb) := fun σ k k' i q => A _ _ _ (fun x hx => B _ _ _ (fun y hy => h x y k k' i hy) hx) q
theorem g1_mn {rd : D → (D → Prop) → Prop} {ga : GE} (h : ∀ x (k k' : D → Prop), (∀ d, k d → k' d) → rd x k → rd x k') (A : Mn ga) : Mn (g1 rd ga) := fun σ k k' i q => A _ _ _ (fun x hx => h x k k' i hx) q
theorem Op2.imp {K : Fg} {r : R2} {rd rd' : D → D → (D → Prop) → Prop} (o : Op2 K b r rd) (i : ∀ x y k, rd' x y k → rd x y k) (m : ∀ x y (k k' : D → Prop), (∀ d, k d → k' d) → rd' x y k → rd' x y k') : Op2 K b r rd' := ⟨m, fun O H dx dy x y Q n r1 r2 q => o.ok O H dx dy x y Q n r1 r2 (i _ _ _ q)⟩
theorem bin_ok {r : R2} {rd : D → D → (D → Prop) → Prop} {ga gb : GE} (o : Op2 X.K b r rd) (ma : Mn ga) (mb : Mn gb) (σ : L2.St) (H : Hp) (Q : VK) (h : LE X.K b H0 (g2 rd ga gb) σ H Q) : tOp r (LT X.K b H0 ga) (LT X.K b H0 gb) σ H Q := by
  obtain ⟨σd, O, R, q⟩ := h
  refine ⟨σd, O, R, ma _ _ _ (fun x hx v1 H1 x1 r1 => ?_) q⟩
  refine ⟨σd, O, R.mono x1, mb _ _ _ (fun y hy v2 H2 x2 r2 => ?_) hx⟩
  exact o.ok O H2 x y v1 v2 Q (fun p hp => (R.mono (x1.trans x2)).free hp) (r1.mono x2.1) r2 (o.mn _ _ _ _ (fun d kd v H' x3 r3 => kd v H' (x1.trans (x2.trans x3)) r3) hy)
theorem binS_ok {r : R2} {rd : D → D → (D → Prop) → Prop} {ga gb : GE} (o : Op2S X.K b r rd) (ma : Mn ga) (mb : Mn gb) (σ : L2.St) (H : Hp) (Q : VK) (h : LE X.K b H0 (g2 rd ga gb) σ H Q) : tOp r (LE X.K b H0 ga) (LE X.K b H0 gb) σ H Q := by
  obtain ⟨σd, O, R, q⟩ := h
  refine ⟨σd, O, R, ma _ _ _ (fun x hx v1 H1 x1 r1 => ?_) q⟩
  refine ⟨σd, O, R.mono x1, mb _ _ _ (fun y hy v2 H2 x2 r2 => ?_) hx⟩
  exact o.ok O H2 x y v1 v2 Q (fun p hp => (R.mono (x1.trans x2)).free hp) (r1.mono (x2.1.hide O)) r2 (o.mn _ _ _ _ (fun d kd v H' x3 r3 => kd v H' (x1.trans (x2.trans x3)) r3) hy)
theorem un_ok {r : V → Hp → VK → Prop} {rd : D → (D → Prop) → Prop} {ga : GE} (o : Op1 X.K b r rd) (ma : Mn ga) (σ : L2.St) (H : Hp) (Q : VK) (h : LE X.K b H0 (g1 rd ga) σ H Q) : tUn r (LT X.K b H0 ga) σ H Q := by
  obtain ⟨σd, O, R, q⟩ := h
  refine ⟨σd, O, R, ma _ _ _ (fun x hx v1 H1 x1 r1 => ?_) q⟩
  exact o.ok O H1 x v1 Q (fun p hp => (R.mono x1).free hp) r1 (o.mn _ _ _ (fun d kd v H' x3 r3 => kd v H' (x1.trans x3) r3) hx)
section
variable {a c : Expr} {ga gb : GE} {pos : Pos}
theorem de_op {op : Operator} {r : R2} {rd : D → D → (D → Prop) → Prop} (ho : OpR X (binaryOp op) r) (o : Op2 X.K b r rd) (A : DT b H0 X a ga) (B : DT b H0 X c gb) : DE b H0 X (.BinOp a op c pos) (g2 rd ga gb) :=
  ⟨pe_imp (pe_op ho A.pe B.pe) fun σ H Q h => bin_ok o A.mn B.mn σ H Q h, g2_mn o.mn A.mn B.mn⟩
theorem de_opS {op : Operator} {r : R2} {rd : D → D → (D → Prop) → Prop} (ho : OpR X (binaryOp op) r) (o : Op2S X.K b r rd) (A : DE b H0 X a ga) (B : DE b H0 X c gb) : DE b H0 X (.BinOp a op c pos) (g2 rd ga gb) :=
  ⟨pe_imp (pe_op ho A.pe B.pe) fun σ H Q h => binS_ok o A.mn B.mn σ H Q h, g2_mn o.mn A.mn B.mn⟩
theorem de_un {op : UnaryOp} {r : V → Hp → VK → Prop} {rd : D → (D → Prop) → Prop} (ho : UnR X (unaryOp op) r) (o : Op1 X.K b r rd) (A : DT b H0 X a ga) : DE b H0 X (.UnaryOp op a pos) (g1 rd ga) :=
  ⟨pe_imp (pe_un ho A.pe) fun σ H Q h => un_ok o A.mn σ H Q h, g1_mn o.mn A.mn⟩
theorem de_cmp {op : CmpOp} {r : R2} {rd : D → D → (D → Prop) → Prop} (ho : OpR X (compareOp op) r) (o : Op2 X.K b r rd) (A : DT b H0 X a ga) (B : DT b H0 X c gb) (hm : behindInMarks op c = false := by first | exact nomark _ (by decide) (by decide) | rfl) : DE b H0 X (.Compare a [op] [c] pos) (g2 rd ga gb) :=
  ⟨pe_imp (pe_cmpR ho A.pe B.pe hm) fun σ H Q h => bin_ok o A.mn B.mn σ H Q h, g2_mn o.mn A.mn B.mn⟩
/-- a value that is a bool, as a test -/
def gB (g : GE) : GT := fun σ k => g σ fun d => match d with | .bl c => k c | _ => False
theorem gB_mn {g : GE} (h : Mn g) : Mn (gB g) := fun σ k k' i q => h _ _ _ (fun d hd => by cases d <;> first | exact i _ hd | exact hd.elim) q
theorem lb_of {g : GE} (m : Mn g) {σ : L2.St} {H : Hp} {Q : Bool → Hp → Prop} (h : LB X.K b H0 (gB g) σ H Q) : LT X.K b H0 g σ H fun x H' => ∃ k, x = .bl k ∧ Q k H' := by
  obtain ⟨σd, O, R, q⟩ := h
  refine ⟨σd, O, R, m _ _ _ (fun d hd v H' x r => ?_) q⟩
  cases d <;> first | exact ⟨_, r, hd H' x⟩ | exact hd.elim
theorem db_cmp {op : CmpOp} {r : R2} {rd : D → D → (D → Prop) → Prop} (ho : OpR X (compareOp op) r) (o : Op2 X.K b r rd) (A : DT b H0 X a ga) (B : DT b H0 X c gb) (hm : behindInMarks op c = false := by first | exact nomark _ (by decide) (by decide) | rfl) : DB b H0 X (.Compare a [op] [c] pos) (gB (g2 rd ga gb)) := by
  refine ⟨pt_imp (pt_cmpR ho A.pe B.pe hm) fun σ H Q h => ?_, gB_mn (g2_mn o.mn A.mn B.mn)⟩
  obtain ⟨σd, O, R, q⟩ := h
  refine bin_ok (H0 := H0) o A.mn B.mn σ H _ ⟨σd, O, R, g2_mn o.mn A.mn B.mn _ _ _ (fun d hd v H' x r => ?_) q⟩
  cases d <;> first | exact ⟨_, r, hd H' x⟩ | exact hd.elim
theorem db_val {e : Expr} {g : GE} (h : DT b H0 X e g) (he : ∀ whole, isTrue e X.env whole = (do let v ← whole; standAt e.pos; holding [v] (truthy v)) := by intro _; rfl) : DB b H0 X e (gB g) :=
  ⟨pt_imp (pt_val h.pe he) fun σ H Q q => lb_of h.mn q, gB_mn h.mn⟩
end
/-! ### and, or, not, if -/
section
variable {a c e : Expr} {rest : List Expr} {ga gb : GE} {t u : GT} {pos : Pos}
def gAnd (t u : GT) : GT := fun σ k => t σ fun x => match x with | true => u σ k | false => k false
def gOr (t u : GT) : GT := fun σ k => t σ fun x => match x with | true => k true | false => u σ k
def gNot (t : GT) : GT := fun σ k => t σ fun x => k (!x)
theorem gOr_mn (A : Mn t) (B : Mn u) : Mn (gOr t u) := fun σ k k' i q => A _ _ _ (fun x hx => by cases x; exact B _ _ _ i hx; exact i _ hx) q
theorem DW.db (h : DW b H0 X e t) : DB b H0 X e t := ⟨h.pw.pt, h.mn⟩
theorem dw_or1 (h : DB b H0 X a t) : DW b H0 X (.BoolOp .Or [a] pos) t := ⟨pw_or1 h.pt, h.mn⟩
theorem dw_or (A : DB b H0 X a t) (B : DW b H0 X (.BoolOp .Or (c :: rest) pos) u) : DW b H0 X (.BoolOp .Or (a :: c :: rest) pos) (gOr t u) := by
  refine ⟨pw_imp (pw_or A.pt B.pw) fun σ H Q ⟨σd, O, R, q⟩ => ?_, gOr_mn A.mn B.mn⟩
  refine ⟨σd, O, R, A.mn _ _ _ (fun x hx H' x1 => ?_) q⟩
  cases x with
  | true => exact hx H' x1
  | false => exact ⟨σd, O, R.mono x1, B.mn _ _ _ (fun y hy H2 x2 => hy H2 (x1.trans x2)) hx⟩
theorem db_not (A : DB b H0 X a t) : DB b H0 X (.UnaryOp .Not a pos) (gNot t) :=
  ⟨pt_imp (pt_not A.pt) fun σ H Q ⟨σd, O, R, q⟩ => ⟨σd, O, R, A.mn _ _ _ (fun x hx H' x1 => hx H' x1) q⟩, fun σ k k' i q => A.mn _ _ _ (fun x hx => i _ hx) q⟩
/-- as values (bools) -/
def gAndV (ga gb : GE) : GE := fun σ k => ga σ fun x => match x with | .bl true => gb σ k | .bl false => k (.bl false) | _ => False
def gOrV (ga gb : GE) : GE := fun σ k => ga σ fun x => match x with | .bl true => k (.bl true) | .bl false => gb σ k | _ => False
def gNotV (ga : GE) : GE := fun σ k => ga σ fun x => match x with | .bl c => k (.bl (!c)) | _ => False
theorem de_one {op} (h : DE b H0 X a ga) : DE b H0 X (.BoolOp op [a] pos) ga := ⟨pe_one h.pe, h.mn⟩
theorem de_and (A : DT b H0 X a ga) (B : DE b H0 X (.BoolOp .And (c :: rest) pos) gb) : DE b H0 X (.BoolOp .And (a :: c :: rest) pos) (gAndV ga gb) := by
  refine ⟨pe_imp (pe_and A.pe B.pe) fun σ H Q ⟨σd, O, R, q⟩ => ?_, fun σ k k' i q => A.mn _ _ _ (fun x hx => ?_) q⟩
  · refine ⟨σd, O, R, A.mn _ _ _ (fun x hx v H' x1 r => ?_) q⟩
    cases x with
    | bl z =>
      cases z with
      | true => exact ⟨true, r, ⟨σd, O, R.mono x1, B.mn _ _ _ (fun y hy v2 H2 x2 r2 => hy v2 H2 (x1.trans x2) r2) hx⟩⟩
      | false => exact ⟨false, r, hx (.bl false) H' x1 rfl⟩
    | _ => exact hx.elim
  · cases x with
    | bl z => cases z; exact i _ hx; exact B.mn _ _ _ i hx
    | _ => exact hx.elim
theorem de_or (A : DT b H0 X a ga) (B : DE b H0 X (.BoolOp .Or (c :: rest) pos) gb) : DE b H0 X (.BoolOp .Or (a :: c :: rest) pos) (gOrV ga gb) := by
  refine ⟨pe_imp (pe_or A.pe B.pe) fun σ H Q ⟨σd, O, R, q⟩ => ?_, fun σ k k' i q => A.mn _ _ _ (fun x hx => ?_) q⟩
  · refine ⟨σd, O, R, A.mn _ _ _ (fun x hx v H' x1 r => ?_) q⟩
    cases x with
    | bl z =>
      cases z with
      | true => exact ⟨true, r, hx (.bl true) H' x1 rfl⟩
      | false => exact ⟨false, r, ⟨σd, O, R.mono x1, B.mn _ _ _ (fun y hy v2 H2 x2 r2 => hy v2 H2 (x1.trans x2) r2) hx⟩⟩
    | _ => exact hx.elim
  · cases x with
    | bl z => cases z; exact B.mn _ _ _ i hx; exact i _ hx
    | _ => exact hx.elim
theorem de_not (A : DT b H0 X a ga) : DE b H0 X (.UnaryOp .Not a pos) (gNotV ga) := by
  refine ⟨pe_imp (pe_not A.pe) fun σ H Q ⟨σd, O, R, q⟩ => ?_, fun σ k k' i q => A.mn _ _ _ (fun x hx => ?_) q⟩
  · refine ⟨σd, O, R, A.mn _ _ _ (fun x hx v H' x1 r => ?_) q⟩
    cases x with
    | bl z => exact ⟨z, r, hx (.bl (!z)) H' x1 rfl⟩
    | _ => exact hx.elim
  · cases x with
    | bl z => exact i _ hx
    | _ => exact hx.elim
def gIf (t : GT) (ga gb : GE) : GE := fun σ k => t σ fun x => match x with | true => ga σ k | false => gb σ k
theorem gIf_mn (T : Mn t) (A : Mn ga) (B : Mn gb) : Mn (gIf t ga gb) := fun σ k k' i q => T _ _ _ (fun x hx => by cases x; exact B _ _ _ i hx; exact A _ _ _ i hx) q
theorem de_if (T : DB b H0 X e t) (A : DE b H0 X a ga) (B : DE b H0 X c gb) : DE b H0 X (.IfExp e a c pos) (gIf t ga gb) := by
  refine ⟨pe_imp (pe_ifExp T.pt A.pe B.pe) fun σ H Q ⟨σd, O, R, q⟩ => ?_, gIf_mn T.mn A.mn B.mn⟩
  refine ⟨σd, O, R, T.mn _ _ _ (fun x hx H' x1 => ?_) q⟩
  cases x with
  | true => exact ⟨σd, O, R.mono x1, A.mn _ _ _ (fun y hy v2 H2 x2 r2 => hy v2 H2 (x1.trans x2) r2) hx⟩
  | false => exact ⟨σd, O, R.mono x1, B.mn _ _ _ (fun y hy v2 H2 x2 r2 => hy v2 H2 (x1.trans x2) r2) hx⟩
end
/-! ### arguments, displays -/
section
variable {e : Expr} {es : List Expr} {ge : GE} {g : GA} {pos : Pos}
def gNil : GA := fun _ k => k []
def gCons (ge : GE) (g : GA) : GA := fun σ k => ge σ fun d => g σ fun ds => k (d :: ds)
theorem gCons_mn (A : Mn ge) (B : Mn g) : Mn (gCons ge g) := fun σ k k' i q => A _ _ _ (fun x hx => B _ _ _ (fun y hy => i _ hy) hx) q
theorem da_nil : DAr b H0 X [] gNil := ⟨pa_imp pa_nil fun σ H Q ⟨σd, O, R, q⟩ => q [] H (.refl H) Reps.nil, fun σ k k' i q => i _ q⟩
theorem da_cons (A : DE b H0 X e ge) (B : DAr b H0 X es g) (hs : starEach (e :: es) X.env = (false, eval e X.env) :: starEach es X.env := by rfl) : DAr b H0 X (e :: es) (gCons ge g) := by
  refine ⟨pa_imp (pa_cons A.pe B.pa hs) fun σ H Q ⟨σd, O, R, q⟩ => ?_, gCons_mn A.mn B.mn⟩
  refine ⟨σd, O, R, A.mn _ _ _ (fun x hx v H1 x1 r1 => ?_) q⟩
  exact ⟨σd, O, R.mono x1, B.mn _ _ _ (fun y hy vs H2 x2 r2 => hy (v :: vs) H2 (x1.trans x2) (Reps.cons (r1.mono (x2.1.hide O)) r2)) hx⟩
theorem dat_nil : DAT b H0 X [] gNil := da_nil.dt
theorem dat_cons (A : DT b H0 X e ge) (B : DAT b H0 X es g) (hs : starEach (e :: es) X.env = (false, eval e X.env) :: starEach es X.env := by rfl) : DAT b H0 X (e :: es) (gCons ge g) := by
  refine ⟨pa_imp (pa_cons A.pe B.pa hs) fun σ H Q ⟨σd, O, R, q⟩ => ?_, gCons_mn A.mn B.mn⟩
  refine ⟨σd, O, R, A.mn _ _ _ (fun x hx v H1 x1 r1 => ?_) q⟩
  exact ⟨σd, O, R.mono x1, B.mn _ _ _ (fun y hy vs H2 x2 r2 => hy (v :: vs) H2 (x1.trans x2) (Reps.cons (r1.mono x2.1) r2)) hx⟩
/-- a display of at most so many items that the line holds them -/
def gTup (g : GA) : GE := fun σ k => g σ fun ds => ds.length ≤ 1000 ∧ k (.tup ds)
def gLst (g : GA) : GE := fun σ k => g σ fun ds => ds.length ≤ 1000 ∧ k (.lst ds)
theorem le_line {n : Nat} (h : n ≤ 1000) : n ≤ sizeLine := Nat.le_trans h (by decide)
theorem de_tup {x1} (A : DAr b H0 X es g) : DE b H0 X (.Tuple es x1 pos) (gTup g) := by
  refine ⟨pe_imp (pe_tup A.pa) fun σ H Q ⟨σd, O, R, q⟩ => ?_, fun σ k k' i q => A.mn _ _ _ (fun x hx => ⟨hx.1, i _ hx.2⟩) q⟩
  refine ⟨σd, O, R, A.mn _ _ _ (fun ds hd vs H1 x1 r1 => ?_) q⟩
  refine ⟨by rw [← r1.length]; exact le_line hd.1, fun p hp => ?_⟩
  obtain ⟨n1, n2⟩ := (R.mono x1).free hp
  refine hd.2 _ _ (x1.trans (.new hp)) ?_
  rw [hide_new n1]
  exact Rep.mkTup n2 (.inl (.inl upd_same)) (r1.mono (Le.new (hide_out n1 ▸ hp)))
theorem de_lst (A : DAr b H0 X es g) : DE b H0 X (.List es pos) (gLst g) := by
  refine ⟨pe_imp (pe_lst A.pa) fun σ H Q ⟨σd, O, R, q⟩ => ?_, fun σ k k' i q => A.mn _ _ _ (fun x hx => ⟨hx.1, i _ hx.2⟩) q⟩
  refine ⟨σd, O, R, A.mn _ _ _ (fun ds hd vs H1 x1 r1 => ?_) q⟩
  refine ⟨by rw [← r1.length]; exact le_line hd.1, fun p hp => ?_⟩
  obtain ⟨n1, n2⟩ := (R.mono x1).free hp
  refine hd.2 _ _ (x1.trans (.new hp)) ?_
  rw [hide_new n1]
  exact Rep.mkLst n2 (.inl (.inl upd_same)) (r1.mono (Le.new (hide_out n1 ▸ hp)))
end
end
end DL
/-! DC -/
set_option Elab.async false
set_option linter.all false
set_option maxRecDepth 100000
set_option maxHeartbeats 4000000
/-! Operations on data. -/
namespace DL
open PySem PySem.Spec PyProof.Rows L2
variable [TabC]
abbrev Fresh (b : Option Addr) (O : List Addr) (H : Hp) : Prop := ∀ p, H p = none → p ∉ O ∧ some p ≠ b
/-! ### ints -/
def dI (C : Int → Int → Prop) (f : Int → Int → D) : D → D → (D → Prop) → Prop := fun x y k => match x, y with | .int i, .int j => C i j ∧ k (f i j) | _, _ => False
def dI0 (f : Int → Int → D) : D → D → (D → Prop) → Prop := fun x y k => match x, y with | .int i, .int j => k (f i j) | _, _ => False
section
variable {K : Fg} {b : Option Addr}
theorem op2I {C : Int → Int → Prop} {f : Int → Int → V} {fd : Int → Int → D} (h : ∀ H i j, Rep K b H (fd i j) (f i j)) : Op2 K b (rI C f) (dI C fd) := by
  refine ⟨fun x y k k' i q => ?_, fun O H dx dy x y Q _ r1 r2 q => ?_⟩
  · cases x <;> cases y <;> first | exact ⟨q.1, i _ q.2⟩ | exact q.elim
  · cases dx <;> cases dy <;> first | exact ⟨_, _, r1.int, r2.int, q.1, q.2 _ H (.refl H) (h _ _ _)⟩ | exact q.elim
theorem op2I0 {f : Int → Int → V} {fd : Int → Int → D} (h : ∀ H i j, Rep K b H (fd i j) (f i j)) : Op2 K b (rI0 f) (dI0 fd) := by
  refine ⟨fun x y k k' i q => ?_, fun O H dx dy x y Q _ r1 r2 q => ?_⟩
  · cases x <;> cases y <;> first | exact i _ q | exact q.elim
  · cases dx <;> cases dy <;> first | exact ⟨_, _, r1.int, r2.int, q _ H (.refl H) (h _ _ _)⟩ | exact q.elim
end
def MulOk (i j : Int) : Prop := IntMulOk i j
def Sz (n : Nat) (i : Int) : Prop := i.natAbs < 2 ^ n
theorem MulOk.of {i j : Int} {m n : Nat} (hi : Sz m i) (hj : Sz n j) (h : m + n ≤ 900000) : MulOk i j := by
  refine CMulW.ok (wide_mul (a := m + 1) (b := n + 1) (Nat.lt_of_lt_of_le hi (Nat.pow_le_pow_right (by decide) (by omega))) (Nat.lt_of_lt_of_le hj (Nat.pow_le_pow_right (by decide) (by omega))) (by omega) (by omega) (by omega))
theorem MulOk.left {i j : Int} (h : -(2 ^ 64) < i ∧ i < 2 ^ 64) : MulOk i j := CMul.ok (.inl h)
theorem MulOk.right {i j : Int} (h : -(2 ^ 64) < j ∧ j < 2 ^ 64) : MulOk i j := CMul.ok (.inr h)
def DivOk (j : Int) : Prop := j ≠ 0 ∧ j.natAbs.log2 < 9000
theorem DivOk.of {j : Int} {n : Nat} (h : j ≠ 0) (hj : Sz n j) (hn : n ≤ 8000) : DivOk j := ⟨h, Nat.lt_of_lt_of_le (PySem.Flt.log2_lt_of (k := n + 1) (by omega) (Nat.lt_of_lt_of_le hj (Nat.pow_le_pow_right (by decide) (by omega)))) (by omega)⟩
abbrev dSub := dI0 fun i j => .int (i - j)
abbrev dDiv := dI (fun _ j => DivOk j) fun i j => .int (i.fdiv j)
abbrev dPow := dI CPow fun i j => .int (i ^ j.toNat)
abbrev dLt := dI0 fun i j => .bl (decide (i < j))
abbrev dLe := dI0 fun i j => .bl (decide (i ≤ j))
abbrev dGt := dI0 fun i j => .bl (decide (j < i))
section
variable {X : Cx} {b : Option Addr} {H0 : Hp} {a c : Expr} {ga gb : GE} {pos : Pos}
theorem op_mulOk : OpR X (binaryOp .Mult) (rI MulOk fun i j => .int (i * j)) := opI fun _ _ _ _ _ _ _ hc q => mul_int q hc
theorem op_divOk : OpR X (binaryOp .FloorDiv) (rI (fun _ j => DivOk j) fun i j => .int (i.fdiv j)) := opI fun i j _ _ _ _ _ hc q => floordiv_int hc.1 q (.inl (PyProof.noPylong_of_log2 hc.2))
theorem de_sub (A : DT b H0 X a ga) (B : DT b H0 X c gb) : DE b H0 X (.BinOp a .Sub c pos) (g2 dSub ga gb) := de_op op_sub (op2I0 fun _ _ _ => rfl) A B
theorem de_div (A : DT b H0 X a ga) (B : DT b H0 X c gb) : DE b H0 X (.BinOp a .FloorDiv c pos) (g2 dDiv ga gb) := de_op op_divOk (op2I fun _ _ _ => rfl) A B
def dNeg : D → (D → Prop) → Prop := fun x k => match x with | .int i => k (.int (-i)) | _ => False
theorem op1_neg : Op1 X.K b (rU fun i => .int (-i)) dNeg := by
  refine ⟨fun x k k' i q => ?_, fun O H dx x Q _ r q => ?_⟩
  · cases x <;> first | exact i _ q | exact q.elim
  · cases dx <;> first | exact ⟨_, r.int, q _ H (.refl H) rfl⟩ | exact q.elim
theorem de_neg (A : DT b H0 X a ga) : DE b H0 X (.UnaryOp .USub a pos) (g1 dNeg ga) := de_un un_neg op1_neg A
theorem db_lt (A : DT b H0 X a ga) (B : DT b H0 X c gb) : DB b H0 X (.Compare a [.Lt] [c] pos) (gB (g2 dLt ga gb)) := db_cmp op_lt (op2I0 fun _ _ _ => rfl) A B
theorem db_gt (A : DT b H0 X a ga) (B : DT b H0 X c gb) : DB b H0 X (.Compare a [.Gt] [c] pos) (gB (g2 dGt ga gb)) := db_cmp op_gt (op2I0 fun _ _ _ => rfl) A B
end
/-! ### == of scalars, and of data at any depth -/
mutual
def toPy : D → Option PyData
  | .non => some .none
  | .bl b => some (.bool b)
  | .int i => some (.int i)
  | .str x => some (.str x)
  | .tup ds => (toPys ds).map .tuple
  | .lst ds => (toPys ds).map .list
  | .dic _ _ => none
  | .ins _ _ _ => none
  | .bag => none
  | .clo _ => none
  | .frl _ _ => none
  | .frd _ _ => none
  | .exc _ _ _ => none
  | .cel _ => none
def toPys : List D → Option (List PyData)
  | [] => some []
  | d :: r => match toPy d, toPys r with
    | some p, some q => some (p :: q)
    | _, _ => none
end
section
variable {K : Fg} {b : Option Addr} {H : Hp}
mutual
theorem Rep.dp : ∀ {d : D} {v : V} {p : PyData}, Rep K b H d v → toPy d = some p → Dp K H v p
  | .non, _, _, h, e => by simp only [toPy, Option.some.injEq] at e; subst e; rw [h.non]; exact .non
  | .bl _, _, _, h, e => by simp only [toPy, Option.some.injEq] at e; subst e; rw [h.bl]; exact .bl _
  | .int _, _, _, h, e => by simp only [toPy, Option.some.injEq] at e; subst e; rw [h.int]; exact .int _
  | .str _, _, _, h, e => by simp only [toPy, Option.some.injEq] at e; subst e; rw [h.str]; exact .str _
  | .tup ds, _, _, h, e => by
    obtain ⟨a, vs, rfl, _, hs, r⟩ := h.tup
    simp only [toPy] at e
    cases q : toPys ds with
    | none => rw [q] at e; cases e
    | some ps => rw [q] at e; cases e; exact .tup hs (Reps.dp r q)
  | .lst ds, _, _, h, e => by
    obtain ⟨a, vs, rfl, _, hs, r⟩ := h.lst
    simp only [toPy] at e
    cases q : toPys ds with
    | none => rw [q] at e; cases e
    | some ps => rw [q] at e; cases e; exact .lst hs (Reps.dp r q)
  | .dic _ _, _, _, _, e => by simp only [toPy] at e; cases e
  | .ins _ _ _, _, _, _, e => by simp only [toPy] at e; cases e
  | .bag, _, _, _, e => by simp only [toPy] at e; cases e
  | .clo _, _, _, _, e => by simp only [toPy] at e; cases e
  | .frl _ _, _, _, _, e => by simp only [toPy] at e; cases e
  | .frd _ _, _, _, _, e => by simp only [toPy] at e; cases e
  | .exc _ _ _, _, _, _, e => by simp only [toPy] at e; cases e
  | .cel _, _, _, _, e => by simp only [toPy] at e; cases e
theorem Reps.dp : ∀ {ds : List D} {vs : List V} {ps : List PyData}, Reps K b H ds vs → toPys ds = some ps → DpAll K H vs ps
  | [], _, _, h, e => by simp only [toPys, Option.some.injEq] at e; subst e; rw [h.of_nil]; exact .nil
  | d :: r, vs, ps, h, e => by
    obtain ⟨v, q, rfl, h1, h2⟩ := h.of_cons
    simp only [toPys] at e
    cases e1 : toPy d with
    | none => rw [e1] at e; cases e
    | some p =>
      cases e2 : toPys r with
      | none => rw [e1, e2] at e; cases e
      | some qs => rw [e1, e2] at e; cases e; exact .cons (Rep.dp h1 e1) (Reps.dp h2 e2)
end
end
def dEq (neg : Bool) : D → D → (D → Prop) → Prop := fun x y k => match toPy x, toPy y with
  | some p, some q => SeqAt.shaped p = true ∧ SeqAt.shaped q = true ∧ k (.bl (if neg then !PyData.eqv p q else PyData.eqv p q))
  | _, _ => False
section
variable {X : Cx} {b : Option Addr} {H0 : Hp} {a c : Expr} {ga gb : GE} {pos : Pos}
theorem op2_eq : Op2 X.K b (rEqD X.K) (dEq false) := by
  refine ⟨fun x y k k' i q => ?_, fun O H dx dy x y Q _ r1 r2 q => ?_⟩
  · unfold dEq at q ⊢
    cases e1 : toPy x <;> cases e2 : toPy y <;> rw [e1, e2] at q <;> first | exact ⟨q.1, q.2.1, i _ q.2.2⟩ | exact q.elim
  · unfold dEq at q
    cases e1 : toPy dx <;> cases e2 : toPy dy <;> rw [e1, e2] at q <;> first | exact ⟨_, _, r1.dp e1, r2.dp e2, q.1, q.2.1, q.2.2 _ H (.refl H) rfl⟩ | exact q.elim
theorem op2_ne : Op2 X.K b (rNeD X.K) (dEq true) := by
  refine ⟨fun x y k k' i q => ?_, fun O H dx dy x y Q _ r1 r2 q => ?_⟩
  · unfold dEq at q ⊢
    cases e1 : toPy x <;> cases e2 : toPy y <;> rw [e1, e2] at q <;> first | exact ⟨q.1, q.2.1, i _ q.2.2⟩ | exact q.elim
  · unfold dEq at q
    cases e1 : toPy dx <;> cases e2 : toPy dy <;> rw [e1, e2] at q <;> first | exact ⟨_, _, r1.dp e1, r2.dp e2, q.1, q.2.1, q.2.2 _ H (.refl H) rfl⟩ | exact q.elim
/-- is None, is not None -/
def dIsN (neg : Bool) : D → (D → Prop) → Prop := fun x k => match x with | .non => k (.bl (!neg)) | .clo _ => False | _ => k (.bl neg)
def gIsN (neg : Bool) (ga : GE) : GE := fun σ k => ga σ fun x => dIsN neg x k
theorem rep_isN {K : Fg} {H : Hp} {d : D} {v : V} (h : Rep K b H d v) (k : D → Prop) (neg : Bool) (q : dIsN neg d k) : k (.bl (if neg then !decide (v = .non) else decide (v = .non))) := by
  cases d with
  | non => rw [h.non]; cases neg <;> exact q
  | bl x => rw [h.bl]; cases neg <;> exact q
  | int x => rw [h.int]; cases neg <;> exact q
  | str x => rw [h.str]; cases neg <;> exact q
  | tup x => obtain ⟨a, vs, rfl, _⟩ := h.tup; cases neg <;> exact q
  | lst x => obtain ⟨a, vs, rfl, _⟩ := h.lst; cases neg <;> exact q
  | dic x y => simp only [Rep] at h; obtain ⟨a, o, vs, rfl, _⟩ := h; cases neg <;> exact q
  | ins x y z => obtain ⟨a, dx, vs, rfl, _⟩ := h.ins; cases neg <;> exact q
  | frl x y => obtain ⟨a, vs, rfl, _⟩ := h.frl; cases neg <;> exact q
  | frd x y => obtain ⟨a, vs, rfl, _⟩ := h.frd; cases neg <;> exact q
  | exc x y z => obtain ⟨a, dx, vs, rfl, _⟩ := h.exc; cases neg <;> exact q
  | cel x => obtain rfl := h.cel; cases neg <;> exact q
  | bag => simp only [Rep] at h; obtain ⟨a, rfl, _⟩ := h; cases neg <;> exact q
  | clo _ => exact q.elim
theorem gIsN_mn {neg : Bool} (A : Mn ga) : Mn (gIsN neg ga) := fun σ k k' i q => A _ _ _ (fun x hx => by cases x <;> first | exact i _ hx | exact hx.elim) q
theorem de_isN {j pos'} (A : DT b H0 X a ga) : DE b H0 X (.Compare a [.Is] [.Constant .none j pos'] pos) (gIsN false ga) := ⟨pe_imp (pe_cmp (pc_isN A.pe) rfl) fun σ H Q ⟨σd, O, R, q⟩ => ⟨σd, O, R, A.mn _ _ _ (fun d hd v H' x r => rep_isN r (fun d => ∀ v H', Ext b H H' → Rep X.K b (hide O H') d v → Q v H') false hd _ _ x rfl) q⟩, gIsN_mn A.mn⟩
theorem db_isN {j pos'} (A : DT b H0 X a ga) : DB b H0 X (.Compare a [.Is] [.Constant .none j pos'] pos) (gB (gIsN false ga)) := ⟨pt_imp (pt_cmp (pc_isN A.pe) rfl) fun σ H Q ⟨σd, O, R, q⟩ => ⟨σd, O, R, A.mn _ _ _ (fun d hd v H' x r => by
  have z := rep_isN r (fun e => match e with | .bl c => ∀ H', Ext b H H' → Q c H' | _ => False) false hd
  exact ⟨_, rfl, z H' x⟩) q⟩, gB_mn (gIsN_mn A.mn)⟩
end
/-! ### texts, lists, tuples: +, items, len -/
theorem line_m {n : Nat} (h : n ≤ 1000000) : n ≤ sizeLine := Nat.le_trans h (by decide)
def rCatL (K : Fg) : R2 := fun x y H Q => ∃ l b xs zs, x = .ref l ∧ y = .ref b ∧ SqL K H l xs ∧ SqL K H b zs ∧ xs.length + zs.length ≤ sizeLine ∧ ∀ p, H p = none → Q (.ref p) (upd H p (.lst (xs ++ zs)))
section
variable {X : Cx} {b : Option Addr} {H0 : Hp} {a c : Expr} {ga gb : GE} {pos : Pos}
theorem op_catL : OpR X (binaryOp .Add) (rCatL X.K) := by
  intro pins s σ H x y v u Q I rx ry h
  obtain ⟨l, b, xs, zs, rfl, rfl, hH, hB, hz, q⟩ := h
  cases rx
  cases ry
  obtain ⟨its, r, p1, _⟩ := I.list hH
  obtain ⟨its2, r2, p2, _⟩ := I.list hB
  obtain ⟨⟨cls, dd, data, sl⟩, n, ho, hc, hdd, hd⟩ := p1
  obtain ⟨⟨cls2, dd2, data2, sl2⟩, n2, ho2, hc2, hdd2, hd2⟩ := p2
  simp only at hc hd hc2 hd2
  subst hc hd hc2 hd2
  have hz' : its.toArray.size + its2.toArray.size ≤ sizeLine := by
    rw [List.size_toArray, List.size_toArray, ← r.length, ← r2.length]; exact hz
  have e : its.toArray ++ its2.toArray = (its ++ its2).toArray := by simp
  refine concat_meets ⟨_, ho, rfl⟩ ⟨_, ho2, rfl⟩ noFill_list_add seq_list_add PySem.F.slot_list_add PySem.F.entry_list_add (PySem.F.args_list_add_2 _ _) (list_addW l b its.toArray its2.toArray n n2 dd dd2 sl sl2 hz') ⟨ho, ho2, ?_⟩
  rw [e]
  exact ⟨.ref _, _, I.lnew (t' := s.toks) (r.append r2) (by rw [List.length_append]; exact hz), rfl, q _ I.fresh⟩
theorem rep_newL {K : Fg} {O : List Addr} {H : Hp} {ds : List D} {vs : List V} {p : Addr} (F : Fresh b O H) (hp : H p = none) (r : Reps K b (hide O H) ds vs) : Rep K b (hide O (upd H p (.lst vs))) (.lst ds) (.ref p) := by
  obtain ⟨n1, n2⟩ := F p hp
  rw [hide_new n1]
  exact Rep.mkLst n2 (.inl (.inl upd_same)) (r.mono (Le.new (by rw [hide_out n1]; exact hp)))
theorem rep_newT {K : Fg} {O : List Addr} {H : Hp} {ds : List D} {vs : List V} {p : Addr} (F : Fresh b O H) (hp : H p = none) (r : Reps K b (hide O H) ds vs) : Rep K b (hide O (upd H p (.tup vs))) (.tup ds) (.ref p) := by
  obtain ⟨n1, n2⟩ := F p hp
  rw [hide_new n1]
  exact Rep.mkTup n2 (.inl (.inl upd_same)) (r.mono (Le.new (by rw [hide_out n1]; exact hp)))
/-- an item: of a list, a tuple, a text -/
def dIx : D → D → (D → Prop) → Prop := fun x y k => match x, y with
  | .frl _ ds, .int i => match atI ds i with | some d => k d | none => False
  | .lst ds, .int i => match atI ds i with | some d => k d | none => False
  | .tup ds, .int i => match atI ds i with | some d => k d | none => False
  | .str z, .int i => z.length ≤ 1000000 ∧ match atI z.cps.toList i with | some c => k (.str ⟨#[c]⟩) | none => False
  | _, _ => False
theorem atI_reps {K : Fg} {H : Hp} {ds : List D} {vs : List V} {i : Int} {d : D} (r : Reps K b H ds vs) (h : atI ds i = some d) : ∃ v, atI vs i = some v ∧ Rep K b H d v := by
  unfold atI at h ⊢
  rw [← r.length]
  cases e : ixN ds.length i with
  | none => rw [e] at h; cases h
  | some j => rw [e] at h; exact r.get h
theorem dIx_mn : ∀ x y (k k' : D → Prop), (∀ d, k d → k' d) → dIx x y k → dIx x y k' := by
  intro x y k k' i q
  cases x with
  | frl a ds =>
    cases y with
    | int j =>
      simp only [dIx] at q ⊢
      cases e : atI ds j <;> rw [e] at q <;> first | exact i _ q | exact q.elim
    | _ => exact q.elim
  | lst ds =>
    cases y with
    | int j =>
      simp only [dIx] at q ⊢
      cases e : atI ds j <;> rw [e] at q <;> first | exact i _ q | exact q.elim
    | _ => exact q.elim
  | tup ds =>
    cases y with
    | int j =>
      simp only [dIx] at q ⊢
      cases e : atI ds j <;> rw [e] at q <;> first | exact i _ q | exact q.elim
    | _ => exact q.elim
  | str z =>
    cases y with
    | int j =>
      simp only [dIx] at q ⊢
      refine ⟨q.1, ?_⟩
      have q := q.2
      cases e : atI z.cps.toList j <;> rw [e] at q <;> first | exact i _ q | exact q.elim
    | _ => exact q.elim
  | _ => cases y <;> exact q.elim
theorem ix_ok {K : Fg} {H Hh : Hp} {dx dy : D} {x y : V} {Q : VK} (le : Le b Hh H) (r1 : Rep K b Hh dx x) (r2 : Rep K b H dy y) (q : dIx dx dy (fun d => ∀ v H', Ext b H H' → (Rep K b Hh d v) → Q v H')) : rIx K x y H Q := by
  cases dx with
  | frl a ds =>
    cases dy with
    | int j =>
      simp only [dIx] at q
      obtain ⟨o, vs, rfl, n, h, r⟩ := r1.frl
      cases e : atI ds j with
      | none => rw [e] at q; exact q.elim
      | some d =>
        rw [e] at q
        obtain ⟨v, e2, rv⟩ := atI_reps r e
        exact .inl ⟨a, vs, j, v, rfl, r2.int, sqL_mono le n (.inl (.inr ⟨o, h⟩)), e2, q v H (.refl H) rv⟩
    | _ => exact q.elim
  | lst ds =>
    cases dy with
    | int j =>
      simp only [dIx] at q
      obtain ⟨a, vs, rfl, n, h, r⟩ := r1.lst
      cases e : atI ds j with
      | none => rw [e] at q; exact q.elim
      | some d =>
        rw [e] at q
        obtain ⟨v, e2, rv⟩ := atI_reps r e
        exact .inl ⟨a, vs, j, v, rfl, r2.int, sqL_mono le n h, e2, q v H (.refl H) rv⟩
    | _ => exact q.elim
  | tup ds =>
    cases dy with
    | int j =>
      simp only [dIx] at q
      obtain ⟨a, vs, rfl, n, h, r⟩ := r1.tup
      cases e : atI ds j with
      | none => rw [e] at q; exact q.elim
      | some d =>
        rw [e] at q
        obtain ⟨v, e2, rv⟩ := atI_reps r e
        exact .inr (.inl ⟨a, vs, j, v, rfl, r2.int, sqT_mono le n h, e2, q v H (.refl H) rv⟩)
    | _ => exact q.elim
  | str z =>
    cases dy with
    | int j =>
      simp only [dIx] at q
      obtain ⟨hz, q⟩ := q
      cases e : atI z.cps.toList j with
      | none => rw [e] at q; exact q.elim
      | some c =>
        rw [e] at q
        exact .inr (.inr ⟨z, j, c, r1.str, r2.int, line_m hz, e, q _ H (.refl H) rfl⟩)
    | _ => exact q.elim
  | _ => cases dy <;> exact q.elim
theorem de_ix (A : DE b H0 X a ga) (B : DT b H0 X c gb) (hs : PlainIx c := by exact fun _ _ => rfl) : DE b H0 X (.Subscript a c pos) (g2 dIx ga gb) := by
  refine ⟨pe_imp (pe_ix ix_seq A.pe B.pe hs) fun σ H Q ⟨σd, O, R, q⟩ => ?_, g2_mn dIx_mn A.mn B.mn⟩
  refine ⟨σd, O, R, A.mn _ _ _ (fun x hx v1 H1 x1 r1 => ?_) q⟩
  refine ⟨σd, O, R.mono x1, B.mn _ _ _ (fun y hy v2 H2 x2 r2 => ?_) hx⟩
  exact ix_ok hide_le (r1.mono (x2.1.hide O)) r2 (dIx_mn _ _ _ _ (fun d kd v H' x3 r3 => kd v H' (x1.trans (x2.trans x3)) (r3.mono (x3.1.hide O))) hy)
end
/-! ### built-in calls that hand back a scalar -/
/-- a built-in of one argument, weak -/
structure Cl1 (K : Fg) (b : Option Addr) (r : List V → Hp → VK → Prop) (rd : D → (D → Prop) → Prop) : Prop where
  mn : ∀ x (k k' : D → Prop), (∀ d, k d → k' d) → rd x k → rd x k'
  ok : ∀ (O : List Addr) (H : Hp) (dx : D) (x : V) (Q : VK), Fresh b O H → Rep K b H dx x → rd dx (fun d => ∀ v H', Ext b H H' → Rep K b (hide O H') d v → Q v H') → r [x] H Q
/-- strong -/
structure Cl1S (K : Fg) (b : Option Addr) (r : List V → Hp → VK → Prop) (rd : D → (D → Prop) → Prop) : Prop where
  mn : ∀ x (k k' : D → Prop), (∀ d, k d → k' d) → rd x k → rd x k'
  ok : ∀ (O : List Addr) (H : Hp) (dx : D) (x : V) (Q : VK), Fresh b O H → Rep K b (hide O H) dx x → rd dx (fun d => ∀ v H', Ext b H H' → Rep K b (hide O H') d v → Q v H') → r [x] H Q
section
variable {X : Cx} {b : Option Addr} {H0 : Hp} {a c : Expr} {ga gb : GE} {pos p : Pos} {x : Str} {id T : String} {r : List V → Hp → VK → Prop} {rd : D → (D → Prop) → Prop}
theorem cl1_run (o : Cl1 X.K b r rd) (A : DT b H0 X a ga) {σ : L2.St} {H : Hp} {Q : VK} (h : LE X.K b H0 (g1 rd ga) σ H Q) : tCB r (tCons (LT X.K b H0 ga) tNil) σ H Q := by
  obtain ⟨σd, O, R, q⟩ := h
  refine ⟨σd, O, R, A.mn _ _ _ (fun x hx v1 H1 x1 r1 => ?_) q⟩
  exact o.ok O H1 x v1 Q (fun p hp => (R.mono x1).free hp) r1 (o.mn _ _ _ (fun d kd v H' x3 r3 => kd v H' (x1.trans x3) r3) hx)
theorem cl1S_run (o : Cl1S X.K b r rd) (A : DE b H0 X a ga) {σ : L2.St} {H : Hp} {Q : VK} (h : LE X.K b H0 (g1 rd ga) σ H Q) : tCB r (tCons (LE X.K b H0 ga) tNil) σ H Q := by
  obtain ⟨σd, O, R, q⟩ := h
  refine ⟨σd, O, R, A.mn _ _ _ (fun x hx v1 H1 x1 r1 => ?_) q⟩
  exact o.ok O H1 x v1 Q (fun p hp => (R.mono x1).free hp) r1 (o.mn _ _ _ (fun d kd v H' x3 r3 => kd v H' (x1.trans x3) r3) hx)
theorem de_callB (hc : CallR X (.builtin id) r) (o : Cl1 X.K b r rd) (hg : Gl X x) (hm : X.mg x = none) (hv : bootBuiltins x = some (.builtin id)) (A : DT b H0 X a ga) (hn : x ≠ "__name__" := by decide) (hdb : (x == ("__debug__" : Str)) = false := by decide)
    (he : starEach [a] X.env = (false, eval a X.env) :: starEach [] X.env := by rfl) : DE b H0 X (.Call (.Name x p) [a] [] pos) (g1 rd ga) :=
  ⟨pe_imp (pe_callB hc hg hm hv (pa_cons A.pe pa_nil he) hn hdb he rfl) fun σ H Q h => cl1_run o A h, g1_mn o.mn A.mn⟩
theorem de_callBS (hc : CallR X (.builtin id) r) (o : Cl1S X.K b r rd) (hg : Gl X x) (hm : X.mg x = none) (hv : bootBuiltins x = some (.builtin id)) (A : DE b H0 X a ga) (hn : x ≠ "__name__" := by decide) (hdb : (x == ("__debug__" : Str)) = false := by decide)
    (he : starEach [a] X.env = (false, eval a X.env) :: starEach [] X.env := by rfl) : DE b H0 X (.Call (.Name x p) [a] [] pos) (g1 rd ga) :=
  ⟨pe_imp (pe_callB hc hg hm hv (pa_cons A.pe pa_nil he) hn hdb he rfl) fun σ H Q h => cl1S_run o A h, g1_mn o.mn A.mn⟩
theorem de_callTyS (hc : CallR X (.type T) r) (o : Cl1S X.K b r rd) (hg : Gl X x) (hm : X.mg x = none) (hv : bootBuiltins x = some (.type T)) (A : DE b H0 X a ga) (hn : x ≠ "__name__" := by decide) (hdb : (x == ("__debug__" : Str)) = false := by decide)
    (he : starEach [a] X.env = (false, eval a X.env) :: starEach [] X.env := by rfl) : DE b H0 X (.Call (.Name x p) [a] [] pos) (g1 rd ga) :=
  ⟨pe_imp (pe_callTy hc hg hm hv (pa_cons A.pe pa_nil he) hn hdb he rfl) fun σ H Q h => cl1S_run o A h, g1_mn o.mn A.mn⟩
end
def dAbs : D → (D → Prop) → Prop := fun x k => match x with | .int i => k (.int (if i < 0 then -i else i)) | _ => False
def dStrI : D → (D → Prop) → Prop := fun x k => match x with | .int i => i.natAbs.log2 < 1920 ∧ k (.str (toString i)) | _ => False
def dLen3 : D → (D → Prop) → Prop := fun x k => match x with | .lst ds => k (.int ds.length) | .tup ds => k (.int ds.length) | .frl _ ds => k (.int ds.length) | .str z => z.length ≤ 1000000 ∧ k (.int z.length) | _ => False
def dList : D → (D → Prop) → Prop := fun x k => match x with | .lst ds => k (.lst ds) | .tup ds => k (.lst ds) | .frl _ ds => k (.lst ds) | _ => False
def dTuple : D → (D → Prop) → Prop := fun x k => match x with | .lst ds => k (.tup ds) | .tup ds => k (.tup ds) | _ => False
/-- the ints of a list of them -/
def intsOf : List D → Option (List Int)
  | [] => some []
  | .int i :: r => (intsOf r).map (i :: ·)
  | _ :: _ => none
def blsOf : List D → Option (List Bool)
  | [] => some []
  | .bl i :: r => (blsOf r).map (i :: ·)
  | _ :: _ => none
def dSumI : D → (D → Prop) → Prop := fun x k => match x with | .lst ds => (match intsOf ds with | some ns => k (.int ns.sum) | none => False) | _ => False
def dAll : D → (D → Prop) → Prop := fun x k => match x with | .lst ds => (match blsOf ds with | some ns => k (.bl (ns.all id)) | none => False) | _ => False
def dAny : D → (D → Prop) → Prop := fun x k => match x with | .lst ds => (match blsOf ds with | some ns => k (.bl (ns.any id)) | none => False) | _ => False
section
variable {K : Fg} {b : Option Addr} {H : Hp}
theorem reps_ints : ∀ {ds : List D} {vs : List V} {ns : List Int}, Reps K b H ds vs → intsOf ds = some ns → vs = ns.map V.int
  | [], vs, ns, h, e => by simp only [intsOf, Option.some.injEq] at e; subst e; rw [h.of_nil]; rfl
  | d :: r, vs, ns, h, e => by
    obtain ⟨v, q, rfl, h1, h2⟩ := h.of_cons
    cases d with
    | int i =>
      simp only [intsOf] at e
      cases q2 : intsOf r with
      | none => rw [q2] at e; cases e
      | some ms => rw [q2] at e; cases e; rw [h1.int, reps_ints h2 q2]; rfl
    | _ => simp only [intsOf] at e; cases e
theorem reps_bls : ∀ {ds : List D} {vs : List V} {ns : List Bool}, Reps K b H ds vs → blsOf ds = some ns → vs = ns.map V.bl
  | [], vs, ns, h, e => by simp only [blsOf, Option.some.injEq] at e; subst e; rw [h.of_nil]; rfl
  | d :: r, vs, ns, h, e => by
    obtain ⟨v, q, rfl, h1, h2⟩ := h.of_cons
    cases d with
    | bl i =>
      simp only [blsOf] at e
      cases q2 : blsOf r with
      | none => rw [q2] at e; cases e
      | some ms => rw [q2] at e; cases e; rw [h1.bl, reps_bls h2 q2]; rfl
    | _ => simp only [blsOf] at e; cases e
end
section
variable {X : Cx} {b : Option Addr} {H0 : Hp} {a c : Expr} {ga gb : GE} {pos p : Pos}
theorem cl_abs : Cl1 X.K b (fun xs H Q => ∃ i, xs = [.int i] ∧ Q (.int (if i < 0 then -i else i)) H) dAbs := by
  refine ⟨fun x k k' i q => ?_, fun O H dx x Q F r q => ?_⟩
  · cases x <;> first | exact i _ q | exact q.elim
  · cases dx with
    | int i => exact ⟨i, by rw [r.int], q _ H (.refl H) rfl⟩
    | _ => exact q.elim
theorem cl_sumI : Cl1 X.K b (rSum X.K) dSumI := by
  refine ⟨fun x k k' i q => ?_, fun O H dx x Q F r q => ?_⟩
  · cases x with
    | lst ds => simp only [dSumI] at q ⊢; cases e : intsOf ds <;> rw [e] at q <;> first | exact i _ q | exact q.elim
    | _ => exact q.elim
  · cases dx with
    | lst ds =>
      simp only [dSumI] at q
      cases e : intsOf ds with
      | none => rw [e] at q; exact q.elim
      | some ns =>
        rw [e] at q
        obtain ⟨a, vs, rfl, n, h, s⟩ := r.lst
        have ev := reps_ints s e
        exact ⟨a, ns, rfl, ev ▸ h, q _ H (.refl H) rfl⟩
    | _ => exact q.elim
theorem cl_all : Cl1 X.K b (rAll X.K) dAll := by
  refine ⟨fun x k k' i q => ?_, fun O H dx x Q F r q => ?_⟩
  · cases x with
    | lst ds => simp only [dAll] at q ⊢; cases e : blsOf ds <;> rw [e] at q <;> first | exact i _ q | exact q.elim
    | _ => exact q.elim
  · cases dx with
    | lst ds =>
      simp only [dAll] at q
      cases e : blsOf ds with
      | none => rw [e] at q; exact q.elim
      | some ns =>
        rw [e] at q
        obtain ⟨a, vs, rfl, n, h, s⟩ := r.lst
        have ev := reps_bls s e
        exact ⟨a, ns, rfl, ev ▸ h, q _ H (.refl H) rfl⟩
    | _ => exact q.elim
theorem cl_any : Cl1 X.K b (rAny X.K) dAny := by
  refine ⟨fun x k k' i q => ?_, fun O H dx x Q F r q => ?_⟩
  · cases x with
    | lst ds => simp only [dAny] at q ⊢; cases e : blsOf ds <;> rw [e] at q <;> first | exact i _ q | exact q.elim
    | _ => exact q.elim
  · cases dx with
    | lst ds =>
      simp only [dAny] at q
      cases e : blsOf ds with
      | none => rw [e] at q; exact q.elim
      | some ns =>
        rw [e] at q
        obtain ⟨a, vs, rfl, n, h, s⟩ := r.lst
        have ev := reps_bls s e
        exact ⟨a, ns, rfl, ev ▸ h, q _ H (.refl H) rfl⟩
    | _ => exact q.elim
/-- list(xs), tuple(xs) -/
theorem cl_list : Cl1S X.K b (fun xs H Q => ∃ p ys, xs = [.ref p] ∧ (SqL X.K H p ys ∨ SqT X.K H p ys) ∧ ∀ l, H l = none → Q (.ref l) (upd H l (.lst ys))) dList := by
  refine ⟨fun x k k' i q => ?_, fun O H dx x Q F r q => ?_⟩
  · cases x <;> first | exact i _ q | exact q.elim
  · cases dx with
    | lst ds =>
      obtain ⟨a, vs, rfl, n, h, s⟩ := r.lst
      exact ⟨a, vs, rfl, .inl (sqL_mono hide_le n h), fun l hl => q _ _ (.new hl) (rep_newL F hl s)⟩
    | tup ds =>
      obtain ⟨a, vs, rfl, n, h, s⟩ := r.tup
      exact ⟨a, vs, rfl, .inr (sqT_mono hide_le n h), fun l hl => q _ _ (.new hl) (rep_newL F hl s)⟩
    | frl a ds =>
      obtain ⟨o, vs, rfl, n, h, s⟩ := r.frl
      exact ⟨a, vs, rfl, .inl (sqL_mono hide_le n (.inl (.inr ⟨o, h⟩))), fun l hl => q _ _ (.new hl) (rep_newL F hl s)⟩
    | _ => exact q.elim
theorem cl_tuple : Cl1S X.K b (fun xs H Q => ∃ p ys, xs = [.ref p] ∧ ((SqL X.K H p ys ∧ ∀ l, H l = none → Q (.ref l) (upd H l (.tup ys))) ∨ (SqT X.K H p ys ∧ Q (.ref p) H))) dTuple := by
  refine ⟨fun x k k' i q => ?_, fun O H dx x Q F r q => ?_⟩
  · cases x <;> first | exact i _ q | exact q.elim
  · cases dx with
    | lst ds =>
      obtain ⟨a, vs, rfl, n, h, s⟩ := r.lst
      exact ⟨a, vs, rfl, .inl ⟨sqL_mono hide_le n h, fun l hl => q _ _ (.new hl) (rep_newT F hl s)⟩⟩
    | tup ds =>
      obtain ⟨a, vs, rfl, n, h, s⟩ := r.tup
      exact ⟨a, vs, rfl, .inr ⟨sqT_mono hide_le n h, q _ H (.refl H) (Rep.mkTup n h s)⟩⟩
    | _ => exact q.elim
def rLen3 (K : Fg) : List V → Hp → VK → Prop := fun xs H Q => (∃ p ys, xs = [.ref p] ∧ (SqL K H p ys ∨ SqT K H p ys) ∧ Q (.int ys.length) H) ∨ (∃ z, xs = [.str z] ∧ z.length ≤ sizeLine ∧ Q (.int z.length) H)
theorem call_len3 : CallR X (.builtin "len") (rLen3 X.K) := by
  intro pins s σ H xs us Q I r h
  rcases h with h | h
  · exact call_len_seq pins s σ H xs us Q I r h
  · exact call_len_str pins s σ H xs us Q I r h
theorem cl_len : Cl1 X.K b (rLen3 X.K) dLen3 := by
  refine ⟨fun x k k' i q => ?_, fun O H dx x Q F r q => ?_⟩
  · cases x <;> first | exact i _ q | exact ⟨q.1, i _ q.2⟩ | exact q.elim
  · cases dx with
    | lst ds =>
      obtain ⟨a, vs, rfl, n, h, s⟩ := r.lst
      exact .inl ⟨a, vs, rfl, .inl h, by rw [← s.length]; exact q _ H (.refl H) rfl⟩
    | tup ds =>
      obtain ⟨a, vs, rfl, n, h, s⟩ := r.tup
      exact .inl ⟨a, vs, rfl, .inr h, by rw [← s.length]; exact q _ H (.refl H) rfl⟩
    | frl a ds =>
      obtain ⟨o, vs, rfl, n, h, s⟩ := r.frl
      exact .inl ⟨a, vs, rfl, .inl (.inl (.inr ⟨o, h⟩)), by rw [← s.length]; exact q _ H (.refl H) rfl⟩
    | str z => exact .inr ⟨z, by rw [r.str], line_m q.1, q.2 _ H (.refl H) rfl⟩
    | _ => exact q.elim
end
end DL
/-! DDc -/
set_option Elab.async false
set_option linter.all false
set_option maxRecDepth 100000
set_option maxHeartbeats 4000000
/-! Calls: a def's promise over data; what the caller owns is framed. -/
namespace DL
open PySem PySem.Spec PyProof.Rows L2
variable [TabC]
/-- an error of the program's own, as data -/
structure XD where
  c : Str
  ns : List Str
  ds : List D
def XAt (K : Fg) (b : Option Addr) (H : Hp) (x : XD) (cls : Value) (d : Option Addr) : Prop := cls = .ref (He.ga K x.c) ∧ ∃ da vs, d = some da ∧ H da = some (.xd (x.ns.zip vs)) ∧ x.ns.length = vs.length ∧ Reps K b H x.ds vs
abbrev GS := List D → (D → Prop) → (XD → Prop) → Prop
def MnS (s : GS) : Prop := ∀ ds k k' e e', (∀ d, k d → k' d) → (∀ x, e x → e' x) → s ds k e → s ds k' e'
def lift (K : Fg) (s : GS) : Sp := fun vs H Q E => ∃ b ds, Bg b H ∧ Reps K b H ds vs ∧ s ds (fun d => ∀ v H', Ext b H H' → Rep K b H' d v → Q v H') (fun x => ∀ cls d H', Ext b H H' → XAt K b H' x cls d → E cls d H')
/-- what the errors of a body come to -/
structure Cz (X : Cx) (b : Option Addr) (H0 : Hp) (E : XK) (eo : XD → Prop) : Prop where
  pass : Passes (L2.CX X.prog X.w) X E
  ex : ∀ x cls d H', eo x → Ext b H0 H' → XAt X.K b H' x cls d → E cls d H'
theorem XAt.mono {K : Fg} {b : Option Addr} {H H' : Hp} {x : XD} {cls : Value} {d : Option Addr} (h : XAt K b H x cls d) (l : Le b H H') (n : ∀ da, d = some da → some da ≠ b) : XAt K b H' x cls d := by
  obtain ⟨h1, da, vs, e, h2, h3, h4⟩ := h
  exact ⟨h1, da, vs, e, l _ _ (n da e) h2 rfl, h3, h4.mono l⟩
section
variable {X : Cx} {b : Option Addr} {H0 : Hp} {pins : List (Addr × Obj)} {σ : L2.St} {σd : StD} {H : Hp} {s0 : Shared} {O : List Addr}
theorem hide_keep {a : Addr} {o : HO} (hO : ∀ a ∈ O, Hid O H a) (h : H a = some o) (n : (∃ xs, o = .tup xs) ∨ (∃ ob u, o = .frz ob u) ∨ (∃ ps, o = .tbl ps)) : hide O H a = some o := by
  by_cases m : a ∈ O
  · obtain ⟨o', e, q⟩ := hO a m
    rw [h] at e; cases e
    rcases n with ⟨xs, rfl⟩ | ⟨ob, u, rfl⟩ | ⟨ps, rfl⟩ <;> exact q.elim
  · rw [hide_out m]; exact h
theorem hide_none {a : Addr} (h : H a = none) : hide O H a = none := by
  unfold hide
  split
  · rfl
  · exact h
theorem hok_hide {P : Program} {w : World} {h : Heap} (hO : ∀ a ∈ O, Hid O H a) (ok : HOk P w H h) : HOk P w (hide O H) h := fun a o e => by
  obtain ⟨n, e⟩ := of_hide e
  refine (ok a o e).stay (fun _ _ _ q => q) (fun c q => ?_) fun c xs q => hide_keep hO q (.inl ⟨xs, rfl⟩)
  by_cases m : c ∈ O
  · obtain ⟨o', e', z⟩ := hO c m
    rw [q] at e'; cases e'
    exact absurd z.1 n
  · rw [hide_out m]; exact q
theorem inv_hide (I : Inv X pins σ H s0) (hO : ∀ a ∈ O, Hid O H a) : Inv X pins σ (hide O H) s0 where
  ok := I.ok
  os := I.os
  bare := I.bare
  base := ⟨fun c o e n h1 h2 => I.base.keep c o e n h1 h2, fun c o e n h1 h2 => I.base.slot c o e n h1 h2, fun c o e n h => hide_none (I.base.free c o e n h), fun c o e h => I.base.there c o e h,
    fun c xs e => hide_keep hO (I.base.tups c xs e) (.inl ⟨xs, rfl⟩), fun c o u e => hide_keep hO (I.base.frzs c o u e) (.inr (.inl ⟨o, u, rfl⟩)), fun c ps e => by
      obtain ⟨m, e2⟩ := I.base.tbls c ps e
      exact ⟨m, hide_keep hO e2 (.inr (.inr ⟨_, rfl⟩))⟩⟩
  loc := I.loc
  cell := I.cell
  free := hide_none I.free
  freeC := fun x c e => hide_none (I.freeC x c e)
  pin := fun p hp => by
    obtain ⟨h1, h2, h3, h4, h5⟩ := I.pin p hp
    exact ⟨h1, hide_none h2, h3, h4, h5⟩
  hok := hok_hide hO I.hok
  len := I.len
/-- behind a call that saw the heap without what is owned -/
def back (O : List Addr) (H H2 : Hp) : Hp := fun a => if a ∈ O then H a else H2 a
theorem back_out {H2 : Hp} {a : Addr} (h : a ∉ O) : back O H H2 a = H2 a := if_neg h
theorem back_in {H2 : Hp} {a : Addr} (h : a ∈ O) : back O H H2 a = H a := if_pos h
theorem back_ext {H2 : Hp} (hO : ∀ a ∈ O, some a ≠ b ∧ Hid O H a) (fr : ∀ a ∈ O, H2 a = none) (x : Ext b (hide O H) H2) : Ext b H (back O H H2) := by
  refine ⟨fun a o n e t => ?_, fun a e c i j m h h0 => ?_, fun t => ?_⟩
  · by_cases m : a ∈ O
    · rw [back_in m]; exact e
    · rw [back_out m]; exact x.1 a o n (by rw [hide_out m]; exact e) t
  · have m' : a ∉ O := fun z => (hO a z).1 e.symm
    rw [back_out m']
    exact x.2.1 a e c i j m (by rw [hide_out m']; exact h) h0
  · refine (x.2.2 (tabs_hide (fun a m => (hO a m).2.nt) t)).ext fun a o e => ?_
    rw [back_out (fun m => by rw [fr a m] at e; cases e)]; exact e
theorem back_hide {H2 : Hp} (h : ∀ a ∈ O, H2 a = none) : hide O (back O H H2) = H2 := by
  funext a
  by_cases m : a ∈ O
  · rw [hide_in m, h a m]
  · rw [hide_out m, back_out m]
theorem inv_back {s' : Shared} {H2 : Hp} (I : Inv X pins σ H s0) (hO : ∀ a ∈ O, Hid O H a) (os : s'.os = s0.os) (bare : AllBare s'.gens) (un : Un (frs X.stack) [] (hide O H) H2 s0.heap s'.heap) (ok : HOk X.prog X.w H2 s'.heap) :
    (∀ a ∈ O, H2 a = none) ∧ Inv X pins σ (back O H H2) s' := by
  have thr : ∀ a ∈ O, ∃ o ob, H a = some o ∧ s0.heap.get? a = some ob ∧ s'.heap.get? a = some ob := fun a m => by
    obtain ⟨o, e, q2⟩ := hO a m
    · cases q : s0.heap.get? a with
      | none =>
        exfalso
        have z := I.hok a o e
        cases o with
        | lst xs => obtain ⟨_, _, _, _, h⟩ := z; rw [q] at h; cases h
        | dK kvs => obtain ⟨_, _, _, _, ob, es, ep, h, _⟩ := z; rw [q] at h; cases h
        | dT kvs => obtain ⟨_, _, _, _, ob, es, ep, h, _⟩ := z; rw [q] at h; cases h
        | ins C dx fs => obtain ⟨_, _, _, h, _⟩ := z; rw [q] at h; cases h
        | own y => obtain ⟨ob, h⟩ := z; rw [q] at h; cases h
        | _ => exact q2.elim
      | some ob =>
        exact ⟨o, ob, e, rfl, un.keep a ob q (hide_in m) (fun z => by
          have := I.stkFree a z
          rw [e] at this; cases this) (by simp)⟩
  have fr : ∀ a ∈ O, H2 a = none := fun a m => by
    obtain ⟨o, ob, e, q, _⟩ := thr a m
    exact un.free a ob q (hide_in m) (by simp)
  refine ⟨fr, I.call' (ch := []) os ?_ ?_ bare (fun c z => absurd z (by simp))⟩
  · refine ⟨fun c o e n h1 h2 => un.keep c o e (hide_none n) h1 h2, fun c o e n h1 h2 => un.slot c o e (hide_none n) h1 h2, fun c o e n h => ?_, fun c o e h => un.there c o e h, fun c xs e => ?_, fun c o u e => ?_, fun c ps e => ?_⟩
    · by_cases m : c ∈ O
      · exact absurd n (hO c m).ne
      · rw [back_out m]; exact un.free c o e (hide_none n) h
    · have q := hide_keep hO e (.inl ⟨xs, rfl⟩)
      rw [back_out (of_hide q).1]; exact un.tups c xs q
    · have q := hide_keep hO e (.inr (.inl ⟨o, u, rfl⟩))
      rw [back_out (of_hide q).1]; exact un.frzs c o u q
    · have q := hide_keep hO e (.inr (.inr ⟨ps, rfl⟩))
      rw [back_out (of_hide q).1]; exact un.tbls c ps q
  · intro a o e
    by_cases m : a ∈ O
    · rw [back_in m] at e
      obtain ⟨o', ob, e1, q1, q2⟩ := thr a m
      obtain ⟨o2, e2, hid⟩ := hO a m
      rw [e] at e2; cases e2
      have z := I.hok a o e
      cases o with
      | lst xs =>
        obtain ⟨z1, its, n, r, h⟩ := z
        rw [q1] at h; cases h
        exact ⟨z1, its, n, r, q2⟩
      | dK kvs =>
        obtain ⟨z1, y, vs, r, ob', es, ep, h, c⟩ := z
        rw [q1] at h; cases h
        exact ⟨z1, y, vs, r, ob, es, ep, q2, c⟩
      | dT kvs =>
        obtain ⟨z1, y, vs, r, ob', es, ep, h, c⟩ := z
        rw [q1] at h; cases h
        refine ⟨z1, y, vs, r.mono fun p q ⟨h1, h2, h3⟩ => ⟨h1, ?_, h3⟩, ob, es, ep, q2, c⟩
        have no : q.2.1 ∉ O := fun m => by
          obtain ⟨o, e, w⟩ := hO _ m
          rw [h2] at e; cases e; exact w
        rw [back_out no]
        exact un.tups _ _ (by rw [hide_out no]; exact h2)
      | ins C dx fs =>
        obtain ⟨d, z1, ne, h, mA, ⟨od, es, ep, h2, c⟩, r⟩ := z
        rw [q1] at h; cases h
        obtain ⟨_, ob2, _, q3, q4⟩ := thr dx hid
        rw [h2] at q3; cases q3
        exact ⟨by rw [back_in hid]; exact d, z1, ne, q2, mA, ⟨od, es, ep, q4, c⟩, r⟩
      | own y => exact ⟨ob, q2⟩
      | _ => exact hid.elim
    · rw [back_out m] at e
      exact (ok a o e).stay (fun _ _ _ q => q) (fun c q => by
        rw [back_out (fun w => by rw [fr c w] at q; cases q)]; exact q) fun c xs q => by
        rw [back_out (fun w => by rw [fr c w] at q; cases q)]; exact q
/-! ### the call of a def -/
variable {P : Program} {E : XK} {eo : XD → Prop} {s : GS} {k : Nat} {f : Addr} {fd : FuncData} {ps : List Str} {ds dd : List D} {vs dvs : List V} {us dus : List Value} {Q : VK}
theorem run_fnDA {args : Args} {us2 : List Value} {vs2 : List V} {ds2 : List D} (F : FnOk X.prog X.w X.K X.mg X.base (L2.CX X.prog X.w) k f fd ps (lift X.K s)) (ms : MnS s) (hr : Room k X.A) (Z : Cz X b H0 E eo)
    (I : Inv X pins σ H s0) (hb : us2.length = ps.length → BindsTo s0 fd args (ps.zip us2)) (r2 : Vals vs2 us2) (R : Rst X.K b H0 σd σ H O) (rp : Reps X.K b (hide O H) ds2 vs2) (h : s ds2 (fun d => ∀ v H', Ext b H H' → Rep X.K b (hide O H') d v → Q v H') eo) :
    wpAny (model X.prog X.w) X.A (call (.ref f) args.pos args.kw) (EP X pins σ Q) X.xe s0 := by
  have hO : ∀ a ∈ O, Hid O H a := fun a m => (R.nb a m).2.2
  have I1 := inv_hide I hO
  have sp : lift X.K s vs2 (hide O H) (fun v H2 => (∀ a ∈ O, H2 a = none) → Q v (back O H H2)) E := by
    refine ⟨b, ds2, R.bg, rp, ms _ _ _ _ _ (fun d hd v H2 x r0 fr => ?_) (fun x hx cls d H2 x2 xa => ?_) h⟩
    · refine hd v _ (back_ext (fun a m => ⟨(R.nb a m).1, (R.nb a m).2.2⟩) fr x) ?_
      rw [back_hide fr]
      exact r0
    · exact Z.ex x cls d H2 hx (R.le.trans x2) xa
  have hl : us2.length = ps.length := by rw [← r2.length]; exact F.len _ _ _ _ sp
  refine wpAny_call (codeAny_mono (F.run X.A X.stack s0 (hide O H) args us2 vs2 _ E hr I1.env0 (hb hl) r2 sp) fun r s' hq => ?_)
  cases r with
  | error e => exact Z.pass pins σ (hide O H) s0 e s' I1 hq
  | ok fl =>
    cases fl with
    | ret u =>
      obtain ⟨v, H2, os, bare, un, ok, rv, q⟩ := hq
      obtain ⟨fr, I2⟩ := inv_back I hO os bare un ok
      exact ⟨v, _, I2, rv, q fr⟩
    | next => exact False.elim hq
    | brk => exact False.elim hq
    | cont => exact False.elim hq
theorem run_fnD (F : FnOk X.prog X.w X.K X.mg X.base (L2.CX X.prog X.w) k f fd ps (lift X.K s)) (ms : MnS s) (hr : Room k X.A) (hb : Binds X.K fd ps dus) (hd : Vals dvs dus) (hdd : ∀ b H, Reps X.K b H dd dvs) (Z : Cz X b H0 E eo)
    (I : Inv X pins σ H s0) (r : Vals vs us) (R : Rst X.K b H0 σd σ H O) (rp : Reps X.K b (hide O H) ds vs) (h : s (ds ++ dd) (fun d => ∀ v H', Ext b H H' → Rep X.K b (hide O H') d v → Q v H') eo) :
    wpAny (model X.prog X.w) X.A (call (.ref f) us) (EP X pins σ Q) X.xe s0 :=
  run_fnDA (args := ⟨us, []⟩) F ms hr Z I (hb s0 us I.kIn) (r.append hd) R (rp.append (hdd _ _)) h
end
end DL
/-! DE1 -/
set_option Elab.async false
set_option linter.all false
set_option maxRecDepth 100000
set_option maxHeartbeats 4000000
/-! Statements, targets, what is walked, loops, comprehensions. -/
namespace DL
open PySem PySem.Spec PyProof.Rows L2
variable [TabC]
structure EndD where
  nx : StD → Prop
  rt : D → Prop
  bk : StD → Prop := fun _ => False
  ct : StD → Prop := fun _ => False
abbrev GSt := EndD → StD → Prop
def MnD (g : GSt) : Prop := ∀ D D' σ, (∀ σ, D.nx σ → D'.nx σ) → (∀ d, D.rt d → D'.rt d) → (∀ σ, D.bk σ → D'.bk σ) → (∀ σ, D.ct σ → D'.ct σ) → g D σ → g D' σ
section
variable (K : Fg) (b : Option Addr) (H0 : Hp)
def dn (Hs : Hp) (D : Ends) : EndD := ⟨fun σd => ∀ σ H O, Rst K b H0 σd σ H O → Ext b Hs (hide O H) → D.nx σ H, fun d => ∀ v H, Ext b H0 H → Rep K b H d v → D.rt v H, fun σd => ∀ σ H O, Rst K b H0 σd σ H O → Ext b Hs (hide O H) → D.bk σ H, fun σd => ∀ σ H O, Rst K b H0 σd σ H O → Ext b Hs (hide O H) → D.ct σ H⟩
def LS (g : GSt) : TS := fun D σ H => ∃ σd O, Rst K b H0 σd σ H O ∧ g (dn K b H0 (hide O H) D) σd
end
structure DS (b : Option Addr) (H0 : Hp) (X : Cx) (st : Stmt) (g : GSt) : Prop where
  ps : PS X st (LS X.K b H0 g)
  mn : MnD g
structure DSs (b : Option Addr) (H0 : Hp) (X : Cx) (st : List Stmt) (g : GSt) : Prop where
  ps : PSs X st (LS X.K b H0 g)
  mn : MnD g
section
variable {X : Cx} {b : Option Addr} {H0 : Hp} {pos : Pos} {st : Stmt} {sts : List Stmt} {g u : GSt} {e : Expr} {ge : GE} {gt : GT}
theorem ps_imp {t t' : TS} (h : PS X st t) (i : ∀ D σ H, t' D σ H → t D σ H) : PS X st t' := ⟨fun pins s σ H D I q => h.run pins s σ H D I (i D σ H q)⟩
theorem pss_imp {t t' : TS} (h : PSs X sts t) (i : ∀ D σ H, t' D σ H → t D σ H) : PSs X sts t' := ⟨fun pins s σ H D I q => h.run pins s σ H D I (i D σ H q)⟩
/-- what is handed back from a state -/
theorem Rst.ret {K : Fg} {σd : StD} {σ : L2.St} {H H' : Hp} {O : List Addr} (R : Rst K b H0 σd σ H O) (x : Ext b H H') : Ext b H0 H' := by
  have h1 : Ext b (hide O H) H := ⟨hide_le, fun a e c i j m h h0 => ⟨i, j, h0, (of_hide h).2⟩, fun t => tabs_unhide t⟩
  exact (R.le.trans h1).trans x
def gNext : GSt := fun D σ => D.nx σ
def gSeq (g u : GSt) : GSt := fun D σ => g { D with nx := u D } σ
def gBreak : GSt := fun D σ => D.bk σ
def gCont : GSt := fun D σ => D.ct σ
def gDrop (ge : GE) : GSt := fun D σ => ge σ fun _ => D.nx σ
def gRet (ge : GE) : GSt := fun D σ => ge σ D.rt
def gRetN : GSt := fun D _ => D.rt .non
def gIfS (c : GT) (g u : GSt) : GSt := fun D σ => c σ fun x => match x with | true => g D σ | false => u D σ
def gNever : GSt := fun _ _ => False
def gAsg (i : Nat) (ge : GE) : GSt := fun D σ => ge σ fun d => D.nx (put σ i (.sh d))
theorem gSeq_mn (A : MnD g) (B : MnD u) : MnD (gSeq g u) := fun D D' σ h1 h2 h3 h4 q => A { D with nx := u D } { D' with nx := u D' } σ (fun σ' q' => B D D' σ' h1 h2 h3 h4 q') h2 h3 h4 q
theorem gRet_mn (A : Mn ge) : MnD (gRet ge) := fun D D' σ h1 h2 h3 h4 q => A _ _ _ (fun d z => h2 d z) q
theorem gIfS_mn (C : Mn gt) (A : MnD g) (B : MnD u) : MnD (gIfS gt g u) := fun D D' σ h1 h2 h3 h4 q => C _ _ _ (fun x z => by
  cases x
  · exact B D D' σ h1 h2 h3 h4 z
  · exact A D D' σ h1 h2 h3 h4 z) q
theorem gAsg_mn {i : Nat} (A : Mn ge) : MnD (gAsg i ge) := fun D D' σ h1 h2 h3 h4 q => A _ _ _ (fun d z => h1 _ z) q
theorem gNever_mn : MnD gNever := fun _ _ _ _ _ _ _ q => q.elim
theorem gNext_mn : MnD gNext := fun D D' σ h1 _ _ _ q => h1 _ q
theorem dss_nil : DSs b H0 X [] gNext := ⟨pss_imp pss_nil fun D σ H ⟨σd, O, R, q⟩ => q σ H O R (.refl _), gNext_mn⟩
theorem dss_cons (h1 : DS b H0 X st g) (h2 : DSs b H0 X sts u) : DSs b H0 X (st :: sts) (gSeq g u) :=
  ⟨pss_imp (pss_cons h1.ps h2.ps) fun D σ H ⟨σd, O, R, q⟩ => ⟨σd, O, R, h1.mn { dn X.K b H0 (hide O H) D with nx := u (dn X.K b H0 (hide O H) D) } _ _ (fun σ' z σ2 H2 O2 R2 x2 => ⟨σ', O2, R2, h2.mn (dn X.K b H0 (hide O H) D) _ _ (fun _ w _ _ _ R3 x3 => w _ _ _ R3 (x2.trans x3)) (fun _ w => w) (fun _ w _ _ _ R3 x3 => w _ _ _ R3 (x2.trans x3)) (fun _ w _ _ _ R3 x3 => w _ _ _ R3 (x2.trans x3)) z⟩) (fun d z => z) (fun σ z => z) (fun σ z => z) q⟩, gSeq_mn h1.mn h2.mn⟩
theorem dss_one (h1 : DS b H0 X st g) : DSs b H0 X [st] g := ⟨pss_one h1.ps, h1.mn⟩
theorem dss_never : DSs b H0 X sts gNever := ⟨pss_imp pss_never fun D σ H ⟨σd, O, R, q⟩ => q, gNever_mn⟩
theorem ds_ret (A : DT b H0 X e ge) : DS b H0 X (.Return (some e) pos) (gRet ge) :=
  ⟨ps_imp (ps_ret A.pe) fun D σ H ⟨σd, O, R, q⟩ => ⟨σd, O, R, A.mn _ _ _ (fun d z v H' x r => z v H' (R.ret x) r) q⟩, gRet_mn A.mn⟩
theorem ds_if {c : Expr} {a a2 : List Stmt} (C : DB b H0 X c gt) (A : DSs b H0 X a g) (B : DSs b H0 X a2 u) : DS b H0 X (.If c a a2 pos) (gIfS gt g u) :=
  ⟨ps_imp (ps_if C.pt A.ps B.ps) fun D σ H ⟨σd, O, R, q⟩ => ⟨σd, O, R, C.mn _ _ _ (fun x z H' x1 => by
    have st : ∀ (g : GSt), MnD g → g (dn X.K b H0 (hide O H) D) σd → LS X.K b H0 g D σ H' := fun g m z => ⟨σd, O, R.mono x1, m (dn X.K b H0 (hide O H) D) _ _ (fun _ w _ _ _ R3 x3 => w _ _ _ R3 ((R.hx x1).trans x3)) (fun _ w => w) (fun _ w _ _ _ R3 x3 => w _ _ _ R3 ((R.hx x1).trans x3)) (fun _ w _ _ _ R3 x3 => w _ _ _ R3 ((R.hx x1).trans x3)) z⟩
    cases x
    · exact st u B.mn z
    · exact st g A.mn z) q⟩, gIfS_mn C.mn A.mn B.mn⟩
/-! ### a slot is set -/
theorem look_put2 {σ : StD} {i : Nat} {x : SD} (j : Nat) : look (put σ i x) j = if j = i ∧ i < σ.length then x else look σ j := by
  by_cases h : i < σ.length
  · rw [look_put j h]; simp [h]
  · rw [if_neg (fun z => h z.2)]
    have e : put σ i x = σ := by
      clear j
      induction σ generalizing i with
      | nil => rfl
      | cons y r ih =>
        cases i with
        | zero => simp at h
        | succ n => simp only [put]; rw [ih (by simpa using h)]
    rw [e]
theorem getD_set {σ : L2.St} {i j : Nat} {v : V} : (σ.set i (some v)).getD j none = if j = i ∧ i < σ.length then some v else σ.getD j none := by
  rw [List.getD_eq_getElem?_getD, List.getD_eq_getElem?_getD]
  by_cases h : i = j
  · subst h
    by_cases hl : i < σ.length
    · rw [List.getElem?_set_self hl]; simp [hl]
    · rw [if_neg (fun z => hl z.2), List.getElem?_eq_none (by simpa using hl), List.getElem?_eq_none (by simpa using hl)]
  · rw [List.getElem?_set_ne h, if_neg (fun z => h z.1.symm)]
theorem Rst.set {K : Fg} {σd : StD} {σ : L2.St} {H : Hp} {O : List Addr} (R : Rst K b H0 σd σ H O) {d : D} {v : V} (i : Nat) (r : Rep K b (hide O H) d v) : Rst K b H0 (put σd i (.sh d)) (σ.set i (some v)) H O where
  len := by rw [put_length, List.length_set]; exact R.len
  slot := fun j => by
    rw [look_put2, getD_set, R.len]
    by_cases h : j = i ∧ i < σ.length
    · rw [if_pos h, if_pos h]; exact ⟨v, rfl, r⟩
    · rw [if_neg h, if_neg h]; exact R.slot j
  uniq := fun j k a h1 h2 => by
    rw [look_put2, getD_set, R.len] at h1 h2
    by_cases hj : j = i ∧ i < σ.length
    · rw [if_pos hj, if_pos hj] at h1; exact h1.elim
    · by_cases hk : k = i ∧ i < σ.length
      · rw [if_pos hk, if_pos hk] at h2; exact h2.elim
      · rw [if_neg hj, if_neg hj] at h1
        rw [if_neg hk, if_neg hk] at h2
        exact R.uniq j k a h1 h2
  nb := R.nb
  le := R.le
  bg := R.bg
theorem ds_asg {i : Nat} {x : Str} {pos' : Pos} (hN : X.N.Nodup) (hi : X.N[i]? = some x) (hx : Loc X.env.scope x) (A : DE b H0 X e ge) (hs : swapsWith e (some (.Name x pos')) pos.line X.env = pure false := by rfl) (hf : X.fn x = true ∨ X.env.scope.names.lookup x = some .local := by first | exact .inl rfl | exact .inr rfl | assumption) :
    DS b H0 X (.Assign [.Name x pos'] e pos) (gAsg i ge) :=
  ⟨ps_imp (ps_set hN hi hx A.pe hs hf) fun D σ H ⟨σd, O, R, q⟩ => ⟨σd, O, R, A.mn _ _ _ (fun d z v H' x1 r => z _ H' O ((R.mono x1).set i r) (R.hx x1)) q⟩, gAsg_mn A.mn⟩
/-! ### targets -/
inductive Tgt where
  | nm (i : Nat)
  | tp (l : List Tgt)
mutual
def asg : Tgt → D → StD → (StD → Prop) → Prop
  | .nm i, d, σ, k => k (put σ i (.sh d))
  | .tp l, d, σ, k => match d with | .tup ds => asgs l ds σ k | .lst ds => asgs l ds σ k | _ => False
def asgs : List Tgt → List D → StD → (StD → Prop) → Prop
  | [], [], σ, k => k σ
  | t :: l, d :: ds, σ, k => asg t d σ fun σ' => asgs l ds σ' k
  | _, _, _, _ => False
end
mutual
def slots : Tgt → List Nat
  | .nm i => [i]
  | .tp l => slotsL l
def slotsL : List Tgt → List Nat
  | [] => []
  | t :: l => slots t ++ slotsL l
end
mutual
theorem asg_mn : ∀ (t : Tgt) (d : D) (σ : StD) (k k' : StD → Prop), (∀ s, k s → k' s) → asg t d σ k → asg t d σ k'
  | .nm i, d, σ, k, k', h, q => h _ q
  | .tp l, d, σ, k, k', h, q => by
    simp only [asg] at q ⊢
    cases d <;> first | exact asgs_mn l _ _ _ _ h q | exact q.elim
theorem asgs_mn : ∀ (l : List Tgt) (ds : List D) (σ : StD) (k k' : StD → Prop), (∀ s, k s → k' s) → asgs l ds σ k → asgs l ds σ k'
  | [], [], σ, k, k', h, q => h _ q
  | t :: l, d :: ds, σ, k, k', h, q => by
    simp only [asgs] at q ⊢
    exact asg_mn t d σ _ _ (fun s z => asgs_mn l ds s k k' h z) q
  | [], _ :: _, _, _, _, _, q => q.elim
  | _ :: _, [], _, _, _, _, q => q.elim
end
mutual
theorem asg_ex : ∀ (t : Tgt) (d : D) (σ : StD) (k : StD → Prop), asg t d σ k → ∃ s, k s
  | .nm i, d, σ, k, q => ⟨_, q⟩
  | .tp l, d, σ, k, q => by
    simp only [asg] at q
    cases d <;> first | exact (asgs_ex l _ _ _ q).2 | exact q.elim
theorem asgs_ex : ∀ (l : List Tgt) (ds : List D) (σ : StD) (k : StD → Prop), asgs l ds σ k → l.length = ds.length ∧ ∃ s, k s
  | [], [], σ, k, q => ⟨rfl, _, q⟩
  | t :: l, d :: ds, σ, k, q => by
    simp only [asgs] at q
    obtain ⟨s, z⟩ := asg_ex t d σ _ q
    obtain ⟨e, w⟩ := asgs_ex l ds s k z
    exact ⟨by simp [e], w⟩
  | [], _ :: _, _, _, q => q.elim
  | _ :: _, [], _, _, q => q.elim
end
def Agree (σ σ' : L2.St) (l : List Nat) : Prop := σ'.length = σ.length ∧ ∀ j, j ∉ l → σ'[j]? = σ[j]?
theorem Agree.refl (σ : L2.St) (l : List Nat) : Agree σ σ l := ⟨rfl, fun _ _ => rfl⟩
theorem Agree.trans {σ σ' σ2 : L2.St} {l l' m : List Nat} (a : Agree σ σ' l) (c : Agree σ' σ2 l') (h : ∀ j, j ∈ l ∨ j ∈ l' → j ∈ m) : Agree σ σ2 m := ⟨c.1.trans a.1, fun j n => (c.2 j fun z => n (h j (.inr z))).trans (a.2 j fun z => n (h j (.inl z)))⟩
def LG (K : Fg) (b : Option Addr) (H0 : Hp) (t : Tgt) : TG := fun v σ H Q => ∃ σd O d, Rst K b H0 σd σ H O ∧ Rep K b (hide O H) d v ∧ asg t d σd fun σd' => ∀ σ', Agree σ σ' (slots t) → Rst K b H0 σd' σ' H O → Q σ' H
def LGs (K : Fg) (b : Option Addr) (H0 : Hp) (l : List Tgt) : TGs := fun vs σ H Q => ∃ σd O ds, Rst K b H0 σd σ H O ∧ Reps K b (hide O H) ds vs ∧ asgs l ds σd fun σd' => ∀ σ', Agree σ σ' (slotsL l) → Rst K b H0 σd' σ' H O → Q σ' H
structure DG (b : Option Addr) (H0 : Hp) (X : Cx) (tg : Expr) (t : Tgt) : Prop where
  pg : PG X tg (LG X.K b H0 t)
structure DGs (b : Option Addr) (H0 : Hp) (X : Cx) (tg : List Expr) (t : List Tgt) : Prop where
  pg : PGs X tg (LGs X.K b H0 t)
theorem pg_imp {tg : Expr} {t t' : TG} (h : PG X tg t) (i : ∀ v σ H Q, t' v σ H Q → t v σ H Q) : PG X tg t' := ⟨fun pins s σ H v u Q I r q => h.run pins s σ H v u Q I r (i v σ H Q q)⟩
theorem pgs_imp {tg : List Expr} {t t' : TGs} (h : PGs X tg t) (i : ∀ v σ H Q, t' v σ H Q → t v σ H Q) : PGs X tg t' := ⟨fun pins s σ H v u Q I r q => h.run pins s σ H v u Q I r (i v σ H Q q)⟩
theorem dg_name {i : Nat} {x : Str} (hN : X.N.Nodup) (hi : X.N[i]? = some x) (hx : Loc X.env.scope x) (hf : X.fn x = true ∨ X.env.scope.names.lookup x = some .local := by first | exact .inl rfl | exact .inr rfl | assumption) : DG b H0 X (.Name x pos) (.nm i) :=
  ⟨pg_imp (pg_name hN hi hx hf) fun v σ H Q ⟨σd, O, d, R, r, q⟩ => by
    simp only [asg] at q
    exact q _ ⟨List.length_set, fun j n => List.getElem?_set_ne (fun z => n (by simp [slots, z]))⟩ (R.set i r)⟩
theorem dgs_nil : DGs b H0 X [] [] := ⟨pgs_imp pgs_nil fun v σ H Q ⟨σd, O, ds, R, r, q⟩ => by
  cases ds with
  | nil => exact ⟨r.of_nil, q σ (.refl _ _) R⟩
  | cons d ds => exact q.elim⟩
theorem dgs_cons {es : List Expr} {t : Tgt} {l : List Tgt} (h1 : DG b H0 X e t) (h2 : DGs b H0 X es l) (hs : (assignEach (e :: es) X.env).map (·.2) = assign e X.env :: (assignEach es X.env).map (·.2) := by rfl) : DGs b H0 X (e :: es) (t :: l) :=
  ⟨pgs_imp (pgs_cons h1.pg h2.pg hs) fun v σ H Q ⟨σd, O, ds, R, r, q⟩ => by
    cases ds with
    | nil => exact q.elim
    | cons d ds =>
      obtain ⟨w, vr, rfl, r1, r2⟩ := r.of_cons
      simp only [asgs] at q
      refine ⟨w, vr, rfl, σd, O, d, R, r1, asg_mn _ _ _ _ _ (fun s z σ' ag R' => ?_) q⟩
      refine ⟨s, O, ds, R', r2, asgs_mn _ _ _ _ _ (fun s2 z2 σ2 ag2 R2 => ?_) z⟩
      exact z2 σ2 (ag.trans ag2 fun j => by simp only [slotsL, List.mem_append]; exact id) R2⟩
theorem dg_tup {es : List Expr} {k : Nat} {l : List Tgt} {n : Nat} (hc : X.calm = true) (h : DGs b H0 X es l) (hl : l.length = n := by rfl)
    (hn : (assignEach es X.env).length = n := by rfl) (hst : (assignEach es X.env).findIdx? (·.1) = none := by rfl) : DG b H0 X (.Tuple es k pos) (.tp l) :=
  ⟨⟨fun pins s σ H v u Q I rv ⟨σd, O, d, R, r, q⟩ => by
    simp only [asg] at q
    cases d with
    | tup ds =>
      obtain ⟨a, vs, rfl, nb, hs, rs⟩ := r.tup
      obtain ⟨e, _⟩ := asgs_ex _ _ _ _ q
      exact (pg_tup (k := k) hc h.pg hn hst).run pins s σ H _ u Q I rv ⟨a, vs, rfl, sqT_mono hide_le nb hs, by rw [← rs.length, ← e, hl], σd, O, ds, R, rs, asgs_mn _ _ _ _ _ (fun s z σ' ag R' => z σ' (by simpa only [slots] using ag) R') q⟩
    | lst ds =>
      obtain ⟨a, vs, rfl, nb, hs, rs⟩ := r.lst
      obtain ⟨e, _⟩ := asgs_ex _ _ _ _ q
      exact (pg_lst (k := k) hc h.pg hn hst).run pins s σ H _ u Q I rv ⟨a, vs, rfl, sqL_mono hide_le nb hs, by rw [← rs.length, ← e, hl], σd, O, ds, R, rs, asgs_mn _ _ _ _ _ (fun s z σ' ag R' => z σ' (by simpa only [slots] using ag) R') q⟩
    | _ => exact q.elim⟩⟩
end
end DL
/-! DE2 -/
set_option Elab.async false
set_option linter.all false
set_option maxRecDepth 100000
set_option maxHeartbeats 4000000
/-! What is walked; for, while; list comprehensions. -/
namespace DL
open PySem PySem.Spec PyProof.Rows L2
variable [TabC]
abbrev GI := StD → (List D → Prop) → Prop
/-- J hands out these items, whatever is laid meanwhile -/
def Wlk (K : Fg) (b : Option Addr) (O : List Addr) (ds : List D) (J : It) (H1 : Hp) : Prop := ∀ (i : Nat) (H2 : Hp) (O2 : List Addr), Ext b (hide O H1) (hide O2 H2) → Fresh b O2 H2 →
  (∀ d, ds[i]? = some d → J.go i H2 ∧ ∀ x H3, J.yld i H2 x H3 → Ext b H2 H3 ∧ Rep K b (hide O2 H3) d x) ∧ (i = ds.length → J.stop i H2)
def LI (K : Fg) (b : Option Addr) (H0 : Hp) (g : GI) : TI := fun σ H Rr => ∃ σd O, Rst K b H0 σd σ H O ∧ g σd fun ds => ∀ J H', Ext b H H' → Wlk K b O ds J H' → Rr J H'
structure DI (b : Option Addr) (H0 : Hp) (X : Cx) (tg iter : Expr) (g : GI) : Prop where
  pi : PI X tg iter (LI X.K b H0 g)
  mn : Mn g
section
variable {X : Cx} {b : Option Addr} {H0 : Hp} {pos p : Pos} {tg l e : Expr} {ge ga : GE}
theorem pi_imp {t t' : TI} (h : PI X tg e t) (i : ∀ σ H Q, t' σ H Q → t σ H Q) : PI X tg e t' := ⟨fun pins s σ H R I q => h.run pins s σ H R I (i σ H R q)⟩
def gIt (ge : GE) : GI := fun σ k => ge σ fun d => match d with | .lst ds => k ds | .tup ds => k ds | .frl _ ds => k ds | _ => False
theorem gIt_mn (A : Mn ge) : Mn (gIt ge) := fun σ k k' i q => A _ _ _ (fun x hx => by cases x <;> first | exact i _ hx | exact hx.elim) q
def gItL (ge : GE) : GI := fun σ k => ge σ fun d => match d with | .lst ds => k ds | _ => False
def gItT (ge : GE) : GI := fun σ k => ge σ fun d => match d with | .tup ds => k ds | _ => False
theorem wlk_list {K : Fg} {O : List Addr} {H1 : Hp} {ds : List D} {a : Addr} {vs : List V} (n : some a ≠ b) (h : SqL K (hide O H1) a vs) (r : Reps K b (hide O H1) ds vs) : Wlk K b O ds (Itl K a) H1 := fun i H2 O2 x F => by
  have h2 : SqL K H2 a vs := sqL_mono hide_le n (sqL_mono x.1 n h)
  refine ⟨fun d e => ?_, fun hi0 => ⟨vs, h2, by have hi := Nat.le_of_eq hi0.symm; rw [← r.length]; exact hi⟩⟩
  obtain ⟨v, e2, rv⟩ := r.get e
  refine ⟨⟨vs, v, h2, e2⟩, fun y H3 yl => ?_⟩
  obtain ⟨e3, yl⟩ := yl
  subst e3
  have e4 := yl vs h2
  rw [e2] at e4; cases e4
  exact ⟨.refl _, rv.mono x.1⟩
theorem wlk_tup {K : Fg} {O : List Addr} {H1 : Hp} {ds : List D} {a : Addr} {vs : List V} (n : some a ≠ b) (h : SqT K (hide O H1) a vs) (r : Reps K b (hide O H1) ds vs) : Wlk K b O ds (Itt K a) H1 := fun i H2 O2 x F => by
  have h2 : SqT K H2 a vs := sqT_mono hide_le n (sqT_mono x.1 n h)
  refine ⟨fun d e => ?_, fun hi0 => ⟨vs, h2, by have hi := Nat.le_of_eq hi0.symm; rw [← r.length]; exact hi⟩⟩
  obtain ⟨v, e2, rv⟩ := r.get e
  refine ⟨⟨vs, v, h2, e2⟩, fun y H3 yl => ?_⟩
  obtain ⟨e3, yl⟩ := yl
  subst e3
  have e4 := yl vs h2
  rw [e2] at e4; cases e4
  exact ⟨.refl _, rv.mono x.1⟩
/-- a list or a tuple -/
theorem di_seq (A : DE b H0 X l ge) : DI b H0 X tg l (gIt ge) := by
  refine ⟨⟨fun pins s σ H R I ⟨σd, O, Rs, q⟩ => ?_⟩, gIt_mn A.mn⟩
  refine thn (A.pe.run pins s σ H _ I ⟨σd, O, Rs, A.mn _ _ (fun d => ∀ v H', Ext b H H' → Rep X.K b (hide O H') d v → (∃ a vs, v = .ref a ∧ (SqL X.K H' a vs ∧ R (Itl X.K a) H' ∨ SqT X.K H' a vs ∧ R (Itt X.K a) H'))) (fun d hd v H' x r => ?_) q⟩) fun v s1 ⟨x, H1, I1, r1, q1⟩ => ?_
  · cases d with
    | lst ds =>
      obtain ⟨a, vs, rfl, n, h, s⟩ := r.lst
      exact ⟨a, vs, rfl, .inl ⟨sqL_mono hide_le n h, hd _ _ x (wlk_list n h s)⟩⟩
    | tup ds =>
      obtain ⟨a, vs, rfl, n, h, s⟩ := r.tup
      exact ⟨a, vs, rfl, .inr ⟨sqT_mono hide_le n h, hd _ _ x (wlk_tup n h s)⟩⟩
    | frl a0 ds =>
      obtain ⟨o, vs, rfl, n, h, s⟩ := r.frl
      have h : SqL X.K (hide O H') a0 vs := .inl (.inr ⟨o, h⟩)
      exact ⟨a0, vs, rfl, .inl ⟨sqL_mono hide_le n h, hd _ _ x (wlk_list n h s)⟩⟩
    | _ => exact hd.elim
  · obtain ⟨a, xs, e, q1⟩ := q1
    subst e
    cases r1
    rcases q1 with ⟨hq, q⟩ | ⟨hq, q⟩
    · obtain ⟨its, rv, p, hz⟩ := I1.list hq
      refine wpAny_pyIter_list p.isList ?_
      refine ⟨s1.heap.objs.size, [s1.heap.objs.size], _, _, H1, rfl, I1.kept (t' := s1.toks) fun b o e => Heap.get?_push_of_some _ e, turn_list a _, ⟨_, Heap.get?_push_size _ rfl, rfl, rfl⟩, fun b hb => ?_, q⟩
      have e : b = s1.heap.objs.size := by simpa using hb
      subst e
      exact I1.fpOk (Nat.le_refl _) (I1.hok.fresh (Nat.le_refl _))
    · obtain ⟨its, rv, p, hz⟩ := I1.tuple hq
      refine wpAny_pyIter_tuple (show s1.heap.IsTuple a its.toArray from p) ?_
      refine ⟨s1.heap.objs.size, [s1.heap.objs.size], _, _, H1, rfl, I1.kept (t' := s1.toks) fun b o e => Heap.get?_push_of_some _ e, turn_tuple a _, ⟨_, Heap.get?_push_size _ rfl, rfl, rfl⟩, fun b hb => ?_, q⟩
      have e : b = s1.heap.objs.size := by simpa using hb
      subst e
      exact I1.fpOk (Nat.le_refl _) (I1.hok.fresh (Nat.le_refl _))
/-- range(n), range(a, b) -/
def rngD (lo : Int) (n : Nat) : List D := (List.range n).map fun (i : Nat) => .int (lo + (i : Int))
theorem rngD_get {lo : Int} {n i : Nat} {d : D} (h : (rngD lo n)[i]? = some d) : i < n ∧ d = .int (lo + i) := by
  unfold rngD at h
  rw [List.getElem?_map] at h
  cases e : (List.range n)[i]? with
  | none => rw [e] at h; cases h
  | some j =>
    obtain ⟨h1, h2⟩ := List.getElem?_eq_some_iff.mp e
    rw [e] at h; cases h
    simp at h1 h2
    exact ⟨h1, by rw [h2]⟩
theorem rngD_len {lo : Int} {n : Nat} : (rngD lo n).length = n := by unfold rngD; simp
theorem wlk_rng {K : Fg} {O : List Addr} {H1 : Hp} {lo : Int} {n : Nat} : Wlk K b O (rngD lo n) (Itr lo n) H1 := fun i H2 O2 x F => by
  refine ⟨fun d e => ?_, fun hi0 => by have hi := Nat.le_of_eq hi0.symm; rw [rngD_len] at hi; exact hi⟩
  obtain ⟨h1, rfl⟩ := rngD_get e
  refine ⟨h1, fun y H3 yl => ?_⟩
  obtain ⟨e1, e2⟩ := yl
  subst e1 e2
  exact ⟨.refl _, rfl⟩
def gRng1 (ge : GE) : GI := fun σ k => ge σ fun d => match d with | .int j => (-(2 ^ 62) ≤ j ∧ j < 2 ^ 62) ∧ k (rngD 0 j.toNat) | _ => False
theorem di_rng1 (hg : Gl X "range") (hm : X.mg "range" = none) (A : DT b H0 X e ge) (hs : starEach [e] X.env = [(false, eval e X.env)] := by rfl) (hs2 : starEach [e] X.env = (false, eval e X.env) :: starEach [] X.env := by rfl) : DI b H0 X tg (.Call (.Name "range" p) [e] [] pos) (gRng1 ge) :=
  ⟨pi_imp (pi_range1 hg hm (pa_cons A.pe pa_nil hs2) hs) fun σ H Q ⟨σd, O, R, q⟩ => ⟨σd, O, R, A.mn _ _ _ (fun d hd v H' x r => by
    cases d with
    | int j => exact ⟨j, by rw [r.int], hd.1.1, hd.1.2, hd.2 _ _ x wlk_rng⟩
    | _ => exact hd.elim) q⟩, fun σ k k' i q => A.mn _ _ _ (fun x hx => by cases x <;> first | exact ⟨hx.1, i _ hx.2⟩ | exact hx.elim) q⟩
def gRng2 (ga ge : GE) : GI := fun σ k => ga σ fun a => ge σ fun d => match a, d with | .int i, .int j => (-(2 ^ 62) ≤ i ∧ i < 2 ^ 62 ∧ -(2 ^ 62) ≤ j ∧ j < 2 ^ 62) ∧ k (rngD i (j - i).toNat) | _, _ => False
/-! ### for -/
def forD (t : Tgt) (gb : GSt) : List D → EndD → StD → Prop
  | [], D, σ => D.nx σ
  | d :: r, D, σ => asg t d σ fun σ2 => gb { nx := fun σ' => forD t gb r D σ', rt := D.rt, bk := D.nx, ct := fun σ' => forD t gb r D σ' } σ2
def gFor (gi : GI) (t : Tgt) (gb : GSt) : GSt := fun D σ => gi σ fun ds => forD t gb ds D σ
theorem forD_mn {t : Tgt} {gb : GSt} (B : MnD gb) : ∀ (ds : List D) (D D' : EndD) (σ : StD), (∀ σ, D.nx σ → D'.nx σ) → (∀ d, D.rt d → D'.rt d) → forD t gb ds D σ → forD t gb ds D' σ
  | [], D, D', σ, h1, h2, q => h1 σ q
  | d :: r, D, D', σ, h1, h2, q => asg_mn _ _ _ _ _ (fun s z => B { nx := fun σ' => forD t gb r D σ', rt := D.rt, bk := D.nx, ct := fun σ' => forD t gb r D σ' } _ _ (fun σ' q' => forD_mn B r D D' σ' h1 h2 q') h2 h1 (fun σ' q' => forD_mn B r D D' σ' h1 h2 q') z) q
theorem gFor_mn {gi : GI} {t : Tgt} {gb : GSt} (I : Mn gi) (B : MnD gb) : MnD (gFor gi t gb) := fun D D' σ h1 h2 h3 h4 q => I _ _ _ (fun ds z => forD_mn B ds D D' σ h1 h2 z) q
theorem ds_for {iter : Expr} {body : List Stmt} {gi : GI} {t : Tgt} {gb : GSt} (hp : PassesOwn (model X.prog X.w) X.A X.env X.xe) (hc : X.calm = true) (I : DI b H0 X tg iter gi) (G : DG b H0 X tg t) (B : DSs b H0 X body gb)
    (hs : ∀ x, foldedSetIterable iter X.env x = pure x := by intro _; rfl) : DS b H0 X (.For tg iter body [] pos) (gFor gi t gb) := by
  refine ⟨ps_imp (ps_for hp hc I.pi G.pg B.ps hs) fun D σ H ⟨σd, O, R, q⟩ => ?_, gFor_mn I.mn B.mn⟩
  refine ⟨σd, O, R, I.mn _ _ _ (fun ds hd J H1 x wk => ?_) q⟩
  have xO : Ext b (hide O H) (hide O H1) := R.hx x
  refine ⟨fun i m σ2 H2 => m = ds.length - i ∧ i ≤ ds.length ∧ ∃ σd2 O2, Rst X.K b H0 σd2 σ2 H2 O2 ∧ Ext b (hide O H1) (hide O2 H2) ∧ forD t gb (ds.drop i) (dn X.K b H0 (hide O H) D) σd2, ⟨ds.length, by simp, Nat.zero_le _, σd, O, R.mono x, .refl _, hd⟩, ?_⟩
  rintro i m σ2 H2 ⟨rfl, hi, σd2, O2, R2, x2, q2⟩
  have w := wk i H2 O2 x2 (fun p hp => R2.free hp)
  by_cases hlt : i < ds.length
  · have e : ds[i]? = some ds[i] := List.getElem?_eq_getElem hlt
    obtain ⟨go, yl⟩ := w.1 _ e
    refine .inr ⟨go, fun σ' H' => i + 1 ≤ ds.length ∧ ∃ σd2 O3, Rst X.K b H0 σd2 σ' H' O3 ∧ Ext b (hide O H1) (hide O3 H') ∧ forD t gb (ds.drop (i + 1)) (dn X.K b H0 (hide O H) D) σd2, fun σ' H' hN => ⟨ds.length - (i + 1), by omega, rfl, hN.1, hN.2⟩, fun y H3 hy => ?_⟩
    obtain ⟨x3, rv⟩ := yl y H3 hy
    have x4 : Ext b (hide O H1) (hide O2 H3) := x2.trans (R2.hx x3)
    rw [List.drop_eq_getElem_cons hlt] at q2
    refine ⟨σd2, O2, ds[i], R2.mono x3, rv, asg_mn _ _ _ _ _ (fun s z σ' ag R' => ?_) q2⟩
    refine ⟨s, O2, R', B.mn { nx := fun σ' => forD t gb (ds.drop (i + 1)) (dn X.K b H0 (hide O H) D) σ', rt := (dn X.K b H0 (hide O H) D).rt, bk := (dn X.K b H0 (hide O H) D).nx, ct := fun σ' => forD t gb (ds.drop (i + 1)) (dn X.K b H0 (hide O H) D) σ' } _ _ (fun σ5 w5 σ6 H6 O6 R6 x6 => ⟨hlt, σ5, O6, R6, x4.trans x6, w5⟩) (fun d w5 => w5) (fun σ5 w5 σ6 H6 O6 R6 x6 => w5 σ6 H6 O6 R6 (xO.trans (x4.trans x6))) (fun σ5 w5 σ6 H6 O6 R6 x6 => ⟨hlt, σ5, O6, R6, x4.trans x6, w5⟩) z⟩
  · have e : i = ds.length := by omega
    subst e
    rw [List.drop_length] at q2
    exact .inl ⟨w.2 rfl, q2 σ2 H2 O2 R2 (xO.trans x2)⟩
end
end DL
/-! DE3 -/
set_option Elab.async false
set_option linter.all false
set_option maxRecDepth 100000
set_option maxHeartbeats 4000000
/-! while; list comprehensions. -/
namespace DL
open PySem PySem.Spec PyProof.Rows L2
variable [TabC]
section
variable {X : Cx} {b : Option Addr} {H0 : Hp} {pos p : Pos} {tg l e : Expr} {ge ga : GE}
/-- W: the invariant with its measure -/
def gWhile (gc : GT) (gb : GSt) : GSt := fun D σ => ∃ W : Nat → StD → Prop, (∃ m, W m σ) ∧ ∀ m σ, W m σ → gc σ fun c => match c with
  | true => gb { nx := fun σ' => ∃ m', m' < m ∧ W m' σ', rt := D.rt, bk := D.nx, ct := fun σ' => ∃ m', m' < m ∧ W m' σ' } σ
  | false => D.nx σ
theorem gWhile_mn {gc : GT} {gb : GSt} (C : Mn gc) (B : MnD gb) : MnD (gWhile gc gb) := fun D D' σ h1 h2 h3 h4 ⟨W, w0, q⟩ => ⟨W, w0, fun m σ w => C _ _ _ (fun c z => by
  cases c
  · exact h1 _ z
  · exact B { nx := fun σ' => ∃ m', m' < m ∧ W m' σ', rt := D.rt, bk := D.nx, ct := fun σ' => ∃ m', m' < m ∧ W m' σ' } _ _ (fun _ w => w) h2 h1 (fun _ w => w) z) (q m σ w)⟩
theorem ds_while {c : Expr} {body : List Stmt} {gc : GT} {gb : GSt} (hp : PassesOwn (model X.prog X.w) X.A X.env X.xe) (C : DB b H0 X c gc) (B : DSs b H0 X body gb) : DS b H0 X (.While c body [] pos) (gWhile gc gb) := by
  refine ⟨ps_imp (ps_while hp C.pt B.ps) fun D σ H ⟨σd, O, R, W, ⟨m0, w0⟩, q⟩ => ?_, gWhile_mn C.mn B.mn⟩
  refine ⟨fun m σ2 H2 => ∃ σd2 O2, Rst X.K b H0 σd2 σ2 H2 O2 ∧ Ext b (hide O H) (hide O2 H2) ∧ W m σd2, ⟨m0, σd, O, R, .refl _, w0⟩, ?_⟩
  rintro m σ2 H2 ⟨σd2, O2, R2, x2, w⟩
  refine ⟨σd2, O2, R2, C.mn _ _ _ (fun c z H3 x3 => ?_) (q m σd2 w)⟩
  have x4 : Ext b (hide O H) (hide O2 H3) := x2.trans (R2.hx x3)
  cases c with
  | true =>
    refine iteT ?_
    refine ⟨fun σ' H' => ∃ m', m' < m ∧ ∃ σd5 O5, Rst X.K b H0 σd5 σ' H' O5 ∧ Ext b (hide O H) (hide O5 H') ∧ W m' σd5, fun σ' H' ⟨m', hm, w5⟩ => ⟨m', hm, w5⟩, σd2, O2, R2.mono x3, ?_⟩
    exact B.mn { nx := fun σ' => ∃ m', m' < m ∧ W m' σ', rt := (dn X.K b H0 (hide O H) D).rt, bk := (dn X.K b H0 (hide O H) D).nx, ct := fun σ' => ∃ m', m' < m ∧ W m' σ' } _ _ (fun σ5 ⟨m', hm, w5⟩ σ6 H6 O6 R6 x6 => ⟨m', hm, σ5, O6, R6, x4.trans x6, w5⟩) (fun d w5 => w5) (fun σ5 w5 σ6 H6 O6 R6 x6 => w5 σ6 H6 O6 R6 (x4.trans x6)) (fun σ5 ⟨m', hm, w5⟩ σ6 H6 O6 R6 x6 => ⟨m', hm, σ5, O6, R6, x4.trans x6, w5⟩) z
  | false =>
    refine iteF ?_
    exact z σ2 H3 O2 (R2.mono x3) x4
/-! ### list comprehensions -/
def wipeD (σ : StD) : List Nat → StD
  | [] => σ
  | v :: vs => put (wipeD σ vs) v .unset
theorem getD_setN {σ : L2.St} {i j : Nat} : (σ.set i none).getD j none = if j = i then none else σ.getD j none := by
  rw [List.getD_eq_getElem?_getD, List.getD_eq_getElem?_getD]
  by_cases h : i = j
  · subst h
    rw [if_pos rfl]
    by_cases hl : i < σ.length
    · rw [List.getElem?_set_self hl]; rfl
    · rw [List.getElem?_eq_none (by simpa using hl)]; rfl
  · rw [List.getElem?_set_ne h, if_neg (fun z => h z.symm)]
theorem tab_upd {H : Hp} {p : Addr} {o o' : HO} {P : Addr} {q : Str} (hq : H p = some o') (n1 : nt o' = true) (n2 : ∀ c q, o' ≠ LamX.CodeO c q) (t : LamX.TabS H P q) : LamX.TabS (upd H p o) P q := by
  obtain ⟨ps, h1, h2, h3⟩ := t
  refine ⟨ps, ?_, h2, fun pos cv hc => ?_⟩
  · rw [upd_ne (fun z => by rw [z, hq] at h1; cases h1; cases n1)]; exact h1
  · obtain ⟨c, e1, e2⟩ := h3 pos cv hc
    exact ⟨c, e1, by rw [upd_ne (fun z => by rw [z, hq] at e2; cases e2; exact n2 _ _ rfl)]; exact e2⟩
theorem ext_upd_new {H1 H : Hp} {p : Addr} {o : HO} (x : Ext b H1 H) (hp : H1 p = none) (hq : ∃ xs, H p = some (.lst xs)) : Ext b H1 (upd H p o) := ⟨fun a u n h t => by rw [upd_ne (ne_of_none h hp)]; exact x.1 a u n h t, fun a e c i j m h h0 => by rw [upd_ne (ne_of_none h hp)]; exact x.2.1 a e c i j m h h0,
  fun t => by
    obtain ⟨xs, hq⟩ := hq
    exact fun p hp => tab_upd hq rfl (fun c q z => by unfold LamX.CodeO at z; cases z) (x.2.2 t p hp)⟩
theorem Rst.wipe1 {K : Fg} {σd : StD} {σ : L2.St} {H : Hp} {O : List Addr} (R : Rst K b H0 σd σ H O) (i : Nat) : Rst K b H0 (put σd i .unset) (σ.set i none) H O where
  len := by rw [put_length, List.length_set]; exact R.len
  slot := fun j => by
    rw [look_put2]
    by_cases h : j = i ∧ i < σd.length
    · rw [if_pos h]; trivial
    · rw [if_neg h, getD_setN]
      by_cases e : j = i
      · have o : σd.length ≤ j := by omega
        rw [look_out o]; trivial
      · rw [if_neg e]; exact R.slot j
  uniq := fun j k a h1 h2 => by
    rw [look_put2] at h1 h2
    rw [getD_setN] at h1 h2
    by_cases ej : j = i
    · rw [if_pos ej] at h1
      split at h1 <;> first | exact h1.elim | (rename_i hh; rw [look_out (by omega)] at h1; exact h1.elim)
    · by_cases ek : k = i
      · rw [if_pos ek] at h2
        split at h2 <;> first | exact h2.elim | (rename_i hh; rw [look_out (by omega)] at h2; exact h2.elim)
      · rw [if_neg ej, if_neg (fun z => ej z.1)] at h1
        rw [if_neg ek, if_neg (fun z => ek z.1)] at h2
        exact R.uniq j k a h1 h2
  nb := R.nb
  le := R.le
  bg := R.bg
theorem Rst.wipe {K : Fg} {σd : StD} {σ : L2.St} {H : Hp} {O : List Addr} (R : Rst K b H0 σd σ H O) : ∀ vs : List Nat, Rst K b H0 (wipeD σd vs) (L2.wipe σ vs) H O
  | [] => R
  | v :: vs => (Rst.wipe R vs).wipe1 v
theorem wipe_get {σ : L2.St} (j : Nat) : ∀ vs : List Nat, (L2.wipe σ vs)[j]? = if j ∈ vs then (if j < σ.length then some none else none) else σ[j]?
  | [] => by simp [L2.wipe]
  | v :: vs => by
    unfold L2.wipe
    by_cases e : v = j
    · subst e
      by_cases hl : v < σ.length
      · rw [List.getElem?_set_self (by rw [wipe_length]; exact hl)]; simp [hl]
      · rw [List.getElem?_eq_none (by simp [wipe_length]; omega)]; simp [hl]
    · rw [List.getElem?_set_ne e, wipe_get j vs]
      have e' : ¬ j = v := fun z => e z.symm
      simp [e']
theorem wipe_agree {σ σ' : L2.St} {vs l : List Nat} (h : Agree (L2.wipe σ vs) σ' l) (hl : ∀ j ∈ l, j ∈ vs) : L2.wipe σ' vs = L2.wipe σ vs := by
  apply List.ext_getElem?
  intro j
  rw [wipe_get, wipe_get]
  have e : σ'.length = σ.length := by rw [h.1, wipe_length]
  by_cases m : j ∈ vs
  · rw [if_pos m, if_pos m, e]
  · rw [if_neg m, if_neg m]
    have z := h.2 j (fun z => m (hl j z))
    rw [wipe_get, if_neg m] at z
    exact z
def gYes : GT := fun _ k => k true
structure DTs (b : Option Addr) (H0 : Hp) (X : Cx) (ifs : List Expr) (g : GT) : Prop where
  pts : PTs X ifs (LB X.K b H0 g)
  mn : Mn g
theorem pts_imp {ifs : List Expr} {t t' : TT} (h : PTs X ifs t) (i : ∀ σ H Q, t' σ H Q → t σ H Q) : PTs X ifs t' := ⟨fun pins s σ H Q I q => h.run pins s σ H Q I (i σ H Q q)⟩
theorem dts_nil : DTs b H0 X [] gYes := ⟨pts_imp pts_nil fun σ H Q ⟨σd, O, R, q⟩ => q H (.refl H), fun σ k k' i q => i _ q⟩
theorem dts_one {c : Expr} {g : GT} (h : DB b H0 X c g) : DTs b H0 X [c] g := ⟨pts_one h.pt, h.mn⟩
def lcD (t : Tgt) (gt : GT) (ge : GE) (σ : StD) : List D → List D → (D → Prop) → Prop
  | [], acc, k => k (.lst acc)
  | d :: r, acc, k => asg t d σ fun σ2 => gt σ2 fun c => match c with
    | true => ge σ2 fun y => acc.length < 1000000 ∧ lcD t gt ge σ r (acc ++ [y]) k
    | false => lcD t gt ge σ r acc k
def gLc (gi : GI) (t : Tgt) (gt : GT) (ge : GE) (vs : List Nat) : GE := fun σ k => gi σ fun ds => lcD t gt ge (wipeD σ vs) ds [] k
theorem lcD_mn {t : Tgt} {gt : GT} {ge : GE} {σ : StD} (T : Mn gt) (E : Mn ge) : ∀ (ds acc : List D) (k k' : D → Prop), (∀ d, k d → k' d) → lcD t gt ge σ ds acc k → lcD t gt ge σ ds acc k'
  | [], acc, k, k', h, q => h _ q
  | d :: r, acc, k, k', h, q => asg_mn _ _ _ _ _ (fun s z => T _ _ _ (fun c w => by
    cases c
    · exact lcD_mn T E r acc k k' h w
    · exact E _ _ _ (fun y v => ⟨v.1, lcD_mn T E r _ k k' h v.2⟩) w) z) q
theorem gLc_mn {gi : GI} {t : Tgt} {gt : GT} {ge : GE} {vs : List Nat} (I : Mn gi) (T : Mn gt) (E : Mn ge) : Mn (gLc gi t gt ge vs) := fun σ k k' i q => I _ _ _ (fun ds z => lcD_mn T E ds [] k k' i z) q
theorem ext_hide_new {O : List Addr} {H1 H : Hp} {p : Addr} (x : Ext b H1 H) (hp : H1 p = none) (hO : ∀ a ∈ O, some a ≠ b ∧ Hid O H1 a) (hh : Hid (p :: O) H p) : Ext b (hide O H1) (hide (p :: O) H) := by
  refine ⟨fun a o n e t => ?_, fun a e c i j m h h0 => ?_, fun t => ?_⟩
  · obtain ⟨h1, h2⟩ := of_hide e
    rw [hide_out (by simp only [List.mem_cons, not_or]; exact ⟨ne_of_none h2 hp, h1⟩)]
    exact x.1 a o n h2 t
  · obtain ⟨h1, h2⟩ := of_hide h
    rw [hide_out (by simp only [List.mem_cons, not_or]; exact ⟨ne_of_none h2 hp, h1⟩)]
    exact x.2.1 a e c i j m h2 h0
  · refine tabs_hide (fun a m => ?_) (x.2.2 (tabs_unhide t))
    rcases List.mem_cons.mp m with rfl | m
    · exact hh.nt
    · obtain ⟨n, h⟩ := hO a m
      obtain ⟨o, e, t1, t2⟩ := h.nt
      exact ⟨o, x.1 a o n e t1, t1, t2⟩
theorem Rst.addO {K : Fg} {σd : StD} {σ : L2.St} {H1 H : Hp} {O : List Addr} {p : Addr} (R : Rst K b H0 σd σ H1 O) (x : Ext b H1 H) (hp : H1 p = none) (h : Hid (p :: O) H p) : Rst K b H0 σd σ H (p :: O) := by
  have R2 := R.mono x
  have hpO := (R.free hp).1
  have hpb := (R.free hp).2
  have xn : Ext b (hide O H1) (hide (p :: O) H) := ext_hide_new x hp (fun a m => ⟨(R.nb a m).1, (R.nb a m).2.2⟩) h
  refine ⟨R.len, fun i => ?_, R.uniq, fun a m => ?_, R.le.trans xn, R.bg.ext xn⟩
  · have s := R.slot i
    have l : Le b (hide O H1) (hide (p :: O) H) := xn.1
    cases e : look σd i with
    | unset => trivial
    | sh d => rw [e] at s; obtain ⟨v, e1, r⟩ := s; exact ⟨v, e1, r.mono l⟩
    | own ds => rw [e] at s; obtain ⟨a, vs, e1, m, h1, r⟩ := s; exact ⟨a, vs, e1, List.mem_cons_of_mem _ m, x.1 _ _ (R.nb a m).1 h1 rfl, r.mono l⟩
    | gho a ds => rw [e] at s; obtain ⟨vs, m, h1, r⟩ := s; exact ⟨vs, List.mem_cons_of_mem _ m, x.1 _ _ (R.nb a m).1 h1 rfl, r.mono l⟩
    | owd kx ds => rw [e] at s; obtain ⟨a, vs, e1, m, h1, r⟩ := s; exact ⟨a, vs, e1, List.mem_cons_of_mem _ m, x.1 _ _ (R.nb a m).1 h1 rfl, r.mono l⟩
    | ott kx ds => rw [e] at s; obtain ⟨a, vs, e1, m, h1, r⟩ := s; exact ⟨a, vs, e1, List.mem_cons_of_mem _ m, x.1 _ _ (R.nb a m).1 h1 rfl, r.mono l⟩
    | obj a dx c ns ds => rw [e] at s; obtain ⟨vs, e1, m, md, h1, h2, l2, r⟩ := s; exact ⟨vs, e1, List.mem_cons_of_mem _ m, List.mem_cons_of_mem _ md, x.1 _ _ (R.nb a m).1 h1 rfl, x.1 _ _ (R.nb dx md).1 h2 rfl, l2, r.mono l⟩
  · rcases List.mem_cons.mp m with rfl | m
    · exact ⟨hpb, trivial, h⟩
    · obtain ⟨n1, n2, n3⟩ := R2.nb a m
      refine ⟨n1, n2, ?_⟩
      obtain ⟨o, e, n3⟩ := n3
      refine ⟨o, e, ?_⟩
      cases o <;> first | exact n3.elim | exact List.mem_cons_of_mem _ n3 | exact ⟨List.mem_cons_of_mem _ n3.1, n3.2⟩ | trivial
/-- the owned list at p grows: what else is read stands -/
theorem Rst.updO {K : Fg} {σd : StD} {σ : L2.St} {H : Hp} {O : List Addr} {p : Addr} {xs : List V} (R : Rst K b H0 σd σ H O) (hp : p ∈ O) (ne : ∀ i a, Owns (look σd i) (σ.getD i none) a → a ≠ p) (ex : ∃ ys, H p = some (.lst ys)) : Rst K b H0 σd σ (upd H p (.lst xs)) O := by
  obtain ⟨ys, ex⟩ := ex
  refine ⟨R.len, fun i => ?_, R.uniq, fun a m => ?_, by rw [hide_upd hp]; exact R.le, by rw [hide_upd hp]; exact R.bg⟩
  · have s := R.slot i
    have w := ne i
    cases e : look σd i with
    | unset => trivial
    | sh d => rw [e] at s; obtain ⟨v, e1, r⟩ := s; exact ⟨v, e1, by rw [hide_upd hp]; exact r⟩
    | own ds =>
      rw [e] at s w
      obtain ⟨a, vs, e1, m, h1, r⟩ := s
      exact ⟨a, vs, e1, m, by rw [upd_ne (w a (by rw [e1]; rfl))]; exact h1, by rw [hide_upd hp]; exact r⟩
    | gho a ds =>
      rw [e] at s w
      obtain ⟨vs, m, h1, r⟩ := s
      exact ⟨vs, m, by rw [upd_ne (w a (by exact rfl))]; exact h1, by rw [hide_upd hp]; exact r⟩
    | owd kx ds =>
      rw [e] at s w
      obtain ⟨a, vs, e1, m, h1, r⟩ := s
      exact ⟨a, vs, e1, m, by rw [upd_ne (w a (by rw [e1]; rfl))]; exact h1, by rw [hide_upd hp]; exact r⟩
    | ott kx ds =>
      rw [e] at s w
      obtain ⟨a, vs, e1, m, h1, r⟩ := s
      exact ⟨a, vs, e1, m, by rw [upd_ne (w a (by rw [e1]; rfl))]; exact h1, by rw [hide_upd hp]; exact r⟩
    | obj a dx c ns ds =>
      rw [e] at s w
      obtain ⟨vs, e1, m, md, h1, h2, l2, r⟩ := s
      have hdx : dx ≠ p := fun z => by rw [z, ex] at h2; cases h2
      exact ⟨vs, e1, m, md, by rw [upd_ne (w a (by rw [e1]; rfl))]; exact h1, by rw [upd_ne hdx]; exact h2, l2, by rw [hide_upd hp]; exact r⟩
  · obtain ⟨n1, n2, n3⟩ := R.nb a m
    refine ⟨n1, n2, ?_⟩
    by_cases e : a = p
    · subst e; exact ⟨_, upd_same, trivial⟩
    · obtain ⟨o, e2, n3⟩ := n3
      refine ⟨o, by rw [upd_ne e]; exact e2, ?_⟩
      cases o <;> first | exact n3 | (obtain ⟨q1, C, fs, q2⟩ := n3; exact ⟨q1, C, fs, by rw [upd_ne (fun z => by rw [z, ex] at q2; cases q2)]; exact q2⟩)
end
section
variable {X : Cx} {b : Option Addr} {H0 : Hp} {elt tg iter : Expr} {ifs : List Expr} {scope : Scope} {own : List (Str × Nat)} {pos : Pos} {gi : GI} {t : Tgt} {gt : GT} {ge : GE}
theorem lc_run {σ : L2.St} {H : Hp} {Q : VK} (I : Mn gi) (T : Mn gt) (E : Mn ge) (hsl : ∀ j ∈ slots t, j ∈ own.map (·.2)) (h : LE X.K b H0 (gLc gi t gt ge (own.map (·.2))) σ H Q) :
    tLc (LI X.K b H0 gi) (LG X.K b H0 t) (LB X.K b H0 gt) (LE X.K b H0 ge) (own.map (·.2)) σ H Q := by
  obtain ⟨σd, O, R, q⟩ := h
  refine ⟨σd, O, R, I _ _ _ (fun ds hd J H1 x1 wk => ?_) q⟩
  intro Dd hD
  have R1 := R.mono x1
  have hDO := (R1.free hD).1
  have hDb := (R1.free hD).2
  -- the invariant
  refine ⟨fun i m H2 => m = ds.length - i ∧ i ≤ ds.length ∧ ∃ acc accv, H2 Dd = some (.lst accv) ∧ Reps X.K b (hide (Dd :: O) H2) acc accv ∧ Rst X.K b H0 (wipeD σd (own.map (·.2))) (L2.wipe σ (own.map (·.2))) H2 (Dd :: O) ∧ Ext b H1 H2 ∧
    lcD t gt ge (wipeD σd (own.map (·.2))) (ds.drop i) acc (fun d => ∀ v H', Ext b H H' → Rep X.K b (hide O H') d v → Q v H'), ⟨ds.length, by simp, Nat.zero_le _, [], [], upd_same, Reps.nil, ?_, .new hD, hd⟩, ?_⟩
  · exact ((R1.addO (.new hD) hD ⟨_, upd_same, trivial⟩).wipe _)
  rintro i m H2 ⟨rfl, hi, acc, accv, hacc, racc, R2, x2, q2⟩
  have x3 : Ext b (hide O H1) (hide (Dd :: O) H2) := ext_hide_new x2 hD (fun a m => ⟨(R1.nb a m).1, (R1.nb a m).2.2⟩) ⟨_, hacc, trivial⟩
  have w := wk i H2 (Dd :: O) x3 (fun p hp => R2.free hp)
  by_cases hlt : i < ds.length
  · have e : ds[i]? = some ds[i] := List.getElem?_eq_getElem hlt
    obtain ⟨go, yl⟩ := w.1 _ e
    refine .inr ⟨go, fun H' => i + 1 ≤ ds.length ∧ ∃ acc accv, H' Dd = some (.lst accv) ∧ Reps X.K b (hide (Dd :: O) H') acc accv ∧ Rst X.K b H0 (wipeD σd (own.map (·.2))) (L2.wipe σ (own.map (·.2))) H' (Dd :: O) ∧ Ext b H1 H' ∧
      lcD t gt ge (wipeD σd (own.map (·.2))) (ds.drop (i + 1)) acc (fun d => ∀ v H', Ext b H H' → Rep X.K b (hide O H') d v → Q v H'), fun H' hN => ⟨ds.length - (i + 1), by omega, rfl, hN.1, hN.2⟩, fun y H3 hy => ?_⟩
    obtain ⟨x4, rv⟩ := yl y H3 hy
    rw [List.drop_eq_getElem_cons hlt] at q2
    refine ⟨_, Dd :: O, ds[i], R2.mono x4, rv, asg_mn _ _ _ _ _ (fun s z σ' ag R' => ?_) q2⟩
    refine ⟨wipe_agree ag hsl, s, Dd :: O, R', T _ _ _ (fun c hc H5 x5 => ?_) z⟩
    have R5 := R'.mono x5
    have x45 := x4.trans x5
    have hacc5 : H5 Dd = some (.lst accv) := x45.1 _ _ hDb hacc rfl
    have racc5 : Reps X.K b (hide (Dd :: O) H5) acc accv := racc.mono (x45.1.hide _)
    cases c with
    | true =>
      refine iteT ?_
      refine ⟨s, Dd :: O, R5, E _ _ _ (fun d hd v H6 x6 r6 => ?_) hc⟩
      have hacc6 : H6 Dd = some (.lst accv) := x6.1 _ _ hDb hacc5 rfl
      refine ⟨accv, hacc6, by rw [← racc.length]; exact Nat.lt_of_lt_of_le hd.1 (by decide), hlt, acc ++ [d], accv ++ [v], upd_same, ?_, ?_, ?_, hd.2⟩
      · rw [hide_upd List.mem_cons_self]
        exact (racc5.mono (x6.1.hide _)).append (Reps.cons r6 Reps.nil)
      · refine ((R2.mono (x45.trans x6)).updO List.mem_cons_self (fun i a ow z => ?_) ⟨_, hacc6⟩)
        subst z
        -- a slot owns Dd: no slot's list was Dd, for Dd came later
        have sl := ((R1.wipe (own.map (·.2))).slot i)
        cases e1 : look (wipeD σd (own.map (·.2))) i with
        | unset => rw [e1] at ow; exact ow.elim
        | sh d => rw [e1] at ow; exact ow.elim
        | own ds =>
          rw [e1] at ow sl
          obtain ⟨a', vs, e2, m, _⟩ := sl
          rw [e2] at ow
          have : a = a' := ow
          exact hDO (this ▸ m)
        | gho a' ds =>
          rw [e1] at ow sl
          obtain ⟨vs, m, _⟩ := sl
          have : a = a' := ow
          exact hDO (this ▸ m)
        | owd kx ds =>
          rw [e1] at ow sl
          obtain ⟨a', vs, e2, m, _⟩ := sl
          rw [e2] at ow
          have : a = a' := ow
          exact hDO (this ▸ m)
        | ott kx ds =>
          rw [e1] at ow sl
          obtain ⟨a', vs, e2, m, _⟩ := sl
          rw [e2] at ow
          have : a = a' := ow
          exact hDO (this ▸ m)
        | obj a' dx c ns ds =>
          rw [e1] at ow sl
          obtain ⟨vs, e2, m, _⟩ := sl
          rw [e2] at ow
          have : a = a' := ow
          exact hDO (this ▸ m)
      · exact ext_upd_new (x2.trans (x45.trans x6)) hD ⟨_, hacc6⟩
    | false =>
      refine iteF ?_
      exact ⟨hlt, acc, accv, hacc5, racc5, R2.mono x45, x2.trans x45, hc⟩
  · have e : i = ds.length := by omega
    subst e
    rw [List.drop_length] at q2
    refine .inl ⟨w.2 rfl, q2 _ H2 (x1.trans x2) ?_⟩
    exact Rep.mkLst hDb (.inl (.inl (by rw [hide_out hDO]; exact hacc))) (racc.mono (hide_mono fun a m => List.mem_cons_of_mem _ m))
end
end DL
/-! DE4 -/
set_option Elab.async false
set_option linter.all false
set_option maxRecDepth 100000
set_option maxHeartbeats 4000000
/-! Comprehensions as expressions; calls; a def by its body. -/
namespace DL
open PySem PySem.Spec PyProof.Rows L2
variable [TabC]
noncomputable def sh0 : Shared := ⟨default, #[], PySem.W.boot_drawn, 0, default⟩
section
variable {X : Cx} {b : Option Addr} {H0 : Hp} {elt tg iter : Expr} {ifs : List Expr} {scope : Scope} {own : List (Str × Nat)} {pos : Pos} {gi : GI} {t : Tgt} {gt : GT} {ge : GE}
theorem de_lc (hc : X.calm = true) (hN : X.N.Nodup) (I : DI b H0 X tg iter gi) (ok : BlkOk X.N X.env.scope scope own)
    (G : ∀ (s : Shared) (H : Hp) (C : Addr) (cl : List (Str × Addr)) (fp : List Addr), DG b H0 (X.blk s H scope (compEnvC scope cl C X.env) fp) tg t) (T : ∀ (s : Shared) (H : Hp) (C : Addr) (cl : List (Str × Addr)) (fp : List Addr), DTs b H0 (X.blk s H scope (compEnvC scope cl C X.env) fp) ifs gt)
    (E : ∀ (s : Shared) (H : Hp) (C : Addr) (cl : List (Str × Addr)) (fp : List Addr), DE b H0 (X.blk s H scope (compEnvC scope cl C X.env) fp) elt ge) (hsl : ∀ j ∈ slots t, j ∈ own.map (·.2) := by decide) (hs : ∀ x, foldedSetIterable iter X.env x = pure x := by intro _; rfl) :
    DE b H0 X (.ListComp elt [⟨tg, iter, ifs, 0⟩] scope pos) (gLc gi t gt ge (own.map (·.2))) :=
  ⟨pe_imp (pe_lc (g := LG X.K b H0 t) (tt := LB X.K b H0 gt) (te := LE X.K b H0 ge) hc hN I.pi ok (fun s H C cl fp => (G s H C cl fp).pg) (fun s H C cl fp => (T s H C cl fp).pts) (fun s H C cl fp => (E s H C cl fp).pe) hs) fun σ H Q h =>
    lc_run I.mn (T sh0 (fun _ => none) 0 [] []).mn (E sh0 (fun _ => none) 0 [] []).mn hsl h,
    gLc_mn I.mn (T sh0 (fun _ => none) 0 [] []).mn (E sh0 (fun _ => none) 0 [] []).mn⟩
theorem ds_setLc {i : Nat} {y : Str} {py spos : Pos} (hc : X.calm = true) (hN : X.N.Nodup) (hy : X.N[i]? = some y) (hyl : X.env.scope.names.lookup y = some .local)
    (hsw : swapsWith (.ListComp elt [⟨tg, iter, ifs, 0⟩] scope pos) (some (.Name y py)) spos.line X.env = pure true) (I : DI b H0 X tg iter gi) (ok : BlkOk X.N X.env.scope scope own)
    (G : ∀ (s : Shared) (H : Hp) (C : Addr) (cl : List (Str × Addr)) (fp : List Addr), DG b H0 (X.blk s H scope (compEnvC scope cl C X.env) fp) tg t) (T : ∀ (s : Shared) (H : Hp) (C : Addr) (cl : List (Str × Addr)) (fp : List Addr), DTs b H0 (X.blk s H scope (compEnvC scope cl C X.env) fp) ifs gt)
    (E : ∀ (s : Shared) (H : Hp) (C : Addr) (cl : List (Str × Addr)) (fp : List Addr), DE b H0 (X.blk s H scope (compEnvC scope cl C X.env) fp) elt ge) (hsl : ∀ j ∈ slots t, j ∈ own.map (·.2) := by decide) (hs : ∀ x, foldedSetIterable iter X.env x = pure x := by intro _; rfl) :
    DS b H0 X (.Assign [.Name y py] (.ListComp elt [⟨tg, iter, ifs, 0⟩] scope pos) spos) (gAsg i (gLc gi t gt ge (own.map (·.2)))) := by
  have mt := (T sh0 (fun _ => none) 0 [] []).mn
  have me := (E sh0 (fun _ => none) 0 [] []).mn
  refine ⟨ps_imp (ps_setLc (g := LG X.K b H0 t) (tt := LB X.K b H0 gt) (te := LE X.K b H0 ge) hc hN hy hyl hsw I.pi ok (fun s H C cl fp => (G s H C cl fp).pg) (fun s H C cl fp => (T s H C cl fp).pts) (fun s H C cl fp => (E s H C cl fp).pe) hs) fun D σ H ⟨σd, O, R, q⟩ => ?_, gAsg_mn (gLc_mn I.mn mt me)⟩
  exact lc_run I.mn mt me hsl ⟨σd, O, R, gLc_mn I.mn mt me _ _ _ (fun d z v H' x1 r => z _ H' O ((R.mono x1).set i r) (R.hx x1)) q⟩
end
/-! ### calls of the program's own -/
section
variable {X : Cx} {b : Option Addr} {H0 : Hp} {E : XK} {eo : XD → Prop} {s : GS} {k : Nat} {f C : Addr} {fd : FuncData} {ps : List Str} {dd : List D} {dvs : List V} {dus : List Value} {x m : Str} {p pos apos : Pos} {e o : Expr} {es : List Expr} {ga : GA} {go : GE}
/-- s: the callee's promise; dd: the defaults that fill up -/
def gCall (s : GS) (dd : List D) (eo : XD → Prop) (ga : GA) : GE := fun σ k => ga σ fun ds => s (ds ++ dd) k eo
/-- o.m(..), o an instance of the class c -/
def gMeth (c : Str) (m : Str) (s : GS) (dd : List D) (eo : XD → Prop) (go : GE) (ga : GA) : GE := fun σ k => go σ fun d => match d with
  | .ins c' ns ds => c' = c ∧ m ∉ ns ∧ ga σ fun es => s (.ins c' ns ds :: (es ++ dd)) k eo
  | _ => False
theorem lookup_zip_none {m : Str} : ∀ {ns : List Str} {vs : List V}, m ∉ ns → (ns.zip vs).lookup m = none
  | [], _, _ => rfl
  | _ :: _, [], _ => rfl
  | n :: ns, v :: vs, h => by
    have h1 : ¬ m = n := fun z => h (by simp [z])
    have h2 : m ∉ ns := fun z => h (List.mem_cons_of_mem _ z)
    simp only [List.zip_cons_cons, List.lookup]
    rw [show (m == n) = false by simpa using h1]
    exact lookup_zip_none h2
end
/-! ### a def keeps its promise, by its body -/
def startD (N : List Str) (ds : List D) : StD := ds.map SD.sh ++ List.replicate (N.length - ds.length) SD.unset
theorem hide_nil (H : Hp) : hide [] H = H := by
  funext a
  exact if_neg (by simp)
theorem look_app : ∀ (l r : StD) (i : Nat), look (l ++ r) i = if i < l.length then look l i else look r (i - l.length)
  | [], r, i => by simp
  | x :: l, r, 0 => by simp [look]
  | x :: l, r, i + 1 => by
    simp only [List.cons_append, look, List.length_cons]
    rw [look_app l r i]
    by_cases h : i < l.length
    · rw [if_pos h, if_pos (by omega)]
    · rw [if_neg h, if_neg (by omega)]
      congr 1
      omega
theorem look_rep : ∀ (n i : Nat), look (List.replicate n SD.unset) i = .unset
  | 0, _ => rfl
  | n + 1, 0 => rfl
  | n + 1, i + 1 => look_rep n i
theorem look_sh : ∀ {ds : List D} {i : Nat}, i < ds.length → ∃ d, ds[i]? = some d ∧ look (ds.map SD.sh) i = .sh d
  | [], _, h => by simp at h
  | d :: r, 0, _ => ⟨d, rfl, rfl⟩
  | d :: r, i + 1, h => by
    obtain ⟨d', e1, e2⟩ := look_sh (ds := r) (i := i) (by simpa using h)
    exact ⟨d', by simpa using e1, e2⟩
theorem rst_start {K : Fg} {b : Option Addr} {H : Hp} {N : List Str} {ds : List D} {vs : List V} (bg : Bg b H) (r : Reps K b H ds vs) : Rst K b H (startD N ds) (L2.start N vs) H [] where
  len := by simp [startD, L2.start, r.length]
  slot := fun i => by
    unfold startD
    rw [look_app, List.length_map]
    by_cases h : i < ds.length
    · rw [if_pos h]
      obtain ⟨d, e1, e2⟩ := look_sh h
      rw [e2]
      obtain ⟨v, e3, rv⟩ := r.get e1
      refine ⟨v, ?_, by rw [hide_nil]; exact rv⟩
      unfold L2.start
      rw [List.getD_eq_getElem?_getD, List.getElem?_append_left (by rw [List.length_map, ← r.length]; exact h), List.getElem?_map, e3]
      rfl
    · rw [if_neg h, look_rep]; trivial
  uniq := fun i j a h1 _ => by
    unfold startD at h1
    rw [look_app, List.length_map] at h1
    by_cases h : i < ds.length
    · rw [if_pos h] at h1
      obtain ⟨d, e1, e2⟩ := look_sh h
      rw [e2] at h1; exact h1.elim
    · rw [if_neg h, look_rep] at h1; exact h1.elim
  nb := fun a m => by cases m
  le := by rw [hide_nil]; exact .refl H
  bg := by rw [hide_nil]; exact bg
/-- what a body is handed: its ends -/
abbrev fin (k : D → Prop) : EndD := { nx := fun _ => k .non, rt := k }
section
variable {P : Program} {w : World} {K : Fg} {mg : Str → Option Value} {base : Heap} {x qual : Str} {params : Arguments} {body : List Stmt} {scope : Scope} {dvs : List V} {kws : List (Str × V)} {f : Addr} {fd : FuncData}
theorem okD {N ps : List Str} {k : Nat} {s : GS} (F : FunD K x qual params body scope dvs kws f fd) (S : FnScope N ps scope) (hl : ∀ ds k e, s ds k e → ds.length = ps.length)
    (hbody : ∀ (cdv : Value) (A : Around) (outer : List Env) (s0 : Shared) (H : Hp) (E : XK) (b : Option Addr) (eo : XD → Prop), Room k (A.deeper (envOfC qual scope s0.heap.objs.size f cdv)) → Cz (cxOf (L2.CX P w) P w K mg base N qual scope f cdv A outer s0 H E) b H E eo →
      ∃ g, DSs b H (cxOf (L2.CX P w) P w K mg base N qual scope f cdv A outer s0 H E) body g ∧ ∀ ds k, s ds k eo → g (fin k) (startD N ds)) : FnOk P w K mg base (L2.CX P w) (k + 1) f fd ps (lift K s) := by
  refine F.ok S (fun vs H Q E ⟨b, ds, _, r, h⟩ => by rw [← r.length]; exact hl _ _ _ h) fun cdv A outer s0 H vs Q E hr ⟨b, ds, bg, r, h⟩ => ?_
  obtain ⟨g, dg, rd⟩ := hbody cdv A outer s0 H E b (fun x => ∀ cls d H', Ext b H H' → XAt K b H' x cls d → E cls d H') hr ⟨passes_call (takes_of rfl rfl rfl rfl) fun _ _ _ _ z => z, fun x cls d H' z x1 xa => z cls d H' x1 xa⟩
  refine ⟨_, dg.ps, startD N ds, [], rst_start bg r, dg.mn (fin _) _ _ (fun σ q σ' H' O R x1 => ?_) (fun d q v H' x1 r1 => q v H' x1 r1) (fun σ q => q.elim) (fun σ q => q.elim) (rd ds _ h)⟩
  have z : ∀ v H', Ext b H H' → Rep K b H' .non v → Q v H' := q
  exact z .non H' (R.ret (.refl H')) rfl
end
end DL
/-! DE5 -/
set_option Elab.async false
set_option linter.all false
set_option maxRecDepth 100000
set_option maxHeartbeats 4000000
/-! What is owned, pinned while something else runs; new instances; fields. -/
namespace DL
open PySem PySem.Spec PyProof.Rows L2
variable [TabC]
section
variable {X : Cx} {b : Option Addr} {H0 : Hp} {pins : List (Addr × Obj)} {σ σ2 : L2.St} {σd : StD} {H : Hp} {s0 s' : Shared} {O : List Addr}
theorem hid_obj (I : Inv X pins σ H s0) (hO : ∀ a ∈ O, Hid O H a) {a : Addr} (m : a ∈ O) : ∃ ob, s0.heap.get? a = some ob ∧ ∀ v, ob.data ≠ .cell v := by
  obtain ⟨o, e, q⟩ := hO a m
  have z := I.hok a o e
  cases o with
  | lst xs => obtain ⟨_, its, n, _, h⟩ := z; exact ⟨_, h, fun v w => by cases w⟩
  | dK kvs => obtain ⟨_, _, _, _, ob, es, ep, h, _, hd, _⟩ := z; exact ⟨_, h, fun v w => by rw [hd] at w; cases w⟩
  | dT kvs => obtain ⟨_, _, _, _, ob, es, ep, h, _, hd, _⟩ := z; exact ⟨_, h, fun v w => by rw [hd] at w; cases w⟩
  | ins C dx fs => obtain ⟨_, _, _, h, _⟩ := z; exact ⟨_, h, fun v w => by cases w⟩
  | own y =>
    obtain ⟨_, C, fs, hy⟩ := q
    obtain ⟨_, _, _, _, mA, ⟨od, es, ep, h, hd, _⟩, _⟩ := I.hok y _ hy
    exact ⟨od, h, fun v w => by rw [hd] at w; cases w⟩
  | _ => exact q.elim
theorem fs_none (I : Inv X pins σ H s0) {a : Addr} (h : a ∈ X.fs) : H a = none := by
  obtain ⟨_, o, ho, _⟩ := I.ok.funs.mem h
  exact I.base.free a o ho (I.ok.frf a h) fun z => I.ok.exfs a z h
theorem inv_pinO (I : Inv X pins σ H s0) (hO : ∀ a ∈ O, Hid O H a) : Inv X (pins ++ pinsAt O s0.heap) σ (hide O H) s0 := by
  have I1 := inv_hide I hO
  refine I1.pins_of fun p hp => (List.mem_append.mp hp).elim (fun z => I1.pin p (List.mem_append_right _ z)) fun z => ?_
  obtain ⟨hb, e⟩ := of_pinsAt z
  obtain ⟨ob, e2, d⟩ := hid_obj I hO hb
  rw [e] at e2; cases e2
  exact ⟨e, hide_in hb, fun w => (hO _ hb).ne (by rw [w]; exact I.free), fun w => (hO _ hb).ne (fs_none I w), d⟩
theorem inv_unO (I : Inv X pins σ H s0) (hO : ∀ a ∈ O, Hid O H a) (I2 : Inv X (pins ++ pinsAt O s0.heap) σ2 H2 s') (tu : ∀ c xs, hide O H c = some (.tup xs) → H2 c = some (.tup xs)) : (∀ a ∈ O, H2 a = none) ∧ Inv X pins σ2 (back O H H2) s' := by
  have thr : ∀ a ∈ O, ∃ ob, s0.heap.get? a = some ob ∧ s'.heap.get? a = some ob ∧ H2 a = none := fun a m => by
    obtain ⟨ob, e, _⟩ := hid_obj I hO m
    obtain ⟨h1, h2, _⟩ := I2.pin (a, ob) (List.mem_append_right _ (List.mem_append_right _ (mem_pinsAt m e)))
    exact ⟨ob, e, h1, h2⟩
  have fr : ∀ a ∈ O, H2 a = none := fun a m => by
    obtain ⟨_, _, _, h⟩ := thr a m
    exact h
  have out : ∀ {a : Addr}, H a = none → a ∉ O := fun h m => (hO _ m).ne h
  refine ⟨fr, ⟨I2.ok, I2.os, I2.bare, ⟨fun c o e n h1 h2 => I2.base.keep c o e n h1 h2, fun c o e n h1 h2 => I2.base.slot c o e n h1 h2, fun c o e n h => ?_, fun c o e h => I2.base.there c o e h, fun c xs e => ?_, fun c o u e => ?_, fun c ps e => ?_⟩, I2.loc, I2.cell, ?_, fun x c e => ?_, fun p hp => ?_, ?_, I2.len⟩⟩
  · rw [back_out (out (I.base.free c o e n h))]; exact I2.base.free c o e n h
  · have q := hide_keep hO (I.base.tups c xs e) (.inl ⟨xs, rfl⟩)
    rw [back_out (of_hide q).1]; exact I2.base.tups c xs e
  · have q := hide_keep hO (I.base.frzs c o u e) (.inr (.inl ⟨o, u, rfl⟩))
    rw [back_out (of_hide q).1]; exact I2.base.frzs c o u e
  · obtain ⟨m, e2⟩ := I.base.tbls c ps e
    have q := hide_keep hO e2 (.inr (.inr ⟨_, rfl⟩))
    rw [back_out (of_hide q).1]; exact I2.base.tbls c ps e
  · rw [back_out (out I.free)]; exact I2.free
  · rw [back_out (out (I.freeC x c e))]; exact I2.freeC x c e
  · obtain ⟨h1, h2, h3, h4, h5⟩ := I2.pin p ((List.mem_append.mp hp).elim (fun z => List.mem_append_left _ z) fun z => List.mem_append_right _ (List.mem_append_left _ z))
    obtain ⟨_, g2, _⟩ := I.pin p hp
    exact ⟨h1, by rw [back_out (out g2)]; exact h2, h3, h4, h5⟩
  · intro a o e
    by_cases m : a ∈ O
    · rw [back_in m] at e
      obtain ⟨ob, q1, q2, _⟩ := thr a m
      obtain ⟨o2, e2, hid⟩ := hO a m
      rw [e] at e2; cases e2
      have z := I.hok a o e
      cases o with
      | lst xs =>
        obtain ⟨z1, its, n, r, h⟩ := z
        rw [q1] at h; cases h
        exact ⟨z1, its, n, r, q2⟩
      | dK kvs =>
        obtain ⟨z1, y, vs, r, ob', es, ep, h, c⟩ := z
        rw [q1] at h; cases h
        exact ⟨z1, y, vs, r, ob, es, ep, q2, c⟩
      | dT kvs =>
        obtain ⟨z1, y, vs, r, ob', es, ep, h, c⟩ := z
        rw [q1] at h; cases h
        refine ⟨z1, y, vs, r.mono fun p q ⟨h1, h2, h3⟩ => ⟨h1, ?_, h3⟩, ob, es, ep, q2, c⟩
        have no : q.2.1 ∉ O := fun m => by
          obtain ⟨o, e, w⟩ := hO _ m
          rw [h2] at e; cases e; exact w
        rw [back_out no]
        exact tu _ _ (by rw [hide_out no]; exact h2)
      | ins C dx fs =>
        obtain ⟨d, z1, ne, h, mA, ⟨od, es, ep, h2, c⟩, r⟩ := z
        rw [q1] at h; cases h
        obtain ⟨ob2, q3, q4, _⟩ := thr dx hid
        rw [h2] at q3; cases q3
        exact ⟨by rw [back_in hid]; exact d, z1, ne, q2, mA, ⟨od, es, ep, q4, c⟩, r⟩
      | own y => exact ⟨ob, q2⟩
      | _ => exact hid.elim
    · rw [back_out m] at e
      exact (I2.hok a o e).stay (fun _ _ _ q => q) (fun c q => by
        rw [back_out (fun w => by rw [fr c w] at q; cases q)]; exact q) fun c xs q => by
        rw [back_out (fun w => by rw [fr c w] at q; cases q)]; exact q
/-! ### a new instance -/
/-- an __init__ over data: the class, what stands so far, the arguments; what stands behind -/
abbrev GSI := Str → List Str → List D → List D → (List Str → List D → Prop) → (XD → Prop) → Prop
def MnSI (s : GSI) : Prop := ∀ c ns fs ds k k' e e', (∀ a d, k a d → k' a d) → (∀ x, e x → e' x) → s c ns fs ds k e → s c ns fs ds k' e'
def liftI (K : Fg) (s : GSI) : Sp := fun vs H Q E => ∃ (b : Option Addr) (c : Str) (ns : List Str) (fs ds : List D) (x dx : Addr) (vfs vs' : List V), vs = .ref x :: vs' ∧ some x ≠ b ∧ some dx ≠ b ∧ H x = some (.ins (He.ga K c) dx (ns.zip vfs)) ∧ H dx = some (.own x) ∧ dx ≠ x ∧ ns.length = vfs.length ∧
  Reps K b (hide [x, dx] H) fs vfs ∧ Bg b (hide [x, dx] H) ∧ Reps K b (hide [x, dx] H) ds vs' ∧
  s c ns fs ds (fun ns' fs' => ∀ H' vfs', Ext b (hide [x, dx] H) (hide [x, dx] H') → H' x = some (.ins (He.ga K c) dx (ns'.zip vfs')) → H' dx = some (.own x) → ns'.length = vfs'.length → Reps K b (hide [x, dx] H') fs' vfs' → Q .non H')
    (fun xd => ∀ cls d H', Ext b (hide [x, dx] H) H' → XAt K b H' xd cls d → E cls d H')
theorem le_upd2 {H1 H : Hp} {O : List Addr} {x dx : Addr} {o o' : HO} (hx : H x = none) (hd : H dx = none) : hide [x, dx] (upd (upd H dx o) x o') = H := by
  funext a
  by_cases e1 : a = x
  · subst e1; rw [hide_in (by simp), hx]
  · by_cases e2 : a = dx
    · subst e2; rw [hide_in (by simp), hd]
    · rw [hide_out (by simp [e1, e2]), upd_ne e1, upd_ne e2]
variable {E : XK} {eo : XD → Prop} {s : GSI} {k : Nat} {f : Addr} {fd : FuncData} {ps : List Str} {ds dd : List D} {vs dvs : List V} {us dus : List Value} {Q : VK} {c : Str}
theorem ext_tup {O : List Addr} {H H2 : Hp} (g : Bg b (hide O H)) (x : Ext b (hide O H) H2) : ∀ c xs, hide O H c = some (.tup xs) → H2 c = some (.tup xs) := fun c xs e => x.1 c _ (fun z => by
  obtain ⟨c', i, j, m, ns, h1, h2, h3, h4⟩ := g c z.symm
  rw [e] at h1; cases h1) e rfl
end
section
variable {X : Cx} {b : Option Addr} {H0 : Hp} {E : XK} {eo : XD → Prop} {s : GSI} {k : Nat} {f : Addr} {fd : FuncData} {ps : List Str} {dd : List D} {dvs : List V} {dus : List Value} {x c : Str} {p pos apos : Pos} {e o : Expr} {es : List Expr} {ga : GA} {ge go : GE}
def gMake (c : Str) (s : GSI) (dd : List D) (eo : XD → Prop) (ga : GA) : GE := fun σ k => ga σ fun ds => s c [] [] (ds ++ dd) (fun ns fs => k (.ins c ns fs)) eo
/-! ### fields -/
def gFld (c : Str) (NS : List Str) (i : Nat) (ge : GE) : GE := fun σ k => ge σ fun d => match d with
  | .ins c' ns ds => c' = c ∧ ns = NS ∧ (match ds[i]? with | some d => k d | none => False)
  | _ => False
theorem gFld_mn {NS : List Str} {i : Nat} (A : Mn ge) : Mn (gFld c NS i ge) := fun σ k k' h q => A _ _ _ (fun d z => by
  cases d with
  | ins c' ns ds =>
    refine ⟨z.1, z.2.1, ?_⟩
    have w := z.2.2
    cases e : ds[i]? <;> rw [e] at w <;> first | exact h _ w | exact w.elim
  | _ => exact z.elim) q
theorem lookup_zip {m : Str} : ∀ {ns : List Str} {vs : List V} {i : Nat} {v : V}, ns.Nodup → ns[i]? = some m → vs[i]? = some v → (ns.zip vs).lookup m = some v
  | [], _, _, _, _, h, _ => by simp at h
  | _ :: _, [], _, _, _, _, h => by simp at h
  | n :: ns, v :: vs, 0, _, _, h1, h2 => by
    simp at h1 h2
    subst h1 h2
    simp [List.lookup]
  | n :: ns, v :: vs, i + 1, _, nd, h1, h2 => by
    have h1' : ns[i]? = some m := by simpa using h1
    have hne : ¬ m = n := fun z => (List.nodup_cons.mp nd).1 (z ▸ List.mem_of_getElem? h1')
    simp only [List.zip_cons_cons, List.lookup]
    rw [show (m == n) = false by simpa using hne]
    exact lookup_zip (List.nodup_cons.mp nd).2 h1' (by simpa using h2)
theorem fld_ok {K : Fg} {Hh H : Hp} {d : D} {v : V} {NS : List Str} {i : Nat} {f : Str} {Q : VK} (le : Le b Hh H) (cl : Cls K (He.ga K c)) (na : NoAttr K (He.ga K c) f) (nd : NS.Nodup) (hi : NS[i]? = some f) (r : Rep K b Hh d v)
    (q : match d with | .ins c' ns ds => c' = c ∧ ns = NS ∧ (match ds[i]? with | some d => (∀ v, Rep K b Hh d v → Q v H) | none => False) | _ => False) : ∃ a C dx fs w, v = .ref a ∧ H a = some (.ins C dx fs) ∧ Cls K C ∧ NoAttr K C f ∧ fs.lookup f = some w ∧ Q w H := by
  cases d with
  | ins c' ns ds =>
    obtain ⟨e1, e2, q⟩ := q
    subst e1 e2
    obtain ⟨a, dx, vs, rfl, n, h, l, rs⟩ := r.ins
    cases e : ds[i]? with
    | none => rw [e] at q; exact q.elim
    | some d =>
      rw [e] at q
      obtain ⟨w, e2, rw'⟩ := rs.get e
      exact ⟨a, _, dx, _, w, rfl, le _ _ n h rfl, cl, na, lookup_zip nd hi e2, q w rw'⟩
  | _ => exact q.elim
theorem de_fld {NS : List Str} {i : Nat} {fl : Str} (A : DE b H0 X e ge) (cl : Cls X.K (He.ga X.K c)) (na : NoAttr X.K (He.ga X.K c) fl) (nd : NS.Nodup) (hi : NS[i]? = some fl := by rfl) (hb : attributeBase e fl X.env (eval e X.env) = eval e X.env := by rfl) : DE b H0 X (.Attribute e fl pos) (gFld c NS i ge) :=
  ⟨pe_imp (pe_fld A.pe hb) fun σ H Q ⟨σd, O, R, q⟩ => ⟨σd, O, R, A.mn _ _ _ (fun d z v H' x r => fld_ok (b := b) (c := c) (NS := NS) (i := i) hide_le cl na nd hi r (by
    cases d with
    | ins c' ns ds =>
      refine ⟨z.1, z.2.1, ?_⟩
      have w := z.2.2
      cases e : ds[i]? <;> rw [e] at w <;> first | exact fun v r => w v H' x r | exact w.elim
    | _ => exact z.elim)) q⟩, gFld_mn A.mn⟩
end
end DL
/-! DE6 -/
set_option Elab.async false
set_option linter.all false
set_option maxRecDepth 100000
set_option maxHeartbeats 4000000
/-! __init__: the instance under construction. -/
namespace DL
open PySem PySem.Spec PyProof.Rows L2
variable [TabC]
theorem putF_zip {f : Str} {y : V} : ∀ {ns : List Str} {vs : List V}, f ∉ ns → ns.length = vs.length → putF f y (ns.zip vs) = (ns ++ [f]).zip (vs ++ [y])
  | [], [], _, _ => rfl
  | [], _ :: _, _, h => by simp at h
  | _ :: _, [], _, h => by simp at h
  | n :: ns, v :: vs, h, l => by
    have h1 : ¬ n = f := fun z => h (by simp [z])
    show (if n = f then (n, y) :: ns.zip vs else (n, v) :: putF f y (ns.zip vs)) = _
    rw [if_neg h1, putF_zip (fun z => h (List.mem_cons_of_mem _ z)) (by simpa using l)]
    rfl
section
variable {X : Cx} {b : Option Addr} {H0 : Hp} {ge : GE} {pos pos' : Pos} {e o : Expr} {c : Str}
def gSelf (i : Nat) (c : Str) (ns0 : List Str) (f : Str) (ge : GE) : GSt := fun D σ => ge σ fun d => match look σ i with
  | .obj a dx c' ns ds => c' = c ∧ ns = ns0 ∧ D.nx (put σ i (.obj a dx c' (ns ++ [f]) (ds ++ [d])))
  | _ => False
theorem gSelf_mn {i : Nat} {ns0 : List Str} {f : Str} (A : Mn ge) : MnD (gSelf i c ns0 f ge) := fun D D' σ h1 h2 h3 h4 q => A _ _ _ (fun d z => by
  cases e : look σ i <;> rw [e] at z <;> first | exact ⟨z.1, z.2.1, h1 _ z.2.2⟩ | exact z.elim) q
theorem Rst.updObj {K : Fg} {σd : StD} {σ : L2.St} {H : Hp} {O : List Addr} {i : Nat} {a dx : Addr} {ns : List Str} {ds : List D} {d : D} {y : V} {f : Str} {vs : List V} (R : Rst K b H0 σd σ H O) (e : look σd i = .obj a dx c ns ds) (ha : σ.getD i none = some (.ref a)) (m : a ∈ O) (md : dx ∈ O)
    (h1 : H a = some (.ins (He.ga K c) dx (ns.zip vs))) (h2 : H dx = some (.own a)) (l : ns.length = vs.length) (rs : Reps K b (hide O H) ds vs) (r : Rep K b (hide O H) d y) :
    Rst K b H0 (put σd i (.obj a dx c (ns ++ [f]) (ds ++ [d]))) σ (upd H a (.ins (He.ga K c) dx ((ns ++ [f]).zip (vs ++ [y])))) O := by
  have hi : i < σd.length := by
    refine Nat.lt_of_not_le fun z => ?_
    rw [look_out z] at e; cases e
  have nda : dx ≠ a := fun z => by rw [z, h1] at h2; cases h2
  refine ⟨by rw [put_length]; exact R.len, fun j => ?_, fun j k a' g1 g2 => ?_, fun x mx => ?_, by rw [hide_upd m]; exact R.le, by rw [hide_upd m]; exact R.bg⟩
  · rw [look_put j hi]
    by_cases ej : j = i
    · subst ej
      rw [if_pos rfl]
      exact ⟨vs ++ [y], ha, m, md, upd_same, by rw [upd_ne nda]; exact h2, by simp [l], by rw [hide_upd m]; exact rs.append (Reps.cons r Reps.nil)⟩
    · rw [if_neg ej]
      have s := R.slot j
      have un : ∀ a', Owns (look σd j) (σ.getD j none) a' → a' ≠ a := fun a' ow z => ej (R.uniq j i a (z ▸ ow) (by rw [e, ha]; rfl))
      cases ej2 : look σd j with
      | unset => trivial
      | sh d => rw [ej2] at s; obtain ⟨v, e1, r⟩ := s; exact ⟨v, e1, by rw [hide_upd m]; exact r⟩
      | own ds =>
        rw [ej2] at s un
        obtain ⟨a2, vs, e1, m2, h3, r⟩ := s
        exact ⟨a2, vs, e1, m2, by rw [upd_ne (un a2 (by rw [e1]; rfl))]; exact h3, by rw [hide_upd m]; exact r⟩
      | gho a2 ds =>
        rw [ej2] at s un
        obtain ⟨vs, m2, h3, r⟩ := s
        exact ⟨vs, m2, by rw [upd_ne (un a2 (by exact rfl))]; exact h3, by rw [hide_upd m]; exact r⟩
      | owd kx ds =>
        rw [ej2] at s un
        obtain ⟨a2, vs, e1, m2, h3, r⟩ := s
        exact ⟨a2, vs, e1, m2, by rw [upd_ne (un a2 (by rw [e1]; rfl))]; exact h3, by rw [hide_upd m]; exact r⟩
      | ott kx ds =>
        rw [ej2] at s un
        obtain ⟨a2, vs, e1, m2, h3, r⟩ := s
        exact ⟨a2, vs, e1, m2, by rw [upd_ne (un a2 (by rw [e1]; rfl))]; exact h3, by rw [hide_upd m]; exact r⟩
      | obj a2 dx2 c2 ns2 ds2 =>
        rw [ej2] at s un
        obtain ⟨vs, e1, m2, md2, h3, h4, l2, r⟩ := s
        have hne : a2 ≠ a := un a2 (by rw [e1]; rfl)
        exact ⟨vs, e1, m2, md2, by rw [upd_ne hne]; exact h3, by rw [upd_ne (fun z => by rw [z, h1] at h4; cases h4)]; exact h4, l2, by rw [hide_upd m]; exact r⟩
  · have key : ∀ j a', Owns (look (put σd i (.obj a dx c (ns ++ [f]) (ds ++ [d]))) j) (σ.getD j none) a' → Owns (look σd j) (σ.getD j none) a' := fun j a' g => by
      rw [look_put j hi] at g
      by_cases ej : j = i
      · subst ej
        rw [if_pos rfl] at g
        rw [e]
        rw [ha] at g ⊢
        exact g
      · rw [if_neg ej] at g; exact g
    exact R.uniq j k a' (key j a' g1) (key k a' g2)
  · obtain ⟨n1, n2, o, eo, n3⟩ := R.nb x mx
    refine ⟨n1, n2, ?_⟩
    by_cases ex : x = a
    · subst ex
      exact ⟨_, upd_same, md⟩
    · refine ⟨o, by rw [upd_ne ex]; exact eo, ?_⟩
      cases o with
      | own y2 =>
        obtain ⟨q1, C, fs, q2⟩ := n3
        refine ⟨q1, ?_⟩
        by_cases ey : y2 = a
        · subst ey
          rw [h1] at q2; cases q2
          exact ⟨_, _, upd_same⟩
        · exact ⟨C, fs, by rw [upd_ne ey]; exact q2⟩
      | _ => exact n3
theorem ds_self {i : Nat} {x fl : Str} {ns0 : List Str} {p : Pos} (A : DE b H0 X e ge) (cl : Cls X.K (He.ga X.K c)) (na : NoAttr X.K (He.ga X.K c) fl) (nf : fl ∉ ns0) (nl : ns0.length < 900) (hs : swapsWith e (some (.Attribute (.Name x p) fl pos')) pos.line X.env = pure false := by rfl)
    (hN : X.N[i]? = some x := by rfl) (hv : Vis X.env.scope x := by first | exact Or.inl rfl | exact Or.inr (Or.inl rfl) | exact Or.inr (Or.inr rfl)) (hd : (x == ("__debug__" : Str)) = false := by decide) (hcd : (x == ("__classdict__" : Str)) = false := by decide) :
    DS b H0 X (.Assign [.Attribute (.Name x p) fl pos'] e pos) (gSelf i c ns0 fl ge) := by
  refine ⟨ps_imp (ps_fld (pe_var hN hv hd hcd) A.pe hs) fun D σ H ⟨σd, O, R, q⟩ => ⟨σd, O, R, A.mn _ _ _ (fun d z v H' x1 r => ?_) q⟩, gSelf_mn A.mn⟩
  cases e1 : look σd i with
  | obj a dx c' ns ds =>
    rw [e1] at z
    obtain ⟨e2, e3, z⟩ := z
    subst e2 e3
    have R1 := R.mono x1
    have s := R1.slot i
    rw [e1] at s
    obtain ⟨vs, e2, m, md, h1, h2, l, rs⟩ := s
    refine ⟨.ref a, getD_some e2, a, _, dx, _, rfl, h1, cl, na, ?_, ?_⟩
    · rw [List.length_zip]; omega
    · rw [putF_zip nf l]
      have R2 := R1.updObj (f := fl) e1 e2 m md h1 h2 l rs r
      refine z σ _ O R2 ?_
      rw [hide_upd m]
      exact R.hx x1
  | _ => rw [e1] at z; exact z.elim
end
/-! ### __init__ keeps its promise, by its body -/
def initD (N : List Str) (a dx : Addr) (c : Str) (ns : List Str) (fs ds : List D) : StD := .obj a dx c ns fs :: (ds.map SD.sh ++ List.replicate (N.length - (ds.length + 1)) SD.unset)
theorem rst_init {K : Fg} {b : Option Addr} {H : Hp} {N : List Str} {x dx : Addr} {c : Str} {ns : List Str} {fs ds : List D} {vfs vs : List V} (nx : some x ≠ b) (ndx : some dx ≠ b) (hx : H x = some (.ins (He.ga K c) dx (ns.zip vfs))) (hd : H dx = some (.own x)) (ne : dx ≠ x) (l : ns.length = vfs.length)
    (rf : Reps K b (hide [x, dx] H) fs vfs) (bg : Bg b (hide [x, dx] H)) (r : Reps K b (hide [x, dx] H) ds vs) : Rst K b (hide [x, dx] H) (initD N x dx c ns fs ds) (L2.start N (.ref x :: vs)) H [x, dx] where
  len := by simp [initD, L2.start, r.length]
  slot := fun i => by
    cases i with
    | zero => exact ⟨vfs, rfl, by simp, by simp, hx, hd, l, rf⟩
    | succ i =>
      show SlotOk K b [x, dx] H (look (ds.map SD.sh ++ List.replicate (N.length - (ds.length + 1)) SD.unset) i) _
      rw [look_app, List.length_map]
      by_cases h : i < ds.length
      · rw [if_pos h]
        obtain ⟨d, e1, e2⟩ := look_sh h
        rw [e2]
        obtain ⟨v, e3, rv⟩ := r.get e1
        refine ⟨v, ?_, rv⟩
        unfold L2.start
        rw [List.map_cons, List.cons_append, List.getD_eq_getElem?_getD, List.getElem?_cons_succ, List.getElem?_append_left (by rw [List.length_map, ← r.length]; exact h), List.getElem?_map, e3]
        rfl
      · rw [if_neg h, look_rep]; trivial
  uniq := fun i j a h1 h2 => by
    have key : ∀ i a, Owns (look (initD N x dx c ns fs ds) i) ((L2.start N (.ref x :: vs)).getD i none) a → i = 0 := fun i a h => by
      cases i with
      | zero => rfl
      | succ i =>
        have h : Owns (look (ds.map SD.sh ++ List.replicate (N.length - (ds.length + 1)) SD.unset) i) _ a := h
        rw [look_app, List.length_map] at h
        by_cases hl : i < ds.length
        · rw [if_pos hl] at h
          obtain ⟨d, e1, e2⟩ := look_sh hl
          rw [e2] at h; exact h.elim
        · rw [if_neg hl, look_rep] at h; exact h.elim
    rw [key i a h1, key j a h2]
  nb := fun a m => by
    rcases List.mem_cons.mp m with rfl | m
    · exact ⟨nx, trivial, _, hx, by simp⟩
    · have e : a = dx := by simpa using m
      subst e
      exact ⟨ndx, trivial, _, hd, by simp, _, _, hx⟩
  le := .refl _
  bg := bg
/-- what an __init__'s body is handed: its end -/
abbrev finI (x dx : Addr) (c : Str) (k : List Str → List D → Prop) : EndD := { nx := fun σ => match look σ 0 with | .obj a d c' ns fs => a = x ∧ d = dx ∧ c' = c ∧ k ns fs | _ => False, rt := fun _ => False }
section
variable {P : Program} {w : World} {K : Fg} {mg : Str → Option Value} {base : Heap} {x qual : Str} {params : Arguments} {body : List Stmt} {scope : Scope} {dvs : List V} {kws : List (Str × V)} {f : Addr} {fd : FuncData}
theorem okI {N ps : List Str} {k : Nat} {s : GSI} (F : FunD K x qual params body scope dvs kws f fd) (S : FnScope N ps scope) (hl : ∀ c ns fs ds k e, s c ns fs ds k e → ds.length + 1 = ps.length)
    (hbody : ∀ (cdv : Value) (A : Around) (outer : List Env) (s0 : Shared) (Hc H : Hp) (E : XK) (b : Option Addr) (eo : XD → Prop), Room k (A.deeper (envOfC qual scope s0.heap.objs.size f cdv)) → Cz (cxOf (L2.CX P w) P w K mg base N qual scope f cdv A outer s0 Hc E) b H E eo →
      ∀ c ns fs ds k, s c ns fs ds k eo → ∃ g, DSs b H (cxOf (L2.CX P w) P w K mg base N qual scope f cdv A outer s0 Hc E) body g ∧ ∀ a dx, g (finI a dx c k) (initD N a dx c ns fs ds)) : FnOk P w K mg base (L2.CX P w) (k + 1) f fd ps (liftI K s) := by
  refine F.ok S (fun vs H Q E ⟨b, c, ns, fs, ds, x, dx, vfs, vs', e, _, _, _, _, _, _, _, _, r, h⟩ => by rw [e, List.length_cons, ← r.length]; exact hl _ _ _ _ _ _ h) fun cdv A outer s0 H vs Q E hr ⟨b, c, ns, fs, ds, x, dx, vfs, vs', e, nx, ndx, hx, hd, ne, l, rf, bg, r, h⟩ => ?_
  subst e
  obtain ⟨g, dg, rd⟩ := hbody cdv A outer s0 H (hide [x, dx] H) E b (fun xd => ∀ cls d H', Ext b (hide [x, dx] H) H' → XAt K b H' xd cls d → E cls d H') hr ⟨passes_call (takes_of rfl rfl rfl rfl) fun _ _ _ _ z => z, fun xd cls d H' z x1 xa => z cls d H' x1 xa⟩ _ _ _ _ _ h
  refine ⟨_, dg.ps, _, [x, dx], rst_init nx ndx hx hd ne l rf bg r, dg.mn (finI x dx c _) _ _ (fun σ q σ' H' O R x1 => ?_) (fun d q => q.elim) (fun σ q => q.elim) (fun σ q => q.elim) (rd x dx)⟩
  have s := R.slot 0
  have q : (match look σ 0 with | .obj a d c' ns fs => a = x ∧ d = dx ∧ c' = c ∧ _ | _ => False) := q
  cases e : look σ 0 with
  | obj a d c' ns' fs' =>
    rw [e] at q s
    obtain ⟨e1, e2, e3, q⟩ := q
    subst e1 e2 e3
    obtain ⟨vs2, e4, m, md, h1, h2, l2, rs⟩ := s
    have sub : ∀ y ∈ ([a, d] : List Addr), y ∈ O := fun y my => by
      rcases List.mem_cons.mp my with rfl | my
      · exact m
      · have ey : y = d := by simpa using my
        rw [ey]; exact md
    have xs : Ext b (hide O H') (hide [a, d] H') := ⟨hide_mono sub, fun y ey c i j mm h h0 => by
      obtain ⟨n1, n2⟩ := of_hide h
      exact ⟨i, j, h0, by rw [hide_out (fun z => n1 (sub y z))]; exact n2⟩, fun t => tabs_hide (fun y my => (R.nb y (sub y my)).2.2.nt) (tabs_unhide t)⟩
    exact q H' vs2 (R.le.trans xs) h1 h2 l2 (rs.mono (hide_mono sub))
  | _ => rw [e] at q; exact q.elim
end
end DL
/-! DE7 -/
set_option Elab.async false
set_option linter.all false
set_option maxRecDepth 100000
set_option maxHeartbeats 4000000
/-! More operations: == of any data, in, isinstance, slices, join, chains, constants of classes. -/
namespace DL
open PySem PySem.Spec PyProof.Rows L2
variable [TabC]
/-! ### == -/
/-- flat values -/
def flatD : D → Bool
  | .non => true | .bl _ => true | .int _ => true | .str _ => true | _ => false
def eqF : D → D → Bool
  | .non, .non => true
  | .bl a, .bl b => a == b
  | .bl a, .int b => (if a then 1 else 0) == b
  | .int a, .bl b => a == (if b then 1 else 0)
  | .int a, .int b => a == b
  | .str a, .str b => a == b
  | _, _ => false
def isBl : D → Bool | .bl _ => true | _ => false
def isIn : D → Bool | .int _ => true | _ => false
def sclD (x y : D) : Bool := flatD x && flatD y && !(isBl x && isIn y) && !(isIn x && isBl y)
def dEqA (neg : Bool) : D → D → (D → Prop) → Prop := fun x y k => bif sclD x y then k (.bl (if neg then !eqF x y else eqF x y)) else dEq neg x y k
section
variable {X : Cx} {b : Option Addr} {H0 : Hp} {a c e : Expr} {ga gb gc : GE} {pos : Pos}
theorem dEqA_mn (neg : Bool) : ∀ x y (k k' : D → Prop), (∀ d, k d → k' d) → dEqA neg x y k → dEqA neg x y k' := by
  intro x y k k' i q
  unfold dEqA at q ⊢
  cases s : sclD x y
  · rw [s] at q
    have q : dEq neg x y k := q
    show dEq neg x y k'
    unfold dEq at q ⊢
    cases e1 : toPy x <;> cases e2 : toPy y <;> rw [e1, e2] at q <;> first | exact ⟨q.1, q.2.1, i _ q.2.2⟩ | exact q.elim
  · rw [s] at q
    exact i _ q
theorem scl_rep {K : Fg} {H : Hp} {d e : D} {v u : V} (r : Rep K b H d v) (s : Rep K b H e u) (h : sclD d e = true) : scal v u = true ∧ decide (v = u) = eqF d e := by
  cases d <;> first | cases h | skip
  all_goals cases e <;> first | cases h | skip
  all_goals (first | cases r.non | cases r.bl | cases r.int | cases r.str)
  all_goals (first | cases s.non | cases s.bl | cases s.int | cases s.str)
  all_goals refine ⟨rfl, ?_⟩
  all_goals simp only [eqF, decide_eq_true_eq, reduceCtorEq, decide_false, decide_true]
  all_goals rw [Bool.eq_iff_iff]; simp
theorem op2_eqA : Op2 X.K b (fun x y H Q => rEq x y H Q ∨ rEqD X.K x y H Q) (dEqA false) := by
  refine ⟨dEqA_mn false, fun O H dx dy x y Q F r1 r2 q => ?_⟩
  unfold dEqA at q
  cases s : sclD dx dy <;> rw [s] at q
  · exact .inr (op2_eq.ok O H dx dy x y Q F r1 r2 q)
  · obtain ⟨h1, h2⟩ := scl_rep r1 r2 s
    exact .inl ⟨h1, by rw [h2]; exact q _ H (.refl H) rfl⟩
theorem op2_neA : Op2 X.K b (fun x y H Q => rNe x y H Q ∨ rNeD X.K x y H Q) (dEqA true) := by
  refine ⟨dEqA_mn true, fun O H dx dy x y Q F r1 r2 q => ?_⟩
  unfold dEqA at q
  cases s : sclD dx dy <;> rw [s] at q
  · exact .inr (op2_ne.ok O H dx dy x y Q F r1 r2 q)
  · obtain ⟨h1, h2⟩ := scl_rep r1 r2 s
    exact .inl ⟨h1, by rw [h2]; exact q _ H (.refl H) rfl⟩
theorem op_eqG {k : Nat} (hr : Room k X.A) : OpR X (compareOp .Eq) (fun x y H Q => rEq x y H Q ∨ rEqD X.K x y H Q) := op_eq.or (op_eqD hr.units)
theorem op_neG {k : Nat} (hr : Room k X.A) : OpR X (compareOp .NotEq) (fun x y H Q => rNe x y H Q ∨ rNeD X.K x y H Q) := op_ne.or (op_neD hr.units)
theorem de_eqA {k : Nat} (hr : Room k X.A) (A : DT b H0 X a ga) (B : DT b H0 X c gb) : DE b H0 X (.Compare a [.Eq] [c] pos) (g2 (dEqA false) ga gb) := de_cmp (op_eqG hr) op2_eqA A B
theorem db_eqA {k : Nat} (hr : Room k X.A) (A : DT b H0 X a ga) (B : DT b H0 X c gb) : DB b H0 X (.Compare a [.Eq] [c] pos) (gB (g2 (dEqA false) ga gb)) := db_cmp (op_eqG hr) op2_eqA A B
theorem db_neA {k : Nat} (hr : Room k X.A) (A : DT b H0 X a ga) (B : DT b H0 X c gb) : DB b H0 X (.Compare a [.NotEq] [c] pos) (gB (g2 (dEqA true) ga gb)) := db_cmp (op_neG hr) op2_neA A B
/-! ### in -/
/-- x in a list or tuple of flat values -/
def dIn (neg : Bool) : D → D → (D → Prop) → Prop := fun x y k => match y with
  | .lst ds => flatD x = true ∧ ds.all flatD = true ∧ k (.bl (if neg then !(ds.any fun z => eqF z x) else ds.any fun z => eqF z x))
  | .tup ds => flatD x = true ∧ ds.all flatD = true ∧ k (.bl (if neg then !(ds.any fun z => eqF z x) else ds.any fun z => eqF z x))
  | _ => False
theorem flat_rep {K : Fg} {H : Hp} {d : D} {v : V} (r : Rep K b H d v) (f : flatD d = true) : flatV v = true := by
  cases d <;> first | (cases r.non; rfl) | (cases r.bl; rfl) | (cases r.int; rfl) | (cases r.str; rfl) | cases f
theorem eqF_rep {K : Fg} {H : Hp} {d e : D} {v u : V} (r : Rep K b H d v) (s : Rep K b H e u) (f : flatD d = true) (g : flatD e = true) : eqV v u = eqF d e := by
  cases d <;> first | cases f | skip
  all_goals cases e <;> first | cases g | skip
  all_goals (first | cases r.non | cases r.bl | cases r.int | cases r.str)
  all_goals (first | cases s.non | cases s.bl | cases s.int | cases s.str)
  all_goals rfl
theorem flats_rep {K : Fg} {H : Hp} {e : D} {u : V} (s : Rep K b H e u) (g : flatD e = true) : ∀ {ds : List D} {vs : List V}, Reps K b H ds vs → ds.all flatD = true → vs.all flatV = true ∧ inV u vs = ds.any fun z => eqF z e
  | [], _, r, _ => by rw [r.of_nil]; exact ⟨rfl, rfl⟩
  | d :: ds, vs, r, f => by
    obtain ⟨v, q, rfl, h1, h2⟩ := r.of_cons
    rw [List.all_cons, Bool.and_eq_true] at f
    obtain ⟨i1, i2⟩ := flats_rep s g h2 f.2
    refine ⟨by rw [List.all_cons, flat_rep h1 f.1, i1]; rfl, ?_⟩
    have i2' : q.any (fun y => eqV y u) = ds.any fun z => eqF z e := i2
    show (v :: q).any (fun y => eqV y u) = _
    rw [List.any_cons, List.any_cons, i2', eqF_rep h1 s f.1 g]
theorem dIn_mn (neg : Bool) : ∀ x y (k k' : D → Prop), (∀ d, k d → k' d) → dIn neg x y k → dIn neg x y k' := by
  intro x y k k' i q
  cases y <;> first | exact ⟨q.1, q.2.1, i _ q.2.2⟩ | exact q.elim
theorem op2_in (neg : Bool) : Op2 X.K b (rIn X.K neg) (dIn neg) := by
  refine ⟨dIn_mn neg, fun O H dx dy x y Q F r1 r2 q => ?_⟩
  cases dy with
  | lst ds =>
    obtain ⟨p, vs, rfl, n, h, s⟩ := r2.lst
    obtain ⟨h1, h2⟩ := flats_rep r1 q.1 s q.2.1
    exact ⟨p, vs, rfl, .inl h, flat_rep r1 q.1, h1, by rw [h2]; exact q.2.2 _ H (.refl H) rfl⟩
  | tup ds =>
    obtain ⟨p, vs, rfl, n, h, s⟩ := r2.tup
    obtain ⟨h1, h2⟩ := flats_rep r1 q.1 s q.2.1
    exact ⟨p, vs, rfl, .inr h, flat_rep r1 q.1, h1, by rw [h2]; exact q.2.2 _ H (.refl H) rfl⟩
  | _ => exact q.elim
/-- x in a list of any data -/
def dInD (neg : Bool) : D → D → (D → Prop) → Prop := fun x y k => match toPy x, y with
  | some d, .lst es => (match toPys es with
    | some ds => SeqAt.shaped d = true ∧ SeqAt.shaped (.list ds) = true ∧ k (.bl (if neg then !(ds.any fun z => PyData.eqv z d) else ds.any fun z => PyData.eqv z d))
    | none => False)
  | _, _ => False
theorem dInD_mn (neg : Bool) : ∀ x y (k k' : D → Prop), (∀ d, k d → k' d) → dInD neg x y k → dInD neg x y k' := by
  intro x y k k' i q
  unfold dInD at q ⊢
  cases e : toPy x with
  | none => rw [e] at q; exact q.elim
  | some d =>
    rw [e] at q
    cases y with
    | lst es =>
      simp only at q ⊢
      cases e2 : toPys es <;> rw [e2] at q <;> first | exact ⟨q.1, q.2.1, i _ q.2.2⟩ | exact q.elim
    | _ => exact q.elim
theorem inD_ok {K : Fg} {neg : Bool} {O : List Addr} {H : Hp} {dx dy : D} {x y : V} {Q : VK} (r1 : Rep K b H dx x) (r2 : Rep K b H dy y) (q : dInD neg dx dy (fun d => ∀ v H', Ext b H H' → Rep K b (hide O H') d v → Q v H')) :
    ∃ d ds, Dp K H x d ∧ Dp K H y (.list ds) ∧ SeqAt.shaped d = true ∧ SeqAt.shaped (.list ds) = true ∧ Q (.bl (if neg then !(ds.any fun z => PyData.eqv z d) else ds.any fun z => PyData.eqv z d)) H := by
  unfold dInD at q
  cases e : toPy dx with
  | none => rw [e] at q; exact q.elim
  | some d =>
    rw [e] at q
    cases dy with
    | lst es =>
      simp only at q
      cases e2 : toPys es with
      | none => rw [e2] at q; exact q.elim
      | some ds =>
        rw [e2] at q
        exact ⟨d, ds, r1.dp e, r2.dp (by simp only [toPy, e2]; rfl), q.1, q.2.1, q.2.2 _ H (.refl H) rfl⟩
    | _ => exact q.elim
theorem un65 {k : Nat} (hr : Room (k + 1) X.A) : X.A.units + 65 < cLine := by have := hr.un; omega
/-! ### chains -/
def gChain (rd rd' : D → D → (D → Prop) → Prop) (ga gb gc : GE) : GE := fun σ k => ga σ fun x => gb σ fun y => rd x y fun z => match z with
  | .bl true => gc σ fun w => rd' y w k
  | .bl false => k (.bl false)
  | _ => False
theorem gChain_mn {rd rd' : D → D → (D → Prop) → Prop} (h : ∀ x y (k k' : D → Prop), (∀ d, k d → k' d) → rd x y k → rd x y k') (h' : ∀ x y (k k' : D → Prop), (∀ d, k d → k' d) → rd' x y k → rd' x y k') (A : Mn ga) (B : Mn gb) (C : Mn gc) : Mn (gChain rd rd' ga gb gc) := fun σ k k' i q =>
  A _ _ _ (fun x hx => B _ _ _ (fun y hy => h _ _ _ _ (fun z hz => by
    cases z with
    | bl t => cases t; exact i _ hz; exact C _ _ _ (fun w hw => h' _ _ _ _ i hw) hz
    | _ => exact hz.elim) hy) hx) q
theorem chain_ok {r r' : R2} {rd rd' : D → D → (D → Prop) → Prop} (o : Op2 X.K b r rd) (o' : Op2 X.K b r' rd') (A : Mn ga) (B : Mn gb) (C : Mn gc) {σ : L2.St} {H : Hp} {Q : VK} (h : LE X.K b H0 (gChain rd rd' ga gb gc) σ H Q) : tChain r r' (LT X.K b H0 ga) (LT X.K b H0 gb) (LT X.K b H0 gc) σ H Q := by
  obtain ⟨σd, O, R, q⟩ := h
  refine ⟨σd, O, R, A _ _ _ (fun x hx v1 H1 x1 r1 => ?_) q⟩
  refine ⟨σd, O, R.mono x1, B _ _ _ (fun y hy v2 H2 x2 r2 => ?_) hx⟩
  have F2 : Fresh b O H2 := fun p hp => (R.mono (x1.trans x2)).free hp
  refine o.ok O H2 x y v1 v2 _ F2 (r1.mono x2.1) r2 (o.mn _ _ _ _ (fun z hz v H' x3 r3 => ?_) hy)
  cases z with
  | bl t =>
    refine ⟨t, r3, ?_⟩
    cases t with
    | true =>
      refine iteT ?_
      refine ⟨σd, O, R.mono (x1.trans (x2.trans x3)), C _ _ _ (fun w hw v4 H4 x4 r4 => ?_) hz⟩
      exact o'.ok O H4 y w v2 v4 Q (fun p hp => (R.mono (x1.trans (x2.trans (x3.trans x4)))).free hp) ((r2.mono x3.1).mono x4.1) r4 (o'.mn _ _ _ _ (fun d kd v H' x5 r5 => kd v H' (x1.trans (x2.trans (x3.trans (x4.trans x5)))) r5) hw)
    | false => exact iteF (hz (.bl false) H' (x1.trans (x2.trans x3)) rfl)
  | _ => exact hz.elim
theorem db_chain {op op' : CmpOp} {r r' : R2} {rd rd' : D → D → (D → Prop) → Prop} (ho : OpR X (compareOp op) r) (ho' : OpR X (compareOp op') r') (o : Op2 X.K b r rd) (o' : Op2 X.K b r' rd') (A : DT b H0 X a ga) (B : DT b H0 X c gb) (C : DT b H0 X e gc)
    (hm : lastMarks [op, op'] [c, e] = false := by with_unfolding_all rfl) : DB b H0 X (.Compare a [op, op'] [c, e] pos) (gB (gChain rd rd' ga gb gc)) := by
  have m := gChain_mn o.mn o'.mn A.mn B.mn C.mn
  refine ⟨pt_imp (pt_chain ho ho' A.pe B.pe C.pe hm) fun σ H Q ⟨σd, O, R, q⟩ => ?_, gB_mn m⟩
  refine chain_ok (H0 := H0) o o' A.mn B.mn C.mn ⟨σd, O, R, m _ _ _ (fun d hd v H' x r => ?_) q⟩
  cases d <;> first | exact ⟨_, r, hd H' x⟩ | exact hd.elim
theorem db_lele (A : DT b H0 X a ga) (B : DT b H0 X c gb) (C : DT b H0 X e gc) (hm : lastMarks [.LtE, .LtE] [c, e] = false := by with_unfolding_all rfl) : DB b H0 X (.Compare a [.LtE, .LtE] [c, e] pos) (gB (gChain dLe dLe ga gb gc)) := db_chain op_le op_le (op2I0 fun _ _ _ => rfl) (op2I0 fun _ _ _ => rfl) A B C hm
end
end DL
/-! DE8 -/
set_option Elab.async false
set_option linter.all false
set_option maxRecDepth 100000
set_option maxHeartbeats 4000000
/-! isinstance, slices, texts, walks over texts and pairs, two names at once. -/
namespace DL
open PySem PySem.Spec PyProof.Rows L2
variable [TabC]
/-! ### isinstance -/
inductive Tg | non | bl | int | str | tup | lst | dic
deriving DecidableEq
def Tg.nm : Tg → String
  | .non => "NoneType" | .bl => "bool" | .int => "int" | .str => "str" | .tup => "tuple" | .lst => "list" | .dic => "dict"
def subT (t T : Tg) : Bool := match t, T with
  | .non, .non => true | .bl, .bl => true | .bl, .int => true | .int, .int => true | .str, .str => true | .tup, .tup => true | .lst, .lst => true | .dic, .dic => true | _, _ => false
theorem kit_tag (K : Fg) (t T : Tg) : PySem.W.kitOne K (.type t.nm) (.type T.nm) = some (subT t T) := by
  cases t <;> cases T <;> exact kit_ty (by decide +kernel)
inductive KC | ty (T : Tg) | own (c : Str)
structure OwnOk (K : Fg) (c : Str) : Prop where
  cl : Cls K (He.ga K c)
  ha : PySem.W.findIn K (.ref (He.ga K c)) "__class__" = some (some (.builtin "object.__class__"))
  hn : PySem.W.specialIn K (.builtin "object.__class__") "__get__" = some (some (.builtin "getset_descriptor.__get__"))
  htk : PySem.W.takesIn K (.builtin "object.__class__") = some true
  hm : PySem.W.mroIn K (He.ga K c) (.type "object") = some true
structure ClsOk (K : Fg) (cls : List Str) (sub : Str → Str → Bool) : Prop where
  own : ∀ c ∈ cls, OwnOk K c
  oo : ∀ c ∈ cls, ∀ C ∈ cls, PySem.W.kitOne K (.ref (He.ga K c)) (.ref (He.ga K C)) = some (sub c C)
  ob : ∀ c ∈ cls, ∀ T : Tg, PySem.W.kitOne K (.ref (He.ga K c)) (.type T.nm) = some false
  bo : ∀ T : Tg, ∀ C ∈ cls, PySem.W.kitOne K (.type T.nm) (.ref (He.ga K C)) = some false
def KC.v (K : Fg) : KC → V
  | .ty T => .ty T.nm | .own c => .ref (He.ga K c)
def KC.u (K : Fg) : KC → Value
  | .ty T => .type T.nm | .own c => .ref (He.ga K c)
theorem KC.cv (K : Fg) (k : KC) : ClsV (k.v K) (k.u K) := by
  cases k
  · exact .ty _
  · exact .own _
def KC.ok (cls : List Str) : KC → Prop
  | .ty _ => True | .own c => c ∈ cls
def tagOf : D → Option Tg
  | .non => some .non | .bl _ => some .bl | .int _ => some .int | .str _ => some .str | .tup _ => some .tup | .lst _ => some .lst | .dic _ _ => some .dic | .frl _ _ => some .lst | .frd _ _ => some .dic | _ => none
def isA (sub : Str → Str → Bool) (k : KC) (d : D) : Bool := match k with
  | .ty T => (match tagOf d with | some t => subT t T | none => false)
  | .own C => (match d with | .ins c _ _ => sub c C | _ => false)
def askD (cls : List Str) : D → Bool
  | .ins c _ _ => cls.contains c
  | .bag => false | .clo _ => false | .exc _ _ _ => false | .cel _ => false | _ => true
def isAny (sub : Str → Str → Bool) (ks : List KC) (d : D) : Bool := ks.any fun k => isA sub k d
theorem askTag {K : Fg} {b : Option Addr} {H : Hp} {cls : List Str} {sub : Str → Str → Bool} (W : ClsOk K cls sub) {d : D} {v : V} (r : Rep K b H d v) (h : askD cls d = true) : ∃ t, TyX K H v t ∧ ∀ k : KC, k.ok cls → PySem.W.kitOne K t (k.u K) = some (isA sub k d) := by
  have key : ∀ T : Tg, tagOf d = some T → (∀ c ns xs, d ≠ .ins c ns xs) → ∀ k : KC, k.ok cls → PySem.W.kitOne K (.type T.nm) (k.u K) = some (isA sub k d) := fun T e ni k ok => by
    cases k with
    | ty S =>
      show _ = some (match tagOf d with | some t => subT t S | none => false)
      rw [e]
      exact kit_tag K T S
    | own C =>
      have e2 : isA sub (.own C) d = false := by
        cases d <;> first | rfl | exact absurd rfl (ni _ _ _)
      rw [e2]
      exact W.bo T C ok
  cases d with
  | non => rw [r.non]; exact ⟨_, .base .non, key .non rfl (by simp)⟩
  | bl x => rw [r.bl]; exact ⟨_, .base (.bl _), key .bl rfl (by simp)⟩
  | int x => rw [r.int]; exact ⟨_, .base (.int _), key .int rfl (by simp)⟩
  | str x => rw [r.str]; exact ⟨_, .base (.str _), key .str rfl (by simp)⟩
  | tup ds =>
    obtain ⟨a, vs, rfl, n, hs, s⟩ := r.tup
    refine ⟨_, ?_, key .tup rfl (by simp)⟩
    rcases hs with (h | ⟨o, h⟩) | ⟨o, its, n, h, c, _⟩
    · exact .base (.tup h)
    · exact .fTuple h
    · exact .kTuple h c
  | lst ds =>
    obtain ⟨a, vs, rfl, n, hs, s⟩ := r.lst
    refine ⟨_, ?_, key .lst rfl (by simp)⟩
    rcases hs with (h | ⟨o, h⟩) | ⟨o, its, n, h, c, _⟩
    · exact .base (.lst h)
    · exact .base (.frz h)
    · exact .kList h c
  | dic ks ds =>
    simp only [Rep] at r
    obtain ⟨a, o, vs, rfl, n, h, l, s⟩ := r
    exact ⟨_, .fDict h, key .dic rfl (by simp)⟩
  | ins c ns ds =>
    obtain ⟨a, dx, vs, rfl, n, h1, l, s⟩ := r.ins
    have hc : c ∈ cls := by simpa [askD] using h
    have o := W.own c hc
    refine ⟨_, .base (.ins h1 o.cl o.ha o.hn o.htk o.hm), fun k ok => ?_⟩
    cases k with
    | ty S => exact W.ob c hc S
    | own C => exact W.oo c hc C ok
  | bag => cases h
  | clo j => cases h
  | frl a ds =>
    obtain ⟨o, vs, rfl, n, h, s⟩ := r.frl
    exact ⟨_, .base (.frz h), key .lst rfl (by simp)⟩
  | frd ks ds =>
    obtain ⟨a, vs, rfl, n, h, l, s⟩ := r.frd
    exact ⟨_, .base (.dK h), key .dic rfl (by simp)⟩
  | exc c ns ds => cases h
  | cel _ => cases h
theorem askAny {K : Fg} {sub : Str → Str → Bool} {cls : List Str} {d : D} {t : Value} (h : ∀ k : KC, k.ok cls → PySem.W.kitOne K t (k.u K) = some (isA sub k d)) : ∀ ks : List KC, (∀ k ∈ ks, k.ok cls) → PySem.W.kitAny K t (ks.map (KC.u K)) = some (isAny sub ks d)
  | [], _ => kitAny_nil
  | k :: ks, ok => by
    refine kitAny_cons (h k (ok k List.mem_cons_self)) (fun e => ?_) (fun e => ?_)
    · rw [askAny h ks (fun k' m => ok k' (List.mem_cons_of_mem _ m))]
      show some (isAny sub ks d) = some ((k :: ks).any _)
      rw [List.any_cons, e]; rfl
    · show (k :: ks).any _ = true
      rw [List.any_cons, e]; rfl
theorem kcs_paired (K : Fg) : ∀ ks : List KC, Paired ClsV (ks.map (KC.v K)) (ks.map (KC.u K))
  | [] => .nil
  | k :: ks => .cons (k.cv K) (kcs_paired K ks)
def gIsi (cls : List Str) (sub : Str → Str → Bool) (ks : List KC) (ge : GE) : GE := fun σ k => ge σ fun d => askD cls d = true ∧ k (.bl (isAny sub ks d))
theorem gIsi_mn {cls : List Str} {sub : Str → Str → Bool} {ks : List KC} {ge : GE} (A : Mn ge) : Mn (gIsi cls sub ks ge) := fun σ k k' i q => A _ _ _ (fun d z => ⟨z.1, i _ z.2⟩) q
section
variable {X : Cx} {b : Option Addr} {H0 : Hp} {a c e : Expr} {cs : List Expr} {ga gb gc ge : GE} {pos p p2 : Pos} {cls : List Str} {sub : Str → Str → Bool}
theorem pe_kty {x : Str} {T : Tg} (hg : Gl X x) (hm : X.mg x = none) (hv : bootBuiltins x = some (.type T.nm)) (hn : x ≠ "__name__" := by decide) (hd : (x == ("__debug__" : Str)) = false := by decide) : PE X (.Name x p) (tC ((KC.ty T).v X.K)) := pe_bltn hg hm hv rfl hn hd
theorem pe_kown {x c : Str} (hg : Gl X x) (hm : X.mg x = some (.ref (He.ga X.K c))) (hd : (x == ("__debug__" : Str)) = false := by decide) : PE X (.Name x p) (tC ((KC.own c).v X.K)) := pe_glob hg hm rfl hd
def PKs (X : Cx) (cs : List Expr) (ks : List KC) : Prop := PA X cs fun _ H Q => Q (ks.map (KC.v X.K)) H
theorem pks_nil : PKs X [] [] := pa_nil
theorem pks_cons {k : KC} {ks : List KC} (h : PE X c (tC (k.v X.K))) (r : PKs X cs ks) (hs : starEach (c :: cs) X.env = (false, eval c X.env) :: starEach cs X.env := by rfl) : PKs X (c :: cs) (k :: ks) := pa_cons h r hs
theorem de_isi {k : KC} (W : ClsOk X.K cls sub) (ok : k.ok cls) (A : DT b H0 X a ga) (hc : PE X c (tC (k.v X.K))) (hg : Gl X "isinstance") (hm : X.mg "isinstance" = none)
    (he : starEach [a, c] X.env = (false, eval a X.env) :: starEach [c] X.env := by rfl) (he2 : starEach [c] X.env = (false, eval c X.env) :: starEach [] X.env := by rfl)
    (hpl : (backTo pos (starEach [c] X.env)).any (·.1) = false := by rfl) : DE b H0 X (.Call (.Name "isinstance" p) [a, c] [] pos) (gIsi cls sub [k] ga) := by
  refine ⟨pe_imp (pe_callB call_isi hg hm rfl (pa_cons A.pe (pa_cons hc pa_nil he2) he) (by decide) (by decide) he hpl) fun σ H Q ⟨σd, O, R, q⟩ => ?_, gIsi_mn A.mn⟩
  refine ⟨σd, O, R, A.mn _ _ _ (fun d z v H' x r => ?_) q⟩
  obtain ⟨t, ty, h⟩ := askTag W r z.1
  refine ⟨v, k.v X.K, t, k.u X.K, isA sub k d, rfl, k.cv X.K, ty, h k ok, ?_⟩
  have w := z.2 (.bl (isAny sub [k] d)) H' x rfl
  have e : isAny sub [k] d = isA sub k d := by unfold isAny; simp
  rw [e] at w; exact w
theorem de_isiT {ks : List KC} {n1 : Nat} (W : ClsOk X.K cls sub) (ok : ∀ k ∈ ks, k.ok cls) (A : DT b H0 X a ga) (hc : PKs X cs ks) (hl : ks.length ≤ 1000) (hg : Gl X "isinstance") (hm : X.mg "isinstance" = none)
    (he : starEach [a, .Tuple cs n1 p2] X.env = (false, eval a X.env) :: starEach [.Tuple cs n1 p2] X.env := by rfl) (he2 : starEach [.Tuple cs n1 p2] X.env = (false, eval (.Tuple cs n1 p2) X.env) :: starEach [] X.env := by rfl)
    (hpl : (backTo pos (starEach [.Tuple cs n1 p2] X.env)).any (·.1) = false := by rfl) : DE b H0 X (.Call (.Name "isinstance" p) [a, .Tuple cs n1 p2] [] pos) (gIsi cls sub ks ga) := by
  refine ⟨pe_imp (pe_callB call_isiT hg hm rfl (pa_cons A.pe (pa_cons (pe_tup hc) pa_nil he2) he) (by decide) (by decide) he hpl) fun σ H Q ⟨σd, O, R, q⟩ => ?_, gIsi_mn A.mn⟩
  refine ⟨σd, O, R, A.mn _ _ _ (fun d z v H' x r => ?_) q⟩
  refine ⟨by rw [List.length_map]; exact le_line hl, fun tp htp => ?_⟩
  obtain ⟨t, ty, h⟩ := askTag (H := upd H' tp (.tup (ks.map (KC.v X.K)))) W (r.mono (Le.new htp)) z.1
  refine ⟨v, tp, ks.map (KC.v X.K), t, ks.map (KC.u X.K), isAny sub ks d, rfl, upd_same, kcs_paired X.K ks, ty, askAny h ks ok, z.2 (.bl (isAny sub ks d)) _ (x.trans (.new htp)) rfl⟩
/-! ### slices -/
def gNoP : StD → (Option Int → Prop) → Prop := fun _ k => k none
def gPart (ge : GE) : StD → (Option Int → Prop) → Prop := fun σ k => ge σ fun d => match d with | .int i => k (some i) | _ => False
/-- of a text or a list -/
def gSl2 (ge : GE) (gl gh : StD → (Option Int → Prop) → Prop) : GE := fun σ k => ge σ fun d => gl σ fun lo => gh σ fun hi => match d with
  | .str z => z.length ≤ 1000000 ∧ k (.str (cutS z lo hi))
  | .lst ds => k (.lst ((ds.drop (HT.sIx ds.length 0 lo)).take (HT.sIx ds.length ds.length hi - HT.sIx ds.length 0 lo)))
  | .tup ds => ¬ (HT.sIx ds.length 0 lo = 0 ∧ HT.sIx ds.length ds.length hi = ds.length) ∧ k (.tup ((ds.drop (HT.sIx ds.length 0 lo)).take (HT.sIx ds.length ds.length hi - HT.sIx ds.length 0 lo)))
  | _ => False
/-! ### walks over texts and pairs -/
def signs (x : Str) : List D := x.cps.toList.map fun c => .str ⟨#[c]⟩
def gItS (ge : GE) : GI := fun σ k => ge σ fun d => match d with | .str x => k (signs x) | _ => False
def pairsD : List D → List D → List D
  | x :: xs, y :: ys => .tup [x, y] :: pairsD xs ys
  | _, _ => []
theorem pairsD_get : ∀ {xs ys : List D} {i : Nat}, (pairsD xs ys)[i]? = match xs[i]?, ys[i]? with | some x, some y => some (.tup [x, y]) | _, _ => none
  | [], ys, i => by simp [pairsD]
  | x :: xs, [], i => by simp [pairsD]
  | x :: xs, y :: ys, 0 => rfl
  | x :: xs, y :: ys, i + 1 => by
    simp only [pairsD, List.getElem?_cons_succ]
    exact pairsD_get
def gZip (ga gb : GE) : GI := fun σ k => ga σ fun x => gb σ fun y => match x, y with
  | .lst xs, .lst ys => k (pairsD xs ys)
  | .tup xs, .tup ys => k (pairsD xs ys)
  | _, _ => False
theorem zip_item {K : Fg} {O2 : List Addr} {H2 : Hp} {ds es : List D} {vs us : List V} {i : Nat} {d : D} {T : Addr} {x y : V} (F : Fresh b O2 H2) (hT : H2 T = none) (r1 : Reps K b (hide O2 H2) ds vs) (r2 : Reps K b (hide O2 H2) es us) (e : (pairsD ds es)[i]? = some d) (ex : vs[i]? = some x) (ey : us[i]? = some y) : Ext b H2 (upd H2 T (.tup [x, y])) ∧ Rep K b (hide O2 (upd H2 T (.tup [x, y]))) d (.ref T) := by
  rw [pairsD_get] at e
  cases e1 : ds[i]? with
  | none => rw [e1] at e; cases e
  | some d1 =>
    cases e2 : es[i]? with
    | none => rw [e1, e2] at e; cases e
    | some d2 =>
      rw [e1, e2] at e; cases e
      obtain ⟨v1, q1, w1⟩ := r1.get e1
      obtain ⟨v2, q2, w2⟩ := r2.get e2
      rw [ex] at q1; cases q1
      rw [ey] at q2; cases q2
      exact ⟨.new hT, rep_newT F hT (Reps.cons w1 (Reps.cons w2 Reps.nil))⟩
theorem pairs_at {ds es : List D} {i : Nat} {d : D} {K : Fg} {H : Hp} {vs us : List V} (r1 : Reps K b H ds vs) (r2 : Reps K b H es us) (e : (pairsD ds es)[i]? = some d) : ∃ x y, vs[i]? = some x ∧ us[i]? = some y := by
  rw [pairsD_get] at e
  cases e1 : ds[i]? with
  | none => rw [e1] at e; cases e
  | some d1 =>
    cases e2 : es[i]? with
    | none => rw [e1, e2] at e; cases e
    | some d2 =>
      obtain ⟨v1, q1, w1⟩ := r1.get e1
      obtain ⟨v2, q2, w2⟩ := r2.get e2
      exact ⟨v1, v2, q1, q2⟩
/-! ### two names at once -/
def gPar (i j : Nat) (ga gb : GE) : GSt := fun D σ => ga σ fun x => gb σ fun y => D.nx (put (put σ i (.sh x)) j (.sh y))
theorem ds_par {i j : Nat} {x y : Str} {px py pt pt2 : Pos} {kt k2 : Nat} (hc : X.calm = true) (hN : X.N.Nodup) (hi : X.N[i]? = some x) (hj : X.N[j]? = some y) (hij : i ≠ j)
    (hx : X.env.scope.names.lookup x = some .local) (hy : X.env.scope.names.lookup y = some .local) (A : DE b H0 X a ga) (B : DE b H0 X c gb)
    (hw : swappedStores [.Tuple [.Name x px, .Name y py] kt pt] (.Tuple [a, c] k2 pt2) X.env = pure (some [x, y]))
    (hs : swapsWithSole [.Tuple [.Name x px, .Name y py] kt pt] (.Tuple [a, c] k2 pt2) pos.line X.env = pure false := by rfl)
    (hs1 : starEach [a, c] X.env = (false, eval a X.env) :: starEach [c] X.env := by rfl) (hs2 : starEach [c] X.env = (false, eval c X.env) :: starEach [] X.env := by rfl) :
    DS b H0 X (.Assign [.Tuple [.Name x px, .Name y py] kt pt] (.Tuple [a, c] k2 pt2) pos) (gPar i j ga gb) := by
  refine ⟨ps_imp (ps_par hc hN hi hj hij hx hy (pa_cons A.pe (pa_cons B.pe pa_nil hs2) hs1) hw hs) fun D σ H ⟨σd, O, R, q⟩ => ?_, fun D D' σ h1 h2 h3 h4 q => A.mn _ _ _ (fun x z => B.mn _ _ _ (fun y z => h1 _ z) z) q⟩
  refine ⟨σd, O, R, A.mn _ _ _ (fun d z v H1 x1 r1 => ⟨σd, O, R.mono x1, B.mn _ _ _ (fun d2 z v2 H2 x2 r2 => ?_) z⟩) q⟩
  exact ⟨v, v2, rfl, z _ H2 O (((R.mono (x1.trans x2)).set i (r1.mono (x2.1.hide O))).set j r2) (R.hx (x1.trans x2))⟩
/-- targets = value -/
def gTgt (t : Tgt) (ge : GE) : GSt := fun D σ => ge σ fun d => asg t d σ D.nx
theorem ds_tgt {tg : Expr} {t : Tgt} (A : DE b H0 X e ge) (G : DG b H0 X tg t) (hs : swapsWithSole [tg] e pos.line X.env = pure false := by rfl) (hw : swappedStores [tg] e X.env = pure none := by rfl)
    (h1 : (assignEach [tg] X.env).map (·.2) = [assign tg X.env] := by rfl) : DS b H0 X (.Assign [tg] e pos) (gTgt t ge) := by
  refine ⟨ps_imp (ps_asg A.pe G.pg hs hw h1) fun D σ H ⟨σd, O, R, q⟩ => ?_, fun D D' σ h1 h2 h3 h4 q => A.mn _ _ _ (fun x z => asg_mn _ _ _ _ _ h1 z) q⟩
  exact ⟨σd, O, R, A.mn _ _ _ (fun d z v H1 x1 r1 => ⟨σd, O, d, R.mono x1, r1, asg_mn _ _ _ _ _ (fun s z σ' ag R' => z σ' H1 O R' (R.hx x1)) z⟩) q⟩
/-! ### texts -/
def strsOf : List D → Option (List Str)
  | [] => some []
  | .str s :: r => (match strsOf r with | some q => some (s :: q) | none => none)
  | _ :: _ => none
/-- t.join(xs) -/
def gJoin (ga gb : GE) : GE := fun σ k => ga σ fun x => match x with
  | .str s => gb σ fun y => (match y with
    | .lst ds => (match strsOf ds with | some ys => (ys.map (·.length)).sum + ys.length * s.length ≤ 1000000 ∧ k (.str (Txt.join s ys)) | none => False)
    | _ => False)
  | _ => False
end
end DL
/-! DF1 -/
set_option Elab.async false
set_option linter.all false
set_option maxRecDepth 100000
set_option maxHeartbeats 4000000
/-! The bag that a law draws from: its making, a draw. -/
namespace DL
open PySem PySem.Spec PyProof.Rows L2
variable [TabC]
/-! ### the making -/
abbrev rMulK : R2 := rI MulOk fun i j => .int (i * j)
abbrev rAddK : R2 := rI0 fun i j => .int (i + j)
abbrev rModK : R2 := rI (fun _ j => j ≠ 0) fun i j => .int (i.fmod j)
abbrev rInt1 : List V → Hp → VK → Prop := fun xs H Q => (∃ i, xs = [.int i] ∧ Q (.int i) H) ∨ ∃ k, xs = [.bl k] ∧ Q (.int (if k then 1 else 0)) H
def tBag (K : Fg) : TS :=
  tSeq (tAsg (tLc (iList K (tSl (rSlL K) (tVar 0) tNoPart (tPart (tC (.int 63))))) (gName 3) tYes (tCB rInt1 (tCons (tVar 3) tNil)) [3]) (gName 1))
  (tSeq (tAsg (tOp rAddK (tC (.int 12003)) (tOp rMulK (tC (.int 211)) (tCB (rLen3 K) (tCons (tVar 1) tNil)))) (gName 2))
  (tSeq (tFor (iList K (tVar 1)) (gName 3) (tAsg (tOp rModK (tCB rInt1 (tCons (tOp rAddK (tOp rMulK (tVar 2) (tC (.int 8191))) (tVar 3)) tNil)) (tC (.int 2147483549))) (gName 2)))
  (tRet (tLst (tCons (tVar 1) (tCons (tC (.int 0)) (tCons (tC (.int 0)) (tCons (tVar 2) tNil))))))))
def spBag (K : Fg) : Sp := fun vs H Q _ => ∃ (a : Addr) (ns : List Int), vs = [.ref a] ∧ SqL K H a (ns.map V.int) ∧ ns.length ≤ 1000000 ∧
  ∀ (c p : Addr) (H' : Hp) (ms : List Int) (m : Int), (∀ a o, H a = some o → H' a = some o) → H c = none → H p = none → c ≠ p → H' c = some (.lst (ms.map V.int)) → H' p = some (.lst [.ref c, .int 0, .int 0, .int m]) → Q (.ref p) H'
theorem sqL_up {K : Fg} {H : Hp} {a D : Addr} {o : HO} {xs : List V} (h : SqL K H a xs) (n : H D = none) : SqL K (upd H D o) a xs := by
  have e : ∀ u, H a = some u → upd H D o a = some u := fun u e => by rw [upd_ne (ne_of_none e n)]; exact e
  rcases h with (h | ⟨ob, h⟩) | h
  · exact .inl (.inl (e _ h))
  · exact .inl (.inr ⟨ob, e _ h⟩)
  · exact .inr h
theorem iteQ {c : Bool} {A B : Prop} (h1 : c = true → A) (h2 : c = false → B) : (if c = true then A else B) := by
  cases c
  · exact h2 rfl
  · exact h1 rfl
theorem mul_k {i j : Int} (h : -(2 ^ 64) < i ∧ i < 2 ^ 64 ∨ -(2 ^ 64) < j ∧ j < 2 ^ 64) : MulOk i j := CMul.ok h
theorem bag_read {K : Fg} {vs : List V} {H : Hp} {Q : VK} {E : XK} (h : spBag K vs H Q E) {N : List Str} (hN : N.length = 4) : tBag K { nx := fun _ H' => Q .non H', rt := Q } (L2.start N vs) H := by
  obtain ⟨a, ns, rfl, hs, hl, q⟩ := h
  have es : L2.start N [V.ref a] = [some (.ref a), none, none, none] := by
    unfold L2.start
    have : N.length - [V.ref a].length = 3 := by simp [hN]
    rw [this]; rfl
  rw [es]
  refine ⟨.ref a, rfl, 63, rfl, a, ns.map V.int, rfl, hs, fun p0 hp0 => ⟨p0, rfl, ⟨_, .inl (.inl upd_same)⟩, fun D hD => ?_⟩⟩
  have hDp : D ≠ p0 := fun e => by rw [e, upd_same] at hD; cases hD
  have hD0 : H D = none := by rw [upd_ne hDp] at hD; exact hD
  generalize hms : (ns.drop (HT.sIx (ns.map V.int).length 0 none)).take (HT.sIx (ns.map V.int).length (ns.map V.int).length (some 63) - HT.sIx (ns.map V.int).length 0 none) = ms
  have ecut : cutV (ns.map V.int) none (some 63) = ms.map V.int := by
    unfold cutV
    rw [← hms, List.map_take, List.map_drop]
  have hml : ms.length ≤ 1000000 := by
    have := cutV_length (ns.map V.int) none (some 63)
    rw [ecut] at this
    simp at this
    omega
  rw [ecut]
  refine lc_list (xs := ms.map V.int) (fun i H2 => ∃ H3 : Hp, H2 = upd H3 D (.lst ((ms.take i).map V.int)) ∧ (∀ x o, upd H p0 (.lst (ms.map V.int)) x = some o → H3 x = some o) ∧ H3 D = none)
    ⟨upd H p0 (.lst (ms.map V.int)), rfl, fun _ _ e => e, by rw [ecut] at hD; exact hD⟩ (fun i H2 hi ⟨H3, e, k, n⟩ => by rw [e]; exact sqL_up (.inl (.inl (k p0 _ upd_same))) n) (fun i x H2 hx ⟨H3, e, k, n⟩ => ?_) (fun H2 ⟨H3, e, k, n⟩ => ?_)
  · obtain ⟨z, hz, rfl⟩ : ∃ z, ms[i]? = some z ∧ x = .int z := by
      rw [List.getElem?_map] at hx
      cases e2 : ms[i]? with
      | none => rw [e2] at hx; cases hx
      | some z => rw [e2] at hx; cases hx; exact ⟨z, rfl, rfl⟩
    refine ⟨rfl, ?_⟩
    simp only [tYes, if_true]
    refine ⟨.int z, rfl, .inl ⟨z, rfl, (ms.take i).map V.int, by rw [e]; exact upd_same, ?_, H3, ?_, k, n⟩⟩
    · rw [List.length_map, List.length_take]
      exact Nat.lt_of_le_of_lt (Nat.min_le_right _ _) (Nat.lt_of_le_of_lt hml (by decide))
    · rw [e, upd_upd, List.take_add_one, hz]
      simp
  · have e2 : (ms.take (ms.map V.int).length).map V.int = ms.map V.int := by simp
    rw [e2] at e
    have hDD : H2 D = some (.lst (ms.map V.int)) := by rw [e]; exact upd_same
    have kH : ∀ x o, H x = some o → H2 x = some o := fun x o hx => by
      rw [e, upd_ne (fun z => by rw [z, hD0] at hx; cases hx)]
      exact k x o (by rw [upd_ne (fun z => by rw [z, hp0] at hx; cases hx)]; exact hx)
    refine ⟨.ref D, rfl, .inl ⟨D, ms.map V.int, rfl, .inl (.inl (.inl hDD)), 211, _, rfl, rfl, mul_k (.inl ⟨by decide, by decide⟩), 12003, _, rfl, rfl, ?_⟩⟩
    refine ⟨.ref D, rfl, D, rfl, ⟨_, .inl (.inl hDD)⟩, ?_⟩
    refine for_list (xs := ms.map V.int) (fun i σ H3 => H3 = H2 ∧ ∃ (m : Int) (o : Option V), σ = [some (.ref a), some (.ref D), some (.int m), o]) ⟨rfl, _, _, rfl⟩ (fun i σ H3 hi ⟨e3, _⟩ => by rw [e3]; exact .inl (.inl hDD)) (fun i x σ H3 hx ⟨e3, m, o, es⟩ => ?_) (fun σ H3 ⟨e3, m, o, es⟩ => ?_)
    · obtain ⟨z, hz, rfl⟩ : ∃ z, ms[i]? = some z ∧ x = .int z := by
        rw [List.getElem?_map] at hx
        cases e2 : ms[i]? with
        | none => rw [e2] at hx; cases hx
        | some z => rw [e2] at hx; cases hx; exact ⟨z, rfl, rfl⟩
      subst e3 es
      exact ⟨.int m, rfl, m, _, rfl, rfl, mul_k (.inr ⟨by decide, by decide⟩), .int z, rfl, _, _, rfl, rfl, .inl ⟨_, rfl, _, _, rfl, rfl, (show (2147483549 : Int) ≠ 0 by decide), rfl, _, _, rfl⟩⟩
    · subst e3 es
      refine ⟨.ref D, rfl, .int m, rfl, by show 4 ≤ sizeLine; decide, fun p hp => ?_⟩
      have hDp2 : D ≠ p := fun z => by rw [← z, hDD] at hp; cases hp
      refine q D p _ ms m (fun x o hx => ?_) hD0 ?_ hDp2 ?_ upd_same
      · rw [upd_ne (fun z => by rw [z] at hx; have := kH _ _ hx; rw [hp] at this; cases this)]
        exact kH _ _ hx
      · cases e4 : H p with
        | none => rfl
        | some o => rw [kH _ _ e4] at hp; cases hp
      · rw [upd_ne hDp2]; exact hDD
/-! ### a draw -/
abbrev rDivK : R2 := rI (fun _ j => DivOk j) fun i j => .int (i.fdiv j)
abbrev tBx (K : Fg) (i : Int) : TE := tOp (rIx K) (tVar 0) (tC (.int i))
def tHot (K : Fg) : TS :=
  tSeq (tAsg (tOp rModK (tCB rInt1 (tCons (tOp rAddK (tOp rAddK (tOp rMulK (tVar 2) (tC (.int 48619))) (tOp rMulK (tBx K 1) (tC (.int 37501)))) (tBx K 3)) tNil)) (tC (.int 2147483647))) (gName 3))
  (tSeq (tAsg (tOp rModK (tCB rInt1 (tCons (tOp rAddK (tOp rMulK (tVar 3) (tVar 3)) (tOp rMulK (tBx K 1) (tC (.int 52009)))) tNil)) (tC (.int 1000000009))) (gName 4))
  (tRet (tOp rModK (tOp rDivK (tOp rModK (tCB rInt1 (tCons (tOp rAddK (tOp rMulK (tVar 4) (tC (.int 29009))) (tVar 3)) tNil)) (tC (.int 2147483587))) (tC (.int 19))) (tVar 1))))
def tRest (K : Fg) : TS :=
  tSeq (tIfS (tOr (tB (tGt (tBx K 1) (tCB (rLen3 K) (tCons (tBx K 0) tNil)))) (tB (tLt (tVar 2) (tOp (rI CPow fun i j => .int (i ^ j.toNat)) (tC (.int 10)) (tC (.int 18)))))) (tHot K) tNext)
  (tAsg (tVar 2) (gSub (tVar 0) (tC (.int 2)) rSetL))
def tTail (K : Fg) : TS :=
  tSeq (tAsg (tOp rModK (tCB rInt1 (tCons (tBx K 2) tNil)) (tVar 1)) (gName 5))
  (tSeq (tAsg (tOp rDivK (tCB rInt1 (tCons (tBx K 2) tNil)) (tVar 1)) (gSub (tVar 0) (tC (.int 2)) rSetL))
  (tRet (tVar 5)))
def tDraw (K : Fg) : TS :=
  tSeq (tIfS (tB (tLt (tBx K 2) (tC (.int 2))))
    (tSeq (tAsg (tOp rAddK (tBx K 1) (tC (.int 1))) (gSub (tVar 0) (tC (.int 1)) rSetL))
    (tSeq (tAsg (tOp rAddK (tBx K 3) (tOp rMulK (tBx K 1) (tC (.int 10007)))) (gName 2))
    (tSeq (tIfS (tB (tLe (tBx K 1) (tCB (rLen3 K) (tCons (tBx K 0) tNil)))) (tAsg (tOp (rIx K) (tBx K 0) (tOp (rI0 fun i j => .int (i - j)) (tBx K 1) (tC (.int 1)))) (gName 2)) tNext)
    (tRest K)))) tNext)
  (tTail K)
def spDraw (K : Fg) : Sp := fun vs H Q _ => ∃ (p c : Addr) (m i j x : Int) (ns : List Int), vs = [.ref p, .int m] ∧ H p = some (.lst [.ref c, .int i, .int j, .int x]) ∧ c ≠ p ∧ H c = some (.lst (ns.map V.int)) ∧ 0 ≤ i ∧ 0 < m ∧ DivOk m ∧
  ∀ d i' j' : Int, 0 ≤ i' → 0 ≤ d → d < m → Q (.int d) (upd H p (.lst [.ref c, .int i', .int j', .int x]))
theorem bIx {K : Fg} {σ : L2.St} {H : Hp} {Q : VK} {p : Addr} {xs : List V} {k : Int} {v : V} (h0 : σ[0]? = some (some (.ref p))) (hp : H p = some (.lst xs)) (hv : atI xs k = some v) (q : Q v H) : tBx K k σ H Q :=
  ⟨.ref p, h0, .inl ⟨p, xs, k, v, rfl, rfl, .inl (.inl hp), hv, q⟩⟩
theorem bSet {σ : L2.St} {H : Hp} {Q : L2.St → Hp → Prop} {p : Addr} {xs : List V} {k : Int} {j : Nat} {v : V} (h0 : σ[0]? = some (some (.ref p))) (hp : H p = some (.lst xs)) (hk : ixN xs.length k = some j) (q : Q σ (upd H p (.lst (xs.set j v)))) : gSub (tVar 0) (tC (.int k)) rSetL v σ H Q :=
  ⟨.ref p, h0, p, xs, k, j, rfl, rfl, hp, hk, q⟩
theorem fmod_in {d m : Int} (h : 0 < m) : 0 ≤ d.fmod m ∧ d.fmod m < m := ⟨Int.fmod_nonneg_of_pos d h, Int.fmod_lt_of_pos d h⟩
theorem bLen {K : Fg} {σ : L2.St} {H : Hp} {Q : VK} {p c : Addr} {i j x : Int} {ns : List Int} (h0 : σ[0]? = some (some (.ref p))) (hp : H p = some (.lst [.ref c, .int i, .int j, .int x])) (hc : H c = some (.lst (ns.map V.int))) (q : Q (.int ns.length) H) :
    tCB (rLen3 K) (tCons (tBx K 0) tNil) σ H Q := by
  refine bIx (k := 0) (v := .ref c) h0 hp rfl ?_
  exact .inl ⟨c, ns.map V.int, rfl, .inl (.inl (.inl hc)), by rw [List.length_map]; exact q⟩
section
variable {K : Fg} {H : Hp} {Q : VK} {p c : Addr} {m x : Int} {D : Ends}
theorem tail_read {i' j' : Int} {o2 o3 o4 : Option V} (hm : 0 < m) (hdm : DivOk m) (hi' : 0 ≤ i') (q : ∀ d i' j' : Int, 0 ≤ i' → 0 ≤ d → d < m → D.rt (.int d) (upd H p (.lst [.ref c, .int i', .int j', .int x]))) :
    tTail K D [some (.ref p), some (.int m), o2, o3, o4, none] (upd H p (.lst [.ref c, .int i', .int j', .int x])) := by
  refine bIx (k := 2) (v := .int j') rfl upd_same rfl (.inl ⟨_, rfl, .int m, rfl, _, _, rfl, rfl, (show m ≠ 0 by omega), ?_⟩)
  refine bIx (k := 2) (v := .int j') rfl upd_same rfl (.inl ⟨_, rfl, .int m, rfl, _, _, rfl, rfl, hdm, ?_⟩)
  refine bSet (j := 2) rfl upd_same rfl ?_
  refine ⟨_, rfl, ?_⟩
  rw [upd_upd]
  exact q _ i' _ hi' (fmod_in hm).1 (fmod_in hm).2
theorem hot_read {i j z : Int} (hm : 0 < m) (hi : 0 ≤ i) (q : ∀ d i' j' : Int, 0 ≤ i' → 0 ≤ d → d < m → D.rt (.int d) (upd H p (.lst [.ref c, .int i', .int j', .int x]))) :
    tHot K D [some (.ref p), some (.int m), some (.int z), none, none, none] (upd H p (.lst [.ref c, .int i, .int j, .int x])) := by
  refine ⟨.int z, rfl, _, _, rfl, rfl, mul_k (.inr ⟨by decide, by decide⟩), ?_⟩
  refine bIx (k := 1) (v := .int i) rfl upd_same rfl ⟨_, _, rfl, rfl, mul_k (.inr ⟨by decide, by decide⟩), _, _, rfl, rfl, ?_⟩
  refine bIx (k := 3) (v := .int x) rfl upd_same rfl ⟨_, _, rfl, rfl, .inl ⟨_, rfl, _, _, rfl, rfl, (show (2147483647 : Int) ≠ 0 by decide), ?_⟩⟩
  dsimp only
  generalize he : (z * 48619 + i * 37501 + x).fmod 2147483647 = e
  have hb : 0 ≤ e ∧ e < 2147483647 := he ▸ fmod_in (by decide)
  refine ⟨.int e, rfl, .int e, rfl, _, _, rfl, rfl, mul_k (.inl ⟨by omega, by omega⟩), ?_⟩
  refine bIx (k := 1) (v := .int i) rfl upd_same rfl ⟨_, _, rfl, rfl, mul_k (.inr ⟨by decide, by decide⟩), _, _, rfl, rfl, .inl ⟨_, rfl, _, _, rfl, rfl, (show (1000000009 : Int) ≠ 0 by decide), ?_⟩⟩
  refine ⟨_, rfl, _, _, rfl, rfl, mul_k (.inr ⟨by decide, by decide⟩), .int e, rfl, _, _, rfl, rfl, .inl ⟨_, rfl, _, _, rfl, rfl, (show (2147483587 : Int) ≠ 0 by decide), _, _, rfl, rfl, ⟨by decide, by decide +kernel⟩, .int m, rfl, _, _, rfl, rfl, (show m ≠ 0 by omega), ?_⟩⟩
  exact q _ i j hi (fmod_in hm).1 (fmod_in hm).2
theorem rest_read {i j z : Int} {ns : List Int} (hm : 0 < m) (hi : 0 ≤ i) (hc : upd H p (.lst [.ref c, .int i, .int j, .int x]) c = some (.lst (ns.map V.int))) (q : ∀ d i' j' : Int, 0 ≤ i' → 0 ≤ d → d < m → D.rt (.int d) (upd H p (.lst [.ref c, .int i', .int j', .int x])))
    (t : ∀ i' j' : Int, 0 ≤ i' → D.nx [some (.ref p), some (.int m), some (.int z), none, none, none] (upd H p (.lst [.ref c, .int i', .int j', .int x]))) :
    tRest K D [some (.ref p), some (.int m), some (.int z), none, none, none] (upd H p (.lst [.ref c, .int i, .int j, .int x])) := by
  refine bIx (k := 1) (v := .int i) rfl upd_same rfl ?_
  refine bLen rfl upd_same hc ⟨_, _, rfl, rfl, _, rfl, ?_⟩
  refine iteQ (fun hg => ?_) (fun hg => ?_)
  · exact iteT (hot_read hm hi q)
  · refine ⟨.int z, rfl, _, _, rfl, rfl, ⟨by decide, by decide, by decide⟩, _, _, rfl, rfl, _, rfl, ?_⟩
    refine iteQ (fun hz => hot_read hm hi q) (fun hz => ?_)
    refine ⟨_, rfl, ?_⟩
    refine bSet (j := 2) rfl upd_same rfl ?_
    rw [upd_upd]
    exact t i z hi
end
theorem draw_read {K : Fg} {vs : List V} {H : Hp} {Q : VK} {E : XK} (h : spDraw K vs H Q E) {N : List Str} (hN : N.length = 6) : tDraw K { nx := fun _ H' => Q .non H', rt := Q } (L2.start N vs) H := by
  obtain ⟨p, c, m, i, j, x, ns, rfl, hp, ne, hc, hi, hm, hdm, q⟩ := h
  have es : L2.start N [V.ref p, V.int m] = [some (.ref p), some (.int m), none, none, none, none] := by
    unfold L2.start
    have : N.length - [V.ref p, V.int m].length = 4 := by simp [hN]
    rw [this]; rfl
  rw [es]
  refine bIx (k := 2) (v := .int j) rfl hp rfl ⟨j, 2, rfl, rfl, _, rfl, ?_⟩
  refine iteQ (fun hj => ?_) (fun hj => ?_)
  · refine bIx (k := 1) (v := .int i) rfl hp rfl ⟨_, _, rfl, rfl, ?_⟩
    refine bSet (j := 1) rfl hp rfl ?_
    have hc1 : upd H p (.lst [.ref c, .int (i + 1), .int j, .int x]) c = some (.lst (ns.map V.int)) := by rw [upd_ne ne]; exact hc
    refine bIx (k := 3) (v := .int x) rfl upd_same rfl ?_
    refine bIx (k := 1) (v := .int (i + 1)) rfl upd_same rfl ⟨_, _, rfl, rfl, mul_k (.inr ⟨by decide, by decide⟩), _, _, rfl, rfl, ?_⟩
    refine bIx (k := 1) (v := .int (i + 1)) rfl upd_same rfl ?_
    refine bLen rfl upd_same hc1 ⟨_, _, rfl, rfl, _, rfl, ?_⟩
    refine iteQ (fun hn => ?_) (fun hn => ?_)
    · have hn := of_decide_eq_true hn
      refine bIx (k := 0) (v := .ref c) rfl upd_same rfl ?_
      refine bIx (k := 1) (v := .int (i + 1)) rfl upd_same rfl ⟨_, _, rfl, rfl, ?_⟩
      have hlt : i.toNat < ns.length := by omega
      refine .inl ⟨c, ns.map V.int, _, .int ns[i.toNat], rfl, rfl, .inl (.inl hc1), ?_, rest_read hm (by omega) hc1 q fun i' j' hi' => tail_read hm hdm hi' q⟩
      have e1 : i + 1 - 1 = (i.toNat : Int) := by omega
      rw [e1]
      have e2 : ixN (ns.map V.int).length (i.toNat : Int) = some i.toNat := by
        unfold ixN
        rw [List.length_map, if_pos (by omega), if_pos (by omega)]
        rfl
      unfold atI
      rw [e2]
      show (ns.map V.int)[i.toNat]? = _
      rw [List.getElem?_map, List.getElem?_eq_getElem hlt]
      rfl
    · exact rest_read hm (by omega) hc1 q fun i' j' hi' => tail_read hm hdm hi' q
  · have e : upd H p (.lst [.ref c, .int i, .int j, .int x]) = H := by
      funext a
      unfold upd
      by_cases ea : a = p
      · rw [if_pos ea, ea, hp]
      · rw [if_neg ea]
    have t := tail_read (K := K) (H := H) (p := p) (c := c) (x := x) (o2 := none) (o3 := none) (o4 := none) (D := { nx := fun _ H' => Q .non H', rt := Q }) (j' := j) hm hdm hi q
    rw [e] at t
    exact t
/-! ### as promises over data -/
/-- what a draw hands out: any number under m -/
def sDraw : GS := fun ds k _ => ∃ m : Int, ds = [.bag, .int m] ∧ 0 < m ∧ DivOk m ∧ ∀ d : Int, 0 ≤ d → d < m → k (.int d)
theorem sDraw_mn : MnS sDraw := fun ds k k' e e' h1 _ ⟨m, h, h2, h3, q⟩ => ⟨m, h, h2, h3, fun d a c => h1 _ (q d a c)⟩
theorem draw_lift {K : Fg} {vs : List V} {H : Hp} {Q : VK} {E : XK} (h : lift K sDraw vs H Q E) : spDraw K vs H Q E := by
  obtain ⟨b, ds, bg, r, m, rfl, h2, h3, q⟩ := h
  obtain ⟨v, w, rfl, r1, r2⟩ := r.of_cons
  obtain ⟨v2, w2, rfl, r3, r4⟩ := r2.of_cons
  rw [r4.of_nil]
  have r3 := r3.int
  subst r3
  simp only [Rep] at r1
  obtain ⟨p, rfl, eb⟩ := r1
  obtain ⟨c, i, j, x, ns, h4, h5, h6, h7⟩ := bg p eb
  refine ⟨p, c, m, i, j, x, ns, rfl, h4, h5, h6, h7, h2, h3, fun d i' j' hi' hd hdm => q d hd hdm _ _ ⟨fun a o n e _ => ?_, fun a e c2 i2 j2 m2 g g0 => ?_, fun t p hp => tab_upd h4 rfl (fun c q z => by unfold LamX.CodeO at z; cases z) (t p hp)⟩ rfl⟩
  · rw [upd_ne (fun z => n (by rw [z, eb]))]; exact e
  · have ea : a = p := Option.some.inj (e.symm.trans eb)
    subst ea
    rw [h4] at g; cases g
    exact ⟨i', j', hi', upd_same⟩
end DL
/-! DF0 -/
set_option Elab.async false
set_option linter.all false
set_option maxRecDepth 100000
set_option maxHeartbeats 4000000
/-! Own errors over ValueError, LookupError or IndexError: their making. -/
namespace DL
open PySem PySem.Spec PyProof.Rows L2
variable [TabC]
/-- the built-in class above -/
inductive EB where
  | ve | le | ie
deriving DecidableEq
def EB.nm : EB → String
  | .ve => "ValueError" | .le => "LookupError" | .ie => "IndexError"
def EB.new : EB → String
  | .ve => "ValueError.__new__" | .le => "LookupError.__new__" | .ie => "IndexError.__new__"
def EB.init : EB → String
  | .ve => "ValueError.__init__" | .le => "LookupError.__init__" | .ie => "IndexError.__init__"
def EB.tail : EB → List Value
  | .ve => [.type "ValueError", .type "Exception", .type "BaseException", .type "object"]
  | .le => [.type "LookupError", .type "Exception", .type "BaseException", .type "object"]
  | .ie => [.type "IndexError", .type "LookupError", .type "Exception", .type "BaseException", .type "object"]
theorem EB.facts : ∀ b : EB, ExcBaseFacts b.nm b.new b.init b.tail
  | .ve => PySem.F.excBase_ValueError
  | .le => PySem.F.excBase_LookupError
  | .ie => PySem.F.excBase_IndexError
theorem EB.store : ∀ b : EB, StoreFacts b.nm b.tail "object.__setattr__" "object"
  | .ve => PySem.F.store_ValueError
  | .le => PySem.F.store_LookupError
  | .ie => PySem.F.store_IndexError
/-- what the written part says of an own error's class -/
structure OexE (K : Fg) (b : EB) (C : Addr) : Prop where
  cls : ∃ nm q N bs bm sn sub ab col dd k0 k1 k2 k3 k5, K.lookup C = some (excClassObj nm q C N bs bm true sn sub ab col dd k0 k1 k2 k3 k5 b.new) ∧ PySem.W.excTail b.tail bm = true
  sa : PySem.W.findIn K (.ref C) "__setattr__" = some (some (.builtin "object.__setattr__"))
  exC : PySem.W.subIn K (.ref C) (.type "BaseException") = some true
  tyC : PySem.W.typeIn K (.ref C) = some (.type "type")
  kC : PySem.W.keepIn K (.ref C) = true
theorem over_of {K : Fg} {b : EB} {C : Addr} (T : OexE K b C) : PySem.W.excOver K C b.tail = true := by
  obtain ⟨nm, q, N, bs, bm, sn, sub, ab, col, dd, k0, k1, k2, k3, k5, hC, hbm⟩ := T.cls
  have hcl : PySem.W.clsIn K C = some { name := nm, bases := bs, mro := .ref C :: bm, ns := N, qualname := q, hasDict := true, slotNames := sn, subclasses := sub, abstract := ab, collection := col, hasDel := false } := by unfold PySem.W.clsIn; rw [hC] <;> rfl
  unfold PySem.W.excOver
  rw [hcl]
  simp [hbm]
theorem taker_none {K : Fg} {C : Addr} {f : Str} (h : PySem.W.findIn K (.ref C) f = some none) : PySem.W.takerIn K C f = some none := by
  unfold PySem.W.takerIn
  rw [h]; rfl
section
open Builtin Builtin.ObjectAttr
variable {prog : Program} {w : World} {A : Around} {E : Value → Shared → Prop} {R : Result → Shared → Prop} {hp : Heap} {g : Array GenState} {d : Drawn} {t : Nat} {os : OsState}
theorem osaE_new {K : Fg} {b : EB} {name : Str} {tk : Tok} {v : Value} {x C : Addr} {fv : Array Value} (T : OexE K b C) (X : K.In hp) (hx : hp.get? x = some { cls := .ref C, data := .fields fv }) (ha : PySem.W.findIn K (.ref C) name = some none)
    (hq : ∀ h' tk' dx, (∀ b o, b ≠ x → hp.get? b = some o → h'.get? b = some o) → hp.objs.size ≤ dx → dx ≠ x → h'.get? x = some { cls := .ref C, dict := some dx, data := .fields fv } →
      h'.Ns1 dx (fun y => if y = name then some v else none) → R (.ok (.ret .none)) ⟨h', g, d, tk', os⟩) :
    codeAny (model prog w) A (.call (.builtin "object.__setattr__") ⟨[.ref x, .str name tk, v], []⟩) R ⟨hp, g, d, t, os⟩ := by
  have I : PySem.W.InstAt hp x { cls := .ref C, data := .fields fv } C none := ⟨hx, rfl, rfl, trivial⟩
  have hxs : x ≠ hp.objs.size := Nat.ne_of_lt (Heap.lt_size hx)
  refine PySem.W.osa_openX (s := ⟨hp, g, d, t, os⟩) b.store X I (over_of T) (taker_none ha) fun ib => ?_
  obtain ⟨nm, q, N, bs, bm, sn, sub, ab, col, dd, k0, k1, k2, k3, k5, hC, hbm⟩ := T.cls
  have hcls : PySem.W.Looks (model prog w) hp (classData C) { name := nm, bases := bs, mro := .ref C :: bm, ns := N, qualname := q, hasDict := true, slotNames := sn, subclasses := sub, abstract := ab, collection := col, hasDel := false } := PySem.W.looks_clsIn X (by unfold PySem.W.clsIn; rw [hC] <;> rfl)
  show wpAny _ _ (storeInOwnDict (.ref x) (.ref C) (.str name tk) name v ib) _ _ _
  unfold storeInOwnDict ownDictForStores
  repeat (first | with_reducible refine HandSPX.store_in_new ?_ ?_ | with_reducible refine wpAny_loadPart_at hx ?_ | with_reducible refine hcls.at ?_ | wp_step)
  · exact ⟨_, #[], _, (Heap.get?_update_ne _ _ _ _ hxs.symm).trans (Heap.get?_push_at rfl rfl), rfl, fun e he => absurd he (by simp), fun _ => rfl⟩
  · intro h' tk' hn' hs
    have hx₁ : (hp.push { cls := .type "dict", data := .dict #[] }).get? x = some { cls := .ref C, data := .fields fv } := Heap.get?_push_of_some _ hx
    refine hq h' tk' hp.objs.size (fun b o hb ho => ?_) (Nat.le_refl _) hxs.symm ?_ hn'
    · exact (hs.2 b (Nat.ne_of_lt (Heap.lt_size ho))).trans ((Heap.get?_update_ne _ _ _ _ hb).trans (Heap.get?_push_of_some _ ho))
    · exact (hs.2 x hxs).trans (Heap.get?_update_self _ hx₁ rfl)
theorem osaE_old {K : Fg} {b : EB} {name : Str} {tk : Tok} {v : Value} {x C dx : Addr} {fv : Array Value} {m0 : Str → Option Value} {nl : List Str} (T : OexE K b C)
    (X : K.In hp) (hx : hp.get? x = some { cls := .ref C, dict := some dx, data := .fields fv }) (hns : hp.Ns1 dx m0) (hw : Within m0 nl) (hz : nl.length ≤ 1000) (ha : PySem.W.findIn K (.ref C) name = some none)
    (hq : ∀ h' tk', (∀ b o, b ≠ dx → hp.get? b = some o → h'.get? b = some o) → h'.Ns1 dx (fun y => if y = name then some v else m0 y) → R (.ok (.ret .none)) ⟨h', g, d, tk', os⟩) :
    codeAny (model prog w) A (.call (.builtin "object.__setattr__") ⟨[.ref x, .str name tk, v], []⟩) R ⟨hp, g, d, t, os⟩ := by
  obtain ⟨oD, esD, epD, hoD, hdD, _⟩ := hns.count hw
  have I : PySem.W.InstAt hp x { cls := .ref C, dict := some dx, data := .fields fv } C (some oD) := ⟨hx, rfl, rfl, hoD⟩
  refine PySem.W.osa_openX (s := ⟨hp, g, d, t, os⟩) b.store X I (over_of T) (taker_none ha) fun ib => ?_
  obtain ⟨nm, q, N, bs, bm, sn, sub, ab, col, dd, k0, k1, k2, k3, k5, hC, hbm⟩ := T.cls
  have hcls : PySem.W.Looks (model prog w) hp (classData C) { name := nm, bases := bs, mro := .ref C :: bm, ns := N, qualname := q, hasDict := true, slotNames := sn, subclasses := sub, abstract := ab, collection := col, hasDel := false } := PySem.W.looks_clsIn X (by unfold PySem.W.clsIn; rw [hC] <;> rfl)
  show wpAny _ _ (storeInOwnDict (.ref x) (.ref C) (.str name tk) name v ib) _ _ _
  unfold storeInOwnDict ownDictForStores
  repeat (first | with_reducible refine PySem.OEX.store_in_old hns hw hz ?_ | with_reducible refine wpAny_loadPart_at hx ?_ | with_reducible refine hcls.at ?_ | wp_step)
  intro h' tk' hn' hs
  exact hq h' tk' (fun b o hb ho => (hs.2 b hb).trans ho) hn'
end
section
variable {X : Cx} {pins : List (Addr × Obj)} {σ : L2.St} {H : Hp} {s : Shared} {b : EB} {a C dx : Addr} {f : Str} {y : V} {u : Value} {fs : List (Str × V)} {Q : Unit → Shared → Prop} {E : Value → Shared → Prop} {A : Around}
/-- self.f = y, the first one -/
theorem ostE_new (T : OexE X.K b C) (I : Inv X pins σ H s) (e : H a = some (exo a C none)) (hno : PySem.W.findIn X.K (.ref C) f = some none) (ry : RelV y u)
    (h : ∀ dx s', H dx = none → dx ≠ a → Inv X pins σ (upd (upd H dx (exd dx [(f, y)])) a (exo a C (some dx))) s' → Q () s') : wpAny (model X.prog X.w) A (setAttr (.ref a) f u) Q E s := by
  obtain ⟨t1, ho⟩ := exo_at I.hok e
  obtain ⟨hp, g, d, t, os⟩ := s
  refine PySem.W.set_plain I.kIn (ox := { cls := .ref C, dict := none, data := .fields #[.ref t1, .none, .none, .none, .bool false, .none] }) (od := none) ⟨ho, rfl, rfl, trivial⟩ T.sa ?_
  refine osaE_new T I.kIn ho hno (fun h' tk' dx k dn dne hx hn => ?_)
  have hnd : H dx = none := I.hok.fresh dn
  have nd : ∀ {b : Addr} {o : Obj}, hp.get? b = some o → b ≠ dx := fun {b o} q => Nat.ne_of_lt (Nat.lt_of_lt_of_le (Heap.lt_size q) dn)
  have na : ∀ {b : Addr}, H b = none → b ≠ a := fun {b} n z => by
    rw [z, e] at n
    cases n
  have Un1 : Un X.fs [] H (upd (upd H dx (exd dx [(f, y)])) a (exo a C (some dx))) hp h' := {
    keep := fun b o q n _ _ => k b o (na n) q
    slot := fun b o q n _ _ => ⟨o.slots, k b o (na n) q⟩
    free := fun b o q n _ => by rw [upd_ne (na n), upd_ne (nd q)]; exact n
    there := fun b o q _ => by
      by_cases hb : b = a
      · exact ⟨_, by rw [hb]; exact hx⟩
      · exact ⟨o, k b o hb q⟩
    tups := fun b xs q => by rw [upd_ne (at_ne e q exo_tup), upd_ne (ne_of_none q hnd)]; exact q
    frzs := fun b o v q => by rw [upd_ne (at_ne e q exo_frz), upd_ne (ne_of_none q hnd)]; exact q
    tbls := fun b ps q => ⟨#[], by rw [upd_ne (at_ne e q exo_tbl), upd_ne (ne_of_none q hnd), q]; simp⟩ }
  refine h dx _ hnd dne (I.un (t' := tk') Un1 fun b o q => ?_)
  by_cases hb : b = a
  · subst hb
    rw [upd_same] at q
    cases q
    exact exo_ok hx
  · rw [upd_ne hb] at q
    by_cases hd : b = dx
    · subst hd
      rw [upd_same] at q
      cases q
      exact exd_ok hn (relO_put (fs := []) ry fun g => True.intro)
    · rw [upd_ne hd] at q
      exact (I.hok b o q).stay (fun c v hc z => k c v (by
          rcases hc with hc | hc
          · rw [hc]
            exact hb
          · exact at_ne e hc exo_own) z)
        (fun c hc => by rw [upd_ne (at_ne e hc exo_own), upd_ne (ne_of_none hc hnd)]; exact hc) (fun c xs hc => by rw [upd_ne (at_ne e hc exo_tup), upd_ne (ne_of_none hc hnd)]; exact hc)
/-- self.f = y, a further one -/
theorem ostE_old (T : OexE X.K b C) (I : Inv X pins σ H s) (e : H a = some (exo a C (some dx))) (ed : H dx = some (exd dx fs)) (hl : fs.length ≤ 900) (hno : PySem.W.findIn X.K (.ref C) f = some none) (ry : RelV y u)
    (h : ∀ s', Inv X pins σ (upd H dx (exd dx ((f, y) :: fs))) s' → Q () s') : wpAny (model X.prog X.w) A (setAttr (.ref a) f u) Q E s := by
  obtain ⟨t1, ho⟩ := exo_at I.hok e
  obtain ⟨mA, hns, rel⟩ := exd_at I.hok ed
  have hw := within_of rel
  obtain ⟨hp, g, d, t, os⟩ := s
  obtain ⟨oD, _, _, hoD, _, _⟩ := hns.count hw
  refine PySem.W.set_plain I.kIn (ox := { cls := .ref C, dict := some dx, data := .fields #[.ref t1, .none, .none, .none, .bool false, .none] }) (od := some oD) ⟨ho, rfl, rfl, hoD⟩ T.sa ?_
  refine osaE_old T I.kIn ho hns hw (by rw [List.length_map]; omega) hno (fun h' tk' k hn => ?_)
  have hd : ∃ o, h'.get? dx = some o := by
    obtain ⟨o, _, _, e', _⟩ := hn
    exact ⟨o, e'⟩
  exact h _ (I.write (t' := tk') (x := dx) (e := dx) (o := exd dx ((f, y) :: fs)) (by rw [ed]; exact True.intro) (.inl rfl) k hd (exd_ok hn (relO_put ry rel)))
/-- Base.__init__(self, ..) -/
theorem oinitE_ok {us : List Value} {Q : Value → Shared → Prop} (T : OexE X.K b C) (I : Inv X pins σ H s) (e : H a = some (exo a C none)) (hl : us.length ≤ sizeLine) (h : ∀ s', Inv X pins σ H s' → Q .none s') :
    wpAny (model X.prog X.w) A (call (.builtin b.init) (.ref a :: us)) Q E s := by
  obtain ⟨nm, q, N, bs, bm, sn, sub, ab, col, dd, k0, k1, k2, k3, k5, hC, hbm⟩ := T.cls
  obtain ⟨t1, ho⟩ := exo_at I.hok e
  obtain ⟨hp, g, d, t, os⟩ := s
  refine wpAny_call (PySem.HandSPX.init_base b.facts (fun Y => PySem.W.excTail_contains Y bm hbm) (I.kIn _ _ hC) ho hl fun h' t2 k hx => ?_)
  have J := I.write (t' := t) (x := a) (e := a) (o := exo a C none) (by rw [e]; exact True.intro) (.inl rfl) k ⟨_, hx⟩ (exo_ok hx)
  have eu : upd H a (exo a C none) = H := by
    funext b
    by_cases hb : b = a
    · rw [hb, upd_same, e]
    · rw [upd_ne hb]
  rw [eu] at J
  exact h _ J
end
/-! ### readings and rules -/
def tVeE (K : Fg) (b : EB) (ta : TA) : TE := fun σ H Q => ta σ H fun vs H1 => ∃ (a C : Addr) (ws : List V), vs = .ref a :: ws ∧ ws.length ≤ 1000 ∧ OexE K b C ∧ H1 a = some (exo a C none) ∧ Q .non H1
def tOsE (K : Fg) (b : EB) (f : Str) (to te : TE) : TS := fun D σ H => te σ H fun y H1 => to σ H1 fun x H2 => ∃ a C : Addr, x = .ref a ∧ OexE K b C ∧ PySem.W.findIn K (.ref C) f = some none ∧
  ((H2 a = some (exo a C none) ∧ ∀ dx, H2 dx = none → dx ≠ a → D.nx σ (upd (upd H2 dx (exd dx [(f, y)])) a (exo a C (some dx)))) ∨
    ∃ (dx : Addr) (fs : List (Str × V)), H2 a = some (exo a C (some dx)) ∧ H2 dx = some (exd dx fs) ∧ fs.length ≤ 900 ∧ D.nx σ (upd H2 dx (exd dx ((f, y) :: fs))))
theorem ps_osE {X : Cx} (b : EB) {o e : Expr} {to te : TE} {f : Str} {p' pos : Pos} (ho : PE X o to) (he : PE X e te) (hs : swapsWith e (some (.Attribute o f p')) pos.line X.env = pure false := by rfl) : PS X (.Assign [.Attribute o f p'] e pos) (tOsE X.K b f to te) := by
  refine ⟨fun pins s σ H D I h => ?_⟩
  refine plainObj_wpAny_Assign_Attribute (thn (he.run pins s σ H _ I h) fun v s1 ⟨y, H1, I1, r1, q1⟩ => thn (ho.run pins s1 σ H1 _ I1 q1) fun u s2 ⟨x, H2, I2, r2, a, C, ex, T, hno, q⟩ => ?_) hs
  subst ex
  obtain rfl : u = Value.ref a := r2
  rcases q with ⟨ea, q⟩ | ⟨dx, fs, ea, ed, hl, q⟩
  · exact ostE_new T I2 ea hno r1 fun dx s' n ne J => ⟨σ, _, J, q dx n ne⟩
  · exact ostE_old T I2 ea ed hl hno r1 fun s' J => ⟨σ, _, J, q⟩
end DL
/-! DF2 -/
set_option Elab.async false
set_option linter.all false
set_option maxRecDepth 100000
set_option maxHeartbeats 4000000
/-! The program's own errors: their making, raise. -/
namespace DL
open PySem PySem.Spec PyProof.Rows L2
variable [TabC]
/-! ### Base.__init__(self, ..) by the base's own name -/
section
variable {X : Cx} {o e : Expr} {es : List Expr} {to te : TE} {ta : TA} {f : Str} {p p' p1 p2 pos : Pos} {x : Str} {S C : Addr}
structure BaseOk (K : Fg) (b : EB) (S : Addr) : Prop where
  ga : PySem.W.specialIn K (.ref S) "__getattribute__" = some (some (.builtin "type.__getattribute__"))
  rd : PySem.W.readsIn K S (.type "type") = true
  fc : PySem.W.findCls K (.ref S) (.type "type") "__init__" = some (.val (.builtin b.init))
theorem pe_bsinit {b : EB} {pl : Sem Bool} (hg : Gl X x) (hm : X.mg x = some (.ref S)) (B : BaseOk X.K b S) (ha : PA X (e :: es) ta) (hdb : (x == ("__debug__" : Str)) = false := by decide)
    (hc : eval (.Call (.Attribute (.Name x p1) "__init__" p2) (e :: es) [] pos) X.env = (do
      let ov ← eval (.Name x p1) X.env
      standAt p2.atName
      let (f, first) ← holding [ov] (getMethod ov "__init__" pl)
      callWith pos f first (backTo pos (starEach (e :: es) X.env)) (backToKw pos (keywordEach [] X.env))) := by rfl)
    (he : starEach (e :: es) X.env = (false, eval e X.env) :: starEach es X.env := by rfl) (hpl : (backTo pos (starEach es X.env)).any (·.1) = false := by rfl) :
    PE X (.Call (.Attribute (.Name x p1) "__init__" p2) (e :: es) [] pos) (tVeE X.K b ta) := by
  refine ⟨fun pins s σ H Q I h => ?_⟩
  refine PySem.W.methodCall_KW (ld_glob I hg hm ?_ hdb) hc
  refine PySem.W.method_cls I.kIn B.ga (PySem.W.cls_value I.kIn B.rd B.fc (by cases b <;> decide +kernel) ?_)
  show wpAny _ _ (callWith pos (Value.builtin b.init) [] (backTo pos (starEach (e :: es) X.env)) []) _ _ _
  refine PyProof.Rows.callWith_method1 (thn (ha.run pos pins _ σ H _ (I.tok _) h) fun us s1 ⟨vs, H1, I1, r1, a, C, ws, ev, hl, T, ea, q⟩ => ?_) he hpl
  subst ev
  cases r1 with
  | @cons _ u0 _ ur ra rw' =>
    obtain rfl : u0 = Value.ref a := ra
    have hlen : ur.length ≤ sizeLine := by
      rw [← Paired.length rw', sizeLine_eq]
      omega
    exact oinitE_ok T I1 ea hlen fun s' J => ⟨.non, H1, J, rfl, q⟩
end
/-! ### what an error's __init__ promises -/
abbrev cdS : Str := "code"
def errFs (code : Str) (flds : List Str) (ws : List V) : List (Str × V) := (flds.zip ws).reverse ++ [(cdS, V.str code)]
def spErr (C : Addr) (code : Str) (flds : List Str) : Sp := fun vs H Q _ => ∃ (a : Addr) (ws : List V), vs = V.ref a :: ws ∧ ws.length = flds.length ∧ H a = some (exo a C none) ∧
  ∀ dx H2, H dx = none → dx ≠ a → H2 a = some (exo a C (some dx)) → H2 dx = some (exd dx (errFs code flds ws)) → (∀ b, b ≠ a → b ≠ dx → H2 b = H b) → Q .non H2
abbrev tBase (K : Fg) (b : EB) (txt : Str) : TS := tDrop (tVeE K b (tCons (tVar 0) (tCons (tC (.str txt)) tNil)))
def tErr0 (K : Fg) (b : EB) (txt code : Str) : TS := tSeq (tBase K b txt) (tOsE K b cdS (tVar 0) (tC (.str code)))
def tErr1 (K : Fg) (b : EB) (txt code f1 : Str) : TS := tSeq (tBase K b txt) (tSeq (tOsE K b cdS (tVar 0) (tC (.str code))) (tOsE K b f1 (tVar 0) (tVar 1)))
def tErr2 (K : Fg) (b : EB) (txt code f1 f2 : Str) : TS := tSeq (tBase K b txt) (tSeq (tOsE K b cdS (tVar 0) (tC (.str code))) (tSeq (tOsE K b f1 (tVar 0) (tVar 1)) (tOsE K b f2 (tVar 0) (tVar 2))))
structure ErrC (K : Fg) (b : EB) (C : Addr) (flds : List Str) : Prop where
  T : OexE K b C
  no : ∀ f ∈ cdS :: flds, PySem.W.findIn K (.ref C) f = some none
section
variable {K : Fg} {b : EB} {C : Addr} {txt code f1 f2 : Str} {N : List Str} {vs : List V} {H : Hp} {Q : VK} {E : XK}
theorem err_read0 (T : ErrC K b C []) (h : spErr C code [] vs H Q E) (hN : N.length = 1) : tErr0 K b txt code { nx := fun _ H' => Q .non H', rt := Q } (L2.start N vs) H := by
  obtain ⟨a, ws, rfl, hl, ha, q⟩ := h
  cases ws with
  | cons _ _ => simp at hl
  | nil =>
    refine ⟨.ref a, rfl, a, C, [.str txt], rfl, (by simp), T.T, ha, ?_⟩
    refine ⟨.ref a, rfl, a, C, rfl, T.T, T.no _ (by simp), .inl ⟨ha, fun dx hd ne => ?_⟩⟩
    exact q dx _ hd ne upd_same (by rw [upd_ne ne, upd_same]; rfl) fun b h1 h2 => by rw [upd_ne h1, upd_ne h2]
theorem err_read1 (T : ErrC K b C [f1]) (h : spErr C code [f1] vs H Q E) (hN : N.length = 2) : tErr1 K b txt code f1 { nx := fun _ H' => Q .non H', rt := Q } (L2.start N vs) H := by
  obtain ⟨a, ws, rfl, hl, ha, q⟩ := h
  cases ws with
  | nil => simp at hl
  | cons w ws =>
    cases ws with
    | cons _ _ => simp at hl
    | nil =>
      refine ⟨.ref a, rfl, a, C, [.str txt], rfl, (by simp), T.T, ha, ?_⟩
      refine ⟨.ref a, rfl, a, C, rfl, T.T, T.no _ (by simp), .inl ⟨ha, fun dx hd ne => ?_⟩⟩
      refine ⟨w, rfl, .ref a, rfl, a, C, rfl, T.T, T.no _ (by simp), .inr ⟨dx, [(cdS, .str code)], upd_same, by rw [upd_ne ne, upd_same], (by simp), ?_⟩⟩
      exact q dx _ hd ne (by rw [upd_ne (Ne.symm ne), upd_same]) (by rw [upd_same]; rfl) fun b h1 h2 => by rw [upd_ne h2, upd_ne h1, upd_ne h2]
theorem err_read2 (T : ErrC K b C [f1, f2]) (h : spErr C code [f1, f2] vs H Q E) (hN : N.length = 3) : tErr2 K b txt code f1 f2 { nx := fun _ H' => Q .non H', rt := Q } (L2.start N vs) H := by
  obtain ⟨a, ws, rfl, hl, ha, q⟩ := h
  obtain ⟨w, w2, rfl⟩ : ∃ w w2, ws = [w, w2] := by
    cases ws with
    | nil => simp at hl
    | cons w ws =>
      cases ws with
      | nil => simp at hl
      | cons w2 ws =>
        cases ws with
        | nil => exact ⟨w, w2, rfl⟩
        | cons _ _ => simp at hl
  refine ⟨.ref a, rfl, a, C, [.str txt], rfl, (by simp), T.T, ha, ?_⟩
  refine ⟨.ref a, rfl, a, C, rfl, T.T, T.no _ (by simp), .inl ⟨ha, fun dx hd ne => ?_⟩⟩
  refine ⟨w, rfl, .ref a, rfl, a, C, rfl, T.T, T.no _ (by simp), .inr ⟨dx, [(cdS, .str code)], upd_same, by rw [upd_ne ne, upd_same], (by simp), ?_⟩⟩
  refine ⟨w2, rfl, .ref a, rfl, a, C, rfl, T.T, T.no _ (by simp), .inr ⟨dx, [(f1, w), (cdS, .str code)], by rw [upd_ne (Ne.symm ne), upd_same], by rw [upd_same], (by simp), ?_⟩⟩
  exact q dx _ hd ne (by rw [upd_ne (Ne.symm ne), upd_ne (Ne.symm ne), upd_same]) (by rw [upd_same]; rfl) fun b h1 h2 => by rw [upd_ne h2, upd_ne h2, upd_ne h1, upd_ne h2]
end
/-! ### raise C(..) -/
def errNs (flds : List Str) : List Str := flds.reverse ++ [cdS]
def errX (c code : Str) (flds : List Str) (ds : List D) : XD := ⟨c, errNs flds, ds.reverse ++ [D.str code]⟩
theorem zip_rev_app {α β : Type} (x : α) (y : β) : ∀ (l : List α) (m : List β), l.length = m.length → (l.zip m).reverse ++ [(x, y)] = (l.reverse ++ [x]).zip (m.reverse ++ [y]) := by
  intro l m h
  rw [List.zip_append (by simpa using h)]
  congr 1
  show (List.zipWith Prod.mk l m).reverse = List.zipWith Prod.mk l.reverse m.reverse
  exact List.reverse_zipWith h
theorem errFs_zip {code : Str} {flds : List Str} {ws : List V} (h : ws.length = flds.length) : errFs code flds ws = (errNs flds).zip (ws.reverse ++ [V.str code]) := zip_rev_app _ _ _ _ h.symm
theorem Reps.reverse {K : Fg} {b : Option Addr} {H : Hp} : ∀ {ds : List D} {vs : List V}, Reps K b H ds vs → Reps K b H ds.reverse vs.reverse
  | [], _, h => by rw [h.of_nil]; exact Reps.nil
  | d :: r, vs, h => by
    obtain ⟨v, q, rfl, h1, h2⟩ := h.of_cons
    rw [List.reverse_cons, List.reverse_cons]
    exact (Reps.reverse h2).append (Reps.cons h1 Reps.nil)
def gRaise (c code : Str) (flds : List Str) (dd : List D) (eo : XD → Prop) (ga : GA) : GSt := fun _ σ => ga σ fun ds => (ds ++ dd).length = flds.length ∧ ds.length ≤ 900 ∧ eo (errX c code flds (ds ++ dd))
section
variable {X : Cx} {eb : EB} {b : Option Addr} {H0 : Hp} {E : XK} {eo : XD → Prop} {c code : Str} {flds : List Str} {ga : GA} {e : Expr} {es : List Expr} {p pos pos' : Pos} {x : Str} {k : Nat} {fI : Addr} {fd : FuncData} {ps : List Str} {dd : List D} {dvs : List V} {dus : List Value}
/-- what stands of the class and its __init__ -/
structure ErrK (K : Fg) (eb : EB) (c : Str) (fI : Addr) (flds : List Str) : Prop where
  C : ErrC K eb (He.ga K c) flds
  iC : PySem.W.findIn K (.ref (He.ga K c)) "__init__" = some (some (.ref fI))
  tI : PySem.W.typeIn K (.ref fI) = some (.type "function")
theorem xd_new {O : List Addr} {H1 H2 : Hp} {a d : Addr} {fs : List (Str × V)} (hO : ∀ x ∈ O, some x ≠ b ∧ Hid O H1 x) (ha : H1 a = none) (hd : H1 d = none) (kp : ∀ x, x ≠ a → x ≠ d → H2 x = H1 x) : Ext b (hide O H1) (hide O (upd (del H2 a) d (.xd fs))) := by
  have ey : ∀ y o, H1 y = some o → upd (del H2 a) d (.xd fs) y = some o := fun y o h => by
    have n1 : y ≠ a := ne_of_none h ha
    have n2 : y ≠ d := ne_of_none h hd
    rw [upd_ne n2, del_ne n1, kp y n1 n2]; exact h
  exact (Ext.all ey).hide hO
theorem raise_read (Z : Cz X b H0 E eo) (T : ErrK X.K eb c fI flds) {σd : StD} {σ : L2.St} {H H1 : Hp} {O : List Addr} {ds : List D} {vs : List V} (x1 : Ext b H H1) (R : Rst X.K b H0 σd σ H O) (r1 : Reps X.K b (hide O H1) ds vs) (hdd : ∀ b H, Reps X.K b H dd dvs)
    (z1 : (ds ++ dd).length = flds.length) (z2 : ds.length ≤ 900) (z3 : eo (errX c code flds (ds ++ dd))) : vs.length ≤ 1000 ∧ ∀ a, H1 a = none → spErr (He.ga X.K c) code flds (.ref a :: (vs ++ dvs)) (upd H1 a (exo a (He.ga X.K c) none))
      (fun v H2 => v = .non ∧ ∃ (d : Addr) (fs : List (Str × V)), H2 a = some (exo a (He.ga X.K c) (some d)) ∧ H2 d = some (exd d fs) ∧ H1 d = none ∧ E (.ref (He.ga X.K c)) (some d) (upd (del H2 a) d (.xd fs))) (fun _ _ _ => False) := by
  have rr : Reps X.K b (hide O H1) (ds ++ dd) (vs ++ dvs) := r1.append (hdd _ _)
  have hl : (vs ++ dvs).length = flds.length := by rw [← rr.length]; exact z1
  refine ⟨by rw [← r1.length]; omega, fun a ha => ?_⟩
  refine ⟨a, vs ++ dvs, rfl, hl, upd_same, fun dx H2 hdx ne h2a h2d kp => ⟨rfl, dx, _, h2a, h2d, by rw [← hdx, upd_ne ne], ?_⟩⟩
  have hdx1 : H1 dx = none := by rw [← hdx, upd_ne ne]
  have R1 := R.mono x1
  have kp' : ∀ x, x ≠ a → x ≠ dx → H2 x = H1 x := fun x n1 n2 => by rw [kp x n1 n2, upd_ne n1]
  have hO : ∀ x ∈ O, some x ≠ b ∧ Hid O H1 x := fun x m => ⟨(R1.nb x m).1, (R1.nb x m).2.2⟩
  have xx := xd_new (fs := errFs code flds (vs ++ dvs)) hO ha hdx1 kp'
  have ey : Ext b (hide O (upd (del H2 a) dx (.xd (errFs code flds (vs ++ dvs))))) (upd (del H2 a) dx (.xd (errFs code flds (vs ++ dvs)))) := ⟨hide_le, fun a e c i j m h h0 => ⟨i, j, h0, (of_hide h).2⟩, fun t => tabs_unhide t⟩
  refine Z.ex _ _ _ _ z3 (R1.le.trans (xx.trans ey)) ⟨rfl, dx, (vs ++ dvs).reverse ++ [V.str code], rfl, ?_, ?_, ?_⟩
  · rw [upd_same, errFs_zip hl]; rfl
  · have hl2 := hl
    rw [List.length_append] at hl2
    simp only [errX, errNs, List.length_append, List.length_reverse, List.length_cons, List.length_nil]
    omega
  · exact ((rr.mono (xx.1.trans hide_le)).reverse).append (Reps.cons rfl Reps.nil)
theorem pmk_oexE {CX : CXT} {C : Addr} {sp : Sp} {ds : List Value} (T : OexE X.K eb C) (iC : PySem.W.findIn X.K (.ref C) "__init__" = some (some (.ref fI))) (tI : PySem.W.typeIn X.K (.ref fI) = some (.type "function"))
    (F1 : FnOk X.prog X.w X.K X.mg X.base CX k fI fd ps sp) (hr : Room (k + 1) X.A) (hb : Binds X.K fd ps ds) (hd : Vals dvs ds) (hx : Passes CX X (fun _ _ _ => False)) (hg : Gl X x) (hm : X.mg x = some (.ref C)) {ta : TA} (ha : PA X (e :: es) ta)
    (hdb : (x == ("__debug__" : Str)) = false := by decide) (he : starEach (e :: es) X.env = (false, eval e X.env) :: starEach es X.env := by rfl) (hpl : (backTo pos (starEach es X.env)).any (·.1) = false := by rfl) :
    PMk X (.Call (.Name x p) (e :: es) [] pos) (tMkO C sp dvs ta) := by
  intro pins s σ H Q I h
  obtain ⟨nm, q, N, bs, bm, sn, sub, ab, col, dd, k0, k1, k2, k3, k5, hC, hbm⟩ := T.cls
  refine wpAny_Call_Name_kw (ld_glob I hg hm ?_ hdb)
  refine PySem.W.callWith_K (h₀ := X.base) I.ok.mod.kin T.kC (thn (ha.run pos pins s σ H _ I h) fun us s1 ⟨vs, H1, I1, r1, hz, q1⟩ => ⟨I1.kIn, ?_⟩) he hpl
  show wpAny _ _ (call (.ref C) us) _ _ _
  obtain ⟨hp, g, dr, tk, os⟩ := s1
  have hsz : hp.objs.size ≤ hp.objs.size + 1 := Nat.le_succ _
  have hn : H1 (hp.objs.size + 1) = none := I1.hok.fresh hsz
  have hq := q1 (hp.objs.size + 1) hn
  have kk : ∀ b o, hp.get? b = some o → ((hp.push (PySem.W.kdv_tup us)).push (PySem.HandSPX.excO C hp.objs.size)).get? b = some o := fun b o e => Heap.get?_push_of_some _ (Heap.get?_push_of_some _ e)
  have hget : ((hp.push (PySem.W.kdv_tup us)).push (PySem.HandSPX.excO C hp.objs.size)).get? (hp.objs.size + 1) = some (PySem.HandSPX.excO C hp.objs.size) := by heap_get
  have I2 : Inv X pins σ (upd H1 (hp.objs.size + 1) (exo (hp.objs.size + 1) C none)) ⟨(hp.push (PySem.W.kdv_tup us)).push (PySem.HandSPX.excO C hp.objs.size), g, dr, tk, os⟩ :=
    I1.laid (t' := tk) (a := hp.objs.size + 1) (o := exo (hp.objs.size + 1) C none) (h' := (hp.push (PySem.W.kdv_tup us)).push (PySem.HandSPX.excO C hp.objs.size)) kk hsz (exo_ok hget)
  have r2 : Vals (V.ref (hp.objs.size + 1) :: (vs ++ dvs)) (Value.ref (hp.objs.size + 1) :: (us ++ ds)) := .cons rfl (r1.append hd)
  have hl : (Value.ref (hp.objs.size + 1) :: us ++ ds).length = ps.length := by
    have e := r2.length
    rw [F1.len _ _ _ _ hq] at e
    exact e.symm
  have hus : us.length ≤ sizeLine := by
    rw [← Paired.length r1, sizeLine_eq]
    omega
  refine wpAny_call (PySem.HandSPX.call_own eb.facts (fun Y => PySem.W.excTail_contains Y bm hbm) (I1.kIn _ _ hC) (PySem.W.looks_findIn I1.kIn iC) (fun self => PySem.W.bind_fn I1.kIn self tI) hus
    (codeAny_mono (F1.run _ X.stack _ _ ⟨Value.ref (hp.objs.size + 1) :: us, []⟩ (Value.ref (hp.objs.size + 1) :: (us ++ ds)) _ _ (fun _ _ _ => False) (hr.make C us []) (I2.env0.make C us []) (hb _ (Value.ref (hp.objs.size + 1) :: us) I2.kIn hl) r2 hq) fun r s' hq' => ?_))
  cases r with
  | error er => exact hx pins σ _ _ er s' I2 hq'
  | ok fl =>
    cases fl with
    | ret u =>
      obtain ⟨v, H2, os2, bare2, un2, hok2, rv, ev, d, fs, ea, ed, hd1, q2⟩ := hq'
      subst ev
      obtain ⟨h2, g2, d2, t2, os'⟩ := s'
      exact ⟨rv, mk_end (raises_own T.exC T.tyC) I1 hsz kk un2 hok2 os2 bare2 ea ed hd1 q2⟩
    | next => exact False.elim hq'
    | brk => exact False.elim hq'
    | cont => exact False.elim hq'
theorem ds_raise (tk : Takes X (fun cls d _ H' => E cls d H')) (Z : Cz X b H0 E eo) (hc : X.calm = true) (T : ErrK X.K eb c fI flds) (F1 : FnOk X.prog X.w X.K X.mg X.base (L2.CX X.prog X.w) k fI fd ps (spErr (He.ga X.K c) code flds)) (hr : Room (k + 1) X.A) (hb : Binds X.K fd ps dus) (hd : Vals dvs dus) (hdd : ∀ b H, Reps X.K b H dd dvs)
    (hx : Passes (L2.CX X.prog X.w) X (fun _ _ _ => False)) (hg : Gl X x) (hm : X.mg x = some (.ref (He.ga X.K c))) (A : DAr b H0 X (e :: es) ga)
    (hdb : (x == ("__debug__" : Str)) = false := by decide) (he : starEach (e :: es) X.env = (false, eval e X.env) :: starEach es X.env := by rfl) (hpl : (backTo pos (starEach es X.env)).any (·.1) = false := by rfl) :
    DS b H0 X (.Raise (some (.Call (.Name x p) (e :: es) [] pos)) none pos') (gRaise c code flds dd eo ga) := by
  refine ⟨ps_imp (ps_raise hc tk (pmk_oexE T.C.T T.iC T.tI F1 hr hb hd hx hg hm A.pa hdb he hpl)) fun D σ H ⟨σd, O, R, q⟩ => ?_, fun D D' σ h1 h2 h3 h4 q => A.mn _ _ _ (fun x z => z) q⟩
  refine ⟨σd, O, R, A.mn _ _ _ (fun ds z vs H1 x1 r1 => ?_) q⟩
  exact raise_read Z T x1 R r1 hdd z.1 z.2.1 z.2.2
theorem pmk_oex0 {CX : CXT} {C : Addr} {sp : Sp} {ds : List Value} (T : OexE X.K eb C) (iC : PySem.W.findIn X.K (.ref C) "__init__" = some (some (.ref fI))) (tI : PySem.W.typeIn X.K (.ref fI) = some (.type "function"))
    (F1 : FnOk X.prog X.w X.K X.mg X.base CX k fI fd ps sp) (hr : Room (k + 1) X.A) (hb : Binds X.K fd ps ds) (hd : Vals dvs ds) (hx : Passes CX X (fun _ _ _ => False)) (hg : Gl X x) (hm : X.mg x = some (.ref C))
    (hdb : (x == ("__debug__" : Str)) = false := by decide) :
    PMk X (.Call (.Name x p) [] [] pos) (tMkO C sp dvs tNil) := by
  intro pins s σ H Q I h
  obtain ⟨nm, q, N, bs, bm, sn, sub, ab, col, dd, k0, k1, k2, k3, k5, hC, hbm⟩ := T.cls
  refine wpAny_Call_Name_kw (ld_glob I hg hm ?_ hdb)
  refine PySem.W.callWith_K0 I.kIn T.kC ?_
  obtain ⟨us, eus⟩ : ∃ us : List Value, us = [] := ⟨_, rfl⟩
  obtain ⟨vs, evs⟩ : ∃ vs : List V, vs = [] := ⟨_, rfl⟩
  show wpAny _ _ (call (.ref C) []) _ _ _
  rw [← eus]
  have I1 := I
  have r1 : Vals vs us := by rw [eus, evs]; exact .nil
  obtain ⟨hz, q1⟩ := h
  rw [← evs] at q1 hz
  obtain ⟨hp, g, dr, tk, os⟩ := s
  have hsz : hp.objs.size ≤ hp.objs.size + 1 := Nat.le_succ _
  have hn : H (hp.objs.size + 1) = none := I1.hok.fresh hsz
  have hq := q1 (hp.objs.size + 1) hn
  have kk : ∀ b o, hp.get? b = some o → ((hp.push (PySem.W.kdv_tup us)).push (PySem.HandSPX.excO C hp.objs.size)).get? b = some o := fun b o e => Heap.get?_push_of_some _ (Heap.get?_push_of_some _ e)
  have hget : ((hp.push (PySem.W.kdv_tup us)).push (PySem.HandSPX.excO C hp.objs.size)).get? (hp.objs.size + 1) = some (PySem.HandSPX.excO C hp.objs.size) := by heap_get
  have I2 : Inv X pins σ (upd H (hp.objs.size + 1) (exo (hp.objs.size + 1) C none)) ⟨(hp.push (PySem.W.kdv_tup us)).push (PySem.HandSPX.excO C hp.objs.size), g, dr, tk, os⟩ :=
    I1.laid (t' := tk) (a := hp.objs.size + 1) (o := exo (hp.objs.size + 1) C none) (h' := (hp.push (PySem.W.kdv_tup us)).push (PySem.HandSPX.excO C hp.objs.size)) kk hsz (exo_ok hget)
  have r2 : Vals (V.ref (hp.objs.size + 1) :: (vs ++ dvs)) (Value.ref (hp.objs.size + 1) :: (us ++ ds)) := .cons rfl (r1.append hd)
  have hl : (Value.ref (hp.objs.size + 1) :: us ++ ds).length = ps.length := by
    have e := r2.length
    rw [F1.len _ _ _ _ hq] at e
    exact e.symm
  have hus : us.length ≤ sizeLine := by
    rw [← Paired.length r1, sizeLine_eq]
    omega
  refine wpAny_call (PySem.HandSPX.call_own eb.facts (fun Y => PySem.W.excTail_contains Y bm hbm) (I1.kIn _ _ hC) (PySem.W.looks_findIn I1.kIn iC) (fun self => PySem.W.bind_fn I1.kIn self tI) hus
    (codeAny_mono (F1.run _ X.stack _ _ ⟨Value.ref (hp.objs.size + 1) :: us, []⟩ (Value.ref (hp.objs.size + 1) :: (us ++ ds)) _ _ (fun _ _ _ => False) (hr.make C us []) (I2.env0.make C us []) (hb _ (Value.ref (hp.objs.size + 1) :: us) I2.kIn hl) r2 hq) fun r s' hq' => ?_))
  cases r with
  | error er => exact hx pins σ _ _ er s' I2 hq'
  | ok fl =>
    cases fl with
    | ret u =>
      obtain ⟨v, H2, os2, bare2, un2, hok2, rv, ev, d, fs, ea, ed, hd1, q2⟩ := hq'
      subst ev
      obtain ⟨h2, g2, d2, t2, os'⟩ := s'
      exact ⟨rv, mk_end (raises_own T.exC T.tyC) I1 hsz kk un2 hok2 os2 bare2 ea ed hd1 q2⟩
    | next => exact False.elim hq'
    | brk => exact False.elim hq'
    | cont => exact False.elim hq'
theorem ds_raise0 (tk : Takes X (fun cls d _ H' => E cls d H')) (Z : Cz X b H0 E eo) (hc : X.calm = true) (T : ErrK X.K eb c fI flds) (F1 : FnOk X.prog X.w X.K X.mg X.base (L2.CX X.prog X.w) k fI fd ps (spErr (He.ga X.K c) code flds)) (hr : Room (k + 1) X.A) (hb : Binds X.K fd ps dus) (hd : Vals dvs dus) (hdd : ∀ b H, Reps X.K b H dd dvs)
    (hx : Passes (L2.CX X.prog X.w) X (fun _ _ _ => False)) (hg : Gl X x) (hm : X.mg x = some (.ref (He.ga X.K c)))
    (hdb : (x == ("__debug__" : Str)) = false := by decide) :
    DS b H0 X (.Raise (some (.Call (.Name x p) [] [] pos)) none pos') (gRaise c code flds dd eo gNil) := by
  refine ⟨ps_imp (ps_raise hc tk (pmk_oex0 T.C.T T.iC T.tI F1 hr hb hd hx hg hm hdb)) fun D σ H ⟨σd, O, R, q⟩ => ?_, fun D D' σ h1 h2 h3 h4 q => q⟩
  obtain ⟨z1, z2, z3⟩ := q
  exact raise_read Z T (x1 := .refl H) (vs := []) R Reps.nil hdd z1 z2 z3
end
end DL
/-! DF3 -/
set_option Elab.async false
set_option linter.all false
set_option maxRecDepth 100000
set_option maxHeartbeats 4000000
/-! A question told or refused: try .. except (A, B, C) as e, the error's fields, a lambda handed in. -/
namespace DL
open PySem PySem.Spec PyProof.Rows L2
/-! ### except (A, B, C) as e -/
/-! ### a field of the error that is caught -/
/-! ### a def called there: the error stands pinned -/
end DL
/-! DF4 -/
set_option Elab.async false
set_option linter.all false
set_option maxRecDepth 100000
set_option maxHeartbeats 4000000
/-! _law_field, _law_why, a lambda handed to it. -/
namespace DL
open PySem PySem.Spec PyProof.Rows L2
variable [TabC]
/-! ### _law_field -/
def inAny (c : Str) (l : List Str) : Bool := l.any fun z => decide (z = c)
abbrev l1 : List Str := ["InvalidPlaces", "InvalidTurns", "InvalidRows", "InvalidCommand"]
abbrev l2 : List Str := ["InvalidNumber", "InvalidTable", "InvalidKind", "InvalidText", "InvalidSign", "InvalidLimit"]
abbrev l3 : List Str := ["InvalidName", "DuplicateName", "UnknownName", "WrongSort"]
abbrev l4 : List Str := ["InvalidLine", "InvalidPage"]
abbrev sTM : Str := "TooMany"
abbrev sIU : Str := "InUse"
abbrev sFu : Str := "Full"
abbrev sWK : Str := "WrongKind"
abbrev n_at : Str := "at"
abbrev n_gi : Str := "given"
abbrev n_na : Str := "name"
abbrev n_li : Str := "line"
abbrev n_mo : Str := "most"
abbrev n_su : Str := "subject"
abbrev n_us : Str := "users"
abbrev n_lm : Str := "limit"
abbrev n_wo : Str := "word"
def fieldNames (c : Str) : List Str :=
  if inAny c l1 = true then [n_at] else if inAny c l2 = true then [n_gi] else if inAny c l3 = true then [n_na] else if inAny c l4 = true then [n_li]
  else if decide (c = sTM) = true then [n_mo, n_su] else if decide (c = sIU) = true then [n_na, n_us] else if decide (c = sFu) = true then [n_lm] else if decide (c = sWK) = true then [n_wo] else []
section
variable {K : Fg} {a C dd : Addr} {fs : List (Str × V)} {H : Hp} {code : Str} {D : Ends}
structure Cau (K : Fg) (C dd : Addr) (fs : List (Str × V)) (code : Str) (H : Hp) : Prop where
  T : XfC K C
  no : ∀ n ∈ cdS :: fieldNames code, PySem.W.findIn K (.ref C) n = some none
  at_ : H dd = some (.xd fs)
  co : fs.lookup cdS = some (.str code)
theorem Cau.ext {H' : Hp} (c : Cau K C dd fs code H) (e : ∀ a o, H a = some o → H' a = some o) : Cau K C dd fs code H' := ⟨c.T, c.no, e _ _ c.at_, c.co⟩
def lk {α : Type} (fs : List (Str × α)) (n : Str) : Option α := fs.lookup n
/-- the fields told, in a new tuple -/
def Told (fs : List (Str × V)) (ns : List Str) (H : Hp) (Q : VK) : Prop := ∃ vs, ns.mapM (lk fs) = some vs ∧ ∀ H' p, (∀ a o, H a = some o → H' a = some o) → H' p = none → Q (.ref p) (upd H' p (.tup vs))
theorem Told.ext {ns : List Str} {H' : Hp} {Q : VK} (t : Told fs ns H Q) (e : ∀ a o, H a = some o → H' a = some o) : Told fs ns H' Q := by
  obtain ⟨vs, h, q⟩ := t
  exact ⟨vs, h, fun H2 p k hp => q H2 p (fun a o z => k a o (e a o z)) hp⟩
end
end DL
/-! DF5 -/
set_option Elab.async false
set_option linter.all false
set_option maxRecDepth 100000
set_option maxHeartbeats 4000000
/-! _law_why(lambda: ..), as data. -/
namespace DL
open PySem PySem.Spec PyProof.Rows L2
/-! ### the error as data -/
/-! ### the body of _law_why -/
/-! ### _law_why(lambda: body) -/
end DL
/-! DF6 -/
set_option Elab.async false
set_option linter.all false
set_option maxRecDepth 100000
set_option maxHeartbeats 4000000
/-! Keyword calls, built-ins of more operands, the law's start and end. -/
namespace DL
open PySem PySem.Spec PyProof.Rows L2
variable [TabC]
theorem cz_none {X : Cx} {b : Option Addr} {H0 : Hp} : Cz X b H0 (fun _ _ _ => False) (fun _ => False) := ⟨fun pins σ H s e s' I c => by
  obtain ⟨_, _, _, _, _, _, _, _, _, _, _, _, q⟩ := c
  exact q.elim, fun x cls d H' h => h.elim⟩
/-! ### f(k = e, ..) -/
section
variable {X : Cx} {b : Option Addr} {H0 : Hp} {e : Expr} {ge : GE} {g ga : GA} {kws : List Keyword} {nm : Option Str} {kpos p pos : Pos}
/-- only keywords, each parameter named once: perm puts the values in the parameters' order -/
def gCallK (s : GS) (perm : {α : Type} → List α → List α) (eo : XD → Prop) (ga : GA) : GE := fun σ k => ga σ fun ds => s (perm ds) k eo
/-! ### built-ins of more operands -/
structure ClN (K : Fg) (b : Option Addr) (r : List V → Hp → VK → Prop) (rd : List D → (D → Prop) → Prop) : Prop where
  mn : ∀ x (k k' : D → Prop), (∀ d, k d → k' d) → rd x k → rd x k'
  ok : ∀ (O : List Addr) (H : Hp) (dx : List D) (x : List V) (Q : VK), Fresh b O H → Reps K b H dx x → rd dx (fun d => ∀ v H', Ext b H H' → Rep K b (hide O H') d v → Q v H') → r x H Q
def gCl (rd : List D → (D → Prop) → Prop) (ga : GA) : GE := fun σ k => ga σ fun ds => rd ds k
theorem clN_run {r : List V → Hp → VK → Prop} {rd : List D → (D → Prop) → Prop} {es : List Expr} (o : ClN X.K b r rd) (A : DAT b H0 X es ga) {σ : L2.St} {H : Hp} {Q : VK} (h : LE X.K b H0 (gCl rd ga) σ H Q) : tCB r (LAT X.K b H0 ga) σ H Q := by
  obtain ⟨σd, O, R, q⟩ := h
  refine ⟨σd, O, R, A.mn _ _ _ (fun x hx v1 H1 x1 r1 => ?_) q⟩
  exact o.ok O H1 x v1 Q (fun p hp => (R.mono x1).free hp) r1 (o.mn _ _ _ (fun d kd v H' x3 r3 => kd v H' (x1.trans x3) r3) hx)
theorem de_callBN {id : String} {r : List V → Hp → VK → Prop} {rd : List D → (D → Prop) → Prop} {es : List Expr} {x : Str} (hc : CallR X (.builtin id) r) (o : ClN X.K b r rd) (hg : Gl X x) (hm : X.mg x = some (.builtin id)) (A : DAT b H0 X (e :: es) ga) (hdb : (x == ("__debug__" : Str)) = false := by decide)
    (he : starEach (e :: es) X.env = (false, eval e X.env) :: starEach es X.env := by rfl) (hpl : (backTo pos (starEach es X.env)).any (·.1) = false := by rfl) : DE b H0 X (.Call (.Name x p) (e :: es) [] pos) (gCl rd ga) :=
  ⟨pe_imp (pe_callBfun hc hg hm A.pa hdb he hpl) fun σ H Q h => clN_run o A h, fun σ k k' i q => A.mn _ _ _ (fun ds z => o.mn _ _ _ i z) q⟩
def dGcd : List D → (D → Prop) → Prop := fun ds k => match ds with
  | [.int i, .int j] => k (.int ((Nat.gcd i.natAbs j.natAbs : Nat) : Int))
  | _ => False
theorem cl_gcd {K : Fg} : ClN K b rGcd dGcd := by
  refine ⟨fun x k k' i q => ?_, fun O H dx x Q F r q => ?_⟩
  · unfold dGcd at q ⊢
    split at q
    · exact i _ q
    · exact q.elim
  · unfold dGcd at q
    split at q
    · obtain ⟨v, w, rfl, r1, r2⟩ := r.of_cons
      obtain ⟨v2, w2, rfl, r3, r4⟩ := r2.of_cons
      rw [r4.of_nil]
      cases r1.int; cases r3.int
      exact ⟨_, _, rfl, q _ H (.refl H) rfl⟩
    · exact q.elim
end
/-! ### the law: the bag is made, the rest is read as data -/
section
variable {X : Cx} {st : Stmt} {sts : List Stmt}
def tBagged (K : Fg) (g : GSt) : TS := fun D σ H => ∃ (b : Option Addr) (H0 : Hp), LamX.Tabs TabC.T H0 ∧ LS K b H0 g D σ H
theorem pss_bagged {g : GSt} (h : ∀ (b : Option Addr) (H0 : Hp), LamX.Tabs TabC.T H0 → DSs b H0 X sts g) : PSs X sts (tBagged X.K g) := ⟨fun pins s σ H D I ⟨b, H0, hT, q⟩ => (h b H0 hT).ps.run pins s σ H D I q⟩
/-- the state behind the making of the bag: slot 1 holds it -/
theorem rst_bag {K : Fg} {a c p : Addr} {H : Hp} {ms : List Int} {m : Int} {n : Nat} (hc : c ≠ p) (h1 : H c = some (.lst (ms.map V.int))) (h2 : H p = some (.lst [.ref c, .int 0, .int 0, .int m])) :
    Rst K (some p) H (.unset :: .sh .bag :: List.replicate n .unset) ((L2.start ([] : List Str) [V.ref a]) ++ [some (V.ref p)] ++ List.replicate n none) H [] where
  len := by simp [L2.start]
  slot := fun i => by
    cases i with
    | zero => trivial
    | succ i =>
      cases i with
      | zero => exact ⟨.ref p, rfl, by simp only [Rep]; exact ⟨p, rfl, rfl⟩⟩
      | succ i =>
        show SlotOk K (some p) [] H (look (List.replicate n SD.unset) i) _
        rw [look_rep]; trivial
  uniq := fun i j a' g _ => by
    cases i with
    | zero => exact g.elim
    | succ i =>
      cases i with
      | zero => exact g.elim
      | succ i =>
        have g : Owns (look (List.replicate n SD.unset) i) _ a' := g
        rw [look_rep] at g; exact g.elim
  nb := fun a m => by cases m
  le := by rw [hide_nil]; exact .refl H
  bg := by
    rw [hide_nil]
    intro p' e
    cases e
    exact ⟨c, 0, 0, m, ms, h2, hc, h1, by decide⟩
/-- what the law is asked: any list of ints -/
def spLaw (K : Fg) : Sp := fun vs H Q _ => ∃ (a : Addr) (ns : List Int), vs = [.ref a] ∧ SqL K H a (ns.map V.int) ∧ ns.length ≤ 1000000 ∧ LamX.Tabs TabC.T H ∧ ∀ H', Q (.bl true) H'
abbrev tBagCall (K : Fg) : TS := tAsg (tCall (spBag K) [] C8.E0 (tCons (tVar 0) tNil)) (gName 1)
theorem law_read {K : Fg} {vs : List V} {H : Hp} {Q : VK} {E : XK} {g : GSt} {N : List Str} (hN : 2 ≤ N.length) (h : spLaw K vs H Q E) (m : MnD g) (r : g (fin fun d => d = .bl true) (.unset :: .sh .bag :: List.replicate (N.length - 2) .unset)) :
    tSeq (tBagCall K) (tBagged K g) { nx := fun _ H' => Q .non H', rt := Q } (L2.start N vs) H := by
  obtain ⟨a, ns, rfl, hs, hl, hT, q⟩ := h
  have es : ∀ x : Option V, (L2.start N [V.ref a]).set 1 x = (L2.start ([] : List Str) [V.ref a]) ++ [x] ++ List.replicate (N.length - 2) none := fun x => by
    obtain ⟨n, hn⟩ : ∃ n, N.length = n + 2 := ⟨N.length - 2, by omega⟩
    have e1 : L2.start N [V.ref a] = some (V.ref a) :: none :: List.replicate n none := by
      unfold L2.start
      rw [show N.length - [V.ref a].length = n + 1 by simp [hn]]
      rfl
    rw [e1, hn]
    rfl
  refine ⟨.ref a, rfl, a, ns, rfl, hs, hl, fun c p H' ms m' kp hc hp ne h1 h2 => ?_⟩
  show tBagged K g _ ((L2.start N [V.ref a]).set 1 (some (.ref p))) H'
  rw [es]
  refine ⟨some p, H', hT.ext kp, _, [], rst_bag ne h1 h2, m (fin _) _ _ (fun σ z => ?_) (fun d z v H2 x2 r2 => ?_) (fun σ z => z.elim) (fun σ z => z.elim) r⟩
  · cases z
  · subst z
    cases r2.bl
    exact q H2
end
/-! ### the end -/
theorem walk_ofX {l : PySem.W.OpenLaw} {n k : Nat} {q : Program} {loose : List Str} {XP : (Str → Option Value) → Heap → Prop} {YP : World → Heap → Prop} {d : DefRec} {CX : World → CXT} {x : Str}
    (hn : l.most = some n) (hn2 : n ≤ sizeLine) (hdf : d.params.defaults = []) (hr : Room k callerA)
    (F : ∀ (w : World) (mg : Str → Option Value) (fa : Addr) (h : Heap), YP w h → h.Ns mainGlobals mg → mg d.name = some (.ref fa) → ∃ K : Fg, K.In h ∧ LamX.LawAtS l w K (CX w) k n x mg fa h)
    (hCX : ∀ (w : World) (H : Hp) (s : Shared) (e : Value) (s' : Shared), CX w [] H s (fun _ _ _ => False) e s' → False) :
    PySem.W.WalkO q loose XP YP l.row.toRowW d [] (fun f vs => PySem.call f vs) := by
  refine Att.attach_callB hn hdf fun w s₀ s₁ mg mb fa o pm cd doc a vs ns G Y ho hd hcd hmg hobj hints hlen hbits hg => ?_
  obtain ⟨K, KX, fd, cs, sp, hT, nT, C, hb, hsp, hF⟩ := F w mg fa _ Y G.T.g hmg
  exact LamX.law_callTs KX G.T.g G.T.b G.T.builtins G.T.nolimit hg hT nT C G.T.bmain hobj hints (Nat.le_trans hlen hn2) hr hF hb (fun H hH hS => hsp H a ns hlen hbits hH hS) fun H e s' => hCX w H s₁ e s'
end DL
/-! DF7 -/
set_option Elab.async false
set_option linter.all false
set_option maxRecDepth 100000
set_option maxHeartbeats 4000000
/-! Operations of several kinds at once; what is told of the written part. -/
namespace DL
open PySem PySem.Spec PyProof.Rows L2
variable [TabC]
/-! ### + of ints, texts, lists -/
def dAddA : D → D → (D → Prop) → Prop := fun x y k => match x, y with
  | .int i, .int j => k (.int (i + j))
  | .str i, .str j => i.length + j.length ≤ 1000000 ∧ k (.str (i ++ j))
  | .lst i, .lst j => i.length + j.length ≤ 1000000 ∧ k (.lst (i ++ j))
  | _, _ => False
section
variable {X : Cx} {b : Option Addr} {H0 : Hp} {a c e : Expr} {ga gb ge : GE} {pos : Pos}
/-! ### in -/
def dInA (neg : Bool) : D → D → (D → Prop) → Prop := fun x y k => match y with
  | .str z => (match x with | .str s => ∃ c, s = ⟨#[c]⟩ ∧ k (.bl (if neg then !decide (c ∈ z.cps.toList) else decide (c ∈ z.cps.toList))) | _ => False)
  | .lst ds => bif flatD x && ds.all flatD then k (.bl (if neg then !(ds.any fun z => eqF z x) else ds.any fun z => eqF z x)) else dInD neg x (.lst ds) k
  | .tup ds => (flatD x && ds.all flatD) = true ∧ k (.bl (if neg then !(ds.any fun z => eqF z x) else ds.any fun z => eqF z x))
  | _ => False
theorem dInA_mn (neg : Bool) : ∀ x y (k k' : D → Prop), (∀ d, k d → k' d) → dInA neg x y k → dInA neg x y k' := by
  intro x y k k' i q
  cases y with
  | str z => cases x <;> first | (obtain ⟨c, e, q⟩ := q; exact ⟨c, e, i _ q⟩) | exact q.elim
  | lst ds =>
    simp only [dInA] at q ⊢
    cases h : (flatD x && ds.all flatD) <;> rw [h] at q
    · exact dInD_mn neg _ _ _ _ i q
    · exact i _ q
  | tup ds => exact ⟨q.1, i _ q.2⟩
  | _ => exact q.elim
theorem op2_ninA : Op2 X.K b (fun x y H Q => (rIn X.K true x y H Q ∨ rNotInD X.K x y H Q) ∨ ∃ (c : Nat) (z : Str), x = .str ⟨#[c]⟩ ∧ y = .str z ∧ Q (.bl (!decide (c ∈ z.cps.toList))) H) (dInA true) := by
  refine ⟨dInA_mn true, fun O H dx dy x y Q F r1 r2 q => ?_⟩
  cases dy with
  | str z => cases dx <;> first | (obtain ⟨c, e, q⟩ := q; subst e; exact .inr ⟨c, _, r1.str, r2.str, q _ H (.refl H) rfl⟩) | exact q.elim
  | lst ds =>
    simp only [dInA] at q
    cases h : (flatD dx && ds.all flatD) <;> rw [h] at q
    · exact .inl (.inr (inD_ok r1 r2 q))
    · obtain ⟨h1, h2⟩ := Bool.and_eq_true_iff.mp h
      exact .inl (.inl ((op2_in (X := X) (b := b) true).ok O H _ (.lst ds) x y Q F r1 r2 ⟨h1, h2, q⟩))
  | tup ds =>
    obtain ⟨h1, h2⟩ := Bool.and_eq_true_iff.mp q.1
    exact .inl (.inl ((op2_in (X := X) (b := b) true).ok O H _ (.tup ds) x y Q F r1 r2 ⟨h1, h2, q.2⟩))
  | _ => exact q.elim
/-! ### the written part -/
def fdOf (K : Fg) (a : Addr) : FuncData := match K.lookup a with
  | some ⟨_, _, .func fd, _⟩ => fd
  | _ => default
theorem funD_of {K : Fg} {x qual : Str} {params : Arguments} {body : List Stmt} {scope : Scope} {dvs : List V} {kws : List (Str × V)} {f : Addr} (h : ∃ fd, FunD K x qual params body scope dvs kws f fd) : FunD K x qual params body scope dvs kws f (fdOf K f) := by
  obtain ⟨fd, F⟩ := h
  have e : fdOf K f = fd := by
    obtain ⟨oc, od, dV, kV, doc, pm, an, cdv, ct, osl, _, lk, _⟩ := F.ex
    unfold fdOf
    rw [lk]
  rw [e]; exact F
def oexB (K : Fg) (b : EB) (C : Addr) : Bool := (match K.lookup C with
  | some ⟨.type "type", _, .cls cd, sl⟩ => (match cd.mro, sl.toList with
    | .ref C' :: bm, [_, _, _, _, some (.builtin n), _] => C' == C && (n == b.new && (!cd.hasDel && (cd.hasDict && PySem.W.excTail b.tail bm)))
    | _, _ => false)
  | _ => false) && (decide (PySem.W.findIn K (.ref C) "__setattr__" = some (some (.builtin "object.__setattr__"))) && (decide (PySem.W.subIn K (.ref C) (.type "BaseException") = some true) && (decide (PySem.W.typeIn K (.ref C) = some (.type "type")) && PySem.W.keepIn K (.ref C))))
theorem oexB_ok {K : Fg} {b : EB} {C : Addr} (h : oexB K b C = true) : OexE K b C := by
  unfold oexB at h
  obtain ⟨h1, h⟩ := Bool.and_eq_true_iff.mp h
  obtain ⟨h2, h⟩ := Bool.and_eq_true_iff.mp h
  obtain ⟨h3, h⟩ := Bool.and_eq_true_iff.mp h
  obtain ⟨h4, h5⟩ := Bool.and_eq_true_iff.mp h
  refine ⟨?_, of_decide_eq_true h2, of_decide_eq_true h3, of_decide_eq_true h4, h5⟩
  clear h2 h3 h4 h5
  split at h1
  · rename_i dd cd sl ho
    split at h1
    · rename_i C' bm k0 k1 k2 k3 n k5 hm hs
      simp only [Bool.and_eq_true, beq_iff_eq, Bool.not_eq_true'] at h1
      obtain ⟨e1, e2, e3, e4, e5⟩ := h1
      subst e1 e2
      obtain ⟨nm, bs, mro, ns, qn, hd, sn, sb, ab, col, del⟩ := cd
      simp only at hm e3 e4
      subst hm e3 e4
      obtain ⟨sl⟩ := sl
      simp only at hs
      subst hs
      exact ⟨nm, qn, ns, bs, bm, sn, sb, ab, col, dd, k0, k1, k2, k3, k5, ho, e5⟩
    · cases h1
  · cases h1
def baseB (K : Fg) (b : EB) (S : Addr) : Bool := decide (PySem.W.specialIn K (.ref S) "__getattribute__" = some (some (.builtin "type.__getattribute__"))) && (PySem.W.readsIn K S (.type "type") && (match PySem.W.findCls K (.ref S) (.type "type") "__init__" with | some (.val (.builtin n)) => n == b.init | _ => false))
theorem baseB_ok {K : Fg} {b : EB} {S : Addr} (h : baseB K b S = true) : BaseOk K b S := by
  obtain ⟨h1, h⟩ := Bool.and_eq_true_iff.mp h
  obtain ⟨h2, h3⟩ := Bool.and_eq_true_iff.mp h
  refine ⟨of_decide_eq_true h1, h2, ?_⟩
  split at h3
  · rename_i n e
    rw [e, beq_iff_eq.mp h3]
  · cases h3
def ownB (K : Fg) (c : Str) : Bool := decide (PySem.W.findIn K (.ref (He.ga K c)) "__class__" = some (some (.builtin "object.__class__"))) && (decide (PySem.W.specialIn K (.builtin "object.__class__") "__get__" = some (some (.builtin "getset_descriptor.__get__"))) && (decide (PySem.W.takesIn K (.builtin "object.__class__") = some true) && (decide (PySem.W.mroIn K (He.ga K c) (.type "object") = some true) && (He.Fa.cls c).ok K)))
theorem ownB_ok {K : Fg} {c : Str} (h : ownB K c = true) : OwnOk K c := by
  obtain ⟨h1, h⟩ := Bool.and_eq_true_iff.mp h
  obtain ⟨h2, h⟩ := Bool.and_eq_true_iff.mp h
  obtain ⟨h3, h⟩ := Bool.and_eq_true_iff.mp h
  obtain ⟨h4, h5⟩ := Bool.and_eq_true_iff.mp h
  exact ⟨He.cls_ok h5, of_decide_eq_true h1, of_decide_eq_true h2, of_decide_eq_true h3, of_decide_eq_true h4⟩
def tgs : List Tg := [.non, .bl, .int, .str, .tup, .lst, .dic]
theorem tgs_all (T : Tg) : T ∈ tgs := by cases T <;> simp [tgs]
def clsB (K : Fg) (cls : List Str) (sub : Str → Str → Bool) : Bool := cls.all fun c => ownB K c && ((cls.all fun C => decide (PySem.W.kitOne K (.ref (He.ga K c)) (.ref (He.ga K C)) = some (sub c C))) && ((tgs.all fun T => decide (PySem.W.kitOne K (.ref (He.ga K c)) (.type T.nm) = some false)) && tgs.all fun T => decide (PySem.W.kitOne K (.type T.nm) (.ref (He.ga K c)) = some false)))
theorem clsB_ok {K : Fg} {cls : List Str} {sub : Str → Str → Bool} (h : clsB K cls sub = true) : ClsOk K cls sub := by
  have key := List.all_eq_true.mp h
  refine ⟨fun c hc => ownB_ok (Bool.and_eq_true_iff.mp (key c hc)).1, fun c hc C hC => ?_, fun c hc T => ?_, fun T c hc => ?_⟩
  · exact of_decide_eq_true (List.all_eq_true.mp (Bool.and_eq_true_iff.mp (Bool.and_eq_true_iff.mp (key c hc)).2).1 C hC)
  · exact of_decide_eq_true (List.all_eq_true.mp (Bool.and_eq_true_iff.mp (Bool.and_eq_true_iff.mp (Bool.and_eq_true_iff.mp (key c hc)).2).2).1 T (tgs_all T))
  · exact of_decide_eq_true (List.all_eq_true.mp (Bool.and_eq_true_iff.mp (Bool.and_eq_true_iff.mp (Bool.and_eq_true_iff.mp (key c hc)).2).2).2 T (tgs_all T))
/-- an own error's class: its __init__ at the class's own -/
def errB (K : Fg) (b : EB) (c : Str) (flds : List Str) : Bool := oexB K b (He.ga K c) && ((cdS :: flds).all (fun f => decide (PySem.W.findIn K (.ref (He.ga K c)) f = some none)) && (decide (PySem.W.findIn K (.ref (He.ga K c)) "__init__" = some (some (.ref (He.ma K (He.ga K c) "__init__")))) && decide (PySem.W.typeIn K (.ref (He.ma K (He.ga K c) "__init__")) = some (.type "function"))))
theorem errB_ok {K : Fg} {b : EB} {c : Str} {flds : List Str} (h : errB K b c flds = true) : ErrK K b c (He.ma K (He.ga K c) "__init__") flds := by
  obtain ⟨h1, h⟩ := Bool.and_eq_true_iff.mp h
  obtain ⟨h2, h⟩ := Bool.and_eq_true_iff.mp h
  obtain ⟨h3, h4⟩ := Bool.and_eq_true_iff.mp h
  exact ⟨⟨oexB_ok h1, fun f hf => of_decide_eq_true (List.all_eq_true.mp h2 f hf)⟩, of_decide_eq_true h3, of_decide_eq_true h4⟩
/-- a name bound to a built-in of a module -/
def bltB (K : Fg) (x : Str) (id : String) : Bool := decide (PySem.W.nsIn K mainGlobals x = some (some (.builtin id)))
theorem bltB_ok {K : Fg} {h : Heap} {mg : Str → Option Value} {x : Str} {id : String} (X : K.In h) (G : h.Ns mainGlobals mg) (c : bltB K x id = true) : mg x = some (.builtin id) := PySem.W.mg_of X G (of_decide_eq_true c)
theorem all_at {l : List Bool} (h : l.all id = true) (i : Nat) {x : Bool} (e : l[i]? = some x) : x = true := List.all_eq_true.mp h x (List.mem_of_getElem? e)
end
end DL
/-! ### the Hook, the statics' dict in it -/
/-! DH1 -/
set_option Elab.async false
set_option linter.all false
set_option maxRecDepth 100000
set_option maxHeartbeats 4000000
/-! operators that an own class defines -/
namespace DL
open PySem PySem.Spec PyProof.Rows L2
variable [TabC]
/-- the special m of the class at C is the def at f -/
structure Own (K : Fg) (C : Addr) (m : Str) (f : Addr) : Prop where
  find : PySem.W.findIn K (.ref C) m = some (some (.ref f))
  fn : PySem.W.isFn K (.ref f) = true
def gOwn1 (c : Str) (s : GS) (eo : XD → Prop) (ga : GE) : GE := fun σ k => ga σ fun d => match d with
  | .ins c' ns ds => c' = c ∧ s [.ins c' ns ds] k eo
  | _ => False
theorem gOwn1_mn {c : Str} {s : GS} {eo : XD → Prop} {ga : GE} (ms : MnS s) (A : Mn ga) : Mn (gOwn1 c s eo ga) := fun σ k k' i q => A _ _ _ (fun d z => by
  cases d with
  | ins c' ns ds => exact ⟨z.1, ms _ _ _ _ _ i (fun _ w => w) z.2⟩
  | _ => exact z.elim) q
section
variable {X : Cx} {b : Option Addr} {H0 : Hp} {E : XK} {eo : XD → Prop} {s : GS} {k : Nat} {f : Addr} {fd : FuncData} {ps : List Str} {c : Str} {pos : Pos} {a e : Expr} {ga gb : GE}
/-- what the written part says of an operator's def at f -/
structure OwnB (K : Fg) (C : Addr) (op : Operator) (f : Addr) : Prop where
  find : PySem.W.findIn K (.ref C) (PySem.dunder op.info.2) = some (some (.ref f))
  fn : PySem.W.isFn K (.ref f) = true
  first : PySem.W.selfFirst K C = true
  refl : ∃ rc, PySem.W.findIn K (.ref C) (PySem.dunderR op.info.2) = some rc ∧ (rc = none ∨ ∃ g : Addr, rc = some (.ref g))
  int : ∃ fo ro, PySem.W.findIn K (.type "int") (PySem.dunder op.info.2) = some fo ∧ PySem.W.findIn K (.type "int") (PySem.dunderR op.info.2) = some ro
  sub : PySem.W.subIn K (.type "int") (.ref C) = some false
theorem cmpBack_of {X : Cx} {pins : List (Addr × Obj)} {σ : L2.St} {Q : VK} {v : Value} {s' : Shared} (h : EP X pins σ Q v s') : PySem.W.CmpBack (EP X pins σ Q) v s' := by
  obtain ⟨x, H', I, r, q⟩ := id h
  cases v <;> first | exact h | (exfalso; cases x <;> simp [L2.RelV] at r)
/-- x op y, x of the class c, y of c too or an int -/
def gOwn2 (c : Str) (s : GS) (eo : XD → Prop) (ga gb : GE) : GE := fun σ k => ga σ fun x => gb σ fun y => match x, y with
  | .ins c' ns ds, .ins c2 ns2 ds2 => c' = c ∧ c2 = c ∧ s [.ins c' ns ds, .ins c2 ns2 ds2] k eo
  | .ins c' ns ds, .int i => c' = c ∧ s [.ins c' ns ds, .int i] k eo
  | _, _ => False
theorem gOwn2_mn (ms : MnS s) (A : Mn ga) (B : Mn gb) : Mn (gOwn2 c s eo ga gb) := fun σ k k' i q => A _ _ _ (fun x z => B _ _ _ (fun y w => by
  cases x with
  | ins c' ns ds => cases y with
    | ins c2 ns2 ds2 => exact ⟨w.1, w.2.1, ms _ _ _ _ _ i (fun _ w => w) w.2.2⟩
    | int j => exact ⟨w.1, ms _ _ _ _ _ i (fun _ w => w) w.2⟩
    | _ => exact w.elim
  | _ => exact w.elim) z) q
theorem de_binO {op : Operator} (A : DE b H0 X a ga) (B : DE b H0 X e gb) (o : OwnB X.K (He.ga X.K c) op f) (F : FnOk X.prog X.w X.K X.mg X.base (L2.CX X.prog X.w) k f fd ps (lift X.K s)) (ms : MnS s) (hr : Room k X.A) (hb : Binds X.K fd ps []) (Z : Cz X b H0 E eo) :
    DE b H0 X (.BinOp a op e pos) (gOwn2 c s eo ga gb) := by
  refine ⟨⟨fun pins s0 σ H Q I ⟨σd, O, R, q⟩ => ?_⟩, gOwn2_mn ms A.mn B.mn⟩
  refine wpAny_BinOp (binT (R := fun x y H2 => ∃ a dx fs d1 d2, x = .ref a ∧ H2 a = some (.ins (He.ga X.K c) dx fs) ∧ ((∃ i, y = .int i) ∨ ∃ a2 dx2 fs2, y = .ref a2 ∧ H2 a2 = some (.ins (He.ga X.K c) dx2 fs2)) ∧ Rst X.K b H0 σd σ H2 O ∧ Reps X.K b (hide O H2) [d1, d2] [x, y] ∧ s [d1, d2] (fun d => ∀ v H3, Ext b H2 H3 → Rep X.K b (hide O H3) d v → Q v H3) eo) A.pe B.pe I
    ⟨σd, O, R, A.mn _ _ _ (fun x hx v1 H1 x1 r1 => ⟨σd, O, R.mono x1, B.mn _ _ _ (fun y hy v2 H2 x2 r2 => ?_) hx⟩) q⟩ fun u1 u2 s2 x y H2 I2 rx ry ⟨a, dx, fs, d1, d2, ex, ea, ey, R2, rs, q2⟩ => ?_)
  · have rr : Reps X.K b (hide O H2) [x, y] [v1, v2] := Reps.cons (r1.mono (x2.1.hide O)) (Reps.cons r2 Reps.nil)
    have r1' := r1.mono (x2.1.hide O)
    cases x with
    | ins c' ns ds =>
      cases y with
      | ins c2 ns2 ds2 =>
        obtain ⟨e1, e2, z⟩ := hy
        subst e1 e2
        obtain ⟨a, dx, vs, rfl, n, h, l, _⟩ := r1'.ins
        obtain ⟨a2, dx2, vs2, rfl, n2, h2, l2, _⟩ := r2.ins
        exact ⟨a, dx, _, _, _, rfl, (of_hide h).2, .inr ⟨a2, dx2, _, rfl, (of_hide h2).2⟩, R.mono (x1.trans x2), rr, ms _ _ _ _ _ (fun d w v H3 x3 r3 => w v H3 (x1.trans (x2.trans x3)) r3) (fun _ w => w) z⟩
      | int i =>
        obtain ⟨e1, z⟩ := hy
        subst e1
        obtain ⟨a, dx, vs, rfl, n, h, l, _⟩ := r1'.ins
        exact ⟨a, dx, _, _, _, rfl, (of_hide h).2, .inl ⟨i, r2.int⟩, R.mono (x1.trans x2), rr, ms _ _ _ _ _ (fun d w v H3 x3 r3 => w v H3 (x1.trans (x2.trans x3)) r3) (fun _ w => w) z⟩
      | _ => exact hy.elim
    | _ => exact hy.elim
  · subst ex
    obtain rfl : u1 = Value.ref a := rx
    obtain ⟨mA, J, _⟩ := ins_get I2.hok ea
    obtain ⟨od, J, _⟩ := J.look
    obtain ⟨m, hF⟩ := I2.fr
    have run : wpAny (model X.prog X.w) X.A (call (.ref f) [.ref a, u2]) (EP X pins σ Q) X.xe s2 := run_fnD (us := [.ref a, u2]) (vs := [.ref a, y]) (dd := []) (dvs := []) (dus := []) F ms hr hb .nil (fun _ _ => Reps.nil) Z I2 (.cons rfl (.cons ry .nil)) R2 rs q2
    have run' := wpAny_mono run (fun v s' h => cmpBack_of h) fun _ _ h => h
    rcases ey with ⟨i, ey⟩ | ⟨a2, dx2, fs2, ey, ea2⟩
    · subst ey
      obtain ⟨t, rfl⟩ : ∃ t, u2 = Value.int i t := ry
      obtain ⟨rc, h1, h2⟩ := o.refl
      obtain ⟨fo, ro, h3, h4⟩ := o.int
      exact PySem.W.ksp_binT hF I2.ok.mod.kin J rfl o.first o.find o.fn h1 h2 h3 h4 o.sub run'
    · subst ey
      obtain rfl : u2 = Value.ref a2 := ry
      obtain ⟨mB, J2, _⟩ := ins_get I2.hok ea2
      obtain ⟨od2, J2, _⟩ := J2.look
      exact PySem.W.binop_K hF I2.ok.mod.kin J J2.type o.first o.find o.fn run'
/-- x == y by the own __eq__ of x's class; y of that class too -/
def gOwnQ (c : Str) (s : GS) (eo : XD → Prop) (ga gb : GE) : GE := fun σ k => ga σ fun x => gb σ fun y => match x, y with
  | .ins c' ns ds, .ins c2 ns2 ds2 => c' = c ∧ c2 = c ∧ s [.ins c' ns ds, .ins c2 ns2 ds2] k eo
  | _, _ => False
/-- a comparison, as data -/
structure DCm (b : Option Addr) (H0 : Hp) (X : Cx) (op : CmpOp) (a e : Expr) (g : GE) : Prop where
  pc : PC X op a e (LE X.K b H0 g)
  mn : Mn g
theorem DCm.de {op : CmpOp} {g : GE} (h : DCm b H0 X op a e g) (hm : behindInMarks op e = false := by first | exact nomark _ (by decide) (by decide) | rfl) : DE b H0 X (.Compare a [op] [e] pos) g := ⟨pe_cmp h.pc hm, h.mn⟩
end
end DL
/-! DH2 -/
set_option Elab.async false
set_option linter.all false
set_option maxRecDepth 100000
set_option maxHeartbeats 4000000
/-! != of own classes -/
namespace DL
open PySem PySem.Spec PyProof.Rows L2
section
variable {prog : Program} {w : World} {A : Around} {E : Value → Shared → Prop} {s : Shared} {K : PySem.W.Frag} {x C L f : Addr} {h₀ : Heap} {m : Str → Option Value} {ox : Obj} {od : Option Obj} {b tb : Value}
theorem neBody {Q : Fin → Shared → Prop} (hu : A.units < cLine) (X : K.In s.heap) (I : PySem.W.InstAt s.heap x ox C od) (he : PySem.W.findIn K (.ref C) "__eq__" = some (some (.ref f))) (hf : PySem.W.isFn K (.ref f) = true)
    (h : wpAny (model prog w) A (call (.ref f) [.ref x, b]) (fun v s' => ∃ c, v = .bool c ∧ Q (.done (.ret (.bool (!c)))) s') E s) : wpAny (model prog w) A (Builtin.«object.__ne__» ⟨[.ref x, b], []⟩) Q E s := by
  unfold Builtin.«object.__ne__»
  have one : wpAny (model prog w) A (callSpecialIfBound? (.ref x) "__eq__" [b]) (fun r s' => ∃ c, r = some (.bool c) ∧ Q (.done (.ret (.bool (!c)))) s') E s :=
    PySem.W.ifBound_K X I he hf (wpAny_mono h (fun v s' ⟨c, e, q⟩ => ⟨c, by rw [e], q⟩) fun _ _ e => e)
  obtain ⟨hp, g, d, t, os⟩ := s
  repeat (first | with_reducible refine wpAny_cRoomFor hu ?_ | with_reducible refine wpAny_bind (wpAny_mono one (fun r s' z => ?_) fun _ _ e => e) | wp_step)
  obtain ⟨c, rfl, hq⟩ := z
  dsimp only
  refine wpAny_bind (wpAny_truthy_bool ?_)
  exact wpAny_pure hq
theorem ne_K {Q : Value → Shared → Prop} (hu0 : A.units < cLine) (hu : A.in1.units < cLine) (F : PyProof.Rows.Fr h₀ L s.heap m) (X₀ : K.In h₀) (I : PySem.W.InstAt s.heap x ox C od) (hb : PySem.W.Looks (model prog w) s.heap (typeOf b) tb) (hn : PySem.W.notFirst K C tb = true)
    (he : PySem.W.findIn K (.ref C) "__eq__" = some (some (.ref f))) (hne : PySem.W.findIn K (.ref C) "__ne__" = some (some (.builtin "object.__ne__"))) (hf : PySem.W.isFn K (.ref f) = true) (hobj : PySem.W.subIn K (.ref C) (.type "object") = some true)
    (h : wpAny (model prog w) A.in1 (call (.ref f) [.ref x, b]) (fun v s' => ∃ c, v = .bool c ∧ Q (.bool (!c)) s') E s) : wpAny (model prog w) A (richCompare .NotEq (.ref x) b) Q E s := by
  have X := X₀.keeps F.keep
  have one : wpAny (model prog w) A (tryCompare (.ref x) (cmpInfo .NotEq).2.1 b) (fun r s' => ∃ v, r = some v ∧ Q v s') E s := by
    unfold tryCompare
    refine wpAny_bind ?_
    simp only [callSpecialIfBound?, bindSpecialIfBound?]
    refine wpAny_holding (wpAny_bind (wpAny_bind (wpAny_bind (I.type.here ((PySem.W.looks_findIn X hne).here ?_)))))
    simp only [PySem.F.cmp_object.ne.bind]
    have fin : wpAny (model prog w) A (call (.builtin "object.__ne__") ([.ref x] ++ [b]) >>= fun v => pure (some v)) (fun r s' => wpAny (model prog w) A (match r with | some .notImplemented | none => pure none | some v => pure (some v)) (fun r s' => ∃ v, r = some v ∧ Q v s') E s') E s := by
      refine wpAny_bind (wpAny_call (codeAny_call_builtin PySem.F.cmp_object.ne.plain PySem.F.cmpEntry_ne ?_))
      refine PySem.W.check_slot PySem.F.cmpKind_ne PySem.F.cmpSplit_ne (I.type.andThen (PySem.W.looks_subIn X hobj)) (PySem.F.cmpArgs_ne _ _) ?_
      refine neBody hu X I he hf (wpAny_mono h (fun v s' ⟨c, e, q⟩ => ⟨c, e, ?_⟩) fun _ _ e => e)
      exact wpAny_pure (wpAny_pure ⟨_, rfl, q⟩)
    refine wpAny_bind (wpAny_askSetting (wpAny_ite ?_))
    split
    · exact wpAny_bind (wpAny_pure (wpAny_pure fin))
    · exact wpAny_tryCatch (wpAny_bind (wpAny_pure (wpAny_pure fin)))
  unfold richCompare
  simp only [oneThing_ref]
  refine wpAny_holding (wpAny_bind (wpAny_cRoomFor hu0 ?_))
  refine wpAny_bind (I.type.here (wpAny_bind (hb.here ?_)))
  split
  · rename_i q
    have e : PySem.W.subIn K tb (.ref C) = some false := by
      rcases Bool.or_eq_true_iff.mp hn with e | e
      · rw [beq_iff_eq.mp e] at q; simp at q
      · exact beq_iff_eq.mp e
    refine wpAny_bind ((PySem.W.looks_subIn X e).here ?_)
    simp only [Bool.false_eq_true, if_false]
    refine wpAny_bind (wpAny_mono one (fun r s' z => ?_) fun _ _ e => e)
    obtain ⟨v, rfl, hq⟩ := z
    exact wpAny_pure hq
  · refine wpAny_bind (wpAny_pure ?_)
    simp only [Bool.false_eq_true, if_false]
    refine wpAny_bind (wpAny_mono one (fun r s' z => ?_) fun _ _ e => e)
    obtain ⟨v, rfl, hq⟩ := z
    exact wpAny_pure hq
end
end DL
/-! DH3 -/
set_option Elab.async false
set_option linter.all false
set_option maxRecDepth 100000
set_option maxHeartbeats 4000000
/-! a def called from within a builtin; != of own classes as data -/
namespace DL
open PySem PySem.Spec PyProof.Rows L2
variable [TabC]
section
variable {X : Cx} {pins : List (Addr × Obj)} {σ : L2.St} {σd : StD} {H H0 : Hp} {O : List Addr} {s0 : Shared} {b : Option Addr} {E : XK} {eo : XD → Prop} {s : GS} {k : Nat} {f : Addr} {fd : FuncData} {ps : List Str} {Q : VK}
theorem run_fnB {A : Around} {us2 : List Value} {vs2 : List V} {ds2 : List D} (F : FnOk X.prog X.w X.K X.mg X.base (L2.CX X.prog X.w) k f fd ps (lift X.K s)) (ms : MnS s) (hr : Room k A) (hA : A.frames = X.A.frames) (Z : Cz X b H0 E eo)
    (I : Inv X pins σ H s0) (hb : Binds X.K fd ps []) (r2 : Vals vs2 us2) (R : Rst X.K b H0 σd σ H O) (rp : Reps X.K b (hide O H) ds2 vs2) (h : s ds2 (fun d => ∀ v H', Ext b H H' → Rep X.K b (hide O H') d v → Q v H') eo) :
    wpAny (model X.prog X.w) A (call (.ref f) us2) (EP X pins σ Q) X.xe s0 := by
  have hO : ∀ a ∈ O, Hid O H a := fun a m => (R.nb a m).2.2
  have I1 := inv_hide I hO
  have e0 : Env0 X.prog X.w X.K X.mg X.base A X.stack s0 (hide O H) := by
    have e := I1.env0
    exact ⟨by rw [hA]; exact e.frames, e.mod, e.bs, e.bsz, e.funs, e.frf, e.hok, e.bare⟩
  have sp : lift X.K s vs2 (hide O H) (fun v H2 => (∀ a ∈ O, H2 a = none) → Q v (back O H H2)) E := by
    refine ⟨b, ds2, R.bg, rp, ms _ _ _ _ _ (fun d hd v H2 x r0 fr => ?_) (fun x hx cls d H2 x2 xa => ?_) h⟩
    · refine hd v _ (back_ext (fun a m => ⟨(R.nb a m).1, (R.nb a m).2.2⟩) fr x) ?_
      rw [back_hide fr]
      exact r0
    · exact Z.ex x cls d H2 hx (R.le.trans x2) xa
  have hl : us2.length = ps.length := by rw [← r2.length]; exact F.len _ _ _ _ sp
  refine wpAny_call (codeAny_mono (F.run A X.stack s0 (hide O H) ⟨us2, []⟩ us2 vs2 _ E hr e0 (by
    have := hb s0 us2 I1.kIn (by simpa using hl)
    simpa using this) r2 sp) fun r s' hq => ?_)
  cases r with
  | error e => exact Z.pass pins σ (hide O H) s0 e s' I1 hq
  | ok fl =>
    cases fl with
    | ret u =>
      obtain ⟨v, H2, os, bare, un, ok, rv, q⟩ := hq
      obtain ⟨fr, I2⟩ := inv_back I hO os bare un ok
      exact ⟨v, _, I2, rv, q fr⟩
    | next => exact False.elim hq
    | brk => exact False.elim hq
    | cont => exact False.elim hq
end
section
variable {X : Cx} {b : Option Addr} {H0 : Hp} {E : XK} {eo : XD → Prop} {s : GS} {k : Nat} {f : Addr} {fd : FuncData} {ps : List Str} {c : Str} {pos : Pos} {a e : Expr} {ga gb : GE}
/-- x != y: not the own == -/
def gOwnN (c : Str) (s : GS) (eo : XD → Prop) (ga gb : GE) : GE := fun σ k => gOwnQ c s eo ga gb σ fun d => match d with | .bl r => k (.bl (!r)) | _ => False
end
end DL
/-! DH4 -/
set_option Elab.async false
set_option linter.all false
set_option maxRecDepth 100000
set_option maxHeartbeats 4000000
/-! str(x) by the own __str__ -/
namespace DL
open PySem PySem.Spec PyProof.Rows L2
variable [TabC]
section
variable {X : Cx} {b : Option Addr} {H0 : Hp} {E : XK} {eo : XD → Prop} {s : GS} {k : Nat} {f : Addr} {fd : FuncData} {ps : List Str} {c x : Str} {p pos : Pos} {e : Expr} {ga : GE}
def gOwnS (c : Str) (s : GS) (eo : XD → Prop) (ga : GE) : GE := fun σ k => gOwn1 c s eo ga σ fun d => match d with | .str r => k (.str r) | _ => False
end
end DL
/-! DH5 -/
set_option Elab.async false
set_option linter.all false
set_option maxRecDepth 100000
set_option maxHeartbeats 4000000
/-! f-strings -/
namespace DL
open PySem PySem.Spec PyProof.Rows L2
variable [TabC]
def gJs : List GE → Str → GE
  | [], acc, _, k => k (.str acc)
  | g :: gs, acc, σ, k => g σ fun d => match d with
    | .str y => (acc ++ y).length ≤ 1000000 ∧ gJs gs (acc ++ y) σ k
    | _ => False
section
variable {X : Cx} {b : Option Addr} {H0 : Hp} {pos : Pos}
def gFmt (g : GE) : GE := fun σ k => g σ fun d => match d with
  | .str y => y.length ≤ 1000000 ∧ k (.str y)
  | .int i => i.natAbs.log2 < 1920 ∧ k (.str (toString i))
  | _ => False
end
end DL
/-! DH6 -/
set_option Elab.async false
set_option linter.all false
set_option maxRecDepth 100000
set_option maxHeartbeats 4000000
/-! properties of own classes -/
namespace DL
open PySem PySem.Spec PyProof.Rows L2
end DL
/-! DH7 -/
set_option Elab.async false
set_option linter.all false
set_option maxRecDepth 100000
set_option maxHeartbeats 4000000
/-! int * own -/
namespace DL
open PySem PySem.W PySem.Calls PyProof.Rows
section
variable {prog : Program} {w : World} {A : Around} {E : Value → Shared → Prop} {s : Shared} {K : Frag} {x C L f g : Addr} {h₀ : Heap} {m : Str → Option Value} {ox : Obj} {od : Option Obj} {nm : String}
theorem binR_K {op : Operator} {i : Int} {t : Tok} {Q : Value → Shared → Prop} (F : Fr h₀ L s.heap m) (X₀ : K.In h₀) (I : InstAt s.heap x ox C od) (hc : selfFirst K C = true)
    (hs : findIn K (.ref C) (PySem.dunder op.info.2) = some (some (.ref g))) (hr : findIn K (.ref C) (dunderR op.info.2) = some (some (.ref f))) (hf : isFn K (.ref f) = true)
    (hi : fillsNumberSlot (.type "int") op.info.2 = pure true) (hsub : subIn K (.ref C) (.type "int") = some false)
    (hl : wpAny (model prog w) A (tryMethod (.int i t) (PySem.dunder op.info.2) (.ref x)) (fun r s' => r = none ∧ s' = s) E s)
    (h : wpAny (model prog w) A (call (.ref f) [.ref x, .int i t]) (W.CmpBack Q) E s) : wpAny (model prog w) A (binaryOp op (.int i t) (.ref x)) Q E s := by
  have X := X₀.keeps F.keep
  obtain ⟨cd, rest, hcd, hm⟩ := ksp_first hc
  rcases hinf : op.info with ⟨sym, nm'⟩
  rw [hinf] at hs hr hi hl
  dsimp only at hs hr hi hl
  have one := ksp_try X I hr hf h
  obtain ⟨hh, gg, d, tt, os⟩ := s
  have L1 : Looks (model prog w) hh (typeOf (.int i t)) (.type "int") := Looks.of_pure rfl
  have L2 : Looks (model prog w) hh (typeOf (.ref x)) (.ref C) := I.type
  have L3 : Looks (model prog w) hh (fillsNumberSlot (.type "int") nm') true := Looks.of_pure hi
  have L4 : Looks (model prog w) hh (fillsNumberSlot (.ref C) nm') true := fills_K X hcd hm hs
  have L5 : Looks (model prog w) hh (isSubtype (.ref C) (.type "int")) false := looks_subIn X hsub
  have L7 : Looks (model prog w) hh (numberSlotInPython (.type "int") nm') false := Looks.of_pure rfl
  have hne : (Value.type "int" == Value.ref C) = false := Bool.eq_false_iff.mpr fun q => by cases beq_iff_eq.mp q
  simp only [binaryOp, hinf]
  refine wpAny_holding (wpAny_bind ?_)
  unfold binaryOp1
  refine wpAny_bind (L1.at (wpAny_bind (L2.at (wpAny_bind (L3.at ?_)))))
  simp only [hne, Bool.false_eq_true, if_false]
  ksp_lk
  refine wpAny_mono hl (fun r s' z => ?_) fun _ _ e => e
  obtain ⟨rfl, rfl⟩ := z
  ksp_lk
  refine wpAny_mono one (fun r s' hr' => ?_) fun _ _ e => e
  obtain ⟨v, rfl, hq⟩ := hr'
  ksp_lk
  exact hq
end
end DL
/-! DH8 -/
set_option Elab.async false
set_option linter.all false
set_option maxRecDepth 100000
set_option maxHeartbeats 4000000
namespace DL
open PySem PySem.W PySem.Calls PyProof.Rows
end DL
/-! DI1 -/
set_option Elab.async false
set_option linter.all false
set_option maxRecDepth 100000
set_option maxHeartbeats 4000000
/-! Calls, one rule for each callee: a promise over the values as they are written (positions, stars, keywords, defaults). -/
namespace DL
open PySem PySem.Spec PyProof.Rows L2
variable [TabC]
/-- the items at some places -/
def pick {α : Type} (ix : List Nat) (l : List α) : List α := ix.filterMap fun i => l[i]?
theorem pick_cons {α : Type} (i : Nat) (ix : List Nat) (l : List α) : pick (i :: ix) l = match l[i]? with | some x => x :: pick ix l | none => pick ix l := by
  unfold pick
  rw [List.filterMap_cons]
  cases l[i]? <;> rfl
theorem reps_none {K : Fg} {b : Option Addr} {H : Hp} {ds : List D} {vs : List V} (r : Reps K b H ds vs) {i : Nat} (h : ds[i]? = none) : vs[i]? = none := by
  rw [List.getElem?_eq_none_iff] at h ⊢
  rw [← r.length]; exact h
theorem Reps.pick {K : Fg} {b : Option Addr} {H : Hp} {ds : List D} {vs : List V} (r : Reps K b H ds vs) : ∀ ix : List Nat, Reps K b H (DL.pick ix ds) (DL.pick ix vs)
  | [] => Reps.nil
  | i :: ix => by
    rw [pick_cons, pick_cons]
    cases e : ds[i]? with
    | none => rw [reps_none r e]; exact Reps.pick r ix
    | some d =>
      obtain ⟨v, e2, rv⟩ := r.get e
      rw [e2]
      exact Reps.cons rv (Reps.pick r ix)
theorem vals_get : ∀ {vs : List V} {us : List Value} {i : Nat} {v : V}, Vals vs us → vs[i]? = some v → ∃ u, us[i]? = some u ∧ RelV v u
  | [], _, _, _, .nil, e => by simp at e
  | _ :: _, _, 0, v, .cons a r, e => by
    simp at e; subst e
    exact ⟨_, rfl, a⟩
  | _ :: _, _, i + 1, v, .cons a r, e => by
    obtain ⟨u, e1, e2⟩ := vals_get r (i := i) (by simpa using e)
    exact ⟨u, by simpa using e1, e2⟩
theorem vals_pick {vs : List V} {us : List Value} (r : Vals vs us) : ∀ ix : List Nat, Vals (DL.pick ix vs) (DL.pick ix us)
  | [] => .nil
  | i :: ix => by
    rw [pick_cons, pick_cons]
    cases e : vs[i]? with
    | none =>
      have : us[i]? = none := by
        rw [List.getElem?_eq_none_iff] at e ⊢
        rw [← r.length]; exact e
      rw [this]; exact vals_pick r ix
    | some d =>
      obtain ⟨v, e2, rv⟩ := vals_get r e
      rw [e2]
      exact .cons rv (vals_pick r ix)
/-- f, called with values and the keywords ks: its promise over all values as they stand in the call -/
def FnC (P : Program) (w : World) (K : Fg) (mg : Str → Option Value) (base : Heap) (k : Nat) (f : Addr) (ks : List Str) (sp : Sp) : Prop :=
  ∀ (A : Around) (outer : List Env) (s : Shared) (H : Hp) (us kus : List Value) (vs : List V) (Q : VK) (E : XK), Room k A → Env0 P w K mg base A outer s H → kus.length = ks.length → Vals vs (us ++ kus) → sp vs H Q E →
    codeAny (model P w) A (.call (.ref f) ⟨us, ks.zip kus⟩) (CR (L2.CX P w) outer P w H s Q E) s
section
variable {P : Program} {w : World} {K : Fg} {mg : Str → Option Value} {base : Heap} {k j : Nat} {f : Addr} {fd : FuncData} {ps ks : List Str} {sp sp' : Sp} {s : GS} {dd : List D} {dvs : List V} {dus : List Value}
theorem FnC.mono (F : FnC P w K mg base j f ks sp) (h : j ≤ k) : FnC P w K mg base k f ks sp := fun A outer s H us kus vs Q E hr => F A outer s H us kus vs Q E (hr.mono h)
theorem FnC.imp (F : FnC P w K mg base k f ks sp) (h : ∀ vs H Q E, sp' vs H Q E → sp vs H Q E) : FnC P w K mg base k f ks sp' := fun A outer s H us kus vs Q E hr e0 hk r hs => F A outer s H us kus vs Q E hr e0 hk r (h _ _ _ _ hs)
theorem FnOk.c (F : FnOk P w K mg base (L2.CX P w) k f fd ps sp) (n : Nat) (ks : List Str) (ix : List Nat) (hd : Vals dvs dus)
    (hb : ∀ (s : Shared) (us kus : List Value), K.In s.heap → us.length = n → kus.length = ks.length → BindsTo s fd ⟨us, ks.zip kus⟩ (ps.zip (pick ix (us ++ kus ++ dus)))) :
    FnC P w K mg base k f ks (fun vs H Q E => vs.length = n + ks.length ∧ sp (pick ix (vs ++ dvs)) H Q E) := fun A outer s H us kus vs Q E hr e0 hk r ⟨hl, h⟩ => by
  refine F.run A outer s H ⟨us, ks.zip kus⟩ _ _ Q E hr e0 (hb s us kus (e0.mod.kin.keeps fun b o e => (e0.bs b o e).1) ?_ hk) (vals_pick (r.append hd) ix) h
  have := r.length
  rw [List.length_append] at this
  omega
/-- the shape of a call: n values, put in their places by ix, behind them the defaults -/
def shp (n : Nat) (ix : List Nat) (dd : List D) (s : GS) : GS := fun ds k e => ds.length = n ∧ s (pick ix (ds ++ dd)) k e
theorem FnC.shape {n : Nat} {ix : List Nat} (F : FnC P w K mg base k f ks (fun vs H Q E => vs.length = n ∧ lift K s (pick ix (vs ++ dvs)) H Q E)) (hdd : ∀ b H, Reps K b H dd dvs) : FnC P w K mg base k f ks (lift K (shp n ix dd s)) :=
  F.imp fun vs H Q E ⟨b, ds, bg, r, hl, h⟩ => ⟨by rw [← r.length]; exact hl, b, _, bg, (r.append (hdd b H)).pick ix, h⟩
/-- a def without stars -/
theorem FnOk.cs (F : FnOk P w K mg base (L2.CX P w) k f fd ps (lift K s)) (n : Nat) (ks : List Str) (ix : List Nat) (hd : Vals dvs dus) (hdd : ∀ b H, Reps K b H dd dvs)
    (hb : ∀ (s : Shared) (us kus : List Value), K.In s.heap → us.length = n → kus.length = ks.length → BindsTo s fd ⟨us, ks.zip kus⟩ (ps.zip (pick ix (us ++ kus ++ dus)))) :
    FnC P w K mg base k f ks (lift K (shp (n + ks.length) ix dd s)) := (FnOk.c F n ks ix hd hb).shape hdd
/-- an __init__ -/
def shpI (n : Nat) (ix : List Nat) (dd : List D) (s : GSI) : GSI := fun c ns fs ds k e => ds.length = n ∧ s c ns fs (pick ix (ds ++ dd)) k e
theorem shpI_mn {n : Nat} {ix : List Nat} {dd : List D} {s : GSI} (ms : MnSI s) : MnSI (shpI n ix dd s) := fun c ns fs ds k k' e e' h1 h2 ⟨h, q⟩ => ⟨h, ms _ _ _ _ _ _ _ _ h1 h2 q⟩
theorem pick_self {α : Type} (ix : List Nat) (x : α) (l : List α) : pick (0 :: ix.map (· + 1)) (x :: l) = x :: pick ix l := by
  rw [pick_cons]
  show x :: pick (ix.map (· + 1)) (x :: l) = _
  congr 1
  unfold pick
  rw [List.filterMap_map]
  rfl
theorem FnOk.cI {s : GSI} (F : FnOk P w K mg base (L2.CX P w) k f fd ps (liftI K s)) (n : Nat) (ks : List Str) (ix : List Nat) (hd : Vals dvs dus) (hdd : ∀ b H, Reps K b H dd dvs)
    (hb : ∀ (s : Shared) (us kus : List Value), K.In s.heap → us.length = n + 1 → kus.length = ks.length → BindsTo s fd ⟨us, ks.zip kus⟩ (ps.zip (pick (0 :: ix.map (· + 1)) (us ++ kus ++ dus)))) :
    FnC P w K mg base k f ks (liftI K (shpI (n + ks.length) ix dd s)) := (FnOk.c F (n + 1) ks _ hd hb).imp fun vs H Q E ⟨b, c, ns, fs, ds, x, dx, vfs, vs', e, h1, h2, h3, h4, h5, h6, h7, h8, h9, hl, h⟩ => by
  subst e
  refine ⟨by rw [List.length_cons, ← h9.length]; omega, b, c, ns, fs, _, x, dx, vfs, pick ix (vs' ++ dvs), ?_, h1, h2, h3, h4, h5, h6, h7, h8, (h9.append (hdd b _)).pick ix, h⟩
  rw [List.cons_append, pick_self]
end
/-! ### the values of a call -/
/-- two lists of arguments, strong: positions and keywords in the order in which they are written -/
structure DCA (b : Option Addr) (H0 : Hp) (X : Cx) (pos : Pos) (args : List Expr) (kws : List Keyword) (ks : List Str) (g : GA) : Prop where
  run : ∀ (pins : List (Addr × Obj)) (s : Shared) (σ : L2.St) (H : Hp) (f : Value) (first : List Value) (Q : Value → Shared → Prop), Inv X pins σ H s → PySem.W.keepIn X.K f = true →
    (∃ σd O, Rst X.K b H0 σd σ H O ∧ g σd fun ds => ∀ us kus vs H' s', Inv X pins σ H' s' → Ext b H H' → kus.length = ks.length → Vals vs (us ++ kus) → Reps X.K b (hide O H') ds vs → wpAny (model X.prog X.w) X.A (call f (first ++ us) (ks.zip kus)) Q X.xe s') →
    wpAny (model X.prog X.w) X.A (callWith pos f first (backTo pos (starEach args X.env)) (backToKw pos (keywordEach kws X.env))) Q X.xe s
  mn : Mn g
def gStar (ge : GE) (g : GA) : GA := fun σ k => ge σ fun d => match d with
  | .lst xs => g σ fun ds => k (xs ++ ds)
  | .tup xs => g σ fun ds => k (xs ++ ds)
  | _ => False
def gApp (g g' : GA) : GA := fun σ k => g σ fun ds => g' σ fun es => k (ds ++ es)
section
variable {X : Cx} {b : Option Addr} {H0 : Hp} {e o : Expr} {es : List Expr} {kws : List Keyword} {g ga gk : GA} {ge go : GE} {pos p sp_ apos : Pos} {ks : List Str}
theorem dca_nil : DCA b H0 X pos [] [] [] gNil := ⟨fun pins s σ H f first Q I hk ⟨σd, O, R, q⟩ => PySem.W.callWith_K0 I.kIn hk (by
  have := q [] [] [] H s I (.refl H) rfl .nil Reps.nil
  simpa using this), fun σ k k' i q => i _ q⟩
theorem dca_pos (A : DAr b H0 X (e :: es) g) (he : starEach (e :: es) X.env = (false, eval e X.env) :: starEach es X.env := by rfl) (hpl : (backTo pos (starEach es X.env)).any (·.1) = false := by rfl) : DCA b H0 X pos (e :: es) [] [] g :=
  ⟨fun pins s σ H f first Q I hk ⟨σd, O, R, q⟩ => by
    refine PySem.W.callWith_K (h₀ := X.base) I.ok.mod.kin hk (thn (A.pa.run pos pins s σ H (fun vs H' => ∃ ds, Ext b H H' ∧ Reps X.K b (hide O H') ds vs ∧ ∀ us kus vs H' s', Inv X pins σ H' s' → Ext b H H' → kus.length = 0 → Vals vs (us ++ kus) → Reps X.K b (hide O H') ds vs → wpAny (model X.prog X.w) X.A (call f (first ++ us) []) Q X.xe s') I
      ⟨σd, O, R, A.mn _ _ _ (fun ds z vs H' x1 r => ⟨ds, x1, r, z⟩) q⟩) fun us s1 ⟨vs, H1, I1, r, ds, x1, rp, q1⟩ => ⟨I1.kIn, ?_⟩) he hpl
    exact q1 us [] vs H1 s1 I1 x1 rfl (by rw [List.append_nil]; exact r) rp, A.mn⟩
/-- *x alone -/
def gStar1 (ge : GE) : GA := fun σ k => ge σ fun d => match d with
  | .lst xs => k xs
  | .tup xs => k xs
  | _ => False
/-! ### the callees -/
variable {E : XK} {eo : XD → Prop} {s : GS} {k : Nat} {f C : Addr} {x m c : Str} {args : List Expr}
theorem run_fnC {pins : List (Addr × Obj)} {σ : L2.St} {σd : StD} {H : Hp} {s0 : Shared} {O : List Addr} {us kus : List Value} {vs : List V} {ds : List D} {Q : VK} (F : FnC X.prog X.w X.K X.mg X.base k f ks (lift X.K s)) (ms : MnS s) (hr : Room k X.A) (Z : Cz X b H0 E eo)
    (I : Inv X pins σ H s0) (hk : kus.length = ks.length) (r2 : Vals vs (us ++ kus)) (R : Rst X.K b H0 σd σ H O) (rp : Reps X.K b (hide O H) ds vs) (h : s ds (fun d => ∀ v H', Ext b H H' → Rep X.K b (hide O H') d v → Q v H') eo) :
    wpAny (model X.prog X.w) X.A (call (.ref f) us (ks.zip kus)) (EP X pins σ Q) X.xe s0 := by
  have hO : ∀ a ∈ O, Hid O H a := fun a m => (R.nb a m).2.2
  have I1 := inv_hide I hO
  have sp : lift X.K s vs (hide O H) (fun v H2 => (∀ a ∈ O, H2 a = none) → Q v (back O H H2)) E := by
    refine ⟨b, ds, R.bg, rp, ms _ _ _ _ _ (fun d hd v H2 x r0 fr => ?_) (fun x hx cls d H2 x2 xa => ?_) h⟩
    · refine hd v _ (back_ext (fun a m => ⟨(R.nb a m).1, (R.nb a m).2.2⟩) fr x) ?_
      rw [back_hide fr]
      exact r0
    · exact Z.ex x cls d H2 hx (R.le.trans x2) xa
  refine wpAny_call (codeAny_mono (F X.A X.stack s0 (hide O H) us kus vs _ E hr I1.env0 hk r2 sp) fun r s' hq => ?_)
  cases r with
  | error e => exact Z.pass pins σ (hide O H) s0 e s' I1 hq
  | ok fl =>
    cases fl with
    | ret u =>
      obtain ⟨v, H2, os, bare, un, ok, rv, q⟩ := hq
      obtain ⟨fr, I2⟩ := inv_back I hO os bare un ok
      exact ⟨v, _, I2, rv, q fr⟩
    | next => exact False.elim hq
    | brk => exact False.elim hq
    | cont => exact False.elim hq
def gCa (s : GS) (eo : XD → Prop) (ga : GA) : GE := fun σ k => ga σ fun ds => s ds k eo
theorem gCa_mn (ms : MnS s) (A : Mn ga) : Mn (gCa s eo ga) := fun σ k k' i q => A _ _ _ (fun ds z => ms _ _ _ _ _ i (fun _ w => w) z) q
/-- x(..), x a def of the module -/
theorem de_ca (F : FnC X.prog X.w X.K X.mg X.base k f ks (lift X.K s)) (ms : MnS s) (hr : Room k X.A) (hm : X.mg x = some (.ref f)) (hk : PySem.W.keepIn X.K (.ref f) = true) (Z : Cz X b H0 E eo) (A : DCA b H0 X pos args kws ks ga)
    (hg : Gl X x := by rfl) (hdb : (x == ("__debug__" : Str)) = false := by decide) : DE b H0 X (.Call (.Name x p) args kws pos) (gCa s eo ga) := by
  refine ⟨⟨fun pins s0 σ H Q I ⟨σd, O, R, q⟩ => ?_⟩, gCa_mn ms A.mn⟩
  refine wpAny_Call_Name_kw (ld_glob I hg hm ?_ hdb)
  refine A.run pins s0 σ H (.ref f) [] _ I hk ⟨σd, O, R, A.mn _ _ _ (fun ds z us kus vs H' s' I' x1 hl r rp => ?_) q⟩
  exact run_fnC F ms hr Z I' hl r (R.mono x1) rp (ms _ _ _ _ _ (fun d w v H2 x2 r2 => w v H2 (x1.trans x2) r2) (fun _ w => w) z)
/-- o.m(..), o an instance of the class c -/
def gMc (c m : Str) (s : GS) (eo : XD → Prop) (go : GE) (ga : GA) : GE := fun σ k => go σ fun d => match d with
  | .ins c' ns ds => c' = c ∧ m ∉ ns ∧ ga σ fun es => s (.ins c' ns ds :: es) k eo
  | _ => False
theorem gMc_mn (ms : MnS s) (G : Mn go) (A : Mn ga) : Mn (gMc c m s eo go ga) := fun σ k k' i q => G _ _ _ (fun d z => by
  cases d <;> first | exact ⟨z.1, z.2.1, A _ _ _ (fun ds w => ms _ _ _ _ _ i (fun _ w => w) w) z.2.2⟩ | exact z.elim) q
theorem de_mc {pl : Sem Bool} (G : DE b H0 X o go) (cl : Cls X.K (He.ga X.K c)) (hm : Meth X.K (He.ga X.K c) m f) (F : FnC X.prog X.w X.K X.mg X.base k f ks (lift X.K s)) (ms : MnS s) (hr : Room k X.A) (Z : Cz X b H0 E eo) (A : DCA b H0 X pos args kws ks ga)
    (ht : eval (.Call (.Attribute o m apos) args kws pos) X.env = (do
      let ov ← eval o X.env
      standAt apos.atName
      let (f, first) ← holding [ov] (getMethod ov m pl)
      callWith pos f first (backTo pos (starEach args X.env)) (backToKw pos (keywordEach kws X.env))) := by rfl) :
    DE b H0 X (.Call (.Attribute o m apos) args kws pos) (gMc c m s eo go ga) := by
  refine ⟨⟨fun pins s0 σ H Q I ⟨σd, O, R, q⟩ => ?_⟩, gMc_mn ms G.mn A.mn⟩
  refine PySem.W.methodCall_KW (pl := pl) (thn (G.pe.run pins s0 σ H (fun v H' => ∃ a dx fs d, v = .ref a ∧ H' a = some (.ins (He.ga X.K c) dx fs) ∧ fs.lookup m = none ∧ Rst X.K b H0 σd σ H' O ∧ Rep X.K b (hide O H') d (.ref a) ∧ ga σd fun es => s (d :: es) (fun d => ∀ v H2, Ext b H' H2 → Rep X.K b (hide O H2) d v → Q v H2) eo) I
    ⟨σd, O, R, G.mn _ _ _ (fun d z v H' x1 r => ?_) q⟩) fun u s1 ⟨x, H1, I1, rx, a, dx, fs, d, ex, ea, l, R1, rd, q1⟩ => ?_) ht
  · cases d with
    | ins c' ns ds =>
      obtain ⟨e1, e2, z⟩ := z
      subst e1
      obtain ⟨a, dx, vs, rfl, n, h, l, rs⟩ := r.ins
      exact ⟨a, dx, _, _, rfl, (of_hide h).2, lookup_zip_none e2, R.mono x1, r, A.mn _ _ _ (fun es w => ms _ _ _ _ _ (fun d w v H2 x2 r2 => w v H2 (x1.trans x2) r2) (fun _ w => w) w) z⟩
    | _ => exact z.elim
  · subst ex
    obtain rfl : u = Value.ref a := rx
    refine getmeth_ok I1 ea cl hm l ?_
    refine A.run pins s1 σ H1 (.ref f) [.ref a] _ I1 hm.kp ⟨σd, O, R1, A.mn _ _ _ (fun ds z us kus vs H2 s2 I2 x2 hl r rp => ?_) q1⟩
    exact run_fnC (us := .ref a :: us) (vs := .ref a :: vs) F ms hr Z I2 hl (.cons rfl r) (R1.mono x2) (Reps.cons (rd.mono (x2.1.hide O)) rp) (ms _ _ _ _ _ (fun d w v H3 x3 r3 => w v H3 (x2.trans x3) r3) (fun _ w => w) z)
/-- C(..) -/
theorem run_makeC0 {sp : Sp} {pins : List (Addr × Obj)} {σ : L2.St} {H : Hp} {s : Shared} {us kus : List Value} {vs : List V} {Q : VK} (M : Mk X.K C f) (F : FnC X.prog X.w X.K X.mg X.base k f ks sp) (hr : Room (k + 1) X.A) (hx : Passes (L2.CX X.prog X.w) X E) (I : Inv X pins σ H s)
    (hk : kus.length = ks.length) (r : Vals vs (us ++ kus)) (h : ∀ x dx, H x = none → H dx = none → dx ≠ x → sp (V.ref x :: vs) (upd (upd H dx (.own x)) x (.ins C dx [])) (fun v H2 => v = .non ∧ Q (.ref x) H2) E) :
    wpAny (model X.prog X.w) X.A (call (.ref C) us (ks.zip kus)) (EP X pins σ Q) X.xe s := by
  have hq := h (s.heap.objs.size + 1) s.heap.objs.size (I.hok.fresh (Nat.le_succ _)) (I.hok.fresh (Nat.le_refl _)) (Nat.ne_of_lt (Nat.lt_succ_self _))
  have I2 := Inv.made (C := C) I
  have r2 : Vals (V.ref (s.heap.objs.size + 1) :: vs) ((Value.ref (s.heap.objs.size + 1) :: us) ++ kus) := .cons rfl r
  refine wpAny_call (make_map (f := f) I.kIn M.makes M.init (beq_iff_eq.mp M.fn) (codeAny_mono (F _ X.stack _ _ (Value.ref (s.heap.objs.size + 1) :: us) kus _ _ E (hr.make C us (ks.zip kus)) (I2.env0.make C us (ks.zip kus)) hk r2 hq) fun r s' hq' => ?_))
  cases r with
  | error e => exact hx pins σ _ _ e s' I2 hq'
  | ok fl =>
    cases fl with
    | ret u =>
      obtain ⟨v, H', I3, rv, ev, q3⟩ := I2.after hq'
      subst ev
      exact ⟨rv, ⟨V.ref (s.heap.objs.size + 1), H', I3, rfl, q3⟩⟩
    | next => exact False.elim hq'
    | brk => exact False.elim hq'
    | cont => exact False.elim hq'
theorem run_makeC {s : GSI} {pins : List (Addr × Obj)} {σ : L2.St} {σd : StD} {H : Hp} {s0 : Shared} {O : List Addr} {us kus : List Value} {vs : List V} {ds : List D} {Q : VK} (M : Mk X.K (He.ga X.K c) f) (F : FnC X.prog X.w X.K X.mg X.base k f ks (liftI X.K s)) (ms : MnSI s) (hr : Room (k + 1) X.A) (Z : Cz X b H0 E eo)
    (I : Inv X pins σ H s0) (hk : kus.length = ks.length) (r : Vals vs (us ++ kus)) (R : Rst X.K b H0 σd σ H O) (rp : Reps X.K b (hide O H) ds vs) (h : s c [] [] ds (fun ns fs => ∀ v H', Ext b H H' → Rep X.K b (hide O H') (.ins c ns fs) v → Q v H') eo) :
    wpAny (model X.prog X.w) X.A (call (.ref (He.ga X.K c)) us (ks.zip kus)) (EP X pins σ Q) X.xe s0 := by
  have hO : ∀ a ∈ O, Hid O H a := fun a m => (R.nb a m).2.2
  have I1 := inv_pinO I hO
  refine thn (run_makeC0 (Q := fun v H2 => Ext b (hide O H) H2 ∧ ((∀ a ∈ O, H2 a = none) → Q v (back O H H2))) M F hr Z.pass I1 hk r fun x dx hx hdx ne => ?_) fun u s' ⟨v, H2, I2, rv, xx, q⟩ => ?_
  · have nx : some x ≠ b := R.bg.ne hx
    have ndx : some dx ≠ b := R.bg.ne hdx
    refine ⟨b, c, [], [], ds, x, dx, [], vs, rfl, nx, ndx, upd_same, by rw [upd_ne ne, upd_same], ne, rfl, Reps.nil, ?_, ?_, ?_⟩
    · rw [le_upd2 (H1 := H) (O := O) hx hdx]; exact R.bg
    · rw [le_upd2 (H1 := H) (O := O) hx hdx]; exact rp
    · rw [le_upd2 (H1 := H) (O := O) hx hdx]
      refine ms _ _ _ _ _ _ _ _ (fun ns fs w H' vfs x1 hx' hd' l rf => ⟨rfl, x1.trans ⟨hide_le, fun a e c i j m h h0 => ⟨i, j, h0, (of_hide h).2⟩, fun t => tabs_unhide t⟩, fun fr => ?_⟩) (fun xd w cls d H' x1 xa => Z.ex xd cls d H' w (R.le.trans x1) xa) h
      have x2 : Ext b (hide O H) H' := x1.trans ⟨hide_le, fun a e c i j m h h0 => ⟨i, j, h0, (of_hide h).2⟩, fun t => tabs_unhide t⟩
      refine w _ _ (back_ext (fun a m => ⟨(R.nb a m).1, (R.nb a m).2.2⟩) fr x2) ?_
      rw [back_hide fr]
      exact Rep.mkIns nx hx' l (rf.mono hide_le)
  · obtain ⟨fr, I3⟩ := inv_unO I hO I2 (ext_tup R.bg xx)
    exact ⟨v, _, I3, rv, q fr⟩
def gMk (c : Str) (s : GSI) (eo : XD → Prop) (ga : GA) : GE := fun σ k => ga σ fun ds => s c [] [] ds (fun ns fs => k (.ins c ns fs)) eo
theorem gMk_mn {s : GSI} (ms : MnSI s) (A : Mn ga) : Mn (gMk c s eo ga) := fun σ k k' i q => A _ _ _ (fun ds z => ms _ _ _ _ _ _ _ _ (fun ns fs w => i _ w) (fun _ w => w) z) q
theorem de_mk {s : GSI} (M : Mk X.K (He.ga X.K c) f) (F : FnC X.prog X.w X.K X.mg X.base k f ks (liftI X.K s)) (ms : MnSI s) (hr : Room (k + 1) X.A) (hm : X.mg x = some (.ref (He.ga X.K c))) (Z : Cz X b H0 E eo) (A : DCA b H0 X pos args kws ks ga)
    (hg : Gl X x := by rfl) (hdb : (x == ("__debug__" : Str)) = false := by decide) : DE b H0 X (.Call (.Name x p) args kws pos) (gMk c s eo ga) := by
  refine ⟨⟨fun pins s0 σ H Q I ⟨σd, O, R, q⟩ => ?_⟩, gMk_mn ms A.mn⟩
  refine wpAny_Call_Name_kw (ld_glob I hg hm ?_ hdb)
  refine A.run pins s0 σ H (.ref (He.ga X.K c)) [] _ I M.kp ⟨σd, O, R, A.mn _ _ _ (fun ds z us kus vs H' s' I' x1 hl r rp => ?_) q⟩
  exact run_makeC M F ms hr Z I' hl r (R.mono x1) rp (ms _ _ _ _ _ _ _ _ (fun ns fs w v H2 x2 r2 => w v H2 (x1.trans x2) r2) (fun _ w => w) z)
end
/-! ### defs with a star -/
section
variable {P : Program} {w : World} {K : Fg} {mg : Str → Option Value} {base : Heap} {k : Nat} {f : Addr} {sp : Sp} {x qual : Str} {params : Arguments} {body : List Stmt} {scope : Scope} {kws : List (Str × V)} {fd : FuncData} {N : List Str} {pv ps1 : Str}
theorem FnC.ofR (F : FnR P w K mg base (L2.CX P w) k f sp) : FnC P w K mg base k f [] sp := fun A outer s H us kus vs Q E hr e0 hk r hs => by
  have : kus = [] := List.length_eq_zero_iff.mp hk
  subst this
  rw [List.append_nil] at r
  exact F A outer s H us vs Q E hr e0 r hs
/-- def __init__(self, *places) -/
theorem okIS {s : GSI} (F : FunD K x qual params body scope [] kws f fd) (S : FnScope N [ps1, pv] scope)
    (hb : ∀ (kV doc pm : Value) (an : Option Addr) (cdv ct : Value) (u : Value) (rest : List Value), bindArgs (PySem.W.fnOf x qual params body scope .none kV doc pm an cdv ct) ⟨u :: rest, []⟩ = (newTuple rest >>= fun t => pure ([(ps1, u)] ++ [(pv, t)])))
    (hlen : ∀ c ns fs ds k e, s c ns fs ds k e → ds.length ≤ 1000000)
    (hbody : ∀ (cdv : Value) (A : Around) (outer : List Env) (s0 : Shared) (Hc H : Hp) (E : XK) (b : Option Addr) (eo : XD → Prop), Room k (A.deeper (envOfC qual scope s0.heap.objs.size f cdv)) → Cz (cxOf (L2.CX P w) P w K mg base N qual scope f cdv A outer s0 Hc E) b H E eo →
      ∀ c ns fs ds k, s c ns fs ds k eo → ∃ g, DSs b H (cxOf (L2.CX P w) P w K mg base N qual scope f cdv A outer s0 Hc E) body g ∧ ∀ a dx, g (finI a dx c k) (initD N a dx c ns fs [.tup ds])) (mS : MnSI s) : FnC P w K mg base (k + 1) f [] (liftI K s) := by
  obtain ⟨oc, od, dV, kV, doc, pm, an, cdv, ct, osl, rfl, lk, hcd, hD, hK⟩ := F.ex
  rcases hD with ⟨_, rfl⟩ | ⟨e, _⟩
  · refine .ofR ((StX.fn_star (ps := [ps1]) (pv := pv) lk hcd S StX.cxUp (fun us rest hl => ?_) (sp := fun vs H Q E => ∃ (b : Option Addr) (c : Str) (ns : List Str) (fs ds : List D) (x dx p : Addr) (vfs vs' : List V), vs = [.ref x, .ref p] ∧ some x ≠ b ∧ some dx ≠ b ∧ H x = some (.ins (He.ga K c) dx (ns.zip vfs)) ∧ H dx = some (.own x) ∧ dx ≠ x ∧ ns.length = vfs.length ∧
  Reps K b (hide [x, dx] H) fs vfs ∧ Bg b (hide [x, dx] H) ∧ Rep K b (hide [x, dx] H) (.tup ds) (.ref p) ∧
  s c ns fs ds (fun ns' fs' => ∀ H' vfs', Ext b (hide [x, dx] H) (hide [x, dx] H') → H' x = some (.ins (He.ga K c) dx (ns'.zip vfs')) → H' dx = some (.own x) → ns'.length = vfs'.length → Reps K b (hide [x, dx] H') fs' vfs' → Q .non H')
    (fun xd => ∀ cls d H', Ext b (hide [x, dx] H) H' → XAt K b H' xd cls d → E cls d H')) (fun A outer s0 H vs Q E hr h => ?_)).imp fun vs H Q E h => ?_)
    · obtain ⟨u, rfl⟩ : ∃ u, us = [u] := by
        match us, hl with | [u], _ => exact ⟨u, rfl⟩
      exact hb kV doc pm an cdv ct u rest
    · obtain ⟨b, c, ns, fs, ds, x, dx, p, vfs, vs', rfl, nx, ndx, hx, hd, ne, l, rf, bg, r, h⟩ := h
      obtain ⟨g, dg, rd⟩ := hbody cdv A outer s0 H (hide [x, dx] H) E b (fun xd => ∀ cls d H', Ext b (hide [x, dx] H) H' → XAt K b H' xd cls d → E cls d H') hr ⟨passes_call (takes_of rfl rfl rfl rfl) fun _ _ _ _ z => z, fun xd cls d H' z x1 xa => z cls d H' x1 xa⟩ _ _ _ _ _ h
      refine ⟨_, dg.ps, _, [x, dx], rst_init (ds := [.tup ds]) (vs := [.ref p]) nx ndx hx hd ne l rf bg (Reps.cons r Reps.nil), dg.mn (finI x dx c _) _ _ (fun σ q σ' H' O R x1 => ?_) (fun d q => q.elim) (fun σ q => q.elim) (fun σ q => q.elim) (rd x dx)⟩
      have s := R.slot 0
      have q : (match look σ 0 with | .obj a d c' ns fs => a = x ∧ d = dx ∧ c' = c ∧ _ | _ => False) := q
      cases e : look σ 0 with
      | obj a d c' ns' fs' =>
        rw [e] at q s
        obtain ⟨e1, e2, e3, q⟩ := q
        subst e1 e2 e3
        obtain ⟨vs2, e4, m, md, h1, h2, l2, rs⟩ := s
        have sub : ∀ y ∈ ([a, d] : List Addr), y ∈ O := fun y my => by
          rcases List.mem_cons.mp my with rfl | my
          · exact m
          · have ey : y = d := by simpa using my
            rw [ey]; exact md
        have xs : Ext b (hide O H') (hide [a, d] H') := ⟨hide_mono sub, fun y ey c i j mm h h0 => by
          obtain ⟨n1, n2⟩ := of_hide h
          exact ⟨i, j, h0, by rw [hide_out (fun z => n1 (sub y z))]; exact n2⟩, fun t => tabs_hide (fun y my => (R.nb y (sub y my)).2.2.nt) (tabs_unhide t)⟩
        exact q H' vs2 (R.le.trans xs) h1 h2 l2 (rs.mono (hide_mono sub))
      | _ => rw [e] at q; exact q.elim
    · obtain ⟨b, c, ns, fs, ds, x, dx, vfs, vs', e, nx, ndx, hx, hd, ne, l, rf, bg, r, h⟩ := h
      refine ⟨[.ref x], vs', e, rfl, by rw [← r.length]; exact line_m (hlen _ _ _ _ _ _ h), fun p hp => ?_⟩
      have px : p ≠ x := fun z => by rw [z, hx] at hp; cases hp
      have pd : p ≠ dx := fun z => by rw [z, hd] at hp; cases hp
      have po : p ∉ [x, dx] := by simp [px, pd]
      have eh : hide [x, dx] (upd H p (.tup vs')) = upd (hide [x, dx] H) p (.tup vs') := hide_new po
      have hpn : hide [x, dx] H p = none := hide_none hp
      have le : Le b (hide [x, dx] H) (hide [x, dx] (upd H p (.tup vs'))) := by rw [eh]; exact Le.new hpn
      have xt : Ext b (hide [x, dx] H) (hide [x, dx] (upd H p (.tup vs'))) := by rw [eh]; exact .new hpn
      refine ⟨b, c, ns, fs, ds, x, dx, p, vfs, vs', rfl, nx, ndx, by rw [upd_ne (fun z => px z.symm)]; exact hx, by rw [upd_ne (fun z => pd z.symm)]; exact hd, ne, l, rf.mono le, bg.ext xt, ?_, ?_⟩
      · refine Rep.mkTup (bg.ne hpn) (.inl (.inl ?_)) (r.mono le)
        rw [eh, upd_same]
      · exact mS _ _ _ _ _ _ _ _ (fun ns fs w H' vfs' x1 => w H' vfs' (xt.trans x1)) (fun xd w cls d H' x1 xa => w cls d H' (xt.trans x1) xa) h
  · exact absurd rfl e
end
end DL
/-! DI2 -/
set_option Elab.async false
set_option linter.all false
set_option maxRecDepth 100000
set_option maxHeartbeats 4000000
/-! enumerate and zip of lists and tuples, mixed. -/
namespace PySem
theorem meets_enumerate_new1 {v : Value} {o : Obj} {H : Heap → Prop} (B : Begins v o H) :
    Meets (Builtin.«enumerate.__new__» ⟨[.type "enumerate", v], []⟩) (fun _ R s => H s.heap ∧
      R (.ok (.ret (.ref (s.heap.push o).objs.size))) { s with heap := (s.heap.push o).push { cls := .type "enumerate", data := .fields #[.none, .bool false, .ref s.heap.objs.size, rawInt 0, .none, .none] } }) :=
  .of_wp fun prog w A R s h => by
    obtain ⟨hp, g, d, tk, os⟩ := s; obtain ⟨h1, h⟩ := h
    have hsub := sub_enumerate
    have q1 : ∀ {A' : Around} {E : Value → Shared → Prop} {Q : Value → Shared → Prop}, Q (.ref hp.objs.size) ⟨hp.push o, g, d, tk, os⟩ → wpAny (model prog w) A' (pyIter v) Q E ⟨hp, g, d, tk, os⟩ :=
      fun q => B.iter prog w _ _ ⟨hp, g, d, tk, os⟩ _ h1 q
    wp_walk using q1
    refine wpAny_stack_any fun st => wpAny_pure ?_
    split
    · rename_i c _ _ _ _ _
      cases (c == Value.type "enumerate")
      · wp_walk using q1
        exact ⟨_, rfl, h⟩
      · wp_walk using q1
        exact ⟨_, rfl, h⟩
    · wp_walk using q1
      exact ⟨_, rfl, h⟩
section
variable {prog : Program} {w : World} {A : Around} {E : Value → Shared → Prop} {s : Shared}
theorem enum_begins1 {v : Value} {o : Obj} {H : Heap → Prop} {Q : Value → Shared → Prop} (B : Begins v o H) (h1 : H s.heap)
    (h : ∀ h', IsEnum h' (s.heap.objs.size + 1) s.heap.objs.size 0 .none → h'.get? s.heap.objs.size = some o → h'.objs.size = s.heap.objs.size + 2 →
      (∀ b o, s.heap.get? b = some o → h'.get? b = some o) → Q (.ref (s.heap.objs.size + 1)) { s with heap := h' }) :
    wpAny (model prog w) A (call (.type "enumerate") [v]) Q E s := by
  refine callType_new F.called_enumerate (by decide) (F.typeCall_enumerate_1 _) (F.newCall_enumerate_1 _) (fun obj => F.args_object_init_2 obj _) F.entry_enumerate_new
    (meets_enumerate_new1 B) ⟨h1, ?_⟩
  have hz : (s.heap.push o).objs.size = s.heap.objs.size + 1 := Heap.size_push ..
  show _ ∧ _
  rw [hz]
  have he : IsEnum ((s.heap.push o).push { cls := .type "enumerate", data := .fields #[.none, .bool false, .ref s.heap.objs.size, rawInt 0, .none, .none] }) (s.heap.objs.size + 1) s.heap.objs.size 0 .none := by
    have := Heap.get?_push_size (s.heap.push o) (o := { cls := .type "enumerate", data := .fields #[.none, .bool false, .ref s.heap.objs.size, rawInt 0, .none, .none] }) rfl
    rw [hz] at this; exact this
  refine ⟨⟨_, he, rfl⟩, h _ he (Heap.get?_push_of_some _ (Heap.get?_push_size _ B.free)) (by rw [Heap.size_push, hz]) fun b o x => Heap.get?_push_of_some _ (Heap.get?_push_of_some _ x)⟩
end
end PySem
namespace DL
open PySem PySem.Spec PyProof.Rows L2
variable [TabC]
/-- a list (false) or a tuple (true) -/
def SqB (t : Bool) (K : Fg) (H : Hp) (a : Addr) (xs : List V) : Prop := match t with | false => SqL K H a xs | true => SqT K H a xs
def SeqO (t : Bool) (h : Heap) (a : Addr) (its : Array Value) : Prop := match t with | false => h.IsList a its | true => h.IsTuple a its
def ItO (t : Bool) (h : Heap) (it a : Addr) (i : Nat) : Prop := match t with | false => h.IsListIter it a i | true => h.IsTupleIter it a i
def itObj (t : Bool) (a : Addr) : Obj := match t with | false => { cls := .type "list_iterator", data := .fields #[.ref a, .int 0 0] } | true => { cls := .type "tuple_iterator", data := .fields #[.ref a, .int 0 0] }
theorem begins_b (t : Bool) (a : Addr) (its : Array Value) : Begins (.ref a) (itObj t a) fun h => SeqO t h a its := by
  cases t
  · exact begins_list a its
  · exact begins_tuple a its
theorem draws_b {prog : Program} {w : World} {A : Around} (t : Bool) (hh : A.handled = none) (it a : Addr) (hne : a ≠ it) (items : Array Value) :
    Draws prog w A it [it, a] items.size (fun i v => items[i]? = some v) (fun i h => ItO t h it a i ∧ SeqO t h a items) := by
  cases t
  · exact Draws.list hh it a hne items
  · exact Draws.tuple hh it a hne items
theorem itO_new {t : Bool} {h : Heap} {it a : Addr} (e : h.get? it = some (itObj t a)) : ItO t h it a 0 := by
  cases t <;> exact ⟨_, e, rfl, rfl⟩
theorem itO_at {t : Bool} {h h' : Heap} {it a : Addr} {i : Nat} (x : ItO t h it a i) (k : ∀ o, h.get? it = some o → h'.get? it = some o) : ItO t h' it a i := by
  cases t <;> (obtain ⟨o, e, r⟩ := x; exact ⟨o, k _ e, r⟩)
theorem itO_obj {t : Bool} {h : Heap} {it a : Addr} {i : Nat} (x : ItO t h it a i) : ∃ o, h.get? it = some o ∧ ∀ v, o.data ≠ .cell v := by
  cases t <;> (obtain ⟨o, e, _, d⟩ := x; exact ⟨o, e, fun v q => by rw [d] at q; cases q⟩)
theorem seqO_lt {t : Bool} {h : Heap} {a : Addr} {its : Array Value} (x : SeqO t h a its) : a < h.objs.size := by
  cases t <;> (obtain ⟨o, e, _⟩ := x; exact Heap.lt_size e)
section
variable {X : Cx} {pins : List (Addr × Obj)} {σ : L2.St} {H : Hp} {s : Shared}
theorem Inv.seqB {t : Bool} {a : Addr} {xs : List V} (I : Inv X pins σ H s) (h : SqB t X.K H a xs) : ∃ its : List Value, Vals xs its ∧ SeqO t s.heap a its.toArray := by
  cases t
  · obtain ⟨its, r, p, _⟩ := I.list h
    exact ⟨its, r, p.isList⟩
  · obtain ⟨its, r, p, _⟩ := I.tuple h
    exact ⟨its, r, p⟩
theorem Inv.injB {t : Bool} {a : Addr} {xs ys : List V} (I : Inv X pins σ H s) (h : SqB t X.K H a xs) (g : SqB t X.K H a ys) : xs = ys := by
  cases t
  · exact I.list_inj h g
  · exact I.tuple_inj h g
end
/-- what an iterator over two yields -/
def ItzB (t u : Bool) (K : Fg) (a b : Addr) : It :=
  ⟨fun i H => ∃ (xs ys : List V) (x y : V), SqB t K H a xs ∧ SqB u K H b ys ∧ xs[i]? = some x ∧ ys[i]? = some y,
    fun i H v H' => ∃ T x y, v = .ref T ∧ H T = none ∧ H' = upd H T (.tup [x, y]) ∧ (∀ xs, SqB t K H a xs → xs[i]? = some x) ∧ ∀ ys, SqB u K H b ys → ys[i]? = some y,
    fun i H => ∃ xs ys : List V, SqB t K H a xs ∧ SqB u K H b ys ∧ i = min xs.length ys.length⟩
theorem turn_zipB {P : Program} {w : World} {K : Fg} {elts : List Expr} {kk : Nat} {tpos : Pos} (t u : Bool) {a b z TI TO i1 i2 : Addr} (S : ZipSep2 z TI TO i1 i2 [i1, a] [i2, b]) (n1 : a ≠ i1) (n2 : b ≠ i2) :
    Turn P w K (.Tuple elts kk tpos) (ItzB t u K a b) [z, TI, TO, i1, i2] z (fun i h => IsZip h z TI TO .none ∧ IsTupOf2 h TI (.ref i1) (.ref i2) ∧ (∃ x y, IsTupOf2 h TO x y) ∧ ItO t h i1 a i ∧ ItO u h i2 b i) where
  mem := by simp
  obj := fun i h st c hc => by
    obtain ⟨hz, hTI, ⟨x, y, hTO⟩, h1, h2⟩ := st
    have e' : c = z ∨ c = TI ∨ c = TO ∨ c = i1 ∨ c = i2 := by simpa using hc
    rcases e' with q | q | q | q | q
    · rw [q]; exact ⟨_, hz, fun v q => nomatch q⟩
    · rw [q]; exact ⟨_, hTI, fun v q => nomatch q⟩
    · rw [q]; exact ⟨_, hTO, fun v q => nomatch q⟩
    · rw [q]; exact itO_obj h1
    · rw [q]; exact itO_obj h2
  keep := fun i h h' st k => by
    obtain ⟨hz, hTI, ⟨x, y, hTO⟩, h1, h2⟩ := st
    exact ⟨k z (by simp) _ hz, k TI (by simp) _ hTI, ⟨x, y, k TO (by simp) _ hTO⟩, itO_at h1 fun o q => k i1 (by simp) o q, itO_at h2 fun o q => k i2 (by simp) o q⟩
  item := by
    intro X hP hw hK hc i pins s σ H E I hf st hg
    subst hP hw hK
    obtain ⟨hz, hTI, hTO, h1, h2⟩ := st
    obtain ⟨xs, ys, x, y, hqx, hqy, hx, hy⟩ := hg
    obtain ⟨its, rv, p⟩ := Inv.seqB I hqx
    obtain ⟨its2, rv2, p2⟩ := Inv.seqB I hqy
    have hin : (X.A.in1).handled = none := I.ok.hd hc
    have W := WalksT.zipD2 (A := X.A) S (draws_b (prog := X.prog) (w := X.w) t hin i1 a n1 its.toArray) (draws_b (prog := X.prog) (w := X.w) u hin i2 b n2 its2.toArray)
    have l1 := rv.length
    have l2 := rv2.length
    have hi : i < min its.toArray.size its2.toArray.size := by
      have g1 := (List.getElem?_eq_some_iff.mp hx).1
      have g2 := (List.getElem?_eq_some_iff.mp hy).1
      simp only [List.size_toArray]; omega
    refine W.item i s _ E hi ⟨hz, hTI, hTO, ⟨h1, p⟩, ⟨h2, p2⟩⟩ fun T vals h' tk hv hT hTup mid hk => ⟨_, rfl, W.go elts kk tpos i T _ _ E mid fun h'' st2 hk2 => ?_⟩
    obtain ⟨v1, v2, e1, e2, rfl⟩ := hv
    have hap := W.apart i T h' mid
    have k2 : ∀ c o, c ∉ [z, TO, i1, i2] → s.heap.get? c = some o → h''.get? c = some o := fun c o hc q => hk2 c o hc (hk c o hc q)
    have hT2 : h''.IsTuple T #[v1, v2] := by
      obtain ⟨o, q, r⟩ := hTup
      exact ⟨o, hk2 T o hap q, r⟩
    obtain ⟨u1, hu1, ru1⟩ := vals_get rv hx
    obtain ⟨u2, hu2, ru2⟩ := vals_get rv2 hy
    have f1 : v1 = u1 := by
      have : its[i]? = some v1 := by simpa using e1
      rw [hu1] at this; exact (Option.some.inj this).symm
    have f2 : v2 = u2 := by
      have : its2[i]? = some v2 := by simpa using e2
      rw [hu2] at this; exact (Option.some.inj this).symm
    subst f1 f2
    have new : ObjOk X.prog X.w (upd H T (.tup [x, y])) h'' T (.tup [x, y]) := ⟨by show 2 ≤ sizeLine; decide, [v1, v2], .cons ru1 (.cons ru2 .nil), hT2⟩
    have I1 : Inv X pins σ (upd H T (.tup [x, y])) { s with heap := h'', toks := tk } :=
      I.turnedNew (t' := tk) (ch := [z, TI, TO, i1, i2]) (fun c o hb q => k2 c o (fun m => hb (by
        have e' : c = z ∨ c = TO ∨ c = i1 ∨ c = i2 := by simpa using m
        rcases e' with r | r | r | r <;> simp [r])) q) hf hT new
    obtain ⟨hz', hTI', hTO', ⟨g1, _⟩, ⟨g2, _⟩⟩ := st2
    refine ⟨.ref T, _, I1, rfl, ⟨_, x, y, rfl, I.hok.fresh hT, rfl, fun l hl => by rw [Inv.injB I hl hqx]; exact hx, fun l hl => by rw [Inv.injB I hl hqy]; exact hy⟩, ⟨hz', hTI', hTO', g1, g2⟩, fun c hcm => ?_⟩
    have hlt : c < s.heap.objs.size := by
      have e' : c = z ∨ c = TI ∨ c = TO ∨ c = i1 ∨ c = i2 := by simpa using hcm
      obtain ⟨x0, y0, hTO⟩ := hTO
      rcases e' with q | q | q | q | q
      · rw [q]; exact Heap.lt_size hz
      · rw [q]; exact Heap.lt_size hTI
      · rw [q]; exact Heap.lt_size hTO
      · rw [q]; obtain ⟨_, e1, _⟩ := itO_obj h1; exact Heap.lt_size e1
      · rw [q]; obtain ⟨_, e2, _⟩ := itO_obj h2; exact Heap.lt_size e2
    rw [upd_ne (fun q => by rw [q] at hlt; exact Nat.lt_irrefl _ (Nat.lt_of_lt_of_le hlt hT))]
    exact (hf c hcm).1
  done := by
    intro X hP hw hK hc i pins s σ H E I hf st hg
    subst hP hw hK
    obtain ⟨hz, hTI, hTO, h1, h2⟩ := st
    obtain ⟨xs, ys, hqx, hqy, hend⟩ := hg
    obtain ⟨its, rv, p⟩ := Inv.seqB I hqx
    obtain ⟨its2, rv2, p2⟩ := Inv.seqB I hqy
    have hin : (X.A.in1).handled = none := I.ok.hd hc
    have W := WalksT.zipD2 (A := X.A) S (draws_b (prog := X.prog) (w := X.w) t hin i1 a n1 its.toArray) (draws_b (prog := X.prog) (w := X.w) u hin i2 b n2 its2.toArray)
    have l1 := rv.length
    have l2 := rv2.length
    have ei : i = min its.toArray.size its2.toArray.size := by simp only [List.size_toArray]; omega
    rw [ei] at h1 h2
    refine W.done s _ E ⟨hz, hTI, hTO, ⟨h1, p⟩, ⟨h2, p2⟩⟩ fun h' tk hk => ⟨rfl, I.turnedL (t' := tk) (ch := [z, TI, TO, i1, i2]) (fun c o hb q => hk c o (fun m => hb (by
        have e' : c = z ∨ c = TO ∨ c = i1 ∨ c = i2 := by simpa using m
        rcases e' with r | r | r | r <;> simp [r])) q) hf⟩
  self := fun A i s Q E st h => wpAny_pyIter_zip st.1 h
/-- zip(x, y) -/
def iZipB (K : Fg) (ta : TA) : TI := fun σ H R => ta σ H fun vs H1 => ∃ (t u : Bool) (a b : Addr) (xs ys : List V), vs = [.ref a, .ref b] ∧ SqB t K H1 a xs ∧ SqB u K H1 b ys ∧ R (ItzB t u K a b) H1
theorem pi_zipB {X : Cx} {e e2 : Expr} {ta : TA} {p pos tpos : Pos} {elts : List Expr} {kk : Nat} (hg : Gl X "zip") (hm : X.mg "zip" = none) (ha : PA X [e, e2] ta)
    (hs : starEach [e, e2] X.env = (false, eval e X.env) :: starEach [e2] X.env := by rfl) (hpl : (backTo pos (starEach [e2] X.env)).any (·.1) = false := by rfl) :
    PI X (.Tuple elts kk tpos) (.Call (.Name "zip" p) [e, e2] [] pos) (iZipB X.K ta) := by
  refine ⟨fun pins s σ H R I h => ?_⟩
  refine Call_ (ld_blt I hg hm PyProof.Rows.boot_zip (PyProof.Rows.callWith_type1 (thn (ha.run pos pins s σ H _ I h) fun us s1 ⟨vs, H1, I1, r1, q1⟩ => ?_) hs hpl))
  obtain ⟨t, u, a, b, xs, ys, ex, hqx, hqy, q⟩ := q1
  subst ex
  cases r1 with
  | cons r rr =>
    cases rr with
    | cons r' rr =>
      cases rr
      cases r
      cases r'
      have fresh5 : ∀ c, c ∈ [s1.heap.objs.size + 4, s1.heap.objs.size + 2, s1.heap.objs.size + 3, s1.heap.objs.size, s1.heap.objs.size + 1] → FpOk X pins H1 c := fun c hcm => by
        have e' : c = s1.heap.objs.size + 4 ∨ c = s1.heap.objs.size + 2 ∨ c = s1.heap.objs.size + 3 ∨ c = s1.heap.objs.size ∨ c = s1.heap.objs.size + 1 := by simpa using hcm
        have hle : s1.heap.objs.size ≤ c := by
          rcases e' with z | z | z | z | z
          · rw [z]; exact Nat.le_add_right _ _
          · rw [z]; exact Nat.le_add_right _ _
          · rw [z]; exact Nat.le_add_right _ _
          · rw [z]; exact Nat.le_refl _
          · rw [z]; exact Nat.le_add_right _ _
        exact I1.fpOk hle (I1.hok.fresh hle)
      obtain ⟨its, rv, p1⟩ := Inv.seqB I1 hqx
      obtain ⟨its2, rv2, p2⟩ := Inv.seqB I1 hqy
      have q1 := seqO_lt p1
      have q2 := seqO_lt p2
      refine zip_begins2 (begins_b t a its.toArray) (begins_b u b its2.toArray) p1 p2 fun h' hz hTI hTO h1 h2 hsz hk => wpAny_pyIter_zip hz ?_
      have I2 : Inv X pins σ H1 { s1 with heap := h' } := I1.kept (t' := s1.toks) hk
      exact ⟨s1.heap.objs.size + 4, [s1.heap.objs.size + 4, s1.heap.objs.size + 2, s1.heap.objs.size + 3, s1.heap.objs.size, s1.heap.objs.size + 1], _, _, H1, rfl, I2,
        turn_zipB t u (zip_sep2 (N := s1.heap.objs.size) (fp1 := [a]) (fp2 := [b]) (by simpa using q1) (by simpa using q2)) (Nat.ne_of_lt q1) (Nat.ne_of_lt (Nat.lt_succ_of_lt q2)), ⟨hz, hTI, ⟨_, _, hTO⟩, itO_new h1, itO_new h2⟩, fresh5, q⟩
/-- enumerate(x) -/
def IteB (t : Bool) (K : Fg) (a : Addr) : It :=
  ⟨fun i H => ∃ (xs : List V) (x : V), SqB t K H a xs ∧ xs[i]? = some x, fun i H v H' => ∃ T x, v = .ref T ∧ H T = none ∧ H' = upd H T (.tup [.int (i : Nat), x]) ∧ ∀ xs, SqB t K H a xs → xs[i]? = some x, fun i H => ∃ xs : List V, SqB t K H a xs ∧ i = xs.length⟩
theorem turn_enumB {P : Program} {w : World} {K : Fg} {elts : List Expr} {kk : Nat} {tpos : Pos} (t : Bool) (a e it : Addr) (ne : a ≠ it) (hef : e ∉ [it, a]) :
    Turn P w K (.Tuple elts kk tpos) (IteB t K a) [e, it] e (fun i h => (∃ old, IsEnum h e it ((i : Nat) : Int) old) ∧ ItO t h it a i) where
  mem := by simp
  obj := fun i h st b hb => by
    obtain ⟨⟨old, he⟩, hi⟩ := st
    have e' : b = e ∨ b = it := by simpa using hb
    rcases e' with z | z
    · rw [z]; exact ⟨_, he, fun v q => nomatch q⟩
    · rw [z]; exact itO_obj hi
  keep := fun i h h' st k => let ⟨⟨old, he⟩, hi⟩ := st; ⟨⟨old, k e (by simp) _ he⟩, itO_at hi fun o q => k it (by simp) o q⟩
  item := by
    intro X hP hw hK hc i pins s σ H E I hf st hg
    subst hP hw hK
    obtain ⟨he, hit⟩ := st
    obtain ⟨xs, x, hq, hx⟩ := hg
    obtain ⟨its, rv, p⟩ := Inv.seqB I hq
    have hin : (X.A.in1).handled = none := I.ok.hd hc
    have W := WalksT.enumerateD (A := X.A) (draws_b (prog := X.prog) (w := X.w) t hin it a ne its.toArray) e (fun z => hef (by simp [z])) hef (by simp)
    have l1 := rv.length
    have hi : i < its.toArray.size := by
      have g1 := (List.getElem?_eq_some_iff.mp hx).1
      simp only [List.size_toArray]; omega
    refine W.item i s _ E hi ⟨he, ⟨hit, p⟩⟩ fun T vals h' tk hv hT hTup mid hk => ⟨_, rfl, W.go elts kk tpos i T _ _ E mid fun h'' st2 hk2 => ?_⟩
    obtain ⟨tt, v1, e1, rfl⟩ := hv
    have hap := W.apart i T h' mid
    have k2 : ∀ c o, c ∉ [e, it] → s.heap.get? c = some o → h''.get? c = some o := fun c o hc q => hk2 c o hc (hk c o hc q)
    have hT2 : h''.IsTuple T #[.int i tt, v1] := by
      obtain ⟨o, q, r⟩ := hTup
      exact ⟨o, hk2 T o hap q, r⟩
    obtain ⟨u1, hu1, ru1⟩ := vals_get rv hx
    have f1 : v1 = u1 := by
      have : its[i]? = some v1 := by simpa using e1
      rw [hu1] at this; exact (Option.some.inj this).symm
    subst f1
    have new : ObjOk X.prog X.w (upd H T (.tup [.int (i : Nat), x])) h'' T (.tup [.int (i : Nat), x]) := ⟨by show 2 ≤ sizeLine; decide, [.int i tt, v1], .cons ⟨_, rfl⟩ (.cons ru1 .nil), hT2⟩
    have I1 : Inv X pins σ (upd H T (.tup [.int (i : Nat), x])) { s with heap := h'', toks := tk } := I.turnedNew (t' := tk) (ch := [e, it]) k2 hf hT new
    obtain ⟨he', ⟨g1, _⟩⟩ := st2
    refine ⟨.ref T, _, I1, rfl, ⟨_, x, rfl, I.hok.fresh hT, rfl, fun l hl => by rw [Inv.injB I hl hq]; exact hx⟩, ⟨by simpa using he', g1⟩, fun c hcm => ?_⟩
    have hlt : c < s.heap.objs.size := by
      have e' : c = e ∨ c = it := by simpa using hcm
      obtain ⟨old, he⟩ := he
      rcases e' with q | q
      · rw [q]; exact Heap.lt_size he
      · rw [q]; obtain ⟨_, e1, _⟩ := itO_obj hit; exact Heap.lt_size e1
    rw [upd_ne (fun q => by rw [q] at hlt; exact Nat.lt_irrefl _ (Nat.lt_of_lt_of_le hlt hT))]
    exact (hf c hcm).1
  done := by
    intro X hP hw hK hc i pins s σ H E I hf st hg
    subst hP hw hK
    obtain ⟨he, hit⟩ := st
    obtain ⟨xs, hq, hend⟩ := hg
    obtain ⟨its, rv, p⟩ := Inv.seqB I hq
    have hin : (X.A.in1).handled = none := I.ok.hd hc
    have W := WalksT.enumerateD (A := X.A) (draws_b (prog := X.prog) (w := X.w) t hin it a ne its.toArray) e (fun z => hef (by simp [z])) hef (by simp)
    have l1 := rv.length
    have ei : i = its.toArray.size := by simp only [List.size_toArray]; omega
    rw [ei] at he hit
    exact W.done s _ E ⟨he, ⟨hit, p⟩⟩ fun h' tk hk => ⟨rfl, I.turnedL (t' := tk) (ch := [e, it]) hk hf⟩
  self := fun A i s Q E st h => let ⟨⟨_, he⟩, _⟩ := st; wpAny_pyIter_enum he h
def iEnumB (K : Fg) (ta : TA) : TI := fun σ H R => ta σ H fun vs H1 => ∃ (t : Bool) (a : Addr) (xs : List V), vs = [.ref a] ∧ SqB t K H1 a xs ∧ R (IteB t K a) H1
theorem pi_enumB {X : Cx} {e : Expr} {ta : TA} {p pos tpos : Pos} {elts : List Expr} {kk : Nat} (hg : Gl X "enumerate") (hm : X.mg "enumerate" = none) (ha : PA X [e] ta) (hs : starEach [e] X.env = [(false, eval e X.env)] := by rfl) :
    PI X (.Tuple elts kk tpos) (.Call (.Name "enumerate" p) [e] [] pos) (iEnumB X.K ta) := by
  refine ⟨fun pins s σ H R I h => ?_⟩
  refine Call_ (ld_blt I hg hm boot_enumerate (PyProof.Rows.callWith_type1 (thn (ha.run pos pins s σ H _ I h) fun us s1 ⟨vs, H1, I1, r1, q1⟩ => ?_) hs rfl))
  obtain ⟨t, a, xs, ex, hq, q⟩ := q1
  subst ex
  cases r1 with
  | cons r rr =>
    cases rr
    cases r
    obtain ⟨its, rv, p1⟩ := Inv.seqB I1 hq
    have q1 := seqO_lt p1
    refine enum_begins1 (begins_b t a its.toArray) p1 fun h' he hit hsz hk => wpAny_pyIter_enum he ?_
    have I2 : Inv X pins σ H1 { s1 with heap := h' } := I1.kept (t' := s1.toks) hk
    refine ⟨s1.heap.objs.size + 1, [s1.heap.objs.size + 1, s1.heap.objs.size], _, _, H1, rfl, I2, turn_enumB t a (s1.heap.objs.size + 1) s1.heap.objs.size (Nat.ne_of_lt q1) (fun m => ?_), ⟨⟨.none, he⟩, itO_new hit⟩, fun b hb => ?_, q⟩
    · have e' : s1.heap.objs.size + 1 = s1.heap.objs.size ∨ s1.heap.objs.size + 1 = a := by simpa using m
      rcases e' with z | z
      · exact Nat.succ_ne_self _ z
      · rw [← z] at q1; exact absurd q1 (Nat.not_lt.mpr (Nat.le_succ _))
    have e' : b = s1.heap.objs.size + 1 ∨ b = s1.heap.objs.size := by simpa using hb
    have hle : s1.heap.objs.size ≤ b := by
      rcases e' with z | z
      · rw [z]; exact Nat.le_add_right _ _
      · rw [z]; exact Nat.le_refl _
    exact I1.fpOk hle (I1.hok.fresh hle)
/-! ### as data -/
def seqD : D → Option (Bool × List D)
  | .lst ds => some (false, ds)
  | .tup ds => some (true, ds)
  | _ => none
theorem Rep.seq {K : Fg} {b : Option Addr} {H : Hp} {d : D} {v : V} {t : Bool} {ds : List D} (r : Rep K b H d v) (e : seqD d = some (t, ds)) : ∃ a vs, v = .ref a ∧ some a ≠ b ∧ SqB t K H a vs ∧ Reps K b H ds vs := by
  cases d with
  | lst es => cases e; exact r.lst
  | tup es => cases e; exact r.tup
  | _ => cases e
theorem sqB_mono {K : Fg} {b : Option Addr} {H H' : Hp} {t : Bool} {a : Addr} {xs : List V} (x : Le b H H') (hb : some a ≠ b) (h : SqB t K H a xs) : SqB t K H' a xs := by
  cases t
  · exact sqL_mono x hb h
  · exact sqT_mono x hb h
section
variable {X : Cx} {b : Option Addr} {H0 : Hp} {a c : Expr} {ga gb : GE} {pos p : Pos}
def gZipA (ga gb : GE) : GI := fun σ k => ga σ fun x => gb σ fun y => match x, y with
  | .lst ds, .lst es => k (pairsD ds es)
  | .lst ds, .tup es => k (pairsD ds es)
  | .tup ds, .lst es => k (pairsD ds es)
  | .tup ds, .tup es => k (pairsD ds es)
  | _, _ => False
theorem gZipA_seq {x y : D} {k : List D → Prop} (h : match x, y with
  | .lst ds, .lst es => k (pairsD ds es)
  | .lst ds, .tup es => k (pairsD ds es)
  | .tup ds, .lst es => k (pairsD ds es)
  | .tup ds, .tup es => k (pairsD ds es)
  | _, _ => False) : ∃ t u ds es, seqD x = some (t, ds) ∧ seqD y = some (u, es) ∧ k (pairsD ds es) := by
  cases x <;> cases y <;> first | exact ⟨_, _, _, _, rfl, rfl, h⟩ | exact h.elim
theorem gZipA_mn (A : Mn ga) (B : Mn gb) : Mn (gZipA ga gb) := fun σ k k' i q => A _ _ _ (fun x z => B _ _ _ (fun y w => by
  cases x <;> cases y <;> first | exact i _ w | exact w.elim) z) q
theorem pairs_min : ∀ {ds es : List D}, (pairsD ds es).length = min ds.length es.length
  | [], es => by simp [pairsD]
  | d :: ds, [] => by simp [pairsD]
  | d :: ds, e :: es => by
    show (_ :: pairsD ds es).length = _
    rw [List.length_cons, pairs_min, List.length_cons, List.length_cons]; omega
theorem wlk_zipB {K : Fg} {O : List Addr} {H1 : Hp} {ds es : List D} {a a2 : Addr} {vs us : List V} {t u : Bool} (n : some a ≠ b) (n2 : some a2 ≠ b) (h : SqB t K (hide O H1) a vs) (h2 : SqB u K (hide O H1) a2 us) (r : Reps K b (hide O H1) ds vs) (r2 : Reps K b (hide O H1) es us) : Wlk K b O (pairsD ds es) (ItzB t u K a a2) H1 := fun i H2 O2 x F => by
  have g1 : SqB t K H2 a vs := sqB_mono hide_le n (sqB_mono x.1 n h)
  have g2 : SqB u K H2 a2 us := sqB_mono hide_le n2 (sqB_mono x.1 n2 h2)
  refine ⟨fun d e => ?_, fun hi => ⟨vs, us, g1, g2, ?_⟩⟩
  · obtain ⟨v1, v2, e1, e2⟩ := pairs_at r r2 e
    refine ⟨⟨vs, us, v1, v2, g1, g2, e1, e2⟩, fun y H3 yl => ?_⟩
    obtain ⟨T, x1, y1, rfl, hT, rfl, f1, f2⟩ := yl
    exact zip_item F hT (r.mono x.1) (r2.mono x.1) e (f1 _ g1) (f2 _ g2)
  · rw [hi, pairs_min, r.length, r2.length]
theorem di_zipA {elts : List Expr} {kk : Nat} {tpos : Pos} (A : DE b H0 X a ga) (B : DE b H0 X c gb) (hg : Gl X "zip") (hm : X.mg "zip" = none) (hs : starEach [a, c] X.env = (false, eval a X.env) :: starEach [c] X.env := by rfl) (hs2 : starEach [c] X.env = (false, eval c X.env) :: starEach [] X.env := by rfl)
    (hpl : (backTo pos (starEach [c] X.env)).any (·.1) = false := by rfl) : DI b H0 X (.Tuple elts kk tpos) (.Call (.Name "zip" p) [a, c] [] pos) (gZipA ga gb) := by
  refine ⟨pi_imp (pi_zipB hg hm (pa_cons A.pe (pa_cons B.pe pa_nil hs2) hs) hs hpl) fun σ H Q ⟨σd, O, R, q⟩ => ?_, gZipA_mn A.mn B.mn⟩
  refine ⟨σd, O, R, A.mn _ _ _ (fun d z v H1 x1 r1 => ⟨σd, O, R.mono x1, B.mn _ _ _ (fun d2 z v2 H2 x2 r2 => ?_) z⟩) q⟩
  have r1 := r1.mono (x2.1.hide O)
  obtain ⟨t, u, ds, es, e1, e2, z⟩ := gZipA_seq (x := d) (y := d2) (k := fun ds => ∀ (J : It) (H' : Hp), Ext b H H' → Wlk X.K b O ds J H' → Q J H') z
  obtain ⟨a1, vs, rfl, n1, h1, s1⟩ := r1.seq e1
  obtain ⟨a2, us, rfl, n2, h2, s2⟩ := r2.seq e2
  exact ⟨t, u, a1, a2, vs, us, rfl, sqB_mono hide_le n1 h1, sqB_mono hide_le n2 h2, z _ _ (x1.trans x2) (wlk_zipB n1 n2 h1 h2 s1 s2)⟩
def enumD : Nat → List D → List D
  | _, [] => []
  | i, d :: r => .tup [.int i, d] :: enumD (i + 1) r
theorem enumD_len : ∀ {j : Nat} {ds : List D}, (enumD j ds).length = ds.length
  | _, [] => rfl
  | j, d :: r => by simp [enumD, enumD_len]
theorem enumD_at : ∀ {ds : List D} {j i : Nat} {x : D}, (enumD j ds)[i]? = some x → ∃ d, ds[i]? = some d ∧ x = .tup [.int ((j + i : Nat) : Int), d]
  | [], j, i, x, h => by simp [enumD] at h
  | d :: r, j, 0, x, h => by
    simp [enumD] at h
    exact ⟨d, rfl, by rw [← h]; rfl⟩
  | d :: r, j, i + 1, x, h => by
    obtain ⟨d', e1, e2⟩ := enumD_at (ds := r) (j := j + 1) (i := i) (x := x) (by simpa [enumD] using h)
    refine ⟨d', by simpa using e1, ?_⟩
    rw [e2]
    have : j + 1 + i = j + (i + 1) := by omega
    rw [this]
def gEnum (ga : GE) : GI := fun σ k => ga σ fun x => match x with
  | .lst ds => k (enumD 0 ds)
  | .tup ds => k (enumD 0 ds)
  | .frl _ ds => k (enumD 0 ds)
  | _ => False
theorem gEnum_mn (A : Mn ga) : Mn (gEnum ga) := fun σ k k' i q => A _ _ _ (fun x z => by
  cases x <;> first | exact i _ z | exact z.elim) q
theorem wlk_enum {K : Fg} {O : List Addr} {H1 : Hp} {ds : List D} {a : Addr} {vs : List V} {t : Bool} (n : some a ≠ b) (h : SqB t K (hide O H1) a vs) (r : Reps K b (hide O H1) ds vs) : Wlk K b O (enumD 0 ds) (IteB t K a) H1 := fun i H2 O2 x F => by
  have g1 : SqB t K H2 a vs := sqB_mono hide_le n (sqB_mono x.1 n h)
  refine ⟨fun d e => ?_, fun hi => ⟨vs, g1, by rw [hi, enumD_len, r.length]⟩⟩
  obtain ⟨d', e1, rfl⟩ := enumD_at e
  obtain ⟨v, e2, rv⟩ := (r.mono x.1).get e1
  refine ⟨⟨vs, v, g1, e2⟩, fun y H3 yl => ?_⟩
  obtain ⟨T, x1, rfl, hT, rfl, f1⟩ := yl
  have e3 := f1 _ g1
  rw [e2] at e3; cases e3
  obtain ⟨m1, m2⟩ := F T hT
  refine ⟨.new hT, ?_⟩
  rw [hide_new m1, Nat.zero_add]
  exact Rep.mkTup m2 (.inl (.inl upd_same)) (Reps.cons rfl (Reps.cons (rv.mono (Le.new (hide_none hT))) Reps.nil))
theorem di_enum {elts : List Expr} {kk : Nat} {tpos : Pos} (A : DE b H0 X a ga) (hg : Gl X "enumerate") (hm : X.mg "enumerate" = none) (hs : starEach [a] X.env = [(false, eval a X.env)] := by rfl) (hs2 : starEach [a] X.env = (false, eval a X.env) :: starEach [] X.env := by rfl) :
    DI b H0 X (.Tuple elts kk tpos) (.Call (.Name "enumerate" p) [a] [] pos) (gEnum ga) := by
  refine ⟨pi_imp (pi_enumB hg hm (pa_cons A.pe pa_nil hs2) hs) fun σ H Q ⟨σd, O, R, q⟩ => ?_, gEnum_mn A.mn⟩
  refine ⟨σd, O, R, A.mn _ _ _ (fun d z v H1 x1 r1 => ?_) q⟩
  cases d with
  | lst ds =>
    obtain ⟨a1, vs, rfl, n1, h1, s1⟩ := r1.lst
    exact ⟨false, a1, vs, rfl, sqL_mono hide_le n1 h1, z _ _ x1 (wlk_enum (t := false) n1 h1 s1)⟩
  | tup ds =>
    obtain ⟨a1, vs, rfl, n1, h1, s1⟩ := r1.tup
    exact ⟨true, a1, vs, rfl, sqT_mono hide_le n1 h1, z _ _ x1 (wlk_enum (t := true) n1 h1 s1)⟩
  | frl a1 ds =>
    obtain ⟨o, vs, rfl, n1, h1, s1⟩ := r1.frl
    have h1 : SqL X.K (hide O H1) a1 vs := .inl (.inr ⟨o, h1⟩)
    exact ⟨false, a1, vs, rfl, sqL_mono hide_le n1 h1, z _ _ x1 (wlk_enum (t := false) n1 h1 s1)⟩
  | _ => exact z.elim
end
end DL
/-! DI3 -/
set_option Elab.async false
set_option linter.all false
set_option maxRecDepth 100000
set_option maxHeartbeats 4000000
/-! +, * and slices of any data; constants and static methods of classes. -/
namespace DL
open PySem PySem.Spec PyProof.Rows L2
variable [TabC]
/-- + of ints, texts, lists, tuples -/
def dAddB : D → D → (D → Prop) → Prop := fun x y k => match x, y with
  | .int i, .int j => k (.int (i + j))
  | .str i, .str j => i.length + j.length ≤ 1000000 ∧ k (.str (i ++ j))
  | .lst i, .lst j => i.length + j.length ≤ 1000000 ∧ k (.lst (i ++ j))
  | .tup i, .tup j => i.length + j.length ≤ 1000000 ∧ k (.tup (i ++ j))
  | _, _ => False
theorem reps_nil_iff {K : Fg} {b : Option Addr} {H : Hp} {ds : List D} {vs : List V} (r : Reps K b H ds vs) : vs = [] ↔ ds = [] := by
  rw [← List.length_eq_zero_iff, ← List.length_eq_zero_iff, r.length]
section
variable {X : Cx} {b : Option Addr} {H0 : Hp} {a c e : Expr} {ga gb ge : GE} {pos p p2 : Pos}
theorem de_addB (A : DE b H0 X a ga) (B : DE b H0 X c gb) : DE b H0 X (.BinOp a .Add c pos) (g2 dAddB ga gb) := by
  refine de_opS (((op_add.or op_add_str).or op_catL).or L2.op_catA) ⟨fun x y k k' i q => ?_, fun O H dx dy x y Q F r1 r2 q => ?_⟩ A B
  · cases x <;> cases y <;> first | exact i _ q | exact ⟨q.1, i _ q.2⟩ | exact q.elim
  · cases dx <;> cases dy <;> first
      | exact q.elim
      | (cases r1.int; cases r2.int; exact .inl (.inl (.inl ⟨_, _, rfl, rfl, q _ H (.refl H) rfl⟩)))
      | (cases r1.str; cases r2.str; exact .inl (.inl (.inr ⟨_, _, rfl, rfl, line_m q.1, q.2 _ H (.refl H) rfl⟩)))
      | (obtain ⟨a1, vs, rfl, n1, h1, s1⟩ := r1.lst
         obtain ⟨a2, us, rfl, n2, h2, s2⟩ := r2.lst
         exact .inl (.inr ⟨a1, a2, vs, us, rfl, rfl, sqL_mono hide_le n1 h1, sqL_mono hide_le n2 h2, by rw [← s1.length, ← s2.length]; exact line_m q.1, fun p hp => q.2 _ _ (.new hp) (rep_newL F hp (s1.append s2))⟩))
      | (obtain ⟨a1, vs, rfl, n1, h1, s1⟩ := r1.tup
         obtain ⟨a2, us, rfl, n2, h2, s2⟩ := r2.tup
         refine .inr ⟨a1, a2, vs, us, rfl, rfl, sqT_mono hide_le n1 h1, sqT_mono hide_le n2 h2, by rw [← s1.length, ← s2.length]; exact line_m q.1, fun e => ?_, fun e e2 => ?_, fun e e2 p hp => q.2 _ _ (.new hp) (rep_newT F hp (s1.append s2))⟩
         · have := (reps_nil_iff s1).mp e
           subst this
           exact q.2 _ _ (.refl H) (Rep.mkTup n2 h2 s2)
         · have := (reps_nil_iff s2).mp e2
           subst this
           refine q.2 _ _ (.refl H) ?_
           rw [List.append_nil]
           exact Rep.mkTup n1 h1 s1)
/-! ### * -/
def dMulA : D → D → (D → Prop) → Prop := fun x y k => match x, y with
  | .int i, .int j => MulOk i j ∧ k (.int (i * j))
  | .str z, .int n => (0 ≤ n ∧ n ≤ 1000 ∧ z.length ≤ 1000) ∧ k (.str (Txt.mul z n))
  | _, _ => False
theorem mulS_ok {x : Str} {n : Int} (h0 : 0 ≤ n) (h1 : n ≤ 1000) (h2 : x.length ≤ 1000) : PySem.MulOk x n := by
  refine ⟨by simp; omega, fun hn _ => ?_, fun hn _ => ?_⟩
  · have hz : (x.length : Int) ≤ 1000 := by omega
    have : (1000 : Int) ≤ (2 ^ 63 - 1) / n := by
      rw [Int.le_ediv_iff_mul_le (by omega)]
      have : 1000 * n ≤ 1000 * 1000 := Int.mul_le_mul_of_nonneg_left h1 (by decide)
      have e : (1000 * 1000 : Int) ≤ 2 ^ 63 - 1 := by decide
      omega
    omega
  · unfold Builtin.Str.tooLong
    have : x.length * n.toNat ≤ 1000 * 1000 := Nat.mul_le_mul h2 (by omega)
    have e : (1000 * 1000 : Nat) ≤ sizeLine := by decide
    simp only [gt_iff_lt, decide_eq_false_iff_not]
    omega
def rMulS : R2 := fun x y H Q => ∃ z n, x = .str z ∧ y = .int n ∧ PySem.MulOk z n ∧ Q (.str (Txt.mul z n)) H
theorem op_mulS : OpR X (binaryOp .Mult) rMulS := by
  intro pins s σ H x y v u Q I rx ry h
  obtain ⟨z, n, rfl, rfl, hok, q⟩ := h
  obtain ⟨t, rfl⟩ : ∃ t, v = Value.str z t := rx
  obtain ⟨t', rfl⟩ : ∃ t, u = Value.int n t := ry
  exact SB.mul hok fun t' k => ⟨.str _, H, I.tok k, ⟨t', rfl⟩, q⟩
theorem de_mulA (A : DT b H0 X a ga) (B : DT b H0 X c gb) : DE b H0 X (.BinOp a .Mult c pos) (g2 dMulA ga gb) := by
  refine de_op (op_mulOk.or op_mulS) ⟨fun x y k k' i q => ?_, fun O H dx dy x y Q F r1 r2 q => ?_⟩ A B
  · cases x <;> cases y <;> first | exact ⟨q.1, i _ q.2⟩ | exact q.elim
  · cases dx <;> cases dy <;> first
      | exact q.elim
      | (cases r1.int; cases r2.int; exact .inl ⟨_, _, rfl, rfl, q.1, q.2 _ H (.refl H) rfl⟩)
      | (cases r1.str; cases r2.int; exact .inr ⟨_, _, rfl, rfl, mulS_ok q.1.1 q.1.2.1 q.1.2.2, q.2 _ H (.refl H) rfl⟩)
/-! ### slices, the whole too -/
def cutD (ds : List D) (lo hi : Option Int) : List D := (ds.drop (HT.sIx ds.length 0 lo)).take (HT.sIx ds.length ds.length hi - HT.sIx ds.length 0 lo)
def gSlA (ge : GE) (gl gh : StD → (Option Int → Prop) → Prop) : GE := fun σ k => ge σ fun d => gl σ fun lo => gh σ fun hi => match d with
  | .str z => z.length ≤ 1000000 ∧ k (.str (cutS z lo hi))
  | .lst ds => k (.lst (cutD ds lo hi))
  | .tup ds => k (.tup (cutD ds lo hi))
  | _ => False
/-! ### constants of classes -/
def cintB (K : Fg) (c f : Str) (i : Int) : Bool := PySem.W.readsIn K (He.ga K c) (.type "type") && (match PySem.W.findCls K (.ref (He.ga K c)) (.type "type") f with
  | some (.val (.int j _)) => decide (j = i)
  | _ => false)
theorem readsGa {K : Fg} {C : Addr} (h : PySem.W.readsIn K C (.type "type") = true) : PySem.W.specialIn K (.ref C) "__getattribute__" = some (some (.builtin "type.__getattribute__")) := by
  unfold PySem.W.readsIn at h
  simp only [Bool.and_eq_true, beq_iff_eq] at h
  obtain ⟨⟨⟨⟨_, h2⟩, h3⟩, _⟩, _⟩ := h
  unfold PySem.W.specialIn
  rw [h2, Option.bind_some]
  exact h3
structure ClsInt (K : Fg) (c f : Str) (i : Int) : Prop where
  rd : ClX.CRead K (He.ga K c) (.type "type")
  vl : ∃ u, ClX.CVal K (He.ga K c) (.type "type") f (.int i) u
theorem cintB_ok {K : Fg} {c f : Str} {i : Int} (h : cintB K c f i = true) : ClsInt K c f i := by
  unfold cintB at h
  rw [Bool.and_eq_true] at h
  obtain ⟨h1, h2⟩ := h
  refine ⟨⟨h1, readsGa h1⟩, ?_⟩
  split at h2
  · rename_i j t e
    exact ⟨_, e, ⟨t, by rw [of_decide_eq_true h2]⟩⟩
  · cases h2
theorem de_cint {c f : Str} {i : Int} (k : ClsInt X.K c f i) (hg : Gl X c) (hm : X.mg c = some (.ref (He.ga X.K c))) (hd : (c == ("__debug__" : Str)) = false := by decide) (hb : attributeBase (.Name c p) f X.env (eval (.Name c p) X.env) = eval (.Name c p) X.env := by rfl) : DE b H0 X (.Attribute (.Name c p) f pos) (gC (.int i)) := by
  obtain ⟨u, vl⟩ := k.vl
  exact ⟨pe_imp (ClX.pe_cval (pe_glob (v := .ref (He.ga X.K c)) hg hm rfl hd) hb) fun σ H Q ⟨σd, O, R, q⟩ => ⟨_, _, _, u, rfl, k.rd, vl, q (.int i) H (.refl H) rfl⟩, fun σ k k' h q => h _ q⟩
end
end DL
/-! DI4 -/
set_option Elab.async false
set_option linter.all false
set_option maxRecDepth 100000
set_option maxHeartbeats 4000000
/-! Binding of a call's values, by its shape; what is asked of own operators, as tests. -/
namespace DL
open PySem PySem.Spec PyProof.Rows L2
variable [TabC]
/-- n values, then keywords ks: bound to the parameters ps by ix, over the values, the keywords' values and the defaults -/
def Bnds (K : Fg) (fd : FuncData) (ps : List Str) (n : Nat) (ks : List Str) (ix : List Nat) (dus : List Value) : Prop :=
  ∀ (s : Shared) (us kus : List Value), K.In s.heap → us.length = n → kus.length = ks.length → BindsTo s fd ⟨us, ks.zip kus⟩ (ps.zip (pick ix (us ++ kus ++ dus)))
section
variable {P : Program} {w : World} {K : Fg} {mg : Str → Option Value} {base : Heap} {x qual : Str} {params : Arguments} {body : List Stmt} {scope : Scope} {dvs : List V} {kws : List (Str × V)} {f : Addr} {fd : FuncData} {ps : List Str}
theorem bnd10 (F : FunD K x qual params body scope dvs kws f fd) (n : Nat) (ks : List Str) (ix : List Nat) (hd : dvs ≠ [])
    (h : ∀ (T : Addr) (kV doc pm : Value) (an : Option Addr) (cdv ct : Value) (us its ws : List Value), us.length = n → its.length = dvs.length → ws.length = ks.length →
      ∃ k, bindArgs (PySem.W.fnOf x qual params body scope (.ref T) kV doc pm an cdv ct) ⟨us, ks.zip ws⟩ = seqItems? (.ref T) >>= k ∧ k (some its.toArray) = pure (ps.zip (pick ix (us ++ ws ++ its)))) :
    ∃ dus, Vals dvs dus ∧ Bnds K fd ps n ks ix dus := by
  obtain ⟨oc, od, dV, kV, doc, pm, an, cdv, ct, osl, rfl, lk, hcd, hD, hK⟩ := F.ex
  rcases hD with ⟨e, _⟩ | ⟨_, T, o, its, m, rfl, lT, oT, rT⟩
  · exact absurd e hd
  · refine ⟨its, rT, fun s us ws X l1 l2 => ?_⟩
    obtain ⟨k, e1, e2⟩ := h T kV doc pm an cdv ct us its ws l1 rT.length.symm l2
    refine BindsTo.of_looks fun M => ?_
    rw [e1]
    exact looks_items X lT oT (.of_pure e2)
theorem FnOk.cb {s : GS} {k : Nat} {dd : List D} {dvs : List V} {n : Nat} {ks : List Str} {ix : List Nat} (F : FnOk P w K mg base (L2.CX P w) k f fd ps (lift K s)) (hdd : ∀ b H, Reps K b H dd dvs) (hb : ∃ dus, Vals dvs dus ∧ Bnds K fd ps n ks ix dus) : FnC P w K mg base k f ks (lift K (shp (n + ks.length) ix dd s)) := by
  obtain ⟨dus, hd, hb⟩ := hb
  exact FnOk.cs F n ks ix hd hdd hb
theorem FnOk.cbI {s : GSI} {k : Nat} {dd : List D} {dvs : List V} {n : Nat} {ks : List Str} {ix : List Nat} (F : FnOk P w K mg base (L2.CX P w) k f fd ps (liftI K s)) (hdd : ∀ b H, Reps K b H dd dvs) (hb : ∃ dus, Vals dvs dus ∧ Bnds K fd ps (n + 1) ks (0 :: ix.map (· + 1)) dus) : FnC P w K mg base k f ks (liftI K (shpI (n + ks.length) ix dd s)) := by
  obtain ⟨dus, hd, hb⟩ := hb
  exact FnOk.cI F n ks ix hd hdd hb
/-- all parameters by position -/
theorem FnOk.c0 {sp : Sp} {k : Nat} (F : FnOk P w K mg base (L2.CX P w) k f fd ps sp) (hb : Binds K fd ps []) : FnC P w K mg base k f [] sp := fun A outer s H us kus vs Q E hr e0 hk r h => by
  have : kus = [] := List.length_eq_zero_iff.mp hk
  subst this
  rw [List.append_nil] at r
  have hl : us.length = ps.length := by rw [← r.length]; exact F.len _ _ _ _ h
  have := hb s us (e0.mod.kin.keeps fun b o e => (e0.bs b o e).1) (by simpa using hl)
  exact F.run A outer s H ⟨us, []⟩ us vs Q E hr e0 (by simpa using this) r h
end
/-! ### own operators, by a test -/
def isRefO (o : Option Value) : Bool := match o with
  | none => true
  | some (.ref _) => true
  | _ => false
def ownB2 (K : Fg) (C : Addr) (op : Operator) (f : Addr) : Bool :=
  decide (PySem.W.findIn K (.ref C) (PySem.dunder op.info.2) = some (some (.ref f))) && (PySem.W.isFn K (.ref f) && (PySem.W.selfFirst K C && ((match PySem.W.findIn K (.ref C) (PySem.dunderR op.info.2) with | some rc => isRefO rc | none => false) &&
    ((PySem.W.findIn K (.type "int") (PySem.dunder op.info.2)).isSome && ((PySem.W.findIn K (.type "int") (PySem.dunderR op.info.2)).isSome && decide (PySem.W.subIn K (.type "int") (.ref C) = some false))))))
theorem ownB2_ok {K : Fg} {C : Addr} {op : Operator} {f : Addr} (h : ownB2 K C op f = true) : OwnB K C op f := by
  unfold ownB2 at h
  simp only [Bool.and_eq_true, decide_eq_true_eq] at h
  obtain ⟨h1, h2, h3, h4, h5, h6, h7⟩ := h
  refine ⟨h1, h2, h3, ?_, ?_, h7⟩
  · split at h4
    · rename_i rc e
      refine ⟨rc, e, ?_⟩
      cases rc with
      | none => exact .inl rfl
      | some v =>
        cases v with
        | ref g => exact .inr ⟨g, rfl⟩
        | _ => cases h4
    · cases h4
  · obtain ⟨a, ha⟩ := Option.isSome_iff_exists.mp h5
    obtain ⟨c, hc⟩ := Option.isSome_iff_exists.mp h6
    exact ⟨a, c, ha, hc⟩
def ownB1 (K : Fg) (C : Addr) (m : Str) (f : Addr) : Bool := decide (PySem.W.findIn K (.ref C) m = some (some (.ref f))) && PySem.W.isFn K (.ref f)
theorem ownB1_ok {K : Fg} {C : Addr} {m : Str} {f : Addr} (h : ownB1 K C m f = true) : Own K C m f := by
  unfold ownB1 at h
  simp only [Bool.and_eq_true, decide_eq_true_eq] at h
  exact ⟨h.1, h.2⟩
/-- != by the own __eq__ -/
def ownNeB (K : Fg) (C : Addr) : Bool := decide (PySem.W.findIn K (.ref C) "__ne__" = some (some (.builtin "object.__ne__"))) && decide (PySem.W.subIn K (.ref C) (.type "object") = some true)
theorem ownNeB_ok {K : Fg} {C : Addr} (h : ownNeB K C = true) : PySem.W.findIn K (.ref C) "__ne__" = some (some (.builtin "object.__ne__")) ∧ PySem.W.subIn K (.ref C) (.type "object") = some true := by
  unfold ownNeB at h
  simp only [Bool.and_eq_true, decide_eq_true_eq] at h
  exact h
end DL
namespace DL
open PySem PySem.Spec PyProof.Rows L2
end DL
/-! DJ1 -/
set_option Elab.async false
set_option linter.all false
set_option maxRecDepth 100000
set_option maxHeartbeats 4000000
/-! Lists that the frame owns: made, appended to, given away. -/
namespace DL
open PySem PySem.Spec PyProof.Rows L2
variable [TabC]
theorem hide_freshO {O : List Addr} {H : Hp} {p : Addr} (h : H p = none) : DL.hide (p :: O) H = DL.hide O H := by
  funext c
  by_cases e : c = p
  · subst e
    rw [hide_in List.mem_cons_self]
    unfold DL.hide
    split
    · rfl
    · exact h.symm
  · by_cases m : c ∈ O
    · rw [hide_in (List.mem_cons_of_mem _ m), hide_in m]
    · rw [hide_out m, hide_out (fun z => by rcases List.mem_cons.mp z with z | z; exact e z; exact m z)]
theorem hide_newO {O : List Addr} {H : Hp} {p : Addr} {o : HO} (h : H p = none) : DL.hide (p :: O) (upd H p o) = DL.hide O H := by
  rw [hide_upd List.mem_cons_self, hide_freshO h]
section
variable {K : Fg} {b : Option Addr} {H0 H : Hp} {σd : StD} {σ : L2.St} {O : List Addr}
theorem owns_in {s : SD} {v : Option V} {a : Addr} (h : Owns s v a) (q : SlotOk K b O H s v) : a ∈ O := by
  cases s with
  | own ds =>
    obtain ⟨c, vs, rfl, m, _⟩ := q
    have h : a = c := h
    rw [h]; exact m
  | gho c ds =>
    obtain ⟨vs, m, _⟩ := q
    have h : a = c := h
    rw [h]; exact m
  | owd kx ds =>
    obtain ⟨c, vs, rfl, m, _⟩ := q
    have h : a = c := h
    rw [h]; exact m
  | ott kx ds =>
    obtain ⟨c, vs, rfl, m, _⟩ := q
    have h : a = c := h
    rw [h]; exact m
  | obj c dx n ns ds =>
    obtain ⟨vs, rfl, m, _⟩ := q
    have h : a = c := h
    rw [h]; exact m
  | _ => cases v <;> exact h.elim
/-- the list of the slot i is written -/
theorem Rst.wrO (R : Rst K b H0 σd σ H O) {ds es : List D} {vs us : List V} {a : Addr} {i : Nat} (hi : look σd i = .own ds) (hs : σ.getD i none = some (.ref a)) (ha : H a = some (.lst vs)) (hm : a ∈ O) (r : Reps K b (hide O H) es us) : Rst K b H0 (put σd i (.own es)) σ (upd H a (.lst us)) O where
  len := by rw [put_length]; exact R.len
  slot := fun j => by
    rw [look_put2]
    by_cases h : j = i ∧ i < σd.length
    · rw [if_pos h, h.1, hs]
      exact ⟨a, us, rfl, hm, upd_same, by rw [hide_upd hm]; exact r⟩
    · rw [if_neg h]
      have s := R.slot j
      have oi : Owns (look σd i) (σ.getD i none) a := by rw [hi, hs]; exact rfl
      have li : i < σd.length := by
        rcases Nat.lt_or_ge i σd.length with z | z
        · exact z
        · rw [look_out z] at hi; cases hi
      have ne : ∀ c, Owns (look σd j) (σ.getD j none) c → c ≠ a := fun c z w => h ⟨R.uniq j i a (by rw [← w]; exact z) oi, li⟩
      cases e : look σd j with
      | unset => trivial
      | sh d =>
        rw [e] at s
        obtain ⟨v, e1, r1⟩ := s
        exact ⟨v, e1, by rw [hide_upd hm]; exact r1⟩
      | own fs =>
        rw [e] at s
        obtain ⟨c, ws, e1, m, h1, r1⟩ := s
        exact ⟨c, ws, e1, m, by rw [upd_ne (ne c (by rw [e, e1]; exact rfl))]; exact h1, by rw [hide_upd hm]; exact r1⟩
      | gho c fs =>
        rw [e] at s
        obtain ⟨ws, m, h1, r1⟩ := s
        exact ⟨ws, m, by rw [upd_ne (ne c (by rw [e]; exact rfl))]; exact h1, by rw [hide_upd hm]; exact r1⟩
      | owd kx fs =>
        rw [e] at s
        obtain ⟨c, ws, e1, m, h1, r1⟩ := s
        exact ⟨c, ws, e1, m, by rw [upd_ne (ne c (by rw [e, e1]; exact rfl))]; exact h1, by rw [hide_upd hm]; exact r1⟩
      | ott kx fs =>
        rw [e] at s
        obtain ⟨c, ws, e1, m, h1, r1⟩ := s
        exact ⟨c, ws, e1, m, by rw [upd_ne (ne c (by rw [e, e1]; exact rfl))]; exact h1, by rw [hide_upd hm]; exact r1⟩
      | obj c dx n ns fs =>
        rw [e] at s
        obtain ⟨ws, e1, m, md, h1, h2, l, r1⟩ := s
        exact ⟨ws, e1, m, md, by rw [upd_ne (ne_of h1 ha (by simp))]; exact h1, by rw [upd_ne (ne_of h2 ha (by simp))]; exact h2, l, by rw [hide_upd hm]; exact r1⟩
  uniq := fun j k c h1 h2 => by
    have key : ∀ {j}, Owns (look (put σd i (.own es)) j) (σ.getD j none) c → Owns (look σd j) (σ.getD j none) c := fun {j} z => by
      rw [look_put2] at z
      by_cases h : j = i ∧ i < σd.length
      · rw [if_pos h] at z
        rw [h.1, hs] at z
        rw [h.1, hi, hs]; exact z
      · rw [if_neg h] at z; exact z
    exact R.uniq j k c (key h1) (key h2)
  nb := fun c m => by
    obtain ⟨n1, _, o, e, q⟩ := R.nb c m
    by_cases hc : c = a
    · subst hc
      exact ⟨n1, trivial, .lst us, upd_same, trivial⟩
    · refine ⟨n1, trivial, o, by rw [upd_ne hc]; exact e, ?_⟩
      cases o with
      | lst _ => trivial
      | dK _ => trivial
      | dT _ => trivial
      | ins _ dx _ => exact q
      | own x =>
        obtain ⟨q1, C, fs, q2⟩ := q
        exact ⟨q1, C, fs, by rw [upd_ne (ne_of q2 ha (by simp))]; exact q2⟩
      | _ => exact q.elim
  le := by rw [hide_upd hm]; exact R.le
  bg := by rw [hide_upd hm]; exact R.bg
/-- the list of the slot i is given away -/
theorem Rst.pub (R : Rst K b H0 σd σ H O) (hd : ∀ c C dx fs, H c = some (.ins C dx fs) → H dx = some (.own c)) {ds : List D} {i : Nat} (hi : look σd i = .own ds) : ∃ O', Rst K b H0 (put σd i (.sh (.lst ds))) σ H O' ∧ Ext b (hide O H) (hide O' H) := by
  have s := R.slot i
  rw [hi] at s
  obtain ⟨a, vs, hs, hm, ha, r⟩ := s
  have sub : ∀ c ∈ O.filter (fun c => c ≠ a), c ∈ O := fun c m => (List.mem_filter.mp m).1
  have mem : ∀ {c}, c ∈ O → c ≠ a → c ∈ O.filter (fun c => c ≠ a) := fun m n => List.mem_filter.mpr ⟨m, decide_eq_true n⟩
  have xx : Ext b (hide O H) (hide (O.filter (fun c => c ≠ a)) H) := .all fun c o e => by
    obtain ⟨h1, h2⟩ := of_hide e
    rw [hide_out (fun z => h1 (sub c z))]; exact h2
  have li : i < σd.length := by
    rcases Nat.lt_or_ge i σd.length with z | z
    · exact z
    · rw [look_out z] at hi; cases hi
  have oi : Owns (look σd i) (σ.getD i none) a := by rw [hi, hs]; exact rfl
  refine ⟨O.filter (fun c => c ≠ a), ⟨by rw [put_length]; exact R.len, fun j => ?_, fun j k c h1 h2 => ?_, fun c m => ?_, R.le.trans xx, R.bg.ext xx⟩, xx⟩
  · rw [look_put2]
    by_cases h : j = i ∧ i < σd.length
    · rw [if_pos h, h.1]
      refine ⟨.ref a, hs, Rep.mkLst (R.nb a hm).1 (.inl (.inl ?_)) (r.mono xx.1)⟩
      rw [hide_out (fun z => by simpa using (List.mem_filter.mp z).2)]; exact ha
    · rw [if_neg h]
      have s := R.slot j
      have ne : ∀ c, Owns (look σd j) (σ.getD j none) c → c ≠ a := fun c z w => h ⟨R.uniq j i a (by rw [← w]; exact z) oi, li⟩
      cases e : look σd j with
      | unset => trivial
      | sh d =>
        rw [e] at s
        obtain ⟨v, e1, r1⟩ := s
        exact ⟨v, e1, r1.mono xx.1⟩
      | own fs =>
        rw [e] at s
        obtain ⟨c, ws, e1, m, h1, r1⟩ := s
        exact ⟨c, ws, e1, mem m (ne c (by rw [e, e1]; exact rfl)), h1, r1.mono xx.1⟩
      | gho c fs =>
        rw [e] at s
        obtain ⟨ws, m, h1, r1⟩ := s
        exact ⟨ws, mem m (ne c (by rw [e]; exact rfl)), h1, r1.mono xx.1⟩
      | owd kx fs =>
        rw [e] at s
        obtain ⟨c, ws, e1, m, h1, r1⟩ := s
        exact ⟨c, ws, e1, mem m (ne c (by rw [e, e1]; exact rfl)), h1, r1.mono xx.1⟩
      | ott kx fs =>
        rw [e] at s
        obtain ⟨c, ws, e1, m, h1, r1⟩ := s
        exact ⟨c, ws, e1, mem m (ne c (by rw [e, e1]; exact rfl)), h1, r1.mono xx.1⟩
      | obj c dx n ns fs =>
        rw [e] at s
        obtain ⟨ws, e1, m, md, h1, h2, l, r1⟩ := s
        exact ⟨ws, e1, mem m (ne_of h1 ha (by simp)), mem md (ne_of h2 ha (by simp)), h1, h2, l, r1.mono xx.1⟩
  · have key : ∀ {j}, Owns (look (put σd i (.sh (.lst ds))) j) (σ.getD j none) c → Owns (look σd j) (σ.getD j none) c := fun {j} z => by
      rw [look_put2] at z
      by_cases h : j = i ∧ i < σd.length
      · rw [if_pos h] at z
        cases e : σ.getD j none <;> rw [e] at z <;> exact z.elim
      · rw [if_neg h] at z; exact z
    exact R.uniq j k c (key h1) (key h2)
  · have mo := sub c m
    obtain ⟨n1, _, o, e, q⟩ := R.nb c mo
    refine ⟨n1, trivial, o, e, ?_⟩
    cases o with
    | lst _ => trivial
    | dK _ => trivial
    | dT _ => trivial
    | ins C dx fs =>
      have q : dx ∈ O := q
      exact mem q (ne_of (hd _ _ _ _ e) ha (by simp))
    | own x =>
      obtain ⟨q1, C, fs, q2⟩ := q
      exact ⟨mem q1 (ne_of q2 ha (by simp)), C, fs, q2⟩
    | _ => exact q.elim
end
section
variable {X : Cx} {b : Option Addr} {H0 : Hp} {pos pos' : Pos} {e : Expr} {es : List Expr} {ge : GE} {ga : GA} {x : Str} {i : Nat} {sts : List Stmt} {g : GSt}
/-- x = [..], the list the frame's own -/
def gAsgO (i : Nat) (ga : GA) : GSt := fun D σ => ga σ fun ds => ds.length ≤ 1000 ∧ D.nx (put σ i (.own ds))
/-- x.append(e) -/
def gPsh (i : Nat) (ge : GE) : GSt := fun D σ => match look σ i with | .own ds => ge σ fun d => ds.length < 100000 ∧ D.nx (put σ i (.own (ds ++ [d]))) | _ => False
theorem gPsh_mn (A : Mn ge) : MnD (gPsh i ge) := fun D D' σ h1 _ _ _ q => by
  unfold gPsh at q ⊢
  cases e : look σ i <;> rw [e] at q <;> first | exact A _ _ _ (fun d z => ⟨z.1, h1 _ z.2⟩) q | exact q.elim
theorem ds_app {apos cpos p : Pos} (hN : X.N[i]? = some x) (hv : Vis X.env.scope x) (A : DE b H0 X e ge) (hs : swapsWith (.Call (.Attribute (.Name x p) "append" apos) [e] [] cpos) none pos.line X.env = pure false := by rfl)
    (hfew : ((backTo cpos (starEach [e] X.env)).all (fun x => !x.1) && (backToKw cpos (keywordEach [] X.env)).all (fun x => x.1.isSome) && decide ([e].length + ([] : List Keyword).length + (if ([] : List Keyword).isEmpty then 0 else 1) < 30)) = true := by rfl)
    (hbase : attributeBase (.Name x p) "append" X.env (eval (.Name x p) X.env) = eval (.Name x p) X.env := by rfl) (hplain : (backTo cpos (starEach [] X.env)).any (·.1) = false := by rfl)
    (hline : (apos.endLine == cpos.line) = true := by rfl) (hst : starEach [e] X.env = (false, eval e X.env) :: starEach [] X.env := by rfl) (hd : (x == ("__debug__" : Str)) = false := by decide) (hcd : (x == ("__classdict__" : Str)) = false := by decide) :
    DS b H0 X (.Expr (.Call (.Attribute (.Name x p) "append" apos) [e] [] cpos) pos) (gPsh i ge) :=
  ⟨ps_imp (ps_expr (pe_bm PySem.F.plainAttrs_list PySem.F.slot_list_append PySem.F.type_list_append mt_append (pe_var hN hv hd hcd) (pa_cons A.pe pa_nil hst) hbase hfew hline hst hplain) hs) fun D σ H ⟨σd, O, R, q⟩ => by
    unfold gPsh at q
    cases hl : look σd i with
    | own ds =>
      rw [hl] at q
      have s := R.slot i
      rw [hl] at s
      obtain ⟨a, vs, e1, m, h1, _⟩ := s
      refine ⟨.ref a, getD_some e1, .inl ⟨rfl, vs, .inl (.inl h1)⟩, σd, O, R, A.mn _ _ _ (fun d z v H1 x1 r => ?_) q⟩
      have R1 := R.mono x1
      have s := R1.slot i
      rw [hl, e1] at s
      obtain ⟨a', vs', e2, m', h1', r'⟩ := s
      cases e2
      refine ⟨a, vs', v, rfl, rfl, h1', ?_, ?_⟩
      · rw [← r'.length]; exact Nat.lt_of_lt_of_le z.1 (by decide)
      · exact z.2 _ _ _ (R1.wrO hl e1 h1' m (r'.append (Reps.cons r Reps.nil))) (by rw [hide_upd m]; exact R.hx x1)
    | _ => rw [hl] at q; exact q.elim, gPsh_mn A.mn⟩
/-- from here on the list of the slot i is shared -/
def pubD (i : Nat) (σ : StD) : StD := match look σ i with | .own ds => put σ i (.sh (.lst ds)) | _ => σ
def gPub (i : Nat) (g : GSt) : GSt := fun D σ => g D (pubD i σ)
theorem gPub_mn (A : MnD g) : MnD (gPub i g) := fun D D' σ h1 h2 h3 h4 q => A _ _ _ h1 h2 h3 h4 q
end
end DL
/-! DJ2 -/
set_option Elab.async false
set_option linter.all false
set_option maxRecDepth 100000
set_option maxHeartbeats 4000000
/-! Lambdas as data; a lambda called from a frame above the one that made it. -/
namespace DL
open PySem PySem.Spec PyProof.Rows L2
/-! ### called -/
end DL
/-! DJ3 -/
set_option Elab.async false
set_option linter.all false
set_option maxRecDepth 100000
set_option maxHeartbeats 4000000
/-! _law_whys: each lambda of a list is asked. -/
namespace DL
open PySem PySem.Spec PyProof.Rows L2
variable [TabC]
def gAns (i : Nat) (A : LamO → (Str → D → Prop) → Prop) : GE := fun σ k => match look σ i with | .sh (.clo o) => A o fun c y => k (.tup [.str c, y]) | _ => False
end DL
/-! DF8 -/
set_option Elab.async false
set_option linter.all false
set_option maxRecDepth 100000
set_option maxHeartbeats 4000000
/-! Reading what a derivation says. -/
namespace DL
open PySem PySem.Spec PyProof.Rows L2
end DL
namespace DL
open PySem PySem.Spec PyProof.Rows L2
def blkB (N : List Str) (sc scope : Scope) (own : List (Str × Nat)) : Bool :=
  decide (scope.kind = .function) && ((scope.names.all fun y => decide (scope.names.lookup y.1 = some y.2)) && ((own.all fun p => decide (N[p.2]? = some p.1)) && ((scope.names.all fun y => !decide (y.2 = .free) || (decide (sc.names.lookup y.1 = some .cell) || decide (sc.names.lookup y.1 = some .free))) &&
    scope.names.all fun y => !(decide (y.2 = .local) || decide (y.2 = .cell)) || (decide (y.1 ∈ own.map (·.1)) || decide (y.1 ∉ N)))))
theorem blk_ok {N : List Str} {sc scope : Scope} {own : List (Str × Nat)} (h : blkB N sc scope own = true) : BlkOk N sc scope own := by
  unfold blkB at h
  simp only [Bool.and_eq_true, Bool.or_eq_true, Bool.not_eq_true', decide_eq_true_eq, decide_eq_false_iff_not, List.all_eq_true, Bool.or_eq_false_iff] at h
  obtain ⟨h1, h2, h3, h4, h5⟩ := h
  refine ⟨h1, h2, h3, fun y hy e => ?_, fun y hy e => ?_⟩
  · rcases h4 y hy with z | z
    · exact absurd e z
    · exact z
  · rcases h5 y hy with z | z
    · rcases e with e | e
      · exact absurd e z.1
      · exact absurd e z.2
    · exact z
end DL
/-! DG1 -/
set_option Elab.async false
set_option linter.all false
set_option maxRecDepth 100000
set_option maxHeartbeats 4000000
/-! Plain facts that the laws share: comprehensions, what the laws' helpers promise. -/
namespace DL
open PySem PySem.Spec PyProof.Rows L2
variable [TabC]
/-! ### comprehensions without tests -/
inductive Fa2 (P : D → D → Prop) : List D → List D → Prop
  | nil : Fa2 P [] []
  | cons {x y : D} {xs ys : List D} (h : P x y) (r : Fa2 P xs ys) : Fa2 P (x :: xs) (y :: ys)
theorem lcD_rel {t : Tgt} {ge : GE} {σ : StD} (P : D → D → Prop) : ∀ (ds acc : List D) (k : D → Prop), (∀ d ∈ ds, ∀ kk : D → Prop, (∀ y, P d y → kk y) → asg t d σ fun σ2 => ge σ2 kk) → acc.length + ds.length ≤ 1000000 → (∀ ys, Fa2 P ds ys → k (.lst (acc ++ ys))) → lcD t gYes ge σ ds acc k
  | [], acc, k, _, _, hk => by
    have := hk [] .nil
    simp only [List.append_nil] at this
    exact this
  | d :: r, acc, k, h, hl, hk => by
    refine asg_mn _ _ _ _ _ (fun s z => z) (h d List.mem_cons_self (fun y => acc.length < 1000000 ∧ lcD t gYes ge σ r (acc ++ [y]) k) fun y hy => ⟨?_, ?_⟩)
    · simp only [List.length_cons] at hl; omega
    · refine lcD_rel P r (acc ++ [y]) k (fun d' hd' => h d' (List.mem_cons_of_mem _ hd')) (by simp only [List.length_cons, List.length_append, List.length_nil] at hl ⊢; omega) fun ys hys => ?_
      have := hk (y :: ys) (.cons hy hys)
      simpa using this
theorem lcD_mapL {α : Type} {t : Tgt} {ge : GE} {σ : StD} (g f : α → D) {l : List α} {acc : List D} {k : D → Prop} (h : ∀ x ∈ l, ∀ kk : D → Prop, kk (f x) → asg t (g x) σ fun σ2 => ge σ2 kk) (hl : acc.length + l.length ≤ 1000000) (hk : k (.lst (acc ++ l.map f))) : lcD t gYes ge σ (l.map g) acc k := by
  induction l generalizing acc with
  | nil =>
    simp only [List.map_nil, List.append_nil] at hk
    exact hk
  | cons d r ih =>
    refine asg_mn _ _ _ _ _ (fun s z => z) (h d List.mem_cons_self (fun y => acc.length < 1000000 ∧ lcD t gYes ge σ (r.map g) (acc ++ [y]) k) ⟨?_, ?_⟩)
    · simp only [List.length_cons] at hl; omega
    · refine ih (fun d' hd' => h d' (List.mem_cons_of_mem _ hd')) (by simp only [List.length_cons, List.length_append, List.length_nil] at hl ⊢; omega) ?_
      simpa using hk
/-! ### ways -/
theorem blsOf_map {α : Type} (f : α → Bool) : ∀ l : List α, blsOf (l.map fun x => D.bl (f x)) = some (l.map f)
  | [] => rfl
  | x :: r => by simp only [List.map_cons, blsOf, blsOf_map f r]; rfl
/-- all(..) over truths -/
theorem dAll_bls {α : Type} {f : α → Bool} {l : List α} {k : D → Prop} (h : k (.bl (l.all f))) : dAll (.lst (l.map fun x => D.bl (f x))) k := by
  simp only [dAll, blsOf_map]
  have e : (l.map f).all id = l.all f := by rw [List.all_map]; rfl
  rw [e]; exact h
/-! ### a thing drawn from many -/
def itemsD : D → List D
  | .lst ds => ds | .tup ds => ds | .str z => signs z | _ => []
def sOf : GS := fun ds k _ => ∃ x, ds = [.bag, x] ∧ itemsD x ≠ [] ∧ (itemsD x).length ≤ 1000000 ∧ ∀ d ∈ itemsD x, k d
theorem sOf_mn : MnS sOf := fun ds k k' e e' h1 _ ⟨x, h, h2, h3, q⟩ => ⟨x, h, h2, h3, fun d hd => h1 _ (q d hd)⟩
theorem atI_of {α : Type} {xs : List α} {d : Int} (h0 : 0 ≤ d) (h1 : d < xs.length) : ∃ x ∈ xs, atI xs d = some x := by
  have hlt : d.toNat < xs.length := by omega
  refine ⟨xs[d.toNat], List.getElem_mem hlt, ?_⟩
  unfold atI ixN
  rw [if_pos h0, if_pos h1]
  show xs[d.toNat]? = _
  exact List.getElem?_eq_getElem hlt
theorem dIx_of {x : D} {d : Int} {k : D → Prop} (hx : (itemsD x).length ≤ 1000000) (h0 : 0 ≤ d) (h1 : d < (itemsD x).length) (q : ∀ y ∈ itemsD x, k y) : dIx x (.int d) k := by
  cases x with
  | lst ds =>
    obtain ⟨y, hy, e⟩ := atI_of (xs := ds) h0 h1
    show match atI ds d with | some d => k d | none => False
    rw [e]; exact q y hy
  | tup ds =>
    obtain ⟨y, hy, e⟩ := atI_of (xs := ds) h0 h1
    show match atI ds d with | some d => k d | none => False
    rw [e]; exact q y hy
  | str z =>
    have el : (itemsD (.str z)).length = z.cps.toList.length := by simp [itemsD, signs]
    rw [el] at h1 hx
    obtain ⟨c, hc, e⟩ := atI_of (xs := z.cps.toList) h0 h1
    show z.length ≤ 1000000 ∧ match atI z.cps.toList d with | some c => k (.str ⟨#[c]⟩) | none => False
    rw [e]
    exact ⟨by simpa [Str.length] using hx, q _ (List.mem_map.mpr ⟨c, hc, rfl⟩)⟩
  | _ => simp [itemsD] at h1; omega
/-! ### the same, told of one thing twice -/
mutual
def goodD : D → Bool
  | .non => true | .bl _ => true | .int _ => true | .str _ => true
  | .tup ds => decide (ds.length ≤ 100000) && goodDs ds
  | .lst ds => decide (ds.length ≤ 100000) && goodDs ds
  | _ => false
def goodDs : List D → Bool
  | [] => true
  | d :: r => goodD d && goodDs r
end
mutual
def dep : D → Nat
  | .tup ds => deps ds + 1
  | .lst ds => deps ds + 1
  | _ => 0
def deps : List D → Nat
  | [] => 0
  | d :: r => max (dep d) (deps r)
end
theorem goodDs_mem : ∀ {ds : List D}, goodDs ds = true → ∀ d ∈ ds, goodD d = true
  | [], _, d, h => by cases h
  | x :: r, g, d, h => by
    simp only [goodDs, Bool.and_eq_true] at g
    rcases List.mem_cons.mp h with rfl | h
    · exact g.1
    · exact goodDs_mem g.2 d h
theorem deps_mem : ∀ {ds : List D}, ∀ d ∈ ds, dep d ≤ deps ds
  | [], d, h => by cases h
  | x :: r, d, h => by
    simp only [deps]
    rcases List.mem_cons.mp h with rfl | h
    · omega
    · have := deps_mem d h; omega
def sSame (n : Nat) : GS := fun ds k _ => ∃ d, ds = [d, d] ∧ goodD d = true ∧ dep d < n ∧ k (.bl true)
theorem sSame_mn (n : Nat) : MnS (sSame n) := fun ds k k' e e' h1 _ ⟨x, h, h2, h3, q⟩ => ⟨x, h, h2, h3, h1 _ q⟩
theorem pairsD_self : ∀ ds : List D, pairsD ds ds = ds.map fun d => .tup [d, d]
  | [] => rfl
  | d :: r => by simp only [pairsD, List.map_cons, pairsD_self r]
/-! ### gcd by the laws' own loop -/
def sGcd : GS := fun ds k _ => ∃ a b : Int, ds = [.int a, .int b] ∧ Sz 4000 a ∧ Sz 4000 b ∧ k (.int (Nat.gcd a.natAbs b.natAbs : Nat))
theorem sGcd_mn : MnS sGcd := fun ds k k' e e' h1 _ ⟨a, b, h, h2, h3, q⟩ => ⟨a, b, h, h2, h3, h1 _ q⟩
theorem gcd_step (l r : Nat) (h : r ≠ 0) : ((l : Int) - (l : Int).fdiv (r : Int) * (r : Int)) = ((l % r : Nat) : Int) := by
  have e : (l : Int).fdiv (r : Int) = ((l / r : Nat) : Int) := by
    rw [Int.fdiv_eq_ediv_of_nonneg _ (by omega)]; rfl
  rw [e]
  have := Nat.div_add_mod l r
  have h2 : ((r * (l / r) + l % r : Nat) : Int) = (l : Int) := by rw [this]
  rw [Int.natCast_add, Int.natCast_mul] at h2
  have h3 : (r : Int) * ((l / r : Nat) : Int) = ((l / r : Nat) : Int) * (r : Int) := Int.mul_comm _ _
  omega
theorem natAbs_if (x : Int) : (if x < 0 then -x else x) = (x.natAbs : Int) := by split <;> omega
end DL
/-! DG2 -/
set_option Elab.async false
set_option linter.all false
set_option maxRecDepth 100000
set_option maxHeartbeats 4000000
/-! The law's def: its code object known; its body run. -/
namespace DL
open PySem PySem.Spec PyProof.Rows L2
variable [TabC]
theorem FunD.okC {P : Program} {w : World} {K : Fg} {mg : Str → Option Value} {base : Heap} {x qual : Str} {params : Arguments} {body : List Stmt} {scope : Scope} {dvs : List V} {kws : List (Str × V)} {f : Addr} {fd : FuncData} {CX : CXT} {N ps : List Str} {k : Nat} {sp : Sp} (F : FunD K x qual params body scope dvs kws f fd) (S : FnScope N ps scope) (len : ∀ vs H Q E, sp vs H Q E → vs.length = ps.length)
    (hbody : ∀ (cdv : Value) (A : Around) (outer : List Env) (s : Shared) (H : Hp) (vs : List V) (Q : VK) (E : XK), cdv = fd.code → Room k (A.deeper (envOfC qual scope s.heap.objs.size f cdv)) → sp vs H Q E →
      ∃ t, PSs (cxOf CX P w K mg base N qual scope f cdv A outer s H E) body t ∧ t { nx := fun _ H' => Q .non H', rt := Q } (L2.start N vs) H) : FnOk P w K mg base CX (k + 1) f fd ps sp := by
  obtain ⟨oc, od, dV, kV, doc, pm, an, cdv, ct, osl, rfl, lk, hcd, _, _⟩ := F.ex
  exact fn_of lk hcd S len fun A outer s H vs Q E hr hsp => hbody cdv A outer s H vs Q E rfl hr hsp
theorem law_run {X : Cx} {st : Stmt} {sts : List Stmt} {g : GSt} {vs : List V} {H : Hp} {Q : VK} {E : XK} {N : List Str} (hst : PS X st (tBagCall X.K)) (hd : ∀ (b : Option Addr) (H0 : Hp), LamX.Tabs TabC.T H0 → DSs b H0 X sts g) (h : spLaw X.K vs H Q E) (hN : 2 ≤ N.length)
    (r : g (fin fun d => d = .bl true) (.unset :: .sh .bag :: List.replicate (N.length - 2) .unset)) : ∃ t, PSs X (st :: sts) t ∧ t { nx := fun _ H' => Q .non H', rt := Q } (L2.start N vs) H := by
  have hT : LamX.Tabs TabC.T H := by
    obtain ⟨_, _, _, _, _, hT, _⟩ := h
    exact hT
  exact ⟨_, pss_cons hst (pss_bagged hd), law_read hN h (hd none H hT).mn r⟩
end DL
namespace DL
open PySem PySem.Spec PyProof.Rows L2
variable [TabC]
theorem forD_inv {t : Tgt} {gb : GSt} {D : EndD} (I : StD → Prop) : ∀ {ds : List DL.D}, (∀ d ∈ ds, ∀ (σ : StD) (D' : EndD), I σ → (∀ σ', I σ' → D'.nx σ') → D'.rt = D.rt → asg t d σ fun σ2 => gb D' σ2) → ∀ σ, I σ → (∀ σ, I σ → D.nx σ) → forD t gb ds D σ
  | [], _, σ, i, e => e σ i
  | d :: r, h, σ, i, e => h d List.mem_cons_self σ _ i (fun σ' i' => forD_inv I (fun d' hd' => h d' (List.mem_cons_of_mem _ hd')) σ' i' e) rfl
end DL
/-! DP1 -/
set_option Elab.async false
set_option linter.all false
set_option maxRecDepth 100000
set_option maxHeartbeats 4000000
/-! Plain lemmas: lists of ints as data. -/
namespace DL
open PySem PySem.Spec PyProof.Rows L2
variable [TabC]
abbrev dints (l : List Int) : List D := l.map D.int
theorem toPys_ints : ∀ l : List Int, toPys (dints l) = some (l.map PyData.int)
  | [] => rfl
  | x :: r => by
    show (match toPy (.int x), toPys (dints r) with | some p, some q => some (p :: q) | _, _ => none) = _
    rw [toPys_ints r]; rfl
theorem canLay_ints : ∀ l : List Int, PyData.canLayAll0 (l.map PyData.int) = true
  | [] => rfl
  | x :: r => by
    show (PyData.canLay0 (.int x) && PyData.canLayAll0 (r.map PyData.int)) = true
    rw [canLay_ints r]; rfl
theorem depth_ints : ∀ l : List Int, PyData.depthAll (l.map PyData.int) = 0
  | [] => rfl
  | x :: r => by
    show max 0 (PyData.depthAll (r.map PyData.int)) = 0
    rw [depth_ints r]; rfl
theorem eqv_ints : ∀ l m : List Int, PyData.eqvAll (l.map PyData.int) (m.map PyData.int) = (l == m)
  | [], [] => rfl
  | [], y :: s => rfl
  | x :: r, [] => rfl
  | x :: r, y :: s => by
    show (PyData.eqv (.int x) (.int y) && PyData.eqvAll (r.map PyData.int) (s.map PyData.int)) = _
    rw [eqv_ints r s]
    show ((x == y) && (r == s)) = _
    rfl
theorem shaped_tints (l : List Int) : SeqAt.shaped (.tuple (l.map PyData.int)) = true := by
  show (PyData.canLayAll0 (l.map PyData.int) && decide (PyData.depthAll (l.map PyData.int) + 1 ≤ 64)) = true
  rw [canLay_ints, depth_ints]; rfl
theorem shaped_lints (l : List Int) : SeqAt.shaped (.list (l.map PyData.int)) = true := by
  show (PyData.canLayAll0 (l.map PyData.int) && decide (PyData.depthAll (l.map PyData.int) + 1 ≤ 64)) = true
  rw [canLay_ints, depth_ints]; rfl
theorem dEqA_tints {l m : List Int} {neg : Bool} {k : D → Prop} (q : k (.bl (if neg then !(l == m) else l == m))) : dEqA neg (.tup (dints l)) (.tup (dints m)) k := by
  show dEq neg _ _ k
  have e1 : toPy (.tup (dints l)) = some (.tuple (l.map PyData.int)) := by simp only [toPy, toPys_ints]; rfl
  have e2 : toPy (.tup (dints m)) = some (.tuple (m.map PyData.int)) := by simp only [toPy, toPys_ints]; rfl
  unfold dEq
  rw [e1, e2]
  refine ⟨shaped_tints _, shaped_tints _, ?_⟩
  have : PyData.eqv (.tuple (l.map PyData.int)) (.tuple (m.map PyData.int)) = (l == m) := eqv_ints l m
  rw [this]; exact q
theorem dEqA_lints {l m : List Int} {neg : Bool} {k : D → Prop} (q : k (.bl (if neg then !(l == m) else l == m))) : dEqA neg (.lst (dints l)) (.lst (dints m)) k := by
  show dEq neg _ _ k
  have e1 : toPy (.lst (dints l)) = some (.list (l.map PyData.int)) := by simp only [toPy, toPys_ints]; rfl
  have e2 : toPy (.lst (dints m)) = some (.list (m.map PyData.int)) := by simp only [toPy, toPys_ints]; rfl
  unfold dEq
  rw [e1, e2]
  refine ⟨shaped_lints _, shaped_lints _, ?_⟩
  have : PyData.eqv (.list (l.map PyData.int)) (.list (m.map PyData.int)) = (l == m) := eqv_ints l m
  rw [this]; exact q
theorem intsOf_map : ∀ l : List Int, intsOf (dints l) = some l
  | [] => rfl
  | x :: r => by
    show (intsOf (dints r)).map (x :: ·) = _
    rw [intsOf_map r]; rfl
theorem dSum_ints {l : List Int} {k : D → Prop} (q : k (.int l.sum)) : dSumI (.lst (dints l)) k := by
  simp only [dSumI, intsOf_map]; exact q
theorem pairs_ints : ∀ l m : List Int, pairsD (dints l) (dints m) = (l.zip m).map fun p => D.tup [.int p.1, .int p.2]
  | [], _ => by cases ‹List Int› <;> rfl
  | x :: r, [] => rfl
  | x :: r, y :: s => by
    show D.tup [.int x, .int y] :: pairsD (dints r) (dints s) = _
    rw [pairs_ints r s]; rfl
/-- small numbers -/
def Sms (n : Nat) (l : List Int) : Prop := ∀ x ∈ l, Sz n x
theorem Sms.cons {n : Nat} {x : Int} {l : List Int} (h : Sz n x) (r : Sms n l) : Sms n (x :: l) := fun y hy => by
  rcases List.mem_cons.mp hy with rfl | hy
  · exact h
  · exact r y hy
theorem Sms.nil {n : Nat} : Sms n [] := fun y hy => by cases hy
theorem Sz.mono {n m : Nat} {x : Int} (h : Sz n x) (hm : n ≤ m) : Sz m x := Nat.lt_of_lt_of_le h (Nat.pow_le_pow_right (by decide) hm)
theorem Sms.mono {n m : Nat} {l : List Int} (h : Sms n l) (hm : n ≤ m) : Sms m l := fun x hx => (h x hx).mono hm
theorem Sz.add {n : Nat} {x y : Int} (h : Sz n x) (g : Sz n y) : Sz (n + 1) (x + y) := by
  unfold Sz at *
  have e : 2 ^ (n + 1) = 2 ^ n + 2 ^ n := by rw [Nat.pow_succ]; omega
  rw [e]; omega
theorem Sz.neg {n : Nat} {x : Int} (h : Sz n x) : Sz n (-x) := by unfold Sz at *; omega
theorem Sz.sub {n : Nat} {x y : Int} (h : Sz n x) (g : Sz n y) : Sz (n + 1) (x - y) := by
  have := h.add g.neg
  rwa [show x + -y = x - y by omega] at this
theorem Sz.mul {n m : Nat} {x y : Int} (h : Sz n x) (g : Sz m y) : Sz (n + m) (x * y) := by
  unfold Sz at *
  rw [Int.natAbs_mul, Nat.pow_add]
  exact Nat.mul_lt_mul'' h g
theorem Sz.of_lt {n : Nat} {x : Int} (h : -(2 ^ n : Int) < x) (g : x < 2 ^ n) : Sz n x := by
  unfold Sz
  have : ((2 ^ n : Nat) : Int) = (2 : Int) ^ n := by rw [Int.natCast_pow]; rfl
  omega
def dotI (a b : List Int) : Int := ((a.zip b).map fun p => p.1 * p.2).sum
theorem Sz.sum {n : Nat} : ∀ {l : List Int}, Sms n l → Sz (n + l.length) l.sum
  | [], _ => by show Sz _ 0; unfold Sz; exact Nat.pow_pos (by decide)
  | x :: r, h => by
    have h1 := h x List.mem_cons_self
    have h2 := Sz.sum (l := r) fun y hy => h y (List.mem_cons_of_mem _ hy)
    rw [List.sum_cons, List.length_cons]
    exact (h1.mono (by omega)).add (n := n + r.length) h2
theorem Sz.dot {n m : Nat} {a b : List Int} (h : Sms n a) (g : Sms m b) : Sz (n + m + a.length) (dotI a b) := by
  unfold dotI
  have h1 : Sms (n + m) ((a.zip b).map fun p => p.1 * p.2) := fun x hx => by
    obtain ⟨p, hp, rfl⟩ := List.mem_map.mp hx
    exact (h p.1 (List.of_mem_zip hp).1).mul (g p.2 (List.of_mem_zip hp).2)
  refine (Sz.sum h1).mono ?_
  rw [List.length_map, List.length_zip]
  omega
theorem dints_len (l : List Int) : (dints l).length = l.length := List.length_map ..
/-- a list or a tuple of ints -/
def seqI : D → Option (List Int)
  | .lst ds => intsOf ds
  | .tup ds => intsOf ds
  | _ => none
theorem ints_of : ∀ {ds : List D} {l : List Int}, intsOf ds = some l → ds = dints l
  | [], l, h => by simp only [intsOf, Option.some.injEq] at h; subst h; rfl
  | d :: r, l, h => by
    cases d with
    | int i =>
      simp only [intsOf] at h
      cases e : intsOf r with
      | none => rw [e] at h; cases h
      | some m => rw [e] at h; cases h; rw [ints_of e]; rfl
    | _ => simp only [intsOf] at h; cases h
end DL
namespace DL
open PySem PySem.Spec PyProof.Rows L2
end DL
namespace DL
open PySem PySem.Spec PyProof.Rows L2
variable [TabC]
theorem fa2_ints {P : Int → Prop} {ds ys : List D} (h : Fa2 (fun _ y => ∃ x, P x ∧ y = .int x) ds ys) : ∃ l, ys = dints l ∧ l.length = ds.length ∧ ∀ x ∈ l, P x := by
  induction h with
  | nil => exact ⟨[], rfl, rfl, fun x hx => by cases hx⟩
  | cons h r ih =>
    obtain ⟨x, hx, rfl⟩ := h
    obtain ⟨l, rfl, h2, h3⟩ := ih
    exact ⟨x :: l, rfl, by simp [h2], fun y hy => by
      rcases List.mem_cons.mp hy with rfl | hy
      · exact hx
      · exact h3 y hy⟩
theorem rng_len {n : Int} (h : 0 ≤ n) : ((rngD 0 n.toNat).length : Int) = n := by rw [rngD_len]; omega
end DL
namespace DL
open PySem PySem.Spec PyProof.Rows L2
variable [TabC]
theorem dEqA_self {i : Int} {k : D → Prop} (q : k (.bl true)) : dEqA false (.int i) (.int i) k := by
  show k (.bl (i == i))
  rw [beq_self_eq_true]; exact q
/-- a written number below 2 ^ 200 divides -/
theorem divW {m : Int} (h : 0 < m) (h2 : decide (m < 2 ^ 200) = true) : DivOk m := DivOk.of (n := 200) (by omega) (by
  have h2 := of_decide_eq_true h2
  unfold Sz
  have : ((2 ^ 200 : Nat) : Int) = (2 : Int) ^ 200 := by rw [Int.natCast_pow]; rfl
  omega) (by decide)
end DL
namespace DL
open PySem PySem.Spec PyProof.Rows L2
/-! ### what an error tells -/
/-! ### cuts -/
/-! ### data of one and two storeys -/
end DL
namespace DL
open PySem PySem.Spec PyProof.Rows L2
end DL
/-! DJ4 -/
set_option Elab.async false
set_option linter.all false
set_option maxRecDepth 100000
set_option maxHeartbeats 4000000
/-! _law_whys(..), as data. -/
namespace DL
open PySem PySem.Spec PyProof.Rows L2
variable [TabC]
def tellO (c : Str) (y : D) : D := if c == "told" then .str "told" else .tup [.str c, y]
def ansL (A : LamO → (Str → D → Prop) → Prop) : List LamO → List D → (D → Prop) → Prop
  | [], acc, k => k (.lst acc)
  | o :: os, acc, k => A o fun c y => ansL A os (acc ++ [tellO c y]) k
/-! ### where a lambda stands -/
end DL
/-! DJ5 -/
set_option Elab.async false
set_option linter.all false
set_option maxRecDepth 100000
set_option maxHeartbeats 4000000
/-! int op own, as data -/
namespace DL
open PySem PySem.W PySem.Calls PyProof.Rows
section
variable {prog : Program} {w : World} {A : Around} {E : Value → Shared → Prop} {s : Shared} {K : Frag} {x C : Addr} {ox : Obj} {od : Option Obj}
theorem add_declines {i : Int} {t : Tok} (hx : s.heap.get? x = some ox) (hp : ox.data = .plain) : wpAny (model prog w) A (Builtin.«int.__add__» ⟨[.int i t, .ref x], []⟩) (fun r s' => r = .done (.ret .notImplemented) ∧ s' = s) E s := by
  obtain ⟨hh, gg, d, tt, os⟩ := s
  wp_walk
  rw [hp]
  wp_walk
  exact ⟨rfl, rfl⟩
theorem addR_K {L f g : Addr} {h₀ : Heap} {m : Str → Option Value} {i : Int} {t : Tok} {Q : Value → Shared → Prop} (F : Fr h₀ L s.heap m) (X₀ : K.In h₀) (I : InstAt s.heap x ox C od) (hx : s.heap.get? x = some ox) (hp : ox.data = .plain) (hc : selfFirst K C = true)
    (hs : findIn K (.ref C) (PySem.dunder Operator.Add.info.2) = some (some (.ref g))) (hr : findIn K (.ref C) (dunderR Operator.Add.info.2) = some (some (.ref f))) (hf : isFn K (.ref f) = true) (hsub : subIn K (.ref C) (.type "int") = some false)
    (h : wpAny (model prog w) A (call (.ref f) [.ref x, .int i t]) (W.CmpBack Q) E s) : wpAny (model prog w) A (binaryOp .Add (.int i t) (.ref x)) Q E s := by
  have hl : wpAny (model prog w) A (tryMethod (.int i t) (PySem.dunder "add") (.ref x)) (fun r s' => r = none ∧ s' = s) E s := by
    have S : Slot "int" (PySem.dunder "add") "int.__add__" := PySem.F.slot_int_add
    have T0 : s.TypeIs (.int i t) "int" := typeIs_int s i t
    have z := @PySem.wpAny_tryMethod_declines (model prog w) A E s (.int i t) (.ref x) "int" (PySem.dunder "add") "int.__add__" (fun r s' => r = none ∧ s' = s) T0 S
    refine z ?_
    have md := add_declines (prog := prog) (w := w) (A := A.in1) (E := E) (i := i) (t := t) hx hp
    refine wpAny_call (codeAny_call_builtin S.plain PySem.F.entry_int_add ?_)
    refine S.check _ _ _ _ _ _ _ _ T0 (PySem.F.args_int_add_2 _ _) ?_
    refine wpAny_mono md (fun r s' z => ?_) fun _ _ e => e
    obtain ⟨rfl, rfl⟩ := z
    exact ⟨rfl, rfl, rfl⟩
  exact binR_K (op := .Add) F X₀ I hc hs hr hf PySem.F.fills_int_add hsub hl h
end
end DL
namespace DL
open PySem PySem.Spec PyProof.Rows L2
variable [TabC]
structure OwnR (K : Fg) (C : Addr) (op : Operator) (f : Addr) : Prop where
  find : ∃ g : Addr, PySem.W.findIn K (.ref C) (PySem.dunder op.info.2) = some (some (.ref g))
  refl : PySem.W.findIn K (.ref C) (PySem.dunderR op.info.2) = some (some (.ref f))
  fn : PySem.W.isFn K (.ref f) = true
  first : PySem.W.selfFirst K C = true
  sub : PySem.W.subIn K (.ref C) (.type "int") = some false
def ownRB (K : Fg) (C : Addr) (op : Operator) (f : Addr) : Bool :=
  (match PySem.W.findIn K (.ref C) (PySem.dunder op.info.2) with | some (some (.ref _)) => true | _ => false) && (decide (PySem.W.findIn K (.ref C) (PySem.dunderR op.info.2) = some (some (.ref f))) && (PySem.W.isFn K (.ref f) && (PySem.W.selfFirst K C && decide (PySem.W.subIn K (.ref C) (.type "int") = some false))))
theorem ownRB_ok {K : Fg} {C : Addr} {op : Operator} {f : Addr} (h : ownRB K C op f = true) : OwnR K C op f := by
  unfold ownRB at h
  simp only [Bool.and_eq_true, decide_eq_true_eq] at h
  obtain ⟨h1, h2, h3, h4, h5⟩ := h
  refine ⟨?_, h2, h3, h4, h5⟩
  split at h1
  · rename_i g e
    exact ⟨g, e⟩
  · cases h1
def RefOp (op : Operator) : Prop := ∀ {prog : Program} {w : World} {A : Around} {E : Value → Shared → Prop} {s : Shared} {K : Fg} {x C : Addr} {ox : Obj} {od : Option Obj} {L f g : Addr} {h₀ : Heap} {m : Str → Option Value} {i : Int} {t : Tok} {Q : Value → Shared → Prop}, Fr h₀ L s.heap m → K.In h₀ → PySem.W.InstAt s.heap x ox C od → s.heap.get? x = some ox → ox.data = .plain → PySem.W.selfFirst K C = true →
    PySem.W.findIn K (.ref C) (PySem.dunder op.info.2) = some (some (.ref g)) → PySem.W.findIn K (.ref C) (PySem.dunderR op.info.2) = some (some (.ref f)) → PySem.W.isFn K (.ref f) = true → PySem.W.subIn K (.ref C) (.type "int") = some false →
    wpAny (model prog w) A (call (.ref f) [.ref x, .int i t]) (PySem.W.CmpBack Q) E s → wpAny (model prog w) A (binaryOp op (.int i t) (.ref x)) Q E s
theorem refAdd : RefOp .Add := fun F X I hx hp hc hs hr hf hb h => addR_K F X I hx hp hc hs hr hf hb h
section
variable {X : Cx} {b : Option Addr} {H0 : Hp} {E : XK} {eo : XD → Prop} {s : GS} {k : Nat} {f : Addr} {fd : FuncData} {ps : List Str} {c : Str} {pos : Pos} {a e : Expr} {ga gb : GE}
/-- i op y, y of the class c -/
def gOwnR (c : Str) (s : GS) (eo : XD → Prop) (ga gb : GE) : GE := fun σ k => ga σ fun x => gb σ fun y => match x, y with
  | .int i, .ins c' ns ds => c' = c ∧ s [.ins c' ns ds, .int i] k eo
  | _, _ => False
theorem gOwnR_mn (ms : MnS s) (A : Mn ga) (B : Mn gb) : Mn (gOwnR c s eo ga gb) := fun σ k k' i q => A _ _ _ (fun x z => B _ _ _ (fun y w => by
  cases x with
  | int j => cases y with
    | ins c' ns ds => exact ⟨w.1, ms _ _ _ _ _ i (fun _ w => w) w.2⟩
    | _ => exact w.elim
  | _ => exact w.elim) z) q
theorem de_binR {op : Operator} (ro : RefOp op) (A : DE b H0 X a ga) (B : DE b H0 X e gb) (o : OwnR X.K (He.ga X.K c) op f) (F : FnOk X.prog X.w X.K X.mg X.base (L2.CX X.prog X.w) k f fd ps (lift X.K s)) (ms : MnS s) (hr : Room k X.A) (hb : Binds X.K fd ps []) (Z : Cz X b H0 E eo) :
    DE b H0 X (.BinOp a op e pos) (gOwnR c s eo ga gb) := by
  refine ⟨⟨fun pins s0 σ H Q I ⟨σd, O, R, q⟩ => ?_⟩, gOwnR_mn ms A.mn B.mn⟩
  refine wpAny_BinOp (binT (R := fun x y H2 => ∃ i a dx fs d1, x = .int i ∧ y = .ref a ∧ H2 a = some (.ins (He.ga X.K c) dx fs) ∧ Rst X.K b H0 σd σ H2 O ∧ Rep X.K b (hide O H2) d1 y ∧ s [d1, .int i] (fun d => ∀ v H3, Ext b H2 H3 → Rep X.K b (hide O H3) d v → Q v H3) eo) A.pe B.pe I
    ⟨σd, O, R, A.mn _ _ _ (fun x hx v1 H1 x1 r1 => ⟨σd, O, R.mono x1, B.mn _ _ _ (fun y hy v2 H2 x2 r2 => ?_) hx⟩) q⟩ fun u1 u2 s2 x y H2 I2 rx ry ⟨i, a, dx, fs, d1, ex, ey, ea, R2, rs, q2⟩ => ?_)
  · cases x with
    | int i =>
      cases y with
      | ins c2 ns2 ds2 =>
        obtain ⟨e1, z⟩ := hy
        subst e1
        obtain ⟨a2, dx2, vs2, rfl, n2, h2, l2, _⟩ := r2.ins
        exact ⟨i, a2, dx2, _, _, r1.int, rfl, (of_hide h2).2, R.mono (x1.trans x2), r2, ms _ _ _ _ _ (fun d w v H3 x3 r3 => w v H3 (x1.trans (x2.trans x3)) r3) (fun _ w => w) z⟩
      | _ => exact hy.elim
    | _ => cases y <;> exact hy.elim
  · subst ex ey
    obtain ⟨t, rfl⟩ : ∃ t, u1 = Value.int i t := rx
    obtain rfl : u2 = Value.ref a := ry
    obtain ⟨mA, J, _⟩ := ins_get I2.hok ea
    have gx := J.1
    obtain ⟨od, J, _⟩ := J.look
    obtain ⟨m, hF⟩ := I2.fr
    have run : wpAny (model X.prog X.w) X.A (call (.ref f) [.ref a, .int i t]) (EP X pins σ Q) X.xe s2 := run_fnD (us := [.ref a, .int i t]) (vs := [.ref a, .int i]) (dd := []) (dvs := []) (dus := []) F ms hr hb .nil (fun _ _ => Reps.nil) Z I2 (.cons rfl (.cons ⟨t, rfl⟩ .nil)) R2 (Reps.cons rs (Reps.cons (show Rep X.K b (hide O H2) (.int i) (.int i) from rfl) Reps.nil)) q2
    have run' := wpAny_mono run (fun v s' h => cmpBack_of h) fun _ _ h => h
    obtain ⟨g, hs⟩ := o.find
    exact ro hF I2.ok.mod.kin J gx rfl o.first hs o.refl o.fn o.sub run'
end
end DL
/-! DP2 -/
set_option Elab.async false
set_option linter.all false
set_option maxRecDepth 100000
set_option maxHeartbeats 4000000
/-! More plain lemmas. -/
namespace DL
open PySem PySem.Spec PyProof.Rows L2
variable [TabC]
/-- a comprehension with a test -/
theorem lcD_fil {α : Type} {t : Tgt} {gt : GT} {ge : GE} {σ : StD} (g f : α → D) (p : α → Bool) {l : List α} {acc : List D} {k : D → Prop} (h : ∀ x ∈ l, ∀ (kk : D → Prop) (ko : Prop), (p x = true → kk (f x)) → (p x = false → ko) → asg t (g x) σ fun σ2 => gt σ2 fun c => match c with | true => ge σ2 kk | false => ko)
    (hl : acc.length + l.length ≤ 1000000) (hk : k (.lst (acc ++ (l.filter p).map f))) : lcD t gt ge σ (l.map g) acc k := by
  induction l generalizing acc with
  | nil =>
    simp only [List.filter_nil, List.map_nil, List.append_nil] at hk
    exact hk
  | cons d r ih =>
    have ih' := fun acc => ih (acc := acc) (fun d' hd' => h d' (List.mem_cons_of_mem _ hd'))
    simp only [List.length_cons] at hl
    refine h d List.mem_cons_self (fun y => acc.length < 1000000 ∧ lcD t gt ge σ (r.map g) (acc ++ [y]) k) _ (fun e => ⟨by omega, ?_⟩) (fun e => ?_)
    · refine ih' _ (by simp only [List.length_append, List.length_cons, List.length_nil]; omega) ?_
      rw [List.filter_cons, if_pos e] at hk
      simpa using hk
    · refine ih' _ (by omega) ?_
      rw [List.filter_cons, if_neg (by rw [e]; exact Bool.false_ne_true)] at hk
      exact hk
theorem sms_of {n : Nat} {m : Int} (hm : decide (m < 2 ^ n) = true) {l : List Int} (h : ∀ x ∈ l, -m ≤ x ∧ x ≤ m) : Sms n l := fun x hx => by
  have h1 := h x hx
  have h2 := of_decide_eq_true hm
  exact Sz.of_lt (by omega) (by omega)
theorem Sms.neg {n : Nat} {a : List Int} (h : Sms n a) : Sms n (a.map (- ·)) := fun x hx => by
  obtain ⟨y, hy, rfl⟩ := List.mem_map.mp hx
  exact (h y hy).neg
theorem atI_zero {α : Type} {x : α} {xs : List α} : atI (x :: xs) 0 = some x := by
  unfold atI ixN
  rw [if_pos (by decide), if_pos (by simp only [List.length_cons]; omega)]
  rfl
/-- small written numbers -/
theorem szW {n : Nat} {i : Int} (h : decide (i.natAbs < 2 ^ n) = true) : Sz n i := by unfold Sz; exact of_decide_eq_true h
/-! ### texts of numbers -/
theorem str_len2 (a b : Str) : (a ++ b).length = a.length + b.length := by
  show (a.cps ++ b.cps).size = _
  rw [Array.size_append]; rfl
theorem szLog {n : Nat} {i : Int} (h : Sz n i) (hn : n ≤ 1920 := by decide) (hp : 0 < n := by decide) : i.natAbs.log2 < 1920 := by
  unfold Sz at h
  rcases Nat.eq_zero_or_pos i.natAbs with z | z
  · rw [z]; decide
  · exact Nat.lt_of_lt_of_le ((Nat.log2_lt (by omega)).mpr h) hn
end DL
/-! DJ6 -/
set_option Elab.async false
set_option linter.all false
set_option maxRecDepth 100000
set_option maxHeartbeats 4000000
/-! bool(own), abs(own) at the library's level -/
namespace DL
open PySem PySem.W PySem.Calls PyProof.Rows Builtin
section
variable {prog : Program} {w : World} {A : Around} {E : Value → Shared → Prop} {s : Shared} {K : Frag} {x C L f : Addr} {h₀ : Heap} {m : Str → Option Value} {ox : Obj} {od : Option Obj}
theorem abs_K {Q : Value → Shared → Prop} (F : Fr h₀ L s.heap m) (X₀ : K.In h₀) (I : InstAt s.heap x ox C od) (hs : findIn K (.ref C) "__abs__" = some (some (.ref f))) (hf : isFn K (.ref f) = true)
    (h : wpAny (model prog w) A.in1 (call (.ref f) [.ref x]) Q E s) : wpAny (model prog w) A (call (.builtin "abs") [.ref x]) Q E s := by
  refine Calls.call_function_entry kind_abs plain_abs entry_abs (args_abs _) ?_
  unfold Builtin.«abs»
  refine wpAny_bind (m := oneArg "abs" _) (wpAny_pure ?_)
  refine wpAny_bind (m := callSpecial? (.ref x) (Str.ofString "__abs__")) (special_fn (X₀.keeps F.keep) I hs (beq_iff_eq.mp hf) (wpAny_mono h (fun r s' hr => ?_) fun _ _ y => y))
  exact wpAny_pure ⟨_, rfl, hr⟩
end
end DL
namespace DL
open PySem PySem.Spec PyProof.Rows L2
variable [TabC]
section
variable {X : Cx} {b : Option Addr} {H0 : Hp} {E : XK} {eo : XD → Prop} {s : GS} {k : Nat} {f : Addr} {fd : FuncData} {ps : List Str} {c : Str} {p pos : Pos} {a e : Expr} {ga gb : GE} {cls : List Str}
def gOwnB (c : Str) (s : GS) (eo : XD → Prop) (ga : GE) : GE := fun σ k => gOwn1 c s eo ga σ fun d => match d with | .bl r => k (.bl r) | _ => False
/-- abs(own) -/
theorem de_absO (hg : Gl X "abs") (hmg : X.mg "abs" = none) (A : DE b H0 X e ga) (o : Own X.K (He.ga X.K c) "__abs__" f) (F : FnOk X.prog X.w X.K X.mg X.base (L2.CX X.prog X.w) k f fd ps (lift X.K s)) (ms : MnS s) (hr : Room (k + 1) X.A) (hb : Binds X.K fd ps []) (Z : Cz X b H0 E eo)
    (hst : starEach [e] X.env = (false, eval e X.env) :: starEach [] X.env := by rfl) (hpl : (backTo pos (starEach [] X.env)).any (·.1) = false := by rfl) : DE b H0 X (.Call (.Name "abs" p) [e] [] pos) (gOwn1 c s eo ga) := by
  refine ⟨⟨fun pins s0 σ H Q I ⟨σd, O, R, q⟩ => ?_⟩, gOwn1_mn ms A.mn⟩
  refine wpAny_Call_Name_kw (ld_blt (u := .builtin "abs") I hg hmg (by decide +kernel) ?_ (by decide) (by decide))
  have pa : PA X [e] _ := pa_cons A.pe pa_nil hst
  refine PyProof.Rows.callWith_builtin1 (thn (pa.run pos pins s0 σ H (fun vs H' => ∃ a dx fs d, vs = [.ref a] ∧ H' a = some (.ins (He.ga X.K c) dx fs) ∧ Rst X.K b H0 σd σ H' O ∧ Rep X.K b (hide O H') d (.ref a) ∧ s [d] (fun d => ∀ v H2, Ext b H' H2 → Rep X.K b (hide O H2) d v → Q v H2) eo) I
    ⟨σd, O, R, A.mn _ _ _ (fun d z v H' x1 r => ?_) q⟩) fun us s1 ⟨vs, H1, I1, rx, a, dx, fs, d, ex, ea, R1, rd, q1⟩ => ?_) hst hpl
  · cases d with
    | ins c' ns ds =>
      obtain ⟨e1, z⟩ := z
      subst e1
      obtain ⟨a, dx, vs, rfl, n, h, l, rs⟩ := r.ins
      exact ⟨a, dx, _, _, rfl, (of_hide h).2, R.mono x1, r, ms _ _ _ _ _ (fun d w v H2 x2 r2 => w v H2 (x1.trans x2) r2) (fun _ w => w) z⟩
    | _ => exact z.elim
  · subst ex
    obtain ⟨u, rfl, r0⟩ := rx.one
    obtain rfl : u = Value.ref a := r0
    obtain ⟨mA, J, _⟩ := ins_get I1.hok ea
    obtain ⟨od, J, _⟩ := J.look
    obtain ⟨m, hF⟩ := I1.fr
    have run : wpAny (model X.prog X.w) X.A.in1 (call (.ref f) [.ref a]) (EP X pins σ Q) X.xe s1 := run_fnB (us2 := [.ref a]) (vs2 := [.ref a]) F ms hr.in1 rfl Z I1 hb (.cons rfl .nil) R1 (Reps.cons rd Reps.nil) q1
    exact abs_K hF I1.ok.mod.kin J o.find o.fn run
/-! ### own == anything -/
/-- no built-in class is below the class at C -/
def nfB (K : Fg) (C : Addr) : Bool := [Tg.non, .bl, .int, .str, .tup, .lst, .dic].all fun T => decide (PySem.W.subIn K (.type T.nm) (.ref C) = some false)
theorem nfB_ok {K : Fg} {C : Addr} (h : nfB K C = true) : ∀ T : Tg, PySem.W.subIn K (.type T.nm) (.ref C) = some false := fun T => by
  have h := List.all_eq_true.mp h
  cases T <;> exact of_decide_eq_true (h _ (by decide))
theorem tagTy {K : Fg} {H : Hp} {b : Option Addr} {d : D} {v : V} {T : Tg} (r : Rep K b H d v) (h : tagOf d = some T) : TyX K H v (.type T.nm) := by
  cases d with
  | non => cases h; rw [r.non]; exact .base .non
  | bl x => cases h; rw [r.bl]; exact .base (.bl _)
  | int x => cases h; rw [r.int]; exact .base (.int _)
  | str x => cases h; rw [r.str]; exact .base (.str _)
  | tup ds =>
    cases h
    obtain ⟨a, vs, rfl, n, hs, s⟩ := r.tup
    rcases hs with (h | ⟨o, h⟩) | ⟨o, its, n, h, c, _⟩
    · exact .base (.tup h)
    · exact .fTuple h
    · exact .kTuple h c
  | lst ds =>
    cases h
    obtain ⟨a, vs, rfl, n, hs, s⟩ := r.lst
    rcases hs with (h | ⟨o, h⟩) | ⟨o, its, n, h, c, _⟩
    · exact .base (.lst h)
    · exact .base (.frz h)
    · exact .kList h c
  | dic ks ds =>
    cases h
    simp only [Rep] at r
    obtain ⟨a, o, vs, rfl, n, h, l, s⟩ := r
    exact .fDict h
  | frl a ds =>
    cases h
    obtain ⟨o, vs, rfl, n, h, s⟩ := r.frl
    exact .base (.frz h)
  | frd ks ds =>
    cases h
    obtain ⟨a, vs, rfl, n, h, l, s⟩ := r.frd
    exact .base (.dK h)
  | _ => cases h
/-- the right side of own == y -/
def rhsD (c : Str) : D → Bool
  | .ins c' _ _ => c' == c
  | .bag => false | .clo _ => false | .exc _ _ _ => false | .cel _ => false | _ => true
def gOwnE (c : Str) (s : GS) (eo : XD → Prop) (ga gb : GE) : GE := fun σ k => ga σ fun x => gb σ fun y => match x with
  | .ins c' ns ds => c' = c ∧ rhsD c y = true ∧ s [.ins c' ns ds, y] k eo
  | _ => False
theorem gOwnE_mn (ms : MnS s) (A : Mn ga) (B : Mn gb) : Mn (gOwnE c s eo ga gb) := fun σ k k' i q => A _ _ _ (fun x z => B _ _ _ (fun y w => by
  cases x with
  | ins c' ns ds => exact ⟨w.1, w.2.1, ms _ _ _ _ _ i (fun _ w => w) w.2.2⟩
  | _ => exact w.elim) z) q
theorem rhs_looks {pins : List (Addr × Obj)} {σ : L2.St} {H : Hp} {O : List Addr} {s2 : Shared} {M : Model} {d : D} {v : V} {u : Value} (I : Inv X pins σ H s2) (rv : RelV v u) (r : Rep X.K b (hide O H) d v) (h : rhsD c d = true) (nf : ∀ T : Tg, PySem.W.subIn X.K (.type T.nm) (.ref (He.ga X.K c)) = some false) :
    ∃ tb, PySem.W.Looks M s2.heap (typeOf u) tb ∧ PySem.W.notFirst X.K (He.ga X.K c) tb = true := by
  have r' := r.mono (hide_le (b := b))
  have tagged : ∀ T : Tg, tagOf d = some T → ∃ tb, PySem.W.Looks M s2.heap (typeOf u) tb ∧ PySem.W.notFirst X.K (He.ga X.K c) tb = true := fun T e => by
    obtain ⟨P, kx, hp, _⟩ := kit_of I rv (tagTy r' e)
    refine ⟨_, kx.ty M _ I.kIn hp, ?_⟩
    unfold PySem.W.notFirst
    rw [nf T]; simp
  cases d with
  | ins c' ns ds =>
    have e : c' = c := by simpa [rhsD] using h
    subst e
    obtain ⟨a, dx, vs, rfl, n, hh, l, _⟩ := r'.ins
    obtain rfl : u = Value.ref a := rv
    obtain ⟨mB, J2, _⟩ := ins_get I.hok hh
    obtain ⟨od2, J2, _⟩ := J2.look
    exact ⟨_, J2.type, by simp [PySem.W.notFirst]⟩
  | bag => cases h
  | clo o => cases h
  | non => exact tagged .non rfl
  | bl _ => exact tagged .bl rfl
  | int _ => exact tagged .int rfl
  | str _ => exact tagged .str rfl
  | tup _ => exact tagged .tup rfl
  | lst _ => exact tagged .lst rfl
  | dic _ _ => exact tagged .dic rfl
  | frl _ _ => exact tagged .lst rfl
  | frd _ _ => exact tagged .dic rfl
  | exc _ _ _ => cases h
  | cel _ => cases h
def gOwnEN (c : Str) (s : GS) (eo : XD → Prop) (ga gb : GE) : GE := fun σ k => gOwnE c s eo ga gb σ fun d => match d with | .bl r => k (.bl (!r)) | _ => False
theorem gOwnEN_mn (ms : MnS s) (A : Mn ga) (B : Mn gb) : Mn (gOwnEN c s eo ga gb) := fun σ k k' i q => gOwnE_mn ms A B _ _ _ (fun d z => by cases d <;> first | exact i _ z | exact z.elim) q
theorem dc_neE (A : DE b H0 X a ga) (B : DE b H0 X e gb) (o : Own X.K (He.ga X.K c) "__eq__" f) (nf : ∀ T : Tg, PySem.W.subIn X.K (.type T.nm) (.ref (He.ga X.K c)) = some false) (hne : PySem.W.findIn X.K (.ref (He.ga X.K c)) "__ne__" = some (some (.builtin "object.__ne__"))) (hobj : PySem.W.subIn X.K (.ref (He.ga X.K c)) (.type "object") = some true)
    (F : FnOk X.prog X.w X.K X.mg X.base (L2.CX X.prog X.w) k f fd ps (lift X.K s)) (ms : MnS s) (hr : Room (k + 1) X.A) (hb : Binds X.K fd ps []) (Z : Cz X b H0 E eo) : DCm b H0 X .NotEq a e (gOwnEN c s eo ga gb) := by
  refine ⟨⟨fun pins s0 σ H Q I ⟨σd, O, R, q⟩ => ?_⟩, gOwnEN_mn ms A.mn B.mn⟩
  refine (binT (R := fun x y H2 => ∃ a dx fs d1 d2, x = .ref a ∧ H2 a = some (.ins (He.ga X.K c) dx fs) ∧ rhsD c d2 = true ∧ Rst X.K b H0 σd σ H2 O ∧ Reps X.K b (hide O H2) [d1, d2] [x, y] ∧ s [d1, d2] (fun d => ∀ v H3, Ext b H2 H3 → Rep X.K b (hide O H3) d v → ∃ r, v = .bl r ∧ Q (.bl (!r)) H3) eo) A.pe B.pe I
    ⟨σd, O, R, A.mn _ _ _ (fun x hx v1 H1 x1 r1 => ⟨σd, O, R.mono x1, B.mn _ _ _ (fun y hy v2 H2 x2 r2 => ?_) hx⟩) q⟩ fun u1 u2 s2 x y H2 I2 rx ry ⟨a, dx, fs, d1, d2, ex, ea, ey, R2, rs, q2⟩ => ?_)
  · have rr : Reps X.K b (hide O H2) [x, y] [v1, v2] := Reps.cons (r1.mono (x2.1.hide O)) (Reps.cons r2 Reps.nil)
    have r1' := r1.mono (x2.1.hide O)
    cases x with
    | ins c' ns ds =>
      obtain ⟨e1, e2, z⟩ := hy
      subst e1
      obtain ⟨a, dx, vs, rfl, n, h, l, _⟩ := r1'.ins
      refine ⟨a, dx, _, _, _, rfl, (of_hide h).2, e2, R.mono (x1.trans x2), rr, ms _ _ _ _ _ (fun d w v H3 x3 r3 => ?_) (fun _ w => w) z⟩
      cases d with
      | bl r => exact ⟨r, r3.bl, w _ H3 (x1.trans (x2.trans x3)) rfl⟩
      | _ => exact w.elim
    | _ => exact hy.elim
  · subst ex
    obtain rfl : u1 = Value.ref a := rx
    obtain ⟨mA, J, _⟩ := ins_get I2.hok ea
    obtain ⟨od, J, _⟩ := J.look
    obtain ⟨m, hF⟩ := I2.fr
    have run : wpAny (model X.prog X.w) X.A.in1 (call (.ref f) [.ref a, u2]) (EP X pins σ fun v H3 => ∃ r, v = .bl r ∧ Q (.bl (!r)) H3) X.xe s2 := run_fnB (us2 := [.ref a, u2]) (vs2 := [.ref a, y]) F ms hr.in1 rfl Z I2 hb (.cons rfl (.cons ry .nil)) R2 rs q2
    obtain ⟨_, _, ew, r1, rs2⟩ := rs.of_cons
    cases ew
    obtain ⟨_, _, ew, r2, _⟩ := rs2.of_cons
    cases ew
    obtain ⟨tb, lk, hn⟩ := rhs_looks (M := model X.prog X.w) I2 ry r2 ey nf
    show wpAny _ _ (richCompare .NotEq (.ref a) u2) _ _ _
    refine ne_K (tb := tb) hr.units0 hr.in1.units0 hF I2.ok.mod.kin J lk hn o.find hne o.fn hobj (wpAny_mono run (fun v s' h => ?_) fun _ _ h => h)
    obtain ⟨v', H', I', rv, r, ev, hq⟩ := h
    subst ev
    obtain rfl : v = Value.bool r := rv
    exact ⟨r, rfl, .bl (!r), H', I', rfl, hq⟩
end
end DL
/-! DJ7 -/
set_option Elab.async false
set_option linter.all false
set_option maxRecDepth 100000
set_option maxHeartbeats 4000000
/-! staticmethods; defs at any address told by the head. -/
namespace DL
open PySem PySem.Spec PyProof.Rows L2
end DL
namespace DL
open PySem PySem.Spec PyProof.Rows L2
/-! ### properties -/
end DL
/-! DV -/
set_option Elab.async false
set_option linter.all false
set_option maxRecDepth 100000
set_option maxHeartbeats 4000000
/-! What a reading comes to: one value. -/
namespace DL
open PySem PySem.Spec PyProof.Rows L2
variable [TabC]
structure Stp (P : Prop) : Prop where
  run : P
structure Ev (g : GE) (σ : StD) (d : D) : Prop where
  run : ∀ k : D → Prop, k d → g σ k
instance {g : GE} {σ : StD} {d : D} : CoeFun (Ev g σ d) (fun _ => ∀ k : D → Prop, k d → g σ k) := ⟨Ev.run⟩
structure EvT (t : GT) (σ : StD) (c : Bool) : Prop where
  run : ∀ k : Bool → Prop, k c → t σ k
instance {t : GT} {σ : StD} {c : Bool} : CoeFun (EvT t σ c) (fun _ => ∀ k : Bool → Prop, k c → t σ k) := ⟨EvT.run⟩
structure EvA (g : GA) (σ : StD) (ds : List D) : Prop where
  run : ∀ k : List D → Prop, k ds → g σ k
instance {g : GA} {σ : StD} {ds : List D} : CoeFun (EvA g σ ds) (fun _ => ∀ k : List D → Prop, k ds → g σ k) := ⟨EvA.run⟩
structure EvI (g : GI) (σ : StD) (ds : List D) : Prop where
  run : ∀ k : List D → Prop, k ds → g σ k
instance {g : GI} {σ : StD} {ds : List D} : CoeFun (EvI g σ ds) (fun _ => ∀ k : List D → Prop, k ds → g σ k) := ⟨EvI.run⟩
structure EvP (g : StD → (Option Int → Prop) → Prop) (σ : StD) (o : Option Int) : Prop where
  run : ∀ k : Option Int → Prop, k o → g σ k
instance {g : StD → (Option Int → Prop) → Prop} {σ : StD} {o : Option Int} : CoeFun (EvP g σ o) (fun _ => ∀ k : Option Int → Prop, k o → g σ k) := ⟨EvP.run⟩
structure O1 (rd : D → (D → Prop) → Prop) (x z : D) : Prop where
  run : ∀ k : D → Prop, k z → rd x k
instance {rd : D → (D → Prop) → Prop} {x z : D} : CoeFun (O1 rd x z) (fun _ => ∀ k : D → Prop, k z → rd x k) := ⟨O1.run⟩
structure O2 (rd : D → D → (D → Prop) → Prop) (x y z : D) : Prop where
  run : ∀ k : D → Prop, k z → rd x y k
instance {rd : D → D → (D → Prop) → Prop} {x y z : D} : CoeFun (O2 rd x y z) (fun _ => ∀ k : D → Prop, k z → rd x y k) := ⟨O2.run⟩
structure ON (rd : List D → (D → Prop) → Prop) (ds : List D) (z : D) : Prop where
  run : ∀ k : D → Prop, k z → rd ds k
instance {rd : List D → (D → Prop) → Prop} {ds : List D} {z : D} : CoeFun (ON rd ds z) (fun _ => ∀ k : D → Prop, k z → rd ds k) := ⟨ON.run⟩
/-- a def, asked with ds, tells d; lets out x -/
structure SR (s : GS) (ds : List D) (d : D) : Prop where
  run : ∀ (k : D → Prop) (e : XD → Prop), k d → s ds k e
instance {s : GS} {ds : List D} {d : D} : CoeFun (SR s ds d) (fun _ => ∀ (k : D → Prop) (e : XD → Prop), k d → s ds k e) := ⟨SR.run⟩
structure SX (s : GS) (ds : List D) (x : XD) : Prop where
  run : ∀ (k : D → Prop) (e : XD → Prop), e x → s ds k e
instance {s : GS} {ds : List D} {x : XD} : CoeFun (SX s ds x) (fun _ => ∀ (k : D → Prop) (e : XD → Prop), e x → s ds k e) := ⟨SX.run⟩
structure SRI (s : GSI) (c : Str) (ds : List D) (ns : List Str) (fs : List D) : Prop where
  run : ∀ (k : List Str → List D → Prop) (e : XD → Prop), k ns fs → s c [] [] ds k e
instance {s : GSI} {c : Str} {ds : List D} {ns : List Str} {fs : List D} : CoeFun (SRI s c ds ns fs) (fun _ => ∀ (k : List Str → List D → Prop) (e : XD → Prop), k ns fs → s c [] [] ds k e) := ⟨SRI.run⟩
structure SXI (s : GSI) (c : Str) (ds : List D) (x : XD) : Prop where
  run : ∀ (k : List Str → List D → Prop) (e : XD → Prop), e x → s c [] [] ds k e
instance {s : GSI} {c : Str} {ds : List D} {x : XD} : CoeFun (SXI s c ds x) (fun _ => ∀ (k : List Str → List D → Prop) (e : XD → Prop), e x → s c [] [] ds k e) := ⟨SXI.run⟩
/-- the reading lets out x -/
structure EvX (eo : XD → Prop) (g : GE) (σ : StD) (x : XD) : Prop where
  run : ∀ k : D → Prop, eo x → g σ k
instance {eo : XD → Prop} {g : GE} {σ : StD} {x : XD} : CoeFun (EvX eo g σ x) (fun _ => ∀ k : D → Prop, eo x → g σ k) := ⟨EvX.run⟩
structure EvAX (eo : XD → Prop) (g : GA) (σ : StD) (x : XD) : Prop where
  run : ∀ k : List D → Prop, eo x → g σ k
instance {eo : XD → Prop} {g : GA} {σ : StD} {x : XD} : CoeFun (EvAX eo g σ x) (fun _ => ∀ k : List D → Prop, eo x → g σ k) := ⟨EvAX.run⟩
structure EvTX (eo : XD → Prop) (g : GT) (σ : StD) (x : XD) : Prop where
  run : ∀ k : Bool → Prop, eo x → g σ k
instance {eo : XD → Prop} {g : GT} {σ : StD} {x : XD} : CoeFun (EvTX eo g σ x) (fun _ => ∀ k : Bool → Prop, eo x → g σ k) := ⟨EvTX.run⟩
/-- an item bound, then read -/
structure AEv (t : Tgt) (d : D) (σ : StD) (ge : GE) (y : D) : Prop where
  run : ∀ k : D → Prop, k y → asg t d σ fun σ2 => ge σ2 k
instance {t : Tgt} {d : D} {σ : StD} {ge : GE} {y : D} : CoeFun (AEv t d σ ge y) (fun _ => ∀ k : D → Prop, k y → asg t d σ fun σ2 => ge σ2 k) := ⟨AEv.run⟩
section
variable {σ : StD} {d x y z : D} {ds es : List D} {ga gb ge g go : GE} {g1' g2' : GA} {t u : GT} {c a b : Bool} {eo : XD → Prop} {s : GS} {si : GSI}
/-! ### expressions -/
theorem ev_c : Ev (gC d) σ d := .mk fun _ q => q
theorem ev_var {i : Nat} (h : .sh d = look σ i) : Ev (gVar i) σ d := .mk fun k q => by unfold gVar; rw [← h]; exact q
theorem ev_varT {i : Nat} (h : .sh d = look σ i) : Ev (gVarT i) σ d := .mk fun k q => by unfold gVarT; rw [← h]; exact q
theorem ev_varO {i : Nat} (h : .own ds = look σ i) : Ev (gVarT i) σ (.lst ds) := .mk fun k q => by unfold gVarT; rw [← h]; exact q
theorem ev_g2 {rd : D → D → (D → Prop) → Prop} (A : Ev ga σ x) (B : Ev gb σ y) (h : O2 rd x y z) : Ev (g2 rd ga gb) σ z := .mk fun k q => A _ (B _ (h k q))
theorem ev_g1 {rd : D → (D → Prop) → Prop} (A : Ev ga σ x) (h : O1 rd x z) : Ev (g1 rd ga) σ z := .mk fun k q => A _ (h k q)
theorem ev_cl {rd : List D → (D → Prop) → Prop} (A : EvA g1' σ ds) (h : ON rd ds z) : Ev (gCl rd g1') σ z := .mk fun k q => A _ (h k q)
theorem eva_nil : EvA gNil σ [] := .mk fun _ q => q
theorem eva_cons (A : Ev ge σ d) (B : EvA g1' σ ds) : EvA (gCons ge g1') σ (d :: ds) := .mk fun k q => A _ (B _ q)
theorem eva_app (A : EvA g1' σ ds) (B : EvA g2' σ es) : EvA (gApp g1' g2') σ (ds ++ es) := .mk fun k q => A _ (B _ q)
/-- what is walked over, of a value -/
def ItR (x : D) (ds : List D) : Prop := x = .lst ds ∨ x = .tup ds
theorem itr_L : ItR (.lst ds) ds := .inl rfl
theorem itr_T : ItR (.tup ds) ds := .inr rfl
theorem eva_star (A : Ev ge σ x) (I : ItR x es) (B : EvA g1' σ ds) : EvA (gStar ge g1') σ (es ++ ds) := .mk fun k q => A _ (by rcases I with rfl | rfl <;> exact B _ q)
theorem eva_star1 (A : Ev ge σ x) (I : ItR x es) : EvA (gStar1 ge) σ es := .mk fun k q => A _ (by rcases I with rfl | rfl <;> exact q)
theorem ev_tup (A : EvA g1' σ ds) (h : ds.length ≤ 1000) : Ev (gTup g1') σ (.tup ds) := .mk fun k q => A _ ⟨h, q⟩
theorem ev_lst (A : EvA g1' σ ds) (h : ds.length ≤ 1000) : Ev (gLst g1') σ (.lst ds) := .mk fun k q => A _ ⟨h, q⟩
/-- what both ways come to -/
def Jn (c : Bool) (x y z : D) : Prop := (c = true → x = z) ∧ (c = false → y = z)
theorem jn_eq : Jn c x x x := ⟨fun _ => rfl, fun _ => rfl⟩
theorem jn_int {i j : Int} : Jn c (.int i) (.int j) (.int (bif c then i else j)) := ⟨fun e => by subst e; rfl, fun e => by subst e; rfl⟩
theorem jn_str {i j : Str} : Jn c (.str i) (.str j) (.str (bif c then i else j)) := ⟨fun e => by subst e; rfl, fun e => by subst e; rfl⟩
theorem jn_bl {i j : Bool} : Jn c (.bl i) (.bl j) (.bl (bif c then i else j)) := ⟨fun e => by subst e; rfl, fun e => by subst e; rfl⟩
theorem jn_tup {i j : List D} : Jn c (.tup i) (.tup j) (.tup (bif c then i else j)) := ⟨fun e => by subst e; rfl, fun e => by subst e; rfl⟩
theorem jn_lst {i j : List D} : Jn c (.lst i) (.lst j) (.lst (bif c then i else j)) := ⟨fun e => by subst e; rfl, fun e => by subst e; rfl⟩
theorem jn_any : Jn c x y (bif c then x else y) := ⟨fun e => by subst e; rfl, fun e => by subst e; rfl⟩
theorem ev_if (T : EvT t σ c) (A : c = true → Ev ga σ x) (B : c = false → Ev gb σ y) (J : Jn c x y z) : Ev (gIf t ga gb) σ z := .mk fun k q => T _ (by
  cases c with
  | true => exact A rfl k (by rw [J.1 rfl]; exact q)
  | false => exact B rfl k (by rw [J.2 rfl]; exact q))
theorem ev_ifT (T : EvT t σ c) (e : c = true) (A : Ev ga σ x) : Ev (gIf t ga gb) σ x := .mk fun k q => T _ (by subst e; exact A k q)
theorem ev_ifF (T : EvT t σ c) (e : c = false) (A : Ev gb σ x) : Ev (gIf t ga gb) σ x := .mk fun k q => T _ (by subst e; exact A k q)
theorem ev_isi {cls : List Str} {sub : Str → Str → Bool} {ks : List KC} (A : Ev ge σ d) (h : askD cls d = true) : Ev (gIsi cls sub ks ge) σ (.bl (isAny sub ks d)) := .mk fun k q => A _ ⟨h, q⟩
theorem ev_isN {neg : Bool} (A : Ev ge σ x) (h : O1 (dIsN neg) x z) : Ev (gIsN neg ge) σ z := .mk fun k q => A _ (h k q)
theorem ev_fld {C : Str} {NS : List Str} {i : Nat} (A : Ev ge σ (.ins C NS ds)) (h : some d = ds[i]?) : Ev (gFld C NS i ge) σ d := .mk fun k q => A _ ⟨rfl, rfl, by rw [← h]; exact q⟩
theorem ev_ca (A : EvA g1' σ ds) (h : SR s ds d) : Ev (gCa s eo g1') σ d := .mk fun k q => A _ (h _ _ q)
theorem ev_mc {C m : Str} {ns : List Str} (A : Ev go σ (.ins C ns ds)) (hm : m ∉ ns) (B : EvA g1' σ es) (h : SR s (.ins C ns ds :: es) d) : Ev (gMc C m s eo go g1') σ d := .mk fun k q => A _ ⟨rfl, hm, B _ (h _ _ q)⟩
theorem ev_mk {C : Str} {ns : List Str} {fs : List D} (A : EvA g1' σ ds) (h : SRI si C ds ns fs) : Ev (gMk C si eo g1') σ (.ins C ns fs) := .mk fun k q => A _ (h _ _ q)
theorem ev_own1 {C : Str} {ns : List Str} (A : Ev ga σ (.ins C ns ds)) (h : SR s [.ins C ns ds] d) : Ev (gOwn1 C s eo ga) σ d := .mk fun k q => A _ ⟨rfl, h _ _ q⟩
def OW2 (C : Str) (s : GS) (x y d : D) : Prop := (∃ ns ds ns2 es, x = .ins C ns ds ∧ y = .ins C ns2 es ∧ SR s [x, y] d) ∨ ∃ ns ds i, x = .ins C ns ds ∧ y = .int i ∧ SR s [x, y] d
theorem ow2_own {C : Str} {ns ns2 : List Str} (h : SR s [.ins C ns ds, .ins C ns2 es] d) : OW2 C s (.ins C ns ds) (.ins C ns2 es) d := .inl ⟨_, _, _, _, rfl, rfl, h⟩
theorem ow2_int {C : Str} {ns : List Str} {i : Int} (h : SR s [.ins C ns ds, .int i] d) : OW2 C s (.ins C ns ds) (.int i) d := .inr ⟨_, _, _, rfl, rfl, h⟩
theorem ev_own2 {C : Str} (A : Ev ga σ x) (B : Ev gb σ y) (h : OW2 C s x y d) : Ev (gOwn2 C s eo ga gb) σ d := .mk fun k q => A _ (B _ (by
  rcases h with ⟨ns, ds, ns2, es, rfl, rfl, h⟩ | ⟨ns, ds, i, rfl, rfl, h⟩
  · exact ⟨rfl, rfl, h _ _ q⟩
  · exact ⟨rfl, h _ _ q⟩))
theorem ev_ownR {C : Str} {ns : List Str} {i : Int} (A : Ev ga σ (.int i)) (B : Ev gb σ (.ins C ns ds)) (h : SR s [.ins C ns ds, .int i] d) : Ev (gOwnR C s eo ga gb) σ d := .mk fun k q => A _ (B _ ⟨rfl, h _ _ q⟩)
theorem ev_ownQ {C : Str} {ns ns2 : List Str} (A : Ev ga σ (.ins C ns ds)) (B : Ev gb σ (.ins C ns2 es)) (h : SR s [.ins C ns ds, .ins C ns2 es] d) : Ev (gOwnQ C s eo ga gb) σ d := .mk fun k q => A _ (B _ ⟨rfl, rfl, h _ _ q⟩)
theorem ev_ownN {C : Str} {ns ns2 : List Str} (A : Ev ga σ (.ins C ns ds)) (B : Ev gb σ (.ins C ns2 es)) (h : SR s [.ins C ns ds, .ins C ns2 es] (.bl c)) : Ev (gOwnN C s eo ga gb) σ (.bl (!c)) := .mk fun k q => ev_ownQ A B h _ q
theorem ev_ownE {C : Str} {ns : List Str} (A : Ev ga σ (.ins C ns ds)) (B : Ev gb σ y) (hr : rhsD C y = true) (h : SR s [.ins C ns ds, y] d) : Ev (gOwnE C s eo ga gb) σ d := .mk fun k q => A _ (B _ ⟨rfl, hr, h _ _ q⟩)
theorem ev_ownEN {C : Str} {ns : List Str} (A : Ev ga σ (.ins C ns ds)) (B : Ev gb σ y) (hr : rhsD C y = true) (h : SR s [.ins C ns ds, y] (.bl c)) : Ev (gOwnEN C s eo ga gb) σ (.bl (!c)) := .mk fun k q => ev_ownE A B hr h _ q
theorem ev_ownS {C r : Str} {ns : List Str} (A : Ev ga σ (.ins C ns ds)) (h : SR s [.ins C ns ds] (.str r)) : Ev (gOwnS C s eo ga) σ (.str r) := .mk fun k q => ev_own1 A h _ q
theorem ev_ownB {C : Str} {ns : List Str} (A : Ev ga σ (.ins C ns ds)) (h : SR s [.ins C ns ds] (.bl c)) : Ev (gOwnB C s eo ga) σ (.bl c) := .mk fun k q => ev_own1 A h _ q
theorem ev_join {p : Str} {ys : List Str} (A : Ev ga σ (.str p)) (B : Ev gb σ (.lst ds)) (h : some ys = strsOf ds) (hl : (ys.map (·.length)).sum + ys.length * p.length ≤ 1000000) : Ev (gJoin ga gb) σ (.str (Txt.join p ys)) := .mk fun k q => A _ (B _ (by
  show match strsOf ds with | some ys => _ | none => False
  rw [← h]; exact ⟨hl, q⟩))
theorem ev_jsN {acc : Str} : Ev (gJs [] acc) σ (.str acc) := .mk fun k q => q
theorem ev_js {gs : List GE} {acc p : Str} (A : Ev ge σ (.str p)) (hl : (acc ++ p).length ≤ 1000000) (B : Ev (gJs gs (acc ++ p)) σ d) : Ev (gJs (ge :: gs) acc) σ d := .mk fun k q => A _ ⟨hl, B k q⟩
def FmR (x z : D) : Prop := ∃ p : Str, z = .str p ∧ ((x = .str p ∧ p.length ≤ 1000000) ∨ ∃ i : Int, x = .int i ∧ i.natAbs.log2 < 1920 ∧ p = (toString i : String))
theorem fm_S {p : Str} (h : p.length ≤ 1000000) : FmR (.str p) (.str p) := ⟨_, rfl, .inl ⟨rfl, h⟩⟩
theorem fm_I {i : Int} (h : i.natAbs.log2 < 1920) : FmR (.int i) (.str (toString i : String)) := ⟨_, rfl, .inr ⟨_, rfl, h, rfl⟩⟩
theorem ev_fmt (A : Ev ge σ x) (h : FmR x z) : Ev (gFmt ge) σ z := .mk fun k q => A _ (by
  obtain ⟨p, rfl, ⟨rfl, h⟩ | ⟨i, rfl, h, rfl⟩⟩ := h
  · exact ⟨h, q⟩
  · exact ⟨h, q⟩)
theorem evp_no : EvP gNoP σ none := .mk fun _ q => q
theorem evp_part {i : Int} (A : Ev ge σ (.int i)) : EvP (gPart ge) σ (some i) := .mk fun _ q => A _ q
def SlR (x : D) (lo hi : Option Int) (z : D) : Prop := (∃ ds, x = .lst ds ∧ z = .lst (cutD ds lo hi)) ∨ (∃ ds, x = .tup ds ∧ z = .tup (cutD ds lo hi)) ∨ ∃ p : Str, x = .str p ∧ p.length ≤ 1000000 ∧ z = .str (cutS p lo hi)
theorem sl_L {lo hi : Option Int} : SlR (.lst ds) lo hi (.lst (cutD ds lo hi)) := .inl ⟨_, rfl, rfl⟩
theorem sl_T {lo hi : Option Int} : SlR (.tup ds) lo hi (.tup (cutD ds lo hi)) := .inr (.inl ⟨_, rfl, rfl⟩)
theorem sl_S {lo hi : Option Int} {p : Str} (h : p.length ≤ 1000000) : SlR (.str p) lo hi (.str (cutS p lo hi)) := .inr (.inr ⟨_, rfl, h, rfl⟩)
theorem ev_sl {gl gh : StD → (Option Int → Prop) → Prop} {lo hi : Option Int} (A : Ev ge σ x) (L : EvP gl σ lo) (R : EvP gh σ hi) (h : SlR x lo hi z) : Ev (gSlA ge gl gh) σ z := .mk fun k q => A _ (L _ (R _ (by
  rcases h with ⟨ds, rfl, rfl⟩ | ⟨ds, rfl, rfl⟩ | ⟨p, rfl, h, rfl⟩
  · exact q
  · exact q
  · exact ⟨h, q⟩)))
theorem ev_andV (A : Ev ga σ (.bl a)) (B : a = true → Ev gb σ (.bl b)) : Ev (gAndV ga gb) σ (.bl (a && b)) := .mk fun k q => A _ (by cases a with | true => exact B rfl k q | false => exact q)
theorem ev_orV (A : Ev ga σ (.bl a)) (B : a = false → Ev gb σ (.bl b)) : Ev (gOrV ga gb) σ (.bl (a || b)) := .mk fun k q => A _ (by cases a with | true => exact q | false => exact B rfl k q)
theorem ev_notV (A : Ev ga σ (.bl a)) : Ev (gNotV ga) σ (.bl (!a)) := .mk fun k q => A _ q
theorem ev_chain {rd rd' : D → D → (D → Prop) → Prop} {w : D} {gc : GE} (A : Ev ga σ x) (B : Ev gb σ y) (h : O2 rd x y (.bl a)) (C : a = true → Ev gc σ w) (h2 : a = true → O2 rd' y w (.bl b)) : Ev (gChain rd rd' ga gb gc) σ (.bl (a && b)) := .mk fun k q => A _ (B _ (h _ (by
  cases a with
  | true => exact C rfl _ (h2 rfl k q)
  | false => exact q)))
theorem sr_shp {n : Nat} {ix : List Nat} {dd : List D} (h : SR s es d) (e : es = pick ix (ds ++ dd)) (hl : ds.length = n) : SR (shp n ix dd s) ds d := .mk fun k eo q => ⟨hl, by rw [← e]; exact h _ _ q⟩
theorem sri_shp {C : Str} {n : Nat} {ix : List Nat} {dd fs : List D} {ns : List Str} (h : SRI si C es ns fs) (e : es = pick ix (ds ++ dd)) (hl : ds.length = n) : SRI (shpI n ix dd si) C ds ns fs := .mk fun k eo q => ⟨hl, by rw [← e]; exact h _ _ q⟩
theorem mp_i {α β : Type} {ds : List β} {l : List α} {gg : α → β} (h : ds = l.map gg) : ds = l.map gg := h
theorem pk_i {α : Type} {es l : List α} {ix : List Nat} (h : es = pick ix l) : es = pick ix l := h
theorem sr_same {n : Nat} (e : x = y) (h : goodD y = true) (hd : dep y < n) : SR (sSame n) [x, y] (.bl true) := .mk fun k eo q => ⟨y, by rw [e], h, hd, q⟩
/-! ### what is let out -/
theorem evx_mc {C m : Str} {ns : List Str} {X : XD} (A : Ev go σ (.ins C ns ds)) (hm : m ∉ ns) (B : EvA g1' σ es) (h : SX s (.ins C ns ds :: es) X) : EvX eo (gMc C m s eo go g1') σ X := .mk fun k q => A _ ⟨rfl, hm, B _ (h _ _ q)⟩
theorem o2_i {rd : D → D → (D → Prop) → Prop} (h : ∀ k : D → Prop, k z → rd x y k) : O2 rd x y z := ⟨h⟩
theorem o1_i {rd : D → (D → Prop) → Prop} (h : ∀ k : D → Prop, k z → rd x k) : O1 rd x z := ⟨h⟩
theorem on_i {rd : List D → (D → Prop) → Prop} (h : ∀ k : D → Prop, k z → rd ds k) : ON rd ds z := ⟨h⟩
theorem o_eqI {i j : Int} : O2 (dEqA false) (.int i) (.int j) (.bl (i == j)) := .mk fun k q => q
theorem o_neI {i j : Int} : O2 (dEqA true) (.int i) (.int j) (.bl (!(i == j))) := .mk fun k q => q
theorem o_eqS {i j : Str} : O2 (dEqA false) (.str i) (.str j) (.bl (i == j)) := .mk fun k q => q
theorem o_neS {i j : Str} : O2 (dEqA true) (.str i) (.str j) (.bl (!(i == j))) := .mk fun k q => q
theorem o_eqB {i j : Bool} : O2 (dEqA false) (.bl i) (.bl j) (.bl (i == j)) := .mk fun k q => q
theorem o_neB {i j : Bool} : O2 (dEqA true) (.bl i) (.bl j) (.bl (!(i == j))) := .mk fun k q => q
theorem o_all {α : Type} {f : α → Bool} {l : List α} : O1 dAll (.lst (l.map fun w => D.bl (f w))) (.bl (l.all f)) := .mk fun k q => dAll_bls q
theorem o_eqT2 {a b c d : Int} : O2 (dEqA false) (.tup [.int a, .int b]) (.tup [.int c, .int d]) (.bl ([a, b] == [c, d])) := .mk fun k q => dEqA_tints (l := [a, b]) (m := [c, d]) q
theorem o_neT2 {a b c d : Int} : O2 (dEqA true) (.tup [.int a, .int b]) (.tup [.int c, .int d]) (.bl (!([a, b] == [c, d]))) := .mk fun k q => dEqA_tints (l := [a, b]) (m := [c, d]) q
/-! ### tests -/
theorem evt_B (A : Ev ge σ (.bl c)) : EvT (gB ge) σ c := .mk fun k q => A _ q
theorem evt_and (A : EvT t σ a) (B : a = true → EvT u σ b) : EvT (gAnd t u) σ (a && b) := .mk fun k q => A _ (by cases a with | true => exact B rfl k q | false => exact q)
theorem evt_or (A : EvT t σ a) (B : a = false → EvT u σ b) : EvT (gOr t u) σ (a || b) := .mk fun k q => A _ (by cases a with | true => exact q | false => exact B rfl k q)
theorem evt_not (A : EvT t σ a) : EvT (gNot t) σ (!a) := .mk fun k q => A _ q
theorem evt_yes : EvT gYes σ true := .mk fun _ q => q
/-! ### what is walked over -/
theorem evi_it (A : Ev ge σ x) (I : ItR x ds) : EvI (gIt ge) σ ds := .mk fun _ q => A _ (by rcases I with rfl | rfl <;> exact q)
theorem evi_LL (A : Ev ge σ (.lst ds)) : EvI (gItL ge) σ ds := .mk fun _ q => A _ q
theorem evi_TT (A : Ev ge σ (.tup ds)) : EvI (gItT ge) σ ds := .mk fun _ q => A _ q
theorem evi_S {p : Str} (A : Ev ge σ (.str p)) : EvI (gItS ge) σ (signs p) := .mk fun _ q => A _ q
theorem evi_rng {j : Int} (A : Ev ge σ (.int j)) (h : -(2 ^ 62) ≤ j ∧ j < 2 ^ 62) : EvI (gRng1 ge) σ (rngD 0 j.toNat) := .mk fun _ q => A _ ⟨h, q⟩
theorem evi_rng2 {i j : Int} (A : Ev ga σ (.int i)) (B : Ev gb σ (.int j)) (h : -(2 ^ 62) ≤ i ∧ i < 2 ^ 62 ∧ -(2 ^ 62) ≤ j ∧ j < 2 ^ 62) : EvI (gRng2 ga gb) σ (rngD i (j - i).toNat) := .mk fun _ q => A _ (B _ ⟨h, q⟩)
theorem evi_zip (A : Ev ga σ x) (I : ItR x ds) (B : Ev gb σ y) (J : ItR y es) : EvI (gZipA ga gb) σ (pairsD ds es) := .mk fun _ q => A _ (B _ (by rcases I with rfl | rfl <;> rcases J with rfl | rfl <;> exact q))
theorem evi_en (A : Ev ga σ x) (I : ItR x ds) : EvI (gEnum ga) σ (enumD 0 ds) := .mk fun _ q => A _ (by rcases I with rfl | rfl <;> exact q)
theorem EvI.eq {gi : GI} (h : EvI gi σ ds) (e : ds = es) : EvI gi σ es := e ▸ h
theorem Ev.eq (h : Ev ge σ x) (e : x = y) : Ev ge σ y := e ▸ h
theorem EvT.eq (h : EvT t σ a) (e : a = b) : EvT t σ b := e ▸ h
/-! ### comprehensions -/
theorem aev1 {i : Nat} (A : Ev ge (put σ i (.sh d)) y) : AEv (.nm i) d σ ge y := .mk fun k q => A k q
theorem aev2 {i j : Nat} (A : Ev ge (put (put σ i (.sh d)) j (.sh x)) y) : AEv (.tp [.nm i, .nm j]) (.tup [d, x]) σ ge y := .mk fun k q => A k q
theorem aev3 {i j l : Nat} (A : Ev ge (put (put (put σ i (.sh d)) j (.sh x)) l (.sh z)) y) : AEv (.tp [.nm i, .nm j, .nm l]) (.tup [d, x, z]) σ ge y := .mk fun k q => A k q
/-- an item bound, tested, then read -/
structure AEvF (tg : Tgt) (d : D) (σ : StD) (t : GT) (ge : GE) (c : Bool) (y : D) : Prop where
  run : ∀ (kk : D → Prop) (ko : Prop), (c = true → kk y) → (c = false → ko) → asg tg d σ fun σ2 => t σ2 fun x => match x with | true => ge σ2 kk | false => ko
instance {tg : Tgt} {d : D} {σ : StD} {t : GT} {ge : GE} {c : Bool} {y : D} : CoeFun (AEvF tg d σ t ge c y) (fun _ => ∀ (kk : D → Prop) (ko : Prop), (c = true → kk y) → (c = false → ko) → asg tg d σ fun σ2 => t σ2 fun x => match x with | true => ge σ2 kk | false => ko) := ⟨AEvF.run⟩
theorem evf_of {kk : D → Prop} {ko : Prop} (T : EvT t σ c) (A : c = true → Ev ge σ y) (h1 : c = true → kk y) (h2 : c = false → ko) : t σ fun x => match x with | true => ge σ kk | false => ko := T _ (by
  cases c with
  | true => exact A rfl kk (h1 rfl)
  | false => exact h2 rfl)
theorem aevf1 {i : Nat} (T : EvT t (put σ i (.sh d)) c) (A : c = true → Ev ge (put σ i (.sh d)) y) : AEvF (.nm i) d σ t ge c y := .mk fun kk ko h1 h2 => evf_of T A h1 h2
theorem aevf2 {i j : Nat} (T : EvT t (put (put σ i (.sh d)) j (.sh x)) c) (A : c = true → Ev ge (put (put σ i (.sh d)) j (.sh x)) y) : AEvF (.tp [.nm i, .nm j]) (.tup [d, x]) σ t ge c y := .mk fun kk ko h1 h2 => evf_of T A h1 h2
theorem aevf3 {i j l : Nat} (T : EvT t (put (put (put σ i (.sh d)) j (.sh x)) l (.sh z)) c) (A : c = true → Ev ge (put (put (put σ i (.sh d)) j (.sh x)) l (.sh z)) y) : AEvF (.tp [.nm i, .nm j, .nm l]) (.tup [d, x, z]) σ t ge c y := .mk fun kk ko h1 h2 => evf_of T A h1 h2
theorem ev_lc {α : Type} {gi : GI} {tg : Tgt} {vs : List Nat} {l : List α} {gg f : α → D} (I : EvI gi σ ds) (e : ds = l.map gg) (h : ∀ w ∈ l, AEv tg (gg w) (wipeD σ vs) ge (f w)) (hl : l.length ≤ 1000000) : Ev (gLc gi tg gYes ge vs) σ (.lst (l.map f)) := .mk fun k q => I _ (by
  subst e
  exact lcD_mapL gg f (fun w hw kk hkk => h w hw kk hkk) (by rw [List.length_nil]; omega) q)
theorem ev_lcF {α : Type} {gi : GI} {tg : Tgt} {vs : List Nat} {l : List α} {gg f : α → D} {p : α → Bool} (I : EvI gi σ ds) (e : ds = l.map gg) (h : ∀ w ∈ l, AEvF tg (gg w) (wipeD σ vs) t ge (p w) (f w)) (hl : l.length ≤ 1000000) : Ev (gLc gi tg t ge vs) σ (.lst ((l.filter p).map f)) := .mk fun k q => I _ (by
  subst e
  exact lcD_fil gg f p (fun w hw kk ko z1 z2 => h w hw kk ko z1 z2) (by rw [List.length_nil]; omega) q)
/-! ### states laid out -/
structure Pt (σ : StD) (i : Nat) (x : SD) (τ : StD) : Prop where
  eq : put σ i x = τ
theorem pt0 {y x : SD} {r : StD} : Pt (y :: r) 0 x (x :: r) := ⟨rfl⟩
theorem pts {y x : SD} {r r' : StD} {n : Nat} (h : Pt r n x r') : Pt (y :: r) (n + 1) x (y :: r') := ⟨by show y :: put r n x = _; rw [h.eq]⟩
structure NS (σ τ : StD) : Prop where
  eq : σ = τ
theorem ns_put {σ τ τ' : StD} {i : Nat} {x : SD} (h : NS σ τ) (p : Pt τ i x τ') : NS (put σ i x) τ' := ⟨by rw [h.eq, p.eq]⟩
theorem ns_wipe {σ τ τ' : StD} {q : Str} {v : Nat} {r : List (Str × Nat)} (h : NS (wipeD σ (r.map fun x => x.2)) τ) (p : Pt τ v .unset τ') : NS (wipeD σ (((q, v) :: r).map fun x => x.2)) τ' := ⟨by show put (wipeD σ (r.map fun x => x.2)) v .unset = _; rw [h.eq, p.eq]⟩
theorem ns_wipe0 {σ τ : StD} (h : NS σ τ) : NS (wipeD σ (([] : List (Str × Nat)).map fun x => x.2)) τ := ⟨h.eq⟩
theorem ns_id {σ : StD} : NS σ σ := ⟨rfl⟩
theorem n_st {v : GSt} {D' : EndD} {σ τ : StD} (n : NS σ τ) (h : Stp (v D' τ)) : Stp (v D' σ) := ⟨by rw [n.eq]; exact h.run⟩
/-! ### statements -/
section
variable {v w u' : GSt} {D' : EndD} {i j l n : Nat}
theorem as1 {i : Nat} {k : StD → Prop} {τ : StD} {ρ : StD} (N : NS ρ σ) (p : Pt σ i (.sh d) τ) (h : Stp (k τ)) : Stp (asg (.nm i) d ρ k) := ⟨by rw [N.eq]; show k (put σ i (.sh d)); rw [p.eq]; exact h.run⟩
theorem as2 {i j : Nat} {k : StD → Prop} {τ τ2 : StD} {ρ : StD} (N : NS ρ σ) (p : Pt σ i (.sh x) τ) (p2 : Pt τ j (.sh y) τ2) (h : Stp (k τ2)) : Stp (asg (.tp [.nm i, .nm j]) (.tup [x, y]) ρ k) := ⟨by rw [N.eq]; show k (put (put σ i (.sh x)) j (.sh y)); rw [p.eq, p2.eq]; exact h.run⟩
theorem as3 {i j l : Nat} {k : StD → Prop} {τ τ2 τ3 : StD} {ρ : StD} (N : NS ρ σ) (p : Pt σ i (.sh x) τ) (p2 : Pt τ j (.sh y) τ2) (p3 : Pt τ2 l (.sh z) τ3) (h : Stp (k τ3)) : Stp (asg (.tp [.nm i, .nm j, .nm l]) (.tup [x, y, z]) ρ k) := ⟨by rw [N.eq]; show k (put (put (put σ i (.sh x)) j (.sh y)) l (.sh z)); rw [p.eq, p2.eq, p3.eq]; exact h.run⟩
theorem as2l {i j : Nat} {k : StD → Prop} {τ τ2 : StD} {ρ : StD} (N : NS ρ σ) (p : Pt σ i (.sh x) τ) (p2 : Pt τ j (.sh y) τ2) (h : Stp (k τ2)) : Stp (asg (.tp [.nm i, .nm j]) (.lst [x, y]) ρ k) := ⟨by rw [N.eq]; show k (put (put σ i (.sh x)) j (.sh y)); rw [p.eq, p2.eq]; exact h.run⟩
theorem as3l {i j l : Nat} {k : StD → Prop} {τ τ2 τ3 : StD} {ρ : StD} (N : NS ρ σ) (p : Pt σ i (.sh x) τ) (p2 : Pt τ j (.sh y) τ2) (p3 : Pt τ2 l (.sh z) τ3) (h : Stp (k τ3)) : Stp (asg (.tp [.nm i, .nm j, .nm l]) (.lst [x, y, z]) ρ k) := ⟨by rw [N.eq]; show k (put (put (put σ i (.sh x)) j (.sh y)) l (.sh z)); rw [p.eq, p2.eq, p3.eq]; exact h.run⟩
theorem nx_mk {f : StD → Prop} {r : D → Prop} {b c : StD → Prop} (h : Stp (f σ)) : Stp (EndD.nx ⟨f, r, b, c⟩ σ) := ⟨h.run⟩
theorem s_asg (A : Ev ge σ d) {τ : StD} (p : Pt σ i (.sh d) τ) (r : Stp (v D' τ)) : Stp (gSeq (gAsg i ge) v D' σ) := ⟨A _ (by show v D' (put σ i (.sh d)); rw [p.eq]; exact r.run)⟩
theorem s_asgL (A : Ev ge σ d) {τ : StD} (p : Pt σ i (.sh d) τ) (r : Stp (D'.nx τ)) : Stp (gAsg i ge D' σ) := ⟨A _ (by rw [p.eq]; exact r.run)⟩
theorem s_tgt2 (A : Ev ge σ (.tup [x, y])) {τ τ2 : StD} (p : Pt σ i (.sh x) τ) (p2 : Pt τ j (.sh y) τ2) (r : Stp (v D' τ2)) : Stp (gSeq (gTgt (.tp [.nm i, .nm j]) ge) v D' σ) := ⟨A _ (by show v D' (put (put σ i (.sh x)) j (.sh y)); rw [p.eq, p2.eq]; exact r.run)⟩
theorem s_psh (e : .own ds = look σ i) (A : Ev ge σ d) (h : ds.length < 100000) {τ : StD} (p : Pt σ i (.own (ds ++ [d])) τ) (r : Stp (v D' τ)) : Stp (gSeq (gPsh i ge) v D' σ) := ⟨by
  show gPsh i ge _ σ
  unfold gPsh
  rw [← e]
  exact A _ ⟨h, by show v D' (put σ i (.own (ds ++ [d]))); rw [p.eq]; exact r.run⟩⟩
theorem s_pshL (e : .own ds = look σ i) (A : Ev ge σ d) (h : ds.length < 100000) {τ : StD} (p : Pt σ i (.own (ds ++ [d])) τ) (r : Stp (D'.nx τ)) : Stp (gPsh i ge D' σ) := ⟨by
  unfold gPsh
  rw [← e]
  exact A _ ⟨h, by rw [p.eq]; exact r.run⟩⟩
theorem s_pub (e : .own ds = look σ i) {τ : StD} (p : Pt σ i (.sh (.lst ds)) τ) (r : Stp (v D' τ)) : Stp (gPub i v D' σ) := ⟨by
  show v D' (pubD i σ)
  unfold pubD
  rw [← e]
  show v D' (put σ i (.sh (.lst ds)))
  rw [p.eq]; exact r.run⟩
theorem s_ifN (T : EvT t σ c) (A : c = true → Stp (v { D' with nx := u' D' } σ)) (B : c = false → Stp (u' D' σ)) : Stp (gSeq (gIfS t v gNext) u' D' σ) := ⟨T _ (by cases c with | true => exact (A rfl).run | false => exact (B rfl).run)⟩
theorem s_ifT (T : EvT t σ c) (e : c = true) (A : Stp (v { D' with nx := u' D' } σ)) : Stp (gSeq (gIfS t v w) u' D' σ) := ⟨T _ (by subst e; exact A.run)⟩
theorem s_ifFN (T : EvT t σ c) (e : c = false) (B : Stp (u' D' σ)) : Stp (gSeq (gIfS t v gNext) u' D' σ) := ⟨T _ (by subst e; exact B.run)⟩
theorem s_ifLN (T : EvT t σ c) (A : c = true → Stp (v D' σ)) (B : c = false → Stp (D'.nx σ)) : Stp (gIfS t v gNext D' σ) := ⟨T _ (by cases c with | true => exact (A rfl).run | false => exact (B rfl).run)⟩
theorem s_ifLT (T : EvT t σ c) (e : c = true) (A : Stp (v D' σ)) : Stp (gIfS t v w D' σ) := ⟨T _ (by subst e; exact A.run)⟩
theorem s_ifLFN (T : EvT t σ c) (e : c = false) (B : Stp (D'.nx σ)) : Stp (gIfS t v gNext D' σ) := ⟨T _ (by subst e; exact B.run)⟩
theorem s_ret (A : Ev ge σ d) (r : Stp (D'.rt d)) : Stp (gRet ge D' σ) := ⟨A _ r.run⟩
theorem s_for {gi : GI} {tg : Tgt} (A : EvI gi σ ds) (r : Stp (forD tg v ds { D' with nx := u' D' } σ)) : Stp (gSeq (gFor gi tg v) u' D' σ) := ⟨A _ r.run⟩
theorem s_forL {gi : GI} {tg : Tgt} (A : EvI gi σ ds) (r : Stp (forD tg v ds D' σ)) : Stp (gFor gi tg v D' σ) := ⟨A _ r.run⟩
end
/-! ### a walk with what it gathers -/
theorem forD_rel {α S : Type} {tg : Tgt} {gb : GSt} {gg : α → D} (R : S → StD → Prop) (step : S → α → S) : ∀ {l : List α} {s : S} {σ : StD} {D' : EndD},
    (∀ x ∈ l, ∀ (s : S) (σ : StD) (D2 : EndD), R s σ → (∀ σ', R (step s x) σ' → D2.nx σ') → (∀ σ', R (step s x) σ' → D2.ct σ') → D2.rt = D'.rt → asg tg (gg x) σ fun σ2 => gb D2 σ2) → R s σ → (∀ σ', R (l.foldl step s) σ' → D'.nx σ') → forD tg gb (l.map gg) D' σ
  | [], _, _, _, _, r, e => e _ r
  | x :: l, s, σ, D', h, r, e => h x List.mem_cons_self s σ _ r (fun σ' r' => forD_rel R step (fun y hy => h y (List.mem_cons_of_mem _ hy)) r' e) (fun σ' r' => forD_rel R step (fun y hy => h y (List.mem_cons_of_mem _ hy)) r' e) rfl
end
/-! ### draws, lambdas, what is asked -/
section
variable {σ : StD} {d x y z : D} {ds es : List D} {ge : GE} {g1' : GA} {eo : XD → Prop} {v : GSt} {D' : EndD} {i : Nat}
/-- what the asks come to -/
structure AnsR (A : LamO → (Str → D → Prop) → Prop) (os : List LamO) (acc rs : List D) : Prop where
  run : ∀ k : D → Prop, k (.lst rs) → ansL A os acc k
instance {A : LamO → (Str → D → Prop) → Prop} {os : List LamO} {acc rs : List D} : CoeFun (AnsR A os acc rs) (fun _ => ∀ k : D → Prop, k (.lst rs) → ansL A os acc k) := ⟨AnsR.run⟩
end
/-! ### step by step, where something is drawn -/
section
variable {σ : StD} {d x y z : D} {ds es : List D} {ga gb ge g go : GE} {g1' g2' : GA} {eo : XD → Prop} {v : GSt} {D' : EndD} {i j : Nat} {k : D → Prop} {ka : List D → Prop} {s : GS} {si : GSI}
theorem c_ev (A : Ev g σ d) (q : Stp (k d)) : Stp (g σ k) := ⟨A k q.run⟩
theorem c_asg (h : Stp (ge σ fun d => v D' (put σ i (.sh d)))) : Stp (gSeq (gAsg i ge) v D' σ) := ⟨h.run⟩
theorem c_tgt {t : Tgt} (h : Stp (ge σ fun d => asg t d σ (v D'))) : Stp (gSeq (gTgt t ge) v D' σ) := ⟨h.run⟩
theorem c_par (h : Stp (ga σ fun x => gb σ fun y => v D' (put (put σ i (.sh x)) j (.sh y)))) : Stp (gSeq (gPar i j ga gb) v D' σ) := ⟨h.run⟩
theorem c_nil (h : Stp (ka [])) : Stp (gNil σ ka) := ⟨h.run⟩
theorem c_cons (h : Stp (ge σ fun d => g1' σ fun ds => ka (d :: ds))) : Stp (gCons ge g1' σ ka) := ⟨h.run⟩
theorem c_app (h : Stp (g1' σ fun ds => g2' σ fun es => ka (ds ++ es))) : Stp (gApp g1' g2' σ ka) := ⟨h.run⟩
theorem c_tup (h : Stp (g1' σ fun ds => ds.length ≤ 1000 ∧ k (.tup ds))) : Stp (gTup g1' σ k) := ⟨h.run⟩
theorem c_lst (h : Stp (g1' σ fun ds => ds.length ≤ 1000 ∧ k (.lst ds))) : Stp (gLst g1' σ k) := ⟨h.run⟩
theorem c_g2 {rd : D → D → (D → Prop) → Prop} (h : Stp (ga σ fun x => gb σ fun y => rd x y k)) : Stp (g2 rd ga gb σ k) := ⟨h.run⟩
theorem c_g1 {rd : D → (D → Prop) → Prop} (h : Stp (ga σ fun x => rd x k)) : Stp (g1 rd ga σ k) := ⟨h.run⟩
theorem c_c (h : Stp (k d)) : Stp (gC d σ k) := ⟨h.run⟩
theorem c_var (e : .sh d = look σ i) (h : Stp (k d)) : Stp (gVar i σ k) := ⟨ev_var e k h.run⟩
theorem c_addI {a b : Int} (h : Stp (k (.int (a + b)))) : Stp (dAddB (.int a) (.int b) k) := ⟨h.run⟩
theorem c_subI {a b : Int} (h : Stp (k (.int (a - b)))) : Stp (dI0 (fun i j => .int (i - j)) (.int a) (.int b) k) := ⟨h.run⟩
theorem c_mulI {a b : Int} (m : MulOk a b) (h : Stp (k (.int (a * b)))) : Stp (dMulA (.int a) (.int b) k) := ⟨m, h.run⟩
theorem c_o2 {rd : D → D → (D → Prop) → Prop} (A : O2 rd x y z) (h : Stp (k z)) : Stp (rd x y k) := ⟨A k h.run⟩
theorem c_draw {gv : GE} {m : Int} (e : Ev gv σ .bag) (A : Ev ge σ (.int m)) (h0 : 0 < m) (hd : DivOk m) (h : ∀ n : Int, 0 ≤ n → n < m → Stp (k (.int n))) : Stp (gCa sDraw eo (gCons gv (gCons ge gNil)) σ k) := ⟨e _ (A _ ⟨m, rfl, h0, hd, fun n a b => (h n a b).run⟩)⟩
theorem c_of {gv : GE} (e : Ev gv σ .bag) (A : Ev ge σ x) (h0 : itemsD x ≠ []) (hl : (itemsD x).length ≤ 1000000) (h : ∀ d ∈ itemsD x, Stp (k d)) : Stp (gCa sOf eo (gCons gv (gCons ge gNil)) σ k) := ⟨e _ (A _ ⟨x, rfl, h0, hl, fun d hd => (h d hd).run⟩)⟩
theorem c_ca (h : Stp (g1' σ fun ds => s ds k eo)) : Stp (gCa s eo g1' σ k) := ⟨h.run⟩
theorem c_sr (A : SR s ds d) (h : Stp (k d)) : Stp (s ds k eo) := ⟨A k eo h.run⟩
theorem c_mk {C : Str} (h : Stp (g1' σ fun ds => si C [] [] ds (fun ns fs => k (.ins C ns fs)) eo)) : Stp (gMk C si eo g1' σ k) := ⟨h.run⟩
theorem c_sri {C : Str} {ns : List Str} {fs : List D} {kk : List Str → List D → Prop} (A : SRI si C ds ns fs) (h : Stp (kk ns fs)) : Stp (si C [] [] ds kk eo) := ⟨A kk eo h.run⟩
theorem c_len {n : Nat} {p : Prop} (a : Nat.ble ds.length n = true) (h : Stp p) : Stp (ds.length ≤ n ∧ p) := ⟨Nat.le_of_ble_eq_true a, h.run⟩
theorem c_lt {n : Nat} {p : Prop} (a : Nat.blt ds.length n = true) (h : Stp p) : Stp (ds.length < n ∧ p) := ⟨Nat.le_of_ble_eq_true a, h.run⟩
theorem c_lc {gi : GI} {t : Tgt} {gt : GT} {vs : List Nat} (I : EvI gi σ ds) (h : Stp (lcD t gt ge (wipeD σ vs) ds [] k)) : Stp (gLc gi t gt ge vs σ k) := ⟨I _ h.run⟩
theorem c_lc1 {t : Tgt} {r acc : List D} (h : Stp (asg t d σ fun σ2 => ge σ2 fun y => acc.length < 1000000 ∧ lcD t gYes ge σ r (acc ++ [y]) k)) : Stp (lcD t gYes ge σ (d :: r) acc k) := ⟨h.run⟩
theorem c_lc0 {t : Tgt} {gt : GT} {acc : List D} (h : Stp (k (.lst acc))) : Stp (lcD t gt ge σ [] acc k) := ⟨h.run⟩
/-- two rounds -/
theorem c_rng2 {t : Tgt} (h : Stp (lcD t gYes ge σ [.int 0, .int 1] [] k)) : Stp (lcD t gYes ge σ (rngD 0 (2 : Int).toNat) [] k) := ⟨h.run⟩
theorem c_rng3 {t : Tgt} (h : Stp (lcD t gYes ge σ [.int 0, .int 1, .int 2] [] k)) : Stp (lcD t gYes ge σ (rngD 0 (3 : Int).toNat) [] k) := ⟨h.run⟩
end
theorem forS_rel {α S : Type} {tg : Tgt} {gb : GSt} {gg : α → D} (R : S → StD → Prop) (step : S → α → S) {l : List α} {s : S} {σ : StD} {D' : EndD}
    (h : ∀ x ∈ l, ∀ (s : S) (σ : StD) (D2 : EndD), R s σ → (∀ σ', R (step s x) σ' → D2.nx σ') → (∀ σ', R (step s x) σ' → D2.ct σ') → D2.rt = D'.rt → Stp (asg tg (gg x) σ fun σ2 => gb D2 σ2)) (hr : R s σ) (e : ∀ σ', R (l.foldl step s) σ' → Stp (D'.nx σ')) : Stp (forD tg gb (l.map gg) D' σ) :=
  ⟨forD_rel R step (fun x hx s σ D2 a b c d => (h x hx s σ D2 a b c d).run) hr fun σ' q => (e σ' q).run⟩
end DL
/-! DK1 -/
set_option Elab.async false
set_option linter.all false
set_option maxRecDepth 100000
set_option maxHeartbeats 4000000
/-! Texts: split, partition, the number that a text writes. -/
namespace DL
open PySem PySem.Spec PyProof.Rows L2
variable [TabC]
section
variable {X : Cx} {b : Option Addr} {H0 : Hp} {a c e : Expr} {ga gb ge : GE} {pos apos : Pos} {K : Fg}
def gTM (rd : Str → D → (D → Prop) → Prop) (ga gb : GE) : GE := fun σ k => ga σ fun x => match x with
  | .str s => gb σ fun y => rd s y k
  | _ => False
def dSplit : Str → D → (D → Prop) → Prop := fun x y k => match y with | .str z => ((z.length == 0) = false ∧ x.length ≤ 1000000) ∧ k (.lst ((Txt.split x z).map D.str)) | _ => False
def dPart : Str → D → (D → Prop) → Prop := fun x y k => match y with | .str z => ((z.length == 0) = false ∧ x.length ≤ 1000000) ∧ k (.tup [.str (Txt.partition x z).1, .str (Txt.partition x z).2.1, .str (Txt.partition x z).2.2]) | _ => False
def dIntS : D → (D → Prop) → Prop := fun x k => match x with | .str z => ∃ n, PySem.intText? z = some n ∧ z.length ≤ 640 ∧ k (.int n) | _ => False
end
/-- as one value -/
structure OT (rd : Str → D → (D → Prop) → Prop) (x : Str) (y z : D) : Prop where
  run : ∀ k : D → Prop, k z → rd x y k
theorem ev_tm {rd : Str → D → (D → Prop) → Prop} {σ : StD} {ga gb : GE} {x : Str} {y z : D} (A : Ev ga σ (.str x)) (B : Ev gb σ y) (h : OT rd x y z) : Ev (gTM rd ga gb) σ z := .mk fun k q => A _ (B _ (h.run k q))
theorem ot_split {x z : Str} (h : (z.length == 0) = false) (hl : x.length ≤ 1000000) : OT dSplit x (.str z) (.lst ((Txt.split x z).map D.str)) := ⟨fun k q => ⟨⟨h, hl⟩, q⟩⟩
theorem ot_part {x z : Str} (h : (z.length == 0) = false) (hl : x.length ≤ 1000000) : OT dPart x (.str z) (.tup [.str (Txt.partition x z).1, .str (Txt.partition x z).2.1, .str (Txt.partition x z).2.2]) := ⟨fun k q => ⟨⟨h, hl⟩, q⟩⟩
theorem o_intS {z : Str} {n : Int} (h : PySem.intText? z = some n) (hl : z.length ≤ 640) : O1 dIntS (.str z) (.int n) := .mk fun k q => ⟨n, h, hl, q⟩
end DL
/-! DK2 -/
set_option Elab.async false
set_option linter.all false
set_option maxRecDepth 100000
set_option maxHeartbeats 4000000
/-! x in a tuple of data. -/
namespace DL
open PySem PySem.Spec PyProof.Rows L2
variable [TabC]
section
variable {X : Cx} {b : Option Addr} {H0 : Hp} {a c : Expr} {ga gb : GE} {pos : Pos}
def dInT (neg : Bool) : D → D → (D → Prop) → Prop := fun x y k => match toPy x, y with
  | some d, .tup es => (match toPys es with
    | some ds => SeqAt.shaped d = true ∧ SeqAt.shaped (.tuple ds) = true ∧ k (.bl (if neg then !(ds.any fun z => PyData.eqv z d) else ds.any fun z => PyData.eqv z d))
    | none => False)
  | _, _ => False
end
theorem o_inS {c : Nat} {z : Str} : O2 (dInA false) (.str ⟨#[c]⟩) (.str z) (.bl (decide (c ∈ z.cps.toList))) := .mk fun k q => ⟨c, rfl, q⟩
theorem o_ninS {c : Nat} {z : Str} : O2 (dInA true) (.str ⟨#[c]⟩) (.str z) (.bl (!decide (c ∈ z.cps.toList))) := .mk fun k q => ⟨c, rfl, q⟩
theorem o_ixS {w : Str} {i : Int} {c : Nat} (h : atI w.cps.toList i = some c) (hl : w.length ≤ 1000000) : O2 dIx (.str w) (.int i) (.str ⟨#[c]⟩) := .mk fun k q => ⟨hl, by
  show match atI w.cps.toList i with | some c => k (.str ⟨#[c]⟩) | none => False
  rw [h]; exact q⟩
theorem o_inL {x : D} {ds : List D} (h : (flatD x && ds.all flatD) = true) : O2 (dInA false) x (.lst ds) (.bl (ds.any fun z => eqF z x)) := .mk fun k q => by
  show bif flatD x && ds.all flatD then _ else _
  rw [h]; exact q
theorem o_inTu {x : D} {ds : List D} (h : (flatD x && ds.all flatD) = true) : O2 (dInA false) x (.tup ds) (.bl (ds.any fun z => eqF z x)) := .mk fun k q => ⟨h, q⟩
/-! ### a call with a star: one of two numbers of arguments -/
end DL
/-! DK3 -/
set_option Elab.async false
set_option linter.all false
set_option maxRecDepth 100000
set_option maxHeartbeats 4000000
/-! What a split hands out. -/
namespace DL
open PySem PySem.Spec PyProof.Rows L2
end DL
/-! DK4 -/
set_option Elab.async false
set_option linter.all false
set_option maxRecDepth 100000
set_option maxHeartbeats 4000000
/-! Steps: what is raised; a list in a tuple of lists. -/
namespace DL
open PySem PySem.Spec PyProof.Rows L2
variable [TabC]
section
variable {σ : StD} {x : D} {ds es dd : List D} {eo : XD → Prop} {v : GSt} {D' : EndD} {g1' : GA} {c code : Str} {flds : List Str}
theorem s_raise (A : EvA g1' σ ds) (h1 : (ds ++ dd).length = flds.length) (h2 : ds.length ≤ 900) (q : Stp (eo (errX c code flds (ds ++ dd)))) : Stp (gRaise c code flds dd eo g1' D' σ) := ⟨A _ ⟨h1, h2, q.run⟩⟩
theorem s_raiseS (A : EvA g1' σ ds) (h1 : (ds ++ dd).length = flds.length) (h2 : ds.length ≤ 900) (q : Stp (eo (errX c code flds (ds ++ dd)))) : Stp (gSeq (gRaise c code flds dd eo g1') v D' σ) := ⟨A _ ⟨h1, h2, q.run⟩⟩
theorem o_inT {d : PyData} {qs : List PyData} (h1 : toPy x = some d) (h2 : toPys es = some qs) (s1 : SeqAt.shaped d = true) (s2 : SeqAt.shaped (.tuple qs) = true) : O2 (dInT false) x (.tup es) (.bl (qs.any fun z => PyData.eqv z d)) := .mk fun k q => by
  show match toPy x, (D.tup es) with
    | some d, .tup es => (match toPys es with
      | some ds => SeqAt.shaped d = true ∧ SeqAt.shaped (.tuple ds) = true ∧ k (.bl (if false then !(ds.any fun z => PyData.eqv z d) else ds.any fun z => PyData.eqv z d))
      | none => False)
    | _, _ => False
  rw [h1]
  show match toPys es with
      | some ds => SeqAt.shaped d = true ∧ SeqAt.shaped (.tuple ds) = true ∧ k (.bl (if false then !(ds.any fun z => PyData.eqv z d) else ds.any fun z => PyData.eqv z d))
      | none => False
  rw [h2]
  exact ⟨s1, s2, q⟩
theorem o_pow {i j : Int} (h1 : 0 ≤ j) (h2 : j ≤ 1000000) (h3 : i.natAbs < 2 ^ 64) : O2 dPow (.int i) (.int j) (.int (i ^ j.toNat)) := .mk fun k q => ⟨⟨h1, h2, h3⟩, q⟩
theorem evt_abs {t : GT} (h : False) : EvT t σ false := h.elim
end
end DL
/-! DM1 -/
set_option Elab.async false
set_option linter.all false
set_option maxRecDepth 100000
set_option maxHeartbeats 4000000
/-! Lists that are new: handed back by a def, then changed or kept as the frame's own. -/
namespace DL
open PySem PySem.Spec PyProof.Rows L2
variable [TabC]
/-- the heap keeps nothing at p -/
def Fre (H : Hp) (p : Addr) : Prop := ∀ o, H p = some o → nt o = false
section
variable {K : Fg} {b : Option Addr} {H0 H H1 : Hp} {σd : StD} {σ : L2.St} {O : List Addr} {p : Addr} {vs us : List V}
theorem Rst.fre (R : Rst K b H0 σd σ H O) (h : Fre H p) : p ∉ O := fun m => by
  obtain ⟨o, e, t, _⟩ := (R.nb p m).2.2.nt
  rw [h o e] at t; cases t
theorem hid_more {a : Addr} (h : Hid O H a) : Hid (p :: O) H a := by
  obtain ⟨o, e, q⟩ := h
  refine ⟨o, e, ?_⟩
  cases o with
  | lst _ => trivial
  | dK _ => trivial
  | dT _ => trivial
  | ins _ dx _ => exact List.mem_cons_of_mem _ q
  | own x =>
    obtain ⟨q1, C, fs, q2⟩ := q
    exact ⟨List.mem_cons_of_mem _ q1, C, fs, q2⟩
  | _ => exact q.elim
theorem Rst.hideX (R : Rst K b H0 σd σ H O) (hb : some p ≠ b) (hf : Fre H p) (x : Ext b H H1) (hp : H1 p = some (.lst vs)) : Ext b (hide O H) (hide (p :: O) H1) := by
  have hm : ∀ c ∈ p :: O, ∃ o, H1 c = some o ∧ nt o = true ∧ ∀ y q, o ≠ LamX.CodeO y q := fun c m => by
    rcases List.mem_cons.mp m with e | m
    · subst e
      exact (show Hid O H1 c from ⟨.lst vs, hp, trivial⟩).nt
    · obtain ⟨o, e, t1, t2⟩ := (R.nb c m).2.2.nt
      exact ⟨o, x.1 c o (R.nb c m).1 e t1, t1, t2⟩
  refine ⟨fun a o n h t => ?_, fun a e c i j m h h0 => ?_, fun t => tabs_hide hm (x.2.2 (tabs_unhide t))⟩
  · obtain ⟨h1, h2⟩ := of_hide h
    have ne : a ≠ p := fun e => by subst e; rw [hf o h2] at t; cases t
    rw [hide_out (fun z => by rcases List.mem_cons.mp z with z | z; exact ne z; exact h1 z)]
    exact x.1 a o n h2 t
  · obtain ⟨h1, h2⟩ := of_hide h
    have ne : a ≠ p := fun z => hb (by rw [← z, e])
    rw [hide_out (fun z => by rcases List.mem_cons.mp z with z | z; exact ne z; exact h1 z)]
    exact x.2.1 a e c i j m h2 h0
/-- the new list is hidden -/
theorem Rst.hideP (R : Rst K b H0 σd σ H O) (hb : some p ≠ b) (hf : Fre H p) (x : Ext b H H1) (hp : H1 p = some (.lst vs)) : Rst K b H0 σd σ H1 (p :: O) where
  len := R.len
  slot := fun j => by
    have xx := R.hideX hb hf x hp
    have s := R.slot j
    cases e : look σd j with
    | unset => trivial
    | sh d =>
      rw [e] at s
      obtain ⟨v, e1, r1⟩ := s
      exact ⟨v, e1, r1.mono xx.1⟩
    | own es =>
      rw [e] at s
      obtain ⟨a, us, e1, m, h1, r1⟩ := s
      exact ⟨a, us, e1, List.mem_cons_of_mem _ m, x.1 _ _ (R.nb a m).1 h1 rfl, r1.mono xx.1⟩
    | gho a es =>
      rw [e] at s
      obtain ⟨us, m, h1, r1⟩ := s
      exact ⟨us, List.mem_cons_of_mem _ m, x.1 _ _ (R.nb a m).1 h1 rfl, r1.mono xx.1⟩
    | owd kx es =>
      rw [e] at s
      obtain ⟨a, us, e1, m, h1, r1⟩ := s
      exact ⟨a, us, e1, List.mem_cons_of_mem _ m, x.1 _ _ (R.nb a m).1 h1 rfl, r1.mono xx.1⟩
    | ott kx es =>
      rw [e] at s
      obtain ⟨a, us, e1, m, h1, r1⟩ := s
      exact ⟨a, us, e1, List.mem_cons_of_mem _ m, x.1 _ _ (R.nb a m).1 h1 rfl, r1.mono xx.1⟩
    | obj a dx c ns es =>
      rw [e] at s
      obtain ⟨us, e1, m, md, h1, h2, l, r1⟩ := s
      exact ⟨us, e1, List.mem_cons_of_mem _ m, List.mem_cons_of_mem _ md, x.1 _ _ (R.nb a m).1 h1 rfl, x.1 _ _ (R.nb dx md).1 h2 rfl, l, r1.mono xx.1⟩
  uniq := R.uniq
  nb := fun a m => by
    rcases List.mem_cons.mp m with e | m
    · subst e
      exact ⟨hb, trivial, .lst vs, hp, trivial⟩
    · obtain ⟨n1, _, h⟩ := (R.mono x).nb a m
      exact ⟨n1, trivial, hid_more h⟩
  le := R.le.trans (R.hideX hb hf x hp)
  bg := R.bg.ext (R.hideX hb hf x hp)
theorem Rst.noOwn (R : Rst K b H0 σd σ H O) (h : p ∉ O) (j : Nat) : ¬ Owns (look σd j) (σ.getD j none) p := fun z => h (owns_in z (R.slot j))
/-- .. becomes a slot's own -/
theorem Rst.takeP (R : Rst K b H0 σd σ H O) (i : Nat) {ds : List D} (hn : ∀ j, ¬ Owns (look σd j) (σ.getD j none) p) (hm : p ∈ O) (hp : H p = some (.lst vs)) (r : Reps K b (hide O H) ds vs) : Rst K b H0 (put σd i (.own ds)) (σ.set i (some (.ref p))) H O where
  len := by rw [put_length, List.length_set]; exact R.len
  slot := fun j => by
    rw [look_put2, getD_set, R.len]
    by_cases h : j = i ∧ i < σ.length
    · rw [if_pos h, if_pos h]
      exact ⟨p, vs, rfl, hm, hp, r⟩
    · rw [if_neg h, if_neg h]; exact R.slot j
  uniq := fun j k a h1 h2 => by
    rw [look_put2, getD_set, R.len] at h1 h2
    by_cases hj : j = i ∧ i < σ.length
    · rw [if_pos hj, if_pos hj] at h1
      have h1 : a = p := h1
      subst h1
      by_cases hk : k = i ∧ i < σ.length
      · rw [hj.1, hk.1]
      · rw [if_neg hk, if_neg hk] at h2
        exact (hn k h2).elim
    · rw [if_neg hj, if_neg hj] at h1
      by_cases hk : k = i ∧ i < σ.length
      · rw [if_pos hk, if_pos hk] at h2
        have h2 : a = p := h2
        subst h2
        exact (hn j h1).elim
      · rw [if_neg hk, if_neg hk] at h2
        exact R.uniq j k a h1 h2
  nb := R.nb
  le := R.le
  bg := R.bg
end
/-! ### expressions that make a new list -/
section
variable (K : Fg) (b : Option Addr) (H0 : Hp)
def LF (g : GE) : TE := fun σ H Q => ∃ σd O, Rst K b H0 σd σ H O ∧ g σd fun d => match d with
  | .lst ds => ∀ p vs H', some p ≠ b → Fre H p → Ext b H H' → H' p = some (.lst vs) → Reps K b (hide (p :: O) H') ds vs → Q (.ref p) H'
  | _ => False
end
structure DF (b : Option Addr) (H0 : Hp) (X : Cx) (e : Expr) (g : GE) : Prop where
  pe : PE X e (LF X.K b H0 g)
  mn : Mn g
/-- a list alone -/
def gLs (g : GE) : GE := fun σ k => g σ fun d => match d with | .lst ds => k (.lst ds) | _ => False
section
variable {X : Cx} {b : Option Addr} {H0 : Hp} {e a : Expr} {es : List Expr} {g ga ge : GE} {gA : GA} {pos p : Pos}
theorem fre_none {H : Hp} {p : Addr} (h : H p = none) : Fre H p := fun o e => by rw [h] at e; cases e
theorem df_lst (A : DAr b H0 X es gA) : DF b H0 X (.List es pos) (gLst gA) := by
  refine ⟨pe_imp (pe_lst A.pa) fun σ H Q ⟨σd, O, R, q⟩ => ?_, fun σ k k' i q => A.mn _ _ _ (fun x hx => ⟨hx.1, i _ hx.2⟩) q⟩
  refine ⟨σd, O, R, A.mn _ _ _ (fun ds hd vs H1 x1 r1 => ?_) q⟩
  refine ⟨by rw [← r1.length]; exact le_line hd.1, fun p hp => ?_⟩
  have hf : Fre H p := fun o e => by
    cases t : nt o with
    | false => rfl
    | true =>
      exfalso
      by_cases hb : some p = b
      · have := (R.mono x1).free hp
        exact this.2 hb
      · have := x1.1 p o hb e t
        rw [hp] at this; cases this
  exact hd.2 p vs _ ((R.mono x1).free hp).2 hf (x1.trans (.new hp)) upd_same (by rw [hide_newO hp]; exact r1)
/-- list(x) -/
theorem df_list (hg : Gl X "list") (hm : X.mg "list" = none) (A : DE b H0 X a ga) (he : starEach [a] X.env = (false, eval a X.env) :: starEach [] X.env := by rfl) : DF b H0 X (.Call (.Name "list" p) [a] [] pos) (g1 dList ga) := by
  refine ⟨pe_imp (pe_callTy call_list_of hg hm rfl (pa_cons A.pe pa_nil he) (by decide) (by decide) he rfl) fun σ H Q ⟨σd, O, R, q⟩ => ?_, g1_mn (cl_list (X := X) (b := b)).mn A.mn⟩
  refine ⟨σd, O, R, A.mn _ _ _ (fun d hd v1 H1 x1 r1 => ?_) q⟩
  have key : ∀ {ds : List D} {ys : List V}, (∀ p vs H', some p ≠ b → Fre H p → Ext b H H' → H' p = some (.lst vs) → Reps X.K b (hide (p :: O) H') ds vs → Q (.ref p) H') → Reps X.K b (hide O H1) ds ys → ∀ l, H1 l = none → Q (.ref l) (upd H1 l (.lst ys)) := fun {ds ys} k r l hp => by
    have hf : Fre H l := fun o e => by
      cases t : nt o with
      | false => rfl
      | true =>
        exfalso
        by_cases hb : some l = b
        · exact ((R.mono x1).free hp).2 hb
        · have := x1.1 l o hb e t
          rw [hp] at this; cases this
    exact k l ys _ ((R.mono x1).free hp).2 hf (x1.trans (.new hp)) upd_same (by rw [hide_newO hp]; exact r)
  cases d with
  | lst ds =>
    obtain ⟨c, ys, rfl, n, h, s⟩ := r1.lst
    exact ⟨c, ys, rfl, .inl (sqL_mono hide_le n h), key hd s⟩
  | tup ds =>
    obtain ⟨c, ys, rfl, n, h, s⟩ := r1.tup
    exact ⟨c, ys, rfl, .inr (sqT_mono hide_le n h), key hd s⟩
  | frl a ds =>
    obtain ⟨o, ys, rfl, n, h, s⟩ := r1.frl
    exact ⟨a, ys, rfl, .inl (sqL_mono hide_le n (.inl (.inr ⟨o, h⟩))), key hd s⟩
  | _ => exact hd.elim
end
/-! ### a def whose every return hands back a new list -/
def liftF (K : Fg) (s : GS) : Sp := fun vs H Q E => ∃ b ds, Bg b H ∧ Reps K b H ds vs ∧ s ds (fun d => match d with
  | .lst es => ∀ p ws H', some p ≠ b → Fre H p → Ext b H H' → H' p = some (.lst ws) → Reps K b (hide [p] H') es ws → Q (.ref p) H'
  | _ => False) (fun x => ∀ cls d H', Ext b H H' → XAt K b H' x cls d → E cls d H')
section
variable (K : Fg) (b : Option Addr) (H0 : Hp)
def dnF (Hs : Hp) (D : Ends) : EndD := { dn K b H0 Hs D with rt := fun d => match d with
  | .lst es => ∀ p ws H, some p ≠ b → Fre H0 p → Ext b H0 H → H p = some (.lst ws) → Reps K b (hide [p] H) es ws → D.rt (.ref p) H
  | _ => False }
def LSF (g : GSt) : TS := fun D σ H => ∃ σd O, Rst K b H0 σd σ H O ∧ g (dnF K b H0 (hide O H) D) σd
end
structure DSF (b : Option Addr) (H0 : Hp) (X : Cx) (st : Stmt) (g : GSt) : Prop where
  ps : PS X st (LSF X.K b H0 g)
  mn : MnD g
structure DSsF (b : Option Addr) (H0 : Hp) (X : Cx) (st : List Stmt) (g : GSt) : Prop where
  ps : PSs X st (LSF X.K b H0 g)
  mn : MnD g
section
variable {X : Cx} {b : Option Addr} {H0 : Hp} {pos : Pos} {st : Stmt} {sts a a2 : List Stmt} {g u : GSt} {e c : Expr} {ge : GE} {gt : GT} {x : Str} {i : Nat}
/-- nothing is handed back here -/
def gNoR (g : GSt) : GSt := fun D σ => g { D with rt := fun _ => False } σ
theorem gNoR_mn (m : MnD g) : MnD (gNoR g) := fun D D' σ h1 h2 h3 h4 q => m { D with rt := fun _ => False } { D' with rt := fun _ => False } σ h1 (fun _ z => z.elim) h3 h4 q
theorem dsF_ds (A : DS b H0 X st g) : DSF b H0 X st (gNoR g) := ⟨ps_imp A.ps fun D σ H ⟨σd, O, R, q⟩ => ⟨σd, O, R, A.mn { dnF X.K b H0 (hide O H) D with rt := fun _ => False } (dn X.K b H0 (hide O H) D) _ (fun _ z => z) (fun _ z => z.elim) (fun _ z => z) (fun _ z => z) q⟩, gNoR_mn A.mn⟩
theorem dssF_one (A : DSF b H0 X st g) : DSsF b H0 X [st] g := ⟨pss_one A.ps, A.mn⟩
theorem dssF_cons (A : DSF b H0 X st g) (B : DSsF b H0 X sts u) : DSsF b H0 X (st :: sts) (gSeq g u) :=
  ⟨pss_imp (pss_cons A.ps B.ps) fun D σ H ⟨σd, O, R, q⟩ => ⟨σd, O, R, A.mn { dnF X.K b H0 (hide O H) D with nx := u (dnF X.K b H0 (hide O H) D) } _ _ (fun σ' z σ2 H2 O2 R2 x2 => ⟨σ', O2, R2, B.mn (dnF X.K b H0 (hide O H) D) _ _ (fun _ w _ _ _ R3 x3 => w _ _ _ R3 (x2.trans x3)) (fun _ w => w) (fun _ w _ _ _ R3 x3 => w _ _ _ R3 (x2.trans x3)) (fun _ w _ _ _ R3 x3 => w _ _ _ R3 (x2.trans x3)) z⟩) (fun d z => z) (fun σ z => z) (fun σ z => z) q⟩, gSeq_mn A.mn B.mn⟩
theorem Rst.fre0 {K : Fg} {σd : StD} {σ : L2.St} {H : Hp} {O : List Addr} (R : Rst K b H0 σd σ H O) {p : Addr} (h : p ∉ O → Fre H p) (hb : some p ≠ b) : Fre H0 p := fun o e => by
  cases t : nt o with
  | false => rfl
  | true =>
    exfalso
    have := R.le.1 p o hb e t
    obtain ⟨m, e2⟩ := of_hide this
    have := h m o e2
    rw [this] at t; cases t
theorem dsF_ret (A : DF b H0 X e ge) : DSF b H0 X (.Return (some e) pos) (gRet ge) :=
  ⟨ps_imp (ps_ret A.pe) fun D σ H ⟨σd, O, R, q⟩ => ⟨σd, O, R, A.mn _ _ _ (fun d z => by
    cases d with
    | lst es => exact fun p vs H' hb hf x hp r => z p vs H' hb (R.fre0 (fun _ => hf) hb) (R.ret x) hp (r.mono (hide_mono fun a m => by rw [List.mem_singleton.mp m]; exact List.mem_cons_self))
    | _ => exact z.elim) q⟩, gRet_mn A.mn⟩
end
abbrev finF (k : D → Prop) : EndD := { nx := fun _ => False, rt := k }
section
variable {P : Program} {w : World} {K : Fg} {mg : Str → Option Value} {base : Heap} {x qual : Str} {params : Arguments} {body : List Stmt} {scope : Scope} {dvs : List V} {kws : List (Str × V)} {f : Addr} {fd : FuncData}
theorem okF {N ps : List Str} {k : Nat} {s : GS} (F : FunD K x qual params body scope dvs kws f fd) (S : FnScope N ps scope) (hl : ∀ ds k e, s ds k e → ds.length = ps.length)
    (hbody : ∀ (cdv : Value) (A : Around) (outer : List Env) (s0 : Shared) (H : Hp) (E : XK) (b : Option Addr) (eo : XD → Prop), Room k (A.deeper (envOfC qual scope s0.heap.objs.size f cdv)) → Cz (cxOf (L2.CX P w) P w K mg base N qual scope f cdv A outer s0 H E) b H E eo →
      ∃ g, DSsF b H (cxOf (L2.CX P w) P w K mg base N qual scope f cdv A outer s0 H E) body g ∧ ∀ ds k, s ds k eo → g (finF k) (startD N ds)) : FnOk P w K mg base (L2.CX P w) (k + 1) f fd ps (liftF K s) := by
  refine F.ok S (fun vs H Q E ⟨b, ds, _, r, h⟩ => by rw [← r.length]; exact hl _ _ _ h) fun cdv A outer s0 H vs Q E hr ⟨b, ds, bg, r, h⟩ => ?_
  obtain ⟨g, dg, rd⟩ := hbody cdv A outer s0 H E b (fun x => ∀ cls d H', Ext b H H' → XAt K b H' x cls d → E cls d H') hr ⟨passes_call (takes_of rfl rfl rfl rfl) fun _ _ _ _ z => z, fun x cls d H' z x1 xa => z cls d H' x1 xa⟩
  exact ⟨_, dg.ps, startD N ds, [], rst_start bg r, dg.mn (finF _) _ _ (fun σ q => q.elim) (fun d q => q) (fun σ q => q.elim) (fun σ q => q.elim) (rd ds _ h)⟩
/-- a promise of a new list is a promise of a list -/
theorem FnOk.ofF {ps : List Str} {k : Nat} {s : GS} (ms : MnS s) (F : FnOk P w K mg base (L2.CX P w) k f fd ps (liftF K s)) (hl : ∀ ds k e, s ds k e → s ds (fun d => ∃ es, d = .lst es ∧ k d) e) : FnOk P w K mg base (L2.CX P w) k f fd ps (lift K s) := by
  have i : ∀ vs H Q E, lift K s vs H Q E → liftF K s vs H Q E := fun vs H Q E ⟨b, ds, bg, r, h⟩ => ⟨b, ds, bg, r, ms _ _ _ _ _ (fun d ⟨es, e, z⟩ => by
    subst e
    exact fun p ws H' hb hf x hp r => z _ H' x (Rep.mkLst hb (.inl (.inl hp)) (r.mono hide_le))) (fun _ z => z) (hl _ _ _ h)⟩
  exact F.imp i
end
end DL
/-! DM2 -/
set_option Elab.async false
set_option linter.all false
set_option maxRecDepth 100000
set_option maxHeartbeats 4000000
/-! Calls that hand back a new list; what is done to it. -/
namespace DL
open PySem PySem.Spec PyProof.Rows L2
variable [TabC]
/-- what a new list must come to -/
def KF (K : Fg) (b : Option Addr) (O : List Addr) (H : Hp) (Q : VK) : D → Prop := fun d => match d with
  | .lst ds => ∀ p vs H', some p ≠ b → Fre H p → Ext b H H' → H' p = some (.lst vs) → Reps K b (hide (p :: O) H') ds vs → Q (.ref p) H'
  | _ => False
section
variable {K : Fg} {b : Option Addr} {H H1 H2 : Hp} {O : List Addr} {Q : VK} {d : D}
theorem Fre.of_ext {p : Addr} (x : Ext b H H1) (hb : some p ≠ b) (h : Fre H1 p) : Fre H p := fun o e => by
  cases t : nt o with
  | false => rfl
  | true =>
    have := h o (x.1 p o hb e t)
    rw [this] at t; cases t
theorem KF.ext (x : Ext b H H1) (h : KF K b O H Q d) : KF K b O H1 Q d := by
  cases d with
  | lst ds => exact fun p vs H' hb hf x' hp r => h p vs H' hb (hf.of_ext x hb) (x.trans x') hp r
  | _ => exact h.elim
theorem back_hideP {p : Addr} (hp : H2 p ≠ none) (h : ∀ a ∈ O, H2 a = none) : hide (p :: O) (back O H H2) = hide [p] H2 := by
  funext c
  by_cases e : c = p
  · subst e
    rw [hide_in List.mem_cons_self, hide_in List.mem_cons_self]
  · rw [hide_out (O := [p]) (fun z => e (List.mem_singleton.mp z))]
    by_cases m : c ∈ O
    · rw [hide_in (List.mem_cons_of_mem _ m), h c m]
    · rw [hide_out (fun z => by rcases List.mem_cons.mp z with z | z; exact e z; exact m z), back_out m]
end
section
variable {X : Cx} {b : Option Addr} {H0 : Hp} {E : XK} {eo : XD → Prop} {s : GS} {k : Nat} {f : Addr} {ks : List Str} {c m x : Str} {o e : Expr} {es args : List Expr} {kws : List Keyword} {g ga : GA} {ge go : GE} {pos p apos pos' cpos : Pos} {i : Nat}
theorem run_fnCF {pins : List (Addr × Obj)} {σ : L2.St} {σd : StD} {H : Hp} {s0 : Shared} {O : List Addr} {us kus : List Value} {vs : List V} {ds : List D} {Q : VK} (F : FnC X.prog X.w X.K X.mg X.base k f ks (liftF X.K s)) (ms : MnS s) (hr : Room k X.A) (Z : Cz X b H0 E eo)
    (I : Inv X pins σ H s0) (hk : kus.length = ks.length) (r2 : Vals vs (us ++ kus)) (R : Rst X.K b H0 σd σ H O) (rp : Reps X.K b (hide O H) ds vs) (h : s ds (KF X.K b O H Q) eo) :
    wpAny (model X.prog X.w) X.A (call (.ref f) us (ks.zip kus)) (EP X pins σ Q) X.xe s0 := by
  have hO : ∀ a ∈ O, Hid O H a := fun a m => (R.nb a m).2.2
  have I1 := inv_hide I hO
  have sp : liftF X.K s vs (hide O H) (fun v H2 => (∀ a ∈ O, H2 a = none) → Q v (back O H H2)) E := by
    refine ⟨b, ds, R.bg, rp, ms _ _ _ _ _ (fun d hd => ?_) (fun x hx cls d H2 x2 xa => ?_) h⟩
    · cases d with
      | lst es =>
        intro p ws H2 hb hf x hp r fr
        have hm : p ∉ O := fun z => by rw [fr p z] at hp; cases hp
        refine hd p ws _ hb (fun o e => hf o (by rw [hide_out hm]; exact e)) (back_ext (fun a m => ⟨(R.nb a m).1, (R.nb a m).2.2⟩) fr x) (by rw [back_out hm]; exact hp) ?_
        rw [back_hideP (by rw [hp]; simp) fr]
        exact r
      | _ => exact hd.elim
    · exact Z.ex x cls d H2 hx (R.le.trans x2) xa
  refine wpAny_call (codeAny_mono (F X.A X.stack s0 (hide O H) us kus vs _ E hr I1.env0 hk r2 sp) fun r s' hq => ?_)
  cases r with
  | error e => exact Z.pass pins σ (hide O H) s0 e s' I1 hq
  | ok fl =>
    cases fl with
    | ret u =>
      obtain ⟨v, H2, os, bare, un, ok, rv, q⟩ := hq
      obtain ⟨fr, I2⟩ := inv_back I hO os bare un ok
      exact ⟨v, _, I2, rv, q fr⟩
    | next => exact False.elim hq
    | brk => exact False.elim hq
    | cont => exact False.elim hq
theorem df_ca (F : FnC X.prog X.w X.K X.mg X.base k f ks (liftF X.K s)) (ms : MnS s) (hr : Room k X.A) (hm : X.mg x = some (.ref f)) (hk : PySem.W.keepIn X.K (.ref f) = true) (Z : Cz X b H0 E eo) (A : DCA b H0 X pos args kws ks ga)
    (hg : Gl X x := by rfl) (hdb : (x == ("__debug__" : Str)) = false := by decide) : DF b H0 X (.Call (.Name x p) args kws pos) (gCa s eo ga) := by
  refine ⟨⟨fun pins s0 σ H Q I ⟨σd, O, R, q⟩ => ?_⟩, gCa_mn ms A.mn⟩
  refine wpAny_Call_Name_kw (ld_glob I hg hm ?_ hdb)
  refine A.run pins s0 σ H (.ref f) [] _ I hk ⟨σd, O, R, A.mn _ _ _ (fun ds z us kus vs H' s' I' x1 hl r rp => ?_) q⟩
  exact run_fnCF F ms hr Z I' hl r (R.mono x1) rp (ms _ _ _ _ _ (fun d w => KF.ext x1 w) (fun _ w => w) z)
theorem df_mc {pl : Sem Bool} (G : DE b H0 X o go) (cl : Cls X.K (He.ga X.K c)) (hm : Meth X.K (He.ga X.K c) m f) (F : FnC X.prog X.w X.K X.mg X.base k f ks (liftF X.K s)) (ms : MnS s) (hr : Room k X.A) (Z : Cz X b H0 E eo) (A : DCA b H0 X pos args kws ks ga)
    (ht : eval (.Call (.Attribute o m apos) args kws pos) X.env = (do
      let ov ← eval o X.env
      standAt apos.atName
      let (f, first) ← holding [ov] (getMethod ov m pl)
      callWith pos f first (backTo pos (starEach args X.env)) (backToKw pos (keywordEach kws X.env))) := by rfl) :
    DF b H0 X (.Call (.Attribute o m apos) args kws pos) (gMc c m s eo go ga) := by
  refine ⟨⟨fun pins s0 σ H Q I ⟨σd, O, R, q⟩ => ?_⟩, gMc_mn ms G.mn A.mn⟩
  refine PySem.W.methodCall_KW (pl := pl) (thn (G.pe.run pins s0 σ H (fun v H' => ∃ a dx fs d, v = .ref a ∧ H' a = some (.ins (He.ga X.K c) dx fs) ∧ fs.lookup m = none ∧ Rst X.K b H0 σd σ H' O ∧ Rep X.K b (hide O H') d (.ref a) ∧ ga σd fun es => s (d :: es) (KF X.K b O H' Q) eo) I
    ⟨σd, O, R, G.mn _ _ _ (fun d z v H' x1 r => ?_) q⟩) fun u s1 ⟨x, H1, I1, rx, a, dx, fs, d, ex, ea, l, R1, rd, q1⟩ => ?_) ht
  · cases d with
    | ins c' ns ds =>
      obtain ⟨e1, e2, z⟩ := z
      subst e1
      obtain ⟨a, dx, vs, rfl, n, h, l, rs⟩ := r.ins
      exact ⟨a, dx, _, _, rfl, (of_hide h).2, lookup_zip_none e2, R.mono x1, r, A.mn _ _ _ (fun es w => ms _ _ _ _ _ (fun d w => KF.ext x1 w) (fun _ w => w) w) z⟩
    | _ => exact z.elim
  · subst ex
    obtain rfl : u = Value.ref a := rx
    refine getmeth_ok I1 ea cl hm l ?_
    refine A.run pins s1 σ H1 (.ref f) [.ref a] _ I1 hm.kp ⟨σd, O, R1, A.mn _ _ _ (fun ds z us kus vs H2 s2 I2 x2 hl r rp => ?_) q1⟩
    exact run_fnCF (us := .ref a :: us) (vs := .ref a :: vs) F ms hr Z I2 hl (.cons rfl r) (R1.mono x2) (Reps.cons (rd.mono (x2.1.hide O)) rp) (ms _ _ _ _ _ (fun d w => KF.ext x2 w) (fun _ w => w) z)
/-! ### a new list that nothing keeps is changed -/
/-- x = a new list -/
def gAsgF (i : Nat) (ge : GE) : GSt := fun D σ => ge σ fun d => match d with | .lst ds => D.nx (put σ i (.own ds)) | _ => False
theorem gAsgF_mn (A : Mn ge) : MnD (gAsgF i ge) := fun D D' σ h1 _ _ _ q => A _ _ _ (fun d z => by
  cases d <;> first | exact h1 _ z | exact z.elim) q
theorem ds_asgF (hN : X.N.Nodup) (hi : X.N[i]? = some x) (hx : Loc X.env.scope x) (A : DF b H0 X e ge) (hs : swapsWith e (some (.Name x pos')) pos.line X.env = pure false := by rfl) (hf : X.fn x = true ∨ X.env.scope.names.lookup x = some .local := by first | exact .inl rfl | exact .inr rfl | assumption) :
    DS b H0 X (.Assign [.Name x pos'] e pos) (gAsgF i ge) :=
  ⟨ps_imp (ps_set hN hi hx A.pe hs hf) fun D σ H ⟨σd, O, R, q⟩ => by
    refine ⟨σd, O, R, A.mn _ _ _ (fun d z => ?_) q⟩
    cases d with
    | lst ds =>
      intro p vs H1 hb hf x hp r
      have R1 := R.hideP hb hf x hp
      have hm := R.fre hf
      exact z _ _ _ (R1.takeP i (fun j => R.noOwn hm j) List.mem_cons_self hp r) (R.hideX hb hf x hp)
    | _ => exact z.elim, gAsgF_mn A.mn⟩
end
end DL
/-! DM3 -/
set_option Elab.async false
set_option linter.all false
set_option maxRecDepth 100000
set_option maxHeartbeats 4000000
/-! xs[::-1]. -/
namespace DL
open PySem PySem.Spec PyProof.Rows L2
variable [TabC]
section
variable {X : Cx} {b : Option Addr} {H0 : Hp} {e : Expr} {ge : GE}
def dRev : D → (D → Prop) → Prop := fun x k => match x with | .lst ds => k (.lst ds.reverse) | _ => False
end
theorem fi_i {α : Type} {x : α} {l : List α} {i : Nat} (h : some x = l[i]?) : some x = l[i]? := h
theorem o_strI {i : Int} (h : i.natAbs.log2 < 1920) : O1 dStrI (.int i) (.str (toString i)) := .mk fun k q => ⟨h, q⟩
theorem o_rev {ds : List D} : O1 dRev (.lst ds) (.lst ds.reverse) := .mk fun k q => q
/-! ### steps over new lists -/
section
variable {σ : StD} {d : D} {ds : List D} {ga ge : GE} {v : GSt} {D' : EndD} {i : Nat}
theorem s_asgF (A : Ev ge σ (.lst ds)) {τ : StD} (p : Pt σ i (.own ds) τ) (r : Stp (v D' τ)) : Stp (gSeq (gAsgF i ge) v D' σ) := ⟨A _ (by show v D' (put σ i (.own ds)); rw [p.eq]; exact r.run)⟩
theorem ev_ls {g : GE} (A : Ev g σ (.lst ds)) : Ev (gLs g) σ (.lst ds) := .mk fun k q => A _ q
end
end DL
/-! DM5 -/
set_option Elab.async false
set_option linter.all false
set_option maxRecDepth 100000
set_option maxHeartbeats 4000000
/-! Owned lists: two at once, one popped into the other. -/
namespace DL
open PySem PySem.Spec PyProof.Rows L2
variable [TabC]
section
variable {X : Cx} {b : Option Addr} {H0 : Hp} {a c e : Expr} {ga gb ge : GE} {pos : Pos} {i j : Nat}
/-- x, y = a new list, a new list -/
def gParF (i j : Nat) (ga gb : GE) : GSt := fun D σ => ga σ fun x => match x with
  | .lst ds => gb σ fun y => (match y with | .lst es => D.nx (put (put σ i (.own ds)) j (.own es)) | _ => False)
  | _ => False
theorem ds_parF {x y : Str} {px py pt pt2 : Pos} {kt k2 : Nat} (hc : X.calm = true) (hN : X.N.Nodup) (hi : X.N[i]? = some x) (hj : X.N[j]? = some y) (hij : i ≠ j)
    (hx : X.env.scope.names.lookup x = some .local) (hy : X.env.scope.names.lookup y = some .local) (A : DF b H0 X a ga) (B : DF b H0 X c gb)
    (hw : swappedStores [.Tuple [.Name x px, .Name y py] kt pt] (.Tuple [a, c] k2 pt2) X.env = pure (some [x, y]))
    (hs : swapsWithSole [.Tuple [.Name x px, .Name y py] kt pt] (.Tuple [a, c] k2 pt2) pos.line X.env = pure false := by rfl)
    (hs1 : starEach [a, c] X.env = (false, eval a X.env) :: starEach [c] X.env := by rfl) (hs2 : starEach [c] X.env = (false, eval c X.env) :: starEach [] X.env := by rfl) :
    DS b H0 X (.Assign [.Tuple [.Name x px, .Name y py] kt pt] (.Tuple [a, c] k2 pt2) pos) (gParF i j ga gb) := by
  refine ⟨ps_imp (ps_par hc hN hi hj hij hx hy (pa_cons A.pe (pa_cons B.pe pa_nil hs2) hs1) hw hs) fun D σ H ⟨σd, O, R, q⟩ => ?_, fun D D' σ h1 h2 h3 h4 q => A.mn _ _ _ (fun x z => by
    cases x <;> first | exact z.elim | exact B.mn _ _ _ (fun y z => by cases y <;> first | exact z.elim | exact h1 _ z) z) q⟩
  refine ⟨σd, O, R, A.mn _ _ _ (fun d z => ?_) q⟩
  cases d with
  | lst ds =>
    intro p vs H1 hb hf x hp r
    have R1 := R.hideP hb hf x hp
    have m1 := R.fre hf
    refine ⟨σd, p :: O, R1, B.mn _ _ _ (fun d z => ?_) z⟩
    cases d with
    | lst es =>
      intro p2 ws H2 hb2 hf2 x2 hp2 r2
      have R2 := R1.hideP hb2 hf2 x2 hp2
      have m2 := R1.fre hf2
      have ne : p2 ≠ p := fun z => m2 (z ▸ List.mem_cons_self)
      have hp' : H2 p = some (.lst vs) := x2.1 _ _ hb hp rfl
      have T1 := R2.takeP i (ds := ds) (fun k => R.noOwn m1 k) (List.mem_cons_of_mem _ List.mem_cons_self) hp' (r.mono (R1.hideX hb2 hf2 x2 hp2).1)
      have T2 := T1.takeP j (ds := es) (fun k z => by
        rw [look_put2, getD_set] at z
        by_cases h : k = i ∧ i < σd.length
        · have h2 : k = i ∧ i < σ.length := by rw [← R.len]; exact h
          rw [if_pos h, if_pos h2] at z
          exact ne z
        · have h2 : ¬ (k = i ∧ i < σ.length) := by rw [← R.len]; exact h
          rw [if_neg h, if_neg h2] at z
          exact R1.noOwn m2 k z) List.mem_cons_self hp2 r2
      exact ⟨.ref p, .ref p2, rfl, z _ _ _ T2 ((R.hideX hb hf x hp).trans (R1.hideX hb2 hf2 x2 hp2))⟩
    | _ => exact z.elim
  | _ => exact z.elim
theorem Reps.eraseIdx {K : Fg} {H : Hp} : ∀ {ds : List D} {vs : List V} (n : Nat), Reps K b H ds vs → Reps K b H (ds.eraseIdx n) (vs.eraseIdx n)
  | [], vs, n, h => by rw [h.of_nil]; exact Reps.nil
  | d :: r, vs, 0, h => by
    obtain ⟨v, w, rfl, h1, h2⟩ := h.of_cons
    exact h2
  | d :: r, vs, n + 1, h => by
    obtain ⟨v, w, rfl, h1, h2⟩ := h.of_cons
    exact Reps.cons h1 (Reps.eraseIdx n h2)
/-- x.append(y.pop(e)) -/
def gPshPop (i j : Nat) (ge : GE) : GSt := fun D σ => i ≠ j ∧ match look σ i, look σ j with
  | .own ds, .own es => ge σ fun d => (match d with
    | .int n => 0 ≤ n ∧ ds.length < 100000 ∧ es.length < 100000 ∧ (match es[n.toNat]? with | some x => D.nx (put (put σ j (.own (es.eraseIdx n.toNat))) i (.own (ds ++ [x]))) | none => False)
    | _ => False)
  | _, _ => False
theorem gPshPop_mn (A : Mn ge) : MnD (gPshPop i j ge) := fun D D' σ h1 _ _ _ ⟨n, q⟩ => ⟨n, by
  revert q
  cases look σ i <;> cases look σ j <;> intro q <;> first
    | exact q.elim
    | (refine A _ _ _ (fun d z => ?_) q
       cases d <;> first
         | exact z.elim
         | (rename_i ds es m
            obtain ⟨z1, z2, z3, z4⟩ := z
            refine ⟨z1, z2, z3, ?_⟩
            revert z4
            cases es[m.toNat]? <;> intro z4 <;> first | exact z4.elim | exact h1 _ z4))⟩
theorem ds_pshPop {x y : Str} {ap ap2 cp cp2 p p2 : Pos} (hN : X.N[i]? = some x) (hN2 : X.N[j]? = some y) (hv : Vis X.env.scope x) (hv2 : Vis X.env.scope y) (A : DE b H0 X e ge)
    (hs : swapsWith (.Call (.Attribute (.Name x p) "append" ap) [.Call (.Attribute (.Name y p2) "pop" ap2) [e] [] cp2] [] cp) none pos.line X.env = pure false := by rfl)
    (hfew : ((backTo cp (starEach [.Call (.Attribute (.Name y p2) "pop" ap2) [e] [] cp2] X.env)).all (fun x => !x.1) && (backToKw cp (keywordEach [] X.env)).all (fun x => x.1.isSome) && decide ([Expr.Call (.Attribute (.Name y p2) "pop" ap2) [e] [] cp2].length + ([] : List Keyword).length + (if ([] : List Keyword).isEmpty then 0 else 1) < 30)) = true := by rfl)
    (hbase : attributeBase (.Name x p) "append" X.env (eval (.Name x p) X.env) = eval (.Name x p) X.env := by rfl) (hplain : (backTo cp (starEach [] X.env)).any (·.1) = false := by rfl)
    (hline : (ap.endLine == cp.line) = true := by rfl) (hst : starEach [.Call (.Attribute (.Name y p2) "pop" ap2) [e] [] cp2] X.env = (false, eval (.Call (.Attribute (.Name y p2) "pop" ap2) [e] [] cp2) X.env) :: starEach [] X.env := by rfl)
    (hfew2 : ((backTo cp2 (starEach [e] X.env)).all (fun x => !x.1) && (backToKw cp2 (keywordEach [] X.env)).all (fun x => x.1.isSome) && decide ([e].length + ([] : List Keyword).length + (if ([] : List Keyword).isEmpty then 0 else 1) < 30)) = true := by rfl)
    (hbase2 : attributeBase (.Name y p2) "pop" X.env (eval (.Name y p2) X.env) = eval (.Name y p2) X.env := by rfl) (hplain2 : (backTo cp2 (starEach [] X.env)).any (·.1) = false := by rfl)
    (hline2 : (ap2.endLine == cp2.line) = true := by rfl) (hst2 : starEach [e] X.env = (false, eval e X.env) :: starEach [] X.env := by rfl)
    (hd : (x == ("__debug__" : Str)) = false := by decide) (hcd : (x == ("__classdict__" : Str)) = false := by decide) (hd2 : (y == ("__debug__" : Str)) = false := by decide) (hcd2 : (y == ("__classdict__" : Str)) = false := by decide) :
    DS b H0 X (.Expr (.Call (.Attribute (.Name x p) "append" ap) [.Call (.Attribute (.Name y p2) "pop" ap2) [e] [] cp2] [] cp) pos) (gPshPop i j ge) :=
  ⟨ps_imp (ps_expr (pe_bm PySem.F.plainAttrs_list PySem.F.slot_list_append PySem.F.type_list_append mt_append (pe_var hN hv hd hcd)
      (pa_cons (pe_bm PySem.F.plainAttrs_list PySem.F.slot_list_pop PySem.F.type_list_pop mt_popAt (pe_var hN2 hv2 hd2 hcd2) (pa_cons A.pe pa_nil hst2) hbase2 hfew2 hline2 hst2 hplain2) pa_nil hst) hbase hfew hline hst hplain) hs) fun D σ H ⟨σd, O, R, ⟨nij, q⟩⟩ => by
    cases hi : look σd i with
    | own ds =>
      cases hj : look σd j with
      | own es =>
        rw [hi, hj] at q
        have q : ge σd _ := q
        have s1 := R.slot i
        rw [hi] at s1
        obtain ⟨a, vs, ei, mi, ha, _⟩ := s1
        have s2 := R.slot j
        rw [hj] at s2
        obtain ⟨c, ws, ej, mj, hc, _⟩ := s2
        refine ⟨.ref a, getD_some ei, .inl ⟨rfl, vs, .inl (.inl ha)⟩, .ref c, getD_some ej, .inl ⟨rfl, ws, .inl (.inl hc)⟩, σd, O, R, A.mn _ _ _ (fun d z v H1 x1 r => ?_) q⟩
        cases d with
        | int n =>
          obtain ⟨n0, l1, l2, z⟩ := z
          have R1 := R.mono x1
          have s1 := R1.slot i
          rw [hi, ei] at s1
          obtain ⟨a', vs', ea, _, ha', rv⟩ := s1
          cases ea
          have s2 := R1.slot j
          rw [hj, ej] at s2
          obtain ⟨c', ws', ec, _, hc', rw'⟩ := s2
          cases ec
          cases ex : es[n.toNat]? with
          | none => rw [ex] at z; exact z.elim
          | some d =>
            rw [ex] at z
            obtain ⟨y, ey, ry⟩ := rw'.get ex
            have hn : n.toNat < es.length := (List.getElem?_eq_some_iff.mp ex).1
            have ll := rw'.length
            have nac : a ≠ c := fun w => nij (R.uniq i j a (by rw [hi, ei]; exact rfl) (by rw [hj, ej]; exact w))
            refine ⟨c, ws', n, n.toNat, y, rfl, by rw [r.int], hc', by omega, by omega, ?_, ey, a, vs', y, rfl, rfl, ?_, ?_, ?_⟩
            · have e1 : (if n < 0 then n + (ws'.length : Int) else n) = n := if_neg (by omega)
              unfold seqIndex?
              simp only [e1]
              rw [if_pos (by simp; omega)]
            · rw [upd_ne nac]; exact ha'
            · rw [← rv.length]; exact Nat.lt_of_lt_of_le l1 (by decide)
            · have T1 := R1.wrO hj ej hc' mj (rw'.eraseIdx n.toNat)
              have hi2 : look (put σd j (.own (es.eraseIdx n.toNat))) i = .own ds := by
                rw [look_put2, if_neg (fun w => nij w.1)]; exact hi
              have T2 := T1.wrO (es := ds ++ [d]) (us := vs' ++ [y]) hi2 ei (by rw [upd_ne nac]; exact ha') mi (by rw [hide_upd mj]; exact rv.append (Reps.cons ry Reps.nil))
              refine z _ _ _ T2 ?_
              rw [hide_upd mi, hide_upd mj]
              exact R.hx x1
        | _ => exact z.elim
      | _ => rw [hi, hj] at q; exact q.elim
    | _ => rw [hi] at q; cases look σd j <;> exact q.elim, gPshPop_mn A.mn⟩
end
end DL
/-! DM6 -/
set_option Elab.async false
set_option linter.all false
set_option maxRecDepth 100000
set_option maxHeartbeats 4000000
/-! A comprehension with two fors. -/
namespace DL
open PySem PySem.Spec PyProof.Rows L2
end DL
/-! DM7 -/
set_option Elab.async false
set_option linter.all false
set_option maxRecDepth 100000
set_option maxHeartbeats 4000000
/-! max of two; tuples of texts that a class holds; an empty tuple as a default. -/
namespace DL
open PySem PySem.Spec PyProof.Rows L2
variable [TabC]
section
variable {X : Cx} {b : Option Addr} {H0 : Hp} {p pos : Pos} {ga : GA} {e : Expr} {es : List Expr}
/-! ### a builtin with several arguments -/
def dMax2 : List D → (D → Prop) → Prop := fun ds k => match ds with
  | [.int i, .int j] => k (.int (if j > i then j else i))
  | _ => False
/-! ### tuples of texts that a class holds -/
/-! ### a tuple as a keyword default -/
end
theorem o_max2 {i j : Int} : ON dMax2 [.int i, .int j] (.int (if j > i then j else i)) := .mk fun k q => q
theorem o_ninTu {x : D} {ds : List D} (h : (flatD x && ds.all flatD) = true) : O2 (dInA true) x (.tup ds) (.bl (!(ds.any fun z => eqF z x))) := .mk fun k q => ⟨h, q⟩
end DL
/-! DM8 -/
set_option Elab.async false
set_option linter.all false
set_option maxRecDepth 100000
set_option maxHeartbeats 4000000
/-! A comprehension over a list that the frame owns. -/
namespace DL
open PySem PySem.Spec PyProof.Rows L2
variable [TabC]
/-- a walk over what stays as it is -/
def WlkX (K : Fg) (b : Option Addr) (O : List Addr) (ds : List D) (J : It) (H1 : Hp) : Prop := ∀ (i : Nat) (H2 : Hp) (O2 : List Addr), Ext b (hide O H1) (hide O2 H2) → Ext b H1 H2 → Fresh b O2 H2 →
  (∀ d, ds[i]? = some d → J.go i H2 ∧ ∀ x H3, J.yld i H2 x H3 → Ext b H2 H3 ∧ Rep K b (hide O2 H3) d x) ∧ (i = ds.length → J.stop i H2)
def LIX (K : Fg) (b : Option Addr) (H0 : Hp) (g : GI) : TI := fun σ H Rr => ∃ σd O, Rst K b H0 σd σ H O ∧ g σd fun ds => ∀ J H', Ext b H H' → WlkX K b O ds J H' → Rr J H'
structure DIX (b : Option Addr) (H0 : Hp) (X : Cx) (tg iter : Expr) (g : GI) : Prop where
  pi : PI X tg iter (LIX X.K b H0 g)
  mn : Mn g
section
variable {X : Cx} {b : Option Addr} {H0 : Hp} {elt tg iter : Expr} {ifs : List Expr} {scope : Scope} {own : List (Str × Nat)} {pos : Pos} {gi : GI} {t : Tgt} {gt : GT} {ge : GE}
theorem lcX_run {σ : L2.St} {H : Hp} {Q : VK} (I : Mn gi) (T : Mn gt) (E : Mn ge) (hsl : ∀ j ∈ slots t, j ∈ own.map (·.2)) (h : LE X.K b H0 (gLc gi t gt ge (own.map (·.2))) σ H Q) :
    tLc (LIX X.K b H0 gi) (LG X.K b H0 t) (LB X.K b H0 gt) (LE X.K b H0 ge) (own.map (·.2)) σ H Q := by
  obtain ⟨σd, O, R, q⟩ := h
  refine ⟨σd, O, R, I _ _ _ (fun ds hd J H1 x1 wk => ?_) q⟩
  intro Dd hD
  have R1 := R.mono x1
  have hDO := (R1.free hD).1
  have hDb := (R1.free hD).2
  -- the invariant
  refine ⟨fun i m H2 => m = ds.length - i ∧ i ≤ ds.length ∧ ∃ acc accv, H2 Dd = some (.lst accv) ∧ Reps X.K b (hide (Dd :: O) H2) acc accv ∧ Rst X.K b H0 (wipeD σd (own.map (·.2))) (L2.wipe σ (own.map (·.2))) H2 (Dd :: O) ∧ Ext b H1 H2 ∧
    lcD t gt ge (wipeD σd (own.map (·.2))) (ds.drop i) acc (fun d => ∀ v H', Ext b H H' → Rep X.K b (hide O H') d v → Q v H'), ⟨ds.length, by simp, Nat.zero_le _, [], [], upd_same, Reps.nil, ?_, .new hD, hd⟩, ?_⟩
  · exact ((R1.addO (.new hD) hD ⟨_, upd_same, trivial⟩).wipe _)
  rintro i m H2 ⟨rfl, hi, acc, accv, hacc, racc, R2, x2, q2⟩
  have x3 : Ext b (hide O H1) (hide (Dd :: O) H2) := ext_hide_new x2 hD (fun a m => ⟨(R1.nb a m).1, (R1.nb a m).2.2⟩) ⟨_, hacc, trivial⟩
  have w := wk i H2 (Dd :: O) x3 x2 (fun p hp => R2.free hp)
  by_cases hlt : i < ds.length
  · have e : ds[i]? = some ds[i] := List.getElem?_eq_getElem hlt
    obtain ⟨go, yl⟩ := w.1 _ e
    refine .inr ⟨go, fun H' => i + 1 ≤ ds.length ∧ ∃ acc accv, H' Dd = some (.lst accv) ∧ Reps X.K b (hide (Dd :: O) H') acc accv ∧ Rst X.K b H0 (wipeD σd (own.map (·.2))) (L2.wipe σ (own.map (·.2))) H' (Dd :: O) ∧ Ext b H1 H' ∧
      lcD t gt ge (wipeD σd (own.map (·.2))) (ds.drop (i + 1)) acc (fun d => ∀ v H', Ext b H H' → Rep X.K b (hide O H') d v → Q v H'), fun H' hN => ⟨ds.length - (i + 1), by omega, rfl, hN.1, hN.2⟩, fun y H3 hy => ?_⟩
    obtain ⟨x4, rv⟩ := yl y H3 hy
    rw [List.drop_eq_getElem_cons hlt] at q2
    refine ⟨_, Dd :: O, ds[i], R2.mono x4, rv, asg_mn _ _ _ _ _ (fun s z σ' ag R' => ?_) q2⟩
    refine ⟨wipe_agree ag hsl, s, Dd :: O, R', T _ _ _ (fun c hc H5 x5 => ?_) z⟩
    have R5 := R'.mono x5
    have x45 := x4.trans x5
    have hacc5 : H5 Dd = some (.lst accv) := x45.1 _ _ hDb hacc rfl
    have racc5 : Reps X.K b (hide (Dd :: O) H5) acc accv := racc.mono (x45.1.hide _)
    cases c with
    | true =>
      refine iteT ?_
      refine ⟨s, Dd :: O, R5, E _ _ _ (fun d hd v H6 x6 r6 => ?_) hc⟩
      have hacc6 : H6 Dd = some (.lst accv) := x6.1 _ _ hDb hacc5 rfl
      refine ⟨accv, hacc6, by rw [← racc.length]; exact Nat.lt_of_lt_of_le hd.1 (by decide), hlt, acc ++ [d], accv ++ [v], upd_same, ?_, ?_, ?_, hd.2⟩
      · rw [hide_upd List.mem_cons_self]
        exact (racc5.mono (x6.1.hide _)).append (Reps.cons r6 Reps.nil)
      · refine ((R2.mono (x45.trans x6)).updO List.mem_cons_self (fun i a ow z => ?_) ⟨_, hacc6⟩)
        subst z
        -- a slot owns Dd: no slot's list was Dd, for Dd came later
        have sl := ((R1.wipe (own.map (·.2))).slot i)
        cases e1 : look (wipeD σd (own.map (·.2))) i with
        | unset => rw [e1] at ow; exact ow.elim
        | sh d => rw [e1] at ow; exact ow.elim
        | own ds =>
          rw [e1] at ow sl
          obtain ⟨a', vs, e2, m, _⟩ := sl
          rw [e2] at ow
          have : a = a' := ow
          exact hDO (this ▸ m)
        | gho a' ds =>
          rw [e1] at ow sl
          obtain ⟨vs, m, _⟩ := sl
          have : a = a' := ow
          exact hDO (this ▸ m)
        | owd kx ds =>
          rw [e1] at ow sl
          obtain ⟨a', vs, e2, m, _⟩ := sl
          rw [e2] at ow
          have : a = a' := ow
          exact hDO (this ▸ m)
        | ott kx ds =>
          rw [e1] at ow sl
          obtain ⟨a', vs, e2, m, _⟩ := sl
          rw [e2] at ow
          have : a = a' := ow
          exact hDO (this ▸ m)
        | obj a' dx c ns ds =>
          rw [e1] at ow sl
          obtain ⟨vs, e2, m, _⟩ := sl
          rw [e2] at ow
          have : a = a' := ow
          exact hDO (this ▸ m)
      · exact ext_upd_new (x2.trans (x45.trans x6)) hD ⟨_, hacc6⟩
    | false =>
      refine iteF ?_
      exact ⟨hlt, acc, accv, hacc5, racc5, R2.mono x45, x2.trans x45, hc⟩
  · have e : i = ds.length := by omega
    subst e
    rw [List.drop_length] at q2
    refine .inl ⟨w.2 rfl, q2 _ H2 (x1.trans x2) ?_⟩
    exact Rep.mkLst hDb (.inl (.inl (by rw [hide_out hDO]; exact hacc))) (racc.mono (hide_mono fun a m => List.mem_cons_of_mem _ m))
theorem de_lcX (hc : X.calm = true) (hN : X.N.Nodup) (I : DIX b H0 X tg iter gi) (ok : BlkOk X.N X.env.scope scope own)
    (G : ∀ (s : Shared) (H : Hp) (C : Addr) (cl : List (Str × Addr)) (fp : List Addr), DG b H0 (X.blk s H scope (compEnvC scope cl C X.env) fp) tg t) (T : ∀ (s : Shared) (H : Hp) (C : Addr) (cl : List (Str × Addr)) (fp : List Addr), DTs b H0 (X.blk s H scope (compEnvC scope cl C X.env) fp) ifs gt)
    (E : ∀ (s : Shared) (H : Hp) (C : Addr) (cl : List (Str × Addr)) (fp : List Addr), DE b H0 (X.blk s H scope (compEnvC scope cl C X.env) fp) elt ge) (hsl : ∀ j ∈ slots t, j ∈ own.map (·.2) := by decide) (hs : ∀ x, foldedSetIterable iter X.env x = pure x := by intro _; rfl) :
    DE b H0 X (.ListComp elt [⟨tg, iter, ifs, 0⟩] scope pos) (gLc gi t gt ge (own.map (·.2))) :=
  ⟨pe_imp (pe_lc (g := LG X.K b H0 t) (tt := LB X.K b H0 gt) (te := LE X.K b H0 ge) hc hN I.pi ok (fun s H C cl fp => (G s H C cl fp).pg) (fun s H C cl fp => (T s H C cl fp).pts) (fun s H C cl fp => (E s H C cl fp).pe) hs) fun σ H Q h =>
    lcX_run I.mn (T sh0 (fun _ => none) 0 [] []).mn (E sh0 (fun _ => none) 0 [] []).mn hsl h,
    gLc_mn I.mn (T sh0 (fun _ => none) 0 [] []).mn (E sh0 (fun _ => none) 0 [] []).mn⟩
/-- x, the frame's own list -/
def gItO (i : Nat) : GI := fun σ k => match look σ i with | .own ds => k ds | _ => False
theorem gItO_mn (i : Nat) : Mn (gItO i) := fun σ k k' h q => by
  unfold gItO at q ⊢
  cases e : look σ i <;> rw [e] at q <;> first | exact h _ q | exact q.elim
theorem wlkX_own {K : Fg} {O : List Addr} {ds : List D} {a : Addr} {vs : List V} {H1 : Hp} (n : some a ≠ b) (h : H1 a = some (.lst vs)) (r : Reps K b (hide O H1) ds vs) : WlkX K b O ds (Itl K a) H1 := by
  intro i H2 O2 x x' _
  have h2 : SqL K H2 a vs := .inl (.inl (x'.1 _ _ n h rfl))
  refine ⟨fun d e => ?_, fun hi0 => ⟨vs, h2, by have hi := Nat.le_of_eq hi0.symm; rw [← r.length]; exact hi⟩⟩
  obtain ⟨v, e2, rv⟩ := r.get e
  refine ⟨⟨vs, v, h2, e2⟩, fun y H3 yl => ?_⟩
  obtain ⟨e3, yl⟩ := yl
  subst e3
  have e4 := yl vs h2
  rw [e2] at e4; cases e4
  exact ⟨.refl _, rv.mono x.1⟩
theorem dix_var (i : Nat) {x : Str} {p : Pos} (hN : X.N[i]? = some x := by rfl) (hv : Vis X.env.scope x := by first | exact Or.inl rfl | exact Or.inr (Or.inl rfl) | exact Or.inr (Or.inr rfl)) (hd : (x == ("__debug__" : Str)) = false := by decide) (hcd : (x == ("__classdict__" : Str)) = false := by decide) :
    DIX b H0 X tg (.Name x p) (gItO i) :=
  ⟨pi_imp (pi_list (pe_var hN hv hd hcd)) fun σ H Q ⟨σd, O, R, q⟩ => by
    unfold gItO at q
    have s := R.slot i
    cases e : look σd i with
    | own ds =>
      rw [e] at q s
      obtain ⟨a, vs, e1, m, h1, r⟩ := s
      exact ⟨.ref a, getD_some e1, a, rfl, ⟨vs, .inl (.inl h1)⟩, q _ _ (.refl H) (wlkX_own (R.nb a m).1 h1 r)⟩
    | _ => rw [e] at q; exact q.elim, gItO_mn i⟩
end
section
variable {X : Cx} {b : Option Addr} {H0 : Hp} {a c : Expr} {ga gb : GE} {pos : Pos}
theorem db_ninA {k : Nat} (hr : Room (k + 1) X.A) (A : DT b H0 X a ga) (B : DT b H0 X c gb) (hm : behindInMarks .NotIn c = false := by rfl) : DB b H0 X (.Compare a [.NotIn] [c] pos) (gB (g2 (dInA true) ga gb)) := db_cmp ((op_notIn_seq.or (op_notInD (un65 hr))).or op_notIn_sign) op2_ninA A B hm
end
theorem evi_own {σ : StD} {ds : List D} {i : Nat} (h : .own ds = look σ i) : EvI (gItO i) σ ds := .mk fun k q => by
  unfold gItO
  rw [← h]; exact q
end DL
/-! DM9 -/
set_option Elab.async false
set_option linter.all false
set_option maxRecDepth 100000
set_option maxHeartbeats 4000000
/-! Lists and tuples of one shape: how they are compared. -/
namespace DL
open PySem PySem.Spec PyProof.Rows L2
variable [TabC]
/-- values of one shape, as data -/
structure Cod {α : Type} [BEq α] (f : α → D) (g : α → PyData) (n : Nat) : Prop where
  py : ∀ x, toPy (f x) = some (g x)
  lay : ∀ x, PyData.canLay0 (g x) = true
  dep : ∀ x, PyData.depth (g x) ≤ n
  eqv : ∀ x y, PyData.eqv (g x) (g y) = (x == y)
section
variable {α : Type} [BEq α] {f : α → D} {g : α → PyData} {n : Nat}
theorem codInt : Cod D.int PyData.int 0 := ⟨fun _ => rfl, fun _ => rfl, fun _ => Nat.le_refl 0, fun _ _ => rfl⟩
theorem Cod.pys (c : Cod f g n) : ∀ l : List α, toPys (l.map f) = some (l.map g)
  | [] => rfl
  | x :: r => by
    show (match toPy (f x), toPys (r.map f) with | some p, some q => some (p :: q) | _, _ => none) = _
    rw [c.pys r, c.py x]; rfl
theorem Cod.lays (c : Cod f g n) : ∀ l : List α, PyData.canLayAll0 (l.map g) = true
  | [] => rfl
  | x :: r => by
    show (PyData.canLay0 (g x) && PyData.canLayAll0 (r.map g)) = true
    rw [c.lays r, c.lay x]; rfl
theorem Cod.deps (c : Cod f g n) : ∀ l : List α, PyData.depthAll (l.map g) ≤ n
  | [] => Nat.zero_le _
  | x :: r => Nat.max_le.mpr ⟨c.dep x, c.deps r⟩
theorem Cod.eqs (c : Cod f g n) : ∀ l m : List α, PyData.eqvAll (l.map g) (m.map g) = (l == m)
  | [], [] => rfl
  | [], y :: s => rfl
  | x :: r, [] => rfl
  | x :: r, y :: s => by
    show (PyData.eqv (g x) (g y) && PyData.eqvAll (r.map g) (s.map g)) = _
    rw [c.eqs r s, c.eqv x y]
    rfl
theorem Cod.lst (c : Cod f g n) : Cod (fun l : List α => .lst (l.map f)) (fun l => .list (l.map g)) (n + 1) where
  py := fun l => by simp only [toPy, c.pys l]; rfl
  lay := c.lays
  dep := fun l => Nat.succ_le_succ (c.deps l)
  eqv := c.eqs
theorem Cod.tup (c : Cod f g n) : Cod (fun l : List α => .tup (l.map f)) (fun l => .tuple (l.map g)) (n + 1) where
  py := fun l => by simp only [toPy, c.pys l]; rfl
  lay := c.lays
  dep := fun l => Nat.succ_le_succ (c.deps l)
  eqv := c.eqs
theorem Cod.any (c : Cod f g n) (x : α) : ∀ l : List α, ((l.map g).any fun z => PyData.eqv z (g x)) = l.any (· == x)
  | [] => rfl
  | y :: r => by
    show (PyData.eqv (g y) (g x) || (r.map g).any fun z => PyData.eqv z (g x)) = ((y == x) || r.any (· == x))
    rw [c.any x r, c.eqv y x]
theorem o_ninC (c : Cod f g n) {x : α} {l : List α} (hf : flatD (f x) = false) (hn : n ≤ 60) : O2 (dInA true) (f x) (.lst (l.map f)) (.bl (!l.any (· == x))) := .mk fun k q => by
  show bif flatD (f x) && (l.map f).all flatD then _ else dInD true (f x) (.lst (l.map f)) k
  rw [hf]
  show dInD true (f x) (.lst (l.map f)) k
  unfold dInD
  rw [c.py x]
  simp only [c.pys l]
  refine ⟨?_, ?_, ?_⟩
  · show (PyData.canLay0 (g x) && decide (PyData.depth (g x) ≤ 64)) = true
    rw [c.lay x, decide_eq_true (Nat.le_trans (c.dep x) (by omega))]; rfl
  · show (PyData.canLayAll0 (l.map g) && decide (PyData.depthAll (l.map g) + 1 ≤ 64)) = true
    rw [c.lays l, decide_eq_true (by have := c.deps l; omega)]; rfl
  · rw [c.any x l]; exact q
end
theorem codRow : Cod (fun l : List Int => D.lst (l.map D.int)) (fun l => .list (l.map PyData.int)) 1 := codInt.lst
theorem codTup : Cod (fun l : List Int => D.tup (l.map D.int)) (fun l => .tuple (l.map PyData.int)) 1 := codInt.tup
/-! ### steps and values -/
section
variable {σ : StD} {ds es : List D} {ga gb ge : GE} {v : GSt} {D' : EndD} {i j : Nat}
theorem s_parF (A : Ev ga σ (.lst ds)) (B : Ev gb σ (.lst es)) {τ τ2 : StD} (p : Pt σ i (.own ds) τ) (p2 : Pt τ j (.own es) τ2) (r : Stp (v D' τ2)) : Stp (gSeq (gParF i j ga gb) v D' σ) := ⟨A _ (B _ (by show v D' (put (put σ i (.own ds)) j (.own es)); rw [p.eq, p2.eq]; exact r.run))⟩
theorem s_noRS {g : GSt} {D2 : EndD} (r : Stp (g { nx := v D2, rt := fun _ => False, bk := D2.bk, ct := D2.ct } σ)) : Stp (gSeq (gNoR g) v D2 σ) := ⟨r.run⟩
end
theorem o_ixTI {l : List Int} {i : Nat} (h : i < l.length) : O2 dIx (.tup (dints l)) (.int (0 + (i : Int))) (.int (l.getD i 0)) := .mk fun k q => by
  have e : atI (dints l) (0 + (i : Int)) = some (.int (l.getD i 0)) := by
    unfold atI ixN
    rw [Int.zero_add, if_pos (by omega), if_pos (by rw [dints_len]; omega)]
    show (dints l)[i]? = _
    rw [List.getElem?_map, List.getElem?_eq_getElem h, List.getD_eq_getElem?_getD, List.getElem?_eq_getElem h]; rfl
  show match atI (dints l) (0 + (i : Int)) with | some d => k d | none => False
  rw [e]; exact q
theorem o_tup {ds : List D} : O1 dTuple (.lst ds) (.tup ds) := .mk fun k q => q
theorem o_tup2 {ds : List D} : O1 dTuple (.tup ds) (.tup ds) := .mk fun k q => q
theorem o_lst {ds : List D} : O1 dList (.lst ds) (.lst ds) := .mk fun k q => q
theorem o_lst2 {ds : List D} : O1 dList (.tup ds) (.lst ds) := .mk fun k q => q
end DL
/-! DM10 -/
set_option Elab.async false
set_option linter.all false
set_option maxRecDepth 100000
set_option maxHeartbeats 4000000
/-! Lists and tuples of one shape: how they are compared. -/
namespace DL
variable [TabC]
/-- a walk over an enumerated list whose relation knows what was passed -/
theorem forS_enumP {α : Type} {tg : Tgt} {gb : GSt} {f : α → D} (R : List α → StD → Prop) {D' : EndD} {l : List α}
    (h : ∀ (pre : List α) (x : α) (suf : List α), l = pre ++ x :: suf → ∀ (σ : StD) (D2 : EndD), R pre σ → (∀ σ', R (pre ++ [x]) σ' → D2.nx σ') → D2.rt = D'.rt → Stp (asg tg (.tup [.int (pre.length : Int), f x]) σ fun σ2 => gb D2 σ2)) :
    ∀ (suf pre : List α), l = pre ++ suf → ∀ σ : StD, R pre σ → (∀ σ', R l σ' → Stp (D'.nx σ')) → Stp (forD tg gb (enumD pre.length (suf.map f)) D' σ)
  | [], pre, e, σ, r, q => ⟨(q σ (by rw [e, List.append_nil]; exact r)).run⟩
  | x :: suf, pre, e, σ, r, q => ⟨by
    show asg tg (.tup [.int (pre.length : Int), f x]) σ fun σ2 => gb { nx := fun σ' => forD tg gb (enumD (pre.length + 1) (suf.map f)) D' σ', rt := D'.rt, bk := D'.nx, ct := fun σ' => forD tg gb (enumD (pre.length + 1) (suf.map f)) D' σ' } σ2
    refine (h pre x suf e σ { nx := fun σ' => forD tg gb (enumD (pre.length + 1) (suf.map f)) D' σ', rt := D'.rt, bk := D'.nx, ct := fun σ' => forD tg gb (enumD (pre.length + 1) (suf.map f)) D' σ' } r (fun σ' r' => ?_) rfl).run
    have := (forS_enumP R h suf (pre ++ [x]) (by rw [e, List.append_assoc]; rfl) σ' r' q).run
    rw [List.length_append] at this
    exact this⟩
end DL
/-! DN1 -/
set_option Elab.async false
set_option linter.all false
set_option maxRecDepth 100000
set_option maxHeartbeats 4000000
/-! A list that is the frame's own, handed to a call that only reads it. -/
namespace DL
open PySem PySem.Spec PyProof.Rows L2
variable [TabC]
mutual
/-- nothing in it is a locked list -/
def noL : D → Bool
  | .tup ds => noLs ds | .lst ds => noLs ds | .dic _ ds => noLs ds | .ins _ _ ds => noLs ds | .frl _ _ => false | .frd _ ds => noLs ds | .exc _ _ ds => noLs ds | .cel _ => false | _ => true
def noLs : List D → Bool
  | [] => true
  | d :: r => noL d && noLs r
end
section
variable {K : Fg} {b : Option Addr} {H H' : Hp} {p : Addr}
/-- what a value that leans on no locked list leans on -/
def Sub (b : Option Addr) (H H' : Hp) : Prop := ∀ a o, some a ≠ b → H a = some o → (∀ ob xs, o ≠ .frz ob (.lst xs)) → H' a = some o
mutual
theorem Rep.thaw (x : Sub b H H') : ∀ {d : D} {v : V}, noL d = true → Rep K b H d v → Rep K b H' d v
  | .non, _, _, h => h
  | .bl _, _, _, h => h
  | .int _, _, _, h => h
  | .str _, _, _, h => h
  | .tup ds, v, e, h => by
    simp only [noL] at e
    simp only [Rep] at h ⊢
    obtain ⟨a, vs, e1, n, q, r⟩ := h
    refine ⟨a, vs, e1, n, ?_, Reps.thaw x e r⟩
    rcases q with (q | ⟨o, q⟩) | q
    · exact .inl (.inl (x _ _ n q fun _ _ z => by cases z))
    · exact .inl (.inr ⟨o, x _ _ n q fun _ _ z => by cases z⟩)
    · exact .inr q
  | .lst ds, v, e, h => by
    simp only [noL] at e
    simp only [Rep] at h ⊢
    obtain ⟨a, vs, e1, n, q, r⟩ := h
    refine ⟨a, vs, e1, n, ?_, Reps.thaw x e r⟩
    rcases q with (q | q) | q
    · exact .inl (.inl (x _ _ n q fun _ _ z => by cases z))
    · exact q.elim
    · exact .inr q
  | .dic ks ds, v, e, h => by
    simp only [noL] at e
    simp only [Rep] at h ⊢
    obtain ⟨a, o, vs, e1, n, q, l, r⟩ := h
    exact ⟨a, o, vs, e1, n, x _ _ n q (fun _ _ z => by cases z), l, Reps.thaw x e r⟩
  | .ins c ns ds, v, e, h => by
    simp only [noL] at e
    simp only [Rep] at h ⊢
    obtain ⟨a, dx, vs, e1, n, q, l, r⟩ := h
    exact ⟨a, dx, vs, e1, n, x _ _ n q (fun _ _ z => by cases z), l, Reps.thaw x e r⟩
  | .bag, _, _, h => h
  | .clo o, v, _, h => by
    simp only [Rep] at h ⊢
    obtain ⟨f, e1, n, q, n2, q2⟩ := h
    exact ⟨f, e1, n, x _ _ n q (fun _ _ z => by unfold FnH at z; cases z), n2, x _ _ n2 q2 fun _ _ z => by unfold LamX.CodeO at z; cases z⟩
  | .frl _ _, _, e, _ => by simp only [noL] at e; cases e
  | .frd ks ds, v, e, h => by
    simp only [noL] at e
    simp only [Rep] at h ⊢
    obtain ⟨a, vs, e1, n, q, l, r⟩ := h
    exact ⟨a, vs, e1, n, x _ _ n q (fun _ _ z => by cases z), l, Reps.thaw x e r⟩
  | .cel _, _, e, _ => by simp [noL] at e
  | .exc c ns ds, v, e, h => by
    simp only [noL] at e
    simp only [Rep] at h ⊢
    obtain ⟨a, dx, vs, e1, n, n2, q, q2, l, r⟩ := h
    exact ⟨a, dx, vs, e1, n, n2, x _ _ n q (fun _ _ z => by unfold exo at z; cases z), x _ _ n2 q2 (fun _ _ z => by unfold exd at z; cases z), l, Reps.thaw x e r⟩
theorem Reps.thaw (x : Sub b H H') : ∀ {ds : List D} {vs : List V}, noLs ds = true → Reps K b H ds vs → Reps K b H' ds vs
  | [], _, _, h => h
  | d :: r, vs, e, h => by
    simp only [noLs, Bool.and_eq_true] at e
    simp only [Reps] at h ⊢
    obtain ⟨v, q, e1, h1, h2⟩ := h
    exact ⟨v, q, e1, Rep.thaw x e.1 h1, Reps.thaw x e.2 h2⟩
end
end
/-- the list of the slot i is locked while the expression runs -/
def gLk (i : Nat) (g : GE) : GE := fun σ k => match look σ i with
  | .own ds => ∀ a, g (put σ i (.sh (.frl a ds))) fun d => noL d = true ∧ k d
  | _ => False
theorem gLk_mn {g : GE} (i : Nat) (m : Mn g) : Mn (gLk i g) := fun σ k k' h q => by
  unfold gLk at q ⊢
  cases e : look σ i <;> rw [e] at q <;> first | exact fun a => m _ _ _ (fun d z => ⟨z.1, h _ z.2⟩) (q a) | exact q.elim
section
variable {X : Cx} {b : Option Addr} {H0 : Hp} {e : Expr} {g : GE}
theorem Rst.lock {K : Fg} {σd : StD} {σ : L2.St} {H : Hp} {O : List Addr} (R : Rst K b H0 σd σ H O) (hd : ∀ c C dx fs, H c = some (.ins C dx fs) → H dx = some (.own c)) {ds : List D} {vs : List V} {i : Nat} {a : Addr} (hi : look σd i = .own ds) (hs : σ.getD i none = some (.ref a)) (hm : a ∈ O) (ha : H a = some (.lst vs)) (r : Reps K b (hide O H) ds vs) (od : Obj) :
    Rst K b H0 (put σd i (.sh (.frl a ds))) σ (upd H a (.frz od (.lst vs))) (O.filter fun c => c ≠ a) := by
  have sub : ∀ c ∈ O.filter (fun c => c ≠ a), c ∈ O := fun c m => (List.mem_filter.mp m).1
  have mem : ∀ {c}, c ∈ O → c ≠ a → c ∈ O.filter (fun c => c ≠ a) := fun m n => List.mem_filter.mpr ⟨m, decide_eq_true n⟩
  have na : a ∉ O.filter (fun c => c ≠ a) := fun z => by simpa using (List.mem_filter.mp z).2
  have xx : Ext b (hide O H) (hide (O.filter (fun c => c ≠ a)) (upd H a (.frz od (.lst vs)))) := .all fun c o e => by
    obtain ⟨h1, h2⟩ := of_hide e
    rw [hide_out (fun z => h1 (sub c z)), upd_ne (fun z => h1 (by rw [z]; exact hm))]; exact h2
  have li : i < σd.length := by
    rcases Nat.lt_or_ge i σd.length with z | z
    · exact z
    · rw [look_out z] at hi; cases hi
  have oi : Owns (look σd i) (σ.getD i none) a := by rw [hi, hs]; exact rfl
  refine ⟨by rw [put_length]; exact R.len, fun j => ?_, fun j k c h1 h2 => ?_, fun c m => ?_, R.le.trans xx, R.bg.ext xx⟩
  · rw [look_put2]
    by_cases h : j = i ∧ i < σd.length
    · rw [if_pos h, h.1]
      refine ⟨.ref a, hs, ?_⟩
      simp only [Rep]
      exact ⟨od, vs, trivial, (R.nb a hm).1, (by rw [hide_out na, upd_same]), r.mono xx.1⟩
    · rw [if_neg h]
      have s := R.slot j
      have ne : ∀ c, Owns (look σd j) (σ.getD j none) c → c ≠ a := fun c z w => h ⟨R.uniq j i a (by rw [← w]; exact z) oi, li⟩
      cases e : look σd j with
      | unset => trivial
      | sh d =>
        rw [e] at s
        obtain ⟨v, e1, r1⟩ := s
        exact ⟨v, e1, r1.mono xx.1⟩
      | own fs =>
        rw [e] at s
        obtain ⟨c, ws, e1, m, h1, r1⟩ := s
        have nc := ne c (by rw [e, e1]; exact rfl)
        exact ⟨c, ws, e1, mem m nc, by rw [upd_ne nc]; exact h1, r1.mono xx.1⟩
      | gho c fs =>
        rw [e] at s
        obtain ⟨ws, m, h1, r1⟩ := s
        have nc := ne c (by rw [e]; exact rfl)
        exact ⟨ws, mem m nc, by rw [upd_ne nc]; exact h1, r1.mono xx.1⟩
      | owd kx fs =>
        rw [e] at s
        obtain ⟨c, ws, e1, m, h1, r1⟩ := s
        have nc := ne c (by rw [e, e1]; exact rfl)
        exact ⟨c, ws, e1, mem m nc, by rw [upd_ne nc]; exact h1, r1.mono xx.1⟩
      | ott kx fs =>
        rw [e] at s
        obtain ⟨c, ws, e1, m, h1, r1⟩ := s
        have nc := ne c (by rw [e, e1]; exact rfl)
        exact ⟨c, ws, e1, mem m nc, by rw [upd_ne nc]; exact h1, r1.mono xx.1⟩
      | obj c dx n ns fs =>
        rw [e] at s
        obtain ⟨ws, e1, m, md, h1, h2, l, r1⟩ := s
        have n1 := ne_of h1 ha (by simp)
        have n2 := ne_of h2 ha (by simp)
        exact ⟨ws, e1, mem m n1, mem md n2, by rw [upd_ne n1]; exact h1, by rw [upd_ne n2]; exact h2, l, r1.mono xx.1⟩
  · have key : ∀ {j}, Owns (look (put σd i (.sh (.frl a ds))) j) (σ.getD j none) c → Owns (look σd j) (σ.getD j none) c := fun {j} z => by
      rw [look_put2] at z
      by_cases h : j = i ∧ i < σd.length
      · rw [if_pos h] at z
        cases e : σ.getD j none <;> rw [e] at z <;> exact z.elim
      · rw [if_neg h] at z; exact z
    exact R.uniq j k c (key h1) (key h2)
  · have mo := sub c m
    have nca : c ≠ a := fun z => na (z ▸ m)
    obtain ⟨n1, _, o, e, q⟩ := R.nb c mo
    refine ⟨n1, trivial, o, by rw [upd_ne nca]; exact e, ?_⟩
    cases o with
    | lst _ => trivial
    | dK _ => trivial
    | dT _ => trivial
    | ins C dx fs =>
      have q : dx ∈ O := q
      exact mem q (ne_of (hd _ _ _ _ e) ha (by simp))
    | own x =>
      obtain ⟨q1, C, fs, q2⟩ := q
      have nx := ne_of q2 ha (by simp)
      exact ⟨mem q1 nx, C, fs, by rw [upd_ne nx]; exact q2⟩
    | _ => exact q.elim
theorem de_lk (i : Nat) (A : DE b H0 X e g) : DE b H0 X e (gLk i g) := ⟨⟨fun pins s σ H Q I ⟨σd, O, R, q⟩ => by
  refine (pe_lock A.pe).run pins s σ H Q I ?_
  unfold gLk at q
  cases hl : look σd i with
  | own ds =>
    rw [hl] at q
    have q : ∀ a, g (put σd i (.sh (.frl a ds))) fun d => noL d = true ∧ ∀ v H', Ext b H H' → Rep X.K b (hide O H') d v → Q v H' := q
    have sl := R.slot i
    rw [hl] at sl
    obtain ⟨a, vs, hs, hm, ha, r⟩ := sl
    have hd : ∀ c C dx fs, H c = some (.ins C dx fs) → H dx = some (.own c) := fun c C dx fs z => by
      have := I.hok c _ z
      exact this.1
    have nb := (R.nb a hm).1
    refine ⟨a, .lst vs, ha, trivial, fun od => ⟨_, _, R.lock hd hl hs hm ha r od, A.mn _ _ _ (fun d ⟨n, k⟩ v H' x r' => ?_) (q a)⟩⟩
    have hf : H' a = some (.frz od (.lst vs)) := x.1 a _ nb upd_same rfl
    refine ⟨hf, k v _ ⟨fun c o nc h t => ?_, fun c ec cc i j m h h0 => ?_, fun t => ?_⟩ (r'.thaw (fun c o nc h hne => ?_) n)⟩
    · by_cases e : c = a
      · subst e; rw [upd_same]; rw [ha] at h; cases h; rfl
      · rw [upd_ne e]; exact x.1 c o nc (by rw [upd_ne e]; exact h) t
    · have e : c ≠ a := fun e => nb (by rw [← e]; exact ec.symm)
      obtain ⟨i', j', h1, h2⟩ := x.2.1 c ec cc i j m (by rw [upd_ne e]; exact h) h0
      exact ⟨i', j', h1, by rw [upd_ne e]; exact h2⟩
    · have t1 : LamX.Tabs TabC.T (upd H a (.frz od (.lst vs))) := fun p hp => by
        obtain ⟨ps, h1, h2, h3⟩ := t p hp
        refine ⟨ps, by rw [upd_ne (fun z => by rw [z, ha] at h1; cases h1)]; exact h1, h2, fun pos cv hc => ?_⟩
        obtain ⟨c, e1, e2⟩ := h3 pos cv hc
        exact ⟨c, e1, by rw [upd_ne (fun z => by rw [z, ha] at e2; unfold LamX.CodeO at e2; cases e2)]; exact e2⟩
      have t2 := x.2.2 t1
      intro p hp
      obtain ⟨ps, h1, h2, h3⟩ := t2 p hp
      refine ⟨ps, by rw [upd_ne (fun z => by rw [z, hf] at h1; cases h1)]; exact h1, h2, fun pos cv hc => ?_⟩
      obtain ⟨c, e1, e2⟩ := h3 pos cv hc
      exact ⟨c, e1, by rw [upd_ne (fun z => by rw [z, hf] at e2; unfold LamX.CodeO at e2; cases e2)]; exact e2⟩
    · obtain ⟨m, h4⟩ := of_hide h
      have e : c ≠ a := fun e => by
        rw [e, hf] at h4; cases h4
        exact hne _ _ rfl
      rw [hide_out (fun z => m (List.mem_filter.mpr ⟨z, decide_eq_true e⟩)), upd_ne e]
      exact h4
  | _ => rw [hl] at q; exact q.elim⟩, gLk_mn i A.mn⟩
/-- its reading -/
theorem ev_lk {i : Nat} {σ : StD} {ds : List D} {d : D} (hl : look σ i = .own ds) (h : ∀ a, Ev g (put σ i (.sh (.frl a ds))) d) (n : noL d = true) : Ev (gLk i g) σ d := .mk fun k q => by
  unfold gLk
  rw [hl]
  exact fun a => (h a).run _ ⟨n, q⟩
end
end DL
/-! DN2 -/
set_option Elab.async false
set_option linter.all false
set_option maxRecDepth 100000
set_option maxHeartbeats 4000000
/-! A new list times an int. -/
namespace DL
open PySem PySem.Spec PyProof.Rows L2
variable [TabC]
def gRepF (ge gb : GE) : GE := fun σ k => ge σ fun d => match d with
  | .lst ds => gb σ fun y => match y with
    | .int n => (0 ≤ n ∧ n ≤ 1000 ∧ ds.length ≤ 1000) ∧ k (.lst (List.replicate n.toNat ds).flatten)
    | _ => False
  | _ => False
section
variable {X : Cx} {b : Option Addr} {H0 : Hp} {a c : Expr} {ga gb : GE} {pos : Pos}
theorem ev_repF {σ : StD} {ds : List D} {n : Int} (A : Ev ga σ (.lst ds)) (B : Ev gb σ (.int n)) (h : 0 ≤ n ∧ n ≤ 1000 ∧ ds.length ≤ 1000) : Ev (gRepF ga gb) σ (.lst (List.replicate n.toNat ds).flatten) := .mk fun k q => A _ (B _ ⟨h, q⟩)
end
end DL
/-! DS1 -/
set_option Elab.async false
set_option linter.all false
set_option maxRecDepth 100000
set_option maxHeartbeats 4000000
/-! A method whose first statement is super().__init__(..): its run. -/
namespace DL
open PySem PySem.Spec PyProof.Rows L2
variable [TabC]
/-- the law's file, as its code objects name it -/
def FILE : Str := "/claim/cut.py"
class SupP (P : Program) : Prop where
  file : ((P.main.file : Str) == FILE) = true
  top : (P.main.scope.names.lookup ("super" : Str)).isSome = false
/-- the def at f, whose one captured cell holds the class at D -/
structure FunS (K : Fg) (x qual : Str) (params : Arguments) (body : List Stmt) (scope : Scope) (dvs : List V) (kws : List (Str × V)) (f : Addr) (fd : FuncData) (cda cc D : Addr) : Prop where
  ex : ∃ (oc : Value) (od : Option Addr) (dV kV doc pm : Value) (an : Option Addr) (ct : Value) (osl : Array (Option Value)),
    fd = PySem.W.fnX x qual params body scope [("__class__", cc)] dV kV doc pm an (.ref cda) ct ∧ K.lookup f = some ⟨oc, od, .func fd, osl⟩ ∧ PySem.W.codeIn K (.ref cda) qual = true ∧ DflV K dV dvs ∧ KwdV K kV kws
  co : ∃ (ccl : Value) (cdd : Option Addr) (vs : Array Value) (ccs : Array (Option Value)) (tf : Tok), K.lookup cda = some ⟨ccl, cdd, .fields vs, ccs⟩ ∧ vs[2]? = some (.str FILE tf)
  cell : ∃ (cl : Value) (cld : Option Addr) (csl : Array (Option Value)), K.lookup cc = some ⟨cl, cld, .cell (some (.ref D)), csl⟩
  cls : ∃ cd, PySem.W.clsIn K D = some cd
  kp : PySem.W.keepIn K (.ref f) = true
/-- what the class at C finds behind D -/
structure SupAt (K : Fg) (C D f2 : Addr) (m : Str) : Prop where
  sub : PySem.W.mroIn K C (.ref D) = some true
  at_ : PySem.W.ks_superIn K C D m = some (some (.ref f2))
  ty : PySem.W.typeIn K (.ref f2) = some (.type "function")
  fn : PySem.W.fnIn K f2 = true
  opq : PySem.W.nsIn K cStatics "thirdparty.any" = some none
abbrev nfS (x qual : Str) (params : Arguments) (body : List Stmt) (scope : Scope) (cda cc : Addr) : NdefX.NF := ⟨x, qual, params, body, scope, [("__class__", cc)], cda⟩
theorem startF_one {N : List Str} {vs : List V} (h : vs.length + 1 ≤ N.length) : NdefX.startF N vs [none] = L2.start N vs := by
  unfold NdefX.startF L2.start
  obtain ⟨n, hn⟩ : ∃ n, N.length - vs.length = n + 1 := ⟨N.length - vs.length - 1, by omega⟩
  rw [hn, show n + 1 - ([none] : List (Option V)).length = n from by simp only [List.length_singleton]; omega, List.replicate_succ]
  rfl
section
variable {P : Program} {w : World} {K : Fg} {mg : Str → Option Value} {base : Heap} {x qual : Str} {params : Arguments} {scope : Scope} {dvs : List V} {kws : List (Str × V)} {f : Addr} {fd : FuncData} {cda cc D : Addr} {N ps : List Str} {k : Nat} {sp : Sp} {m : Str}
theorem fn_sup [SP : SupP P] {e : Expr} {es : List Expr} {rest : List Stmt} {p0 p1 ap cp sp1 : Pos} {ar : Arg} {pl : Addr → Sem Bool}
    (F : FunS K x qual params (.Expr (.Call (.Attribute (.Call (.Name "super" p0) [] [] p1) m ap) (e :: es) [] cp) sp1 :: rest) scope dvs kws f fd cda cc D) (S : NdefX.NScope N ps ["__class__"] scope) (len : ∀ vs H Q E, sp vs H Q E → vs.length = ps.length)
    (har : (params.posonlyargs ++ params.args).head? = some ar) (hN0 : N[0]? = some ar.arg) (hps : ps[0]? = some ar.arg) (hks : scope.names.lookup ("super" : Str) = some .globalImplicit) (hkc : scope.names.lookup ("__class__" : Str) = some .free) (hms : mg "super" = none) (hm : (m == ("__class__" : Str)) = false)
    (hsw : ∀ L, swapsWith (.Call (.Attribute (.Call (.Name "super" p0) [] [] p1) m ap) (e :: es) [] cp) none sp1.line (NdefX.envF (nfS x qual params (.Expr (.Call (.Attribute (.Call (.Name "super" p0) [] [] p1) m ap) (e :: es) [] cp) sp1 :: rest) scope cda cc) f L) = pure false)
    (hst : ∀ L, starEach (e :: es) (NdefX.envF (nfS x qual params (.Expr (.Call (.Attribute (.Call (.Name "super" p0) [] [] p1) m ap) (e :: es) [] cp) sp1 :: rest) scope cda cc) f L) = (false, eval e (NdefX.envF (nfS x qual params (.Expr (.Call (.Attribute (.Call (.Name "super" p0) [] [] p1) m ap) (e :: es) [] cp) sp1 :: rest) scope cda cc) f L)) :: starEach es (NdefX.envF (nfS x qual params (.Expr (.Call (.Attribute (.Call (.Name "super" p0) [] [] p1) m ap) (e :: es) [] cp) sp1 :: rest) scope cda cc) f L))
    (hpl : ∀ L, (backTo cp (starEach es (NdefX.envF (nfS x qual params (.Expr (.Call (.Attribute (.Call (.Name "super" p0) [] [] p1) m ap) (e :: es) [] cp) sp1 :: rest) scope cda cc) f L))).any (·.1) = false)
    (hcall : ∀ L : Addr, eval (.Call (.Attribute (.Call (.Name "super" p0) [] [] p1) m ap) (e :: es) [] cp) (NdefX.envF (nfS x qual params (.Expr (.Call (.Attribute (.Call (.Name "super" p0) [] [] p1) m ap) (e :: es) [] cp) sp1 :: rest) scope cda cc) f L) = (do
      let ov ← attributeBase (.Call (.Name "super" p0) [] [] p1) m (NdefX.envF (nfS x qual params (.Expr (.Call (.Attribute (.Call (.Name "super" p0) [] [] p1) m ap) (e :: es) [] cp) sp1 :: rest) scope cda cc) f L) (eval (.Call (.Name "super" p0) [] [] p1) (NdefX.envF (nfS x qual params (.Expr (.Call (.Attribute (.Call (.Name "super" p0) [] [] p1) m ap) (e :: es) [] cp) sp1 :: rest) scope cda cc) f L))
      standAt ap.atName
      let (f0, first) ← holding [ov] (getMethod ov m (pl L))
      callWith cp f0 first (backTo cp (starEach (e :: es) (NdefX.envF (nfS x qual params (.Expr (.Call (.Attribute (.Call (.Name "super" p0) [] [] p1) m ap) (e :: es) [] cp) sp1 :: rest) scope cda cc) f L))) []))
    (hbody : ∀ (A : Around) (outer : List Env) (s0 : Shared) (H : Hp) (vs : List V) (Q : VK) (E : XK), Room k (A.deeper (NdefX.envF (nfS x qual params (.Expr (.Call (.Attribute (.Call (.Name "super" p0) [] [] p1) m ap) (e :: es) [] cp) sp1 :: rest) scope cda cc) f s0.heap.objs.size)) → sp vs H Q E →
      ∃ (ta : TA) (t : TS) (spB : Sp) (E2 : XK) (a dx C f2 : Addr) (fs0 : List (Str × V)) (vs' : List V), vs = .ref a :: vs' ∧ H a = some (.ins C dx fs0) ∧ SupAt K C D f2 m ∧ FnR P w K mg base (L2.CX P w) k f2 spB ∧
        Passes (L2.CX P w) (NdefX.ncx (L2.CX P w) P w K mg base N (nfS x qual params (.Expr (.Call (.Attribute (.Call (.Name "super" p0) [] [] p1) m ap) (e :: es) [] cp) sp1 :: rest) scope cda cc) f A outer s0 H E) E2 ∧
        PA (NdefX.ncx (L2.CX P w) P w K mg base N (nfS x qual params (.Expr (.Call (.Attribute (.Call (.Name "super" p0) [] [] p1) m ap) (e :: es) [] cp) sp1 :: rest) scope cda cc) f A outer s0 H E) (e :: es) ta ∧
        PSs (NdefX.ncx (L2.CX P w) P w K mg base N (nfS x qual params (.Expr (.Call (.Attribute (.Call (.Name "super" p0) [] [] p1) m ap) (e :: es) [] cp) sp1 :: rest) scope cda cc) f A outer s0 H E) rest t ∧
        ta (L2.start N vs) H fun ws H1 => spB (.ref a :: ws) H1 (fun _ H2 => t { nx := fun _ H' => Q .non H', rt := Q } (L2.start N vs) H2) E2) :
    FnOk P w K mg base (L2.CX P w) (k + 1) f fd ps sp := by
  refine ⟨len, fun A outer s H args us vs Q E hr e0 hb r hsp => ?_⟩
  have hl := len _ _ _ _ hsp
  obtain ⟨oc, od, dV, kV, doc, pm, an, ct, osl, rfl, lk, hcd, _, _⟩ := F.ex
  obtain ⟨ccl, cdd, fvs, ccs, tf, lkc, hv2⟩ := F.co
  obtain ⟨cl, cld, csl, lkl⟩ := F.cell
  obtain ⟨cdD, hcD⟩ := F.cls
  have KX : K.In s.heap := e0.mod.kin.keeps fun b o e => (e0.bs b o e).1
  have lim : s.heap.NoLimit := e0.mod.nolimit.keeps fun b o e => (e0.bs b o e).1
  have hpl1 : ps.length + 1 ≤ N.length := by
    have q := congrArg List.length S.pre
    rw [List.length_take, List.length_append] at q
    simp only [List.length_singleton] at q
    omega
  refine codeAny_call_function hr.depth (KX _ _ lk) rfl S.co S.gen rfl (PySem.W.codeRec_of KX hcd) (hb _ _ _ _ ?_)
  have hbl : ∀ y ∈ ps.zip us, scope.names.lookup y.1 = some .local := fun ⟨n, _⟩ hy => S.par n (List.of_mem_zip hy).1
  refine wpAny_newFunctionEnv S.nocell hbl (fun h₁ hns hsb => ⟨lim.fresh _ hsb, ?_⟩) S.kind
  have kp : ∀ b o, s.heap.get? b = some o → h₁.get? b = some o := fun b o e => hsb.extBut b o (Nat.ne_of_lt (Heap.lt_size e)) (Heap.get?_push_of_some _ e)
  obtain ⟨ta, t, spB, E2, a, dx, C, f2, fs0, vs', rfl, hHa, SA, FB, hx, hta, ht, hq⟩ := hbody A outer s H vs Q E (hr.deeper _) hsp
  have Ca : NdefX.CellsAt [(("__class__" : Str), cc)] ["__class__"] [none] s.heap H := by
    have look : ∀ y c, ([(("__class__" : Str), cc)] : List (Str × Addr)).lookup y = some c → y = "__class__" ∧ c = cc := fun y c e => by
      have hm := PySem.mem_of_lookup e
      simp only [List.mem_singleton, Prod.mk.injEq] at hm
      exact hm
    refine ⟨rfl, fun y c e => ?_, fun x y c e1 e2 => (look x c e1).1.trans (look y c e2).1.symm, fun i y e => ?_⟩
    · obtain ⟨_, rfl⟩ := look y c e
      exact ⟨(e0.bs _ _ (e0.mod.kin _ _ lkl)).2, _, _, KX _ _ lkl, rfl⟩
    · cases i with
      | zero =>
        cases e
        exact ⟨cc, rfl, fun v h => by cases h⟩
      | succ i => cases e
  have I : Inv (NdefX.ncx (L2.CX P w) P w K mg base N (nfS x qual params (.Expr (.Call (.Attribute (.Call (.Name "super" p0) [] [] p1) m ap) (e :: es) [] cp) sp1 :: rest) scope cda cc) f A outer s H E) [] (NdefX.startF N (.ref a :: vs') [none]) H { s with heap := h₁, toks := s.toks + (ps.zip us).length } := NdefX.inv_startN S hr.hd e0 hl r Ca hns kp
  rw [startF_one (by rw [hl]; exact hpl1)] at I
  show codeAny _ _ (.func (.Expr (.Call (.Attribute (.Call (.Name "super" p0) [] [] p1) m ap) (e :: es) [] cp) sp1 :: rest) (NdefX.envF (nfS x qual params (.Expr (.Call (.Attribute (.Call (.Name "super" p0) [] [] p1) m ap) (e :: es) [] cp) sp1 :: rest) scope cda cc) f s.heap.objs.size)) _ _
  refine PySem.ks_codeAny_funcAt ?_
  refine PySem.ks_wpAt_execs_cons (ks_wpAt_mono (Q := fun (fl : Flow) s' => fl = Flow.next ∧ ∃ H', Inv (NdefX.ncx (L2.CX P w) P w K mg base N (nfS x qual params (.Expr (.Call (.Attribute (.Call (.Name "super" p0) [] [] p1) m ap) (e :: es) [] cp) sp1 :: rest) scope cda cc) f A outer s H E) [] (L2.start N (.ref a :: vs')) H' s' ∧ t { nx := fun _ H' => Q .non H', rt := Q } (L2.start N (.ref a :: vs')) H') (E := (NdefX.ncx (L2.CX P w) P w K mg base N (nfS x qual params (.Expr (.Call (.Attribute (.Call (.Name "super" p0) [] [] p1) m ap) (e :: es) [] cp) sp1 :: rest) scope cda cc) f A outer s H E).xe) ?_ (fun fl s' hs => ?_) (fun e s' hs => hs))
  · refine PySem.ks_wpAt_Expr_any ?_ (by unfold interactive; rw [show (NdefX.envF (nfS x qual params (.Expr (.Call (.Attribute (.Call (.Name "super" p0) [] [] p1) m ap) (e :: es) [] cp) sp1 :: rest) scope cda cc) f s.heap.objs.size).scope.kind = .function from S.kind]; rfl) (hsw _)
    refine PySem.ks_wpAt_MethodCall (pl := pl s.heap.objs.size) ?_ (hcall _)
    have KX1 : K.In h₁ := KX.keeps kp
    obtain ⟨oD, hD1, hD2⟩ : ∃ oD, h₁.get? D = some oD ∧ oD.data = .cls cdD := by
      unfold PySem.W.clsIn at hcD
      split at hcD
      · rename_i c d cd' sl ho
        cases hcD
        exact ⟨_, KX1 _ _ ho, rfl⟩
      · cases hcD
    obtain ⟨mb, hb1, hb2⟩ := I.mod.blt
    obtain ⟨ml, hn, hloc⟩ := I.loc
    obtain ⟨ua, ra, la⟩ := hloc 0 ar.arg (.ref a) hN0 rfl (.inl (S.par _ (List.mem_of_getElem? hps)))
    obtain rfl : ua = Value.ref a := ra
    have hma : ml ar.arg = some (.ref a) := by
      rcases la with ⟨_, z⟩ | ⟨z, _⟩
      · exact z
      · have z' : scope.names.lookup ar.arg = some .cell ∨ scope.names.lookup ar.arg = some .free := z
        rw [S.par _ (List.mem_of_getElem? hps)] at z'
        rcases z' with z' | z' <;> cases z'
    obtain ⟨_, _, _, hga, _⟩ := I.hok a _ hHa
    refine PySem.ks_wpAt_super_base hks hkc hm rfl (KX1 _ _ lk) rfl har rfl (KX1 _ _ lkc) rfl hv2 SP.file SP.top ?_
    refine PySem.W.ks_loadName_global S.kind hks (Calls.loadGlobal_builtin (I.mod.glob.keeps I.bk) hms (hb1.keeps I.bk) ((hb2 "super" (by decide)).trans (by rfl)) ⟨rfl, ?_⟩)
    refine wpAny_loadName_free S.kind hkc rfl ⟨_, KX1 _ _ lkl, rfl⟩ ?_
    refine wpAny_loadName_local S.kind (S.par _ (List.mem_of_getElem? hps)) hn hma ?_
    refine PySem.ks_wpAny_isType_cls hD1 hD2 ⟨rfl, ?_⟩
    refine PySem.ks_wpAny_call_super (C := C) hD1 hD2 hga rfl (fun c e => by cases e) (PySem.W.looks_mroIn KX1 SA.sub) (fun h' e1 k1 => ?_)
    have I2 : Inv (NdefX.ncx (L2.CX P w) P w K mg base N (nfS x qual params (.Expr (.Call (.Attribute (.Call (.Name "super" p0) [] [] p1) m ap) (e :: es) [] cp) sp1 :: rest) scope cda cc) f A outer s H E) [] (L2.start N (.ref a :: vs')) H { s with heap := h', toks := s.toks + (ps.zip us).length } := I.kept (s := { s with heap := h₁, toks := s.toks + (ps.zip us).length }) k1
    have KX2 : K.In h' := KX1.keeps k1
    obtain ⟨of, hof, hofc⟩ : ∃ of, h'.get? f2 = some of ∧ of.cls = .type "function" := by
      have ht' : (K.lookup f2).map (·.cls) = some (.type "function") := SA.ty
      cases z : K.lookup f2 with
      | none => rw [z] at ht'; cases ht'
      | some of => rw [z] at ht'; exact ⟨of, KX2 _ _ z, Option.some.inj ht'⟩
    have sa := SA.at_
    obtain ⟨cdC, hcC, sa⟩ : ∃ cdC, PySem.W.clsIn K C = some cdC ∧ PySem.W.alongIn K m ((cdC.mro.dropWhile (· != .ref D)).drop 1) = some (some (.ref f2)) := by
      cases hc : PySem.W.clsIn K C with
      | none => unfold PySem.W.ks_superIn at sa; rw [hc] at sa; cases sa
      | some cd => unfold PySem.W.ks_superIn at sa; rw [hc] at sa; exact ⟨cd, rfl, sa⟩
    have naC : a ≠ C := fun z => by
      unfold PySem.W.clsIn at hcC
      split at hcC
      · rename_i c d cd' sl ho
        have q := KX1 _ _ ho
        rw [← z, hga] at q
        cases q
      · cases hcC
    refine PySem.ks_wpAny_getMethod_super e1 (PySem.W.looks_opaque KX2 SA.opq) (l₀ := cdC.mro) (fun A Q E s k q => wpAny_bind ((PySem.W.looks_clsIn KX2 hcC) A _ E s k (wpAny_pure q))) rfl KX2 sa hof hofc naC hm ?_
    have I3 := ClX.met_new (g := f2) (C := a) I2
    refine ClX.callwith_cm I3 (ClX.base_none I2 (Nat.le_refl _)) SA.fn (thn (hta.run cp _ _ _ H _ I3 hq) fun us2 s3 ⟨ws, H2, I4, rv, q2⟩ => ⟨⟨ClX.pin_at I4, I4.kIn⟩, ?_⟩) (hst _) (hpl _)
    refine wpAny_mono (ClX.run_cm FB (hr.deeper _) hx I4 rv q2) (fun u s4 h4 => ?_) fun _ _ h => h
    obtain ⟨v, H4, I5, _, q3⟩ := h4
    exact ⟨rfl, H4, I5, q3⟩
  · obtain ⟨rfl, H', J, q⟩ := hs
    refine wpAt_of_wpAny ?_
    refine wpAny_mono (ht.run [] s' (L2.start N (.ref a :: vs')) H' _ J q) (fun fl s' hs => ?_) fun e s' hs => hs
    have fin : ∀ {σ' : L2.St} {H' : Hp} {v : V} {u : Value}, Inv (NdefX.ncx (L2.CX P w) P w K mg base N (nfS x qual params (.Expr (.Call (.Attribute (.Call (.Name "super" p0) [] [] p1) m ap) (e :: es) [] cp) sp1 :: rest) scope cda cc) f A outer s H E) [] σ' H' s' → L2.RelV v u → Q v H' → CE outer P w H s Q u s' :=
      fun {σ' H' v u} J rv q => ⟨v, H', J.os, J.bare, J.base, J.hok, rv, q⟩
    cases fl with
    | ret u =>
      obtain ⟨v, σ', H', J, rv, q⟩ := hs
      exact fin J rv q
    | next =>
      obtain ⟨σ', H', J, q⟩ := hs
      exact fin (v := V.non) (u := Value.none) J rfl q
    | brk =>
      obtain ⟨_, _, _, q⟩ := hs
      exact False.elim q
    | cont =>
      obtain ⟨_, _, _, q⟩ := hs
      exact False.elim q
end
end DL
/-! DS2 -/
set_option Elab.async false
set_option linter.all false
set_option maxRecDepth 100000
set_option maxHeartbeats 4000000
/-! A method whose first statement is super().__init__(..), over data. -/
namespace DL
open PySem PySem.Spec PyProof.Rows L2
variable [TabC]
/-- what the text's first statement must be -/
structure SupT (f : Addr) (x qual : Str) (params : Arguments) (scope : Scope) (cda cc : Addr) (p0 p1 ap cp sp1 : Pos) (m : Str) (e : Expr) (es : List Expr) (rest : List Stmt) (ps N : List Str) (ar : Arg) (pl : Addr → Sem Bool) : Prop where
  har : (params.posonlyargs ++ params.args).head? = some ar
  hN0 : N[0]? = some ar.arg
  hps : ps[0]? = some ar.arg
  hks : scope.names.lookup ("super" : Str) = some .globalImplicit
  hkc : scope.names.lookup ("__class__" : Str) = some .free
  hm : (m == ("__class__" : Str)) = false
  hsw : ∀ L, swapsWith (.Call (.Attribute (.Call (.Name "super" p0) [] [] p1) m ap) (e :: es) [] cp) none sp1.line (NdefX.envF (nfS x qual params (.Expr (.Call (.Attribute (.Call (.Name "super" p0) [] [] p1) m ap) (e :: es) [] cp) sp1 :: rest) scope cda cc) f L) = pure false
  hst : ∀ L, starEach (e :: es) (NdefX.envF (nfS x qual params (.Expr (.Call (.Attribute (.Call (.Name "super" p0) [] [] p1) m ap) (e :: es) [] cp) sp1 :: rest) scope cda cc) f L) = (false, eval e (NdefX.envF (nfS x qual params (.Expr (.Call (.Attribute (.Call (.Name "super" p0) [] [] p1) m ap) (e :: es) [] cp) sp1 :: rest) scope cda cc) f L)) :: starEach es (NdefX.envF (nfS x qual params (.Expr (.Call (.Attribute (.Call (.Name "super" p0) [] [] p1) m ap) (e :: es) [] cp) sp1 :: rest) scope cda cc) f L)
  hpl : ∀ L, (backTo cp (starEach es (NdefX.envF (nfS x qual params (.Expr (.Call (.Attribute (.Call (.Name "super" p0) [] [] p1) m ap) (e :: es) [] cp) sp1 :: rest) scope cda cc) f L))).any (·.1) = false
  hcall : ∀ L : Addr, eval (.Call (.Attribute (.Call (.Name "super" p0) [] [] p1) m ap) (e :: es) [] cp) (NdefX.envF (nfS x qual params (.Expr (.Call (.Attribute (.Call (.Name "super" p0) [] [] p1) m ap) (e :: es) [] cp) sp1 :: rest) scope cda cc) f L) = (do
      let ov ← attributeBase (.Call (.Name "super" p0) [] [] p1) m (NdefX.envF (nfS x qual params (.Expr (.Call (.Attribute (.Call (.Name "super" p0) [] [] p1) m ap) (e :: es) [] cp) sp1 :: rest) scope cda cc) f L) (eval (.Call (.Name "super" p0) [] [] p1) (NdefX.envF (nfS x qual params (.Expr (.Call (.Attribute (.Call (.Name "super" p0) [] [] p1) m ap) (e :: es) [] cp) sp1 :: rest) scope cda cc) f L))
      standAt ap.atName
      let (f0, first) ← holding [ov] (getMethod ov m (pl L))
      callWith cp f0 first (backTo cp (starEach (e :: es) (NdefX.envF (nfS x qual params (.Expr (.Call (.Attribute (.Call (.Name "super" p0) [] [] p1) m ap) (e :: es) [] cp) sp1 :: rest) scope cda cc) f L))) [])
section
variable {P : Program} {w : World} {K : Fg} {mg : Str → Option Value} {base : Heap} {x qual : Str} {params : Arguments} {scope : Scope} {dvs : List V} {kws : List (Str × V)} {f : Addr} {fd : FuncData} {cda cc D f2 : Addr} {N ps : List Str} {k : Nat} {m cn : Str}
theorem okSup [SP : SupP P] {s sB : GSI} {e : Expr} {es : List Expr} {rest : List Stmt} {p0 p1 ap cp sp1 : Pos} {ar : Arg} {pl : Addr → Sem Bool}
    (F : FunS K x qual params (.Expr (.Call (.Attribute (.Call (.Name "super" p0) [] [] p1) m ap) (e :: es) [] cp) sp1 :: rest) scope dvs kws f fd cda cc D) (S : NdefX.NScope N ps ["__class__"] scope) (T : SupT f x qual params scope cda cc p0 p1 ap cp sp1 m e es rest ps N ar pl) (hms : mg "super" = none)
    (hl : ∀ c ns fs ds k e, s c ns fs ds k e → ds.length + 1 = ps.length) (hc : ∀ c ns fs ds k e, s c ns fs ds k e → c = cn) (SA : SupAt K (He.ga K cn) D f2 m) (FB : FnC P w K mg base k f2 [] (liftI K sB)) (msB : MnSI sB)
    (hbody : ∀ (A : Around) (outer : List Env) (s0 : Shared) (Hc H : Hp) (E : XK) (b : Option Addr) (eo : XD → Prop), Room k (A.deeper (NdefX.envF (nfS x qual params (.Expr (.Call (.Attribute (.Call (.Name "super" p0) [] [] p1) m ap) (e :: es) [] cp) sp1 :: rest) scope cda cc) f s0.heap.objs.size)) → Cz (NdefX.ncx (L2.CX P w) P w K mg base N (nfS x qual params (.Expr (.Call (.Attribute (.Call (.Name "super" p0) [] [] p1) m ap) (e :: es) [] cp) sp1 :: rest) scope cda cc) f A outer s0 Hc E) b H E eo →
      ∀ c ns fs ds k, s c ns fs ds k eo → ∃ gA gR, DAr b H (NdefX.ncx (L2.CX P w) P w K mg base N (nfS x qual params (.Expr (.Call (.Attribute (.Call (.Name "super" p0) [] [] p1) m ap) (e :: es) [] cp) sp1 :: rest) scope cda cc) f A outer s0 Hc E) (e :: es) gA ∧ DSs b H (NdefX.ncx (L2.CX P w) P w K mg base N (nfS x qual params (.Expr (.Call (.Attribute (.Call (.Name "super" p0) [] [] p1) m ap) (e :: es) [] cp) sp1 :: rest) scope cda cc) f A outer s0 Hc E) rest gR ∧ ∀ a dx, gA (initD N a dx c ns fs ds) fun as => sB c ns fs as (fun ns' fs' => gR (finI a dx c k) (initD N a dx c ns' fs' ds)) eo) :
    FnOk P w K mg base (L2.CX P w) (k + 1) f fd ps (liftI K s) := by
  refine fn_sup F S (fun vs H Q E ⟨b, c, ns, fs, ds, x, dx, vfs, vs', e, _, _, _, _, _, _, _, _, r, h⟩ => by rw [e, List.length_cons, ← r.length]; exact hl _ _ _ _ _ _ h) T.har T.hN0 T.hps T.hks T.hkc hms T.hm T.hsw T.hst T.hpl T.hcall fun A outer s0 H vs Q E hr ⟨b, c, ns, fs, ds, x, dx, vfs, vs', e, nx, ndx, hx, hd, ne, l, rf, bg, r, h⟩ => ?_
  subst e
  obtain rfl := hc _ _ _ _ _ _ h
  obtain ⟨gA, gR, dA, dR, rd⟩ := hbody A outer s0 H (hide [x, dx] H) E b (fun xd => ∀ cls d H', Ext b (hide [x, dx] H) H' → XAt K b H' xd cls d → E cls d H') hr ⟨passes_call (takes_of rfl rfl rfl rfl) fun _ _ _ _ z => z, fun xd cls d H' z x1 xa => z cls d H' x1 xa⟩ _ _ _ _ _ h
  have R0 := rst_init (N := N) nx ndx hx hd ne l rf bg r
  refine ⟨_, _, liftI K sB, E, x, dx, He.ga K c, f2, ns.zip vfs, vs', rfl, hx, SA, fun A outer s H us vs Q E hr e0 r h => ?_, passes_call (takes_of rfl rfl rfl rfl) fun _ _ _ _ z => z, dA.pa, dR.ps, _, [x, dx], R0, dA.mn _ _ _ (fun as ha ws H1 x1 r1 => ?_) (rd x dx)⟩
  · exact FB A outer s H us [] vs Q E hr e0 rfl (by rw [List.append_nil]; exact r) h
  have xh := R0.hx x1
  have hx1 : H1 x = some (.ins (He.ga K c) dx (ns.zip vfs)) := x1.1 _ _ nx hx rfl
  have hd1 : H1 dx = some (.own x) := x1.1 _ _ ndx hd rfl
  refine ⟨b, c, ns, fs, as, x, dx, vfs, ws, rfl, nx, ndx, hx1, hd1, ne, l, rf.mono xh.1, bg.ext xh, r1, msB _ _ _ _ _ _ _ _ (fun ns' fs' hk H2 vfs2 x2 hx2 hd2 l2 rf2 => ?_) (fun xd z cls d H' x3 xa => z cls d H' (xh.trans x3) xa) ha⟩
  have x12 := xh.trans x2
  have R2 := rst_init (N := N) nx ndx hx2 hd2 ne l2 rf2 (bg.ext x12) (r.mono x12.1)
  refine ⟨_, [x, dx], { R2 with le := x12 }, dR.mn (finI x dx c _) _ _ (fun σ q σ' H' O R x1 => ?_) (fun d q => q.elim) (fun σ q => q.elim) (fun σ q => q.elim) hk⟩
  have s := R.slot 0
  have q : (match look σ 0 with | .obj a d c' ns fs => a = x ∧ d = dx ∧ c' = c ∧ _ | _ => False) := q
  cases e : look σ 0 with
  | obj a d c' ns' fs' =>
    rw [e] at q s
    obtain ⟨e1, e2, e3, q⟩ := q
    subst e1 e2 e3
    obtain ⟨vs2, e4, m, md, h1, h2, l2, rs⟩ := s
    have sub : ∀ y ∈ ([a, d] : List Addr), y ∈ O := fun y my => by
      rcases List.mem_cons.mp my with rfl | my
      · exact m
      · have ey : y = d := by simpa using my
        rw [ey]; exact md
    have xs : Ext b (hide O H') (hide [a, d] H') := ⟨hide_mono sub, fun y ey c i j mm h h0 => by
      obtain ⟨n1, n2⟩ := of_hide h
      exact ⟨i, j, h0, by rw [hide_out (fun z => n1 (sub y z))]; exact n2⟩, fun t => tabs_hide (fun y my => (R.nb y (sub y my)).2.2.nt) (tabs_unhide t)⟩
    exact q H' vs2 (R.le.trans xs) h1 h2 l2 (rs.mono (hide_mono sub))
  | _ => rw [e] at q; exact q.elim
theorem funS_fd {K : Fg} {x qual : Str} {params : Arguments} {body : List Stmt} {scope : Scope} {dvs : List V} {kws : List (Str × V)} {f cda cc D : Addr} (h : ∃ fd, FunS K x qual params body scope dvs kws f fd cda cc D) : FunS K x qual params body scope dvs kws f (fdOf K f) cda cc D := by
  obtain ⟨fd, F⟩ := h
  have e : fdOf K f = fd := by
    obtain ⟨oc, od, dV, kV, doc, pm, an, ct, osl, _, lk, _⟩ := F.ex
    unfold fdOf
    rw [lk]
  rw [e]; exact F
def supB (K : Fg) (C D f2 : Addr) (m : Str) : Bool := decide (PySem.W.mroIn K C (.ref D) = some true) && (decide (PySem.W.ks_superIn K C D m = some (some (.ref f2))) && (decide (PySem.W.typeIn K (.ref f2) = some (.type "function")) && (PySem.W.fnIn K f2 && decide (PySem.W.nsIn K cStatics "thirdparty.any" = some none))))
theorem supB_ok {K : Fg} {C D f2 : Addr} {m : Str} (h : supB K C D f2 m = true) : SupAt K C D f2 m := by
  unfold supB at h
  simp only [Bool.and_eq_true, decide_eq_true_eq] at h
  exact ⟨h.1, h.2.1, h.2.2.1, h.2.2.2.1, h.2.2.2.2⟩
/-! ### binding -/
/-- all parameters by position, no defaults -/
theorem bndSN {body : List Stmt} (F : FunS K x qual params body scope [] kws f fd cda cc D)
    (h : ∀ (kV doc pm : Value) (an : Option Addr) (ct : Value) (us : List Value), us.length = ps.length → bindArgs (PySem.W.fnX x qual params body scope [("__class__", cc)] .none kV doc pm an (.ref cda) ct) ⟨us, []⟩ = pure (ps.zip us)) : Binds K fd ps [] := by
  obtain ⟨oc, od, dV, kV, doc, pm, an, ct, osl, rfl, lk, hcd, hD, hK⟩ := F.ex
  rcases hD with ⟨_, rfl⟩ | ⟨e, _⟩
  · exact .all (h kV doc pm an ct)
  · exact absurd rfl e
end
end DL
namespace He
open PySem PySem.Spec PyProof.Rows L2
/-! ### the head's word on such defs -/
def fnS (K : PySem.W.Frag) (a : Addr) : FnW := match K.lookup a with
  | some ⟨_, _, .func fd, _⟩ => some (fd.name, fd.qualname, fd.params, fd.body, fd.scope, fd.globals, fd.closure.map fun p => (p.1, 0), fd.builtins)
  | _ => none
def valS1 (d : DefD) : FnW := some (d.name, d.qual, d.params, .stmts d.body, d.scope, mainGlobals, [("__class__", 0)], builtinsNs)
/-- the code object, the one cell, the class in it -/
def ccS (K : PySem.W.Frag) (a : Addr) : Addr := match K.lookup a with
  | some ⟨_, _, .func fd, _⟩ => (match fd.closure with | [(_, c)] => c | _ => 0)
  | _ => 0
def cdS (K : PySem.W.Frag) (a : Addr) : Addr := match K.lookup a with
  | some ⟨_, _, .func fd, _⟩ => (match fd.code with | .ref c => c | _ => 0)
  | _ => 0
def okS1 (K : PySem.W.Frag) (d : DefD) (cls : Str) : Bool := PySem.W.keepIn K (.ref (fAd K d.at_)) && ((match K.lookup (fAd K d.at_) with
  | some ⟨_, _, .func fd, _⟩ => (match fd.code with
    | .ref cda => PySem.W.codeIn K (.ref cda) d.qual && (match K.lookup cda with
      | some ⟨_, _, .fields vs, _⟩ => (match (vs[2]? : Option Value) with | some (Value.str x _) => decide (x = DL.FILE) | _ => false)
      | _ => false)
    | _ => false) && (dflB K fd.defaults (d.dvs K) && kwdB K fd.kwdefaults (d.kws K))
  | _ => false) && ((match K.lookup (ccS K (fAd K d.at_)) with
  | some ⟨_, _, .cell (some (.ref a)), _⟩ => decide (a = ga K cls)
  | _ => false) && (PySem.W.clsIn K (ga K cls)).isSome))
theorem funS_of {K : PySem.W.Frag} {d : DefD} {cls : Str} (e : fnS K (fAd K d.at_) = valS1 d) (c : okS1 K d cls = true) : ∃ fd, DL.FunS K d.name d.qual d.params d.body d.scope (d.dvs K) (d.kws K) (fAd K d.at_) fd (cdS K (fAd K d.at_)) (ccS K (fAd K d.at_)) (ga K cls) := by
  unfold okS1 at c
  rw [Bool.and_eq_true, Bool.and_eq_true, Bool.and_eq_true] at c
  obtain ⟨kp, c2, c3, c4⟩ := c
  unfold fnS at e
  cases q : K.lookup (fAd K d.at_) with
  | none => rw [q] at c2; cases c2
  | some o =>
    obtain ⟨oc, od, dt, osl⟩ := o
    rw [q] at c2 e
    cases dt with
    | func fd =>
      obtain ⟨n1, n2, n3, n4, n5, n6, n7, n8, n9, n10, n11, n12, n13, n14, n15⟩ := fd
      have e2 : (some (n1, n2, n3, n4, n5, n6, n7.map fun p => (p.1, 0), n15) : FnW) = some (d.name, d.qual, d.params, FuncBody.stmts d.body, d.scope, mainGlobals, [(("__class__" : Str), (0 : Addr))], builtinsNs) := e
      simp only [Option.some.injEq, Prod.mk.injEq] at e2
      obtain ⟨h1, h2, h3, h4, h5, h6, h7, h8⟩ := e2
      obtain ⟨cc, rfl⟩ : ∃ cc, n7 = [(("__class__" : Str), cc)] := by
        cases n7 with
        | nil => exact absurd (congrArg List.length h7) (by simp)
        | cons p r =>
          cases r with
          | nil =>
            obtain ⟨p1, p2⟩ := p
            simp only [List.map_cons, List.map_nil, List.cons.injEq, Prod.mk.injEq, and_true] at h7
            exact ⟨p2, by rw [h7]⟩
          | cons _ _ => exact absurd (congrArg List.length h7) (by simp)
      subst h1 h2 h3 h4 h5 h6 h8
      have ec : ccS K (fAd K d.at_) = cc := by unfold ccS; rw [q]
      simp only [Bool.and_eq_true] at c2
      obtain ⟨c5, k3, k4⟩ := c2
      cases n13 with
      | ref cda =>
        have ed : cdS K (fAd K d.at_) = cda := by unfold cdS; rw [q]
        have c5 : (PySem.W.codeIn K (.ref cda) d.qual && (match K.lookup cda with
          | some ⟨_, _, .fields vs, _⟩ => (match (vs[2]? : Option Value) with | some (Value.str x _) => decide (x = DL.FILE) | _ => false)
          | _ => false)) = true := c5
        rw [Bool.and_eq_true] at c5
        obtain ⟨k1, k2⟩ := c5
        rw [ec, ed]
        rw [ec] at c3
        refine ⟨_, ⟨oc, od, n8, n9, n10, n11, n12, n14, osl, rfl, q, k1, dflB_ok k3, kwdB_ok k4⟩, ?_, ?_, ?_, kp⟩
        · split at k2
          · rename_i ccl cdd vs ccs lk
            split at k2
            · rename_i y tf hv
              exact ⟨_, _, vs, _, tf, lk, by rw [hv, of_decide_eq_true k2]⟩
            · cases k2
          · cases k2
        · split at c3
          · rename_i a b c lk
            rw [of_decide_eq_true c3] at lk
            exact ⟨_, _, _, lk⟩
          · cases c3
        · exact Option.isSome_iff_exists.mp c4
      | _ => cases c5
    | _ => cases c2
abbrev AlS : Type := Bool × List FnW
def obsS1 (fs : List (DefD × Str)) (K : PySem.W.Frag) : AlS := (fs.all fun d => okS1 K d.1 d.2, fs.map fun d => fnS K (fAd K d.1.at_))
def valS (fs : List (DefD × Str)) : AlS := (true, fs.map fun d => valS1 d.1)
def SaysS (fs : List (DefD × Str)) (K : PySem.W.Frag) : Prop := obsS1 fs K = valS fs
theorem SaysS.def_ {fs : List (DefD × Str)} {K : PySem.W.Frag} (c : SaysS fs K) (i : Nat) {d : DefD × Str} (h : fs[i]? = some d := by rfl) : ∃ fd, DL.FunS K d.1.name d.1.qual d.1.params d.1.body d.1.scope (d.1.dvs K) (d.1.kws K) (fAd K d.1.at_) fd (cdS K (fAd K d.1.at_)) (ccS K (fAd K d.1.at_)) (ga K d.2) := by
  have c2 : (fs.all fun d => okS1 K d.1 d.2) = true := congrArg (fun z : AlS => z.1) c
  have e : (fs.map fun d => fnS K (fAd K d.1.at_)) = fs.map fun d => valS1 d.1 := congrArg (fun z : AlS => z.2) c
  have e2 : (fs.map fun d => fnS K (fAd K d.1.at_))[i]? = (fs.map fun d => valS1 d.1)[i]? := by rw [e]
  rw [List.getElem?_map, List.getElem?_map, h] at e2
  exact funS_of (Option.some.inj e2) (List.all_eq_true.mp c2 d (List.mem_of_getElem? h))
/-! ### the Hook with such defs -/
end He
/-! DS4 -/
set_option Elab.async false
set_option linter.all false
set_option maxRecDepth 100000
set_option maxHeartbeats 4000000
/-! The Hook over a list of addresses that is given. -/
namespace He
open PySem PySem.Spec PyProof.Rows L2
def obsL (as : List Addr) (fa : List Fa) (fn : List DefD) (ts : List Tab) (tf : List Defn) (ex : PySem.W.Frag → Bool) (g : Addr → Option Obj) : AlX := (obsT fa fn ts (frT g as), ex (frT g as) && tabsB g tf (frT g as))
theorem saysL_of {as : List Addr} {fa : List Fa} {fn : List DefD} {ts : List Tab} {tf : List Defn} {ex : PySem.W.Frag → Bool} {w : World} {h : Heap} (e : obsL as fa fn ts tf ex h.get? = valX fn ts w) : SaysX fa fn ts tf ex w h (frT h.get? as) := by
  have e1 : obsT fa fn ts (frT h.get? as) = valT fn ts w := congrArg (fun z : AlX => z.1) e
  have e2 : (ex (frT h.get? as) && tabsB h.get? tf (frT h.get? as)) = true := congrArg (fun z : AlX => z.2) e
  obtain ⟨h1, h2⟩ := ba e2
  have key : ∀ p ∈ tf, PySem.W.codeHdIn (frT h.get? as) (cT (frT h.get? as) p).1 (cT (frT h.get? as) p).2 = true ∧ ∃ o, h.get? (cT (frT h.get? as) p).2 = some o ∧ emptyTab o = true := fun p hp => by
    obtain ⟨h3, h4⟩ := ba (List.all_eq_true.mp h2 p hp)
    refine ⟨h3, ?_⟩
    cases q : h.get? (cT (frT h.get? as) p).2 with
    | none =>
      rw [q] at h4
      cases h4
    | some o =>
      rw [q] at h4
      exact ⟨o, rfl, h4⟩
  exact ⟨e1, h1, fun p hp => (key p hp).1, fun p hp => by
    obtain ⟨_, o, q, z⟩ := key p hp
    exact frT_none q z, fun p hp => by
    obtain ⟨_, o, q, z⟩ := key p hp
    rw [q, emptyTab_eq z]⟩
def obsR (as : List Addr) (fa : List Fa) (fn : List DefD) (fs : List He5.DefA) (ss : List (DefD × Str)) (ts : List Tab) (tf : List Defn) (ex : PySem.W.Frag → Bool) (g : Addr → Option Obj) : (AlX × He.AlD) × AlS := ((obsL as fa fn ts tf ex g, He5.obsA [] fs (frT g as)), obsS1 ss (frT g as))
def hookR (as : List Addr) (fa : List Fa) (fn : List DefD) (fs : List He5.DefA) (ss : List (DefD × Str)) (ts : List Tab) (tf : List Defn) (ex : PySem.W.Frag → Bool) : PySem.W.Hook where
  α := (AlX × He.AlD) × AlS
  obs := fun s => obsR as fa fn fs ss ts tf ex s.heap.get?
  val := fun w => ((valX fn ts w, He5.valA fs), valS ss)
  says := fun w h => ∃ K : PySem.W.Frag, K.In h ∧ SaysX fa fn ts tf ex w h K ∧ He5.SaysA [] fs K ∧ SaysS ss K
  of := fun _ _ e => ⟨_, frT_in, saysL_of (congrArg (fun z : (AlX × He.AlD) × AlS => z.1.1) e), congrArg (fun z : (AlX × He.AlD) × AlS => z.1.2) e, congrArg (fun z : (AlX × He.AlD) × AlS => z.2) e⟩
  keeps := fun _ _ _ ⟨K, hK, c, c2, c3⟩ k => ⟨K, PySem.W.Frag.In.keeps hK k, ⟨c.t, c.more, c.hd, c.out, fun p hp => k _ _ (c.empty p hp)⟩, c2, c3⟩
theorem obsR_eq {as : List Addr} {fa : List Fa} {fn : List DefD} {fs : List He5.DefA} {ss : List (DefD × Str)} {ts : List Tab} {tf : List Defn} {ex : PySem.W.Frag → Bool} {g : Addr → Option Obj} {s : Shared} (h : ∀ a, g a = s.heap.get? a) : obsR as fa fn fs ss ts tf ex g = (hookR as fa fn fs ss ts tf ex).obs s := by
  have e : g = s.heap.get? := funext h
  rw [e] <;> rfl
end He
/-! DS3 -/
set_option Elab.async false
set_option linter.all false
set_option maxRecDepth 100000
set_option maxHeartbeats 4000000
/-! A tuple times an int from 0 on. -/
namespace DL
open PySem PySem.Spec PyProof.Rows L2
variable [TabC]
def gRepT (ge gb : GE) : GE := fun σ k => ge σ fun d => match d with
  | .tup ds => gb σ fun y => match y with
    | .int n => (0 ≤ n ∧ n ≤ 1000 ∧ ds ≠ [] ∧ ds.length ≤ 1000) ∧ k (.tup (List.replicate n.toNat ds).flatten)
    | _ => False
  | .str z => gb σ fun y => match y with
    | .int n => (0 ≤ n ∧ n ≤ 1000 ∧ z.length ≤ 1000) ∧ k (.str (Txt.mul z n))
    | _ => False
  | _ => False
section
variable {X : Cx} {b : Option Addr} {H0 : Hp} {a c : Expr} {ga gb : GE} {pos : Pos}
theorem ev_repT {σ : StD} {ds : List D} {n : Int} (A : Ev ga σ (.tup ds)) (B : Ev gb σ (.int n)) (h : 0 ≤ n ∧ n ≤ 1000 ∧ ds ≠ [] ∧ ds.length ≤ 1000) : Ev (gRepT ga gb) σ (.tup (List.replicate n.toNat ds).flatten) := .mk fun k q => A _ (B _ ⟨h, q⟩)
end
end DL
/-! DT1 -/
set_option Elab.async false
set_option linter.all false
set_option maxRecDepth 100000
set_option maxHeartbeats 4000000
/-! sum of a list of objects whose + is their class's. -/
namespace PySem
open Sem (wp)
section
variable {prog : Program} {w : World} {A : Around} {R : Result → Shared → Prop} {I S ax : Addr} {items : Array Value} {J : Nat → Value → Shared → Prop}
/-- one addition of sum.loop, the total is not a float -/
theorem codeAny_sum_loopO (hh : A.in1.handled = none) (hne : ax ≠ I) (hSI : S ≠ I) (hSa : S ≠ ax) (hall : ∀ (i : Nat) (v : Value), items[i]? = some v → ∃ x, v = .ref x)
    (hJ : ∀ i t s h' tk, J i t s → (∀ b o, b ≠ I → b ≠ S → s.heap.get? b = some o → h'.get? b = some o) → J i t { s with heap := h', toks := tk })
    (hstep : ∀ i t v s oI oS, J i t s → items[i]? = some v → s.heap.get? I = some oI → s.heap.get? S = some oS → s.heap.IsList ax items → (∀ c, oI.data ≠ .cell c) → (∀ c, oS.data ≠ .cell c) →
      wpAny (model prog w) A.in1 (binaryOp .Add t v) (fun r s' => (∃ x, r = .ref x) ∧ J (i + 1) r s' ∧ s'.heap.get? I = some oI ∧ s'.heap.get? S = some oS ∧ s'.heap.IsList ax items) (fun _ _ => False) s) :
    ∀ (k i : Nat) (s : Shared) (t : Value) (c : Nat) (stage : Int), ((stage = 0 ∧ ∃ a tk, t = .int a tk) ∨ (stage = 2 ∧ ∃ x, t = .ref x)) → items.size - i = k → i ≤ items.size → s.heap.IsListIter I ax i → s.heap.IsList ax items →
      s.heap.get? S = some { cls := .type "list", dict := none, data := .seq #[t] c, slots := #[] } → J i t s → (∀ r s', J items.size r s' → R (.ok (.ret r)) s') →
      codeAny (model prog w) A (.builtin "sum.loop" ⟨[.ref I, .ref S, rawInt stage, rawInt 0], []⟩) R s := by
  have W := Walks.list (prog := prog) (w := w) (A := A.in1) hh I ax hne items
  intro k
  induction k with
  | zero =>
    intro i s t c stage hstage hk hi hit hl hS hj hR
    have hin : i = items.size := by omega
    subst hin
    refine codeAny_builtin F.entry_sum_loop ?_
    rw [Around.under_plainId F.plain_sum_loop _]
    show wpAny _ A.in1 (seqItems? (.ref S) >>= _) _ _ s
    refine wpAny_bind (wpAny_seqItems hS rfl ?_)
    show wpAny _ A.in1 (tryCatch (pyNext (.ref I)) _ >>= _) _ _ s
    refine wpAny_bind (wpAny_tryCatch (W.done s _ _ ⟨hit, hl⟩ fun h' tk hk' => ?_))
    have hf := hJ _ _ _ h' tk hj fun b o hb _ e => hk' b o (by simpa using hb) e
    rcases hstage with ⟨rfl, a, tk2, rfl⟩ | ⟨rfl, x, rfl⟩
    · exact wpAny_pure (hR _ _ hf)
    · exact wpAny_pure (hR _ _ hf)
  | succ k ih =>
    intro i s t c stage hstage hk hi hit hl hS hj hR
    have hlt : i < items.size := by omega
    refine codeAny_builtin F.entry_sum_loop ?_
    rw [Around.under_plainId F.plain_sum_loop _]
    show wpAny _ A.in1 (seqItems? (.ref S) >>= _) _ _ s
    refine wpAny_bind (wpAny_seqItems hS rfl ?_)
    show wpAny _ A.in1 (tryCatch (pyNext (.ref I)) _ >>= _) _ _ s
    refine wpAny_bind (wpAny_tryCatch (W.item i s _ _ hlt ⟨hit, hl⟩ fun v h' tk hP hst' hk' => ?_))
    obtain ⟨x, rfl⟩ := hall i v hP
    obtain ⟨hit', hl'⟩ := hst'
    have hS' := hk' S _ (by simpa using hSI) hS
    have hj' := hJ _ _ _ h' tk hj fun b o hb _ e => hk' b o (by simpa using hb) e
    obtain ⟨oI, hoI, hoI2⟩ := hit'
    have plain : ∀ (stage2 : Int), wpAny (model prog w) A.in1 ((holding [Value.ref x] (binaryOp .Add t (.ref x))).attempt) (fun r s' => ∃ y, r = .ok (.ref y) ∧ J (i + 1) (.ref y) s' ∧ s'.heap.get? I = some oI ∧ s'.heap.get? S = some { cls := .type "list", dict := none, data := .seq #[t] c, slots := #[] } ∧ s'.heap.IsList ax items) (fun _ _ => False) { s with heap := h', toks := tk } := fun _ =>
      wpAny_attempt (wpAny_holding (wpAny_mono (hstep i t (.ref x) { s with heap := h', toks := tk } oI _ hj' hP hoI hS' hl' (fun c e => by rw [hoI2.2] at e; cases e) (fun c e => by cases e)) (fun r s' h => by
        obtain ⟨⟨y, rfl⟩, h1, h2, h3, h4⟩ := h
        exact ⟨y, rfl, h1, h2, h3, h4⟩) fun _ _ z => z.elim))
    rcases hstage with ⟨rfl, a, tk2, rfl⟩ | ⟨rfl, x2, rfl⟩
    · show wpAny _ A.in1 (rule "sum.leaves-ints" >>= _) _ _ _
      refine wpAny_bind (wpAny_rule ?_)
      refine wpAny_bind (wpAny_mono (plain 0) (fun r s' h => ?_) fun _ _ z => z.elim)
      obtain ⟨y, rfl, h1, h2, h3, h4⟩ := h
      show wpAny _ A.in1 (updateSeq S (fun _ => #[.ref y]) >>= _) _ _ _
      refine wpAny_bind ?_
      refine wpAny_updateSeq h3 rfl ?_
      have hS2 := Heap.get?_update_self (Obj.mapSeq fun _ => #[Value.ref y]) h3 rfl
      refine wpAny_bind (wpAny_letGo ?_)
      refine wpAny_bind ?_
      have oth : ∀ b, b ≠ S → ∀ o, s'.heap.get? b = some o → ((s'.heap.update S (Obj.mapSeq fun _ => #[Value.ref y])).update S (Obj.mapSeq fun _ => #[Value.ref y])).get? b = some o := fun b hb o e => (Heap.get?_update_other _ _ (Ne.symm hb)).trans ((Heap.get?_update_other _ _ (Ne.symm hb)).trans e)
      obtain ⟨oa, ha1, ha2⟩ := h4
      have hj2 := hJ _ _ s' ((s'.heap.update S (Obj.mapSeq fun _ => #[Value.ref y])).update S (Obj.mapSeq fun _ => #[Value.ref y])) s'.toks h1 fun b o _ hb e => oth b hb o e
      refine wpAny_updateSeq hS2 rfl (wpAny_pure ⟨plainId_quiet F.plain_sum_loop _, ih (i + 1) _ (.ref y) _ 2 (Or.inr ⟨rfl, y, rfl⟩) (by omega) hlt ⟨oI, oth I (Ne.symm hSI) _ h2, hoI2⟩ ⟨oa, oth ax (Ne.symm hSa) _ ha1, ha2⟩ (Heap.get?_update_self _ hS2 rfl) hj2 hR⟩)
    · refine wpAny_bind (wpAny_mono (plain 0) (fun r s' h => ?_) fun _ _ z => z.elim)
      obtain ⟨y, rfl, h1, h2, h3, h4⟩ := h
      show wpAny _ A.in1 (updateSeq S (fun _ => #[.ref y]) >>= _) _ _ _
      refine wpAny_bind ?_
      refine wpAny_updateSeq h3 rfl ?_
      have hS2 := Heap.get?_update_self (Obj.mapSeq fun _ => #[Value.ref y]) h3 rfl
      refine wpAny_bind (wpAny_letGo ?_)
      refine wpAny_bind ?_
      have oth : ∀ b, b ≠ S → ∀ o, s'.heap.get? b = some o → ((s'.heap.update S (Obj.mapSeq fun _ => #[Value.ref y])).update S (Obj.mapSeq fun _ => #[Value.ref y])).get? b = some o := fun b hb o e => (Heap.get?_update_other _ _ (Ne.symm hb)).trans ((Heap.get?_update_other _ _ (Ne.symm hb)).trans e)
      obtain ⟨oa, ha1, ha2⟩ := h4
      have hj2 := hJ _ _ s' ((s'.heap.update S (Obj.mapSeq fun _ => #[Value.ref y])).update S (Obj.mapSeq fun _ => #[Value.ref y])) s'.toks h1 fun b o _ hb e => oth b hb o e
      refine wpAny_updateSeq hS2 rfl (wpAny_pure ⟨plainId_quiet F.plain_sum_loop _, ih (i + 1) _ (.ref y) _ 2 (Or.inr ⟨rfl, y, rfl⟩) (by omega) hlt ⟨oI, oth I (Ne.symm hSI) _ h2, hoI2⟩ ⟨oa, oth ax (Ne.symm hSa) _ ha1, ha2⟩ (Heap.get?_update_self _ hS2 rfl) hj2 hR⟩)
theorem call_sumO {l : Addr} {Q : Value → Shared → Prop} {E : Value → Shared → Prop} {s : Shared} {J : Addr → Addr → Nat → Value → Shared → Prop} (hh : A.in1.handled = none) (hl : s.heap.IsList l items) (hall : ∀ (i : Nat) (v : Value), items[i]? = some v → ∃ x, v = .ref x)
    (hJ : ∀ I S i t s h' tk, J I S i t s → (∀ b o, b ≠ I → b ≠ S → s.heap.get? b = some o → h'.get? b = some o) → J I S i t { s with heap := h', toks := tk })
    (hstep : ∀ I S i t v s oI oS, J I S i t s → items[i]? = some v → s.heap.get? I = some oI → s.heap.get? S = some oS → s.heap.IsList l items → (∀ c, oI.data ≠ .cell c) → (∀ c, oS.data ≠ .cell c) →
      wpAny (model prog w) A.in1 (binaryOp .Add t v) (fun r s' => (∃ x, r = .ref x) ∧ J I S (i + 1) r s' ∧ s'.heap.get? I = some oI ∧ s'.heap.get? S = some oS ∧ s'.heap.IsList l items) (fun _ _ => False) s)
    (h0 : ∀ I S h' tk tk0, s.heap.objs.size ≤ I → s.heap.objs.size ≤ S → (∀ b o, s.heap.get? b = some o → h'.get? b = some o) → J I S 0 (.int 0 tk0) { s with heap := h', toks := tk })
    (hQ : ∀ I S r s', J I S items.size r s' → Q r s') : wpAny (model prog w) A (call (.builtin "sum") [.ref l]) Q E s := by
  have hlt : l < s.heap.objs.size := by obtain ⟨_, e, _⟩ := hl; exact Heap.lt_size e
  refine call_function_tree F.kind_sum F.plain_sum F.entry_sum (F.args_sum1 _) ?_
  unfold Builtin.«sum»
  simp only [List.length_cons, List.length_nil]
  rw [if_neg (by decide)]
  refine wpAny_bind (wpAny_of_eq (show Builtin.Builtins.bindParams "sum" ["start"] 0 { } = pure [none] from rfl) ?_)
  refine wpAny_bind (wpAny_pyIter_list hl ?_)
  refine wpAny_bind (wpAny_mkInt ?_)
  refine wpAny_bind (wpAny_pure ?_)
  simp only [List.forIn_cons, List.forIn_nil]
  refine wpAny_bind (wpAny_bind (wpAny_bind (wpAny_isInstance (T := "int") (b := false) (typeIs_int _ _ _) sub_int_str ?_)))
  simp only [Bool.false_eq_true, if_false]
  refine wpAny_pure (wpAny_bind (wpAny_bind (wpAny_isInstance (T := "int") (b := false) (typeIs_int _ _ _) sub_int_bytes ?_)))
  simp only [Bool.false_eq_true, if_false]
  refine wpAny_pure (wpAny_bind (wpAny_bind (wpAny_isInstance (T := "int") (b := false) (typeIs_int _ _ _) sub_int_bytearray ?_)))
  simp only [Bool.false_eq_true, if_false]
  refine wpAny_pure (wpAny_pure ?_)
  refine wpAny_bind (wpAny_newObj_type ?_)
  have e1 : (s.heap.push { cls := .type "list_iterator", data := .fields #[.ref l, .int 0 0] }).objs.size = s.heap.objs.size + 1 := Heap.size_push _ _
  refine wpAny_pure ⟨plainId_quiet F.plain_sum_loop _, codeAny_sum_loopO (I := s.heap.objs.size) (S := (s.heap.push { cls := .type "list_iterator", data := .fields #[.ref l, .int 0 0] }).objs.size) (ax := l) (items := items) (J := J s.heap.objs.size (s.heap.push { cls := .type "list_iterator", data := .fields #[.ref l, .int 0 0] }).objs.size) hh (Nat.ne_of_lt hlt) (by rw [e1]; exact Nat.succ_ne_self _) (by rw [e1]; exact Nat.ne_of_gt (Nat.lt_succ_of_lt hlt)) hall (hJ _ _) (hstep _ _) items.size 0 _ (Value.int 0 s.toks) 0 0 (.inl ⟨rfl, _, _, rfl⟩) rfl (Nat.zero_le _) ?_ ?_ ?_ ?_ fun r s' h => hQ _ _ r s' h⟩
  · exact ⟨_, Heap.get?_push_of_some _ (Heap.get?_push_size _ rfl), rfl, rfl⟩
  · exact (hl.push _).push _
  · exact Heap.get?_push_size _ rfl
  · exact h0 _ _ _ _ _ (Nat.le_refl _) (by rw [e1]; exact Nat.le_succ _) fun b o e => Heap.get?_push_of_some _ (Heap.get?_push_of_some _ e)
end
end PySem
/-! DT2 -/
set_option Elab.async false
set_option linter.all false
set_option maxRecDepth 100000
set_option maxHeartbeats 4000000
/-! sum of a list of objects, as data. -/
namespace DL
open PySem PySem.Spec PyProof.Rows L2
variable [TabC]
def insD : D → Prop | .ins _ _ _ => True | _ => False
/-- acc + d, of the class c: s of __add__, sr of __radd__ -/
def dAdd2 (c : Str) (s sr : GS) (acc d : D) (k : D → Prop) : Prop := match acc, d with
  | .int i, .ins c' ns ds => c' = c ∧ sr [.ins c' ns ds, .int i] k (fun _ => False)
  | .ins c1 n1 d1, .ins c2 n2 d2 => c1 = c ∧ c2 = c ∧ s [.ins c1 n1 d1, .ins c2 n2 d2] k (fun _ => False)
  | _, _ => False
def dSumG (c : Str) (s sr : GS) : D → List D → (D → Prop) → Prop
  | acc, [], k => k acc
  | acc, d :: r, k => dAdd2 c s sr acc d fun v => insD v ∧ dSumG c s sr v r k
def gSumO (c : Str) (s sr : GS) (ga : GE) : GE := fun σ k => ga σ fun x => match x with | .lst ds => (∀ d ∈ ds, insD d) ∧ dSumG c s sr (.int 0) ds k | _ => False
theorem dAdd2_mn {c : Str} {s sr : GS} (ms : MnS s) (mr : MnS sr) {acc d : D} {k k' : D → Prop} (h : ∀ d, k d → k' d) (q : dAdd2 c s sr acc d k) : dAdd2 c s sr acc d k' := by
  unfold dAdd2 at q ⊢
  split at q
  · exact ⟨q.1, mr _ _ _ _ _ h (fun _ z => z) q.2⟩
  · exact ⟨q.1, q.2.1, ms _ _ _ _ _ h (fun _ z => z) q.2.2⟩
  · exact q.elim
theorem dSumG_mn {c : Str} {s sr : GS} (ms : MnS s) (mr : MnS sr) {k k' : D → Prop} (h : ∀ d, k d → k' d) : ∀ {ds : List D} {acc : D}, dSumG c s sr acc ds k → dSumG c s sr acc ds k'
  | [], _, q => h _ q
  | _ :: _, _, q => dAdd2_mn ms mr (fun _ z => ⟨z.1, dSumG_mn ms mr h z.2⟩) q
theorem gSumO_mn {c : Str} {s sr : GS} {ga : GE} (ms : MnS s) (mr : MnS sr) (A : Mn ga) : Mn (gSumO c s sr ga) := fun σ k k' i q => A _ _ _ (fun x z => by
  cases x with
  | lst ds => exact ⟨z.1, dSumG_mn ms mr i z.2⟩
  | _ => exact z.elim) q
section
variable {X : Cx} {b : Option Addr} {pins : List (Addr × Obj)} {σ : L2.St} {H : Hp} {s0 : Shared} {O : List Addr} {A1 : Around}
variable {s : GS} {k : Nat} {f : Addr} {fd : FuncData} {ps : List Str} {ds : List D} {vs : List V} {us : List Value} {Q : VK}
/-- a def's run from a frame around, no error comes of it -/
theorem run_fnN (F : FnOk X.prog X.w X.K X.mg X.base (L2.CX X.prog X.w) k f fd ps (lift X.K s)) (ms : MnS s) (hr : Room k A1) (hA : A1.frames = some X.stack) (hb : Binds X.K fd ps [])
    (I : Inv X pins σ H s0) (r : Vals vs us) (nb : ∀ a ∈ O, some a ≠ b ∧ Hid O H a) (bg : Bg b (hide O H)) (rp : Reps X.K b (hide O H) ds vs) (h : s ds (fun d => ∀ v H', Ext b H H' → Rep X.K b (hide O H') d v → Q v H') (fun _ => False)) :
    wpAny (model X.prog X.w) A1 (call (.ref f) us) (EP X pins σ Q) (fun _ _ => False) s0 := by
  have hO : ∀ a ∈ O, Hid O H a := fun a m => (nb a m).2
  have I1 := inv_hide I hO
  have sp : lift X.K s vs (hide O H) (fun v H2 => (∀ a ∈ O, H2 a = none) → Q v (back O H H2)) (fun _ _ _ => False) := by
    refine ⟨b, ds, bg, rp, ms _ _ _ _ _ (fun d hd v H2 x r0 fr => ?_) (fun x hx cls d H2 x2 xa => hx) h⟩
    refine hd v _ (back_ext nb fr x) ?_
    rw [back_hide fr]
    exact r0
  have hl : us.length = ps.length := by rw [← r.length]; exact F.len _ _ _ _ sp
  have e0 : Env0 X.prog X.w X.K X.mg X.base A1 X.stack s0 (hide O H) := ⟨hA, I1.env0.mod, I1.env0.bs, I1.env0.bsz, I1.env0.funs, I1.env0.frf, I1.env0.hok, I1.env0.bare⟩
  have hb' := hb s0 us I.kIn (by simpa using hl)
  rw [List.append_nil] at hb'
  refine wpAny_call (codeAny_mono (F.run A1 X.stack s0 (hide O H) ⟨us, []⟩ us vs _ _ hr e0 hb' r sp) fun r s' hq => ?_)
  cases r with
  | error e =>
    obtain ⟨_, _, _, _, _, _, _, _, _, _, _, _, q⟩ := hq
    exact q.elim
  | ok fl =>
    cases fl with
    | ret u =>
      obtain ⟨v, H2, os, bare, un, ok, rv, q⟩ := hq
      obtain ⟨fr, I2⟩ := inv_back I hO os bare un ok
      exact ⟨v, _, I2, rv, q fr⟩
    | next => exact False.elim hq
    | brk => exact False.elim hq
    | cont => exact False.elim hq
end
section
variable {X : Cx} {b : Option Addr} {H0 : Hp} {pins : List (Addr × Obj)} {σ : L2.St} {H : Hp} {s0 : Shared} {O : List Addr}
variable {sa sr : GS} {k : Nat} {fa fr : Addr} {fda fdr : FuncData} {pa pr : List Str} {c : Str}
theorem refs_of : ∀ {ds : List D} {vs : List V}, Reps X.K b H ds vs → (∀ d ∈ ds, insD d) → ∃ ps : List Addr, vs = ps.map V.ref
  | [], vs, h, _ => ⟨[], by rw [h.of_nil]; rfl⟩
  | d :: r, vs, h, q => by
    obtain ⟨v, w, rfl, h1, h2⟩ := h.of_cons
    obtain ⟨ps, rfl⟩ := refs_of h2 fun d hd => q d (List.mem_cons_of_mem _ hd)
    have z := q d List.mem_cons_self
    cases d with
    | ins c' ns ds =>
      obtain ⟨a, dx, vs, rfl, _⟩ := h1.ins
      exact ⟨a :: ps, rfl⟩
    | _ => exact z.elim
theorem vals_refs : ∀ {ps : List Addr} {us : List Value}, Vals (ps.map V.ref) us → us = ps.map Value.ref
  | [], _, .nil => rfl
  | p :: r, _, .cons h t => by
    obtain rfl : _ = Value.ref p := h
    rw [vals_refs t]; rfl
/-- one addition -/
theorem add_step (oa : OwnB X.K (He.ga X.K c) .Add fa) (or_ : OwnR X.K (He.ga X.K c) .Add fr) (Fa : FnOk X.prog X.w X.K X.mg X.base (L2.CX X.prog X.w) k fa fda pa (lift X.K sa)) (Fr : FnOk X.prog X.w X.K X.mg X.base (L2.CX X.prog X.w) k fr fdr pr (lift X.K sr))
    (ms : MnS sa) (mr : MnS sr) (hr : Room (k + 1) X.A) (ba : Binds X.K fda pa []) (br : Binds X.K fdr pr [])
    (I : Inv X pins σ H s0) (nb : ∀ a ∈ O, some a ≠ b ∧ Hid O H a) (bg : Bg b (hide O H)) {x y : V} {t u : Value} {dx dy : D} (rx : RelV x t) (ry : RelV y u) (px : Rep X.K b (hide O H) dx x) (py : Rep X.K b (hide O H) dy y) {Q : D → Prop} (q : dAdd2 c sa sr dx dy Q) :
    wpAny (model X.prog X.w) X.A.in1 (binaryOp .Add t u) (EP X pins σ fun v H' => Ext b H H' ∧ ∃ dv, Rep X.K b (hide O H') dv v ∧ Q dv) (fun _ _ => False) s0 := by
  have hA : X.A.in1.frames = some X.stack := I.ok.frames
  have hr1 := hr.in1
  unfold dAdd2 at q
  split at q
  · rename_i i c' ns ds
    obtain ⟨rfl, q⟩ := q
    have e1 := px.int
    subst e1
    obtain ⟨tk, rfl⟩ : ∃ tk, t = Value.int i tk := rx
    obtain ⟨a, dxa, vs, rfl, n, h, l, _⟩ := id py.ins
    obtain rfl : u = Value.ref a := ry
    have hh := (of_hide h).2
    obtain ⟨mA, J, _⟩ := ins_get I.hok hh
    have gx := J.1
    obtain ⟨od, J, _⟩ := J.look
    obtain ⟨m, hF⟩ := I.fr
    have run := run_fnN (us := [.ref a, .int i tk]) (vs := [.ref a, .int i]) (Q := fun v H' => Ext b H H' ∧ ∃ dv, Rep X.K b (hide O H') dv v ∧ Q dv) Fr mr hr1 hA br I (.cons rfl (.cons ⟨tk, rfl⟩ .nil)) nb bg (Reps.cons py (Reps.cons px Reps.nil)) (mr _ _ _ _ _ (fun d hd v H' x r => ⟨x, d, r, hd⟩) (fun _ z => z) q)
    have run' := wpAny_mono run (fun v s' h => cmpBack_of h) fun _ _ h => h
    obtain ⟨g, hs⟩ := or_.find
    exact refAdd hF I.ok.mod.kin J gx rfl or_.first hs or_.refl or_.fn or_.sub run'
  · rename_i c1 n1 d1 c2 n2 d2
    obtain ⟨rfl, e2, q⟩ := q
    subst e2
    obtain ⟨a, dxa, vs, rfl, n, h, l, _⟩ := id px.ins
    obtain ⟨a2, dxa2, vs2, rfl, n', h2, l2, _⟩ := id py.ins
    obtain rfl : t = Value.ref a := rx
    obtain rfl : u = Value.ref a2 := ry
    obtain ⟨mA, J, _⟩ := ins_get I.hok (of_hide h).2
    obtain ⟨od, J, _⟩ := J.look
    obtain ⟨mB, J2, _⟩ := ins_get I.hok (of_hide h2).2
    obtain ⟨od2, J2, _⟩ := J2.look
    obtain ⟨m, hF⟩ := I.fr
    have run := run_fnN (us := [.ref a, .ref a2]) (vs := [.ref a, .ref a2]) (Q := fun v H' => Ext b H H' ∧ ∃ dv, Rep X.K b (hide O H') dv v ∧ Q dv) Fa ms hr1 hA ba I (.cons rfl (.cons rfl .nil)) nb bg (Reps.cons px (Reps.cons py Reps.nil)) (ms _ _ _ _ _ (fun d hd v H' x r => ⟨x, d, r, hd⟩) (fun _ z => z) q)
    have run' := wpAny_mono run (fun v s' h => cmpBack_of h) fun _ _ h => h
    exact PySem.W.binop_K hF I.ok.mod.kin J J2.type oa.first oa.find oa.fn run'
  · exact q.elim
theorem nb_mono {H' : Hp} (nb : ∀ a ∈ O, some a ≠ b ∧ Hid O H a) (x : Ext b H H') : ∀ a ∈ O, some a ≠ b ∧ Hid O H' a := fun a m => by
  obtain ⟨n, o, e, q⟩ := nb a m
  refine ⟨n, o, x.1 _ _ n e ?_, ?_⟩
  · cases o <;> first | rfl | exact q.elim
  · cases o with
    | own z =>
      obtain ⟨q1, C, fs, q2⟩ := q
      exact ⟨q1, C, fs, x.1 _ _ (nb z q1).1 q2 rfl⟩
    | _ => first | exact q | exact q.elim
theorem hx_mono {H' : Hp} (nb : ∀ a ∈ O, some a ≠ b ∧ Hid O H a) (x : Ext b H H') : Ext b (hide O H) (hide O H') := x.hide nb
def rSumO (K : Fg) (b : Option Addr) (c : Str) (sa sr : GS) : List V → Hp → VK → Prop := fun xs H Q => ∃ (a : Addr) (O : List Addr) (ds : List D), xs = [.ref a] ∧ (∀ a ∈ O, some a ≠ b ∧ Hid O H a) ∧ Bg b (hide O H) ∧ Rep K b (hide O H) (.lst ds) (.ref a) ∧ (∀ d ∈ ds, insD d) ∧
  dSumG c sa sr (.int 0) ds (fun d => ∀ v H', Ext b H H' → Rep K b (hide O H') d v → Q v H')
theorem call_sumD (oa : OwnB X.K (He.ga X.K c) .Add fa) (or_ : OwnR X.K (He.ga X.K c) .Add fr) (Fa : FnOk X.prog X.w X.K X.mg X.base (L2.CX X.prog X.w) k fa fda pa (lift X.K sa)) (Fr : FnOk X.prog X.w X.K X.mg X.base (L2.CX X.prog X.w) k fr fdr pr (lift X.K sr))
    (ms : MnS sa) (mr : MnS sr) (hr : Room (k + 1) X.A) (ba : Binds X.K fda pa []) (br : Binds X.K fdr pr []) : CallR X (.builtin "sum") (rSumO X.K b c sa sr) := by
  intro pins s σ H xs us Q I rv q
  obtain ⟨a, O, ds, rfl, nb, bg, rp, hi, q⟩ := q
  cases rv with
  | cons h1 t1 => cases t1 with
  | nil =>
  rename_i u
  obtain rfl : u = Value.ref a := h1
  obtain ⟨vs, na, hl, re⟩ : ∃ vs, some a ≠ b ∧ SqS X.K (hide O H) a vs ∧ Reps X.K b (hide O H) ds vs := by
    have z := rp
    simp only [Rep] at z
    obtain ⟨a', vs, e, na, hl, re⟩ := z
    cases e
    exact ⟨vs, na, hl, re⟩
  obtain ⟨ps, rfl⟩ := refs_of re hi
  have lists : ∀ {H' : Hp} {s' : Shared} {pins' : List (Addr × Obj)}, Inv X pins' σ H' s' → Ext b H H' → s'.heap.IsList a (ps.map Value.ref).toArray := fun {H' s' pins'} I' x => by
    obtain ⟨its, r2, pl, _⟩ := (inv_hide I' fun a m => (nb_mono nb x a m).2).list (sqS_mono (hx_mono nb x).1 na hl).l
    have z := vals_refs r2
    subst z
    exact pl.isList
  have hh : X.A.in1.handled = none := hr.in1.hd
  have sz : ds.length = ps.length := by have := re.length; simpa using this
  refine call_sumO (J := fun I S i t s' => ∃ acc accD H', Inv X pins σ H' s' ∧ RelV acc t ∧ FpOk X pins H' I ∧ FpOk X pins H' S ∧ Ext b H H' ∧ Rep X.K b (hide O H') accD acc ∧ dSumG c sa sr accD (ds.drop i) (fun d => ∀ v H2, Ext b H' H2 → Rep X.K b (hide O H2) d v → Q v H2))
    (items := (ps.map Value.ref).toArray) hh (lists I (.refl H)) ?_ ?_ ?_ ?_ ?_
  · intro i v e
    simp only [List.getElem?_toArray, List.getElem?_map, Option.map_eq_some_iff] at e
    obtain ⟨x, _, rfl⟩ := e
    exact ⟨x, rfl⟩
  · rintro Ia S i t s1 h' tk ⟨acc, accD, H', I', rv, f1, f2, x, r, q⟩ hk
    refine ⟨acc, accD, H', I'.turnedL (ch := [Ia, S]) (fun b o hb e => hk b o (fun z => hb (z ▸ List.mem_cons_self)) (fun z => hb (z ▸ List.mem_cons_of_mem _ List.mem_cons_self)) e) (fun b hb => ?_), rv, f1, f2, x, r, q⟩
    simp only [List.mem_cons, List.not_mem_nil, or_false] at hb
    rcases hb with rfl | rfl
    · exact f1
    · exact f2
  · rintro Ia S i t v s1 oI oS ⟨acc, accD, H', I', rv, f1, f2, x, r, q⟩ hv hoI hoS hli ncI ncS
    have hv' : ∃ p, ps[i]? = some p ∧ v = .ref p := by
      simp only [List.getElem?_toArray, List.getElem?_map, Option.map_eq_some_iff] at hv
      obtain ⟨x, h1, rfl⟩ := hv
      exact ⟨x, h1, rfl⟩
    obtain ⟨p, hp, rfl⟩ := hv'
    obtain ⟨hi1, hi2⟩ := List.getElem?_eq_some_iff.mp hp
    have hlt : i < ds.length := by rw [sz]; exact hi1
    have hd : ds.drop i = ds[i]'hlt :: ds.drop (i + 1) := List.drop_eq_getElem_cons hlt
    rw [hd] at q
    have rd : Rep X.K b (hide O H) (ds[i]'hlt) (.ref p) := by
      obtain ⟨v, e1, e2⟩ := re.get (i := i) (List.getElem?_eq_getElem hlt)
      rw [List.getElem?_map, hp] at e1
      cases e1
      exact e2
    have P : Inv X (pins ++ [(Ia, oI), (S, oS)]) σ H' s1 := I'.pins_of fun pp hpp => by
      rcases List.mem_append.mp hpp with z | z
      · exact I'.pin pp (List.mem_append_right _ z)
      · simp only [List.mem_cons, List.not_mem_nil, or_false] at z
        rcases z with rfl | rfl
        · exact ⟨hoI, f1.1, f1.2.1, f1.2.2.1, ncI⟩
        · exact ⟨hoS, f2.1, f2.2.1, f2.2.2.1, ncS⟩
    refine wpAny_mono (add_step oa or_ Fa Fr ms mr hr ba br P (nb_mono nb x) ?_ rv (show RelV (.ref p) (.ref p) from rfl) r (rd.mono (hx_mono nb x).1) q) (fun r s' h => ?_) fun _ _ h => h
    · exact bg.ext (hx_mono nb x)
    · obtain ⟨v, H2, I2, rv2, x2, dv, rp2, ins, q2⟩ := h
      have I3 : Inv X pins σ H2 s' := I2.pins_of fun pp hpp => I2.pin pp (List.mem_append_right _ (List.mem_append_left _ hpp))
      have pI := I2.pin (Ia, oI) (List.mem_append_right _ (List.mem_append_right _ List.mem_cons_self))
      have pS := I2.pin (S, oS) (List.mem_append_right _ (List.mem_append_right _ (List.mem_cons_of_mem _ List.mem_cons_self)))
      refine ⟨?_, ⟨v, dv, H2, I3, rv2, ⟨pI.2.1, f1.2⟩, ⟨pS.2.1, f2.2⟩, x.trans x2, rp2, dSumG_mn ms mr (fun d hd v H3 x3 r3 => hd v H3 (x2.trans x3) r3) q2⟩, pI.1, pS.1, lists I3 (x.trans x2)⟩
      cases dv with
      | ins c' ns ds =>
        obtain ⟨a', dx, vs, rfl, _⟩ := rp2.ins
        exact ⟨a', rv2⟩
      | _ => exact ins.elim
  · intro Ia S h' tk tk0 hI hS hk
    exact ⟨.int 0, .int 0, H, I.kept hk, ⟨tk0, rfl⟩, I.fpOk hI (I.hok.fresh hI), I.fpOk hS (I.hok.fresh hS), .refl H, rfl, q⟩
  · rintro Ia S r s' ⟨acc, accD, H', I', rv, f1, f2, x, r2, q⟩
    have : ds.drop (ps.map Value.ref).toArray.size = [] := by simp [sz]
    rw [this] at q
    exact ⟨acc, H', I', rv, q acc H' (.refl H') r2⟩
variable {E : XK} {e : Expr} {ga : GE} {pos p : Pos} {x : Str}
theorem de_sumO (A : DE b H0 X e ga) (oa : OwnB X.K (He.ga X.K c) .Add fa) (or_ : OwnR X.K (He.ga X.K c) .Add fr) (Fa : FnOk X.prog X.w X.K X.mg X.base (L2.CX X.prog X.w) k fa fda pa (lift X.K sa)) (Fr : FnOk X.prog X.w X.K X.mg X.base (L2.CX X.prog X.w) k fr fdr pr (lift X.K sr))
    (ms : MnS sa) (mr : MnS sr) (hr : Room (k + 1) X.A) (ba : Binds X.K fda pa []) (br : Binds X.K fdr pr []) (hg : Gl X x) (hm : X.mg x = none) (hv : bootBuiltins x = some (.builtin "sum")) (hn : x ≠ "__name__" := by decide) (hdb : (x == ("__debug__" : Str)) = false := by decide)
    (he : starEach [e] X.env = (false, eval e X.env) :: starEach [] X.env := by rfl) : DE b H0 X (.Call (.Name x p) [e] [] pos) (gSumO c sa sr ga) :=
  ⟨pe_imp (pe_callB (call_sumD (b := b) oa or_ Fa Fr ms mr hr ba br) hg hm hv (pa_cons A.pe pa_nil he) hn hdb he rfl) fun σ H Q h => by
    obtain ⟨σd, O, R, q⟩ := h
    refine ⟨σd, O, R, A.mn _ _ _ (fun y hy v1 H1 x1 r1 => ?_) q⟩
    have R1 := R.mono x1
    cases y with
    | lst ds =>
      obtain ⟨a, vs, rfl, _⟩ := id r1.lst
      exact ⟨a, O, ds, rfl, fun a m => ⟨(R1.nb a m).1, (R1.nb a m).2.2⟩, R1.bg, r1, hy.1, dSumG_mn ms mr (fun d kd v H' x3 r3 => kd v H' (x1.trans x3) r3) hy.2⟩
    | _ => exact hy.elim, gSumO_mn ms mr A.mn⟩
end
end DL
/-! DT3 -/
set_option Elab.async false
set_option linter.all false
set_option maxRecDepth 100000
set_option maxHeartbeats 4000000
/-! sum of objects as a reading; inherited methods; objects of either class. -/
namespace DL
open PySem PySem.Spec PyProof.Rows L2
variable [TabC]
def methB (K : Fg) (C : Addr) (m : Str) (f : Addr) : Bool := decide (PySem.W.findIn K (.ref C) m = some (some (.ref f))) && (PySem.W.isFn K (.ref f) && PySem.W.keepIn K (.ref f))
theorem methB_ok {K : Fg} {C : Addr} {m : Str} {f : Addr} (h : methB K C m f = true) : Meth K C m f := by
  unfold methB at h
  simp only [Bool.and_eq_true, decide_eq_true_eq] at h
  exact ⟨h.1, h.2.1, h.2.2⟩
section
variable {σ : StD} {ga gb : GE} {x d : D} {ds : List D} {c : Str} {sa sr : GS}
theorem ev_orL (A : Ev ga σ d) : Ev (fun σ k => ga σ k ∨ gb σ k) σ d := .mk fun k q => .inl (A _ q)
theorem ev_orR (A : Ev gb σ d) : Ev (fun σ k => ga σ k ∨ gb σ k) σ d := .mk fun k q => .inr (A _ q)
structure SumR (c : Str) (sa sr : GS) (acc : D) (ds : List D) (d : D) : Prop where
  run : ∀ k : D → Prop, k d → dSumG c sa sr acc ds k
theorem ev_sumO (A : Ev ga σ (.lst ds)) (hi : ∀ d ∈ ds, insD d) (S : SumR c sa sr (.int 0) ds d) : Ev (gSumO c sa sr ga) σ d := .mk fun k q => A _ ⟨hi, S.run k q⟩
end
end DL
/-! DU1 -/
set_option Elab.async false
set_option linter.all false
set_option maxRecDepth 100000
set_option maxHeartbeats 4000000
/-! The call of an object whose class has __call__. -/
namespace DL
open PySem PySem.W PySem.Calls PyProof.Rows
end DL
namespace DL
open PySem PySem.Spec PySem.Calls PyProof.Rows L2
variable [TabC]
/-- x(..), x an object of the class c -/
def gCi (c : Str) (s : GS) (eo : XD → Prop) (go : GE) (ga : GA) : GE := fun σ k => go σ fun d => match d with
  | .ins c' ns ds => c' = c ∧ ga σ fun es => s (.ins c' ns ds :: es) k eo
  | _ => False
end DL
/-! DU2 -/
set_option Elab.async false
set_option linter.all false
set_option maxRecDepth 100000
set_option maxHeartbeats 4000000
/-! New lists by comprehension and by a choice; max of a list; texts that a class holds. -/
namespace DL
open PySem PySem.Spec PySem.Calls PyProof.Rows L2
variable [TabC]
section
variable {X : Cx} {b : Option Addr} {H0 : Hp} {elt tg iter : Expr} {ifs : List Expr} {scope : Scope} {own : List (Str × Nat)} {pos : Pos} {gi : GI} {t : Tgt} {gt : GT} {ge : GE}
theorem lc_runF {σ : L2.St} {H : Hp} {Q : VK} (I : Mn gi) (T : Mn gt) (E : Mn ge) (hsl : ∀ j ∈ slots t, j ∈ own.map (·.2)) (h : LF X.K b H0 (gLc gi t gt ge (own.map (·.2))) σ H Q) :
    tLc (LI X.K b H0 gi) (LG X.K b H0 t) (LB X.K b H0 gt) (LE X.K b H0 ge) (own.map (·.2)) σ H Q := by
  obtain ⟨σd, O, R, q⟩ := h
  refine ⟨σd, O, R, I _ _ _ (fun ds hd J H1 x1 wk => ?_) q⟩
  intro Dd hD
  have R1 := R.mono x1
  have hDO := (R1.free hD).1
  have hDb := (R1.free hD).2
  refine ⟨fun i m H2 => m = ds.length - i ∧ i ≤ ds.length ∧ ∃ acc accv, H2 Dd = some (.lst accv) ∧ Reps X.K b (hide (Dd :: O) H2) acc accv ∧ Rst X.K b H0 (wipeD σd (own.map (·.2))) (L2.wipe σ (own.map (·.2))) H2 (Dd :: O) ∧ Ext b H1 H2 ∧
    lcD t gt ge (wipeD σd (own.map (·.2))) (ds.drop i) acc (fun d => match d with | .lst ds => ∀ p vs H', some p ≠ b → Fre H p → Ext b H H' → H' p = some (.lst vs) → Reps X.K b (hide (p :: O) H') ds vs → Q (.ref p) H' | _ => False), ⟨ds.length, by simp, Nat.zero_le _, [], [], upd_same, Reps.nil, ?_, .new hD, hd⟩, ?_⟩
  · exact ((R1.addO (.new hD) hD ⟨_, upd_same, trivial⟩).wipe _)
  rintro i m H2 ⟨rfl, hi, acc, accv, hacc, racc, R2, x2, q2⟩
  have x3 : Ext b (hide O H1) (hide (Dd :: O) H2) := ext_hide_new x2 hD (fun a m => ⟨(R1.nb a m).1, (R1.nb a m).2.2⟩) ⟨_, hacc, trivial⟩
  have w := wk i H2 (Dd :: O) x3 (fun p hp => R2.free hp)
  by_cases hlt : i < ds.length
  · have e : ds[i]? = some ds[i] := List.getElem?_eq_getElem hlt
    obtain ⟨go, yl⟩ := w.1 _ e
    refine .inr ⟨go, fun H' => i + 1 ≤ ds.length ∧ ∃ acc accv, H' Dd = some (.lst accv) ∧ Reps X.K b (hide (Dd :: O) H') acc accv ∧ Rst X.K b H0 (wipeD σd (own.map (·.2))) (L2.wipe σ (own.map (·.2))) H' (Dd :: O) ∧ Ext b H1 H' ∧
      lcD t gt ge (wipeD σd (own.map (·.2))) (ds.drop (i + 1)) acc (fun d => match d with | .lst ds => ∀ p vs H', some p ≠ b → Fre H p → Ext b H H' → H' p = some (.lst vs) → Reps X.K b (hide (p :: O) H') ds vs → Q (.ref p) H' | _ => False), fun H' hN => ⟨ds.length - (i + 1), by omega, rfl, hN.1, hN.2⟩, fun y H3 hy => ?_⟩
    obtain ⟨x4, rv⟩ := yl y H3 hy
    rw [List.drop_eq_getElem_cons hlt] at q2
    refine ⟨_, Dd :: O, ds[i], R2.mono x4, rv, asg_mn _ _ _ _ _ (fun s z σ' ag R' => ?_) q2⟩
    refine ⟨wipe_agree ag hsl, s, Dd :: O, R', T _ _ _ (fun c hc H5 x5 => ?_) z⟩
    have R5 := R'.mono x5
    have x45 := x4.trans x5
    have hacc5 : H5 Dd = some (.lst accv) := x45.1 _ _ hDb hacc rfl
    have racc5 : Reps X.K b (hide (Dd :: O) H5) acc accv := racc.mono (x45.1.hide _)
    cases c with
    | true =>
      refine iteT ?_
      refine ⟨s, Dd :: O, R5, E _ _ _ (fun d hd v H6 x6 r6 => ?_) hc⟩
      have hacc6 : H6 Dd = some (.lst accv) := x6.1 _ _ hDb hacc5 rfl
      refine ⟨accv, hacc6, by rw [← racc.length]; exact Nat.lt_of_lt_of_le hd.1 (by decide), hlt, acc ++ [d], accv ++ [v], upd_same, ?_, ?_, ?_, hd.2⟩
      · rw [hide_upd List.mem_cons_self]
        exact (racc5.mono (x6.1.hide _)).append (Reps.cons r6 Reps.nil)
      · refine ((R2.mono (x45.trans x6)).updO List.mem_cons_self (fun i a ow z => ?_) ⟨_, hacc6⟩)
        subst z
        have sl := ((R1.wipe (own.map (·.2))).slot i)
        cases e1 : look (wipeD σd (own.map (·.2))) i with
        | unset => rw [e1] at ow; exact ow.elim
        | sh d => rw [e1] at ow; exact ow.elim
        | own ds =>
          rw [e1] at ow sl
          obtain ⟨a', vs, e2, m, _⟩ := sl
          rw [e2] at ow
          have : a = a' := ow
          exact hDO (this ▸ m)
        | gho a' ds =>
          rw [e1] at ow sl
          obtain ⟨vs, m, _⟩ := sl
          have : a = a' := ow
          exact hDO (this ▸ m)
        | owd kx ds =>
          rw [e1] at ow sl
          obtain ⟨a', vs, e2, m, _⟩ := sl
          rw [e2] at ow
          have : a = a' := ow
          exact hDO (this ▸ m)
        | ott kx ds =>
          rw [e1] at ow sl
          obtain ⟨a', vs, e2, m, _⟩ := sl
          rw [e2] at ow
          have : a = a' := ow
          exact hDO (this ▸ m)
        | obj a' dx c ns ds =>
          rw [e1] at ow sl
          obtain ⟨vs, e2, m, _⟩ := sl
          rw [e2] at ow
          have : a = a' := ow
          exact hDO (this ▸ m)
      · exact ext_upd_new (x2.trans (x45.trans x6)) hD ⟨_, hacc6⟩
    | false =>
      refine iteF ?_
      exact ⟨hlt, acc, accv, hacc5, racc5, R2.mono x45, x2.trans x45, hc⟩
  · have e : i = ds.length := by omega
    subst e
    rw [List.drop_length] at q2
    refine .inl ⟨w.2 rfl, q2 Dd accv H2 hDb ((fre_none hD).of_ext x1 hDb) (x1.trans x2) hacc racc⟩
theorem df_lc (hc : X.calm = true) (hN : X.N.Nodup) (I : DI b H0 X tg iter gi) (ok : BlkOk X.N X.env.scope scope own)
    (G : ∀ (s : Shared) (H : Hp) (C : Addr) (cl : List (Str × Addr)) (fp : List Addr), DG b H0 (X.blk s H scope (compEnvC scope cl C X.env) fp) tg t) (T : ∀ (s : Shared) (H : Hp) (C : Addr) (cl : List (Str × Addr)) (fp : List Addr), DTs b H0 (X.blk s H scope (compEnvC scope cl C X.env) fp) ifs gt)
    (E : ∀ (s : Shared) (H : Hp) (C : Addr) (cl : List (Str × Addr)) (fp : List Addr), DE b H0 (X.blk s H scope (compEnvC scope cl C X.env) fp) elt ge) (hsl : ∀ j ∈ slots t, j ∈ own.map (·.2) := by decide) (hs : ∀ x, foldedSetIterable iter X.env x = pure x := by intro _; rfl) :
    DF b H0 X (.ListComp elt [⟨tg, iter, ifs, 0⟩] scope pos) (gLc gi t gt ge (own.map (·.2))) :=
  ⟨pe_imp (pe_lc (g := LG X.K b H0 t) (tt := LB X.K b H0 gt) (te := LE X.K b H0 ge) hc hN I.pi ok (fun s H C cl fp => (G s H C cl fp).pg) (fun s H C cl fp => (T s H C cl fp).pts) (fun s H C cl fp => (E s H C cl fp).pe) hs) fun σ H Q h =>
    lc_runF I.mn (T sh0 (fun _ => none) 0 [] []).mn (E sh0 (fun _ => none) 0 [] []).mn hsl h,
    gLc_mn I.mn (T sh0 (fun _ => none) 0 [] []).mn (E sh0 (fun _ => none) 0 [] []).mn⟩
end
section
variable {X : Cx} {b : Option Addr} {H0 : Hp} {e a c' : Expr} {te : GT} {ga gb ge : GE} {pos p : Pos} {f c : Str}
/-! ### texts of a class -/
def gCon (c f : Str) (d : D) (ge : GE) : GE := fun σ k => ge σ fun x => match x with | .ins c' ns _ => c' = c ∧ f ∉ ns ∧ k d | _ => False
/-! ### max of a list of ints -/
end
/-! ### readings -/
section
variable {σ : StD} {ga go ge : GE} {x d : D} {ds es : List D} {c f : Str} {s : GS} {eo : XD → Prop} {g1' : GA} {ns : List Str}
theorem ev_ci (A : Ev go σ (.ins c ns ds)) (B : EvA g1' σ es) (h : SR s (.ins c ns ds :: es) d) : Ev (gCi c s eo go g1') σ d := .mk fun k q => A _ ⟨rfl, B _ (h _ _ q)⟩
theorem ev_con {d' : D} (A : Ev ge σ (.ins c ns ds)) (h : f ∉ ns) : Ev (gCon c f d' ge) σ d' := .mk fun k q => A _ ⟨rfl, h, q⟩
theorem evi_itF {a : Addr} (A : Ev ge σ (.frl a ds)) : EvI (gIt ge) σ ds := .mk fun _ q => A _ q
end
end DL
/-! DX1 -/
set_option Elab.async false
set_option linter.all false
set_option maxRecDepth 100000
set_option maxHeartbeats 4000000
/-! x op y, x of one own class and y of another; two fors gathered. -/
namespace DL
open PySem PySem.W PySem.Calls PyProof.Rows
end DL
namespace DL
open PySem PySem.Spec PySem.Calls PyProof.Rows L2
/-! ### two fors, gathered -/
end DL
/-! DY1 -/
set_option Elab.async false
set_option linter.all false
set_option maxRecDepth 100000
set_option maxHeartbeats 4000000
/-! Dicts as data: what is read of them, new ones of lists. -/
namespace DL
open PySem PySem.Spec PyProof.Rows L2
variable [TabC]
/-! ### keys, pairs -/
def keyD : D → Option Key
  | .int i => some (.inl i)
  | .str x => some (.inr x)
  | _ => none
def kD : Key → D
  | .inl i => .int i
  | .inr x => .str x
def valP (l : List (Key × D)) (k : Key) : Option D := (l.find? fun p => decide (p.1 = k)).map (·.2)
def putP (l : List (Key × D)) (k : Key) (d : D) : List (Key × D) := if (l.any fun p => decide (p.1 = k)) = true then l.map (fun p => if p.1 = k then (p.1, d) else p) else l ++ [(k, d)]
section
variable {K : Fg} {b : Option Addr} {H H' : Hp}
theorem keyD_rep {d : D} {k : Key} {v : V} (e : keyD d = some k) (r : Rep K b H d v) : v = kV k := by
  cases d with
  | int i => cases e; exact r.int
  | str x => cases e; exact r.str
  | _ => cases e
inductive KR (K : Fg) (b : Option Addr) (H : Hp) : List (Key × D) → List (Key × V) → Prop
  | nil : KR K b H [] []
  | cons {k : Key} {d : D} {v : V} {l : List (Key × D)} {m : List (Key × V)} (h : Rep K b H d v) (r : KR K b H l m) : KR K b H ((k, d) :: l) ((k, v) :: m)
theorem KR.mono {l : List (Key × D)} {m : List (Key × V)} (x : Le b H H') (h : KR K b H l m) : KR K b H' l m := by
  induction h with
  | nil => exact .nil
  | cons h _ ih => exact .cons (h.mono x) ih
theorem KR.of : ∀ {ks : List Key} {ds : List D} {vs : List V}, ks.length = vs.length → Reps K b H ds vs → KR K b H (ks.zip ds) (ks.zip vs)
  | [], _, _, _, _ => by rw [List.zip_nil_left, List.zip_nil_left]; exact .nil
  | k :: ks, [], vs, l, r => by rw [r.of_nil] at l; cases l
  | k :: ks, d :: ds, vs, l, r => by
    obtain ⟨v, q, rfl, h1, h2⟩ := r.of_cons
    exact .cons h1 (KR.of (by simpa using l) h2)
theorem KR.ks {l : List (Key × D)} {m : List (Key × V)} (h : KR K b H l m) : l.map (·.1) = m.map (·.1) := by
  induction h with
  | nil => rfl
  | cons _ _ ih => rw [List.map_cons, List.map_cons, ih]
theorem KR.ds {l : List (Key × D)} {m : List (Key × V)} (h : KR K b H l m) : Reps K b H (l.map (·.2)) (m.map (·.2)) := by
  induction h with
  | nil => exact Reps.nil
  | cons h _ ih => exact Reps.cons h ih
theorem KR.len {l : List (Key × D)} {m : List (Key × V)} (h : KR K b H l m) : l.length = m.length := by
  induction h with
  | nil => rfl
  | cons _ _ ih => rw [List.length_cons, List.length_cons, ih]
theorem zip_parts {α β : Type} : ∀ m : List (α × β), (m.map (·.1)).zip (m.map (·.2)) = m
  | [] => rfl
  | p :: r => by rw [List.map_cons, List.map_cons, List.zip_cons_cons, zip_parts r]
theorem KR.any {l : List (Key × D)} {m : List (Key × V)} (h : KR K b H l m) (k : Key) : (l.any fun p => decide (p.1 = k)) = m.any fun p => decide (p.1 = k) := by
  induction h with
  | nil => rfl
  | cons _ _ ih => rw [List.any_cons, List.any_cons, ih]
theorem KR.snoc {l : List (Key × D)} {m : List (Key × V)} {k : Key} {d : D} {v : V} (h : KR K b H l m) (r : Rep K b H d v) : KR K b H (l ++ [(k, d)]) (m ++ [(k, v)]) := by
  induction h with
  | nil => exact .cons r .nil
  | cons h _ ih => exact .cons h ih
theorem KR.mapPut {l : List (Key × D)} {m : List (Key × V)} {k : Key} {d : D} {v : V} (h : KR K b H l m) (r : Rep K b H d v) : KR K b H (l.map fun p => if p.1 = k then (p.1, d) else p) (m.map fun p => if p.1 = k then (p.1, v) else p) := by
  induction h with
  | nil => exact .nil
  | @cons k' d' v' l m h _ ih =>
    rw [List.map_cons, List.map_cons]
    by_cases e : k' = k
    · rw [if_pos e, if_pos e]; exact .cons r ih
    · rw [if_neg e, if_neg e]; exact .cons h ih
theorem KR.put {l : List (Key × D)} {m : List (Key × V)} {k : Key} {d : D} {v : V} (h : KR K b H l m) (r : Rep K b H d v) : KR K b H (putP l k d) (putK m k v) := by
  unfold putP putK
  rw [h.any k]
  split
  · exact h.mapPut r
  · exact h.snoc r
theorem KR.val {l : List (Key × D)} {m : List (Key × V)} (h : KR K b H l m) (k : Key) : match valP l k with
    | some d => ∃ v, valV m k = some v ∧ Rep K b H d v
    | none => valV m k = none := by
  induction h with
  | nil => exact rfl
  | @cons k' d v l m h _ ih =>
    unfold valP valV at ih ⊢
    rw [List.find?_cons, List.find?_cons]
    by_cases e : k' = k
    · simp only [e, decide_true]
      exact ⟨v, rfl, h⟩
    · simp only [e, decide_false]
      exact ih
theorem Rep.dic {ks : List Key} {ds : List D} {v : V} (h : Rep K b H (.dic ks ds) v) : ∃ a m, v = .ref a ∧ some a ≠ b ∧ (∃ o, H a = some (.frz o (.dK m))) ∧ KR K b H (ks.zip ds) m ∧ m.map (·.1) = ks := by
  simp only [Rep] at h
  obtain ⟨a, o, vs, e, n, q, l, r⟩ := h
  refine ⟨a, _, e, n, ⟨o, q⟩, KR.of l r, ?_⟩
  rw [List.map_fst_zip (by omega)]
end
/-! ### what is read of a dict -/
section
variable {X : Cx} {b : Option Addr} {H0 : Hp} {a c e : Expr} {ga gb : GE} {pos p : Pos} {j : Nat}
theorem upd_upd {H : Hp} {p : Addr} {o u : HO} : upd (upd H p o) p u = upd H p u := by
  funext c
  by_cases e : c = p
  · subst e; rw [upd_same, upd_same]
  · rw [upd_ne e, upd_ne e, upd_ne e]
end
end DL
/-! DY2 -/
set_option Elab.async false
set_option linter.all false
set_option maxRecDepth 100000
set_option maxHeartbeats 4000000
/-! Dict comprehensions; sorted texts; dict of a list of pairs. -/
namespace DL
open PySem PySem.Spec PyProof.Rows L2
/-! ### {k: v for x in it if c} -/
/-! ### dict(a list of pairs) -/
end DL
/-! DY3 -/
set_option Elab.async false
set_option linter.all false
set_option maxRecDepth 100000
set_option maxHeartbeats 4000000
/-! Walks over dicts; what the readings over dicts come to. -/
namespace DL
open PySem PySem.Spec PyProof.Rows L2
/-! ### readings -/
end DL
/-! DY4 -/
set_option Elab.async false
set_option linter.all false
set_option maxRecDepth 100000
set_option maxHeartbeats 4000000
/-! Displays of dicts; sorted(d). -/
namespace DL
open PySem PySem.Spec PyProof.Rows L2
end DL
/-! DY5 -/
set_option Elab.async false
set_option linter.all false
set_option maxRecDepth 100000
set_option maxHeartbeats 4000000
/-! A dict that the frame owns: made, written, given away; += on a number. -/
namespace DL
open PySem PySem.Spec PyProof.Rows L2
end DL
/-! DR1 -/
set_option Elab.async false
set_option linter.all false
set_option maxRecDepth 100000
set_option maxHeartbeats 4000000
/-! fractions as rational numbers; sorted texts -/
namespace DL
open PySem PySem.Spec PyProof.Rows L2
variable [TabC]
/-- sizes of a fraction -/
def QZ (n : Nat) (x : Rat) : Prop := Sz n x.num ∧ Sz n (x.den : Int)
theorem QZ.mono {n m : Nat} {x : Rat} (h : QZ n x) (g : n ≤ m) : QZ m x := ⟨h.1.mono g, h.2.mono g⟩
theorem qz_div {n : Nat} {a b : Int} (ha : Sz n a) (hb : Sz n b) (h0 : b ≠ 0) : QZ n (Rat.divInt a b) := by
  constructor
  · unfold Sz at *
    rw [Rat.num_divInt]
    have h1 : (b.sign * a).natAbs = a.natAbs := by
      rw [Int.natAbs_mul, Int.natAbs_sign]
      rw [if_neg h0, Nat.one_mul]
    refine Nat.lt_of_le_of_lt (?_ : _ ≤ a.natAbs) ha
    rw [← h1]
    exact Int.natAbs_ediv_le_natAbs _ _
  · unfold Sz at *
    rw [Rat.den_divInt, if_neg h0, Int.natAbs_natCast]
    exact Nat.lt_of_le_of_lt (Nat.div_le_self _ _) hb
theorem den_ne (x : Rat) : (x.den : Int) ≠ 0 := by have := x.den_pos; omega
theorem add_div (x y : Rat) : Rat.divInt (x.num * y.den + y.num * x.den) (x.den * y.den) = x + y := by
  rw [Rat.add_def', show ((x.den : Int) * (y.den : Int)) = ((x.den * y.den : Nat) : Int) from (Int.natCast_mul _ _).symm, Rat.divInt_ofNat]
theorem mul_div (x y : Rat) : Rat.divInt (x.num * y.num) (x.den * y.den) = x * y := by
  rw [Rat.mul_def', show ((x.den : Int) * (y.den : Int)) = ((x.den * y.den : Nat) : Int) from (Int.natCast_mul _ _).symm, Rat.divInt_ofNat]
theorem QZ.add {n m : Nat} {x y : Rat} (h : QZ n x) (g : QZ m y) : QZ (n + m + 1) (x + y) := by
  rw [← add_div]
  refine qz_div ((h.1.mul g.2).add ((g.1.mul h.2).mono (by omega))) ((h.2.mul g.2).mono (by omega)) (Int.mul_ne_zero (den_ne _) (den_ne _))
theorem QZ.mul {n m : Nat} {x y : Rat} (h : QZ n x) (g : QZ m y) : QZ (n + m) (x * y) := by
  rw [← mul_div]
  exact qz_div (h.1.mul g.1) (h.2.mul g.2) (Int.mul_ne_zero (den_ne _) (den_ne _))
theorem QZ.neg {n : Nat} {x : Rat} (h : QZ n x) : QZ n (-x) := ⟨h.1.neg, h.2⟩
theorem QZ.sub {n m : Nat} {x y : Rat} (h : QZ n x) (g : QZ m y) : QZ (n + m + 1) (x - y) := by
  rw [Rat.sub_eq_add_neg]; exact h.add g.neg
theorem QZ.int {n : Nat} {i : Int} (h : Sz n i) (h1 : 1 ≤ n) : QZ n (i : Rat) := ⟨h, (show Sz 1 (((i : Rat).den : Nat) : Int) from (show Sz 1 1 from szW (by decide))).mono h1⟩
/-! sorted texts -/
end DL
/-! DR2 -/
set_option Elab.async false
set_option linter.all false
set_option maxRecDepth 100000
set_option maxHeartbeats 4000000
/-! dicts whose keys are texts -/
namespace DL
open PySem PySem.Spec PyProof.Rows L2
variable [TabC]
theorem O1.eq {rd : D → (D → Prop) → Prop} {x y z : D} (h : O1 rd x y) (e : y = z) : O1 rd x z := e ▸ h
theorem O2.eq {rd : D → D → (D → Prop) → Prop} {x y z w : D} (h : O2 rd x y z) (e : z = w) : O2 rd x y w := e ▸ h
theorem SR.eq {s : GS} {ds : List D} {d d' : D} (h : SR s ds d) (e : d = d') : SR s ds d' := e ▸ h
/-- what a dict holds at a name -/
def valS (l : List (Str × D)) (n : Str) : D := match l.find? (fun p => decide (p.1 = n)) with | some p => p.2 | none => .non
section
variable {σ : StD} {gi : GI} {tg : Tgt} {gt : GT} {gk gv ge : GE} {ds : List D} {vs : List Nat}
/-- a walk whose relation knows what was passed -/
theorem forS_pre {α : Type} {tg : Tgt} {gb : GSt} {f : α → D} (R : List α → StD → Prop) {D' : EndD} {l : List α}
    (h : ∀ (pre : List α) (x : α) (suf : List α), l = pre ++ x :: suf → ∀ (σ : StD) (D2 : EndD), R pre σ → (∀ σ', R (pre ++ [x]) σ' → D2.nx σ') → D2.rt = D'.rt → Stp (asg tg (f x) σ fun σ2 => gb D2 σ2)) :
    ∀ (suf pre : List α), l = pre ++ suf → ∀ σ : StD, R pre σ → (∀ σ', R l σ' → Stp (D'.nx σ')) → Stp (forD tg gb (suf.map f) D' σ)
  | [], pre, e, σ, r, q => ⟨(q σ (by rw [e, List.append_nil]; exact r)).run⟩
  | x :: suf, pre, e, σ, r, q => ⟨by
    show asg tg (f x) σ fun σ2 => gb { nx := fun σ' => forD tg gb (suf.map f) D' σ', rt := D'.rt, bk := D'.nx, ct := fun σ' => forD tg gb (suf.map f) D' σ' } σ2
    refine (h pre x suf e σ { nx := fun σ' => forD tg gb (suf.map f) D' σ', rt := D'.rt, bk := D'.nx, ct := fun σ' => forD tg gb (suf.map f) D' σ' } r (fun σ' r' => ?_) rfl).run
    exact (forS_pre R h suf (pre ++ [x]) (by rw [e, List.append_assoc]; rfl) σ' r' q).run⟩
theorem forS_at {α : Type} {tg : Tgt} {gb : GSt} {f : α → D} (R : List α → StD → Prop) {D' : EndD} {l : List α} {σ : StD}
    (h : ∀ (pre : List α) (x : α) (suf : List α), l = pre ++ x :: suf → ∀ (σ : StD) (D2 : EndD), R pre σ → (∀ σ', R (pre ++ [x]) σ' → D2.nx σ') → D2.rt = D'.rt → Stp (asg tg (f x) σ fun σ2 => gb D2 σ2))
    (r : R [] σ) (q : ∀ σ', R l σ' → Stp (D'.nx σ')) : Stp (forD tg gb (l.map f) D' σ) := forS_pre R h l [] rfl σ r q
/-! ### dicts that the frame owns -/
end
section
variable {b : Option Addr} {H0 : Hp} {X : Cx}
theorem DB.or {e : Expr} {g1 g2 : GT} (h1 : DB b H0 X e g1) (h2 : DB b H0 X e g2) : DB b H0 X e (fun σ k => g1 σ k ∨ g2 σ k) := ⟨⟨fun pins s σ H Q I ⟨σd, O, R, q⟩ => by
  rcases q with q | q
  · exact h1.pt.run pins s σ H Q I ⟨σd, O, R, q⟩
  · exact h2.pt.run pins s σ H Q I ⟨σd, O, R, q⟩⟩, fun σ k k' i q => q.imp (h1.mn _ _ _ i) (h2.mn _ _ _ i)⟩
end
end DL
/-! DR3 -/
set_option Elab.async false
set_option linter.all false
set_option maxRecDepth 100000
set_option maxHeartbeats 4000000
/-! a dict == {} -/
namespace DL
open PySem PySem.Spec PyProof.Rows L2
end DL
/-! DR4 -/
set_option Elab.async false
set_option linter.all false
set_option maxRecDepth 100000
set_option maxHeartbeats 4000000
/-! try: return CALL, except X: return None. -/
namespace DL
open PySem PySem.Spec PyProof.Rows L2
end DL
/-! DR5 -/
set_option Elab.async false
set_option linter.all false
set_option maxRecDepth 100000
set_option maxHeartbeats 4000000
/-! Tables of the module, tuples of the module, in a locked list, three targets at once. -/
namespace DL
open PySem PySem.Spec PyProof.Rows L2
/-! ### a dict of the module: texts to numbers -/
/-! ### readings -/
end DL
namespace DL
open PySem PySem.Spec PyProof.Rows L2
end DL
/-! DR6 -/
set_option Elab.async false
set_option linter.all false
set_option maxRecDepth 100000
set_option maxHeartbeats 4000000
/-! Three names at once, none of them owned. -/
namespace DL
open PySem PySem.Spec PyProof.Rows L2
end DL
/-! DR7 -/
set_option Elab.async false
set_option linter.all false
set_option maxRecDepth 100000
set_option maxHeartbeats 4000000
/-! == of dicts whose values have an __eq__ of their own. -/
namespace PySem.W
open Lean Elab Tactic Meta PySem PySem.Calls PyProof.Rows PyProof.V PySem.Spec
end PySem.W
namespace DL
open PySem PySem.Spec PyProof.Rows L2
end DL
/-! DR8 -/
set_option Elab.async false
set_option linter.all false
set_option maxRecDepth 100000
set_option maxHeartbeats 4000000
/-! *d, d a dict; readings of d == e. -/
namespace DL
open PySem PySem.Spec PyProof.Rows L2
end DL
/-! DR9 -/
set_option Elab.async false
set_option linter.all false
set_option maxRecDepth 100000
set_option maxHeartbeats 4000000
/-! try whose body lets nothing out; rsplit. -/
namespace L2
open PySem PySem.Spec PySem.Builtin PySem.Builtin.Str PyProof.Rows
end L2
namespace DL
open PySem PySem.Spec PyProof.Rows L2
end DL
namespace L2
open PySem PySem.Spec PySem.Builtin PyProof.Rows
end L2
namespace DL
open PySem PySem.Spec PyProof.Rows L2
end DL
/-! DR10 -/
set_option Elab.async false
set_option linter.all false
set_option maxRecDepth 100000
set_option maxHeartbeats 4000000
/-! Dicts that the frame owns: made by dict(..), x.pop(k), lent to an expression. -/
namespace DL
open PySem PySem.Spec PyProof.Rows L2
variable [TabC]
/-! ### x.pop(k) -/
def dropP (l : List (Key × D)) (k : Key) : List (Key × D) := l.filter fun p => decide (p.1 ≠ k)
section
variable {K : Fg} {b : Option Addr} {H : Hp}
theorem KR.drop {l : List (Key × D)} {m : List (Key × V)} {k : Key} (h : KR K b H l m) : KR K b H (dropP l k) (dropK m k) := by
  induction h with
  | nil => exact .nil
  | @cons k' d v l m h r ih =>
    unfold dropP dropK at ih ⊢
    by_cases e : k' = k
    · rw [List.filter_cons_of_neg (by simp [e]), List.filter_cons_of_neg (by simp [e])]
      exact ih
    · rw [List.filter_cons_of_pos (by simp [e]), List.filter_cons_of_pos (by simp [e])]
      exact .cons h ih
end
/-! ### x = dict(..), the frame's own -/
/-! ### a dict that the frame owns, lent to an expression that hands on no dict -/
/-! ### readings -/
/-! ### len(d) -/
/-! ### list(d), a new list -/
end DL
/-! DR11 -/
set_option Elab.async false
set_option linter.all false
set_option maxRecDepth 100000
set_option maxHeartbeats 4000000
/-! x op y, x of one own class whose def gives NotImplemented, y of another whose reflected def answers. -/
namespace DL
open PySem PySem.W PySem.Calls PyProof.Rows
end DL
namespace DL
open PySem PySem.Spec PyProof.Rows L2
/-! ### a def whose first statement is `if test: return NotImplemented` -/
end DL
/-! DR12 -/
set_option Elab.async false
set_option linter.all false
set_option maxRecDepth 100000
set_option maxHeartbeats 4000000
/-! Dicts: x.clear(), an owned dict lent to a call, dicts that are new. -/
namespace DL
open PySem PySem.Spec PyProof.Rows L2
variable [TabC]
/-! ### x.clear() -/
/-! ### an owned dict that a call may look at -/
/-! ### expressions that make a new dict -/
def KFd (K : Fg) (b : Option Addr) (O : List Addr) (H : Hp) (Q : VK) : D → Prop := fun d => match d with
  | .dic ks ds => ∀ p m H', some p ≠ b → Fre H p → Ext b H H' → H' p = some (.dK m) → KR K b (hide (p :: O) H') (ks.zip ds) m → Q (.ref p) H'
  | _ => False
section
variable {K : Fg} {b : Option Addr} {H0 H H1 H2 : Hp} {O : List Addr} {Q : VK} {d : D} {σd : StD} {σ : L2.St} {p : Addr} {m : List (Key × V)}
theorem KFd.ext (x : Ext b H H1) (h : KFd K b O H Q d) : KFd K b O H1 Q d := by
  cases d with
  | dic ks ds => exact fun p vs H' hb hf x' hp r => h p vs H' hb (hf.of_ext x hb) (x.trans x') hp r
  | _ => exact h.elim
end
/-! ### a def that hands back a new dict -/
/-! ### readings -/
end DL
/-! DR14 -/
set_option Elab.async false
set_option linter.all false
set_option maxRecDepth 100000
set_option maxHeartbeats 4000000
/-! Lists that an __init__ keeps in fields of self and appends to: a slot that is free keeps what the list holds (`.gho`). -/
namespace DL
open PySem PySem.Spec PyProof.Rows L2
variable [TabC]
theorem getD_set2 {σ : L2.St} {i j : Nat} {v : Option V} : (σ.set i v).getD j none = if j = i ∧ i < σ.length then v else σ.getD j none := by
  cases v with
  | some v => exact getD_set
  | none =>
    rw [getD_setN]
    by_cases h : j = i
    · subst h
      by_cases l : j < σ.length
      · simp [l]
      · simp only [if_true, l, and_false, if_false]
        rw [List.getD_eq_getElem?_getD, List.getElem?_eq_none (by omega)]; rfl
    · simp [h]
section
variable {K : Fg} {b : Option Addr} {H0 H : Hp} {σd : StD} {σ : L2.St} {O : List Addr}
/-- another form of one slot -/
theorem Rst.swap (R : Rst K b H0 σd σ H O) {j : Nat} {s : SD} {x : Option V} (hs : SlotOk K b O H s x) (ho : ∀ c, Owns s x c → Owns (look σd j) (σ.getD j none) c) : Rst K b H0 (put σd j s) (σ.set j x) H O := by
  have key : ∀ {k c}, Owns (look (put σd j s) k) ((σ.set j x).getD k none) c → Owns (look σd k) (σ.getD k none) c := fun {k c} z => by
    rw [look_put2, getD_set2, R.len] at z
    by_cases h : k = j ∧ j < σ.length
    · rw [if_pos h, if_pos h] at z
      rw [h.1]; exact ho c z
    · rw [if_neg h, if_neg h] at z; exact z
  refine ⟨by rw [put_length, List.length_set]; exact R.len, fun k => ?_, fun i k a h1 h2 => R.uniq i k a (key h1) (key h2), R.nb, R.le, R.bg⟩
  rw [look_put2, getD_set2, R.len]
  by_cases h : k = j ∧ j < σ.length
  · rw [if_pos h, if_pos h]; exact hs
  · rw [if_neg h, if_neg h]; exact R.slot k
end
end DL
/-! DR15 -/
set_option Elab.async false
set_option linter.all false
set_option maxRecDepth 100000
set_option maxHeartbeats 4000000
/-! len(set(xs)), xs a list of ints. -/
namespace DL
open PySem PySem.Spec PyProof.Rows L2
end DL
/-! DR16 -/
set_option Elab.async false
set_option linter.all false
set_option maxRecDepth 100000
set_option maxHeartbeats 4000000
/-! A lent dict walked over by one expression; a new dict by a function's call; x, y = e, {}; either of two values. -/
namespace DL
open PySem PySem.Spec PyProof.Rows L2
/-! ### readings -/
end DL
/-! DR17 -/
set_option Elab.async false
set_option linter.all false
set_option maxRecDepth 100000
set_option maxHeartbeats 4000000
/-! x + y as a new list; l.index(x). -/
namespace DL
open PySem PySem.Spec PyProof.Rows L2
variable [TabC]
section
variable {X : Cx} {b : Option Addr} {H0 : Hp} {a c e : Expr} {ga gb : GE} {pos p apos : Pos} {x : Str}
theorem Rst.fr {K : Fg} {H H' : Hp} {σd : StD} {σ : L2.St} {O : List Addr} (R : Rst K b H0 σd σ H O) (x : Ext b H H') {l : Addr} (hp : H' l = none) : some l ≠ b ∧ Fre H l := by
  refine ⟨((R.mono x).free hp).2, fun o e => ?_⟩
  cases t : nt o with
  | false => rfl
  | true =>
    exfalso
    by_cases hb : some l = b
    · exact ((R.mono x).free hp).2 hb
    · have := x.1 l o hb e t
      rw [hp] at this; cases this
/-- l.index(x) -/
def dIdx : D → D → (D → Prop) → Prop := fun x y k => match toPy y, x with
  | some d, .lst es => (match toPys es with
    | some ds => SeqAt.shaped (.list ds) = true ∧ SeqAt.shaped d = true ∧ ∃ (j : Nat) (z : PyData), ds[j]? = some z ∧ PyData.eqv z d = true ∧ (∀ (m : Nat) (z' : PyData), m < j → ds[m]? = some z' → PyData.eqv z' d = false) ∧ k (.int (j : Nat))
    | none => False)
  | _, _ => False
theorem dIdx_mn : ∀ x y (k k' : D → Prop), (∀ d, k d → k' d) → dIdx x y k → dIdx x y k' := by
  intro x y k k' i q
  unfold dIdx at q ⊢
  cases e : toPy y with
  | none => rw [e] at q; exact q.elim
  | some d =>
    rw [e] at q
    cases x with
    | lst es =>
      simp only at q ⊢
      cases e2 : toPys es with
      | none => rw [e2] at q; exact q.elim
      | some ds =>
        rw [e2] at q
        obtain ⟨a, b, j, z, c, d, e, f⟩ := q
        exact ⟨a, b, j, z, c, d, e, i _ f⟩
    | _ => exact q.elim
def gIdx (ga gb : GE) : GE := fun σ k => ga σ fun x => match x with
  | .lst es => gb σ fun y => dIdx (.lst es) y k
  | _ => False
theorem gIdx_mn (A : Mn ga) (B : Mn gb) : Mn (gIdx ga gb) := fun σ k k' i q => A _ _ _ (fun x z => by
  cases x with
  | lst es => exact B _ _ _ (fun y z => dIdx_mn _ _ _ _ i z) z
  | _ => exact z.elim) q
theorem de_lidx {k : Nat} (hr : Room (k + 1) X.A) (A : DT b H0 X a ga) (B : DT b H0 X e gb) (hbase : attributeBase a "index" X.env (eval a X.env) = eval a X.env := by rfl)
    (hfew : ((backTo pos (starEach [e] X.env)).all (fun x => !x.1) && (backToKw pos (keywordEach [] X.env)).all (fun x => x.1.isSome)
      && decide (([e] : List Expr).length + ([] : List Keyword).length + (if ([] : List Keyword).isEmpty then 0 else 1) < 30)) = true := by rfl)
    (hline : (apos.endLine == pos.line) = true := by rfl) (hs : starEach [e] X.env = (false, eval e X.env) :: starEach [] X.env := by rfl) (hplain : (backTo pos (starEach [] X.env)).any (·.1) = false := by rfl) :
    DE b H0 X (.Call (.Attribute a "index" apos) [e] [] pos) (gIdx ga gb) := by
  refine ⟨pe_imp (pe_bm PySem.F.plainAttrs_list PySem.F.slot_list_index PySem.F.type_list_index (mt_indexD (un65 hr)) A.pe (pa_cons B.pe pa_nil hs) hbase hfew hline hs hplain) fun σ H Q ⟨σd, O, R, q⟩ => ?_, gIdx_mn A.mn B.mn⟩
  refine ⟨σd, O, R, A.mn _ _ _ (fun x z v H1 x1 r1 => ?_) q⟩
  cases x with
  | lst es =>
    obtain ⟨a1, vs, rfl, n1, h1, s1⟩ := r1.lst
    refine ⟨.inl ⟨rfl, vs, ?_⟩, σd, O, R.mono x1, B.mn _ _ _ (fun y z v2 H2 x2 r2 => ?_) z⟩
    · exact h1
    · have r1' := r1.mono x2.1
      show rIndexD X.K _ _ H2 Q
      unfold dIdx at z
      cases e1 : toPy y with
      | none => rw [e1] at z; exact z.elim
      | some d =>
        rw [e1] at z
        simp only at z
        cases e2 : toPys es with
        | none => rw [e2] at z; exact z.elim
        | some ds =>
          rw [e2] at z
          obtain ⟨p1, p2, j, w, p3, p4, p5, q⟩ := z
          exact ⟨a1, v2, d, ds, j, w, rfl, rfl, r1'.dp (by simp only [toPy, e2]; rfl), r2.dp e1, p1, p2, p3, p4, p5, q _ H2 (x1.trans x2) rfl⟩
  | _ => exact z.elim
end
section
variable {α : Type} [BEq α] {f : α → D} {g : α → PyData} {n : Nat} {σ : StD} {ga gb : GE}
theorem ev_idxC (c : Cod f g n) {x y : α} {l : List α} {j : Nat} (hn : n ≤ 60) (A : Ev ga σ (.lst (l.map f))) (B : Ev gb σ (f x)) (h : l[j]? = some y) (e : (y == x) = true) (h2 : ∀ m z, m < j → l[m]? = some z → (z == x) = false) : Ev (gIdx ga gb) σ (.int (j : Nat)) := .mk fun k q => A _ (B _ (by
  unfold dIdx
  rw [c.py x]
  simp only [c.pys l]
  refine ⟨?_, ?_, j, g y, ?_, ?_, ?_, q⟩
  · show (PyData.canLayAll0 (l.map g) && decide (PyData.depthAll (l.map g) + 1 ≤ 64)) = true
    rw [c.lays l, decide_eq_true (by have := c.deps l; omega)]; rfl
  · show (PyData.canLay0 (g x) && decide (PyData.depth (g x) ≤ 64)) = true
    rw [c.lay x, decide_eq_true (Nat.le_trans (c.dep x) (by omega))]; rfl
  · rw [List.getElem?_map, h]; rfl
  · rw [c.eqv]; exact e
  · intro m z' hm hz
    rw [List.getElem?_map] at hz
    cases e2 : l[m]? with
    | none => rw [e2] at hz; cases hz
    | some w =>
      rw [e2] at hz
      cases hz
      rw [c.eqv]; exact h2 m w hm e2))
end
end DL
/-! DR18 -/
set_option Elab.async false
set_option linter.all false
set_option maxRecDepth 100000
set_option maxHeartbeats 4000000
/-! sorted of data of one shape. -/
namespace L2
open PySem PySem.Spec PyProof.Rows
section
variable {X : Cx}
abbrev srtP {α : Type} (l : List (α × PyData)) : List (α × PyData) := l.mergeSort (PySem.W.dataLe false (·.2))
def rSortG (K : PySem.W.Frag) : List V → Hp → VK → Prop := fun vs H Q => ∃ (a : Addr) (xs : List V) (ds : List PyData), vs = [V.ref a] ∧ SqL K H a xs ∧ DpAll K H xs ds ∧ PySem.W.AllAlike ds ∧ PySem.W.Sortable ds ∧ (∀ d ∈ ds, d.depth ≤ 60) ∧ xs.length ≤ 100000 ∧
  ∀ p : Addr, H p = none → Q (.ref p) (upd H p (.lst ((srtP (xs.zip ds)).map (·.1))))
theorem each_of {K : PySem.W.Frag} {H : Hp} {h : Heap} (rd : ∀ (d : PyData) (v : V) (u : Value), Dp K H v d → RelV v u → ∃ as, Reads h u d as) : ∀ {xs : List V} {ds : List PyData} {us : List Value}, DpAll K H xs ds → Vals xs us →
    PySem.W.EachIs (fun (u : Value) (b : V × PyData) => RelV b.1 u) us (xs.zip ds) ∧ PySem.W.EachIs (fun (u : Value) (b : V × PyData) => ∃ as, Reads h u b.2 as) us (xs.zip ds) ∧ (xs.zip ds).map (·.2) = ds
  | [], _, _, .nil, r => by cases r; exact ⟨.nil, .nil, rfl⟩
  | x :: xs, _, _, .cons (d := d) (ds := ds) h1 h2, r => by
    cases r with
    | cons r1 r2 =>
      obtain ⟨a, b, c⟩ := each_of rd h2 r2
      refine ⟨.cons r1 a, .cons (rd _ _ _ h1 r1) b, ?_⟩
      show d :: (xs.zip ds).map (·.2) = d :: ds
      rw [c]
theorem vals_of_each {us : List Value} {bs : List (V × PyData)} (e : PySem.W.EachIs (fun (u : Value) (b : V × PyData) => RelV b.1 u) us bs) : Vals (bs.map (·.1)) us := by
  induction e with
  | nil => exact .nil
  | cons h _ ih => exact .cons h ih
theorem cr_sortG (hu : X.A.units + 64 < cLine) : CallR X (.builtin "sorted") (rSortG X.K) := by
  intro pins s σ H vs us Q I r h
  obtain ⟨a, xs, ds, rfl, hs, hd, al, st, dp, hl0, q⟩ := h
  obtain ⟨its, rv, hl, _⟩ := I.list hs
  rw [Vals.ref1 r]
  obtain ⟨e1, e2, e3⟩ := each_of (h := s.heap) (fun d v u h r => Dp.reads I d v u h r) hd rv
  have hz : (xs.zip ds).length ≤ 100000 := by rw [List.length_zip]; omega
  have hsl : (100000 : Nat) ≤ sizeLine := by rw [sizeLine_eq]; decide
  refine PySem.W.sorted_data (enc := fun b : V × PyData => b.2) hl.isList e1 e2 (by rw [e3]; exact al) (by rw [e3]; exact st) (by omega) (fun b hb => ?_) fun out ho eo => ?_
  · have : b.2 ∈ ds := by rw [← e3]; exact List.mem_map_of_mem hb
    have := dp _ this
    omega
  · obtain ⟨ep, he'⟩ := PyProof.Rows.sortedAll_at s.heap its (List.toArray out)
    have hv := vals_of_each eo
    have hlen : ((srtP (xs.zip ds)).map (·.1)).length ≤ sizeLine := by
      rw [List.length_map]
      show ((xs.zip ds).mergeSort _).length ≤ _
      rw [List.length_mergeSort]; omega
    exact ⟨.ref _, upd H (s.heap.objs.size + 1) (.lst ((srtP (xs.zip ds)).map (·.1))), I.laid (t' := s.toks) (fun _ _ => PyProof.Rows.sortedAll_old) (Nat.le_succ _) ⟨hlen, out, ep, hv, he'⟩, rfl, q _ (I.hok.fresh (Nat.le_succ _))⟩
end
end L2
namespace DL
open PySem PySem.Spec PyProof.Rows L2
variable [TabC]
/-- sorted(x), data of one shape -/
def dSortG : D → (D → Prop) → Prop := fun x k => match x with
  | .lst ds => (match toPys ds with
    | some ps => PySem.W.AllAlike ps ∧ PySem.W.Sortable ps ∧ (∀ d ∈ ps, d.depth ≤ 60) ∧ ds.length ≤ 100000 ∧ k (.lst ((srtP (ds.zip ps)).map (·.1)))
    | none => False)
  | _ => False
theorem srt_two {α β : Type} : ∀ {xs : List α} {ys : List β} {ps : List PyData}, xs.length = ys.length → xs.length = ps.length → ∃ l : List ((α × β) × PyData), l.map (fun t => (t.1.1, t.2)) = xs.zip ps ∧ l.map (fun t => (t.1.2, t.2)) = ys.zip ps ∧ l.map (fun t => t.1.1) = xs ∧ l.map (fun t => t.1.2) = ys
  | [], [], [], _, _ => ⟨[], rfl, rfl, rfl, rfl⟩
  | x :: xs, y :: ys, p :: ps, h, g => by
    obtain ⟨l, a, b, c, d⟩ := srt_two (xs := xs) (ys := ys) (ps := ps) (by simpa using h) (by simpa using g)
    exact ⟨((x, y), p) :: l, by rw [List.map_cons, a]; rfl, by rw [List.map_cons, b]; rfl, by rw [List.map_cons, c], by rw [List.map_cons, d]⟩
theorem srt_map {α β : Type} (f : α × PyData → β × PyData) (hf : ∀ x, (f x).2 = x.2) (l : List (α × PyData)) : (srtP l).map f = srtP (l.map f) :=
  List.map_mergeSort (fun a _ b _ => by simp only [PySem.W.dataLe_eq, hf])
section
variable {X : Cx} {b : Option Addr}
theorem Reps.perm {K : Fg} {H : Hp} : ∀ {l : List (D × V)}, (∀ t ∈ l, Rep K b H t.1 t.2) → Reps K b H (l.map (·.1)) (l.map (·.2))
  | [], _ => Reps.nil
  | t :: r, h => Reps.cons (h t List.mem_cons_self) (Reps.perm fun t ht => h t (List.mem_cons_of_mem _ ht))
theorem Reps.mem {K : Fg} {H : Hp} : ∀ {ds : List D} {vs : List V}, Reps K b H ds vs → ∀ t ∈ ds.zip vs, Rep K b H t.1 t.2
  | [], _, _ => fun t ht => by cases ht
  | d :: r, vs, h => by
    obtain ⟨v, w, rfl, h1, h2⟩ := h.of_cons
    intro t ht
    rcases List.mem_cons.mp ht with rfl | ht
    · exact h1
    · exact Reps.mem h2 t ht
theorem toPys_len : ∀ {ds : List D} {ps : List PyData}, toPys ds = some ps → ds.length = ps.length
  | [], ps, h => by cases h; rfl
  | d :: r, ps, h => by
    have h : (match toPy d, toPys r with | some p, some q => some (p :: q) | _, _ => none) = some ps := h
    cases e : toPy d with
    | none => rw [e] at h; cases h
    | some p =>
      cases e2 : toPys r with
      | none => rw [e, e2] at h; cases h
      | some q =>
        rw [e, e2] at h
        cases h
        rw [List.length_cons, List.length_cons, toPys_len e2]
theorem dpAll_of {K : Fg} {H : Hp} : ∀ {ds : List D} {vs : List V} {ps : List PyData}, Reps K b H ds vs → toPys ds = some ps → DpAll K H vs ps
  | [], vs, ps, r, h => by cases h; rw [r.of_nil]; exact .nil
  | d :: r, vs, ps, hr, h => by
    obtain ⟨v, w, rfl, h1, h2⟩ := hr.of_cons
    have h : (match toPy d, toPys r with | some p, some q => some (p :: q) | _, _ => none) = some ps := h
    cases e : toPy d with
    | none => rw [e] at h; cases h
    | some p =>
      cases e2 : toPys r with
      | none => rw [e, e2] at h; cases h
      | some q =>
        rw [e, e2] at h
        cases h
        exact .cons (h1.dp e) (dpAll_of h2 e2)
theorem cl_sortG : Cl1S X.K b (rSortG X.K) dSortG := by
  refine ⟨fun x k k' i q => ?_, fun O H dx x Q F r q => ?_⟩
  · cases x with
    | lst ds =>
      simp only [dSortG] at q ⊢
      cases e : toPys ds with
      | none => rw [e] at q; exact q.elim
      | some xs => rw [e] at q; exact ⟨q.1, q.2.1, q.2.2.1, q.2.2.2.1, i _ q.2.2.2.2⟩
    | _ => exact q.elim
  · cases dx with
    | lst ds =>
      simp only [dSortG] at q
      cases e : toPys ds with
      | none => rw [e] at q; exact q.elim
      | some ps =>
        rw [e] at q
        obtain ⟨q1, q2, q3, q4, q⟩ := q
        obtain ⟨a, vs, rfl, n, h, s⟩ := r.lst
        have hp := toPys_len e
        have hv := s.length
        obtain ⟨l, l1, l2, l3, l4⟩ := srt_two (xs := ds) (ys := vs) (ps := ps) hv hp
        refine ⟨a, vs, ps, rfl, sqL_mono hide_le n h, dpAll_of (s.mono hide_le) e, q1, q2, q3, by omega, fun p hp => ?_⟩
        refine q _ _ (.new hp) (rep_newL F hp ?_)
        have hz : ∀ t ∈ l, Rep X.K b (hide O H) t.1.1 t.1.2 := fun t ht => by
          have := Reps.mem s (t.1.1, t.1.2) (by
            rw [← l3, ← l4, List.zip_map', List.mem_map]
            exact ⟨t, ht, rfl⟩)
          exact this
        rw [← l1, ← l2, ← srt_map (fun t : (D × V) × PyData => (t.1.1, t.2)) (fun _ => rfl), ← srt_map (fun t : (D × V) × PyData => (t.1.2, t.2)) (fun _ => rfl), List.map_map, List.map_map]
        have hm : ∀ t ∈ (srtP l).map (·.1), Rep X.K b (hide O H) t.1 t.2 := fun t ht => by
          obtain ⟨u, hu, rfl⟩ := List.mem_map.mp ht
          exact hz u (List.mem_mergeSort.mp hu)
        have := Reps.perm hm
        rw [List.map_map, List.map_map] at this
        exact this
    | _ => exact q.elim
end
end DL
/-! DR19 -/
set_option Elab.async false
set_option linter.all false
set_option maxRecDepth 100000
set_option maxHeartbeats 4000000
/-! Dicts with tuple keys, the frame's own. -/
namespace L2
open PySem PySem.Spec PyProof.Rows
section
variable {X : Cx}
/-- list(d), d with tuple keys -/
def rListT : List V → Hp → VK → Prop := fun xs H Q => ∃ p kvs, xs = [.ref p] ∧ H p = some (.dT kvs) ∧ ∀ bs : List Addr, Paired (fun (kv : List Key × V) (c : Addr) => H c = some (.tup (kv.1.map kV))) kvs bs → ∀ q, H q = none → Q (.ref q) (upd H q (.lst (bs.map V.ref)))
theorem pairedM {α β γ : Type} {F : α → β → Prop} {G : α → γ → Prop} (f : β → γ) (h : ∀ a b, F a b → G a (f b)) : ∀ {l : List α} {m : List β}, Paired F l m → Paired G l (m.map f)
  | _, _, .nil => .nil
  | _, _, .cons a b => .cons (h _ _ a) (pairedM f h b)
theorem refs_vals : ∀ {bs : List Addr} {us : List Value}, bs.length = us.length → (∀ (j : Nat) (c : Addr) (u : Value), bs[j]? = some c → us[j]? = some u → u = .ref c) → Vals (bs.map V.ref) us
  | [], [], _, _ => .nil
  | [], _ :: _, h, _ => by simp at h
  | _ :: _, [], h, _ => by simp at h
  | c :: bs, u :: us, h, f => .cons (f 0 c u rfl rfl) (refs_vals (by simpa using h) fun j y w h1 h2 => f (j + 1) y w (by simpa using h1) (by simpa using h2))
theorem call_listT (hc : X.calm = true) : CallR X (.type "list") rListT := by
  intro pins s σ H xs us Q I r h
  obtain ⟨p, kvs, e, hk, q⟩ := h
  subst e
  obtain ⟨u, eu, rx⟩ := vals1 r
  subst eu
  obtain rfl : u = Value.ref p := rx
  obtain ⟨z, lo, ys, rk, hd⟩ := dt_of I.hok hk
  obtain ⟨es, ep, hr, hs, hx⟩ := hd.raw
  have hl : kvs.length = ys.length := Paired.length rk
  refine PySem.W.kdl_call (PySem.KdlSrc.rawDict lo) (I.ok.hd hc) hr (by rw [hs, ← hl]; exact z) fun h' tk acc' c' kp gS it => ?_
  refine ⟨.ref s.heap.objs.size, upd H s.heap.objs.size (.lst ((ys.map (·.2.1)).map V.ref)), I.laid kp (Nat.le_refl _) (show ObjOk X.prog X.w _ _ _ (.lst ((ys.map (·.2.1)).map V.ref)) from ⟨?_, acc'.toList, c', ?_, ?_⟩), rfl, q _ (pairedM (fun y : List Key × Addr × Value => y.2.1) (fun a b w => w.2.1) rk) _ (I.hok.fresh (Nat.le_refl _))⟩
  · rw [List.length_map, List.length_map, ← hl]; exact z
  · refine refs_vals (by have w : acc'.size = es.size := it.1; have w2 : acc'.toList.length = acc'.size := Array.length_toList; rw [List.length_map]; omega) fun j c v h1 h2 => ?_
    obtain ⟨hi, ev⟩ := it.2 j v (by rw [← Array.getElem?_toList]; exact h2)
    obtain ⟨y, hy, ek, _⟩ := hx j hi
    rw [List.getElem?_map, hy] at h1
    cases h1
    rw [ev, ek]
  · rw [Array.toArray_toList]; exact gS
/-- d[t], t a tuple -/
def tTGet (td ty : TE) (K : PySem.W.Frag) : TE := fun σ H Q => td σ H fun x H1 => ty σ H1 fun y H2 => ∃ a c kvs k v, x = V.ref a ∧ y = V.ref c ∧ H2 a = some (.dT kvs) ∧ SqT K H2 c (k.map kV) ∧ valV kvs k = some v ∧ Q v H2
theorem key_at {pins : List (Addr × Obj)} {σ : L2.St} {H : Hp} {s : Shared} {c : Addr} {k : List Key} (I : Inv X pins σ H s) (h : SqT X.K H c (k.map kV)) : (tupleKind (mixKind X.prog X.w)).is s.heap k c := by
  obtain ⟨its, r, ⟨o, h1, h2, n, h3⟩, _⟩ := I.tuple h
  exact ⟨o, its.toArray, n, h1, h2, h3, by simpa using items_are r⟩
theorem pe_tget {o i : Expr} {pos : Pos} {td ty : TE} (hu : X.A.units + 1 < cLine) (ho : PE X o td) (hi : PE X i ty) (hs : NoSl i) : PE X (.Subscript o i pos) (tTGet td ty X.K) := by
  refine ⟨fun pins s σ H Q I h => ?_⟩
  refine subD_of PySem.F.slot_dict_getitem.lookup hs (thn (ho.run pins s σ H _ I h) fun u sa ⟨x, Ha, Ia, rx, qa⟩ => thn (hi.run pins sa σ Ha _ Ia qa) fun iv sb ⟨y, Hb, Ib, ry, a, c, kvs, k, v, ex, ey, hd, hk, hv, qb⟩ => ?_)
  subst ex ey
  obtain rfl : u = Value.ref a := rx
  obtain rfl : iv = Value.ref c := ry
  obtain ⟨_, lo, ys, rel, dd⟩ := dt_of Ib.hok hd
  obtain ⟨w', hw, rw'⟩ := RelO.some_of (v := v) (o := (atKey ys k).map (·.2)) (by rw [← hv]; exact rel.val k)
  obtain ⟨p, hp, hp2⟩ := Option.map_eq_some_iff.mp hw
  have rd : Rd Hb a (.dT kvs) := .inl hd
  refine ⟨dd.typeIs, wpAny_getItem_heap (tupleKind_room_in1 hu) (key_at Ib hk) dd hp ?_⟩
  · rw [hp2]
    exact ⟨v, Hb, Ib.tok _, rw', qb⟩
end
end L2
namespace DL
open PySem PySem.Spec PyProof.Rows L2
variable [TabC]
abbrev KeyT := List Key
def valT (l : List (KeyT × D)) (k : KeyT) : Option D := (l.find? fun p => decide (p.1 = k)).map (·.2)
def putT (l : List (KeyT × D)) (k : KeyT) (d : D) : List (KeyT × D) := if (l.any fun p => decide (p.1 = k)) = true then l.map (fun p => if p.1 = k then (p.1, d) else p) else l ++ [(k, d)]
section
variable {K : Fg} {b : Option Addr} {H H' : Hp}
inductive KRT (K : Fg) (b : Option Addr) (H : Hp) : List (KeyT × D) → List (KeyT × V) → Prop
  | nil : KRT K b H [] []
  | cons {k : KeyT} {d : D} {v : V} {l : List (KeyT × D)} {m : List (KeyT × V)} (h : Rep K b H d v) (r : KRT K b H l m) : KRT K b H ((k, d) :: l) ((k, v) :: m)
theorem KRT.mono {l : List (KeyT × D)} {m : List (KeyT × V)} (x : Le b H H') (h : KRT K b H l m) : KRT K b H' l m := by
  induction h with
  | nil => exact .nil
  | cons h _ ih => exact .cons (h.mono x) ih
theorem KRT.of : ∀ {ks : List KeyT} {ds : List D} {vs : List V}, ks.length = vs.length → Reps K b H ds vs → KRT K b H (ks.zip ds) (ks.zip vs)
  | [], _, _, _, _ => by rw [List.zip_nil_left, List.zip_nil_left]; exact .nil
  | k :: ks, [], vs, l, r => by rw [r.of_nil] at l; cases l
  | k :: ks, d :: ds, vs, l, r => by
    obtain ⟨v, q, rfl, h1, h2⟩ := r.of_cons
    exact .cons h1 (KRT.of (by simpa using l) h2)
theorem KRT.ks {l : List (KeyT × D)} {m : List (KeyT × V)} (h : KRT K b H l m) : l.map (·.1) = m.map (·.1) := by
  induction h with
  | nil => rfl
  | cons _ _ ih => rw [List.map_cons, List.map_cons, ih]
theorem KRT.ds {l : List (KeyT × D)} {m : List (KeyT × V)} (h : KRT K b H l m) : Reps K b H (l.map (·.2)) (m.map (·.2)) := by
  induction h with
  | nil => exact Reps.nil
  | cons h _ ih => exact Reps.cons h ih
theorem KRT.len {l : List (KeyT × D)} {m : List (KeyT × V)} (h : KRT K b H l m) : l.length = m.length := by
  induction h with
  | nil => rfl
  | cons _ _ ih => rw [List.length_cons, List.length_cons, ih]
theorem KRT.any {l : List (KeyT × D)} {m : List (KeyT × V)} (h : KRT K b H l m) (k : KeyT) : (l.any fun p => decide (p.1 = k)) = m.any fun p => decide (p.1 = k) := by
  induction h with
  | nil => rfl
  | cons _ _ ih => rw [List.any_cons, List.any_cons, ih]
theorem KRT.snoc {l : List (KeyT × D)} {m : List (KeyT × V)} {k : KeyT} {d : D} {v : V} (h : KRT K b H l m) (r : Rep K b H d v) : KRT K b H (l ++ [(k, d)]) (m ++ [(k, v)]) := by
  induction h with
  | nil => exact .cons r .nil
  | cons h _ ih => exact .cons h ih
theorem KRT.mapPut {l : List (KeyT × D)} {m : List (KeyT × V)} {k : KeyT} {d : D} {v : V} (h : KRT K b H l m) (r : Rep K b H d v) : KRT K b H (l.map fun p => if p.1 = k then (p.1, d) else p) (m.map fun p => if p.1 = k then (p.1, v) else p) := by
  induction h with
  | nil => exact .nil
  | @cons k' d' v' l m h _ ih =>
    rw [List.map_cons, List.map_cons]
    by_cases e : k' = k
    · rw [if_pos e, if_pos e]; exact .cons r ih
    · rw [if_neg e, if_neg e]; exact .cons h ih
theorem KRT.put {l : List (KeyT × D)} {m : List (KeyT × V)} {k : KeyT} {d : D} {v : V} (h : KRT K b H l m) (r : Rep K b H d v) : KRT K b H (putT l k d) (putK m k v) := by
  unfold putT putK
  rw [h.any k]
  split
  · exact h.mapPut r
  · exact h.snoc r
theorem KRT.val {l : List (KeyT × D)} {m : List (KeyT × V)} (h : KRT K b H l m) (k : KeyT) : match valT l k with
    | some d => ∃ v, valV m k = some v ∧ Rep K b H d v
    | none => valV m k = none := by
  induction h with
  | nil => exact rfl
  | @cons k' d v l m h _ ih =>
    unfold valT valV at ih ⊢
    rw [List.find?_cons, List.find?_cons]
    by_cases e : k' = k
    · simp only [e, decide_true]
      exact ⟨v, rfl, h⟩
    · simp only [e, decide_false]
      exact ih
end
section
variable {K : Fg} {b : Option Addr} {H0 H : Hp} {σd : StD} {σ : L2.St} {O : List Addr}
/-- a new dict, the frame's own -/
theorem Rst.setOT (R : Rst K b H0 σd σ H O) {l9 : List (KeyT × D)} {m9 : List (KeyT × V)} {p : Addr} (i : Nat) (hp : H p = none) (r : KRT K b (hide O H) l9 m9) : Rst K b H0 (put σd i (.ott (l9.map (·.1)) (l9.map (·.2)))) (σ.set i (some (.ref p))) (upd H p (.dT m9)) (p :: O) where
  len := by rw [put_length, List.length_set]; exact R.len
  slot := fun j => by
    rw [look_put2, getD_set, R.len]
    by_cases h : j = i ∧ i < σ.length
    · rw [if_pos h, if_pos h]
      exact ⟨p, m9.map (·.2), rfl, List.mem_cons_self, (by rw [r.ks, zip_parts]; exact upd_same), (by rw [hide_newO hp]; exact r.ds)⟩
    · rw [if_neg h, if_neg h]
      have s := R.slot j
      cases e : look σd j with
      | unset => trivial
      | sh d =>
        rw [e] at s
        obtain ⟨v, e1, r1⟩ := s
        exact ⟨v, e1, by rw [hide_newO hp]; exact r1⟩
      | own es =>
        rw [e] at s
        obtain ⟨a, us, e1, m, h1, r1⟩ := s
        exact ⟨a, us, e1, List.mem_cons_of_mem _ m, by rw [upd_ne (ne_of_none h1 hp)]; exact h1, by rw [hide_newO hp]; exact r1⟩
      | gho a es =>
        rw [e] at s
        obtain ⟨us, m, h1, r1⟩ := s
        exact ⟨us, List.mem_cons_of_mem _ m, by rw [upd_ne (ne_of_none h1 hp)]; exact h1, by rw [hide_newO hp]; exact r1⟩
      | owd kx es =>
        rw [e] at s
        obtain ⟨a, us, e1, m, h1, r1⟩ := s
        exact ⟨a, us, e1, List.mem_cons_of_mem _ m, by rw [upd_ne (ne_of_none h1 hp)]; exact h1, by rw [hide_newO hp]; exact r1⟩
      | ott kx es =>
        rw [e] at s
        obtain ⟨a, us, e1, m, h1, r1⟩ := s
        exact ⟨a, us, e1, List.mem_cons_of_mem _ m, by rw [upd_ne (ne_of_none h1 hp)]; exact h1, by rw [hide_newO hp]; exact r1⟩
      | obj a dx c ns es =>
        rw [e] at s
        obtain ⟨us, e1, m, md, h1, h2, l, r1⟩ := s
        exact ⟨us, e1, List.mem_cons_of_mem _ m, List.mem_cons_of_mem _ md, by rw [upd_ne (ne_of_none h1 hp)]; exact h1, by rw [upd_ne (ne_of_none h2 hp)]; exact h2, l, by rw [hide_newO hp]; exact r1⟩
  uniq := fun j k a h1 h2 => by
    rw [look_put2, getD_set, R.len] at h1 h2
    have np : ∀ {k}, Owns (look σd k) (σ.getD k none) p → False := fun {k} z => (R.free hp).1 (owns_in z (R.slot k))
    by_cases hj : j = i ∧ i < σ.length
    · rw [if_pos hj, if_pos hj] at h1
      have h1 : a = p := h1
      subst h1
      by_cases hk : k = i ∧ i < σ.length
      · rw [hj.1, hk.1]
      · rw [if_neg hk, if_neg hk] at h2
        exact (np h2).elim
    · rw [if_neg hj, if_neg hj] at h1
      by_cases hk : k = i ∧ i < σ.length
      · rw [if_pos hk, if_pos hk] at h2
        have h2 : a = p := h2
        subst h2
        exact (np h1).elim
      · rw [if_neg hk, if_neg hk] at h2
        exact R.uniq j k a h1 h2
  nb := fun a m => by
    rcases List.mem_cons.mp m with e | m
    · subst e
      exact ⟨(R.free hp).2, trivial, .dT m9, upd_same, trivial⟩
    · obtain ⟨n1, _, o, e, q⟩ := R.nb a m
      refine ⟨n1, trivial, o, by rw [upd_ne (ne_of_none e hp)]; exact e, ?_⟩
      cases o with
      | lst _ => trivial
      | dK _ => trivial
      | dT _ => trivial
      | ins _ dx _ => exact List.mem_cons_of_mem _ q
      | own x =>
        obtain ⟨q1, C, fs, q2⟩ := q
        exact ⟨List.mem_cons_of_mem _ q1, C, fs, by rw [upd_ne (ne_of_none q2 hp)]; exact q2⟩
      | _ => exact q.elim
  le := by rw [hide_newO hp]; exact R.le
  bg := by rw [hide_newO hp]; exact R.bg
/-- the dict of the slot i is written -/
theorem Rst.wrOT (R : Rst K b H0 σd σ H O) {ks0 : List KeyT} {ds0 : List D} {m0 : List (KeyT × V)} {l9 : List (KeyT × D)} {m9 : List (KeyT × V)} {a : Addr} {i : Nat} (hi : look σd i = .ott ks0 ds0) (hs : σ.getD i none = some (.ref a)) (ha : H a = some (.dT m0)) (hm : a ∈ O) (r : KRT K b (hide O H) l9 m9) : Rst K b H0 (put σd i (.ott (l9.map (·.1)) (l9.map (·.2)))) σ (upd H a (.dT m9)) O where
  len := by rw [put_length]; exact R.len
  slot := fun j => by
    rw [look_put2]
    by_cases h : j = i ∧ i < σd.length
    · rw [if_pos h, h.1, hs]
      exact ⟨a, m9.map (·.2), rfl, hm, (by rw [r.ks, zip_parts]; exact upd_same), (by rw [hide_upd hm]; exact r.ds)⟩
    · rw [if_neg h]
      have s := R.slot j
      have oi : Owns (look σd i) (σ.getD i none) a := by rw [hi, hs]; exact rfl
      have li : i < σd.length := by
        rcases Nat.lt_or_ge i σd.length with z | z
        · exact z
        · rw [look_out z] at hi; cases hi
      have ne : ∀ c, Owns (look σd j) (σ.getD j none) c → c ≠ a := fun c z w => h ⟨R.uniq j i a (by rw [← w]; exact z) oi, li⟩
      cases e : look σd j with
      | unset => trivial
      | sh d =>
        rw [e] at s
        obtain ⟨v, e1, r1⟩ := s
        exact ⟨v, e1, by rw [hide_upd hm]; exact r1⟩
      | own fs =>
        rw [e] at s
        obtain ⟨c, ws, e1, m, h1, r1⟩ := s
        exact ⟨c, ws, e1, m, by rw [upd_ne (ne c (by rw [e, e1]; exact rfl))]; exact h1, by rw [hide_upd hm]; exact r1⟩
      | gho c fs =>
        rw [e] at s
        obtain ⟨ws, m, h1, r1⟩ := s
        exact ⟨ws, m, by rw [upd_ne (ne c (by rw [e]; exact rfl))]; exact h1, by rw [hide_upd hm]; exact r1⟩
      | owd kx fs =>
        rw [e] at s
        obtain ⟨c, ws, e1, m, h1, r1⟩ := s
        exact ⟨c, ws, e1, m, by rw [upd_ne (ne c (by rw [e, e1]; exact rfl))]; exact h1, by rw [hide_upd hm]; exact r1⟩
      | ott kx fs =>
        rw [e] at s
        obtain ⟨c, ws, e1, m, h1, r1⟩ := s
        exact ⟨c, ws, e1, m, by rw [upd_ne (ne c (by rw [e, e1]; exact rfl))]; exact h1, by rw [hide_upd hm]; exact r1⟩
      | obj c dx n ns fs =>
        rw [e] at s
        obtain ⟨ws, e1, m, md, h1, h2, l, r1⟩ := s
        exact ⟨ws, e1, m, md, by rw [upd_ne (ne_of h1 ha (by simp))]; exact h1, by rw [upd_ne (ne_of h2 ha (by simp))]; exact h2, l, by rw [hide_upd hm]; exact r1⟩
  uniq := fun j k c h1 h2 => by
    have key : ∀ {j}, Owns (look (put σd i (.ott (l9.map (·.1)) (l9.map (·.2)))) j) (σ.getD j none) c → Owns (look σd j) (σ.getD j none) c := fun {j} z => by
      rw [look_put2] at z
      by_cases h : j = i ∧ i < σd.length
      · rw [if_pos h] at z
        rw [h.1, hs] at z
        rw [h.1, hi, hs]; exact z
      · rw [if_neg h] at z; exact z
    exact R.uniq j k c (key h1) (key h2)
  nb := fun c m => by
    obtain ⟨n1, _, o, e, q⟩ := R.nb c m
    by_cases hc : c = a
    · subst hc
      exact ⟨n1, trivial, .dT m9, upd_same, trivial⟩
    · refine ⟨n1, trivial, o, by rw [upd_ne hc]; exact e, ?_⟩
      cases o with
      | lst _ => trivial
      | dK _ => trivial
      | dT _ => trivial
      | ins _ dx _ => exact q
      | own x =>
        obtain ⟨q1, C, fs, q2⟩ := q
        exact ⟨q1, C, fs, by rw [upd_ne (ne_of q2 ha (by simp))]; exact q2⟩
      | _ => exact q.elim
  le := by rw [hide_upd hm]; exact R.le
  bg := by rw [hide_upd hm]; exact R.bg
end
def keysT : List D → Option (List Key)
  | [] => some []
  | d :: r => match keyD d, keysT r with
    | some k, some l => some (k :: l)
    | _, _ => none
def keyT : D → Option KeyT
  | .tup ds => keysT ds
  | _ => none
def onT (o : Option KeyT) (p : KeyT → Prop) : Prop := match o with | some k => p k | none => False
theorem onT_mn {o : Option KeyT} {p p' : KeyT → Prop} (i : ∀ k, p k → p' k) (h : onT o p) : onT o p' := by
  cases o with
  | none => exact h
  | some k => exact i k h
theorem keysT_rep {K : Fg} {b : Option Addr} {H : Hp} : ∀ {ds : List D} {ks : List Key} {vs : List V}, keysT ds = some ks → Reps K b H ds vs → vs = ks.map kV
  | [], ks, vs, e, r => by cases e; rw [r.of_nil]; rfl
  | d :: r, ks, vs, e, h => by
    obtain ⟨v, w, rfl, h1, h2⟩ := h.of_cons
    have e : (match keyD d, keysT r with | some k, some l => some (k :: l) | _, _ => none) = some ks := e
    cases ek : keyD d with
    | none => rw [ek] at e; cases e
    | some k =>
      cases el : keysT r with
      | none => rw [ek, el] at e; cases e
      | some l =>
        rw [ek, el] at e
        cases e
        rw [keyD_rep ek h1, keysT_rep el h2]; rfl
theorem reps_kT {K : Fg} {b : Option Addr} {H : Hp} : ∀ k : List Key, Reps K b H (k.map kD) (k.map kV)
  | [] => Reps.nil
  | .inl i :: r => Reps.cons rfl (reps_kT r)
  | .inr x :: r => Reps.cons rfl (reps_kT r)
section
variable (K : Fg) (b : Option Addr) (H0 : Hp)
/-- a new tuple -/
def LTp (g : GE) : TE := fun σ H Q => ∃ σd O, Rst K b H0 σd σ H O ∧ g σd fun d => match d with
  | .tup ds => ∀ p vs H', some p ≠ b → Ext b H H' → H' p = some (.tup vs) → Reps K b (hide O H') ds vs → Q (.ref p) H'
  | _ => False
end
structure DTp (b : Option Addr) (H0 : Hp) (X : Cx) (e : Expr) (g : GE) : Prop where
  pe : PE X e (LTp X.K b H0 g)
  mn : Mn g
def dTupF : D → (D → Prop) → Prop := fun x k => match x with
  | .lst ds => k (.tup ds)
  | _ => False
section
variable {X : Cx} {b : Option Addr} {H0 : Hp} {a c e ke fe : Expr} {ga gb gk gv gd : GE} {pos p apos pos' : Pos} {x : Str} {i j : Nat}
theorem dp_tuple (hg : Gl X "tuple") (hm : X.mg "tuple" = none) (A : DE b H0 X a ga) (he : starEach [a] X.env = (false, eval a X.env) :: starEach [] X.env := by rfl) : DTp b H0 X (.Call (.Name "tuple" p) [a] [] pos) (g1 dTupF ga) := by
  refine ⟨pe_imp (pe_callTy call_tuple_of hg hm rfl (pa_cons A.pe pa_nil he) (by decide) (by decide) he rfl) fun σ H Q ⟨σd, O, R, q⟩ => ?_, fun σ k k' h q => A.mn _ _ _ (fun d z => by cases d <;> first | exact h _ z | exact z.elim) q⟩
  refine ⟨σd, O, R, A.mn _ _ _ (fun d hd v1 H1 x1 r1 => ?_) q⟩
  cases d with
  | lst ds =>
    obtain ⟨c, ys, rfl, n, h, s⟩ := r1.lst
    refine ⟨c, ys, rfl, .inl ⟨sqL_mono hide_le n h, fun l hl => ?_⟩⟩
    have F := R.fr x1 hl
    exact hd l _ _ F.1 (x1.trans (.new hl)) upd_same (s.mono ((Ext.new (b := b) hl).1.hide O))
  | _ => exact hd.elim
/-- x = {}, its keys to be tuples -/
def gAsgT0 (i : Nat) : GSt := fun D σ => D.nx (put σ i (.ott [] []))
theorem ds_asgT0 {dp : Pos} (hN : X.N.Nodup) (hi : X.N[i]? = some x) (hx : Loc X.env.scope x) (hs : swapsWith (.Dict [] [] dp) (some (.Name x pos')) pos.line X.env = pure false := by rfl) (hf : X.fn x = true ∨ X.env.scope.names.lookup x = some .local := by first | exact .inl rfl | exact .inr rfl | assumption) :
    DS b H0 X (.Assign [.Name x pos'] (.Dict [] [] dp) pos) (gAsgT0 i) :=
  ⟨ps_imp (ps_set hN hi hx pe_dnewT hs hf) fun D σ H ⟨σd, O, R, q⟩ p hp => q _ _ _ (R.setOT (l9 := []) (m9 := []) i hp .nil) (by rw [hide_newO hp]; exact .refl _), fun D D' σ h1 _ _ _ q => h1 _ q⟩
/-- x[tuple(..)] = v -/
def gTPut (i : Nat) (gk gv : GE) : GSt := fun D σ => match look σ i with
  | .ott ks ds => gv σ fun z => gk σ fun y => onT (keyT y) fun ky => ks.length = ds.length ∧ ks.length < 100000 ∧ D.nx (put σ i (.ott ((putT (ks.zip ds) ky z).map (·.1)) ((putT (ks.zip ds) ky z).map (·.2))))
  | _ => False
theorem gTPut_mn (A : Mn gk) (B : Mn gv) : MnD (gTPut i gk gv) := fun D D' σ h1 _ _ _ q => by
  unfold gTPut at q ⊢
  cases e : look σ i with
  | ott ks ds =>
    rw [e] at q
    exact B _ _ _ (fun z hz => A _ _ _ (fun y hy => onT_mn (fun ky h => ⟨h.1, h.2.1, h1 _ h.2.2⟩) hy) hz) q
  | _ => rw [e] at q; exact q.elim
theorem ds_tput (hr : Room j X.A) (hN : X.N[i]? = some x) (hv : Vis X.env.scope x) (A : DTp b H0 X ke gk) (B : DE b H0 X e gv) (hs : swapsWith e (some (.Subscript (.Name x p) ke pos')) pos.line X.env = pure false := by rfl) (hd : (x == ("__debug__" : Str)) = false := by decide) (hcd : (x == ("__classdict__" : Str)) = false := by decide) :
    DS b H0 X (.Assign [.Subscript (.Name x p) ke pos'] e pos) (gTPut i gk gv) :=
  ⟨ps_imp (ps_dput (by have := hr.un; omega) (pe_var hN hv hd hcd) A.pe B.pe hs) fun D σ H ⟨σd, O, R, q⟩ => by
    unfold gTPut at q
    cases hl : look σd i with
    | ott ks ds =>
      rw [hl] at q
      refine ⟨σd, O, R, B.mn _ _ _ (fun z hz v H1 x1 r1 => ?_) q⟩
      have R1 := R.mono x1
      have s := R1.slot i
      rw [hl] at s
      obtain ⟨a, vs, e1, m, h1, _⟩ := s
      refine ⟨.ref a, getD_some e1, σd, O, R1, A.mn _ _ _ (fun y hy => ?_) hz⟩
      cases y with
      | tup es =>
        intro c ws H2 nb x2 hc r2
        have R2 := R1.mono x2
        have s := R2.slot i
        rw [hl, e1] at s
        obtain ⟨a', vs', e2, m', h2, rr⟩ := s
        cases e2
        cases ek : keyT (.tup es) with
        | none => rw [ek] at hy; exact hy.elim
        | some ky =>
          rw [ek] at hy
          obtain ⟨l1, l2, k9⟩ := hy
          have lv : ks.length = vs'.length := by rw [l1, rr.length]
          have hk : H2 c = some (.tup (ky.map kV)) := by rw [hc, keysT_rep ek r2]
          refine ⟨a, _, rfl, .inr ⟨_, ky, c, h2, rfl, hk, by rw [List.length_zip]; exact Nat.lt_of_le_of_lt (Nat.min_le_left _ _) (Nat.lt_of_lt_of_le l2 (by decide)), rfl⟩, ?_⟩
          refine k9 _ _ _ (R2.wrOT hl e1 h2 m' ((KRT.of lv rr).put (r1.mono (x2.1.hide O)))) ?_
          rw [hide_upd m']
          exact R.hx (x1.trans x2)
      | _ => exact hy.elim
    | _ => rw [hl] at q; exact q.elim, gTPut_mn A.mn B.mn⟩
/-- x.get(tuple(..), d) -/
def gTGet (i : Nat) (gk gd : GE) : GE := fun σ k => match look σ i with
  | .ott ks ds => gk σ fun y => onT (keyT y) fun ky => gd σ fun z => ks.length = ds.length ∧ k ((valT (ks.zip ds) ky).getD z)
  | _ => False
theorem gTGet_mn (A : Mn gk) (B : Mn gd) : Mn (gTGet i gk gd) := fun σ k k' h q => by
  unfold gTGet at q ⊢
  cases e : look σ i with
  | ott ks ds =>
    rw [e] at q
    exact A _ _ _ (fun y hy => onT_mn (fun ky z => B _ _ _ (fun z hz => ⟨hz.1, h _ hz.2⟩) z) hy) q
  | _ => rw [e] at q; exact q.elim
theorem de_tget2 (hr : Room j X.A) (hN : X.N[i]? = some x) (hv : Vis X.env.scope x) (A : DTp b H0 X ke gk) (B : DE b H0 X fe gd) (m : M2 X (.Name x p) "get" apos ke fe pos) (hd : (x == ("__debug__" : Str)) = false := by decide) (hcd : (x == ("__classdict__" : Str)) = false := by decide) :
    DE b H0 X (.Call (.Attribute (.Name x p) "get" apos) [ke, fe] [] pos) (gTGet i gk gd) :=
  ⟨pe_imp (pe_dget2 (by have := hr.un; omega) (pe_var hN hv hd hcd) A.pe B.pe m) fun σ H Q ⟨σd, O, R, q⟩ => by
    unfold gTGet at q
    cases hl : look σd i with
    | ott ks ds =>
      rw [hl] at q
      have s := R.slot i
      rw [hl] at s
      obtain ⟨a, vs, e1, m, h1, _⟩ := s
      refine ⟨.ref a, getD_some e1, a, rfl, .inr ⟨_, .inl h1⟩, σd, O, R, A.mn _ _ _ (fun y hy => ?_) q⟩
      cases y with
      | tup es =>
        intro c ws H2 nb x2 hc r2
        have R2 := R.mono x2
        cases ek : keyT (.tup es) with
        | none => rw [ek] at hy; exact hy.elim
        | some ky =>
        rw [ek] at hy
        refine ⟨σd, O, R2, B.mn _ _ _ (fun z hz v H3 x3 r3 => ?_) hy⟩
        have R3 := R2.mono x3
        have s := R3.slot i
        rw [hl, e1] at s
        obtain ⟨a', vs', e2, m', h2, rr⟩ := s
        cases e2
        obtain ⟨l1, k9⟩ := hz
        have lv : ks.length = vs'.length := by rw [l1, rr.length]
        have hk2 : H2 c = some (.tup (ky.map kV)) := by rw [hc, keysT_rep ek r2]
        have hk : H3 c = some (.tup (ky.map kV)) := x3.1 c _ nb hk2 rfl
        have kr := KRT.of lv rr
        have kv := kr.val ky
        refine ⟨valV (ks.zip vs') ky, DGet.t h2 hk, ?_⟩
        cases ev : valT (ks.zip ds) ky with
        | none =>
          rw [ev] at kv k9
          rw [kv]
          exact k9 v H3 (x2.trans x3) r3
        | some w =>
          rw [ev] at kv k9
          obtain ⟨u, hu, ru⟩ := kv
          rw [hu]
          exact k9 u H3 (x2.trans x3) ru
      | _ => exact hy.elim
    | _ => rw [hl] at q; exact q.elim, gTGet_mn A.mn B.mn⟩
/-- x[t] -/
def gTIx (i : Nat) (gk : GE) : GE := fun σ k => match look σ i with
  | .ott ks ds => gk σ fun y => onT (keyT y) fun ky => ks.length = ds.length ∧ ∃ w, valT (ks.zip ds) ky = some w ∧ k w
  | _ => False
theorem gTIx_mn (A : Mn gk) : Mn (gTIx i gk) := fun σ k k' h q => by
  unfold gTIx at q ⊢
  cases e : look σ i with
  | ott ks ds =>
    rw [e] at q
    exact A _ _ _ (fun y hy => onT_mn (fun ky ⟨w1, w, w2, w3⟩ => ⟨w1, w, w2, h _ w3⟩) hy) q
  | _ => rw [e] at q; exact q.elim
theorem de_tix (hr : Room j X.A) (hN : X.N[i]? = some x) (hv : Vis X.env.scope x) (A : DT b H0 X ke gk) (hs : NoSl ke) (hd : (x == ("__debug__" : Str)) = false := by decide) (hcd : (x == ("__classdict__" : Str)) = false := by decide) :
    DE b H0 X (.Subscript (.Name x p) ke pos) (gTIx i gk) :=
  ⟨pe_imp (pe_tget (by have := hr.un; omega) (pe_var hN hv hd hcd) A.pe hs) fun σ H Q ⟨σd, O, R, q⟩ => by
    unfold gTIx at q
    cases hl : look σd i with
    | ott ks ds =>
      rw [hl] at q
      have s := R.slot i
      rw [hl] at s
      obtain ⟨a, vs, e1, m, h1, _⟩ := s
      refine ⟨.ref a, getD_some e1, σd, O, R, A.mn _ _ _ (fun y hy v H2 x2 r2 => ?_) q⟩
      have R2 := R.mono x2
      have s := R2.slot i
      rw [hl, e1] at s
      obtain ⟨a', vs', e2, m', h2, rr⟩ := s
      cases e2
      cases y with
      | tup es =>
        obtain ⟨c, us, rfl, n, h, s⟩ := r2.tup
        cases ek : keyT (.tup es) with
        | none => rw [ek] at hy; exact hy.elim
        | some ky =>
          rw [ek] at hy
          obtain ⟨l1, w, hw, k9⟩ := hy
          have lv : ks.length = vs'.length := by rw [l1, rr.length]
          have kv := (KRT.of lv rr).val ky
          rw [hw] at kv
          obtain ⟨u, hu, ru⟩ := kv
          exact ⟨a, c, _, ky, u, rfl, rfl, h2, by rw [← keysT_rep ek s]; exact h, hu, k9 u H2 x2 ru⟩
      | _ => exact hy.elim
    | _ => rw [hl] at q; exact q.elim, gTIx_mn A.mn⟩
/-- list(x) -/
def gTList (i : Nat) : GE := fun σ k => match look σ i with
  | .ott ks ds => ks.length = ds.length ∧ k (.lst (ks.map fun kt => .tup (kt.map kD)))
  | _ => False
theorem de_tlist (hc : X.calm = true) (hN : X.N[i]? = some x) (hv : Vis X.env.scope x) (hg : Gl X "list") (hm : X.mg "list" = none) (he : starEach [.Name x p] X.env = (false, eval (.Name x p) X.env) :: starEach [] X.env := by rfl) (hd : (x == ("__debug__" : Str)) = false := by decide) (hcd : (x == ("__classdict__" : Str)) = false := by decide) :
    DE b H0 X (.Call (.Name "list" apos) [.Name x p] [] pos) (gTList i) :=
  ⟨pe_imp (pe_callTy (call_listT hc) hg hm rfl (pa_cons (pe_var hN hv hd hcd) pa_nil he) (by decide) (by decide) he rfl) fun σ H Q ⟨σd, O, R, q⟩ => by
    unfold gTList at q
    cases hl : look σd i with
    | ott ks ds =>
      rw [hl] at q
      obtain ⟨l1, q⟩ := q
      have s := R.slot i
      rw [hl] at s
      obtain ⟨a, vs, e1, m, h1, rr⟩ := s
      have lv : ks.length = vs.length := by rw [l1, rr.length]
      refine ⟨.ref a, getD_some e1, a, _, rfl, h1, fun bs hb q9 hq => ?_⟩
      have hb2 : ∀ {l : List (List Key × V)} {cs : List Addr}, Paired (fun (kv : List Key × V) (c : Addr) => H c = some (.tup (kv.1.map kV))) l cs → Reps X.K b (hide O H) ((l.map (·.1)).map fun kt => D.tup (kt.map kD)) (cs.map V.ref) := by
        intro l cs h
        induction h with
        | nil => exact Reps.nil
        | @cons kv c l cs h _ ih =>
          refine Reps.cons ?_ ih
          have no : c ∉ O := fun m => by
            obtain ⟨_, _, o, e, w⟩ := R.nb c m
            rw [h] at e; cases e; exact w
          have hh : hide O H c = some (.tup (kv.1.map kV)) := by rw [hide_out no]; exact h
          exact Rep.mkTup (fun z => by
            obtain ⟨c', i, j, m, ns, g1, g2, g3, g4⟩ := R.bg c z.symm
            rw [hh] at g1; cases g1) (.inl (.inl hh)) (reps_kT _)
      have e2 : (ks.zip vs).map (·.1) = ks := List.map_fst_zip (by omega)
      have r2 := hb2 hb
      rw [e2] at r2
      exact q _ _ (.new hq) (rep_newL (fun p hp => R.free hp) hq r2)
    | _ => rw [hl] at q; exact q.elim, fun σ k k' h q => by
      unfold gTList at q ⊢
      cases e : look σ i with
      | ott ks ds => rw [e] at q; exact ⟨q.1, h _ q.2⟩
      | _ => rw [e] at q; exact q.elim⟩
end
end DL
/-! DR20 -/
set_option Elab.async false
set_option linter.all false
set_option maxRecDepth 100000
set_option maxHeartbeats 4000000
/-! x[i] = e and x[i], x the frame's own list. -/
namespace DL
open PySem PySem.Spec PyProof.Rows L2
variable [TabC]
section
variable {X : Cx} {b : Option Addr} {H0 : Hp} {e ie : Expr} {ge gi : GE} {pos p pos' : Pos} {x : Str} {i : Nat}
theorem Reps.setAt {K : Fg} {H : Hp} {d : D} {v : V} (r : Rep K b H d v) : ∀ {ds : List D} {vs : List V} (j : Nat), Reps K b H ds vs → Reps K b H (ds.set j d) (vs.set j v)
  | [], vs, j, h => by rw [h.of_nil]; exact Reps.nil
  | _ :: _, vs, 0, h => by
    obtain ⟨_, _, rfl, _, h2⟩ := h.of_cons
    exact Reps.cons r h2
  | _ :: _, vs, j + 1, h => by
    obtain ⟨_, _, rfl, h1, h2⟩ := h.of_cons
    exact Reps.cons h1 (Reps.setAt r j h2)
/-- x[i] = e -/
def gSetIx (i : Nat) (gi ge : GE) : GSt := fun D σ => match look σ i with
  | .own ds => ge σ fun z => gi σ fun y => match y with
    | .int k => ∃ j, ixN ds.length k = some j ∧ D.nx (put σ i (.own (ds.set j z)))
    | _ => False
  | _ => False
theorem gSetIx_mn (A : Mn gi) (B : Mn ge) : MnD (gSetIx i gi ge) := fun D D' σ h1 _ _ _ q => by
  unfold gSetIx at q ⊢
  cases e : look σ i with
  | own ds =>
    rw [e] at q
    exact B _ _ _ (fun z hz => A _ _ _ (fun y hy => by
      cases y with
      | int k => obtain ⟨j, a, c⟩ := hy; exact ⟨j, a, h1 _ c⟩
      | _ => exact hy.elim) hz) q
  | _ => rw [e] at q; exact q.elim
theorem ds_setIx (hN : X.N[i]? = some x) (hv : Vis X.env.scope x) (A : DT b H0 X ie gi) (B : DE b H0 X e ge) (hs : swapsWithSole [.Subscript (.Name x p) ie pos'] e pos.line X.env = pure false := by rfl) (hw : swappedStores [.Subscript (.Name x p) ie pos'] e X.env = pure none := by rfl)
    (h1 : (assignEach [.Subscript (.Name x p) ie pos'] X.env).map (·.2) = [assign (.Subscript (.Name x p) ie pos') X.env] := by rfl)
    (ha : ∀ v, assign (.Subscript (.Name x p) ie pos') X.env v = (do
      let ov ← holding [v] (eval (.Name x p) X.env)
      let iv ← holding [v, ov] (eval ie X.env)
      standAt pos'
      holding [v, ov, iv] (setItem ov iv v)
      release [v, ov, iv] []) := by intro _; rfl) (hd : (x == ("__debug__" : Str)) = false := by decide) (hcd : (x == ("__classdict__" : Str)) = false := by decide) :
    DS b H0 X (.Assign [.Subscript (.Name x p) ie pos'] e pos) (gSetIx i gi ge) :=
  ⟨ps_imp (ps_asg B.pe (pg_sub (pe_var hN hv hd hcd) A.pe set_list ha) hs hw h1) fun D σ H ⟨σd, O, R, q⟩ => by
    unfold gSetIx at q
    cases hl : look σd i with
    | own ds =>
      rw [hl] at q
      refine ⟨σd, O, R, B.mn _ _ _ (fun z hz v H1 x1 r1 => ?_) q⟩
      have R1 := R.mono x1
      have s := R1.slot i
      rw [hl] at s
      obtain ⟨a, vs, e1, m, h1, _⟩ := s
      refine ⟨.ref a, getD_some e1, σd, O, R1, A.mn _ _ _ (fun y hy w H2 x2 r2 => ?_) hz⟩
      have R2 := R1.mono x2
      have s := R2.slot i
      rw [hl, e1] at s
      obtain ⟨a', vs', e2, m', h2, rr⟩ := s
      cases e2
      cases y with
      | int k =>
        obtain ⟨j, hj, k9⟩ := hy
        refine ⟨a, vs', k, j, rfl, r2.int, h2, by rw [← rr.length]; exact hj, ?_⟩
        refine k9 _ _ _ (R2.wrO hl e1 h2 m' (Reps.setAt (r1.mono (x2.1.hide O)) j rr)) ?_
        rw [hide_upd m']
        exact R.hx (x1.trans x2)
      | _ => exact hy.elim
    | _ => rw [hl] at q; exact q.elim, gSetIx_mn A.mn B.mn⟩
/-- x[i], read -/
def gIxO (i : Nat) (gi : GE) : GE := fun σ k => match look σ i with
  | .own ds => gi σ fun y => match y with
    | .int n => (match atI ds n with | some d => k d | none => False)
    | _ => False
  | _ => False
theorem de_ixO (hN : X.N[i]? = some x) (hv : Vis X.env.scope x) (A : DT b H0 X ie gi) (hs : PlainIx ie := by exact fun _ _ => rfl) (hd : (x == ("__debug__" : Str)) = false := by decide) (hcd : (x == ("__classdict__" : Str)) = false := by decide) :
    DE b H0 X (.Subscript (.Name x p) ie pos) (gIxO i gi) :=
  ⟨pe_imp (pe_ix ix_seq (pe_var hN hv hd hcd) A.pe hs) fun σ H Q ⟨σd, O, R, q⟩ => by
    unfold gIxO at q
    cases hl : look σd i with
    | own ds =>
      rw [hl] at q
      have s := R.slot i
      rw [hl] at s
      obtain ⟨a, vs, e1, m, h1, _⟩ := s
      refine ⟨.ref a, getD_some e1, σd, O, R, A.mn _ _ _ (fun y hy v H2 x2 r2 => ?_) q⟩
      have R2 := R.mono x2
      have s := R2.slot i
      rw [hl, e1] at s
      obtain ⟨a', vs', e2, m', h2, rr⟩ := s
      cases e2
      cases y with
      | int n =>
        cases e : atI ds n with
        | none => simp only [e] at hy
        | some d =>
          simp only [e] at hy
          obtain ⟨w, hw, rw'⟩ := atI_reps rr e
          exact .inl ⟨a, vs', n, w, rfl, r2.int, .inl (.inl h2), hw, hy w H2 x2 rw'⟩
      | _ => exact hy.elim
    | _ => rw [hl] at q; exact q.elim, fun σ k k' h q => by
      unfold gIxO at q ⊢
      cases e : look σ i with
      | own ds =>
        rw [e] at q
        exact A.mn _ _ _ (fun y hy => by
          cases y with
          | int n =>
            cases e2 : atI ds n with
            | none => simp only [e2] at hy
            | some d => simp only [e2] at hy ⊢; exact h _ hy
          | _ => exact hy.elim) q
      | _ => rw [e] at q; exact q.elim⟩
theorem un64 {k : Nat} (hr : Room (k + 1) X.A) : X.A.units + 64 < cLine := by have := hr.un; omega
theorem de_sortG {k : Nat} (hr : Room (k + 1) X.A) (hg : Gl X "sorted") (hm : X.mg "sorted" = none) (A : DE b H0 X e ge) (he : starEach [e] X.env = (false, eval e X.env) :: starEach [] X.env := by rfl) : DE b H0 X (.Call (.Name "sorted" p) [e] [] pos) (g1 dSortG ge) :=
  de_callBS (cr_sortG (un64 hr)) cl_sortG hg hm rfl A (by decide) (by decide) he
end
/-! ### readings -/
section
variable {σ : StD} {ga gb gk gd ge gi : GE} {v : GSt} {D' : EndD} {i j : Nat} {d z w : D} {ds : List D} {kt : KeyT} {l : List (KeyT × D)}
abbrev otS (l : List (KeyT × D)) : SD := .ott (l.map (·.1)) (l.map (·.2))
theorem s_asgT0 {τ : StD} (p : Pt σ i (otS []) τ) (r : Stp (v D' τ)) : Stp (gSeq (gAsgT0 i) v D' σ) := ⟨by
  show v D' (put σ i (.ott [] []))
  rw [show put σ i (.ott [] []) = τ from p.eq]; exact r.run⟩
theorem s_tputL {τ : StD} (hl : look σ i = otS l) (A : Ev gk σ d) (hk : keyT d = some kt) (B : Ev gv σ z) (h : l.length < 100000) (p : Pt σ i (otS (putT l kt z)) τ) (r : Stp (D'.nx τ)) : Stp (gTPut i gk gv D' σ) := ⟨by
  unfold gTPut
  rw [hl]
  refine B _ (A _ ?_)
  rw [hk]
  refine ⟨by rw [List.length_map, List.length_map], by rw [List.length_map]; exact h, ?_⟩
  rw [zip_parts]
  rw [show put σ i (.ott ((putT l kt z).map (·.1)) ((putT l kt z).map (·.2))) = τ from p.eq]; exact r.run⟩
theorem ev_tget2 (hl : look σ i = otS l) (A : Ev gk σ d) (hk : keyT d = some kt) (B : Ev gd σ z) : Ev (gTGet i gk gd) σ ((valT l kt).getD z) := .mk fun k q => by
  unfold gTGet
  rw [hl]
  refine A _ ?_
  rw [hk]
  refine B _ ⟨by rw [List.length_map, List.length_map], ?_⟩
  rw [zip_parts]; exact q
theorem ev_tix (hl : look σ i = otS l) (A : Ev gk σ d) (hk : keyT d = some kt) (h : valT l kt = some w) : Ev (gTIx i gk) σ w := .mk fun k q => by
  unfold gTIx
  rw [hl]
  refine A _ ?_
  rw [hk]
  refine ⟨by rw [List.length_map, List.length_map], w, ?_, q⟩
  rw [zip_parts]; exact h
theorem ev_tlist (hl : look σ i = otS l) : Ev (gTList i) σ (.lst (l.map fun p => .tup (p.1.map kD))) := .mk fun k q => by
  unfold gTList
  rw [hl]
  refine ⟨by rw [List.length_map, List.length_map], ?_⟩
  rw [List.map_map]; exact q
theorem ev_tupF (A : Ev ga σ (.lst ds)) : Ev (g1 dTupF ga) σ (.tup ds) := .mk fun k q => A _ q
theorem keysT_ints : ∀ l : List Int, keysT (l.map D.int) = some (l.map Sum.inl)
  | [] => rfl
  | x :: r => by
    show (match keyD (.int x), keysT (r.map D.int) with | some k, some l => some (k :: l) | _, _ => none) = _
    rw [keysT_ints r]; rfl
theorem s_setIxL {τ : StD} {n : Int} (hl : look σ i = .own ds) (A : Ev gi σ (.int n)) (B : Ev ge σ z) (h : ixN ds.length n = some j) (p : Pt σ i (.own (ds.set j z)) τ) (r : Stp (D'.nx τ)) : Stp (gSetIx i gi ge D' σ) := ⟨by
  unfold gSetIx
  rw [hl]
  refine B _ (A _ ⟨j, h, ?_⟩)
  rw [show put σ i (.own (ds.set j z)) = τ from p.eq]; exact r.run⟩
theorem ev_ixO {n : Int} (hl : look σ i = .own ds) (A : Ev gi σ (.int n)) (h : atI ds n = some d) : Ev (gIxO i gi) σ d := .mk fun k q => by
  unfold gIxO
  rw [hl]
  refine A _ ?_
  simp only [h]
  exact q
theorem alike_ints : ∀ {a c : List Int}, a.length = c.length → PySem.W.alikeAll (a.map PyData.int) (c.map PyData.int) = true
  | [], [], _ => rfl
  | x :: r, y :: s, h => by
    show (PySem.W.alike (.int x) (.int y) && PySem.W.alikeAll (r.map PyData.int) (s.map PyData.int)) = true
    rw [alike_ints (by simpa using h)]; rfl
  | [], _ :: _, h => by simp at h
  | _ :: _, [], h => by simp at h
theorem o_sortC {α : Type} [BEq α] {f : α → D} {g : α → PyData} {n : Nat} (c : Cod f g n) {l : List α} {le : α → α → Bool} (hn : n ≤ 60) (hl : l.length ≤ 100000) (al : ∀ x ∈ l, ∀ y ∈ l, PySem.W.alike (g x) (g y) = true) (st : PySem.W.Sortable (l.map g)) (hle : ∀ x ∈ l, ∀ y ∈ l, PySem.W.dataLe false (fun p : PyData => p) (g x) (g y) = le x y) : O1 dSortG (.lst (l.map f)) (.lst ((l.mergeSort le).map f)) := .mk fun k q => by
  unfold dSortG
  simp only [c.pys l]
  refine ⟨?_, st, ?_, by rw [List.length_map]; exact hl, ?_⟩
  · intro d hd d' hd'
    obtain ⟨x, hx, rfl⟩ := List.mem_map.mp hd
    obtain ⟨y, hy, rfl⟩ := List.mem_map.mp hd'
    exact al x hx y hy
  · intro d hd
    obtain ⟨x, hx, rfl⟩ := List.mem_map.mp hd
    exact Nat.le_trans (c.dep x) hn
  · have e : (l.map f).zip (l.map g) = l.map fun x => (f x, g x) := by rw [List.zip_map']
    rw [e]
    have e2 : srtP (l.map fun x => (f x, g x)) = (l.mergeSort le).map fun x => (f x, g x) := by
      unfold srtP
      rw [← List.map_mergeSort (r := le)]
      intro a ha b hb
      rw [← hle a ha b hb]
      simp only [PySem.W.dataLe_eq]
    rw [e2, List.map_map]
    exact q
theorem le_rows (a c : List Int) : PySem.W.dataLe false (fun p : PyData => p) (.list (a.map .int)) (.list (c.map .int)) = decide (a ≤ c) := by
  have := congrFun (congrFun (PySem.W.dataLe_rows (fun b : List Int => b)) a) c
  rw [← this]
  simp only [PySem.W.dataLe_eq]
theorem le_tups (a c : List Int) : PySem.W.dataLe false (fun p : PyData => p) (.tuple (a.map .int)) (.tuple (c.map .int)) = decide (a ≤ c) := by
  rw [← le_rows]
  simp only [PySem.W.dataLe_eq, PySem.W.dataLt_tuple, PySem.W.dataLt_list]
end
end DL
/-! DR21 -/
set_option Elab.async false
set_option linter.all false
set_option maxRecDepth 100000
set_option maxHeartbeats 4000000
/-! x, y = [], [] where a comprehension reads them later; lists shown ahead of a statement in a def that hands back a new list. -/
namespace DL
open PySem PySem.Spec PyProof.Rows L2
variable [TabC]
section
variable {X : Cx} {b : Option Addr} {H0 : Hp} {a c e : Expr} {ga gb ge : GE} {pos : Pos} {i j : Nat} {sts : List Stmt} {g : GSt}
theorem ds_tgtFF {i j : Nat} {t1 t2 : Expr} {pt pt2 : Pos} {kt k2 : Nat} (hc : X.calm = true) (G1 : PG X t1 (L2.gName i)) (G2 : PG X t2 (L2.gName j)) (A : DF b H0 X a ga) (B : DF b H0 X c gb)
    (hs : swapsWithSole [.Tuple [t1, t2] kt pt] (.Tuple [a, c] k2 pt2) pos.line X.env = pure false := by rfl) (hw : swappedStores [.Tuple [t1, t2] kt pt] (.Tuple [a, c] k2 pt2) X.env = pure none := by rfl)
    (h1 : (assignEach [.Tuple [t1, t2] kt pt] X.env).map (·.2) = [assign (.Tuple [t1, t2] kt pt) X.env] := by rfl)
    (hn : (assignEach [t1, t2] X.env).length = 2 := by rfl) (hst : (assignEach [t1, t2] X.env).findIdx? (·.1) = none := by rfl)
    (g1 : (assignEach [t1, t2] X.env).map (·.2) = assign t1 X.env :: (assignEach [t2] X.env).map (·.2) := by rfl) (g2 : (assignEach [t2] X.env).map (·.2) = assign t2 X.env :: (assignEach [] X.env).map (·.2) := by rfl)
    (hs1 : starEach [a, c] X.env = (false, eval a X.env) :: starEach [c] X.env := by rfl) (hs2 : starEach [c] X.env = (false, eval c X.env) :: starEach [] X.env := by rfl) :
    DS b H0 X (.Assign [.Tuple [t1, t2] kt pt] (.Tuple [a, c] k2 pt2) pos) (gParF i j ga gb) := by
  refine ⟨ps_imp (ps_asg (pe_tup (pa_cons A.pe (pa_cons B.pe pa_nil hs2) hs1)) (pg_tup (k := kt) hc (pgs_cons G1 (pgs_cons G2 pgs_nil g2) g1) hn hst) hs hw h1) fun D σ H ⟨σd, O, R, q⟩ => ?_, fun D D' σ h1 h2 h3 h4 q => A.mn _ _ _ (fun x z => by
    cases x <;> first | exact z.elim | exact B.mn _ _ _ (fun y z => by cases y <;> first | exact z.elim | exact h1 _ z) z) q⟩
  refine ⟨σd, O, R, A.mn _ _ _ (fun d z => ?_) q⟩
  cases d with
  | lst ds =>
    intro p vs H1 hb hf x hp r
    have R1 := R.hideP hb hf x hp
    have m1 := R.fre hf
    refine ⟨σd, p :: O, R1, B.mn _ _ _ (fun d z => ?_) z⟩
    cases d with
    | lst es =>
      intro p2 ws H2 hb2 hf2 x2 hp2 r2
      have R2 := R1.hideP hb2 hf2 x2 hp2
      have m2 := R1.fre hf2
      have ne : p2 ≠ p := fun z => m2 (z ▸ List.mem_cons_self)
      have hp' : H2 p = some (.lst vs) := x2.1 _ _ hb hp rfl
      have T1 := R2.takeP i (ds := ds) (fun k => R.noOwn m1 k) (List.mem_cons_of_mem _ List.mem_cons_self) hp' (r.mono (R1.hideX hb2 hf2 x2 hp2).1)
      have T2 := T1.takeP j (ds := es) (fun k z => by
        rw [look_put2, getD_set] at z
        by_cases h : k = i ∧ i < σd.length
        · have h2 : k = i ∧ i < σ.length := by rw [← R.len]; exact h
          rw [if_pos h, if_pos h2] at z
          exact ne z
        · have h2 : ¬ (k = i ∧ i < σ.length) := by rw [← R.len]; exact h
          rw [if_neg h, if_neg h2] at z
          exact R1.noOwn m2 k z) List.mem_cons_self hp2 r2
      refine ⟨by show 2 ≤ sizeLine; decide, fun T hT => ⟨T, _, rfl, .inl (.inl upd_same), rfl, .ref p, _, rfl, .ref p2, _, rfl, rfl, ?_⟩⟩
      have x4 : Ext b H2 (upd H2 T (.tup [.ref p, .ref p2])) := Ext.new hT
      exact z _ _ _ (T2.mono x4) (((R.hideX hb hf x hp).trans (R1.hideX hb2 hf2 x2 hp2)).trans (R2.hx x4))
    | _ => exact z.elim
  | _ => exact z.elim
/-- x, y = a new list, e -/
def gParFD (i j : Nat) (ga gb : GE) : GSt := fun D σ => ga σ fun x => match x with | .lst ds => gb σ fun y => D.nx (put (put σ i (.own ds)) j (.sh y)) | _ => False
theorem ds_parFD {i j : Nat} {x y : Str} {px py pt pt2 : Pos} {kt k2 : Nat} (hc : X.calm = true) (hN : X.N.Nodup) (hi : X.N[i]? = some x) (hj : X.N[j]? = some y) (hij : i ≠ j)
    (hx : X.env.scope.names.lookup x = some .local) (hy : X.env.scope.names.lookup y = some .local) (A : DF b H0 X a ga) (B : DE b H0 X c gb)
    (hw : swappedStores [.Tuple [.Name x px, .Name y py] kt pt] (.Tuple [a, c] k2 pt2) X.env = pure (some [x, y]))
    (hs : swapsWithSole [.Tuple [.Name x px, .Name y py] kt pt] (.Tuple [a, c] k2 pt2) pos.line X.env = pure false := by rfl)
    (hs1 : starEach [a, c] X.env = (false, eval a X.env) :: starEach [c] X.env := by rfl) (hs2 : starEach [c] X.env = (false, eval c X.env) :: starEach [] X.env := by rfl) :
    DS b H0 X (.Assign [.Tuple [.Name x px, .Name y py] kt pt] (.Tuple [a, c] k2 pt2) pos) (gParFD i j ga gb) := by
  refine ⟨ps_imp (ps_par hc hN hi hj hij hx hy (pa_cons A.pe (pa_cons B.pe pa_nil hs2) hs1) hw hs) fun D σ H ⟨σd, O, R, q⟩ => ?_, fun D D' σ h1 h2 h3 h4 q => A.mn _ _ _ (fun x z => by
    cases x <;> first | exact z.elim | exact B.mn _ _ _ (fun y z => h1 _ z) z) q⟩
  refine ⟨σd, O, R, A.mn _ _ _ (fun d zz => ?_) q⟩
  cases d with
  | lst ds =>
    intro p vs H1 hb hf x1 hp r
    have R1 := R.hideP hb hf x1 hp
    have m1 := R.fre hf
    refine ⟨σd, p :: O, R1, B.mn _ _ _ (fun d2 zz v H2 x2 rv => ?_) zz⟩
    have R2 := R1.mono x2
    have hp2 : H2 p = some (.lst vs) := x2.1 _ _ hb hp rfl
    have T1 := R2.takeP i (ds := ds) (fun k => R.noOwn m1 k) List.mem_cons_self hp2 (r.mono (R1.hx x2).1)
    have T2 := T1.set j rv
    exact ⟨.ref p, v, rfl, zz _ _ _ T2 ((R.hideX hb hf x1 hp).trans (R1.hx x2))⟩
  | _ => exact zz.elim
theorem s_parFD {σ : StD} {v : GSt} {D' : EndD} {d : D} {ds : List D} {τ τ2 : StD} (A : Ev ga σ (.lst ds)) (B : Ev gb σ d) (p1 : Pt σ i (.own ds) τ) (p2 : Pt τ j (.sh d) τ2) (r : Stp (v D' τ2)) : Stp (gSeq (gParFD i j ga gb) v D' σ) := ⟨A _ (B _ (by
  show v D' (put (put σ i (.own ds)) j (.sh d))
  rw [p1.eq, p2.eq]; exact r.run))⟩
theorem dssF_pub (i : Nat) (A : DSsF b H0 X sts g) : DSsF b H0 X sts (gPub i g) := ⟨⟨fun pins s σ H D I ⟨σd, O, R, q⟩ => by
  refine A.ps.run pins s σ H D I ?_
  unfold gPub pubD at q
  cases e : look σd i with
  | own ds =>
    rw [e] at q
    have hd : ∀ c C dx fs, H c = some (.ins C dx fs) → H dx = some (.own c) := fun c C dx fs z => by
      have := I.hok c _ z
      exact this.1
    obtain ⟨O', R', xx⟩ := R.pub hd e
    exact ⟨_, O', R', A.mn (dnF X.K b H0 (hide O H) D) _ _ (fun _ w _ _ _ R3 x3 => w _ _ _ R3 (xx.trans x3)) (fun d w => by
      cases d with
      | lst es => intro p ws H3 a1 a2 a3 a4 a5; exact w p ws H3 a1 a2 a3 a4 a5
      | _ => exact w) (fun _ w _ _ _ R3 x3 => w _ _ _ R3 (xx.trans x3)) (fun _ w _ _ _ R3 x3 => w _ _ _ R3 (xx.trans x3)) q⟩
  | _ => rw [e] at q; exact ⟨σd, O, R, q⟩⟩, gPub_mn A.mn⟩
end
end DL
/-! K16H -/
set_option Elab.async false
set_option linter.all false
set_option maxRecDepth 100000
set_option maxHeartbeats 0
namespace LK
open PySem PySem.Spec PyProof.Rows L2 DL
def top (i : Nat) : Stmt := PySem.Challenge.pw_anystride_k16_directions_of_lines.main.body.getD i (.Pass ⟨0, 0, 0, 0⟩)
def clsBody (s : Stmt) : List Stmt := match s with
  | .ClassDef (body := b) .. => b
  | _ => []
def mth (i j : Nat) : Stmt := (clsBody (top i)).getD j (.Pass ⟨0, 0, 0, 0⟩)
def dd__law_bag : He.DefD := ⟨("_law_bag", none), "_law_bag", "_law_bag", defArgs (top 37), defBody (top 37), defScope (top 37), [], []⟩
def dd__law_draw : He.DefD := ⟨("_law_draw", none), "_law_draw", "_law_draw", defArgs (top 38), defBody (top 38), defScope (top 38), [], []⟩
def dd__law_places : He.DefD := ⟨("_law_places", none), "_law_places", "_law_places", defArgs (top 47), defBody (top 47), defScope (top 47), [], []⟩
def dd__law_rows : He.DefD := ⟨("_law_rows", none), "_law_rows", "_law_rows", defArgs (top 49), defBody (top 49), defScope (top 49), [], []⟩
def dd__law_of : He.DefD := ⟨("_law_of", none), "_law_of", "_law_of", defArgs (top 39), defBody (top 39), defScope (top 39), [], []⟩
def dd__law_mixed : He.DefD := ⟨("_law_mixed", none), "_law_mixed", "_law_mixed", defArgs (top 40), defBody (top 40), defScope (top 40), [], []⟩
def dd_is_number : He.DefD := ⟨("is_number", none), "is_number", "is_number", defArgs (top 14), defBody (top 14), defScope (top 14), [], []⟩
def dd_InvalidNumber_init : He.DefD := ⟨("InvalidNumber", some "__init__"), "__init__", "InvalidNumber.__init__", defArgs (mth 4 0), defBody (mth 4 0), defScope (mth 4 0), [], []⟩
def dd_ZeroDivisor_init : He.DefD := ⟨("ZeroDivisor", some "__init__"), "__init__", "ZeroDivisor.__init__", defArgs (mth 10 0), defBody (mth 10 0), defScope (mth 10 0), [], []⟩
def dd_Ratio_init : He.DefD := ⟨("Ratio", some "__init__"), "__init__", "Ratio.__init__", defArgs (mth 17 0), defBody (mth 17 0), defScope (mth 17 0), [.int (1)], []⟩
def dd__law_over : He.DefD := ⟨("_law_over", none), "_law_over", "_law_over", defArgs (top 53), defBody (top 53), defScope (top 53), [], []⟩
def dd_Measure_init_Lines : He.DefD := ⟨("Measure", some "__init__"), "__init__", "Measure.__init__", defArgs (mth 29 1), defBody (mth 29 1), defScope (mth 29 1), [], []⟩
def dd_InvalidRows_init : He.DefD := ⟨("InvalidRows", some "__init__"), "__init__", "InvalidRows.__init__", defArgs (mth 6 0), defBody (mth 6 0), defScope (mth 6 0), [], []⟩
def dd_is_part : He.DefD := ⟨("is_part", none), "is_part", "is_part", defArgs (top 18), defBody (top 18), defScope (top 18), [], []⟩
def dd_TooMany_init : He.DefD := ⟨("TooMany", some "__init__"), "__init__", "TooMany.__init__", defArgs (mth 8 0), defBody (mth 8 0), defScope (mth 8 0), [.str "arrows"], []⟩
def dd_ratio_of : He.DefD := ⟨("ratio_of", none), "ratio_of", "ratio_of", defArgs (top 19), defBody (top 19), defScope (top 19), [], []⟩
def dd_made_rows : He.DefD := ⟨("made_rows", none), "made_rows", "made_rows", defArgs (top 28), defBody (top 28), defScope (top 28), [], []⟩
def dd_Lines_init : He.DefD := ⟨("Lines", some "__init__"), "__init__", "Lines.__init__", defArgs (mth 32 1), defBody (mth 32 1), defScope (mth 32 1), [], []⟩
def dd_Ratio_pair : He.DefD := ⟨("Ratio", some "pair"), "pair", "Ratio.pair", defArgs (mth 17 2), defBody (mth 17 2), defScope (mth 17 2), [], []⟩
def dd_Ratio_eq : He.DefD := ⟨("Ratio", some "__eq__"), "__eq__", "Ratio.__eq__", defArgs (mth 17 15), defBody (mth 17 15), defScope (mth 17 15), [], []⟩
def dd_common_bottom : He.DefD := ⟨("common_bottom", none), "common_bottom", "common_bottom", defArgs (top 20), defBody (top 20), defScope (top 20), [], []⟩
def dd_whole_row : He.DefD := ⟨("whole_row", none), "whole_row", "whole_row", defArgs (top 21), defBody (top 21), defScope (top 21), [], []⟩
def dd_lowered : He.DefD := ⟨("lowered", none), "lowered", "lowered", defArgs (top 23), defBody (top 23), defScope (top 23), [], []⟩
def dd_direction_of : He.DefD := ⟨("direction_of", none), "direction_of", "direction_of", defArgs (top 30), defBody (top 30), defScope (top 30), [], []⟩
def dd_Ratio_add : He.DefD := ⟨("Ratio", some "__add__"), "__add__", "Ratio.__add__", defArgs (mth 17 7), defBody (mth 17 7), defScope (mth 17 7), [], []⟩
def dd_Ratio_mul : He.DefD := ⟨("Ratio", some "__mul__"), "__mul__", "Ratio.__mul__", defArgs (mth 17 11), defBody (mth 17 11), defScope (mth 17 11), [], []⟩
def dd_directions_of : He.DefD := ⟨("directions_of", none), "directions_of", "directions_of", defArgs (top 31), defBody (top 31), defScope (top 31), [], []⟩
def dd_Lines_directions : He.DefD := ⟨("Lines", some "directions"), "directions", "Lines.directions", defArgs (mth 32 3), defBody (mth 32 3), defScope (mth 32 3), [], []⟩
def dd__law_gcd : He.DefD := ⟨("_law_gcd", none), "_law_gcd", "_law_gcd", defArgs (top 42), defBody (top 42), defScope (top 42), [], []⟩
def dd__law_plain : He.DefD := ⟨("_law_plain", none), "_law_plain", "_law_plain", defArgs (top 50), defBody (top 50), defScope (top 50), [], []⟩
def dd__law_directions : He.DefD := ⟨("_law_directions", none), "_law_directions", "_law_directions", defArgs (top 51), defBody (top 51), defScope (top 51), [], []⟩
def dd__law_low : He.DefD := ⟨("_law_low", none), "_law_low", "_law_low", defArgs (top 43), defBody (top 43), defScope (top 43), [], []⟩
def dd__law_part : He.DefD := ⟨("_law_part", none), "_law_part", "_law_part", defArgs (top 44), defBody (top 44), defScope (top 44), [], []⟩
def dd__law_pairs : He.DefD := ⟨("_law_pairs", none), "_law_pairs", "_law_pairs", defArgs (top 52), defBody (top 52), defScope (top 52), [], []⟩
def dd__law_same : He.DefD := ⟨("_law_same", none), "_law_same", "_law_same", defArgs (top 41), defBody (top 41), defScope (top 41), [], []⟩
def dd__law_dot : He.DefD := ⟨("_law_dot", none), "_law_dot", "_law_dot", defArgs (top 45), defBody (top 45), defScope (top 45), [], []⟩
def dd__law_lines_length : He.DefD := ⟨("_law_lines_length", none), "_law_lines_length", "_law_lines_length", defArgs (top 46), defBody (top 46), defScope (top 46), [], []⟩
def dd_InvalidPlaces_init : He.DefD := ⟨("InvalidPlaces", some "__init__"), "__init__", "InvalidPlaces.__init__", defArgs (mth 5 0), defBody (mth 5 0), defScope (mth 5 0), [], []⟩
def dd_Arrow_init : He.DefD := ⟨("Arrow", some "__init__"), "__init__", "Arrow.__init__", defArgs (mth 35 1), defBody (mth 35 1), defScope (mth 35 1), [], []⟩
def dd__law_arrow : He.DefD := ⟨("_law_arrow", none), "_law_arrow", "_law_arrow", defArgs (top 48), defBody (top 48), defScope (top 48), [], []⟩
def dd_Ratio_radd : He.DefD := ⟨("Ratio", some "__radd__"), "__radd__", "Ratio.__radd__", defArgs (mth 17 8), defBody (mth 17 8), defScope (mth 17 8), [], []⟩
def dd_Mismatch_init : He.DefD := ⟨("Mismatch", some "__init__"), "__init__", "Mismatch.__init__", defArgs (mth 9 0), defBody (mth 9 0), defScope (mth 9 0), [], []⟩
def dd_Arrow_places : He.DefD := ⟨("Arrow", some "places"), "places", "Arrow.places", defArgs (mth 35 5), defBody (mth 35 5), defScope (mth 35 5), [], []⟩
def dd_dot : He.DefD := ⟨("dot", none), "dot", "dot", defArgs (top 24), defBody (top 24), defScope (top 24), [], []⟩
def dd_Measure_products_Lines : He.DefD := ⟨("Measure", some "products"), "products", "Measure.products", defArgs (mth 29 3), defBody (mth 29 3), defScope (mth 29 3), [], []⟩
def dd_Ratio_abs : He.DefD := ⟨("Ratio", some "__abs__"), "__abs__", "Ratio.__abs__", defArgs (mth 17 14), defBody (mth 17 14), defScope (mth 17 14), [], []⟩
def dd_Lines_length : He.DefD := ⟨("Lines", some "length"), "length", "Lines.length", defArgs (mth 32 2), defBody (mth 32 2), defScope (mth 32 2), [], []⟩
def dd_law : He.DefD := ⟨("law", none), "law", "law", defArgs (top 54), defBody (top 54), defScope (top 54), [], []⟩
def fs : List He5.DefA := []
def fn : List He.DefD := [dd__law_bag, dd__law_draw, dd__law_places, dd__law_rows, dd__law_of, dd__law_mixed, dd_is_number, dd_InvalidNumber_init, dd_ZeroDivisor_init, dd_Ratio_init, dd__law_over, dd_Measure_init_Lines, dd_InvalidRows_init, dd_is_part, dd_TooMany_init, dd_ratio_of, dd_made_rows, dd_Ratio_pair, dd_Ratio_eq, dd_common_bottom, dd_whole_row, dd_lowered, dd_direction_of, dd_Ratio_add, dd_Ratio_mul, dd_directions_of, dd_Lines_directions, dd__law_gcd, dd__law_plain, dd__law_directions, dd__law_low, dd__law_part, dd__law_pairs, dd__law_same, dd__law_dot, dd__law_lines_length, dd_InvalidPlaces_init, dd_Arrow_init, dd__law_arrow, dd_Ratio_radd, dd_Mismatch_init, dd_Arrow_places, dd_dot, dd_Measure_products_Lines, dd_Ratio_abs, dd_Lines_length, dd_law]
def fa : List He.Fa := [.glo "_law_bag",
  .glo "_law_draw",
  .glo "_law_places",
  .glo "_law_rows",
  .glo "_law_of",
  .glo "_law_mixed",
  .glo "is_number",
  .glo "_law_over",
  .glo "is_part",
  .glo "ratio_of",
  .glo "made_rows",
  .glo "common_bottom",
  .glo "whole_row",
  .glo "lowered",
  .glo "direction_of",
  .glo "directions_of",
  .glo "_law_gcd",
  .glo "_law_plain",
  .glo "_law_directions",
  .glo "_law_low",
  .glo "_law_part",
  .glo "_law_pairs",
  .glo "_law_same",
  .glo "_law_dot",
  .glo "_law_lines_length",
  .glo "_law_arrow",
  .glo "dot",
  .glo "law",
  .glo "InvalidNumber",
  .glo "StrideError",
  .glo "ZeroDivisor",
  .glo "Ratio",
  .glo "Lines",
  .glo "InvalidRows",
  .glo "TooMany",
  .glo "InvalidPlaces",
  .glo "Arrow",
  .glo "Mismatch",
  .free "int",
  .free "len",
  .free "range",
  .free "zip",
  .free "list",
  .free "isinstance",
  .free "bool",
  .free "super",
  .free "tuple",
  .free "enumerate",
  .free "all",
  .free "any",
  .free "abs",
  .free "sorted",
  .free "str",
  .free "dict",
  .free "sum",
  .int "MOST_PLACES_measures" (4),
  .int "MOST_ROWS" (100),
  .cls "Ratio",
  .cls "Lines",
  .cls "Arrow",
  .mkr "Ratio",
  .mkr "Lines",
  .mkr "Arrow",
  .noat "Ratio" "top",
  .noat "Ratio" "bottom",
  .noat "Lines" "size",
  .noat "Lines" "own_rows",
  .noat "Arrow" "own_places",
  .noat "Arrow" "size",
  .meth "Ratio" "pair",
  .meth "Lines" "directions",
  .meth "Arrow" "places",
  .meth "Lines" "length"]
def tf : List He.Defn := []
abbrev CLS : List Str := ["Ratio", "Lines", "Arrow"]
def subC (c C : Str) : Bool := decide (c = C)
def exs (K : Fg) : List Bool := [clsB K CLS subC,
  baseB K .ve (He.ga K "StrideError"),
  errB K .ve "InvalidNumber" ["given"],
  errB K .ve "ZeroDivisor" [],
  errB K .ve "InvalidRows" ["at"],
  errB K .ve "TooMany" ["most", "subject"],
  errB K .ve "InvalidPlaces" ["at"],
  errB K .ve "Mismatch" [],
  bltB K "gcd" "math.gcd",
  supB K (He.ga K "Lines") (He.ga K "Lines") (He.ma K (He.ga K "Measure") "__init__") "__init__",
  ownB1 K (He.ga K "Ratio") "__eq__" (He.ma K (He.ga K "Ratio") "__eq__"),
  nfB K (He.ga K "Ratio"),
  ownNeB K (He.ga K "Ratio"),
  ownB2 K (He.ga K "Ratio") .Add (He.ma K (He.ga K "Ratio") "__add__"),
  ownB2 K (He.ga K "Ratio") .Mult (He.ma K (He.ga K "Ratio") "__mul__"),
  cintB K "Arrow" "MOST" (4),
  ownRB K (He.ga K "Ratio") .Add (He.ma K (He.ga K "Ratio") "__radd__"),
  methB K (He.ga K "Lines") "products" (He.ma K (He.ga K "Measure") "products"),
  ownB1 K (He.ga K "Ratio") "__abs__" (He.ma K (He.ga K "Ratio") "__abs__")]
def exB (K : Fg) : Bool := (exs K).all id
abbrev R : PySem.W.OpenRow := PySem.W.OpenLaw.row PySem.Challenge.rw_anystride_k16_directions_of_lines
def AS : List Addr := [2, 3, 6, 4, 49, 59, 79, 98, 117, 136, 156, 175, 194, 203, 208, 215, 360, 371, 378, 385, 390, 395, 400, 405, 455, 464, 469, 526, 645, 654, 661, 668, 675, 680, 687, 694, 701, 706, 711, 716, 723, 728, 733, 738, 743, 748, 753, 0, 48, 58, 78, 97, 116, 135, 155, 174, 193, 202, 207, 214, 359, 370, 377, 384, 389, 394, 399, 404, 454, 463, 468, 525, 644, 653, 660, 667, 674, 679, 686, 693, 700, 705, 710, 715, 722, 727, 732, 737, 742, 747, 752, 43, 44, 45, 46, 47, 57, 60, 76, 77, 95, 96, 114, 115, 133, 134, 153, 154, 172, 173, 191, 192, 197, 198, 199, 200, 201, 204, 205, 206, 209, 210, 211, 212, 213, 230, 237, 245, 252, 259, 266, 273, 280, 287, 294, 301, 308, 315, 322, 329, 336, 343, 350, 357, 358, 361, 362, 365, 366, 367, 368, 369, 372, 373, 374, 375, 376, 379, 380, 381, 382, 383, 386, 387, 388, 391, 392, 393, 396, 397, 398, 401, 402, 403, 419, 426, 431, 438, 445, 452, 453, 456, 457, 460, 461, 462, 465, 466, 467, 485, 490, 497, 504, 511, 516, 523, 524, 542, 551, 559, 566, 573, 578, 585, 590, 597, 602, 609, 614, 621, 628, 635, 642, 643, 646, 647, 650, 651, 652, 655, 656, 657, 658, 659, 662, 663, 664, 665, 666, 669, 670, 671, 672, 673, 676, 677, 678, 681, 682, 683, 684, 685, 688, 689, 690, 691, 692, 695, 696, 697, 698, 699, 702, 703, 704, 707, 708, 709, 712, 713, 714, 717, 718, 719, 720, 721, 724, 725, 726, 729, 730, 731, 734, 735, 736, 739, 740, 741, 744, 745, 746, 749, 750, 751, 75, 94, 113, 132, 152, 146, 171, 190, 229, 223, 235, 236, 244, 251, 258, 265, 272, 279, 286, 293, 300, 307, 314, 321, 328, 335, 342, 349, 356, 418, 425, 430, 437, 444, 451, 484, 473, 489, 496, 503, 510, 515, 522, 541, 549, 550, 557, 558, 565, 572, 577, 584, 589, 596, 601, 608, 613, 620, 627, 634, 641, 70, 71, 72, 73, 74, 89, 90, 91, 92, 93, 108, 109, 110, 111, 112, 127, 128, 129, 130, 131, 147, 148, 149, 150, 151, 166, 167, 168, 169, 170, 185, 186, 187, 188, 189, 224, 225, 226, 227, 228, 234, 238, 239, 240, 241, 242, 243, 246, 247, 248, 249, 250, 253, 254, 255, 256, 257, 260, 261, 262, 263, 264, 267, 268, 269, 270, 271, 274, 275, 276, 277, 278, 281, 282, 283, 284, 285, 288, 289, 290, 291, 292, 295, 296, 297, 298, 299, 302, 303, 304, 305, 306, 309, 310, 311, 312, 313, 316, 317, 318, 319, 320, 323, 324, 325, 326, 327, 330, 331, 332, 333, 334, 337, 338, 339, 340, 341, 344, 345, 346, 347, 348, 351, 352, 353, 354, 355, 413, 414, 415, 416, 417, 420, 421, 422, 423, 424, 427, 428, 429, 432, 433, 434, 435, 436, 439, 440, 441, 442, 443, 446, 447, 448, 449, 450, 479, 480, 481, 482, 483, 486, 487, 488, 491, 492, 493, 494, 495, 498, 499, 500, 501, 502, 505, 506, 507, 508, 509, 512, 513, 514, 517, 518, 519, 520, 521, 536, 537, 538, 539, 540, 548, 552, 556, 560, 564, 567, 568, 569, 570, 571, 574, 575, 576, 579, 580, 581, 582, 583, 586, 587, 588, 591, 592, 593, 594, 595, 598, 599, 600, 603, 604, 605, 606, 607, 610, 611, 612, 615, 616, 617, 618, 619, 622, 623, 624, 625, 626, 629, 630, 631, 632, 633, 636, 637, 638, 639, 640]
def ss : List (He.DefD × Str) := [(dd_Lines_init, "Lines")]
abbrev hk : PySem.W.Hook := He.hookR AS fa fn fs ss [] tf exB
def ob (s : PySem.W.SharedT) : (He.AlX × He.AlD) × He.AlS := He.obsR AS fa fn fs ss [] tf exB (HandSHeadRun.getT s)
theorem ob_eq (s : PySem.W.SharedT) : ob s = hk.obs s.abs := He.obsR_eq (HandSHeadRun.getT_eq s)
def names0 : List PySem.Str := ["_wall", "StrideError", "InvalidNumber", "InvalidPlaces", "InvalidRows", "InvalidText", "TooMany", "Mismatch", "ZeroDivisor", "FIGURES", "MOST_FIGURES", "is_number", "is_figures", "whole_of", "Ratio", "is_part", "ratio_of", "common_bottom", "whole_row", "lowered", "dot", "MOST_PLACES_measures", "MOST_ROWS", "made_rows", "Measure", "direction_of", "directions_of", "Lines", "MOST_PLACES_arrows", "Arrow"]
def names1 : List PySem.Str := ["_law_bag", "_law_draw", "_law_of", "_law_mixed", "_law_same", "_law_gcd", "_law_low", "_law_part", "_law_dot", "_law_lines_length", "_law_places", "_law_arrow", "_law_rows", "_law_plain", "_law_directions", "_law_pairs", "_law_over"]
def names : List PySem.Str := names0 ++ names1
theorem run (w : World) : HandSHeadRun.RunEqI R (PySem.W.view R.prog [0, 54]) hk ob 20000 names w := by
  unfold HandSHeadRun.RunEqI
  kernel_rfl
@[irreducible] def P : Program := PySem.Challenge.rw_anystride_k16_directions_of_lines.prog
theorem P_eq : P = PySem.Challenge.rw_anystride_k16_directions_of_lines.prog := by unfold P; rfl
instance supP : DL.SupP P := ⟨by kernel_rfl, by kernel_rfl⟩
end LK
/-! K16F -/
set_option Elab.async false
set_option linter.all false
set_option maxRecDepth 100000
set_option maxHeartbeats 4000000
namespace LK
open PySem PySem.Spec PyProof.Rows L2 DL
variable [TabC]
structure Facts (K : Fg) (mg : Str → Option Value) : Prop where
  g__law_bag : mg "_law_bag" = some (.ref (He.ga K "_law_bag"))
  g__law_draw : mg "_law_draw" = some (.ref (He.ga K "_law_draw"))
  g__law_places : mg "_law_places" = some (.ref (He.ga K "_law_places"))
  g__law_rows : mg "_law_rows" = some (.ref (He.ga K "_law_rows"))
  g__law_of : mg "_law_of" = some (.ref (He.ga K "_law_of"))
  g__law_mixed : mg "_law_mixed" = some (.ref (He.ga K "_law_mixed"))
  g_is_number : mg "is_number" = some (.ref (He.ga K "is_number"))
  g__law_over : mg "_law_over" = some (.ref (He.ga K "_law_over"))
  g_is_part : mg "is_part" = some (.ref (He.ga K "is_part"))
  g_ratio_of : mg "ratio_of" = some (.ref (He.ga K "ratio_of"))
  g_made_rows : mg "made_rows" = some (.ref (He.ga K "made_rows"))
  g_common_bottom : mg "common_bottom" = some (.ref (He.ga K "common_bottom"))
  g_whole_row : mg "whole_row" = some (.ref (He.ga K "whole_row"))
  g_lowered : mg "lowered" = some (.ref (He.ga K "lowered"))
  g_direction_of : mg "direction_of" = some (.ref (He.ga K "direction_of"))
  g_directions_of : mg "directions_of" = some (.ref (He.ga K "directions_of"))
  g__law_gcd : mg "_law_gcd" = some (.ref (He.ga K "_law_gcd"))
  g__law_plain : mg "_law_plain" = some (.ref (He.ga K "_law_plain"))
  g__law_directions : mg "_law_directions" = some (.ref (He.ga K "_law_directions"))
  g__law_low : mg "_law_low" = some (.ref (He.ga K "_law_low"))
  g__law_part : mg "_law_part" = some (.ref (He.ga K "_law_part"))
  g__law_pairs : mg "_law_pairs" = some (.ref (He.ga K "_law_pairs"))
  g__law_same : mg "_law_same" = some (.ref (He.ga K "_law_same"))
  g__law_dot : mg "_law_dot" = some (.ref (He.ga K "_law_dot"))
  g__law_lines_length : mg "_law_lines_length" = some (.ref (He.ga K "_law_lines_length"))
  g__law_arrow : mg "_law_arrow" = some (.ref (He.ga K "_law_arrow"))
  g_dot : mg "dot" = some (.ref (He.ga K "dot"))
  g_law : mg "law" = some (.ref (He.ga K "law"))
  g_InvalidNumber : mg "InvalidNumber" = some (.ref (He.ga K "InvalidNumber"))
  g_StrideError : mg "StrideError" = some (.ref (He.ga K "StrideError"))
  g_ZeroDivisor : mg "ZeroDivisor" = some (.ref (He.ga K "ZeroDivisor"))
  g_Ratio : mg "Ratio" = some (.ref (He.ga K "Ratio"))
  g_Lines : mg "Lines" = some (.ref (He.ga K "Lines"))
  g_InvalidRows : mg "InvalidRows" = some (.ref (He.ga K "InvalidRows"))
  g_TooMany : mg "TooMany" = some (.ref (He.ga K "TooMany"))
  g_InvalidPlaces : mg "InvalidPlaces" = some (.ref (He.ga K "InvalidPlaces"))
  g_Arrow : mg "Arrow" = some (.ref (He.ga K "Arrow"))
  g_Mismatch : mg "Mismatch" = some (.ref (He.ga K "Mismatch"))
  n_int : mg "int" = none
  n_len : mg "len" = none
  n_range : mg "range" = none
  n_zip : mg "zip" = none
  n_list : mg "list" = none
  n_isinstance : mg "isinstance" = none
  n_bool : mg "bool" = none
  n_super : mg "super" = none
  n_tuple : mg "tuple" = none
  n_enumerate : mg "enumerate" = none
  n_all : mg "all" = none
  n_any : mg "any" = none
  n_abs : mg "abs" = none
  n_sorted : mg "sorted" = none
  n_str : mg "str" = none
  n_dict : mg "dict" = none
  n_sum : mg "sum" = none
  c_MOST_PLACES_measures : ∃ t, mg "MOST_PLACES_measures" = some (.int (4) t)
  c_MOST_ROWS : ∃ t, mg "MOST_ROWS" = some (.int (100) t)
  c_Ratio : Cls K (He.ga K "Ratio")
  c_Lines : Cls K (He.ga K "Lines")
  c_Arrow : Cls K (He.ga K "Arrow")
  k_Ratio : Mk K (He.ga K "Ratio") (He.ma K (He.ga K "Ratio") "__init__")
  k_Lines : Mk K (He.ga K "Lines") (He.ma K (He.ga K "Lines") "__init__")
  k_Arrow : Mk K (He.ga K "Arrow") (He.ma K (He.ga K "Arrow") "__init__")
  a_Ratio_top : NoAttr K (He.ga K "Ratio") "top"
  a_Ratio_bottom : NoAttr K (He.ga K "Ratio") "bottom"
  a_Lines_size : NoAttr K (He.ga K "Lines") "size"
  a_Lines_own_rows : NoAttr K (He.ga K "Lines") "own_rows"
  a_Arrow_own_places : NoAttr K (He.ga K "Arrow") "own_places"
  a_Arrow_size : NoAttr K (He.ga K "Arrow") "size"
  m_Ratio_pair : Meth K (He.ga K "Ratio") "pair" (He.ma K (He.ga K "Ratio") "pair")
  m_Lines_directions : Meth K (He.ga K "Lines") "directions" (He.ma K (He.ga K "Lines") "directions")
  m_Arrow_places : Meth K (He.ga K "Arrow") "places" (He.ma K (He.ga K "Arrow") "places")
  m_Lines_length : Meth K (He.ga K "Lines") "length" (He.ma K (He.ga K "Lines") "length")
  d__law_bag : FunD K "_law_bag" "_law_bag" (defArgs (top 37)) (defBody (top 37)) (defScope (top 37)) [] [] (He.ga K "_law_bag") (fdOf K (He.ga K "_law_bag"))
  d__law_draw : FunD K "_law_draw" "_law_draw" (defArgs (top 38)) (defBody (top 38)) (defScope (top 38)) [] [] (He.ga K "_law_draw") (fdOf K (He.ga K "_law_draw"))
  d__law_places : FunD K "_law_places" "_law_places" (defArgs (top 47)) (defBody (top 47)) (defScope (top 47)) [] [] (He.ga K "_law_places") (fdOf K (He.ga K "_law_places"))
  d__law_rows : FunD K "_law_rows" "_law_rows" (defArgs (top 49)) (defBody (top 49)) (defScope (top 49)) [] [] (He.ga K "_law_rows") (fdOf K (He.ga K "_law_rows"))
  d__law_of : FunD K "_law_of" "_law_of" (defArgs (top 39)) (defBody (top 39)) (defScope (top 39)) [] [] (He.ga K "_law_of") (fdOf K (He.ga K "_law_of"))
  d__law_mixed : FunD K "_law_mixed" "_law_mixed" (defArgs (top 40)) (defBody (top 40)) (defScope (top 40)) [] [] (He.ga K "_law_mixed") (fdOf K (He.ga K "_law_mixed"))
  d_is_number : FunD K "is_number" "is_number" (defArgs (top 14)) (defBody (top 14)) (defScope (top 14)) [] [] (He.ga K "is_number") (fdOf K (He.ga K "is_number"))
  d_InvalidNumber_init : FunD K "__init__" "InvalidNumber.__init__" (defArgs (mth 4 0)) (defBody (mth 4 0)) (defScope (mth 4 0)) [] [] (He.ma K (He.ga K "InvalidNumber") "__init__") (fdOf K (He.ma K (He.ga K "InvalidNumber") "__init__"))
  d_ZeroDivisor_init : FunD K "__init__" "ZeroDivisor.__init__" (defArgs (mth 10 0)) (defBody (mth 10 0)) (defScope (mth 10 0)) [] [] (He.ma K (He.ga K "ZeroDivisor") "__init__") (fdOf K (He.ma K (He.ga K "ZeroDivisor") "__init__"))
  d_Ratio_init : FunD K "__init__" "Ratio.__init__" (defArgs (mth 17 0)) (defBody (mth 17 0)) (defScope (mth 17 0)) [.int (1)] [] (He.ma K (He.ga K "Ratio") "__init__") (fdOf K (He.ma K (He.ga K "Ratio") "__init__"))
  d__law_over : FunD K "_law_over" "_law_over" (defArgs (top 53)) (defBody (top 53)) (defScope (top 53)) [] [] (He.ga K "_law_over") (fdOf K (He.ga K "_law_over"))
  d_Measure_init_Lines : FunD K "__init__" "Measure.__init__" (defArgs (mth 29 1)) (defBody (mth 29 1)) (defScope (mth 29 1)) [] [] (He.ma K (He.ga K "Measure") "__init__") (fdOf K (He.ma K (He.ga K "Measure") "__init__"))
  d_InvalidRows_init : FunD K "__init__" "InvalidRows.__init__" (defArgs (mth 6 0)) (defBody (mth 6 0)) (defScope (mth 6 0)) [] [] (He.ma K (He.ga K "InvalidRows") "__init__") (fdOf K (He.ma K (He.ga K "InvalidRows") "__init__"))
  d_is_part : FunD K "is_part" "is_part" (defArgs (top 18)) (defBody (top 18)) (defScope (top 18)) [] [] (He.ga K "is_part") (fdOf K (He.ga K "is_part"))
  d_TooMany_init : FunD K "__init__" "TooMany.__init__" (defArgs (mth 8 0)) (defBody (mth 8 0)) (defScope (mth 8 0)) [.str "arrows"] [] (He.ma K (He.ga K "TooMany") "__init__") (fdOf K (He.ma K (He.ga K "TooMany") "__init__"))
  d_ratio_of : FunD K "ratio_of" "ratio_of" (defArgs (top 19)) (defBody (top 19)) (defScope (top 19)) [] [] (He.ga K "ratio_of") (fdOf K (He.ga K "ratio_of"))
  d_made_rows : FunD K "made_rows" "made_rows" (defArgs (top 28)) (defBody (top 28)) (defScope (top 28)) [] [] (He.ga K "made_rows") (fdOf K (He.ga K "made_rows"))
  d_Lines_init : FunS K "__init__" "Lines.__init__" (defArgs (mth 32 1)) (defBody (mth 32 1)) (defScope (mth 32 1)) [] [] (He.ma K (He.ga K "Lines") "__init__") (fdOf K (He.ma K (He.ga K "Lines") "__init__")) (He.cdS K (He.ma K (He.ga K "Lines") "__init__")) (He.ccS K (He.ma K (He.ga K "Lines") "__init__")) (He.ga K "Lines")
  d_Ratio_pair : FunD K "pair" "Ratio.pair" (defArgs (mth 17 2)) (defBody (mth 17 2)) (defScope (mth 17 2)) [] [] (He.ma K (He.ga K "Ratio") "pair") (fdOf K (He.ma K (He.ga K "Ratio") "pair"))
  d_Ratio_eq : FunD K "__eq__" "Ratio.__eq__" (defArgs (mth 17 15)) (defBody (mth 17 15)) (defScope (mth 17 15)) [] [] (He.ma K (He.ga K "Ratio") "__eq__") (fdOf K (He.ma K (He.ga K "Ratio") "__eq__"))
  d_common_bottom : FunD K "common_bottom" "common_bottom" (defArgs (top 20)) (defBody (top 20)) (defScope (top 20)) [] [] (He.ga K "common_bottom") (fdOf K (He.ga K "common_bottom"))
  d_whole_row : FunD K "whole_row" "whole_row" (defArgs (top 21)) (defBody (top 21)) (defScope (top 21)) [] [] (He.ga K "whole_row") (fdOf K (He.ga K "whole_row"))
  d_lowered : FunD K "lowered" "lowered" (defArgs (top 23)) (defBody (top 23)) (defScope (top 23)) [] [] (He.ga K "lowered") (fdOf K (He.ga K "lowered"))
  d_direction_of : FunD K "direction_of" "direction_of" (defArgs (top 30)) (defBody (top 30)) (defScope (top 30)) [] [] (He.ga K "direction_of") (fdOf K (He.ga K "direction_of"))
  d_Ratio_add : FunD K "__add__" "Ratio.__add__" (defArgs (mth 17 7)) (defBody (mth 17 7)) (defScope (mth 17 7)) [] [] (He.ma K (He.ga K "Ratio") "__add__") (fdOf K (He.ma K (He.ga K "Ratio") "__add__"))
  d_Ratio_mul : FunD K "__mul__" "Ratio.__mul__" (defArgs (mth 17 11)) (defBody (mth 17 11)) (defScope (mth 17 11)) [] [] (He.ma K (He.ga K "Ratio") "__mul__") (fdOf K (He.ma K (He.ga K "Ratio") "__mul__"))
  d_directions_of : FunD K "directions_of" "directions_of" (defArgs (top 31)) (defBody (top 31)) (defScope (top 31)) [] [] (He.ga K "directions_of") (fdOf K (He.ga K "directions_of"))
  d_Lines_directions : FunD K "directions" "Lines.directions" (defArgs (mth 32 3)) (defBody (mth 32 3)) (defScope (mth 32 3)) [] [] (He.ma K (He.ga K "Lines") "directions") (fdOf K (He.ma K (He.ga K "Lines") "directions"))
  d__law_gcd : FunD K "_law_gcd" "_law_gcd" (defArgs (top 42)) (defBody (top 42)) (defScope (top 42)) [] [] (He.ga K "_law_gcd") (fdOf K (He.ga K "_law_gcd"))
  d__law_plain : FunD K "_law_plain" "_law_plain" (defArgs (top 50)) (defBody (top 50)) (defScope (top 50)) [] [] (He.ga K "_law_plain") (fdOf K (He.ga K "_law_plain"))
  d__law_directions : FunD K "_law_directions" "_law_directions" (defArgs (top 51)) (defBody (top 51)) (defScope (top 51)) [] [] (He.ga K "_law_directions") (fdOf K (He.ga K "_law_directions"))
  d__law_low : FunD K "_law_low" "_law_low" (defArgs (top 43)) (defBody (top 43)) (defScope (top 43)) [] [] (He.ga K "_law_low") (fdOf K (He.ga K "_law_low"))
  d__law_part : FunD K "_law_part" "_law_part" (defArgs (top 44)) (defBody (top 44)) (defScope (top 44)) [] [] (He.ga K "_law_part") (fdOf K (He.ga K "_law_part"))
  d__law_pairs : FunD K "_law_pairs" "_law_pairs" (defArgs (top 52)) (defBody (top 52)) (defScope (top 52)) [] [] (He.ga K "_law_pairs") (fdOf K (He.ga K "_law_pairs"))
  d__law_same : FunD K "_law_same" "_law_same" (defArgs (top 41)) (defBody (top 41)) (defScope (top 41)) [] [] (He.ga K "_law_same") (fdOf K (He.ga K "_law_same"))
  d__law_dot : FunD K "_law_dot" "_law_dot" (defArgs (top 45)) (defBody (top 45)) (defScope (top 45)) [] [] (He.ga K "_law_dot") (fdOf K (He.ga K "_law_dot"))
  d__law_lines_length : FunD K "_law_lines_length" "_law_lines_length" (defArgs (top 46)) (defBody (top 46)) (defScope (top 46)) [] [] (He.ga K "_law_lines_length") (fdOf K (He.ga K "_law_lines_length"))
  d_InvalidPlaces_init : FunD K "__init__" "InvalidPlaces.__init__" (defArgs (mth 5 0)) (defBody (mth 5 0)) (defScope (mth 5 0)) [] [] (He.ma K (He.ga K "InvalidPlaces") "__init__") (fdOf K (He.ma K (He.ga K "InvalidPlaces") "__init__"))
  d_Arrow_init : FunD K "__init__" "Arrow.__init__" (defArgs (mth 35 1)) (defBody (mth 35 1)) (defScope (mth 35 1)) [] [] (He.ma K (He.ga K "Arrow") "__init__") (fdOf K (He.ma K (He.ga K "Arrow") "__init__"))
  d__law_arrow : FunD K "_law_arrow" "_law_arrow" (defArgs (top 48)) (defBody (top 48)) (defScope (top 48)) [] [] (He.ga K "_law_arrow") (fdOf K (He.ga K "_law_arrow"))
  d_Ratio_radd : FunD K "__radd__" "Ratio.__radd__" (defArgs (mth 17 8)) (defBody (mth 17 8)) (defScope (mth 17 8)) [] [] (He.ma K (He.ga K "Ratio") "__radd__") (fdOf K (He.ma K (He.ga K "Ratio") "__radd__"))
  d_Mismatch_init : FunD K "__init__" "Mismatch.__init__" (defArgs (mth 9 0)) (defBody (mth 9 0)) (defScope (mth 9 0)) [] [] (He.ma K (He.ga K "Mismatch") "__init__") (fdOf K (He.ma K (He.ga K "Mismatch") "__init__"))
  d_Arrow_places : FunD K "places" "Arrow.places" (defArgs (mth 35 5)) (defBody (mth 35 5)) (defScope (mth 35 5)) [] [] (He.ma K (He.ga K "Arrow") "places") (fdOf K (He.ma K (He.ga K "Arrow") "places"))
  d_dot : FunD K "dot" "dot" (defArgs (top 24)) (defBody (top 24)) (defScope (top 24)) [] [] (He.ga K "dot") (fdOf K (He.ga K "dot"))
  d_Measure_products_Lines : FunD K "products" "Measure.products" (defArgs (mth 29 3)) (defBody (mth 29 3)) (defScope (mth 29 3)) [] [] (He.ma K (He.ga K "Measure") "products") (fdOf K (He.ma K (He.ga K "Measure") "products"))
  d_Ratio_abs : FunD K "__abs__" "Ratio.__abs__" (defArgs (mth 17 14)) (defBody (mth 17 14)) (defScope (mth 17 14)) [] [] (He.ma K (He.ga K "Ratio") "__abs__") (fdOf K (He.ma K (He.ga K "Ratio") "__abs__"))
  d_Lines_length : FunD K "length" "Lines.length" (defArgs (mth 32 2)) (defBody (mth 32 2)) (defScope (mth 32 2)) [] [] (He.ma K (He.ga K "Lines") "length") (fdOf K (He.ma K (He.ga K "Lines") "length"))
  d_law : FunD K "law" "law" (defArgs (top 54)) (defBody (top 54)) (defScope (top 54)) [] [] (He.ga K "law") (fdOf K (He.ga K "law"))
  W : ClsOk K CLS subC
  base : BaseOk K .ve (He.ga K "StrideError")
  e_InvalidNumber : ErrK K .ve "InvalidNumber" (He.ma K (He.ga K "InvalidNumber") "__init__") ["given"]
  e_ZeroDivisor : ErrK K .ve "ZeroDivisor" (He.ma K (He.ga K "ZeroDivisor") "__init__") []
  e_InvalidRows : ErrK K .ve "InvalidRows" (He.ma K (He.ga K "InvalidRows") "__init__") ["at"]
  e_TooMany : ErrK K .ve "TooMany" (He.ma K (He.ga K "TooMany") "__init__") ["most", "subject"]
  e_InvalidPlaces : ErrK K .ve "InvalidPlaces" (He.ma K (He.ga K "InvalidPlaces") "__init__") ["at"]
  e_Mismatch : ErrK K .ve "Mismatch" (He.ma K (He.ga K "Mismatch") "__init__") []
  b_gcd : mg "gcd" = some (.builtin "math.gcd")
  sup_Lines_init : SupAt K (He.ga K "Lines") (He.ga K "Lines") (He.ma K (He.ga K "Measure") "__init__") "__init__"
  o_Ratio_eq : Own K (He.ga K "Ratio") "__eq__" (He.ma K (He.ga K "Ratio") "__eq__")
  nf_Ratio : ∀ T : Tg, PySem.W.subIn K (.type T.nm) (.ref (He.ga K "Ratio")) = some false
  o_Ratio_ne : PySem.W.findIn K (.ref (He.ga K "Ratio")) "__ne__" = some (some (.builtin "object.__ne__")) ∧ PySem.W.subIn K (.ref (He.ga K "Ratio")) (.type "object") = some true
  o_Ratio_add : OwnB K (He.ga K "Ratio") .Add (He.ma K (He.ga K "Ratio") "__add__")
  o_Ratio_mul : OwnB K (He.ga K "Ratio") .Mult (He.ma K (He.ga K "Ratio") "__mul__")
  v_Arrow_MOST : ClsInt K "Arrow" "MOST" (4)
  r_Ratio_add : OwnR K (He.ga K "Ratio") .Add (He.ma K (He.ga K "Ratio") "__radd__")
  mi_Lines_products : Meth K (He.ga K "Lines") "products" (He.ma K (He.ga K "Measure") "products")
  o_Ratio_abs : Own K (He.ga K "Ratio") "__abs__" (He.ma K (He.ga K "Ratio") "__abs__")
theorem facts_of {w : World} {K : Fg} {h : Heap} {mg : Str → Option Value} (X : K.In h) (G : h.Ns mainGlobals mg) (c : He.SaysX fa fn [] tf exB w h K) (c2 : He5.SaysA [] fs K) (c3 : He.SaysS ss K) : Facts K mg :=
  ⟨He.glo_ok X G (c.t.d.fact 0 (f := (.glo "_law_bag" : He.Fa)) rfl),
   He.glo_ok X G (c.t.d.fact 1 (f := (.glo "_law_draw" : He.Fa)) rfl),
   He.glo_ok X G (c.t.d.fact 2 (f := (.glo "_law_places" : He.Fa)) rfl),
   He.glo_ok X G (c.t.d.fact 3 (f := (.glo "_law_rows" : He.Fa)) rfl),
   He.glo_ok X G (c.t.d.fact 4 (f := (.glo "_law_of" : He.Fa)) rfl),
   He.glo_ok X G (c.t.d.fact 5 (f := (.glo "_law_mixed" : He.Fa)) rfl),
   He.glo_ok X G (c.t.d.fact 6 (f := (.glo "is_number" : He.Fa)) rfl),
   He.glo_ok X G (c.t.d.fact 7 (f := (.glo "_law_over" : He.Fa)) rfl),
   He.glo_ok X G (c.t.d.fact 8 (f := (.glo "is_part" : He.Fa)) rfl),
   He.glo_ok X G (c.t.d.fact 9 (f := (.glo "ratio_of" : He.Fa)) rfl),
   He.glo_ok X G (c.t.d.fact 10 (f := (.glo "made_rows" : He.Fa)) rfl),
   He.glo_ok X G (c.t.d.fact 11 (f := (.glo "common_bottom" : He.Fa)) rfl),
   He.glo_ok X G (c.t.d.fact 12 (f := (.glo "whole_row" : He.Fa)) rfl),
   He.glo_ok X G (c.t.d.fact 13 (f := (.glo "lowered" : He.Fa)) rfl),
   He.glo_ok X G (c.t.d.fact 14 (f := (.glo "direction_of" : He.Fa)) rfl),
   He.glo_ok X G (c.t.d.fact 15 (f := (.glo "directions_of" : He.Fa)) rfl),
   He.glo_ok X G (c.t.d.fact 16 (f := (.glo "_law_gcd" : He.Fa)) rfl),
   He.glo_ok X G (c.t.d.fact 17 (f := (.glo "_law_plain" : He.Fa)) rfl),
   He.glo_ok X G (c.t.d.fact 18 (f := (.glo "_law_directions" : He.Fa)) rfl),
   He.glo_ok X G (c.t.d.fact 19 (f := (.glo "_law_low" : He.Fa)) rfl),
   He.glo_ok X G (c.t.d.fact 20 (f := (.glo "_law_part" : He.Fa)) rfl),
   He.glo_ok X G (c.t.d.fact 21 (f := (.glo "_law_pairs" : He.Fa)) rfl),
   He.glo_ok X G (c.t.d.fact 22 (f := (.glo "_law_same" : He.Fa)) rfl),
   He.glo_ok X G (c.t.d.fact 23 (f := (.glo "_law_dot" : He.Fa)) rfl),
   He.glo_ok X G (c.t.d.fact 24 (f := (.glo "_law_lines_length" : He.Fa)) rfl),
   He.glo_ok X G (c.t.d.fact 25 (f := (.glo "_law_arrow" : He.Fa)) rfl),
   He.glo_ok X G (c.t.d.fact 26 (f := (.glo "dot" : He.Fa)) rfl),
   He.glo_ok X G (c.t.d.fact 27 (f := (.glo "law" : He.Fa)) rfl),
   He.glo_ok X G (c.t.d.fact 28 (f := (.glo "InvalidNumber" : He.Fa)) rfl),
   He.glo_ok X G (c.t.d.fact 29 (f := (.glo "StrideError" : He.Fa)) rfl),
   He.glo_ok X G (c.t.d.fact 30 (f := (.glo "ZeroDivisor" : He.Fa)) rfl),
   He.glo_ok X G (c.t.d.fact 31 (f := (.glo "Ratio" : He.Fa)) rfl),
   He.glo_ok X G (c.t.d.fact 32 (f := (.glo "Lines" : He.Fa)) rfl),
   He.glo_ok X G (c.t.d.fact 33 (f := (.glo "InvalidRows" : He.Fa)) rfl),
   He.glo_ok X G (c.t.d.fact 34 (f := (.glo "TooMany" : He.Fa)) rfl),
   He.glo_ok X G (c.t.d.fact 35 (f := (.glo "InvalidPlaces" : He.Fa)) rfl),
   He.glo_ok X G (c.t.d.fact 36 (f := (.glo "Arrow" : He.Fa)) rfl),
   He.glo_ok X G (c.t.d.fact 37 (f := (.glo "Mismatch" : He.Fa)) rfl),
   He.free_ok X G (c.t.d.fact 38 (f := (.free "int" : He.Fa)) rfl),
   He.free_ok X G (c.t.d.fact 39 (f := (.free "len" : He.Fa)) rfl),
   He.free_ok X G (c.t.d.fact 40 (f := (.free "range" : He.Fa)) rfl),
   He.free_ok X G (c.t.d.fact 41 (f := (.free "zip" : He.Fa)) rfl),
   He.free_ok X G (c.t.d.fact 42 (f := (.free "list" : He.Fa)) rfl),
   He.free_ok X G (c.t.d.fact 43 (f := (.free "isinstance" : He.Fa)) rfl),
   He.free_ok X G (c.t.d.fact 44 (f := (.free "bool" : He.Fa)) rfl),
   He.free_ok X G (c.t.d.fact 45 (f := (.free "super" : He.Fa)) rfl),
   He.free_ok X G (c.t.d.fact 46 (f := (.free "tuple" : He.Fa)) rfl),
   He.free_ok X G (c.t.d.fact 47 (f := (.free "enumerate" : He.Fa)) rfl),
   He.free_ok X G (c.t.d.fact 48 (f := (.free "all" : He.Fa)) rfl),
   He.free_ok X G (c.t.d.fact 49 (f := (.free "any" : He.Fa)) rfl),
   He.free_ok X G (c.t.d.fact 50 (f := (.free "abs" : He.Fa)) rfl),
   He.free_ok X G (c.t.d.fact 51 (f := (.free "sorted" : He.Fa)) rfl),
   He.free_ok X G (c.t.d.fact 52 (f := (.free "str" : He.Fa)) rfl),
   He.free_ok X G (c.t.d.fact 53 (f := (.free "dict" : He.Fa)) rfl),
   He.free_ok X G (c.t.d.fact 54 (f := (.free "sum" : He.Fa)) rfl),
   He.int_ok X G (c.t.d.fact 55 (f := (.int "MOST_PLACES_measures" (4) : He.Fa)) rfl),
   He.int_ok X G (c.t.d.fact 56 (f := (.int "MOST_ROWS" (100) : He.Fa)) rfl),
   He.cls_ok (c.t.d.fact 57 (f := (.cls "Ratio" : He.Fa)) rfl),
   He.cls_ok (c.t.d.fact 58 (f := (.cls "Lines" : He.Fa)) rfl),
   He.cls_ok (c.t.d.fact 59 (f := (.cls "Arrow" : He.Fa)) rfl),
   He.mkr_ok (c.t.d.fact 60 (f := (.mkr "Ratio" : He.Fa)) rfl),
   He.mkr_ok (c.t.d.fact 61 (f := (.mkr "Lines" : He.Fa)) rfl),
   He.mkr_ok (c.t.d.fact 62 (f := (.mkr "Arrow" : He.Fa)) rfl),
   He.noat_ok (c.t.d.fact 63 (f := (.noat "Ratio" "top" : He.Fa)) rfl),
   He.noat_ok (c.t.d.fact 64 (f := (.noat "Ratio" "bottom" : He.Fa)) rfl),
   He.noat_ok (c.t.d.fact 65 (f := (.noat "Lines" "size" : He.Fa)) rfl),
   He.noat_ok (c.t.d.fact 66 (f := (.noat "Lines" "own_rows" : He.Fa)) rfl),
   He.noat_ok (c.t.d.fact 67 (f := (.noat "Arrow" "own_places" : He.Fa)) rfl),
   He.noat_ok (c.t.d.fact 68 (f := (.noat "Arrow" "size" : He.Fa)) rfl),
   He.meth_ok (c.t.d.fact 69 (f := (.meth "Ratio" "pair" : He.Fa)) rfl),
   He.meth_ok (c.t.d.fact 70 (f := (.meth "Lines" "directions" : He.Fa)) rfl),
   He.meth_ok (c.t.d.fact 71 (f := (.meth "Arrow" "places" : He.Fa)) rfl),
   He.meth_ok (c.t.d.fact 72 (f := (.meth "Lines" "length" : He.Fa)) rfl),
   funD_of (c.t.d.def_ 0 (d := dd__law_bag) rfl),
   funD_of (c.t.d.def_ 1 (d := dd__law_draw) rfl),
   funD_of (c.t.d.def_ 2 (d := dd__law_places) rfl),
   funD_of (c.t.d.def_ 3 (d := dd__law_rows) rfl),
   funD_of (c.t.d.def_ 4 (d := dd__law_of) rfl),
   funD_of (c.t.d.def_ 5 (d := dd__law_mixed) rfl),
   funD_of (c.t.d.def_ 6 (d := dd_is_number) rfl),
   funD_of (c.t.d.def_ 7 (d := dd_InvalidNumber_init) rfl),
   funD_of (c.t.d.def_ 8 (d := dd_ZeroDivisor_init) rfl),
   funD_of (c.t.d.def_ 9 (d := dd_Ratio_init) rfl),
   funD_of (c.t.d.def_ 10 (d := dd__law_over) rfl),
   funD_of (c.t.d.def_ 11 (d := dd_Measure_init_Lines) rfl),
   funD_of (c.t.d.def_ 12 (d := dd_InvalidRows_init) rfl),
   funD_of (c.t.d.def_ 13 (d := dd_is_part) rfl),
   funD_of (c.t.d.def_ 14 (d := dd_TooMany_init) rfl),
   funD_of (c.t.d.def_ 15 (d := dd_ratio_of) rfl),
   funD_of (c.t.d.def_ 16 (d := dd_made_rows) rfl),
   funS_fd (c3.def_ 0 (d := (dd_Lines_init, "Lines")) rfl),
   funD_of (c.t.d.def_ 17 (d := dd_Ratio_pair) rfl),
   funD_of (c.t.d.def_ 18 (d := dd_Ratio_eq) rfl),
   funD_of (c.t.d.def_ 19 (d := dd_common_bottom) rfl),
   funD_of (c.t.d.def_ 20 (d := dd_whole_row) rfl),
   funD_of (c.t.d.def_ 21 (d := dd_lowered) rfl),
   funD_of (c.t.d.def_ 22 (d := dd_direction_of) rfl),
   funD_of (c.t.d.def_ 23 (d := dd_Ratio_add) rfl),
   funD_of (c.t.d.def_ 24 (d := dd_Ratio_mul) rfl),
   funD_of (c.t.d.def_ 25 (d := dd_directions_of) rfl),
   funD_of (c.t.d.def_ 26 (d := dd_Lines_directions) rfl),
   funD_of (c.t.d.def_ 27 (d := dd__law_gcd) rfl),
   funD_of (c.t.d.def_ 28 (d := dd__law_plain) rfl),
   funD_of (c.t.d.def_ 29 (d := dd__law_directions) rfl),
   funD_of (c.t.d.def_ 30 (d := dd__law_low) rfl),
   funD_of (c.t.d.def_ 31 (d := dd__law_part) rfl),
   funD_of (c.t.d.def_ 32 (d := dd__law_pairs) rfl),
   funD_of (c.t.d.def_ 33 (d := dd__law_same) rfl),
   funD_of (c.t.d.def_ 34 (d := dd__law_dot) rfl),
   funD_of (c.t.d.def_ 35 (d := dd__law_lines_length) rfl),
   funD_of (c.t.d.def_ 36 (d := dd_InvalidPlaces_init) rfl),
   funD_of (c.t.d.def_ 37 (d := dd_Arrow_init) rfl),
   funD_of (c.t.d.def_ 38 (d := dd__law_arrow) rfl),
   funD_of (c.t.d.def_ 39 (d := dd_Ratio_radd) rfl),
   funD_of (c.t.d.def_ 40 (d := dd_Mismatch_init) rfl),
   funD_of (c.t.d.def_ 41 (d := dd_Arrow_places) rfl),
   funD_of (c.t.d.def_ 42 (d := dd_dot) rfl),
   funD_of (c.t.d.def_ 43 (d := dd_Measure_products_Lines) rfl),
   funD_of (c.t.d.def_ 44 (d := dd_Ratio_abs) rfl),
   funD_of (c.t.d.def_ 45 (d := dd_Lines_length) rfl),
   funD_of (c.t.d.def_ 46 (d := dd_law) rfl),
   clsB_ok (all_at c.more 0 rfl),
   baseB_ok (all_at c.more 1 rfl),
   errB_ok (all_at c.more 2 rfl),
   errB_ok (all_at c.more 3 rfl),
   errB_ok (all_at c.more 4 rfl),
   errB_ok (all_at c.more 5 rfl),
   errB_ok (all_at c.more 6 rfl),
   errB_ok (all_at c.more 7 rfl),
   bltB_ok X G (all_at c.more 8 rfl),
   supB_ok (all_at c.more 9 rfl),
   ownB1_ok (all_at c.more 10 rfl),
   nfB_ok (all_at c.more 11 rfl),
   ownNeB_ok (all_at c.more 12 rfl),
   ownB2_ok (all_at c.more 13 rfl),
   ownB2_ok (all_at c.more 14 rfl),
   cintB_ok (all_at c.more 15 rfl),
   ownRB_ok (all_at c.more 16 rfl),
   methB_ok (all_at c.more 17 rfl),
   ownB1_ok (all_at c.more 18 rfl)⟩
theorem bi__law_bag {K : Fg} {mg : Str → Option Value} (F : Facts K mg) : Binds K (fdOf K (He.ga K "_law_bag")) ["_law_script"] [] := F.d__law_bag.bindsN fun _ _ _ _ _ _ us hl => match us, hl with | [_], _ => rfl
theorem sc__law_bag : FnScope ["_law_script", "_law_cells", "_law_mixed_here", "_law_cell"] ["_law_script"] (defScope (top 37)) := ⟨rfl, rfl, rfl, by decide +kernel, rfl, by decide +kernel, by decide +kernel⟩
theorem sc__law_draw : FnScope ["_law_bag_here", "_law_many", "_law_cell", "_law_early", "_law_late", "_law_drawn"] ["_law_bag_here", "_law_many"] (defScope (top 38)) := ⟨rfl, rfl, rfl, by decide +kernel, rfl, by decide +kernel, by decide +kernel⟩
theorem sc__law_places : FnScope ["_law_bag_here", "_law_size", "_law_most", "_law_k"] ["_law_bag_here", "_law_size", "_law_most"] (defScope (top 47)) := ⟨rfl, rfl, rfl, by decide +kernel, rfl, by decide +kernel, by decide +kernel⟩
theorem sc__law_rows : FnScope ["_law_bag_here", "_law_many", "_law_size", "_law_most", "_law_k"] ["_law_bag_here", "_law_many", "_law_size", "_law_most"] (defScope (top 49)) := ⟨rfl, rfl, rfl, by decide +kernel, rfl, by decide +kernel, by decide +kernel⟩
theorem sc__law_of : FnScope ["_law_bag_here", "_law_things"] ["_law_bag_here", "_law_things"] (defScope (top 39)) := ⟨rfl, rfl, rfl, by decide +kernel, rfl, by decide +kernel, by decide +kernel⟩
theorem sc__law_mixed : FnScope ["_law_bag_here", "_law_things", "_law_left", "_law_found", "_law_turn"] ["_law_bag_here", "_law_things"] (defScope (top 40)) := ⟨rfl, rfl, rfl, by decide +kernel, rfl, by decide +kernel, by decide +kernel⟩
theorem sc_is_number : FnScope ["value"] ["value"] (defScope (top 14)) := ⟨rfl, rfl, rfl, by decide +kernel, rfl, by decide +kernel, by decide +kernel⟩
theorem bi_InvalidNumber_init {K : Fg} {mg : Str → Option Value} (F : Facts K mg) : Binds K (fdOf K (He.ma K (He.ga K "InvalidNumber") "__init__")) ["self", "given"] [] := F.d_InvalidNumber_init.bindsN fun _ _ _ _ _ _ us hl => match us, hl with | [_, _], _ => rfl
theorem sc_InvalidNumber_init : FnScope ["self", "given"] ["self", "given"] (defScope (mth 4 0)) := ⟨rfl, rfl, rfl, by decide +kernel, rfl, by decide +kernel, by decide +kernel⟩
theorem bi_ZeroDivisor_init {K : Fg} {mg : Str → Option Value} (F : Facts K mg) : Binds K (fdOf K (He.ma K (He.ga K "ZeroDivisor") "__init__")) ["self"] [] := F.d_ZeroDivisor_init.bindsN fun _ _ _ _ _ _ us hl => match us, hl with | [_], _ => rfl
theorem sc_ZeroDivisor_init : FnScope ["self"] ["self"] (defScope (mth 10 0)) := ⟨rfl, rfl, rfl, by decide +kernel, rfl, by decide +kernel, by decide +kernel⟩
theorem sc_Ratio_init : FnScope ["self", "top", "bottom", "value", "common"] ["self", "top", "bottom"] (defScope (mth 17 0)) := ⟨rfl, rfl, rfl, by decide +kernel, rfl, by decide +kernel, by decide +kernel⟩
theorem sc__law_over : FnScope ["_law_rows_here", "_law_bottom_in", "_law_one", "_law_row"] ["_law_rows_here", "_law_bottom_in"] (defScope (top 53)) := ⟨rfl, rfl, rfl, by decide +kernel, rfl, by decide +kernel, by decide +kernel⟩
theorem sc_Measure_init_Lines : FnScope ["self", "size", "rows"] ["self", "size", "rows"] (defScope (mth 29 1)) := ⟨rfl, rfl, rfl, by decide +kernel, rfl, by decide +kernel, by decide +kernel⟩
theorem bi_InvalidRows_init {K : Fg} {mg : Str → Option Value} (F : Facts K mg) : Binds K (fdOf K (He.ma K (He.ga K "InvalidRows") "__init__")) ["self", "at"] [] := F.d_InvalidRows_init.bindsN fun _ _ _ _ _ _ us hl => match us, hl with | [_, _], _ => rfl
theorem sc_InvalidRows_init : FnScope ["self", "at"] ["self", "at"] (defScope (mth 6 0)) := ⟨rfl, rfl, rfl, by decide +kernel, rfl, by decide +kernel, by decide +kernel⟩
theorem sc_is_part : FnScope ["value"] ["value"] (defScope (top 18)) := ⟨rfl, rfl, rfl, by decide +kernel, rfl, by decide +kernel, by decide +kernel⟩
theorem bn_TooMany_init {K : Fg} {mg : Str → Option Value} (F : Facts K mg) : ∃ ds, Vals (([.str "arrows"] : List V).drop 1) ds ∧ Binds K (fdOf K (He.ma K (He.ga K "TooMany") "__init__")) ["self", "most", "subject"] ds := F.d_TooMany_init.binds1 3 1 (by simp) rfl fun _ _ _ _ _ _ _ us its hu hi => match us, its, hu, hi with | [_, _, _], [_], _, _ => ⟨_, rfl, rfl⟩
theorem sc_TooMany_init : FnScope ["self", "most", "subject"] ["self", "most", "subject"] (defScope (mth 8 0)) := ⟨rfl, rfl, rfl, by decide +kernel, rfl, by decide +kernel, by decide +kernel⟩
theorem sc_ratio_of : FnScope ["value"] ["value"] (defScope (top 19)) := ⟨rfl, rfl, rfl, by decide +kernel, rfl, by decide +kernel, by decide +kernel⟩
theorem sc_made_rows : FnScope ["size", "rows", "least", "at", "row", "one"] ["size", "rows", "least"] (defScope (top 28)) := ⟨rfl, rfl, rfl, by decide +kernel, rfl, by decide +kernel, by decide +kernel⟩
theorem sc_Lines_init : NdefX.NScope ["self", "size", "rows", "__class__"] ["self", "size", "rows"] ["__class__"] (defScope (mth 32 1)) := NdefX.nscope_by (by decide +kernel)
theorem sc_Ratio_pair : FnScope ["self"] ["self"] (defScope (mth 17 2)) := ⟨rfl, rfl, rfl, by decide +kernel, rfl, by decide +kernel, by decide +kernel⟩
theorem bi_Ratio_eq {K : Fg} {mg : Str → Option Value} (F : Facts K mg) : Binds K (fdOf K (He.ma K (He.ga K "Ratio") "__eq__")) ["self", "other"] [] := F.d_Ratio_eq.bindsN fun _ _ _ _ _ _ us hl => match us, hl with | [_, _], _ => rfl
theorem sc_Ratio_eq : FnScope ["self", "other"] ["self", "other"] (defScope (mth 17 15)) := ⟨rfl, rfl, rfl, by decide +kernel, rfl, by decide +kernel, by decide +kernel⟩
theorem sc_common_bottom : FnScope ["parts", "found", "part"] ["parts"] (defScope (top 20)) := ⟨rfl, rfl, rfl, by decide +kernel, rfl, by decide +kernel, by decide +kernel⟩
theorem sc_whole_row : FnScope ["parts", "scale", "part"] ["parts"] (defScope (top 21)) := ⟨rfl, rfl, rfl, by decide +kernel, rfl, by decide +kernel, by decide +kernel⟩
theorem sc_lowered : FnScope ["row", "common", "entry"] ["row"] (defScope (top 23)) := ⟨rfl, rfl, rfl, by decide +kernel, rfl, by decide +kernel, by decide +kernel⟩
theorem sc_direction_of : FnScope ["row", "scale", "numbers", "lead", "number", "plain", "at", "k"] ["row"] (defScope (top 30)) := ⟨rfl, rfl, rfl, by decide +kernel, rfl, by decide +kernel, by decide +kernel⟩
theorem bi_Ratio_add {K : Fg} {mg : Str → Option Value} (F : Facts K mg) : Binds K (fdOf K (He.ma K (He.ga K "Ratio") "__add__")) ["self", "other"] [] := F.d_Ratio_add.bindsN fun _ _ _ _ _ _ us hl => match us, hl with | [_, _], _ => rfl
theorem sc_Ratio_add : FnScope ["self", "other", "late"] ["self", "other"] (defScope (mth 17 7)) := ⟨rfl, rfl, rfl, by decide +kernel, rfl, by decide +kernel, by decide +kernel⟩
theorem bi_Ratio_mul {K : Fg} {mg : Str → Option Value} (F : Facts K mg) : Binds K (fdOf K (He.ma K (He.ga K "Ratio") "__mul__")) ["self", "other"] [] := F.d_Ratio_mul.bindsN fun _ _ _ _ _ _ us hl => match us, hl with | [_, _], _ => rfl
theorem sc_Ratio_mul : FnScope ["self", "other", "late"] ["self", "other"] (defScope (mth 17 11)) := ⟨rfl, rfl, rfl, by decide +kernel, rfl, by decide +kernel, by decide +kernel⟩
theorem sc_directions_of : FnScope ["rows", "plains", "weights", "row", "one", "plain", "weight", "at", "order", "number"] ["rows"] (defScope (top 31)) := ⟨rfl, rfl, rfl, by decide +kernel, rfl, by decide +kernel, by decide +kernel⟩
theorem sc_Lines_directions : FnScope ["self"] ["self"] (defScope (mth 32 3)) := ⟨rfl, rfl, rfl, by decide +kernel, rfl, by decide +kernel, by decide +kernel⟩
theorem sc__law_gcd : FnScope ["_law_one", "_law_other", "_law_left", "_law_right"] ["_law_one", "_law_other"] (defScope (top 42)) := ⟨rfl, rfl, rfl, by decide +kernel, rfl, by decide +kernel, by decide +kernel⟩
theorem sc__law_plain : FnScope ["_law_row", "_law_common", "_law_one", "_law_lead", "_law_sign"] ["_law_row"] (defScope (top 50)) := ⟨rfl, rfl, rfl, by decide +kernel, rfl, by decide +kernel, by decide +kernel⟩
theorem sc__law_directions : FnScope ["_law_rows_here", "_law_known", "_law_row", "_law_plain_here", "_law_common", "_law_one"] ["_law_rows_here"] (defScope (top 51)) := ⟨rfl, rfl, rfl, by decide +kernel, rfl, by decide +kernel, by decide +kernel⟩
theorem sc__law_low : FnScope ["_law_top", "_law_bottom", "_law_common"] ["_law_top", "_law_bottom"] (defScope (top 43)) := ⟨rfl, rfl, rfl, by decide +kernel, rfl, by decide +kernel, by decide +kernel⟩
theorem sc__law_part : FnScope ["_law_found"] ["_law_found"] (defScope (top 44)) := ⟨rfl, rfl, rfl, by decide +kernel, rfl, by decide +kernel, by decide +kernel⟩
theorem sc__law_pairs : FnScope ["_law_rows_here", "_law_one", "_law_row"] ["_law_rows_here"] (defScope (top 52)) := ⟨rfl, rfl, rfl, by decide +kernel, rfl, by decide +kernel, by decide +kernel⟩
theorem bi__law_same {K : Fg} {mg : Str → Option Value} (F : Facts K mg) : Binds K (fdOf K (He.ga K "_law_same")) ["_law_found", "_law_due"] [] := F.d__law_same.bindsN fun _ _ _ _ _ _ us hl => match us, hl with | [_, _], _ => rfl
theorem sc__law_same : FnScope ["_law_found", "_law_due", "_law_key", "_law_a", "_law_b"] ["_law_found", "_law_due"] (defScope (top 41)) := ⟨rfl, rfl, rfl, by decide +kernel, rfl, by decide +kernel, by decide +kernel⟩
theorem sc__law_dot : FnScope ["_law_row", "_law_other", "_law_a", "_law_b"] ["_law_row", "_law_other"] (defScope (top 45)) := ⟨rfl, rfl, rfl, by decide +kernel, rfl, by decide +kernel, by decide +kernel⟩
theorem sc__law_lines_length : FnScope ["_law_rows_here", "_law_places_here", "_law_row"] ["_law_rows_here", "_law_places_here"] (defScope (top 46)) := ⟨rfl, rfl, rfl, by decide +kernel, rfl, by decide +kernel, by decide +kernel⟩
theorem bi_InvalidPlaces_init {K : Fg} {mg : Str → Option Value} (F : Facts K mg) : Binds K (fdOf K (He.ma K (He.ga K "InvalidPlaces") "__init__")) ["self", "at"] [] := F.d_InvalidPlaces_init.bindsN fun _ _ _ _ _ _ us hl => match us, hl with | [_, _], _ => rfl
theorem sc_InvalidPlaces_init : FnScope ["self", "at"] ["self", "at"] (defScope (mth 5 0)) := ⟨rfl, rfl, rfl, by decide +kernel, rfl, by decide +kernel, by decide +kernel⟩
theorem sc_Arrow_init : FnScope ["self", "places", "at", "place"] ["self", "places"] (defScope (mth 35 1)) := ⟨rfl, rfl, rfl, by decide +kernel, rfl, by decide +kernel, by decide +kernel⟩
theorem sc__law_arrow : FnScope ["_law_places_here"] ["_law_places_here"] (defScope (top 48)) := ⟨rfl, rfl, rfl, by decide +kernel, rfl, by decide +kernel, by decide +kernel⟩
theorem bi_Ratio_radd {K : Fg} {mg : Str → Option Value} (F : Facts K mg) : Binds K (fdOf K (He.ma K (He.ga K "Ratio") "__radd__")) ["self", "other"] [] := F.d_Ratio_radd.bindsN fun _ _ _ _ _ _ us hl => match us, hl with | [_, _], _ => rfl
theorem sc_Ratio_radd : FnScope ["self", "other"] ["self", "other"] (defScope (mth 17 8)) := ⟨rfl, rfl, rfl, by decide +kernel, rfl, by decide +kernel, by decide +kernel⟩
theorem bi_Mismatch_init {K : Fg} {mg : Str → Option Value} (F : Facts K mg) : Binds K (fdOf K (He.ma K (He.ga K "Mismatch") "__init__")) ["self"] [] := F.d_Mismatch_init.bindsN fun _ _ _ _ _ _ us hl => match us, hl with | [_], _ => rfl
theorem sc_Mismatch_init : FnScope ["self"] ["self"] (defScope (mth 9 0)) := ⟨rfl, rfl, rfl, by decide +kernel, rfl, by decide +kernel, by decide +kernel⟩
theorem sc_Arrow_places : FnScope ["self"] ["self"] (defScope (mth 35 5)) := ⟨rfl, rfl, rfl, by decide +kernel, rfl, by decide +kernel, by decide +kernel⟩
theorem sc_dot : FnScope ["row", "other", "one", "two"] ["row", "other"] (defScope (top 24)) := ⟨rfl, rfl, rfl, by decide +kernel, rfl, by decide +kernel, by decide +kernel⟩
theorem sc_Measure_products_Lines : FnScope ["self", "arrow", "row"] ["self", "arrow"] (defScope (mth 29 3)) := ⟨rfl, rfl, rfl, by decide +kernel, rfl, by decide +kernel, by decide +kernel⟩
theorem bi_Ratio_abs {K : Fg} {mg : Str → Option Value} (F : Facts K mg) : Binds K (fdOf K (He.ma K (He.ga K "Ratio") "__abs__")) ["self"] [] := F.d_Ratio_abs.bindsN fun _ _ _ _ _ _ us hl => match us, hl with | [_], _ => rfl
theorem sc_Ratio_abs : FnScope ["self"] ["self"] (defScope (mth 17 14)) := ⟨rfl, rfl, rfl, by decide +kernel, rfl, by decide +kernel, by decide +kernel⟩
theorem sc_Lines_length : FnScope ["self", "arrow", "one"] ["self", "arrow"] (defScope (mth 32 2)) := ⟨rfl, rfl, rfl, by decide +kernel, rfl, by decide +kernel, by decide +kernel⟩
theorem sc_law : FnScope ["_law_script", "_law_bag_here", "_law_turn", "_law_size", "_law_bottom", "_law_rows_here", "_law_factors", "_law_row", "_law_one", "_law_factor", "_law_made", "_law_found", "_law_due", "_law_places_here"] ["_law_script"] (defScope (top 54)) := ⟨rfl, rfl, rfl, by decide +kernel, rfl, by decide +kernel, by decide +kernel⟩
end LK
/-! K16P -/
set_option Elab.async false
set_option linter.all false
set_option maxRecDepth 100000
set_option maxHeartbeats 4000000
namespace LK
open PySem PySem.Spec PyProof.Rows L2 DL
variable [TabC]
variable {w : World} {K : Fg} {mg : Str → Option Value} {base : Heap}
theorem sle {s : Str} {n : Nat} (h : s.length ≤ n) : s.length ≤ n := h
local macro_rules
  | `(tactic| exists $i:ident) => match i.getId.eraseMacroScopes with
    | `pt => `(tactic| ((focus (repeat' first | with_reducible exact pt0 | with_reducible apply pts | with_reducible intro _))))
    | `nx => `(tactic| ((first | (with_reducible show Stp _) | refine Stp.run ?_); (try with_reducible refine nx_mk ?_)))
    | `st => `(tactic| ((focus (repeat' first | with_reducible exact pt0 | with_reducible apply pts | with_reducible apply ns_put | with_reducible apply ns_wipe | with_reducible apply ns_wipe0 | with_reducible exact ns_id))))
    | `ass => `(tactic| ((with_reducible first | apply as1 | apply as2 | apply as3 | apply as2l | apply as3l); (repeat' first | with_reducible exact pt0 | with_reducible apply pts | with_reducible apply ns_put | with_reducible apply ns_wipe | with_reducible apply ns_wipe0 | with_reducible exact ns_id)))
    | `sd => `(tactic| ((try (show (_ : Prop); (fail_if_success (with_reducible show Ev _ _ _)); first | ((with_reducible apply sle); first | (simp only [str_len2]; omega) | with_reducible assumption | omega | decide) | ((fail_if_success (with_reducible apply sle)); first | assumption | ((with_reducible refine And.intro ?_ ?_) <;> omega) | ((fail_if_success (with_reducible refine And.intro ?_ ?_)); first | rfl | exact List.cons_ne_nil _ _ | exact Nat.le_of_ble_eq_true rfl | decide | omega | exact MulOk.right (by omega) | exact MulOk.left (by omega) | exact MulOk.of (by assumption) (by assumption) (by decide) | exact Sz.mono (by assumption) (by decide) | exact szLog (by assumption) | exact szLog (Sms.get (by assumption) (by assumption)) | exact szW (by decide) | (simp only [List.length_map, List.length_cons, List.length_nil, List.length_append, List.length_reverse]; omega)))))))
    | `ea => `(tactic| (first | ((with_reducible apply ev_var); exact rfl) | with_reducible exact ev_c | (with_reducible (first | apply ev_repF | apply ev_repT | apply ev_g2 | apply ev_g1 | apply eva_cons | apply ev_tup | apply ev_lst | apply evt_B | apply evt_and | apply evt_or | apply evt_not | apply ev_if | apply ev_isi | apply ev_isN | apply ev_fld | apply ev_ca | apply ev_mc | apply ev_ci | apply ev_con | apply ev_mk | apply ev_own1 | apply ev_own2 | apply ev_ownR | apply ev_ownQ | apply ev_ownN | apply ev_ownE | apply ev_ownEN | apply ev_ownS | apply ev_ownB | apply ev_join | apply ev_js | apply ev_fmt | apply ev_sl | apply ev_andV | apply ev_orV | apply ev_notV | apply ev_chain | apply ev_cl | apply eva_app | apply eva_star | apply eva_star1 | apply evp_part | apply evi_it | apply evi_LL | apply evi_TT | apply evi_S | apply evi_rng | apply evi_rng2 | apply evi_zip | apply evi_en | apply ev_tm | apply ot_split | apply ot_part | apply o_intS | apply o_ixS | apply o_inL | apply o_inTu | apply o_inT | apply o_pow | apply o_rev | apply o_strI | apply ev_ls | apply o_ninTu | apply o_ixTI | apply sr_shp | apply sri_shp | apply sr_same | apply ow2_own | apply ow2_int | apply fm_S | apply fm_I | apply sl_S | apply aev1 | apply aev2 | apply aev3 | apply aevf1 | apply aevf2 | apply aevf3 | exact eva_nil | exact evt_yes | exact evp_no | exact ev_jsN | exact itr_L | exact itr_T | exact sl_L | exact sl_T | exact jn_eq | exact jn_int | exact jn_str | exact jn_bl | exact jn_tup | exact jn_lst | exact jn_any | exact o_eqI | exact o_neI | exact o_eqS | exact o_neS | exact o_eqB | exact o_neB | exact o_all | exact o_eqT2 | exact o_neT2 | exact o_inS | exact o_ninS | exact o_eqL | exact o_eqTu | exact o_max2 | exact o_tup | exact o_tup2 | exact o_lst | exact o_lst2)) | ((with_reducible apply ev_varT); exact rfl) | ((with_reducible apply ev_varO); exact rfl) | ((with_reducible apply o2_i); exact fun _ q => q) | ((with_reducible apply o2_i); refine fun _ zq_ => ⟨?_, zq_⟩) | ((with_reducible apply o1_i); exact fun _ q => q) | ((with_reducible apply o1_i); refine fun _ zq_ => ⟨?_, zq_⟩) | ((with_reducible apply on_i); exact fun _ q => q) | ((with_reducible apply on_i); refine fun _ zq_ => ⟨?_, zq_⟩) | ((with_reducible apply fi_i); exact rfl) | ((with_reducible apply pk_i); exact rfl) | exact pairs_ints _ _ | ((with_reducible apply mp_i); exact rfl) | with_reducible apply ev_lc | with_reducible apply ev_lcF))
    | `es => `(tactic| (fail))
    | `ev => `(tactic| (focus ((repeat' first | exists ea | exists es | with_reducible intro _) <;> exists sd)))
    | `cps => `(tactic| ((with_reducible first | refine c_asg ?_ | refine c_tgt ?_ | refine c_par ?_ | skip); (repeat first | ((with_reducible apply c_draw); (exact ev_var rfl); (first | (with_reducible exact ev_c) | (focus (exists ev; done))); decide; (exact divW (by decide) (by decide)); intro _ _ _) | ((with_reducible apply c_var); exact rfl) | ((with_reducible apply c_ev); (focus (exists ev; done))) | with_reducible refine c_cons ?_ | with_reducible refine c_tup ?_ | with_reducible refine c_lst ?_ | with_reducible refine c_g2 ?_ | with_reducible refine c_g1 ?_ | with_reducible refine c_app ?_ | with_reducible refine c_addI ?_ | with_reducible refine c_subI ?_ | with_reducible refine c_ca ?_ | with_reducible refine c_mk ?_ | with_reducible refine c_lc1 ?_ | with_reducible refine c_rng2 ?_ | with_reducible refine c_rng3 ?_ | with_reducible refine c_nil ?_ | with_reducible refine c_c ?_ | with_reducible refine c_lc0 ?_ | ((with_reducible first | apply as1 | apply as2 | apply as3 | apply as2l | apply as3l); (repeat' first | with_reducible exact pt0 | with_reducible apply pts | with_reducible apply ns_put | with_reducible apply ns_wipe | with_reducible apply ns_wipe0 | with_reducible exact ns_id)) | ((with_reducible refine c_pow ?_ ?_ ?_ ?_); decide; decide; decide) | (with_reducible refine c_o2 o_eqI ?_) | ((with_reducible refine c_len ?_ ?_); exact rfl) | ((with_reducible refine c_lt ?_ ?_); exact rfl) | ((with_reducible refine c_mulI ?_ ?_); (first | exact MulOk.right (by omega) | exact MulOk.left (by omega)))); (try simp only [List.nil_append, List.cons_append]); (try (with_reducible apply n_st; (focus (repeat' first | with_reducible exact pt0 | with_reducible apply pts | with_reducible apply ns_put | with_reducible apply ns_wipe | with_reducible apply ns_wipe0 | with_reducible exact ns_id))))))
    | `dl => `(tactic| (simp (config := { decide := false }) only [gRet, gRetN, gAndV, gOrV, gNotV, gIsi, gVar, gVarT, gC, gSeq, gNext, gIfS, gAsg, gDrop, gNever, gBreak, gCont, gIf, gAnd, gOr, gNot, gB, g1, g2, DL.gNil, DL.gCons, DL.gTup, DL.gLst, gIsN, dIsN, gPar, gTgt, asg, asgs, gCl, gCall, gCallK, gMeth, gFld, gMake, gJoin, gSl2, gNoP, gPart, gItS, gIt, gItL, gItT, gZip, gRng1, gLc, gRaise, gYes, gChain, dI, dI0, startD, initD, look, put, wipeD, List.map_cons, List.map_nil, List.cons_append, List.nil_append, List.append_nil, List.length_cons, List.length_nil, List.replicate, Nat.zero_add, Nat.add_zero, Nat.sub_self, Nat.reduceAdd, Nat.reduceSub, dAddA, dAddB, dMulA, dLen3, dNeg, true_and, eq_self, gCa, gMc, gMk, gSlA, gZipA, gEnum, gOwn2, gOwnQ, gOwnN, gOwn1, gOwnS, gOwnR, gAsgO, gPsh, gAns, gOwnE, gOwnEN, gOwnB, gJs, gFmt]))
    | _ => Lean.Macro.throwUnsupported
local macro_rules
  | `(tactic| exists $i:ident, (by $t:tacticSeq)) => if i.getId.eraseMacroScopes == `ev then `(tactic| (focus ((repeat' first | ($t:tacticSeq) | exists ea | exists es | with_reducible intro _) <;> exists sd))) else Lean.Macro.throwUnsupported
theorem ok__law_bag (F : Facts K mg) : FnOk P w K mg base (L2.CX P w) 1 (He.ga K "_law_bag") (fdOf K (He.ga K "_law_bag")) ["_law_script"] (spBag K) := by
  refine F.d__law_bag.ok sc__law_bag (fun vs H Q E h => by obtain ⟨a, ns, rfl, _⟩ := h; rfl) fun cdv A outer s H vs Q E hr h => ⟨_, (pss_cons (ps_setLc (own := [("_law_cell", 3)]) (i := 1) rfl sc__law_bag.nd rfl rfl rfl (pi_list (pe_slice sl_list (pe_var (i := 0) rfl (by first | exact Or.inl rfl | exact Or.inr (Or.inl rfl) | exact Or.inr (Or.inr rfl))) po_none (po_some pe_int))) (blk_ok (N := ["_law_script", "_law_cells", "_law_mixed_here", "_law_cell"]) (sc := defScope (top 37)) (by decide +kernel)) (fun _ _ _ _ _ => pg_name (i := 3) sc__law_bag.nd rfl (.inl rfl)) (fun _ _ _ _ _ => pts_nil) (fun _ _ _ _ _ => (pe_callTy call_int1 rfl F.n_int rfl (pa_cons (pe_var (i := 3) rfl (by first | exact Or.inl rfl | exact Or.inr (Or.inl rfl) | exact Or.inr (Or.inr rfl))) pa_nil)))) (pss_cons (ps_set (i := 2) sc__law_bag.nd rfl (.inl rfl) (pe_op op_add pe_int (pe_op op_mulOk pe_int (pe_callB call_len3 rfl F.n_len boot_len (pa_cons (pe_var (i := 1) rfl (by first | exact Or.inl rfl | exact Or.inr (Or.inl rfl) | exact Or.inr (Or.inr rfl))) pa_nil))))) (pss_cons (ps_for (passes_of rfl) rfl (pi_list (pe_var (i := 1) rfl (by first | exact Or.inl rfl | exact Or.inr (Or.inl rfl) | exact Or.inr (Or.inr rfl)))) (pg_name (i := 3) sc__law_bag.nd rfl (.inl rfl)) (pss_one (ps_set (i := 2) sc__law_bag.nd rfl (.inl rfl) (pe_op op_modN (pe_callTy call_int1 rfl F.n_int rfl (pa_cons (pe_op op_add (pe_op op_mulOk (pe_var (i := 2) rfl (by first | exact Or.inl rfl | exact Or.inr (Or.inl rfl) | exact Or.inr (Or.inr rfl))) pe_int) (pe_var (i := 3) rfl (by first | exact Or.inl rfl | exact Or.inr (Or.inl rfl) | exact Or.inr (Or.inr rfl)))) pa_nil)) pe_int)))) (pss_one (ps_ret (pe_lst (pa_cons (pe_var (i := 1) rfl (by first | exact Or.inl rfl | exact Or.inr (Or.inl rfl) | exact Or.inr (Or.inr rfl))) (pa_cons pe_int (pa_cons pe_int (pa_cons (pe_var (i := 2) rfl (by first | exact Or.inl rfl | exact Or.inr (Or.inl rfl) | exact Or.inr (Or.inr rfl))) pa_nil)))))))))), bag_read h rfl⟩
theorem ok__law_draw (F : Facts K mg) : FnOk P w K mg base (L2.CX P w) 1 (He.ga K "_law_draw") (fdOf K (He.ga K "_law_draw")) ["_law_bag_here", "_law_many"] (lift K sDraw) := by
  refine F.d__law_draw.ok sc__law_draw (fun vs H Q E h => by obtain ⟨p, c, m, i, j, x, ns, rfl, _⟩ := draw_lift h; rfl) fun cdv A outer s H vs Q E hr h => ⟨_, (pss_cons (ps_if (pt_cmp (pc_lt (pe_ix ix_seq (pe_var (i := 0) rfl (by first | exact Or.inl rfl | exact Or.inr (Or.inl rfl) | exact Or.inr (Or.inr rfl))) pe_int (fun _ _ => rfl)) pe_int)) (pss_cons (ps_asg (pe_op op_add (pe_ix ix_seq (pe_var (i := 0) rfl (by first | exact Or.inl rfl | exact Or.inr (Or.inl rfl) | exact Or.inr (Or.inr rfl))) pe_int (fun _ _ => rfl)) pe_int) (pg_sub (pe_var (i := 0) rfl (by first | exact Or.inl rfl | exact Or.inr (Or.inl rfl) | exact Or.inr (Or.inr rfl))) pe_int set_list)) (pss_cons (ps_set (i := 2) sc__law_draw.nd rfl (.inl rfl) (pe_op op_add (pe_ix ix_seq (pe_var (i := 0) rfl (by first | exact Or.inl rfl | exact Or.inr (Or.inl rfl) | exact Or.inr (Or.inr rfl))) pe_int (fun _ _ => rfl)) (pe_op op_mulOk (pe_ix ix_seq (pe_var (i := 0) rfl (by first | exact Or.inl rfl | exact Or.inr (Or.inl rfl) | exact Or.inr (Or.inr rfl))) pe_int (fun _ _ => rfl)) pe_int))) (pss_cons (ps_if (pt_cmp (pc_le (pe_ix ix_seq (pe_var (i := 0) rfl (by first | exact Or.inl rfl | exact Or.inr (Or.inl rfl) | exact Or.inr (Or.inr rfl))) pe_int (fun _ _ => rfl)) (pe_callB call_len3 rfl F.n_len boot_len (pa_cons (pe_ix ix_seq (pe_var (i := 0) rfl (by first | exact Or.inl rfl | exact Or.inr (Or.inl rfl) | exact Or.inr (Or.inr rfl))) pe_int (fun _ _ => rfl)) pa_nil)))) (pss_one (ps_set (i := 2) sc__law_draw.nd rfl (.inl rfl) (pe_ix ix_seq (pe_ix ix_seq (pe_var (i := 0) rfl (by first | exact Or.inl rfl | exact Or.inr (Or.inl rfl) | exact Or.inr (Or.inr rfl))) pe_int (fun _ _ => rfl)) (pe_op op_sub (pe_ix ix_seq (pe_var (i := 0) rfl (by first | exact Or.inl rfl | exact Or.inr (Or.inl rfl) | exact Or.inr (Or.inr rfl))) pe_int (fun _ _ => rfl)) pe_int) (fun _ _ => rfl)))) pss_nil) (pss_cons (ps_if (PW.pt (pw_or (pt_cmp (pc_gt (pe_ix ix_seq (pe_var (i := 0) rfl (by first | exact Or.inl rfl | exact Or.inr (Or.inl rfl) | exact Or.inr (Or.inr rfl))) pe_int (fun _ _ => rfl)) (pe_callB call_len3 rfl F.n_len boot_len (pa_cons (pe_ix ix_seq (pe_var (i := 0) rfl (by first | exact Or.inl rfl | exact Or.inr (Or.inl rfl) | exact Or.inr (Or.inr rfl))) pe_int (fun _ _ => rfl)) pa_nil)))) (pw_or1 (pt_cmp (pc_lt (pe_var (i := 2) rfl (by first | exact Or.inl rfl | exact Or.inr (Or.inl rfl) | exact Or.inr (Or.inr rfl))) (pe_op op_pow pe_int pe_int)))))) (pss_cons (ps_set (i := 3) sc__law_draw.nd rfl (.inl rfl) (pe_op op_modN (pe_callTy call_int1 rfl F.n_int rfl (pa_cons (pe_op op_add (pe_op op_add (pe_op op_mulOk (pe_var (i := 2) rfl (by first | exact Or.inl rfl | exact Or.inr (Or.inl rfl) | exact Or.inr (Or.inr rfl))) pe_int) (pe_op op_mulOk (pe_ix ix_seq (pe_var (i := 0) rfl (by first | exact Or.inl rfl | exact Or.inr (Or.inl rfl) | exact Or.inr (Or.inr rfl))) pe_int (fun _ _ => rfl)) pe_int)) (pe_ix ix_seq (pe_var (i := 0) rfl (by first | exact Or.inl rfl | exact Or.inr (Or.inl rfl) | exact Or.inr (Or.inr rfl))) pe_int (fun _ _ => rfl))) pa_nil)) pe_int)) (pss_cons (ps_set (i := 4) sc__law_draw.nd rfl (.inl rfl) (pe_op op_modN (pe_callTy call_int1 rfl F.n_int rfl (pa_cons (pe_op op_add (pe_op op_mulOk (pe_var (i := 3) rfl (by first | exact Or.inl rfl | exact Or.inr (Or.inl rfl) | exact Or.inr (Or.inr rfl))) (pe_var (i := 3) rfl (by first | exact Or.inl rfl | exact Or.inr (Or.inl rfl) | exact Or.inr (Or.inr rfl)))) (pe_op op_mulOk (pe_ix ix_seq (pe_var (i := 0) rfl (by first | exact Or.inl rfl | exact Or.inr (Or.inl rfl) | exact Or.inr (Or.inr rfl))) pe_int (fun _ _ => rfl)) pe_int)) pa_nil)) pe_int)) (pss_one (ps_ret (pe_op op_modN (pe_op op_divOk (pe_op op_modN (pe_callTy call_int1 rfl F.n_int rfl (pa_cons (pe_op op_add (pe_op op_mulOk (pe_var (i := 4) rfl (by first | exact Or.inl rfl | exact Or.inr (Or.inl rfl) | exact Or.inr (Or.inr rfl))) pe_int) (pe_var (i := 3) rfl (by first | exact Or.inl rfl | exact Or.inr (Or.inl rfl) | exact Or.inr (Or.inr rfl)))) pa_nil)) pe_int) pe_int) (pe_var (i := 1) rfl (by first | exact Or.inl rfl | exact Or.inr (Or.inl rfl) | exact Or.inr (Or.inr rfl)))))))) pss_nil) (pss_one (ps_asg (pe_var (i := 2) rfl (by first | exact Or.inl rfl | exact Or.inr (Or.inl rfl) | exact Or.inr (Or.inr rfl))) (pg_sub (pe_var (i := 0) rfl (by first | exact Or.inl rfl | exact Or.inr (Or.inl rfl) | exact Or.inr (Or.inr rfl))) pe_int set_list))))))) pss_nil) (pss_cons (ps_set (i := 5) sc__law_draw.nd rfl (.inl rfl) (pe_op op_modN (pe_callTy call_int1 rfl F.n_int rfl (pa_cons (pe_ix ix_seq (pe_var (i := 0) rfl (by first | exact Or.inl rfl | exact Or.inr (Or.inl rfl) | exact Or.inr (Or.inr rfl))) pe_int (fun _ _ => rfl)) pa_nil)) (pe_var (i := 1) rfl (by first | exact Or.inl rfl | exact Or.inr (Or.inl rfl) | exact Or.inr (Or.inr rfl))))) (pss_cons (ps_asg (pe_op op_divOk (pe_callTy call_int1 rfl F.n_int rfl (pa_cons (pe_ix ix_seq (pe_var (i := 0) rfl (by first | exact Or.inl rfl | exact Or.inr (Or.inl rfl) | exact Or.inr (Or.inr rfl))) pe_int (fun _ _ => rfl)) pa_nil)) (pe_var (i := 1) rfl (by first | exact Or.inl rfl | exact Or.inr (Or.inl rfl) | exact Or.inr (Or.inr rfl)))) (pg_sub (pe_var (i := 0) rfl (by first | exact Or.inl rfl | exact Or.inr (Or.inl rfl) | exact Or.inr (Or.inr rfl))) pe_int set_list)) (pss_one (ps_ret (pe_var (i := 5) rfl (by first | exact Or.inl rfl | exact Or.inr (Or.inl rfl) | exact Or.inr (Or.inr rfl)))))))), draw_read (draw_lift h) rfl⟩
theorem fc__law_draw_2 (F : Facts K mg) : FnC P w K mg base 1 (He.ga K "_law_draw") [] (lift K sDraw) := FnOk.c0 (ok__law_draw F) (F.d__law_draw.bindsN fun _ _ _ _ _ _ us hl => match us, hl with | [_, _], _ => rfl)
def s_places : GS := fun ds k _ => ∃ n m : Int, ds = [.bag, .int n, .int m] ∧ 0 ≤ n ∧ n ≤ 1000 ∧ 0 ≤ m ∧ m < 2 ^ 100 ∧ ∀ l : List Int, (l.length : Int) = n → (∀ x ∈ l, -m ≤ x ∧ x ≤ m) → k (.lst (dints l))
theorem mn_places : MnS s_places := fun ds k k' e e' h1 _ ⟨n, m, h, g1, g2, g3, g4, q⟩ => ⟨n, m, h, g1, g2, g3, g4, fun l h2 h3 => h1 _ (q l h2 h3)⟩
theorem ok__law_places (F : Facts K mg) : FnOk P w K mg base (L2.CX P w) 2 (He.ga K "_law_places") (fdOf K (He.ga K "_law_places")) ["_law_bag_here", "_law_size", "_law_most"] (lift K s_places) := by
  refine okD F.d__law_places sc__law_places (fun ds k e h => by obtain ⟨a, c, rfl, _⟩ := h; rfl) fun cdv A outer s0 H E b eo hr Z => ⟨_, dss_one (ds_ret (DE.dt (de_lc rfl sc__law_places.nd (own := [("_law_k", 3)]) (di_rng1 rfl F.n_range (DE.dt (de_var 1))) (blk_ok (N := ["_law_bag_here", "_law_size", "_law_most", "_law_k"]) (by kernel_rfl)) (fun _ _ _ _ _ => dg_name (i := 3) sc__law_places.nd rfl (.inl rfl)) (fun _ _ _ _ _ => dts_nil) (fun _ _ _ _ _ => de_sub (DE.dt (de_ca (fc__law_draw_2 F) sDraw_mn (hr.mono (by decide)) F.g__law_draw F.d__law_draw.kp cz_none (dca_pos (da_cons (de_var 0) (da_cons (de_addB (de_mulA (DE.dt (de_int)) (DE.dt (de_var 2))) (de_int)) (da_nil)))))) (DE.dt (de_var 2)))))), fun ds k h => ?_⟩
  obtain ⟨n, m, rfl, n0, n1, m0, m1, hk⟩ := h
  exists dl
  refine ⟨⟨by omega, by omega⟩, ?_⟩
  have e2 : (2 : Int) ^ 100 = 1267650600228229401496703205376 := by decide
  rw [e2] at m1
  refine lcD_rel (fun _ y => ∃ x : Int, (-m ≤ x ∧ x ≤ m) ∧ y = .int x) _ _ _ (fun d hd kk hkk => ?_) ?_ (fun ys hys => ?_)
  · refine ⟨MulOk.left ⟨by decide, by decide⟩, 2 * m + 1, rfl, by omega, DivOk.of (n := 200) (by omega) ?_ (by decide), fun x x0 x1 => hkk _ ⟨x - m, ⟨by omega, by omega⟩, rfl⟩⟩
    unfold Sz
    have q : (2 * m + 1).natAbs ≤ 2535301200456458802993406410753 := by omega
    exact Nat.lt_of_le_of_lt q (by decide)
  · rw [rngD_len]; simp only [List.length_nil]; omega
  · obtain ⟨l, rfl, h1, h2⟩ := fa2_ints hys
    rw [List.nil_append]
    exact hk l (by rw [h1]; exact rng_len n0) h2
theorem fc__law_places_3 (F : Facts K mg) : FnC P w K mg base 2 (He.ga K "_law_places") [] (lift K s_places) := FnOk.c0 (ok__law_places F) (F.d__law_places.bindsN fun _ _ _ _ _ _ us hl => match us, hl with | [_, _, _], _ => rfl)
theorem fa2_rows {ds ys : List D} {Q : List Int → Prop} (h : Fa2 (fun _ y => ∃ l : List Int, Q l ∧ y = .lst (dints l)) ds ys) : ∃ ls : List (List Int), ys = ls.map (fun l => .lst (dints l)) ∧ ls.length = ds.length ∧ ∀ l ∈ ls, Q l := by
  induction h with
  | nil => exact ⟨[], rfl, rfl, fun l h => by cases h⟩
  | cons hx _ ih =>
    obtain ⟨l, q, rfl⟩ := hx
    obtain ⟨ls, rfl, h1, h2⟩ := ih
    exact ⟨l :: ls, rfl, by simp [h1], fun x hx => by
      rcases List.mem_cons.mp hx with rfl | hx
      · exact q
      · exact h2 x hx⟩
def s_lrows : GS := fun ds k _ => ∃ c n m : Int, ds = [.bag, .int c, .int n, .int m] ∧ 0 ≤ c ∧ c ≤ 1000 ∧ 0 ≤ n ∧ n ≤ 1000 ∧ 0 ≤ m ∧ m < 2 ^ 100 ∧ ∀ ls : List (List Int), (ls.length : Int) = c → (∀ l ∈ ls, (l.length : Int) = n ∧ ∀ x ∈ l, -m ≤ x ∧ x ≤ m) → k (.lst (ls.map fun l => .lst (dints l)))
theorem mn_lrows : MnS s_lrows := fun ds k k' e e' h1 _ ⟨c, n, m, h, g1, g2, g3, g4, g5, g6, q⟩ => ⟨c, n, m, h, g1, g2, g3, g4, g5, g6, fun ls h2 h3 => h1 _ (q ls h2 h3)⟩
theorem ok__law_rows (F : Facts K mg) : FnOk P w K mg base (L2.CX P w) 3 (He.ga K "_law_rows") (fdOf K (He.ga K "_law_rows")) ["_law_bag_here", "_law_many", "_law_size", "_law_most"] (lift K s_lrows) := by
  refine okD F.d__law_rows sc__law_rows (fun ds k e h => by obtain ⟨a, c, d, rfl, _⟩ := h; rfl) fun cdv A outer s0 H E b eo hr Z => ⟨_, dss_one (ds_ret (DE.dt (de_lc rfl sc__law_rows.nd (own := [("_law_k", 4)]) (di_rng1 rfl F.n_range (DE.dt (de_var 1))) (blk_ok (N := ["_law_bag_here", "_law_many", "_law_size", "_law_most", "_law_k"]) (by kernel_rfl)) (fun _ _ _ _ _ => dg_name (i := 4) sc__law_rows.nd rfl (.inl rfl)) (fun _ _ _ _ _ => dts_nil) (fun _ _ _ _ _ => de_ca (fc__law_places_3 F) mn_places (hr.mono (by decide)) F.g__law_places F.d__law_places.kp cz_none (dca_pos (da_cons (de_var 0) (da_cons (de_var 2) (da_cons (de_var 3) (da_nil))))))))), fun ds k h => ?_⟩
  obtain ⟨c, n, m, rfl, c0, c1, n0, n1, m0, m1, hk⟩ := h
  exists dl
  refine ⟨⟨by omega, by omega⟩, ?_⟩
  refine lcD_rel (fun _ y => ∃ l : List Int, ((l.length : Int) = n ∧ ∀ x ∈ l, -m ≤ x ∧ x ≤ m) ∧ y = .lst (dints l)) _ _ _ (fun d hd kk hkk => ?_) ?_ (fun ys hys => ?_)
  · exact ⟨n, m, rfl, n0, n1, m0, m1, fun l h1 h2 => hkk _ ⟨l, ⟨h1, h2⟩, rfl⟩⟩
  · rw [rngD_len]; simp only [List.length_nil]; omega
  · obtain ⟨ls, rfl, h1, h2⟩ := fa2_rows hys
    rw [List.nil_append]
    exact hk ls (by rw [h1]; exact rng_len c0) h2
theorem fc__law_rows_4 (F : Facts K mg) : FnC P w K mg base 3 (He.ga K "_law_rows") [] (lift K s_lrows) := FnOk.c0 (ok__law_rows F) (F.d__law_rows.bindsN fun _ _ _ _ _ _ us hl => match us, hl with | [_, _, _, _], _ => rfl)
theorem ok__law_of (F : Facts K mg) : FnOk P w K mg base (L2.CX P w) 2 (He.ga K "_law_of") (fdOf K (He.ga K "_law_of")) ["_law_bag_here", "_law_things"] (lift K sOf) := by
  refine okD F.d__law_of sc__law_of (fun ds k e h => by obtain ⟨d, rfl, _⟩ := h; rfl) fun cdv A outer s0 H E b eo hr Z => ⟨_, dss_one (ds_ret (DE.dt (de_ix (de_var 1) (DE.dt (de_ca (fc__law_draw_2 F) sDraw_mn (hr.mono (by decide)) F.g__law_draw F.d__law_draw.kp cz_none (dca_pos (da_cons (de_var 0) (da_cons (de_callB call_len3 cl_len rfl F.n_len rfl (DE.dt (de_var 1))) (da_nil))))))))), fun ds k h => ?_⟩
  obtain ⟨x, rfl, h0, hl, hk⟩ := h
  exists dl
  have key : ∀ n : Int, n = ((itemsD x).length : Int) → sDraw [D.bag, D.int n] (fun y => dIx x y k) fun x => False := fun n e => by
    have hp : 0 < (itemsD x).length := List.length_pos_iff.mpr h0
    refine ⟨n, rfl, by omega, DivOk.of (n := 30) (by omega) (by unfold Sz; rw [e, Int.natAbs_natCast]; exact Nat.lt_of_le_of_lt hl (by decide)) (by decide), fun d a c => dIx_of hl a (by omega) hk⟩
  cases x with
  | lst ds => exact key _ rfl
  | tup ds => exact key _ rfl
  | str z =>
    have el : (itemsD (.str z)).length = z.length := by simp [itemsD, DL.signs, Str.length]
    exact ⟨by rw [← el]; exact hl, key _ (by rw [el])⟩
  | _ => exact absurd rfl h0
theorem fc__law_of_2 (F : Facts K mg) : FnC P w K mg base 2 (He.ga K "_law_of") [] (lift K sOf) := FnOk.c0 (ok__law_of F) (F.d__law_of.bindsN fun _ _ _ _ _ _ us hl => match us, hl with | [_, _], _ => rfl)
theorem perm_erase {α : Type} : ∀ (l : List α) (i : Nat) (h : i < l.length), (l[i] :: l.eraseIdx i).Perm l
  | [], i, h => by simp at h
  | x :: r, 0, h => List.Perm.refl _
  | x :: r, i + 1, h => by
    have ih := perm_erase r i (by simpa using h)
    exact (List.Perm.swap x _ _).trans (ih.cons x)
def s_mixed : GS := fun ds k _ => ∃ xs : List D, ds = [.bag, .lst xs] ∧ xs.length ≤ 1000 ∧ ∀ ys : List D, ys.Perm xs → k (.lst ys)
theorem mn_mixed : MnS s_mixed := fun ds k k' e e' h1 _ ⟨xs, h, g, q⟩ => ⟨xs, h, g, fun ys p => h1 _ (q ys p)⟩
theorem ok__law_mixed (F : Facts K mg) : FnOk P w K mg base (L2.CX P w) 2 (He.ga K "_law_mixed") (fdOf K (He.ga K "_law_mixed")) ["_law_bag_here", "_law_things"] (lift K s_mixed) := by
  refine okD F.d__law_mixed sc__law_mixed (fun ds k e h => by obtain ⟨a, rfl, _⟩ := h; rfl) fun cdv A outer s0 H E b eo hr Z => ⟨_, dss_cons (ds_parF (i := 2) (j := 3) rfl sc__law_mixed.nd rfl rfl (by decide) rfl rfl (df_list rfl F.n_list (de_var 1)) (df_lst (da_nil)) rfl)
    (dss_cons (ds_for (passes_of rfl) rfl (di_rng1 rfl F.n_range (DE.dt (de_callB call_len3 cl_len rfl F.n_len rfl (DE.dt (de_var 1))))) (dg_name (i := 4) sc__law_mixed.nd rfl (.inl rfl)) (dss_one (ds_pshPop (i := 3) (j := 2) rfl rfl (by first | exact Or.inl rfl | exact Or.inr (Or.inl rfl) | exact Or.inr (Or.inr rfl)) (by first | exact Or.inl rfl | exact Or.inr (Or.inl rfl) | exact Or.inr (Or.inr rfl)) (de_ca (fc__law_draw_2 F) sDraw_mn (hr.mono (by decide)) F.g__law_draw F.d__law_draw.kp cz_none (dca_pos (da_cons (de_var 0) (da_cons (de_callB call_len3 cl_len rfl F.n_len rfl (dt_var 2)) (da_nil))))))))
    (dss_one (ds_ret (dt_var 3)))), fun ds k h => ?_⟩
  obtain ⟨xs, rfl, hl, hk⟩ := h
  suffices z : Stp _ from z.run
  show Stp (gSeq _ _ _ [SD.sh .bag, SD.sh (.lst xs), SD.unset, SD.unset, SD.unset])
  exists nx; (with_reducible apply s_parF); exists ev; exists ev; exists pt; exists pt
  with_reducible apply s_for
  · refine evi_rng (j := (xs.length : Int)) ?_ ⟨by omega, by omega⟩
    exists ev
  have key : ∀ (ds : List D) (ls fs : List D) (t : SD) (D' : EndD), ds.length = ls.length → ls.length + fs.length ≤ 1000 → (∀ t fs', fs'.Perm (ls ++ fs) → D'.nx [.sh .bag, .sh (.lst xs), .own [], .own fs', t]) → forD (.nm 4) (gPshPop 3 2 (gCa sDraw (fun _ => False) (gCons (gVar 0) (gCons (g1 dLen3 (gVarT 2)) gNil)))) ds D' [.sh .bag, .sh (.lst xs), .own ls, .own fs, t] := by
    intro ds
    induction ds with
    | nil =>
      intro ls fs t D' h1 h2 q
      have : ls = [] := List.length_eq_zero_iff.mp h1.symm
      subst this
      exact q t fs (List.Perm.refl _)
    | cons d r ih =>
      intro ls fs t D' h1 h2 q
      have hp : 0 < ls.length := by rw [← h1]; simp
      refine ⟨by decide, (ls.length : Int), rfl, by omega, DivOk.of (n := 30) (by omega) (Sz.of_lt (by omega) (by omega)) (by decide), fun m m0 m1 => ⟨m0, by omega, by omega, ?_⟩⟩
      have hm : m.toNat < ls.length := by omega
      rw [List.getElem?_eq_getElem hm]
      refine ih (ls.eraseIdx m.toNat) (fs ++ [ls[m.toNat]]) _ _ ?_ ?_ ?_
      · rw [List.length_eraseIdx_of_lt hm]; simp only [List.length_cons] at h1; omega
      · rw [List.length_eraseIdx_of_lt hm, List.length_append, List.length_singleton]; omega
      · intro t' fs' p
        refine q t' fs' (p.trans ?_)
        have e : (ls.eraseIdx m.toNat ++ (fs ++ [ls[m.toNat]])).Perm (ls[m.toNat] :: (ls.eraseIdx m.toNat ++ fs)) := by
          rw [← List.append_assoc]
          exact List.perm_append_singleton _ _
        exact e.trans ((perm_erase ls m.toNat hm).append_right fs)
  refine ⟨?_⟩
  refine key (rngD 0 (xs.length : Int).toNat) xs [] _ _ (by rw [rngD_len]; omega) (by simpa using hl) (fun t fs' p => ?_)
  refine (show Stp _ from ?_).run
  exists nx; (with_reducible apply s_ret); exists ev
  exact ⟨hk fs' (by simpa using p)⟩
theorem fc__law_mixed_2 (F : Facts K mg) : FnC P w K mg base 2 (He.ga K "_law_mixed") [] (lift K s_mixed) := FnOk.c0 (ok__law_mixed F) (F.d__law_mixed.bindsN fun _ _ _ _ _ _ us hl => match us, hl with | [_, _], _ => rfl)
def numD : D → Bool | .int _ => true | _ => false
def s_is_number : GS := fun ds k _ => ∃ d, ds = [d] ∧ askD CLS d = true ∧ k (.bl (numD d))
theorem mn_is_number : MnS s_is_number := fun ds k k' e e' h1 _ ⟨d, h, h2, q⟩ => ⟨d, h, h2, h1 _ q⟩
theorem ok_is_number (F : Facts K mg) : FnOk P w K mg base (L2.CX P w) 2 (He.ga K "is_number") (fdOf K (He.ga K "is_number")) ["value"] (lift K s_is_number) := by
  refine okD F.d_is_number sc_is_number (fun ds k e h => by obtain ⟨d, rfl, _⟩ := h; rfl) fun cdv A outer s0 H E b eo hr Z => ⟨_, dss_one (ds_ret (DE.dt (de_and (DE.dt (de_isi (k := .ty .int) F.W (by simp [KC.ok]) (DE.dt (de_var 0)) (pe_kty rfl F.n_int rfl) rfl F.n_isinstance)) (de_one (de_not (DE.dt (de_isi (k := .ty .bl) F.W (by simp [KC.ok]) (DE.dt (de_var 0)) (pe_kty rfl F.n_bool rfl) rfl F.n_isinstance))))))), fun ds k h => ?_⟩
  obtain ⟨d, rfl, h1, h2⟩ := h
  exists dl
  refine ⟨h1, ?_⟩
  cases d <;> first | exact h2 | exact ⟨h1, h2⟩
theorem sr_is_number {d : D} (h : askD CLS d = true) : SR s_is_number [d] (.bl (numD d)) := .mk fun k e q => ⟨d, rfl, h, q⟩
local macro_rules
  | `(tactic| exists $i:ident) => match i.getId.eraseMacroScopes with
    | `es => `(tactic| ((with_reducible (first | apply sr_is_number))))
    | _ => Lean.Macro.throwUnsupported
theorem fc_is_number_1 (F : Facts K mg) : FnC P w K mg base 2 (He.ga K "is_number") [] (lift K s_is_number) := FnOk.c0 (ok_is_number F) (F.d_is_number.bindsN fun _ _ _ _ _ _ us hl => match us, hl with | [_], _ => rfl)
theorem ok_InvalidNumber_init (F : Facts K mg) : FnOk P w K mg base (L2.CX P w) 1 (He.ma K (He.ga K "InvalidNumber") "__init__") (fdOf K (He.ma K (He.ga K "InvalidNumber") "__init__")) ["self", "given"] (spErr (He.ga K "InvalidNumber") "InvalidNumber" ["given"]) := by
  refine F.d_InvalidNumber_init.ok sc_InvalidNumber_init (fun vs H Q E h => by obtain ⟨a, ws, rfl, hl, _⟩ := h; simpa using hl) fun cdv A outer s H vs Q E hr h => ⟨_, (pss_cons (ps_expr (pe_bsinit rfl F.g_StrideError F.base (pa_cons (pe_var (i := 0) rfl (.inl rfl)) (pa_cons pe_str pa_nil)))) (pss_cons (ps_osE .ve (pe_var (i := 0) rfl (.inl rfl)) pe_str) (pss_one (ps_osE .ve (pe_var (i := 0) rfl (.inl rfl)) (pe_var (i := 1) rfl (.inl rfl)))))), ?_⟩
  exact err_read1 F.e_InvalidNumber.C h rfl
theorem ok_ZeroDivisor_init (F : Facts K mg) : FnOk P w K mg base (L2.CX P w) 1 (He.ma K (He.ga K "ZeroDivisor") "__init__") (fdOf K (He.ma K (He.ga K "ZeroDivisor") "__init__")) ["self"] (spErr (He.ga K "ZeroDivisor") "ZeroDivisor" []) := by
  refine F.d_ZeroDivisor_init.ok sc_ZeroDivisor_init (fun vs H Q E h => by obtain ⟨a, ws, rfl, hl, _⟩ := h; simpa using hl) fun cdv A outer s H vs Q E hr h => ⟨_, (pss_cons (ps_expr (pe_bsinit rfl F.g_StrideError F.base (pa_cons (pe_var (i := 0) rfl (.inl rfl)) (pa_cons pe_str pa_nil)))) (pss_one (ps_osE .ve (pe_var (i := 0) rfl (.inl rfl)) pe_str))), ?_⟩
  exact err_read0 F.e_ZeroDivisor.C h rfl
abbrev RNS : List Str := ["top", "bottom"]
abbrev rat (t b : Int) : D := .ins "Ratio" RNS [.int t, .int b]
def gI (a b : Int) : Int := ((Nat.gcd a.natAbs b.natAbs : Nat) : Int)
def cmI (a b : Int) : Int := if 0 < b then gI a b else -gI a b
def lowP (a b : Int) : Int × Int := (a.fdiv (cmI a b), b.fdiv (cmI a b))
abbrev ratP (p : Int × Int) : D := rat p.1 p.2
theorem gI_dvd1 (a b : Int) : gI a b ∣ a := by
  unfold gI
  exact Int.ofNat_dvd_left.mpr (Nat.gcd_dvd_left _ _)
theorem gI_dvd2 (a b : Int) : gI a b ∣ b := by
  unfold gI
  exact Int.ofNat_dvd_left.mpr (Nat.gcd_dvd_right _ _)
theorem fdiv_negG {g a : Int} (h : g ∣ a) : a.fdiv (-g) = 0 - a.fdiv g := by
  obtain ⟨m, rfl⟩ := h
  by_cases z : g = 0
  · subst z; simp
  · rw [Int.mul_fdiv_cancel_left m z, show g * m = (-g) * (-m) by rw [Int.neg_mul_neg], Int.mul_fdiv_cancel_left (-m) (by omega)]
    omega
theorem gI_ok {a b : Int} (h : b ≠ 0) (h2 : Sz 4000 b) : DivOk (gI a b) ∧ DivOk (-gI a b) := by
  have hb : 0 < b.natAbs := by omega
  have h3 : Nat.gcd a.natAbs b.natAbs ≤ b.natAbs := Nat.le_of_dvd hb (Nat.gcd_dvd_right _ _)
  have h4 : 0 < Nat.gcd a.natAbs b.natAbs := Nat.gcd_pos_of_pos_right _ hb
  unfold gI
  constructor
  · refine DivOk.of (n := 4000) (by omega) ?_ (by decide)
    unfold Sz at h2 ⊢
    rw [Int.natAbs_natCast]; omega
  · refine DivOk.of (n := 4000) (by omega) ?_ (by decide)
    unfold Sz at h2 ⊢
    rw [Int.natAbs_neg, Int.natAbs_natCast]; omega
def RinitR (x y : D) (k : List Str → List D → Prop) (e : XD → Prop) : Prop := match x, y with
  | .int t, .int b => (b = 0 ∧ e (errX "ZeroDivisor" "ZeroDivisor" [] [])) ∨ (b ≠ 0 ∧ Sz 4000 b ∧ k RNS [.int (lowP t b).1, .int (lowP t b).2])
  | .int _, y => e (errX "InvalidNumber" "InvalidNumber" ["given"] [y])
  | x, _ => e (errX "InvalidNumber" "InvalidNumber" ["given"] [x])
def s_Rinit : GSI := fun c ns fs ds k e => ∃ x y, c = "Ratio" ∧ ns = [] ∧ fs = [] ∧ ds = [x, y] ∧ askD CLS x = true ∧ askD CLS y = true ∧ RinitR x y k e
theorem mn_Rinit : MnSI s_Rinit := fun c ns fs ds k k' e e' h1 h2 ⟨x, y, e1, e2, e3, e4, g1, g2, q⟩ => ⟨x, y, e1, e2, e3, e4, g1, g2, by
  cases x with
  | int t =>
    cases y with
    | int b => exact q.imp (fun z => ⟨z.1, h2 _ z.2⟩) (fun z => ⟨z.1, z.2.1, h1 _ _ z.2.2⟩)
    | _ => exact h2 _ q
  | _ => cases y <;> exact h2 _ q⟩
theorem Rinit_ok {t b : Int} {k : List Str → List D → Prop} {e : XD → Prop} (h : b ≠ 0) (h2 : Sz 4000 b) (q : k RNS [.int (lowP t b).1, .int (lowP t b).2]) : s_Rinit "Ratio" [] [] [.int t, .int b] k e := ⟨_, _, rfl, rfl, rfl, rfl, rfl, rfl, .inr ⟨h, h2, q⟩⟩
theorem ok_Ratio_init (F : Facts K mg) : FnOk P w K mg base (L2.CX P w) 3 (He.ma K (He.ga K "Ratio") "__init__") (fdOf K (He.ma K (He.ga K "Ratio") "__init__")) ["self", "top", "bottom"] (liftI K s_Rinit) := by
  refine okI F.d_Ratio_init sc_Ratio_init (fun c ns fs ds k e h => by obtain ⟨x, y, _, _, _, rfl, _⟩ := h; rfl) fun cdv A outer s0 Hc H E b eo hr Z c ns fs ds k h => ?_
  refine ⟨_, dss_cons (ds_for (passes_of rfl) rfl (di_seq (de_tup (da_cons (de_var 1) (da_cons (de_var 2) (da_nil))))) (dg_name (i := 3) sc_Ratio_init.nd rfl (.inl rfl)) (dss_one (ds_if (db_not (db_val (DE.dt (de_ca (fc_is_number_1 F) mn_is_number (hr.mono (by decide)) F.g_is_number F.d_is_number.kp cz_none (dca_pos (da_cons (de_var 3) (da_nil))))))) (dss_one (ds_raise (takes_of rfl rfl rfl rfl) Z rfl F.e_InvalidNumber (ok_InvalidNumber_init F) (hr.mono (by decide)) (bi_InvalidNumber_init F) .nil (fun _ _ => Reps.nil) (passes_call (takes_of rfl rfl rfl rfl) fun _ _ _ _ z => z.elim) rfl F.g_InvalidNumber (da_cons (de_var 3) (da_nil)))) (dss_nil))))
    (dss_cons (ds_if (db_eqA hr (DE.dt (de_var 2)) (DE.dt (de_int))) (dss_one (ds_raise0 (takes_of rfl rfl rfl rfl) Z rfl F.e_ZeroDivisor (ok_ZeroDivisor_init F) (hr.mono (by decide)) (bi_ZeroDivisor_init F) .nil (fun _ _ => Reps.nil) (passes_call (takes_of rfl rfl rfl rfl) fun _ _ _ _ z => z.elim) rfl F.g_ZeroDivisor)) (dss_nil))
    (dss_cons (ds_asg (i := 4) sc_Ratio_init.nd rfl (.inl rfl) (de_if (db_gt (DE.dt (de_var 2)) (DE.dt (de_int))) (de_callBN cr_gcd cl_gcd rfl F.b_gcd (dat_cons (DE.dt (de_var 1)) (dat_cons (DE.dt (de_var 2)) (dat_nil)))) (de_neg (DE.dt (de_callBN cr_gcd cl_gcd rfl F.b_gcd (dat_cons (DE.dt (de_var 1)) (dat_cons (DE.dt (de_var 2)) (dat_nil))))))))
    (dss_cons (ds_self (i := 0) (c := "Ratio") (ns0 := []) (de_div (DE.dt (de_var 1)) (DE.dt (de_var 4))) F.c_Ratio F.a_Ratio_top (by decide) (by decide))
    (dss_one (ds_self (i := 0) (c := "Ratio") (ns0 := ["top"]) (de_div (DE.dt (de_var 2)) (DE.dt (de_var 4))) F.c_Ratio F.a_Ratio_bottom (by decide) (by decide)))))), fun a dx => ?_⟩
  obtain ⟨x, y, rfl, rfl, rfl, rfl, g1, g2, h⟩ := h
  cases x with
  | int t =>
    cases y with
    | int bo =>
      refine ⟨by show 2 ≤ 1000; decide, _, rfl, rfl, _, rfl, rfl, ?_⟩
      rcases h with ⟨rfl, he⟩ | ⟨hb, hs, hk⟩
      · exact ⟨rfl, by decide, he⟩
      · have e0 : (bo == 0) = false := beq_eq_false_iff_ne.mpr hb
        have hk : k RNS [.int (t.fdiv (cmI t bo)), .int (bo.fdiv (cmI t bo))] := hk
        obtain ⟨d1, d2⟩ := gI_ok (a := t) hb hs
        show match (bo == 0) with | true => _ | false => _
        rw [e0]
        show match decide ((0 : Int) < bo) with | true => _ | false => _
        unfold cmI at hk
        by_cases c : 0 < bo
        · rw [if_pos c] at hk
          rw [decide_eq_true c]
          exact ⟨d1, rfl, rfl, d1, rfl, rfl, rfl, rfl, rfl, hk⟩
        · rw [if_neg c] at hk
          rw [decide_eq_false c]
          exact ⟨d2, rfl, rfl, d2, rfl, rfl, rfl, rfl, rfl, hk⟩
    | _ => exact ⟨by show 2 ≤ 1000; decide, _, rfl, rfl, _, rfl, g2, rfl, (by show 1 ≤ 900; decide), h⟩
  | _ => exact ⟨by show 2 ≤ 1000; decide, _, rfl, g1, rfl, (by show 1 ≤ 900; decide), h⟩
theorem sri_Rinit {t b : Int} (h : b ≠ 0) (h2 : Sz 4000 b) : SRI s_Rinit "Ratio" [.int t, .int b] RNS [.int (lowP t b).1, .int (lowP t b).2] := .mk fun k e q => Rinit_ok h h2 q
local macro_rules
  | `(tactic| exists $i:ident) => match i.getId.eraseMacroScopes with
    | `es => `(tactic| ((with_reducible (first | apply sr_is_number | apply sri_Rinit))))
    | _ => Lean.Macro.throwUnsupported
theorem fc_Ratio_init_2 (F : Facts K mg) : FnC P w K mg base 3 (He.ma K (He.ga K "Ratio") "__init__") [] (liftI K (shpI 2 [0, 1] [.int (1)] s_Rinit)) := FnOk.cbI (n := 2) (ks := []) (dd := [.int (1)]) (dvs := [.int (1)]) (ix := [0, 1]) (ok_Ratio_init F) (fun _ _ => Reps.cons rfl (Reps.nil)) (bnd10 F.d_Ratio_init 3 [] [0, 1, 2] (by simp) fun _ _ _ _ _ _ _ us its ws h1 h2 h3 => match us, its, ws, h1, h2, h3 with | [_, _, _], [_], [], _, _, _ => ⟨_, rfl, rfl⟩)
theorem fc_Ratio_init_1 (F : Facts K mg) : FnC P w K mg base 3 (He.ma K (He.ga K "Ratio") "__init__") [] (liftI K (shpI 1 [0, 1] [.int (1)] s_Rinit)) := FnOk.cbI (n := 1) (ks := []) (dd := [.int (1)]) (dvs := [.int (1)]) (ix := [0, 1]) (ok_Ratio_init F) (fun _ _ => Reps.cons rfl (Reps.nil)) (bnd10 F.d_Ratio_init 2 [] [0, 1, 2] (by simp) fun _ _ _ _ _ _ _ us its ws h1 h2 h3 => match us, its, ws, h1, h2, h3 with | [_, _], [_], [], _, _, _ => ⟨_, rfl, rfl⟩)
/-- n over b, in lowest terms -/
abbrev ratO (b n : Int) : D := ratP (lowP n b)
abbrev rowL (r : List Int) : D := .lst (dints r)
def s_lover : GS := fun ds k _ => ∃ (b : Int) (rows : List (List Int)), ds = [.lst (rows.map rowL), .int b] ∧ 0 < b ∧ Sz 900 b ∧ (rows.length ≤ 10000 ∧ ∀ r ∈ rows, r.length ≤ 10000) ∧ k (.lst (rows.map fun r => .lst (r.map (ratO b))))
theorem mn_lover : MnS s_lover := fun ds k k' e e' h1 _ ⟨b, rows, h, g1, g2, g3, q⟩ => ⟨b, rows, h, g1, g2, g3, h1 _ q⟩
theorem okF__law_over (F : Facts K mg) : FnOk P w K mg base (L2.CX P w) 5 (He.ga K "_law_over") (fdOf K (He.ga K "_law_over")) ["_law_rows_here", "_law_bottom_in"] (liftF K s_lover) := by
  refine okF F.d__law_over sc__law_over (fun ds k e h => by obtain ⟨b, rows, rfl, _⟩ := h; rfl) fun cdv A outer s0 H E b eo hr Z => ⟨_, dssF_one (dsF_ret (df_lc rfl sc__law_over.nd (own := [("_law_row", 3)]) (di_seq (de_var 0)) (blk_ok (N := ["_law_rows_here", "_law_bottom_in", "_law_one", "_law_row"]) (by kernel_rfl)) (fun _ _ _ _ _ => dg_name (i := 3) sc__law_over.nd rfl (.inl rfl)) (fun _ _ _ _ _ => dts_nil) (fun _ _ _ _ _ => de_lc rfl sc__law_over.nd (own := [("_law_one", 2)]) (di_seq (de_var 3)) (blk_ok (N := ["_law_rows_here", "_law_bottom_in", "_law_one", "_law_row"]) (by kernel_rfl)) (fun _ _ _ _ _ => dg_name (i := 2) sc__law_over.nd rfl (.inl rfl)) (fun _ _ _ _ _ => dts_nil) (fun _ _ _ _ _ => de_mk F.k_Ratio (fc_Ratio_init_2 F) (shpI_mn mn_Rinit) (hr.mono (by decide)) F.g_Ratio cz_none (dca_pos (da_cons (de_var 2) (da_cons (de_var 1) (da_nil)))))))), fun ds k h => ?_⟩
  obtain ⟨bo, rows, rfl, b0, zb, hl, hk⟩ := h
  suffices z : Stp _ from z.run
  show Stp (gRet _ _ [SD.sh (.lst (rows.map rowL)), SD.sh (.int bo), SD.unset, SD.unset])
  with_reducible apply s_ret (d := .lst (rows.map fun r => .lst (r.map (ratO bo))))
  · refine ev_lc (l := rows) (gg := rowL) (f := fun r => D.lst (r.map (ratO bo))) (evi_it (ev_var rfl) itr_L) rfl (fun r hr => aev1 ?_) (by omega)
    exact ev_lc (l := r) (gg := D.int) (f := ratO bo) (evi_it (ev_var rfl) itr_L) rfl (fun x hx => aev1 (ev_mk (eva_cons (ev_var rfl) (eva_cons (ev_var rfl) eva_nil)) (sri_shp (es := [.int x, .int bo]) (sri_Rinit (by omega) (zb.mono (by decide))) rfl rfl))) (by have := hl.2 r hr; omega)
  · exact ⟨hk⟩
theorem ok__law_over (F : Facts K mg) : FnOk P w K mg base (L2.CX P w) 5 (He.ga K "_law_over") (fdOf K (He.ga K "_law_over")) ["_law_rows_here", "_law_bottom_in"] (lift K s_lover) := FnOk.ofF mn_lover (okF__law_over F) (fun ds k e ⟨b, rows, h, g1, g2, g3, q⟩ => ⟨b, rows, h, g1, g2, g3, _, rfl, q⟩)
theorem sr_lover {b : Int} {rows : List (List Int)} (b0 : 0 < b) (zb : Sz 900 b) (hl : rows.length ≤ 10000 ∧ ∀ r ∈ rows, r.length ≤ 10000) : SR s_lover [.lst (rows.map rowL), .int b] (.lst (rows.map fun r => .lst (r.map (ratO b)))) := .mk fun k e q => ⟨b, rows, rfl, b0, zb, hl, q⟩
local macro_rules
  | `(tactic| exists $i:ident) => match i.getId.eraseMacroScopes with
    | `es => `(tactic| ((with_reducible (first | apply sr_is_number | apply sri_Rinit | apply sr_lover))))
    | _ => Lean.Macro.throwUnsupported
theorem fc__law_over_2 (F : Facts K mg) : FnC P w K mg base 5 (He.ga K "_law_over") [] (lift K s_lover) := FnOk.c0 (ok__law_over F) (F.d__law_over.bindsN fun _ _ _ _ _ _ us hl => match us, hl with | [_, _], _ => rfl)
theorem s_selfM {c : Str} {ns0 : List Str} {f : Str} {ge : GE} {a dx : Addr} {ds : List D} {d : D} {σ : StD} {v : GSt} {D' : EndD} (A : Ev ge (.obj a dx c ns0 ds :: σ) d) (r : Stp (v D' (.obj a dx c (ns0 ++ [f]) (ds ++ [d]) :: σ))) : Stp (gSeq (gSelf 0 c ns0 f ge) v D' (.obj a dx c ns0 ds :: σ)) := ⟨A _ ⟨rfl, rfl, r.run⟩⟩
theorem s_selfML {c : Str} {ns0 : List Str} {f : Str} {ge : GE} {a dx : Addr} {ds : List D} {d : D} {σ : StD} {D' : EndD} (A : Ev ge (.obj a dx c ns0 ds :: σ) d) (r : Stp (D'.nx (.obj a dx c (ns0 ++ [f]) (ds ++ [d]) :: σ))) : Stp (gSelf 0 c ns0 f ge D' (.obj a dx c ns0 ds :: σ)) := ⟨A _ ⟨rfl, rfl, r.run⟩⟩
theorem forS_enumM {tg : Tgt} {gb : GSt} (R : List D → StD → Prop) {D' : EndD} {l : List D} {σ : StD}
    (h : ∀ (pre : List D) (x : D) (suf : List D), l = pre ++ x :: suf → ∀ (σ : StD) (D2 : EndD), R pre σ → (∀ σ', R (pre ++ [x]) σ' → D2.nx σ') → D2.rt = D'.rt → Stp (asg tg (.tup [.int (pre.length : Int), x]) σ fun σ2 => gb D2 σ2))
    (r : R [] σ) (q : ∀ σ', R l σ' → Stp (D'.nx σ')) : Stp (forD tg gb (enumD 0 l) D' σ) := by
  have := forS_enumP (f := fun x : D => x) R h l [] rfl σ r q
  rwa [List.map_id'] at this
def s_MinitLines : GSI := fun c ns fs ds k e => ∃ x y, c = "Lines" ∧ ns = [] ∧ fs = [] ∧ ds = [x, y] ∧ k ["size", "own_rows"] [x, y]
theorem mn_MinitLines : MnSI s_MinitLines := fun c ns fs ds k k' e e' h1 h2 ⟨x, y, e1, e2, e3, e4, q⟩ => ⟨x, y, e1, e2, e3, e4, h1 _ _ q⟩
theorem ok_Measure_init_Lines (F : Facts K mg) : FnOk P w K mg base (L2.CX P w) 2 (He.ma K (He.ga K "Measure") "__init__") (fdOf K (He.ma K (He.ga K "Measure") "__init__")) ["self", "size", "rows"] (liftI K s_MinitLines) := by
  refine okI F.d_Measure_init_Lines sc_Measure_init_Lines (fun c ns fs ds k e h => by obtain ⟨x, y, _, _, _, rfl, _⟩ := h; rfl) fun cdv A outer s0 Hc H E b eo hr Z c ns fs ds k h => ?_
  refine ⟨_, dss_cons (ds_self (i := 0) (c := "Lines") (ns0 := []) (de_var 1) F.c_Lines F.a_Lines_size (by decide) (by decide))
    (dss_one (ds_self (i := 0) (c := "Lines") (ns0 := ["size"]) (de_var 2) F.c_Lines F.a_Lines_own_rows (by decide) (by decide))), fun a dx => ?_⟩
  obtain ⟨x, y, rfl, rfl, rfl, rfl, hk⟩ := h
  suffices z : Stp _ from z.run
  have e0 : initD ["self", "size", "rows"] a dx "Lines" [] [] [x, y] = [SD.obj a dx "Lines" [] [], .sh x, .sh y] := rfl
  rw [e0]
  apply s_selfM
  · exists ev
  apply s_selfML
  · exists ev
  exact ⟨⟨rfl, rfl, rfl, hk⟩⟩
theorem fc_Measure_init_Lines_2 (F : Facts K mg) : FnC P w K mg base 2 (He.ma K (He.ga K "Measure") "__init__") [] (liftI K s_MinitLines) := FnOk.c0 (ok_Measure_init_Lines F) (F.d_Measure_init_Lines.bindsN fun _ _ _ _ _ _ us hl => match us, hl with | [_, _, _], _ => rfl)
theorem ok_InvalidRows_init (F : Facts K mg) : FnOk P w K mg base (L2.CX P w) 1 (He.ma K (He.ga K "InvalidRows") "__init__") (fdOf K (He.ma K (He.ga K "InvalidRows") "__init__")) ["self", "at"] (spErr (He.ga K "InvalidRows") "InvalidRows" ["at"]) := by
  refine F.d_InvalidRows_init.ok sc_InvalidRows_init (fun vs H Q E h => by obtain ⟨a, ws, rfl, hl, _⟩ := h; simpa using hl) fun cdv A outer s H vs Q E hr h => ⟨_, (pss_cons (ps_expr (pe_bsinit rfl F.g_StrideError F.base (pa_cons (pe_var (i := 0) rfl (.inl rfl)) (pa_cons pe_str pa_nil)))) (pss_cons (ps_osE .ve (pe_var (i := 0) rfl (.inl rfl)) pe_str) (pss_one (ps_osE .ve (pe_var (i := 0) rfl (.inl rfl)) (pe_var (i := 1) rfl (.inl rfl)))))), ?_⟩
  exact err_read1 F.e_InvalidRows.C h rfl
theorem ask_rat (p q : Int) : askD CLS (rat p q) = true := by
  show CLS.contains "Ratio" = true
  decide +kernel
theorem isA_Ratio (ns : List Str) (xs : List D) : isAny subC [KC.own "Ratio"] (.ins "Ratio" ns xs) = true := by
  show (subC "Ratio" "Ratio" || false) = true
  decide +kernel
theorem low_one (n : Int) : lowP n 1 = (n, 1) := by
  have e : gI n 1 = 1 := by
    unfold gI
    rw [show (1 : Int).natAbs = 1 from rfl, Nat.gcd_one_right]; rfl
  unfold lowP cmI
  rw [if_pos (by decide), e]
  simp
/-- y stands for the fraction r / s -/
def isP (y : D) (r s : Int) : Prop := y = rat r s ∨ (y = .int r ∧ s = 1)
def oddP : D → Bool | .int _ => false | .ins _ _ _ => false | _ => true
def partB : D → Bool | .int _ => true | .ins c _ _ => decide (c = "Ratio") | _ => false
def s_is_part : GS := fun ds k _ => ∃ d, ds = [d] ∧ askD CLS d = true ∧ (∀ c ns xs, d = .ins c ns xs → c = "Ratio" ∨ (c ≠ "Ratio" ∧ subC c "Ratio" = false)) ∧ k (.bl (partB d))
theorem mn_is_part : MnS s_is_part := fun ds k k' e e' h1 _ ⟨d, h, h2, h3, q⟩ => ⟨d, h, h2, h3, h1 _ q⟩
theorem ok_is_part (F : Facts K mg) : FnOk P w K mg base (L2.CX P w) 3 (He.ga K "is_part") (fdOf K (He.ga K "is_part")) ["value"] (lift K s_is_part) := by
  refine okD F.d_is_part sc_is_part (fun ds k e h => by obtain ⟨a, rfl, _⟩ := h; rfl) fun cdv A outer s0 H E b eo hr Z => ⟨_, dss_one (ds_ret (DE.dt (de_or (DE.dt (de_ca (fc_is_number_1 F) mn_is_number (hr.mono (by decide)) F.g_is_number F.d_is_number.kp cz_none (dca_pos (da_cons (de_var 0) (da_nil))))) (de_one (de_isi (k := .own "Ratio") F.W (by simp [KC.ok]) (DE.dt (de_var 0)) (pe_kown rfl F.g_Ratio) rfl F.n_isinstance))))), fun ds k h => ?_⟩
  obtain ⟨d, rfl, h1, hc, hk⟩ := h
  refine ⟨d, rfl, h1, ?_⟩
  cases d with
  | int i => exact hk
  | ins c ns xs =>
    rcases hc c ns xs rfl with e | ⟨e, e2⟩
    · subst e
      refine ⟨h1, ?_⟩
      rw [isA_Ratio]
      exact hk
    · refine ⟨h1, ?_⟩
      rw [show isAny subC [KC.own "Ratio"] (.ins c ns xs) = false by show (subC c "Ratio" || false) = false; rw [e2]; rfl]
      rw [show partB (.ins c ns xs) = false from decide_eq_false e] at hk
      exact hk
  | bag => cases h1
  | clo o => cases h1
  | _ => exact ⟨h1, hk⟩
theorem fc_is_part_1 (F : Facts K mg) : FnC P w K mg base 3 (He.ga K "is_part") [] (lift K s_is_part) := FnOk.c0 (ok_is_part F) (F.d_is_part.bindsN fun _ _ _ _ _ _ us hl => match us, hl with | [_], _ => rfl)
theorem ok_TooMany_init (F : Facts K mg) : FnOk P w K mg base (L2.CX P w) 1 (He.ma K (He.ga K "TooMany") "__init__") (fdOf K (He.ma K (He.ga K "TooMany") "__init__")) ["self", "most", "subject"] (spErr (He.ga K "TooMany") "TooMany" ["most", "subject"]) := by
  refine F.d_TooMany_init.ok sc_TooMany_init (fun vs H Q E h => by obtain ⟨a, ws, rfl, hl, _⟩ := h; simpa using hl) fun cdv A outer s H vs Q E hr h => ⟨_, (pss_cons (ps_expr (pe_bsinit rfl F.g_StrideError F.base (pa_cons (pe_var (i := 0) rfl (.inl rfl)) (pa_cons pe_str pa_nil)))) (pss_cons (ps_osE .ve (pe_var (i := 0) rfl (.inl rfl)) pe_str) (pss_cons (ps_osE .ve (pe_var (i := 0) rfl (.inl rfl)) (pe_var (i := 1) rfl (.inl rfl))) (pss_one (ps_osE .ve (pe_var (i := 0) rfl (.inl rfl)) (pe_var (i := 2) rfl (.inl rfl))))))), ?_⟩
  exact err_read2 F.e_TooMany.C h rfl
def ratRd (d : D) (k : D → Prop) (e : XD → Prop) : Prop := match d with
  | .ins c ns fs => c = "Ratio" ∧ k (.ins c ns fs)
  | .int n => k (rat n 1)
  | d => e (errX "InvalidNumber" "InvalidNumber" ["given"] [d])
def s_ratio_of : GS := fun ds k e => ∃ d, ds = [d] ∧ askD CLS d = true ∧ ratRd d k e
theorem mn_ratio_of : MnS s_ratio_of := fun ds k k' e e' h1 h3 ⟨d, h, h2, q⟩ => ⟨d, h, h2, by cases d <;> first | exact ⟨q.1, h1 _ q.2⟩ | exact h1 _ q | exact h3 _ q⟩
theorem ratio_ofP {y : D} {r s : Int} {k : D → Prop} {e : XD → Prop} (h : isP y r s) (q : k (rat r s)) : s_ratio_of [y] k e := by
  rcases h with rfl | ⟨rfl, rfl⟩
  · exact ⟨_, rfl, ask_rat r s, rfl, q⟩
  · exact ⟨_, rfl, rfl, q⟩
theorem ok_ratio_of (F : Facts K mg) : FnOk P w K mg base (L2.CX P w) 5 (He.ga K "ratio_of") (fdOf K (He.ga K "ratio_of")) ["value"] (lift K s_ratio_of) := by
  refine okD F.d_ratio_of sc_ratio_of (fun ds k e h => by obtain ⟨a, rfl, _⟩ := h; rfl) fun cdv A outer s0 H E b eo hr Z => ⟨_, dss_cons (ds_if (db_val (DE.dt (de_isi (k := .own "Ratio") F.W (by simp [KC.ok]) (DE.dt (de_var 0)) (pe_kown rfl F.g_Ratio) rfl F.n_isinstance))) (dss_one (ds_ret (DE.dt (de_var 0)))) (dss_nil))
    (dss_cons (ds_if (db_not (db_val (DE.dt (de_ca (fc_is_number_1 F) mn_is_number (hr.mono (by decide)) F.g_is_number F.d_is_number.kp cz_none (dca_pos (da_cons (de_var 0) (da_nil))))))) (dss_one (ds_raise (takes_of rfl rfl rfl rfl) Z rfl F.e_InvalidNumber (ok_InvalidNumber_init F) (hr.mono (by decide)) (bi_InvalidNumber_init F) .nil (fun _ _ => Reps.nil) (passes_call (takes_of rfl rfl rfl rfl) fun _ _ _ _ z => z.elim) rfl F.g_InvalidNumber (da_cons (de_var 0) (da_nil)))) (dss_nil))
    (dss_one (ds_ret (DE.dt (de_mk F.k_Ratio (fc_Ratio_init_1 F) (shpI_mn mn_Rinit) (hr.mono (by decide)) F.g_Ratio Z (dca_pos (da_cons (de_var 0) (da_nil)))))))), fun ds k h => ?_⟩
  obtain ⟨d, rfl, h1, h⟩ := h
  cases d with
  | ins c ns fs =>
    obtain ⟨rfl, hk⟩ := h
    refine ⟨h1, ?_⟩
    rw [isA_Ratio]
    exact hk
  | int n =>
    refine ⟨rfl, _, rfl, rfl, rfl, Rinit_ok (by decide) (by unfold Sz; decide) ?_⟩
    rw [low_one]
    exact h
  | bag => cases h1
  | clo o => cases h1
  | _ => exact ⟨h1, _, rfl, h1, rfl, (by show 1 ≤ 900; decide), h⟩
theorem fc_ratio_of_1 (F : Facts K mg) : FnC P w K mg base 5 (He.ga K "ratio_of") [] (lift K s_ratio_of) := FnOk.c0 (ok_ratio_of F) (F.d_ratio_of.bindsN fun _ _ _ _ _ _ us hl => match us, hl with | [_], _ => rfl)
/-- a number or a fraction -/
def goodE (d : D) : Prop := (∃ i, d = .int i) ∨ ∃ p q, d = rat p q
/-- what may stand in a row -/
def askE (d : D) : Prop := askD CLS d = true ∧ ∀ c ns xs, d = .ins c ns xs → c = "Ratio"
def ratV : D → D | .int n => rat n 1 | d => d
theorem goodE.ask {d : D} (h : goodE d) : askE d := by
  rcases h with ⟨i, rfl⟩ | ⟨p, q, rfl⟩
  · exact ⟨rfl, fun c ns xs e => by cases e⟩
  · exact ⟨ask_rat p q, fun c ns xs e => by cases e; rfl⟩
theorem goodE.part {d : D} (h : goodE d) : partB d = true := by
  rcases h with ⟨i, rfl⟩ | ⟨p, q, rfl⟩ <;> rfl
theorem sr_partE {d : D} (h : askE d) : SR s_is_part [d] (.bl (partB d)) := .mk fun k e q => ⟨d, rfl, h.1, fun c ns xs e => .inl (h.2 c ns xs e), q⟩
theorem sr_ratE {d : D} (h : goodE d) : SR s_ratio_of [d] (ratV d) := .mk fun k e q => by
  rcases h with ⟨i, rfl⟩ | ⟨p, q2, rfl⟩
  · exact ⟨_, rfl, rfl, q⟩
  · exact ⟨_, rfl, ask_rat p q2, rfl, q⟩
def szB : D → Bool | .int n => decide (1 ≤ n) && decide (n ≤ 4) | _ => false
def lstB (y : D) : Bool := match y with | .lst _ => true | .tup _ => true | .frl _ _ => true | _ => false
def notF (y : D) : Bool := match y with | .frl _ _ => false | _ => true
def itemsS (y : D) : List D := match y with | .lst xs => xs | .tup xs => xs | .frl _ xs => xs | _ => []
def rowOk (n : Int) (r : D) : Prop := (∃ es, (r = .lst es ∨ r = .tup es) ∧ (es.length : Int) = n ∧ ∀ d ∈ es, goodE d)
def rowBad (n : Int) (b : D) : Prop := askD CLS b = true ∧ ((lstB b = false ∧ notF b = true) ∨ ∃ es, (b = .lst es ∨ b = .tup es) ∧ (es.length : Int) ≤ 1000 ∧ ((es.length : Int) ≠ n ∨ ((∀ d ∈ es, askE d) ∧ es.all partB = false)))
def rowR (r : D) : D := .tup ((itemsS r).map ratV)
theorem bls_of2 : ∀ bs : List Bool, blsOf (bs.map D.bl) = some bs
  | [] => rfl
  | x :: r => by
    show (blsOf (r.map D.bl)).map (x :: ·) = _
    rw [bls_of2 r]; rfl
theorem all_bls2 {bs : List Bool} {k : D → Prop} (q : k (.bl (bs.all id))) : dAll (.lst (bs.map D.bl)) k := by
  show match blsOf (bs.map D.bl) with | some ns => k (.bl (ns.all id)) | none => False
  rw [bls_of2]; exact q
theorem ev_lcB {gi : GI} {tg : Tgt} {vs : List Nat} {ge : GE} {σ : StD} {ds : List D} {l : List D} (p : D → Bool) (I : EvI gi σ ds) (e : ds = l) (h : ∀ w ∈ l, AEv tg w (wipeD σ vs) ge (.bl (p w))) (hl : l.length ≤ 1000000) : Ev (g1 dAll (gLc gi tg gYes ge vs)) σ (.bl (l.all p)) := .mk fun k q => by
  subst e
  refine (ev_lc (gg := fun x : D => x) (f := fun x => .bl (p x)) I (by rw [List.map_id']) h hl).run _ ?_
  have := all_bls2 (bs := ds.map p) (k := k) (by rw [List.all_map]; exact q)
  rw [List.map_map] at this
  exact this
def s_mrows : GS := fun ds k e => ∃ (x y : D) (m : Nat), ds = [x, y, .int m] ∧ askD CLS x = true ∧ askD CLS y = true ∧ (
  (szB x = false ∧ e (errX "InvalidNumber" "InvalidNumber" ["given"] [x])) ∨
  ∃ n : Int, x = .int n ∧ 1 ≤ n ∧ n ≤ 4 ∧ (
    (((lstB y = false ∧ notF y = true) ∨ (lstB y = true ∧ (itemsS y).length < m)) ∧ e (errX "InvalidRows" "InvalidRows" ["at"] [.int (-1)])) ∨
    (lstB y = true ∧ m ≤ (itemsS y).length ∧ (itemsS y).length ≤ 1000 ∧ (
      (∃ pre b rest, itemsS y = pre ++ b :: rest ∧ (∀ r ∈ pre, rowOk n r) ∧ rowBad n b ∧ e (errX "InvalidRows" "InvalidRows" ["at"] [.int (pre.length : Int)])) ∨
      ((∀ r ∈ itemsS y, rowOk n r) ∧ 100 < (itemsS y).length ∧ e (errX "TooMany" "TooMany" ["most", "subject"] [.int 100, .str "rows"])) ∨
      ((∀ r ∈ itemsS y, rowOk n r) ∧ (itemsS y).length ≤ 100 ∧ k (.lst ((itemsS y).map rowR)))))))
theorem mn_mrows : MnS s_mrows := fun ds k k' e e' h1 h2 ⟨x, y, m, a1, a2, a3, q⟩ => ⟨x, y, m, a1, a2, a3, q.imp (fun ⟨b, q⟩ => ⟨b, h2 _ q⟩) fun ⟨n, b1, b2, b3, q⟩ => ⟨n, b1, b2, b3, q.imp (fun ⟨c, q⟩ => ⟨c, h2 _ q⟩) fun ⟨c1, c2, c3, q⟩ => ⟨c1, c2, c3, q.imp (fun ⟨pre, b, rest, d1, d2, d3, q⟩ => ⟨pre, b, rest, d1, d2, d3, h2 _ q⟩) fun q => q.imp (fun ⟨d1, d2, q⟩ => ⟨d1, d2, h2 _ q⟩) fun ⟨d1, d2, q⟩ => ⟨d1, d2, h1 _ q⟩⟩⟩⟩
theorem ok_made_rows (F : Facts K mg) : FnOk P w K mg base (L2.CX P w) 6 (He.ga K "made_rows") (fdOf K (He.ga K "made_rows")) ["size", "rows", "least"] (lift K s_mrows) := by
  refine okD F.d_made_rows sc_made_rows (fun ds k e h => by obtain ⟨a, c, d, rfl, _⟩ := h; rfl) fun cdv A outer s0 H E b eo hr Z => ⟨_, dss_cons (ds_if (DW.db (dw_or (db_not (db_val (DE.dt (de_ca (fc_is_number_1 F) mn_is_number (hr.mono (by decide)) F.g_is_number F.d_is_number.kp cz_none (dca_pos (da_cons (de_var 0) (da_nil))))))) (dw_or1 (db_not (db_lele (DE.dt (de_int)) (DE.dt (de_var 0)) (DE.dt (de_gint rfl F.c_MOST_PLACES_measures.choose_spec))))))) (dss_one (ds_raise (takes_of rfl rfl rfl rfl) Z rfl F.e_InvalidNumber (ok_InvalidNumber_init F) (hr.mono (by decide)) (bi_InvalidNumber_init F) .nil (fun _ _ => Reps.nil) (passes_call (takes_of rfl rfl rfl rfl) fun _ _ _ _ z => z.elim) rfl F.g_InvalidNumber (da_cons (de_var 0) (da_nil)))) (dss_nil))
    (dss_cons (ds_if (DW.db (dw_or (db_not (db_val (DE.dt (de_isiT (ks := [.ty .lst, .ty .tup]) F.W (by simp [KC.ok]) (DE.dt (de_var 1)) (pks_cons (pe_kty rfl F.n_list rfl) (pks_cons (pe_kty rfl F.n_tuple rfl) (pks_nil))) (by decide) rfl F.n_isinstance)))) (dw_or1 (db_lt (DE.dt (de_callB call_len3 cl_len rfl F.n_len rfl (DE.dt (de_var 1)))) (DE.dt (de_var 2)))))) (dss_one (ds_raise (takes_of rfl rfl rfl rfl) Z rfl F.e_InvalidRows (ok_InvalidRows_init F) (hr.mono (by decide)) (bi_InvalidRows_init F) .nil (fun _ _ => Reps.nil) (passes_call (takes_of rfl rfl rfl rfl) fun _ _ _ _ z => z.elim) rfl F.g_InvalidRows (da_cons (de_neg (DE.dt (de_int))) (da_nil)))) (dss_nil))
    (dss_cons (ds_for (passes_of rfl) rfl (di_enum (de_var 1) rfl F.n_enumerate) (dg_tup rfl (dgs_cons (dg_name (i := 3) sc_made_rows.nd rfl (.inl rfl)) (dgs_cons (dg_name (i := 4) sc_made_rows.nd rfl (.inl rfl)) (dgs_nil)))) (dss_one (ds_if (DW.db (dw_or (db_not (db_val (DE.dt (de_isiT (ks := [.ty .lst, .ty .tup]) F.W (by simp [KC.ok]) (DE.dt (de_var 4)) (pks_cons (pe_kty rfl F.n_list rfl) (pks_cons (pe_kty rfl F.n_tuple rfl) (pks_nil))) (by decide) rfl F.n_isinstance)))) (dw_or (db_neA hr (DE.dt (de_callB call_len3 cl_len rfl F.n_len rfl (DE.dt (de_var 4)))) (DE.dt (de_var 0))) (dw_or1 (db_not (db_val (DE.dt (de_callB (cr_all rfl) cl_all rfl F.n_all rfl (DE.dt (de_lc rfl sc_made_rows.nd (own := [("one", 5)]) (di_seq (de_var 4)) (blk_ok (N := ["size", "rows", "least", "at", "row", "one"]) (by kernel_rfl)) (fun _ _ _ _ _ => dg_name (i := 5) sc_made_rows.nd rfl (.inl rfl)) (fun _ _ _ _ _ => dts_nil) (fun _ _ _ _ _ => de_ca (fc_is_part_1 F) mn_is_part (hr.mono (by decide)) F.g_is_part F.d_is_part.kp cz_none (dca_pos (da_cons (de_var 5) (da_nil)))))))))))))) (dss_one (ds_raise (takes_of rfl rfl rfl rfl) Z rfl F.e_InvalidRows (ok_InvalidRows_init F) (hr.mono (by decide)) (bi_InvalidRows_init F) .nil (fun _ _ => Reps.nil) (passes_call (takes_of rfl rfl rfl rfl) fun _ _ _ _ z => z.elim) rfl F.g_InvalidRows (da_cons (de_var 3) (da_nil)))) (dss_nil))))
    (dss_cons (ds_if (db_gt (DE.dt (de_callB call_len3 cl_len rfl F.n_len rfl (DE.dt (de_var 1)))) (DE.dt (de_gint rfl F.c_MOST_ROWS.choose_spec))) (dss_one (ds_raise (takes_of rfl rfl rfl rfl) Z rfl F.e_TooMany (ok_TooMany_init F) (hr.mono (by decide)) (bn_TooMany_init F).choose_spec.2 (bn_TooMany_init F).choose_spec.1 (fun _ _ => Reps.nil) (passes_call (takes_of rfl rfl rfl rfl) fun _ _ _ _ z => z.elim) rfl F.g_TooMany (da_cons (de_gint rfl F.c_MOST_ROWS.choose_spec) (da_cons (de_str) (da_nil))))) (dss_nil))
    (dss_one (ds_ret (DE.dt (de_lc rfl sc_made_rows.nd (own := [("row", 4)]) (di_seq (de_var 1)) (blk_ok (N := ["size", "rows", "least", "at", "row", "one"]) (by kernel_rfl)) (fun _ _ _ _ _ => dg_name (i := 4) sc_made_rows.nd rfl (.inl rfl)) (fun _ _ _ _ _ => dts_nil) (fun _ _ _ _ _ => de_callTyS call_tuple_of cl_tuple rfl F.n_tuple rfl (de_lc rfl sc_made_rows.nd (own := [("one", 5)]) (di_seq (de_var 4)) (blk_ok (N := ["size", "rows", "least", "at", "row", "one"]) (by kernel_rfl)) (fun _ _ _ _ _ => dg_name (i := 5) sc_made_rows.nd rfl (.inl rfl)) (fun _ _ _ _ _ => dts_nil) (fun _ _ _ _ _ => de_ca (fc_ratio_of_1 F) mn_ratio_of (hr.mono (by decide)) F.g_ratio_of F.d_ratio_of.kp cz_none (dca_pos (da_cons (de_var 5) (da_nil))))))))))))), fun ds k h => ?_⟩
  obtain ⟨x, y, m, rfl, ax, ay, h⟩ := h
  suffices z : Stp _ from z.run
  show Stp (gSeq _ _ _ [SD.sh x, SD.sh y, SD.sh (.int m), SD.unset, SD.unset, SD.unset])
  rcases h with ⟨hs, he⟩ | ⟨n, rfl, n1, n4, h⟩
  · cases x with
    | int n =>
      have ox : (decide (1 ≤ n) && decide (n ≤ 4)) = false := hs
      exists nx; (with_reducible first | apply s_ifT | apply s_ifLT); exists ev
      · rw [ox]; rfl
      exists nx; (with_reducible first | apply s_raise | apply s_raiseS); exists ev; (try exact rfl); (try exact Nat.le_of_ble_eq_true rfl)
      exact ⟨he⟩
    | bag => cases ax
    | clo o => cases ax
    | _ =>
      exists nx; (with_reducible first | apply s_ifT | apply s_ifLT); exists ev, (by first | ((intro hq_); exact evt_abs (by cases hq_)))
      · rfl
      exists nx; (with_reducible first | apply s_raise | apply s_raiseS); exists ev; (try exact rfl); (try exact Nat.le_of_ble_eq_true rfl)
      exact ⟨he⟩
  · have d1 : decide (1 ≤ n) = true := decide_eq_true n1
    have d2 : decide (n ≤ 4) = true := decide_eq_true n4
    exists nx; (with_reducible first | apply s_ifFN | apply s_ifLFN); exists ev
    · rw [d1, d2]; rfl
    have isl : lstB y = true → isAny subC [KC.ty .lst, KC.ty .tup] y = true := fun h => by cases y <;> first | rfl | cases h
    have lnY : lstB y = true → O1 dLen3 y (.int ((itemsS y).length : Int)) := fun h => .mk fun k q => by cases y <;> first | exact q | cases h
    rcases h with ⟨⟨hb, hf⟩ | ⟨hb, hlt⟩, he⟩ | ⟨hb, hm, h9, h⟩
    · cases y with
      | bag => cases ay
      | clo o => cases ay
      | lst _ => cases hb
      | tup _ => cases hb
      | frl _ _ => cases hb
      | _ =>
        exists nx; (with_reducible first | apply s_ifT | apply s_ifLT); exists ev, (by first | ((intro hq_); exact evt_abs (by cases hq_)))
        · rfl
        exists nx; (with_reducible first | apply s_raise | apply s_raiseS); exists ev; (try exact rfl); (try exact Nat.le_of_ble_eq_true rfl)
        exact ⟨he⟩
    · have lnY := lnY hb
      exists nx; (with_reducible first | apply s_ifT | apply s_ifLT); exists ev, (by first | with_reducible exact lnY)
      · rw [isl hb, decide_eq_true (show ((itemsS y).length : Int) < (m : Int) by omega)]; rfl
      exists nx; (with_reducible first | apply s_raise | apply s_raiseS); exists ev; (try exact rfl); (try exact Nat.le_of_ble_eq_true rfl)
      exact ⟨he⟩
    · have lnY := lnY hb
      exists nx; (with_reducible first | apply s_ifFN | apply s_ifLFN); exists ev, (by first | with_reducible exact lnY)
      · rw [isl hb, decide_eq_false (show ¬ ((itemsS y).length : Int) < (m : Int) by omega)]; rfl
      have rowAll : ∀ (es : List D) (r : D) (a : SD), (r = .lst es ∨ r = .tup es) → (∀ d ∈ es, askE d) → es.length ≤ 1000 → Ev (g1 dAll (gLc (gIt (gVar 4)) (.nm 5) gYes (gCa s_is_part (fun _ => False) (gCons (gVar 5) gNil)) [5])) [SD.sh (.int n), SD.sh y, SD.sh (.int m), a, .sh r, .unset] (.bl (es.all partB)) := fun es r a hr hask hl => by
        have I : EvI (gIt (gVar 4)) [SD.sh (.int n), SD.sh y, SD.sh (.int m), a, .sh r, .unset] es := by
          rcases hr with rfl | rfl
          · exact evi_it (ev_var rfl) itr_L
          · exact evi_it (ev_var rfl) itr_T
        exact ev_lcB partB I rfl (fun w hw => aev1 (ev_ca (eva_cons (ev_var rfl) eva_nil) (sr_partE (hask w hw)))) (by omega)
      have lnR : ∀ (es : List D) (r : D), (r = .lst es ∨ r = .tup es) → O1 dLen3 r (.int (es.length : Int)) := fun es r h => .mk fun k q => by rcases h with rfl | rfl <;> exact q
      have isR : ∀ (es : List D) (r : D), (r = .lst es ∨ r = .tup es) → isAny subC [KC.ty .lst, KC.ty .tup] r = true ∧ askD CLS r = true := fun es r h => by rcases h with rfl | rfl <;> exact ⟨rfl, rfl⟩
      have IY : ∀ a c o, EvI (gIt (gVar 1)) [SD.sh (.int n), SD.sh y, SD.sh (.int m), a, c, o] (itemsS y) := fun a c o => by
        cases y with
        | lst xs => exact evi_it (ev_var rfl) itr_L
        | tup xs => exact evi_it (ev_var rfl) itr_T
        | frl a xs => exact .mk fun k q => q
        | _ => cases hb
      have okBad : ∀ r, rowOk n r → rowBad n r → False := fun r ⟨es, hr, hl, hg⟩ ⟨_, hb⟩ => by
        rcases hb with ⟨hb, _⟩ | ⟨fs, hr2, _, hb⟩
        · rcases hr with rfl | rfl <;> cases hb
        · have e : es = fs := by rcases hr with rfl | rfl <;> rcases hr2 with h | h <;> cases h <;> rfl
          subst e
          rcases hb with hb | ⟨_, hb⟩
          · exact hb hl
          · rw [List.all_eq_true.mpr fun d hd => (hg d hd).part] at hb
            cases hb
      have hcase : ∀ pre x suf, itemsS y = pre ++ x :: suf → (∀ r ∈ pre, rowOk n r) → rowOk n x ∨ (rowBad n x ∧ eo (errX "InvalidRows" "InvalidRows" ["at"] [.int (pre.length : Int)])) := fun pre x suf e hp => by
        rcases h with ⟨pre0, b, rest, e0, hp0, hb0, he⟩ | ⟨hall, _⟩ | ⟨hall, _⟩
        · rw [e0] at e
          rcases Nat.lt_trichotomy pre.length pre0.length with hl | hl | hl
          · left
            have h1 : (pre0 ++ b :: rest)[pre.length]? = some x := by rw [e, List.getElem?_append_right (Nat.le_refl _), Nat.sub_self]; rfl
            rw [List.getElem?_append_left hl] at h1
            exact hp0 x (List.mem_of_getElem? h1)
          · right
            obtain ⟨e1, e2⟩ := List.append_inj e hl.symm
            cases e2
            rw [hl]
            exact ⟨hb0, he⟩
          · exfalso
            have h1 : (pre ++ x :: suf)[pre0.length]? = some b := by rw [← e, List.getElem?_append_right (Nat.le_refl _), Nat.sub_self]; rfl
            rw [List.getElem?_append_left hl] at h1
            exact okBad b (hp b (List.mem_of_getElem? h1)) hb0
        · exact .inl (hall x (by rw [e]; simp))
        · exact .inl (hall x (by rw [e]; simp))
      have mark1 : True := trivial
      refine s_for (ds := enumD 0 (itemsS y)) ?_ ?_
      · cases y with
        | lst xs => exact evi_en (ev_var rfl) itr_L
        | tup xs => exact evi_en (ev_var rfl) itr_T
        | frl a xs => exact .mk fun k q => q
        | _ => cases hb
      refine forS_enumM (fun pre σ => (∀ r ∈ pre, rowOk n r) ∧ ∃ a c, σ = [SD.sh (.int n), SD.sh y, SD.sh (.int m), a, c, .unset]) (fun pre x suf e σ D2 hR hN hrt => ?_) ⟨fun r hr => (by cases hr), _, _, rfl⟩ (fun σ' hR => ?_)
      · obtain ⟨hpre, a, c, rfl⟩ := hR
        rcases hcase pre x suf e hpre with hx | ⟨⟨ab, hbx⟩, he⟩
        · have hx' := hx
          obtain ⟨es, hr, hl, hg⟩ := hx
          have lnR := lnR es x hr
          obtain ⟨is1, is2⟩ := isR es x hr
          have hAll := rowAll es x (.sh (.int (pre.length : Int))) hr (fun d hd => (hg d hd).ask) (by omega)
          have hp : es.all partB = true := List.all_eq_true.mpr fun d hd => (hg d hd).part
          rw [hp] at hAll
          (first | (with_reducible show Stp _) | refine Stp.run ?_); exists ass
          exists nx; (with_reducible first | apply s_ifFN | apply s_ifLFN); exists ev, (by first | with_reducible exact lnR | exact hAll)
          · rw [is1, hl, beq_self_eq_true]; rfl
          exact ⟨hN _ ⟨fun r hr => by
            rcases List.mem_append.mp hr with h | h
            · exact hpre r h
            · rw [List.mem_singleton.mp h]; exact hx', _, _, rfl⟩⟩
        · rcases hbx with ⟨hb1, hb2⟩ | ⟨es, hr, hl9, hbx⟩
          · cases x with
            | bag => cases ab
            | clo o => cases ab
            | lst _ => cases hb1
            | tup _ => cases hb1
            | frl _ _ => cases hb2
            | _ =>
              (first | (with_reducible show Stp _) | refine Stp.run ?_); exists ass
              exists nx; (with_reducible first | apply s_ifT | apply s_ifLT); exists ev, (by first | ((intro hq_); exact evt_abs (by cases hq_)))
              · rfl
              exists nx; (with_reducible first | apply s_raise | apply s_raiseS); exists ev; (try exact rfl); (try exact Nat.le_of_ble_eq_true rfl)
              exact ⟨he⟩
          · have lnR := lnR es x hr
            obtain ⟨is1, is2⟩ := isR es x hr
            by_cases hl : (es.length : Int) = n
            · have hq : (∀ d ∈ es, askE d) ∧ es.all partB = false := by
                rcases hbx with hbx | hbx
                · exact absurd hl hbx
                · exact hbx
              have hAll := rowAll es x (.sh (.int (pre.length : Int))) hr hq.1 (by omega)
              rw [hq.2] at hAll
              (first | (with_reducible show Stp _) | refine Stp.run ?_); exists ass
              exists nx; (with_reducible first | apply s_ifT | apply s_ifLT); exists ev, (by first | with_reducible exact lnR | exact hAll)
              · rw [is1, hl, beq_self_eq_true]; rfl
              exists nx; (with_reducible first | apply s_raise | apply s_raiseS); exists ev; (try exact rfl); (try exact Nat.le_of_ble_eq_true rfl)
              exact ⟨he⟩
            · (first | (with_reducible show Stp _) | refine Stp.run ?_); exists ass
              exists nx; (with_reducible first | apply s_ifT | apply s_ifLT); exists ev, (by first | with_reducible exact lnR | ((intro hq_); exact evt_abs (hl (by have hq_ := hq_; simp only [Bool.not_eq_false', beq_iff_eq] at hq_; exact hq_))))
              · rw [is1, beq_eq_false_iff_ne.mpr hl]; rfl
              exists nx; (with_reducible first | apply s_raise | apply s_raiseS); exists ev; (try exact rfl); (try exact Nat.le_of_ble_eq_true rfl)
              exact ⟨he⟩
      · obtain ⟨hall, a, c, rfl⟩ := hR
        rcases h with ⟨pre0, b, rest, e0, hp0, hb0, he⟩ | ⟨_, h100, he⟩ | ⟨_, h100, hk⟩
        · exact (okBad b (hall b (by rw [e0]; simp)) hb0).elim
        · exists nx; (with_reducible first | apply s_ifT | apply s_ifLT); exists ev, (by first | with_reducible exact lnY)
          · exact decide_eq_true (by omega)
          exists nx; (with_reducible first | apply s_raise | apply s_raiseS); exists ev; (try exact rfl); (try exact Nat.le_of_ble_eq_true rfl)
          exact ⟨he⟩
        · exists nx; (with_reducible first | apply s_ifFN | apply s_ifLFN); exists ev, (by first | with_reducible exact lnY)
          · exact decide_eq_false (by omega)
          have mark3 : True := trivial
          with_reducible apply s_ret (d := .lst ((itemsS y).map rowR))
          · refine ev_lc (gg := fun x => x) (f := rowR) (IY _ _ _) (by rw [List.map_id']) (fun w hw => ?_) (by omega)
            obtain ⟨es, hr, hl, hg⟩ := hall w hw
            rcases hr with rfl | rfl
            · exact aev1 (ev_g1 (ev_lc (gg := fun x => x) (f := ratV) (evi_it (ev_var rfl) itr_L) (by rw [List.map_id']) (fun d hd => aev1 (ev_ca (eva_cons (ev_var rfl) eva_nil) (sr_ratE (hg d hd)))) (by omega)) o_tup)
            · exact aev1 (ev_g1 (ev_lc (gg := fun x => x) (f := ratV) (evi_it (ev_var rfl) itr_T) (by rw [List.map_id']) (fun d hd => aev1 (ev_ca (eva_cons (ev_var rfl) eva_nil) (sr_ratE (hg d hd)))) (by omega)) o_tup)
          · exact ⟨hk⟩
theorem sr_mrows {n : Int} {y : D} {m : Nat} (n1 : 1 ≤ n) (n4 : n ≤ 4) (ay : askD CLS y = true) (hb : lstB y = true) (hm : m ≤ (itemsS y).length) (hl : (itemsS y).length ≤ 100) (hall : ∀ r ∈ itemsS y, rowOk n r) : SR s_mrows [.int n, y, .int m] (.lst ((itemsS y).map rowR)) := .mk fun k e q => ⟨_, y, m, rfl, rfl, ay, .inr ⟨n, rfl, n1, n4, .inr ⟨hb, hm, by omega, .inr (.inr ⟨hall, hl, q⟩)⟩⟩⟩
local macro_rules
  | `(tactic| exists $i:ident) => match i.getId.eraseMacroScopes with
    | `es => `(tactic| ((with_reducible (first | apply sr_is_number | apply sri_Rinit | apply sr_lover | apply sr_mrows))))
    | _ => Lean.Macro.throwUnsupported
theorem fc_made_rows_3 (F : Facts K mg) : FnC P w K mg base 6 (He.ga K "made_rows") [] (lift K s_mrows) := FnOk.c0 (ok_made_rows F) (F.d_made_rows.bindsN fun _ _ _ _ _ _ us hl => match us, hl with | [_, _, _], _ => rfl)
abbrev LNS : List Str := ["size", "own_rows"]
def s_Linit : GSI := fun c ns fs ds k e => c = "Lines" ∧ ns = [] ∧ fs = [] ∧ ∃ x y, ds = [x, y] ∧ s_mrows [x, y, .int 0] (fun d => k LNS [x, d]) e
theorem mn_Linit : MnSI s_Linit := fun c ns fs ds k k' e e' h1 h2 ⟨e1, e2, e3, x, y, e4, q⟩ => ⟨e1, e2, e3, x, y, e4, mn_mrows _ _ _ _ _ (fun d => h1 _ _) h2 q⟩
theorem ok_Lines_init (F : Facts K mg) : FnOk P w K mg base (L2.CX P w) 7 (He.ma K (He.ga K "Lines") "__init__") (fdOf K (He.ma K (He.ga K "Lines") "__init__")) ["self", "size", "rows"] (liftI K s_Linit) := by
  refine okSup (cn := "Lines") F.d_Lines_init sc_Lines_init ⟨rfl, rfl, rfl, rfl, rfl, by decide, fun L => rfl, fun L => rfl, fun L => rfl, fun L => rfl⟩ F.n_super (fun c ns fs ds k e h => by obtain ⟨_, _, _, x, y, rfl, _⟩ := h; rfl) (fun c ns fs ds k e h => h.1) F.sup_Lines_init ((fc_Measure_init_Lines_2 F).mono (by decide)) mn_MinitLines fun A outer s0 Hc H E b eo hr Z c ns fs ds k h => ?_
  refine ⟨_, _, (da_cons (de_var 1) (da_cons (de_ca (fc_made_rows_3 F) mn_mrows (hr.mono (by decide)) F.g_made_rows F.d_made_rows.kp Z (dca_pos (da_cons (de_var 1) (da_cons (de_var 2) (da_cons (de_int) (da_nil)))))) (da_nil))), dss_nil, fun a dx => ?_⟩
  obtain ⟨rfl, rfl, rfl, x, y, rfl, h⟩ := h
  have key : s_mrows [x, y, .int 0] (fun d => s_MinitLines "Lines" [] [] [x, d] (fun ns' fs' => gNext (finI a dx "Lines" k) (initD ["self", "size", "rows", "__class__"] a dx "Lines" ns' fs' [x, y])) eo) eo := mn_mrows _ _ _ _ _ (fun d hk => ⟨x, d, rfl, rfl, rfl, rfl, rfl, rfl, rfl, hk⟩) (fun _ q => q) h
  exact key
theorem sri_Linit {x y d : D} (h : SR s_mrows [x, y, .int 0] d) : SRI s_Linit "Lines" [x, y] LNS [x, d] := .mk fun k e q => ⟨rfl, rfl, rfl, x, y, rfl, h.run _ _ q⟩
local macro_rules
  | `(tactic| exists $i:ident) => match i.getId.eraseMacroScopes with
    | `es => `(tactic| ((with_reducible (first | apply sr_is_number | apply sri_Rinit | apply sr_lover | apply sr_mrows | apply sri_Linit))))
    | _ => Lean.Macro.throwUnsupported
theorem fc_Lines_init_2 (F : Facts K mg) : FnC P w K mg base 7 (He.ma K (He.ga K "Lines") "__init__") [] (liftI K s_Linit) := FnOk.c0 (ok_Lines_init F) (bndSN F.d_Lines_init fun _ _ _ _ _ us hl => match us, hl with | [_, _, _], _ => rfl)
def s_pair : GS := fun ds k _ => ∃ x y, ds = [.ins "Ratio" RNS [x, y]] ∧ k (.tup [x, y])
theorem mn_pair : MnS s_pair := fun ds k k' e e' h1 _ ⟨d, h, h2, q⟩ => ⟨d, h, h2, h1 _ q⟩
theorem ok_Ratio_pair (F : Facts K mg) : FnOk P w K mg base (L2.CX P w) 2 (He.ma K (He.ga K "Ratio") "pair") (fdOf K (He.ma K (He.ga K "Ratio") "pair")) ["self"] (lift K s_pair) := by
  refine okD F.d_Ratio_pair sc_Ratio_pair (fun ds k e h => by obtain ⟨a, c, rfl, _⟩ := h; rfl) fun cdv A outer s0 H E b eo hr Z => ⟨_, dss_one (ds_ret (DE.dt (de_tup (da_cons (de_fld (c := "Ratio") (NS := ["top", "bottom"]) (i := 0) (de_var 0) F.c_Ratio F.a_Ratio_top (by decide)) (da_cons (de_fld (c := "Ratio") (NS := ["top", "bottom"]) (i := 1) (de_var 0) F.c_Ratio F.a_Ratio_bottom (by decide)) (da_nil)))))), fun ds k h => ?_⟩
  obtain ⟨x, y, rfl, hk⟩ := h
  exact ⟨rfl, rfl, rfl, rfl, (by show 2 ≤ 1000; decide), hk⟩
theorem sr_pair {x y : D} : SR s_pair [.ins "Ratio" RNS [x, y]] (.tup [x, y]) := .mk fun k e q => ⟨_, _, rfl, q⟩
local macro_rules
  | `(tactic| exists $i:ident) => match i.getId.eraseMacroScopes with
    | `es => `(tactic| ((with_reducible (first | apply sr_is_number | apply sri_Rinit | apply sr_lover | apply sr_mrows | apply sri_Linit | apply sr_pair))))
    | _ => Lean.Macro.throwUnsupported
theorem fc_Ratio_pair_0 (F : Facts K mg) : FnC P w K mg base 2 (He.ma K (He.ga K "Ratio") "pair") [] (lift K s_pair) := FnOk.c0 (ok_Ratio_pair F) (F.d_Ratio_pair.bindsN fun _ _ _ _ _ _ us hl => match us, hl with | [_], _ => rfl)
def eqR (p q : Int) : D → Bool
  | .int n => [p, q] == [n, 1]
  | .ins _ _ [.int r, .int s] => [p, q] == [r, s]
  | _ => false
def s_Req : GS := fun ds k _ => ∃ p q y, ds = [rat p q, y] ∧ askD CLS y = true ∧ (∀ c ns xs, y = .ins c ns xs → ∃ r s, y = rat r s) ∧ k (.bl (eqR p q y))
theorem mn_Req : MnS s_Req := fun ds k k' e e' h1 _ ⟨p, q, y, h, g1, g2, z⟩ => ⟨p, q, y, h, g1, g2, h1 _ z⟩
theorem ok_Ratio_eq (F : Facts K mg) : FnOk P w K mg base (L2.CX P w) 6 (He.ma K (He.ga K "Ratio") "__eq__") (fdOf K (He.ma K (He.ga K "Ratio") "__eq__")) ["self", "other"] (lift K s_Req) := by
  refine okD F.d_Ratio_eq sc_Ratio_eq (fun ds k e h => by obtain ⟨p, q, r, rfl, _⟩ := h; rfl) fun cdv A outer s0 H E b eo hr Z => ⟨_, dss_one (ds_ret (DE.dt (de_and (DE.dt (de_ca (fc_is_part_1 F) mn_is_part (hr.mono (by decide)) F.g_is_part F.d_is_part.kp cz_none (dca_pos (da_cons (de_var 1) (da_nil))))) (de_one (de_eqA hr (DE.dt (de_mc (c := "Ratio") (de_var 0) F.c_Ratio F.m_Ratio_pair (fc_Ratio_pair_0 F) mn_pair (hr.mono (by decide)) cz_none dca_nil)) (DE.dt (de_mc (c := "Ratio") (de_ca (fc_ratio_of_1 F) mn_ratio_of (hr.mono (by decide)) F.g_ratio_of F.d_ratio_of.kp Z (dca_pos (da_cons (de_var 1) (da_nil)))) F.c_Ratio F.m_Ratio_pair (fc_Ratio_pair_0 F) mn_pair (hr.mono (by decide)) cz_none dca_nil))))))), fun ds k h => ?_⟩
  obtain ⟨p, q, y, rfl, ay, hc, hk⟩ := h
  refine ⟨y, rfl, ay, fun c ns xs e => ?_, ?_⟩
  · obtain ⟨r, s, e2⟩ := hc c ns xs e
    rw [e2] at e; cases e; exact .inl rfl
  cases y with
  | int n =>
    refine ⟨rfl, by decide, _, _, rfl, _, rfl, rfl, ?_⟩
    exact ⟨rfl, by decide, _, _, rfl, dEqA_tints (l := [p, q]) (m := [n, 1]) hk⟩
  | ins c ns xs =>
    obtain ⟨r, s, e2⟩ := hc c ns xs rfl
    cases e2
    refine ⟨rfl, by decide, _, _, rfl, _, rfl, ask_rat r s, rfl, ?_⟩
    exact ⟨rfl, by decide, _, _, rfl, dEqA_tints (l := [p, q]) (m := [r, s]) hk⟩
  | bag => cases ay
  | clo o => cases ay
  | _ => exact hk
theorem sr_Req_r {p q r s : Int} : SR s_Req [rat p q, rat r s] (.bl ([p, q] == [r, s])) := .mk fun k e z => ⟨p, q, _, rfl, ask_rat _ _, fun c ns xs e => (by cases e; exact ⟨_, _, rfl⟩), z⟩
theorem sr_Req_i {p q n : Int} : SR s_Req [rat p q, .int n] (.bl ([p, q] == [n, 1])) := .mk fun k e z => ⟨p, q, _, rfl, rfl, fun c ns xs e => (by cases e), z⟩
theorem sr_Req_o {p q : Int} {y : D} (h : oddP y = true) (a : askD CLS y = true) : SR s_Req [rat p q, y] (.bl false) := .mk fun k e z => ⟨p, q, y, rfl, a, fun c ns xs e => (by subst e; cases h), by
  have : eqR p q y = false := by cases y <;> first | rfl | cases h
  rw [this]; exact z⟩
local macro_rules
  | `(tactic| exists $i:ident) => match i.getId.eraseMacroScopes with
    | `es => `(tactic| ((with_reducible (first | apply sr_is_number | apply sri_Rinit | apply sr_lover | apply sr_mrows | apply sri_Linit | apply sr_pair | apply sr_Req_r | apply sr_Req_i | apply sr_Req_o))))
    | _ => Lean.Macro.throwUnsupported
theorem lt_or_geI (a b : Int) : a < b ∨ b ≤ a := by omega
def cbS (f : Int) (q : Int × Int) : Int := (f * q.2).fdiv (gI f q.2)
def cbI (qs : List (Int × Int)) : Int := qs.foldl cbS 1
theorem gI_pos {a b : Int} (h : 0 < b) : 0 < gI a b := by
  unfold gI
  have := Nat.gcd_pos_of_pos_right a.natAbs (n := b.natAbs) (by omega)
  omega
theorem cbS_ok {B f : Int} {q : Int × Int} (hf : 0 < f) (hB : f ∣ B) (q0 : 0 < q.2) (q1 : q.2 ∣ B) : 0 < cbS f q ∧ cbS f q ∣ B ∧ f ∣ cbS f q ∧ q.2 ∣ cbS f q := by
  have g0 := gI_pos (a := f) q0
  obtain ⟨u, hu⟩ := gI_dvd1 f q.2
  obtain ⟨v, hv⟩ := gI_dvd2 f q.2
  have e : cbS f q = u * q.2 := by
    unfold cbS
    have e1 : f * q.2 = gI f q.2 * (u * q.2) := by
      conv => lhs; rw [hu]
      rw [Int.mul_assoc]
    rw [e1]
    exact Int.mul_fdiv_cancel_left _ (by omega)
  have e2 : u * q.2 = f * v := by
    have h1 : gI f q.2 * (u * q.2) = gI f q.2 * (f * v) := by
      rw [← Int.mul_assoc, ← hu, Int.mul_left_comm, ← hv]
    exact Int.eq_of_mul_eq_mul_left (by omega) h1
  have u0 : 0 < u := by
    have h1 : 0 < gI f q.2 * u := by rw [← hu]; exact hf
    rcases lt_or_geI 0 u with h | h
    · exact h
    · have h2 := Int.mul_le_mul_of_nonneg_left h (show 0 ≤ gI f q.2 by omega)
      rw [Int.mul_zero] at h2
      omega
  rw [e]
  refine ⟨Int.mul_pos u0 q0, ?_, ⟨v, e2⟩, ⟨u, Int.mul_comm _ _⟩⟩
  have n1 : (u * q.2).natAbs = Nat.lcm f.natAbs q.2.natAbs := by
    have l1 := Nat.gcd_mul_lcm f.natAbs q.2.natAbs
    have l2 : (gI f q.2).natAbs * (u * q.2).natAbs = f.natAbs * q.2.natAbs := by
      rw [← Int.natAbs_mul, ← Int.mul_assoc, ← hu, Int.natAbs_mul]
    have l3 : (gI f q.2).natAbs = Nat.gcd f.natAbs q.2.natAbs := by unfold gI; omega
    rw [l3, ← l1] at l2
    exact Nat.eq_of_mul_eq_mul_left (by have := g0; omega) l2
  have d := Nat.lcm_dvd (Int.natAbs_dvd_natAbs.mpr hB) (Int.natAbs_dvd_natAbs.mpr q1)
  rw [← n1] at d
  exact Int.natAbs_dvd_natAbs.mp d
theorem cb_fold {B : Int} : ∀ (qs : List (Int × Int)) (f : Int), 0 < f → f ∣ B → (∀ q ∈ qs, 0 < q.2 ∧ q.2 ∣ B) → 0 < qs.foldl cbS f ∧ qs.foldl cbS f ∣ B ∧ f ∣ qs.foldl cbS f ∧ ∀ q ∈ qs, q.2 ∣ qs.foldl cbS f
  | [], f, h0, h1, _ => ⟨h0, h1, Int.dvd_refl _, fun q hq => by cases hq⟩
  | q :: r, f, h0, h1, h => by
    obtain ⟨a, b, c, d⟩ := cbS_ok h0 h1 (h q List.mem_cons_self).1 (h q List.mem_cons_self).2
    obtain ⟨a2, b2, c2, d2⟩ := cb_fold r (cbS f q) a b fun p hp => h p (List.mem_cons_of_mem _ hp)
    refine ⟨a2, b2, Int.dvd_trans c c2, fun p hp => ?_⟩
    rcases List.mem_cons.mp hp with rfl | hp
    · exact Int.dvd_trans d c2
    · exact d2 p hp
/-- fractions whose bottoms divide B -/
structure QsOk (B : Int) (qs : List (Int × Int)) : Prop where
  pos : 0 < B
  zb : Sz 900 B
  q : ∀ q ∈ qs, 0 < q.2 ∧ q.2 ∣ B ∧ Sz 1000 q.1
  len : qs.length ≤ 1000
theorem QsOk.cb {B : Int} {qs : List (Int × Int)} (h : QsOk B qs) : 0 < cbI qs ∧ cbI qs ∣ B ∧ ∀ q ∈ qs, q.2 ∣ cbI qs := by
  obtain ⟨a, b, _, d⟩ := cb_fold qs 1 (by decide) (Int.one_dvd _) fun q hq => ⟨(h.q q hq).1, (h.q q hq).2.1⟩
  exact ⟨a, b, d⟩
theorem sz_dvd {n : Nat} {a B : Int} (h : a ∣ B) (p : 0 < B) (z : Sz n B) : Sz n a := by
  unfold Sz at *
  have := Nat.le_of_dvd (by omega) (Int.natAbs_dvd_natAbs.mpr h)
  omega
theorem QsOk.zc {B : Int} {qs : List (Int × Int)} (h : QsOk B qs) : Sz 900 (cbI qs) := sz_dvd h.cb.2.1 h.pos h.zb
theorem fdiv_ok {a b : Int} (h : b ∣ a) (hb : 0 < b) : a.fdiv b * b = a := by
  obtain ⟨c, rfl⟩ := h
  rw [Int.mul_fdiv_cancel_left _ (by omega), Int.mul_comm]
theorem sz_fdiv {n : Nat} {a b : Int} (h : b ∣ a) (hb : 0 < b) (z : Sz n a) : Sz n (a.fdiv b) := by
  have e := fdiv_ok h hb
  unfold Sz at *
  have e2 := congrArg Int.natAbs e
  rw [Int.natAbs_mul] at e2
  have : (a.fdiv b).natAbs * 1 ≤ (a.fdiv b).natAbs * b.natAbs := Nat.mul_le_mul_left _ (by omega)
  omega
/-- a list or a tuple of these -/
def SeqQ (y : D) (qs : List (Int × Int)) : Prop := y = .lst (qs.map ratP) ∨ y = .tup (qs.map ratP)
theorem SeqQ.it {y : D} {qs : List (Int × Int)} (h : SeqQ y qs) : ItR y (qs.map ratP) := h
def s_cbot : GS := fun ds k _ => ∃ y qs B, ds = [y] ∧ SeqQ y qs ∧ QsOk B qs ∧ k (.int (cbI qs))
theorem mn_cbot : MnS s_cbot := fun ds k k' e e' h1 _ ⟨y, qs, B, h, g1, g2, q⟩ => ⟨y, qs, B, h, g1, g2, h1 _ q⟩
theorem ok_common_bottom (F : Facts K mg) : FnOk P w K mg base (L2.CX P w) 2 (He.ga K "common_bottom") (fdOf K (He.ga K "common_bottom")) ["parts"] (lift K s_cbot) := by
  refine okD F.d_common_bottom sc_common_bottom (fun ds k e h => by obtain ⟨_, _, _, rfl, _⟩ := h; rfl) fun cdv A outer s0 H E b eo hr Z => ⟨_, dss_cons (ds_asg (i := 1) sc_common_bottom.nd rfl (.inl rfl) (de_int))
    (dss_cons (ds_for (passes_of rfl) rfl (di_seq (de_var 0)) (dg_name (i := 2) sc_common_bottom.nd rfl (.inl rfl)) (dss_one (ds_asg (i := 1) sc_common_bottom.nd rfl (.inl rfl) (de_div (DE.dt (de_mulA (DE.dt (de_var 1)) (DE.dt (de_fld (c := "Ratio") (NS := ["top", "bottom"]) (i := 1) (de_var 2) F.c_Ratio F.a_Ratio_bottom (by decide))))) (DE.dt (de_callBN cr_gcd cl_gcd rfl F.b_gcd (dat_cons (DE.dt (de_var 1)) (dat_cons (DE.dt (de_fld (c := "Ratio") (NS := ["top", "bottom"]) (i := 1) (de_var 2) F.c_Ratio F.a_Ratio_bottom (by decide))) (dat_nil)))))))))
    (dss_one (ds_ret (DE.dt (de_var 1))))), fun ds k h => ?_⟩
  obtain ⟨y, qs, B, rfl, hy, ok, hk⟩ := h
  suffices z : Stp _ from z.run
  show Stp (gSeq _ _ _ [.sh y, .unset, .unset])
  exists nx; (with_reducible first | apply s_asg | apply s_asgL); exists ev; exists pt
  with_reducible apply s_for (ds := qs.map ratP)
  · exact evi_it (ev_var rfl) hy.it
  refine forS_rel (fun (f : Int) σ => (0 < f ∧ f ∣ B) ∧ ∃ x2, σ = [.sh y, .sh (.int f), x2]) cbS (fun q hq f σ D2 hR hN _ _ => ?_) ⟨⟨by decide, Int.one_dvd _⟩, _, rfl⟩ (fun σ' hR => ?_)
  · obtain ⟨⟨f0, f1⟩, x2, rfl⟩ := hR
    obtain ⟨q0, q1, q2⟩ := ok.q q hq
    obtain ⟨c1, c2, _, _⟩ := cbS_ok f0 f1 q0 q1
    have zf : Sz 900 f := sz_dvd f1 ok.pos ok.zb
    have zq : Sz 900 q.2 := sz_dvd q1 ok.pos ok.zb
    have g0 := gI_pos (a := f) q0
    have zg : Sz 900 (gI f q.2) := sz_dvd (Int.dvd_trans (gI_dvd2 f q.2) q1) ok.pos ok.zb
    have dg : DivOk (gI f q.2) := DivOk.of (by omega) zg (by decide)
    (first | (with_reducible show Stp _) | refine Stp.run ?_); exists ass
    with_reducible apply s_asgL (d := .int (cbS f q))
    · exists ev
    · exists pt
    exact ⟨hN _ ⟨⟨c1, c2⟩, _, rfl⟩⟩
  · obtain ⟨_, x2, rfl⟩ := hR
    (try with_reducible refine nx_mk ?_)
    exists nx; (with_reducible apply s_ret); exists ev
    exact ⟨hk⟩
theorem fc_common_bottom_1 (F : Facts K mg) : FnC P w K mg base 2 (He.ga K "common_bottom") [] (lift K s_cbot) := FnOk.c0 (ok_common_bottom F) (F.d_common_bottom.bindsN fun _ _ _ _ _ _ us hl => match us, hl with | [_], _ => rfl)
def numsI (qs : List (Int × Int)) : List Int := qs.map fun q => q.1 * (cbI qs).fdiv q.2
def s_wrow : GS := fun ds k _ => ∃ y qs B, ds = [y] ∧ SeqQ y qs ∧ QsOk B qs ∧ k (.tup [.int (cbI qs), .lst (dints (numsI qs))])
theorem mn_wrow : MnS s_wrow := fun ds k k' e e' h1 _ ⟨y, qs, B, h, g1, g2, q⟩ => ⟨y, qs, B, h, g1, g2, h1 _ q⟩
theorem ok_whole_row (F : Facts K mg) : FnOk P w K mg base (L2.CX P w) 3 (He.ga K "whole_row") (fdOf K (He.ga K "whole_row")) ["parts"] (lift K s_wrow) := by
  refine okD F.d_whole_row sc_whole_row (fun ds k e h => by obtain ⟨_, _, _, rfl, _⟩ := h; rfl) fun cdv A outer s0 H E b eo hr Z => ⟨_, dss_cons (ds_asg (i := 1) sc_whole_row.nd rfl (.inr rfl) (de_ca (fc_common_bottom_1 F) mn_cbot (hr.mono (by decide)) F.g_common_bottom F.d_common_bottom.kp cz_none (dca_pos (da_cons (de_var 0) (da_nil)))))
    (dss_one (ds_ret (DE.dt (de_tup (da_cons (de_var 1) (da_cons (de_lc rfl sc_whole_row.nd (own := [("part", 2)]) (di_seq (de_var 0)) (blk_ok (N := ["parts", "scale", "part"]) (by kernel_rfl)) (fun _ _ _ _ _ => dg_name (i := 2) sc_whole_row.nd rfl (.inl rfl)) (fun _ _ _ _ _ => dts_nil) (fun _ _ _ _ _ => de_mulA (DE.dt (de_fld (c := "Ratio") (NS := ["top", "bottom"]) (i := 0) (de_var 2) F.c_Ratio F.a_Ratio_top (by decide))) (DE.dt (de_div (DE.dt (de_var 1)) (DE.dt (de_fld (c := "Ratio") (NS := ["top", "bottom"]) (i := 1) (de_var 2) F.c_Ratio F.a_Ratio_bottom (by decide))))))) (da_nil))))))), fun ds k h => ?_⟩
  obtain ⟨y, qs, B, rfl, hy, ok, hk⟩ := h
  suffices z : Stp _ from z.run
  show Stp (gSeq _ _ _ [.sh y, .unset, .unset])
  have sCB : SR s_cbot [y] (.int (cbI qs)) := .mk fun k e q => ⟨y, qs, B, rfl, hy, ok, q⟩
  obtain ⟨c0, c1, c2⟩ := ok.cb
  with_reducible apply s_asg (d := .int (cbI qs))
  · exact ev_ca (eva_cons (ev_var rfl) eva_nil) sCB
  · exists pt
  with_reducible apply s_ret (d := .tup [.int (cbI qs), .lst (dints (numsI qs))])
  · refine ev_tup (eva_cons (ev_var rfl) (eva_cons (Ev.eq (ev_lc (l := qs) (gg := ratP) (f := fun q => .int (q.1 * (cbI qs).fdiv q.2)) (evi_it (ev_var rfl) hy.it) rfl (fun q hq => aev1 ?_) (by have := ok.len; omega)) ?_) eva_nil)) (by show 2 ≤ 1000; decide)
    · obtain ⟨q0, q1, q2⟩ := ok.q q hq
      have zq : Sz 900 q.2 := sz_dvd q1 ok.pos ok.zb
      have dq : DivOk q.2 := DivOk.of (by omega) zq (by decide)
      have m : MulOk q.1 ((cbI qs).fdiv q.2) := MulOk.of q2 (sz_fdiv (c2 q hq) q0 ok.zc) (by decide)
      exact ev_g2 (ev_fld (ds := [.int q.1, .int q.2]) (ev_var rfl) rfl) (ev_g2 (ev_var rfl) (ev_fld (ds := [.int q.1, .int q.2]) (ev_var rfl) rfl) (.mk fun k q => ⟨dq, q⟩)) (.mk fun k q => ⟨m, q⟩)
    · unfold numsI dints
      rw [List.map_map]; rfl
  · exact ⟨hk⟩
theorem fc_whole_row_1 (F : Facts K mg) : FnC P w K mg base 3 (He.ga K "whole_row") [] (lift K s_wrow) := FnOk.c0 (ok_whole_row F) (F.d_whole_row.bindsN fun _ _ _ _ _ _ us hl => match us, hl with | [_], _ => rfl)
def gcL (r : List Int) : Int := r.foldl gI 0
def lowI (r : List Int) : List Int := bif decide (gcL r > 1) then r.map (·.fdiv (gcL r)) else r
theorem gI_nn (a b : Int) : 0 ≤ gI a b := by unfold gI; omega
theorem sz_gI {n : Nat} {a b : Int} (ha : Sz n a) (hb : Sz n b) : Sz n (gI a b) := by
  unfold Sz at *
  by_cases h : b = 0
  · subst h
    have : gI a 0 = (a.natAbs : Int) := by unfold gI; rw [Int.natAbs_zero, Nat.gcd_zero_right]
    rw [this]; omega
  · have := Nat.le_of_dvd (by omega) (Nat.gcd_dvd_right a.natAbs b.natAbs)
    unfold gI; omega
def s_lowd : GS := fun ds k _ => ∃ r, ds = [.lst (dints r)] ∧ r.length ≤ 1000 ∧ Sms 4000 r ∧ k (.lst (dints (lowI r)))
theorem mn_lowd : MnS s_lowd := fun ds k k' e e' h1 _ ⟨r, h, g1, g2, q⟩ => ⟨r, h, g1, g2, h1 _ q⟩
theorem ok_lowered (F : Facts K mg) : FnOk P w K mg base (L2.CX P w) 2 (He.ga K "lowered") (fdOf K (He.ga K "lowered")) ["row"] (lift K s_lowd) := by
  refine okD F.d_lowered sc_lowered (fun ds k e h => by obtain ⟨_, rfl, _⟩ := h; rfl) fun cdv A outer s0 H E b eo hr Z => ⟨_, dss_cons (ds_asg (i := 1) sc_lowered.nd rfl (.inr rfl) (de_int))
    (dss_cons (ds_for (passes_of rfl) rfl (di_seq (de_var 0)) (dg_name (i := 2) sc_lowered.nd rfl (.inl rfl)) (dss_one (ds_asg (i := 1) sc_lowered.nd rfl (.inr rfl) (de_callBN cr_gcd cl_gcd rfl F.b_gcd (dat_cons (DE.dt (de_var 1)) (dat_cons (DE.dt (de_var 2)) (dat_nil)))))))
    (dss_one (ds_ret (DE.dt (de_if (db_gt (DE.dt (de_var 1)) (DE.dt (de_int))) (de_lc rfl sc_lowered.nd (own := [("entry", 2)]) (di_seq (de_var 0)) (blk_ok (N := ["row", "common", "entry"]) (by kernel_rfl)) (fun _ _ _ _ _ => dg_name (i := 2) sc_lowered.nd rfl (.inl rfl)) (fun _ _ _ _ _ => dts_nil) (fun _ _ _ _ _ => de_div (DE.dt (de_var 2)) (DE.dt (de_var 1)))) (de_callTyS call_list_of cl_list rfl F.n_list rfl (de_var 0))))))), fun ds k h => ?_⟩
  obtain ⟨r, rfl, hl, hz, hk⟩ := h
  suffices z : Stp _ from z.run
  show Stp (gSeq _ _ _ [.sh (.lst (dints r)), .unset, .unset])
  exists nx; (with_reducible first | apply s_asg | apply s_asgL); exists ev; exists pt
  with_reducible apply s_for (ds := r.map D.int)
  · exact evi_it (ev_var rfl) itr_L
  refine forS_rel (fun (g : Int) σ => (0 ≤ g ∧ Sz 4000 g) ∧ ∃ x2, σ = [.sh (.lst (dints r)), .sh (.int g), x2]) gI (fun x hx g σ D2 hR hN _ _ => ?_) ⟨⟨Int.le_refl _, by unfold Sz; decide⟩, _, rfl⟩ (fun σ' hR => ?_)
  · obtain ⟨⟨g0, g1⟩, x2, rfl⟩ := hR
    (first | (with_reducible show Stp _) | refine Stp.run ?_); exists ass
    with_reducible apply s_asgL (d := .int (gI g x))
    · exists ev
    · exists pt
    exact ⟨hN _ ⟨⟨gI_nn g x, sz_gI g1 (hz x hx)⟩, _, rfl⟩⟩
  · obtain ⟨⟨g0, g1⟩, x2, rfl⟩ := hR
    (try with_reducible refine nx_mk ?_)
    have g0 : 0 ≤ gcL r := g0
    have g1 : Sz 4000 (gcL r) := g1
    show Stp (gRet _ _ [.sh (.lst (dints r)), .sh (.int (gcL r)), x2])
    with_reducible apply s_ret (d := .lst (dints (lowI r)))
    · have hT : EvT (gB (g2 dGt (gVar 1) (gC (.int 1)))) [.sh (.lst (dints r)), .sh (.int (gcL r)), x2] (decide (gcL r > 1)) := evt_B (ev_g2 (z := .bl (decide (gcL r > 1))) (ev_var rfl) ev_c (.mk fun k q => q))
      cases hg : decide (gcL r > 1) with
      | true =>
        rw [hg] at hT
        have hg2 : gcL r > 1 := of_decide_eq_true hg
        have dg : DivOk (gcL r) := DivOk.of (by omega) g1 (by decide)
        refine ev_ifT hT rfl (Ev.eq (ev_lc (l := r) (gg := D.int) (f := fun x => .int (x.fdiv (gcL r))) (evi_it (ev_var rfl) itr_L) rfl (fun x hx => aev1 (ev_g2 (ev_var rfl) (ev_var rfl) (.mk fun k q => ⟨dg, q⟩))) (by omega)) ?_)
        unfold lowI dints
        rw [hg, cond_true, List.map_map]; rfl
      | false =>
        rw [hg] at hT
        refine ev_ifF hT rfl (Ev.eq (x := .lst (dints r)) (ev_g1 (ev_var rfl) (.mk fun k q => q)) ?_)
        unfold lowI
        rw [hg, cond_false]
    · exact ⟨hk⟩
theorem fc_lowered_1 (F : Facts K mg) : FnC P w K mg base 2 (He.ga K "lowered") [] (lift K s_lowd) := FnOk.c0 (ok_lowered F) (F.d_lowered.bindsN fun _ _ _ _ _ _ us hl => match us, hl with | [_], _ => rfl)
/-- a fraction in its lowest terms -/
def Red (p q : Int) : Prop := 0 < q ∧ gI p q = 1
theorem Red.low {p q : Int} (h : Red p q) : lowP p q = (p, q) := by
  unfold lowP cmI
  rw [if_pos h.1, h.2]
  simp
theorem Red.neg {p q : Int} (h : Red p q) : Red (-p) q := ⟨h.1, by
  have e := h.2
  unfold gI at e ⊢
  rw [Int.natAbs_neg]; exact e⟩
theorem Red.abs {p q : Int} (h : Red p q) : Red (if p < 0 then -p else p) q := by
  split
  · exact h.neg
  · exact h
theorem low_ex {a b : Int} (hb : 0 < b) : ∃ g : Int, 0 < g ∧ a = g * (lowP a b).1 ∧ b = g * (lowP a b).2 ∧ Red (lowP a b).1 (lowP a b).2 := by
  have hg : 0 < gI a b := by
    unfold gI
    have : 0 < Nat.gcd a.natAbs b.natAbs := Nat.gcd_pos_of_pos_right _ (by omega)
    omega
  obtain ⟨x, hx⟩ := gI_dvd1 a b
  obtain ⟨y, hy⟩ := gI_dvd2 a b
  have e1 : a.fdiv (gI a b) = x := by
    have := Int.mul_fdiv_cancel_left (a := gI a b) x (by omega)
    rwa [← hx] at this
  have e2 : b.fdiv (gI a b) = y := by
    have := Int.mul_fdiv_cancel_left (a := gI a b) y (by omega)
    rwa [← hy] at this
  have el : lowP a b = (x, y) := by
    unfold lowP cmI
    rw [if_pos hb, e1, e2]
  rw [el]
  refine ⟨gI a b, hg, hx, hy, ?_, ?_⟩
  · refine Int.lt_of_mul_lt_mul_left (a := gI a b) ?_ (by omega)
    show gI a b * 0 < gI a b * y
    rw [← hy, Int.mul_zero]; exact hb
  · have hG : (gI a b).natAbs = Nat.gcd a.natAbs b.natAbs := by unfold gI; rw [Int.natAbs_natCast]
    have ha : a.natAbs = (gI a b).natAbs * x.natAbs := by rw [← Int.natAbs_mul, ← hx]
    have hbn : b.natAbs = (gI a b).natAbs * y.natAbs := by rw [← Int.natAbs_mul, ← hy]
    have hk : Nat.gcd ((gI a b).natAbs * x.natAbs) ((gI a b).natAbs * y.natAbs) = (gI a b).natAbs := by rw [← ha, ← hbn, hG]
    rw [Nat.gcd_mul_left] at hk
    have hp : 0 < (gI a b).natAbs := by omega
    have h1 : Nat.gcd x.natAbs y.natAbs = 1 := Nat.eq_of_mul_eq_mul_left hp (by rw [hk, Nat.mul_one])
    show ((Nat.gcd x.natAbs y.natAbs : Nat) : Int) = 1
    rw [h1]; rfl
theorem low_sz {n : Nat} {a b : Int} (hb : 0 < b) (ha : Sz n a) (h2 : Sz n b) : Sz n (lowP a b).1 ∧ Sz n (lowP a b).2 := by
  obtain ⟨g, hg, e1, e2, _⟩ := low_ex (a := a) hb
  have key : ∀ {x : Int}, Sz n (g * x) → Sz n x := fun {x} h => by
    unfold Sz at h ⊢
    rw [Int.natAbs_mul] at h
    exact Nat.lt_of_le_of_lt (Nat.le_mul_of_pos_left _ (by omega)) h
  exact ⟨key (by rw [← e1]; exact ha), key (by rw [← e2]; exact h2)⟩
theorem low_zero {a b : Int} (hb : 0 < b) : (lowP a b).1 = 0 ↔ a = 0 := by
  obtain ⟨g, hg, e1, _⟩ := low_ex (a := a) hb
  constructor
  · intro h; rw [e1, h, Int.mul_zero]
  · intro h
    rw [h] at e1
    have := Int.mul_eq_zero.mp e1.symm
    rcases this with z | z
    · omega
    · rw [h]; exact z
def absI (n : Int) : Int := if n < 0 then -n else n
abbrev rowO (b : Int) (r : List Int) : D := .tup (r.map (ratO b))
def prodsI (rows : List (List Int)) (a : List Int) : List Int := rows.map fun r => dotI r a
theorem red_uniq {p q r s : Int} (h1 : Red p q) (h2 : Red r s) (e : p * s = r * q) : p = r ∧ q = s := by
  obtain ⟨q0, g1⟩ := h1
  obtain ⟨s0, g2⟩ := h2
  unfold gI at g1 g2
  have g1 : Nat.gcd p.natAbs q.natAbs = 1 := by omega
  have g2 : Nat.gcd r.natAbs s.natAbs = 1 := by omega
  have e2 : p.natAbs * s.natAbs = r.natAbs * q.natAbs := by rw [← Int.natAbs_mul, ← Int.natAbs_mul, e]
  have d1 : q.natAbs ∣ s.natAbs := by
    have c : Nat.Coprime q.natAbs p.natAbs := by rw [Nat.coprime_comm]; exact g1
    exact c.dvd_of_dvd_mul_left (by rw [e2]; exact Nat.dvd_mul_left _ _)
  have d2 : s.natAbs ∣ q.natAbs := by
    have c : Nat.Coprime s.natAbs r.natAbs := by rw [Nat.coprime_comm]; exact g2
    exact c.dvd_of_dvd_mul_left (by rw [← e2]; exact Nat.dvd_mul_left _ _)
  have hq : q = s := by
    have := Nat.dvd_antisymm d1 d2
    omega
  subst hq
  exact ⟨Int.eq_of_mul_eq_mul_right (by omega) e, rfl⟩
theorem low_red {a b : Int} (hb : 0 < b) : Red (lowP a b).1 (lowP a b).2 := by
  obtain ⟨g, hg, e1, e2, h⟩ := low_ex (a := a) hb
  exact h
theorem low_cross {a b : Int} (hb : 0 < b) : (lowP a b).1 * b = a * (lowP a b).2 := by
  obtain ⟨g, hg, e1, e2, h⟩ := low_ex (a := a) hb
  have e3 : (lowP a b).1 * (g * (lowP a b).2) = (g * (lowP a b).1) * (lowP a b).2 := by ac_rfl
  rwa [← e1, ← e2] at e3
theorem low_eq {a b c d : Int} (hb : 0 < b) (hd : 0 < d) (e : a * d = c * b) : lowP a b = lowP c d := by
  have h1 := low_cross (a := a) hb
  have h2 := low_cross (a := c) hd
  have r1 := low_red (a := a) hb
  have r2 := low_red (a := c) hd
  have key : (lowP a b).1 * (lowP c d).2 = (lowP c d).1 * (lowP a b).2 := by
    have : (lowP a b).1 * (lowP c d).2 * (b * d) = (lowP c d).1 * (lowP a b).2 * (b * d) := by
      calc (lowP a b).1 * (lowP c d).2 * (b * d) = ((lowP a b).1 * b) * (d * (lowP c d).2) := by ac_rfl
        _ = (a * (lowP a b).2) * (d * (lowP c d).2) := by rw [h1]
        _ = (a * d) * ((lowP a b).2 * (lowP c d).2) := by ac_rfl
        _ = (c * b) * ((lowP a b).2 * (lowP c d).2) := by rw [e]
        _ = (c * (lowP c d).2) * (b * (lowP a b).2) := by ac_rfl
        _ = ((lowP c d).1 * d) * (b * (lowP a b).2) := by rw [h2]
        _ = (lowP c d).1 * (lowP a b).2 * (b * d) := by ac_rfl
    exact Int.eq_of_mul_eq_mul_right (by have := Int.mul_pos hb hd; omega) this
  obtain ⟨e1, e2⟩ := red_uniq r1 r2 key
  exact Prod.ext e1 e2
theorem low_add {b m n : Int} (hb : 0 < b) : lowP ((lowP m b).1 * (lowP n b).2 + (lowP n b).1 * (lowP m b).2) ((lowP m b).2 * (lowP n b).2) = lowP (m + n) b := by
  have h1 := low_cross (a := m) hb
  have h2 := low_cross (a := n) hb
  have r1 := low_red (a := m) hb
  have r2 := low_red (a := n) hb
  refine low_eq (Int.mul_pos r1.1 r2.1) hb ?_
  calc ((lowP m b).1 * (lowP n b).2 + (lowP n b).1 * (lowP m b).2) * b = ((lowP m b).1 * b) * (lowP n b).2 + ((lowP n b).1 * b) * (lowP m b).2 := by rw [Int.add_mul]; congr 1 <;> ac_rfl
    _ = (m * (lowP m b).2) * (lowP n b).2 + (n * (lowP n b).2) * (lowP m b).2 := by rw [h1, h2]
    _ = (m + n) * ((lowP m b).2 * (lowP n b).2) := by rw [Int.add_mul]; congr 1 <;> ac_rfl
theorem low_mul {b m x : Int} (hb : 0 < b) : lowP ((lowP m b).1 * x) ((lowP m b).2 * 1) = lowP (m * x) b := by
  have h1 := low_cross (a := m) hb
  have r1 := low_red (a := m) hb
  rw [Int.mul_one]
  refine low_eq r1.1 hb ?_
  calc (lowP m b).1 * x * b = ((lowP m b).1 * b) * x := by ac_rfl
    _ = m * (lowP m b).2 * x := by rw [h1]
    _ = m * x * (lowP m b).2 := by ac_rfl
theorem low_addI {b m : Int} (hb : 0 < b) : lowP ((lowP m b).1 * 1 + 0 * (lowP m b).2) ((lowP m b).2 * 1) = lowP m b := by
  have r1 := low_red (a := m) hb
  rw [Int.mul_one, Int.mul_one, Int.zero_mul, Int.add_zero]
  exact r1.low
theorem low_z {b : Int} (hb : 0 < b) : lowP 0 b = (0, 1) := by
  rw [← low_one 0]
  exact low_eq hb (by decide) (by rw [Int.zero_mul, Int.zero_mul])
theorem low_neg {b m : Int} (hb : 0 < b) : (-(lowP m b).1, (lowP m b).2) = lowP (-m) b := by
  have h1 := low_cross (a := m) hb
  have r1 := (low_red (a := m) hb).neg
  rw [← r1.low]
  refine low_eq r1.1 hb ?_
  rw [Int.neg_mul, Int.neg_mul, h1]
theorem low_pos {b m : Int} (hb : 0 < b) : (lowP m b).1 < 0 ↔ m < 0 := by
  obtain ⟨g, hg, e1, e2, h⟩ := low_ex (a := m) hb
  constructor
  · intro h
    rw [e1]; exact Int.mul_neg_of_pos_of_neg hg h
  · intro h
    by_cases z : (lowP m b).1 < 0
    · exact z
    · have := Int.mul_nonneg (Int.le_of_lt hg) (show 0 ≤ (lowP m b).1 by omega)
      rw [← e1] at this
      omega
theorem low_abs {b m : Int} (hb : 0 < b) : ((if (lowP m b).1 < 0 then -(lowP m b).1 else (lowP m b).1), (lowP m b).2) = lowP (absI m) b := by
  unfold absI
  by_cases c : m < 0
  · rw [if_pos c, if_pos ((low_pos hb).mpr c)]; exact low_neg hb
  · rw [if_neg c, if_neg (fun z => c ((low_pos hb).mp z))]
theorem pairRat {p q r s : Int} (h : (p, q) = (r, s)) : rat p q = rat r s := by cases h; rfl
/-- sizes of an n over b -/
structure OkO (b n : Int) : Prop where
  pos : 0 < b
  zb : Sz 900 b
  zn : Sz 1000 n
theorem OkO.q {b n : Int} (h : OkO b n) : (lowP n b).2 ≠ 0 ∧ Sz 1000 (lowP n b).1 ∧ Sz 1000 (lowP n b).2 := by
  obtain ⟨z1, z2⟩ := low_sz (n := 1000) h.pos h.zn (h.zb.mono (by decide))
  have := (low_red (a := n) h.pos).1
  exact ⟨by omega, z1, z2⟩
theorem rat0 {b : Int} (hb : 0 < b) : rat 0 1 = ratO b 0 := by
  show rat 0 1 = rat (lowP 0 b).1 (lowP 0 b).2
  rw [low_z hb]
theorem rat1 (n : Int) : ratO 1 n = rat n 1 := by
  show rat (lowP n 1).1 (lowP n 1).2 = _
  rw [low_one]
def leadI (r : List Int) : Int := (r.filter (· != 0)).headD 0
def sgR (r : List Int) (x : Int) : Int := if leadI r < 0 then -x else x
def dirP (r : List Int) : List Int := lowI (r.map (sgR r))
theorem gI_mulR {a c k : Int} (h : 0 ≤ k) : gI (a * k) (c * k) = gI a c * k := by
  unfold gI
  rw [Int.natAbs_mul, Int.natAbs_mul, Nat.gcd_mul_right, Int.natCast_mul]
  congr 1
  omega
theorem gcF_mul {k : Int} (h : 0 ≤ k) : ∀ (r : List Int) (g : Int), (r.map (· * k)).foldl gI (g * k) = r.foldl gI g * k
  | [], g => rfl
  | x :: r, g => by
    rw [List.map_cons, List.foldl_cons, List.foldl_cons, gI_mulR h, gcF_mul h r]
theorem gcL_mul {k : Int} (h : 0 ≤ k) (r : List Int) : gcL (r.map (· * k)) = gcL r * k := by
  have := gcF_mul h r 0
  rw [Int.zero_mul] at this; exact this
theorem gI_negR (a b : Int) : gI a (-b) = gI a b := by unfold gI; rw [Int.natAbs_neg]
theorem gcF_sg {f : Int → Int} (hf : ∀ x, f x = x ∨ f x = -x) : ∀ (r : List Int) (g : Int), (r.map f).foldl gI g = r.foldl gI g
  | [], g => rfl
  | x :: r, g => by
    rw [List.map_cons, List.foldl_cons, List.foldl_cons, gcF_sg hf r]
    rcases hf x with e | e <;> rw [e]
    rw [gI_negR]
theorem sgR_or (r : List Int) (x : Int) : sgR r x = x ∨ sgR r x = -x := by unfold sgR; split <;> simp
theorem gcL_sg (r s : List Int) : gcL (r.map (sgR s)) = gcL r := gcF_sg (sgR_or s) r 0
theorem gcF_nn : ∀ (r : List Int) (g : Int), 0 ≤ g → 0 ≤ r.foldl gI g
  | [], _, h => h
  | x :: r, g, _ => gcF_nn r _ (gI_nn g x)
theorem gcL_nn (r : List Int) : 0 ≤ gcL r := gcF_nn r 0 (Int.le_refl _)
theorem gcF_dvd : ∀ (r : List Int) (g : Int), r.foldl gI g ∣ g ∧ ∀ x ∈ r, r.foldl gI g ∣ x
  | [], g => ⟨Int.dvd_refl _, fun x hx => by cases hx⟩
  | y :: r, g => by
    obtain ⟨a, b⟩ := gcF_dvd r (gI g y)
    refine ⟨Int.dvd_trans a (gI_dvd1 g y), fun x hx => ?_⟩
    rcases List.mem_cons.mp hx with rfl | hx
    · exact Int.dvd_trans a (gI_dvd2 g x)
    · exact b x hx
theorem gcL_dvd {r : List Int} {x : Int} (h : x ∈ r) : gcL r ∣ x := (gcF_dvd r 0).2 x h
theorem gcF_zero : ∀ (r : List Int) (g : Int), (∀ x ∈ r, x = 0) → g = 0 → r.foldl gI g = 0
  | [], _, _, h => h
  | x :: r, g, h, e => by
    have hx := h x List.mem_cons_self
    subst hx e
    exact gcF_zero r _ (fun y hy => h y (List.mem_cons_of_mem _ hy)) rfl
theorem gcL_ne {r : List Int} : gcL r ≠ 0 ↔ ∃ x ∈ r, x ≠ 0 := by
  constructor
  · intro h
    by_cases e : ∃ x ∈ r, x ≠ 0
    · exact e
    · exact absurd (gcF_zero r 0 (fun x hx => Decidable.byContradiction fun z => e ⟨x, hx, z⟩) rfl) h
  · rintro ⟨x, hx, h0⟩ e
    obtain ⟨c, hc⟩ := gcL_dvd hx
    rw [e, Int.zero_mul] at hc
    exact h0 hc
theorem lowI_eq {r : List Int} (h : gcL r ≠ 0) : lowI r = r.map (·.fdiv (gcL r)) := by
  unfold lowI
  cases hg : decide (gcL r > 1) with
  | true => rfl
  | false =>
    have := of_decide_eq_false hg
    have g0 := gcL_nn r
    have e : gcL r = 1 := by omega
    rw [cond_false, e]
    conv => lhs; rw [← List.map_id r]
    exact List.map_congr_left fun x _ => by simp
theorem dirP_eq {r : List Int} (h : gcL r ≠ 0) : dirP r = r.map fun x => (sgR r x).fdiv (gcL r) := by
  unfold dirP
  rw [lowI_eq (by rw [gcL_sg]; exact h), gcL_sg, List.map_map]; rfl
/-- the same row, longer or shorter -/
structure Scl (s b : Int) (f : Int → Int) (r : List Int) : Prop where
  s0 : 0 < s
  b0 : 0 < b
  e : ∀ x ∈ r, f x * b = x * s
theorem Scl.zero {s b : Int} {f : Int → Int} {r : List Int} (h : Scl s b f r) {x : Int} (hx : x ∈ r) : (f x != 0) = (x != 0) := by
  have e := h.e x hx
  by_cases h0 : x = 0
  · subst h0
    rw [Int.zero_mul] at e
    rcases Int.mul_eq_zero.mp e with e | e
    · rw [e]
    · have := h.b0; omega
  · have : f x ≠ 0 := fun z => by
      rw [z, Int.zero_mul] at e
      rcases Int.mul_eq_zero.mp e.symm with e | e
      · exact h0 e
      · have := h.s0; omega
    rw [bne_iff_ne.mpr h0, bne_iff_ne.mpr this]
theorem Scl.neg {s b : Int} {f : Int → Int} {r : List Int} (h : Scl s b f r) {x : Int} (hx : x ∈ r) : (f x < 0) ↔ (x < 0) := by
  have e := h.e x hx
  constructor
  · intro h1
    have h2 := Int.mul_lt_mul_of_pos_right h1 h.b0
    rw [Int.zero_mul, e] at h2
    rcases lt_or_geI x 0 with h3 | h3
    · exact h3
    · have := Int.mul_nonneg h3 (Int.le_of_lt h.s0); omega
  · intro h1
    have h2 := Int.mul_lt_mul_of_pos_right h1 h.s0
    rw [Int.zero_mul, ← e] at h2
    rcases lt_or_geI (f x) 0 with h3 | h3
    · exact h3
    · have := Int.mul_nonneg h3 (Int.le_of_lt h.b0); omega
theorem Scl.filter {s b : Int} {f : Int → Int} : ∀ {r : List Int}, Scl s b f r → (r.map f).filter (· != 0) = (r.filter (· != 0)).map f
  | [], _ => rfl
  | x :: r, h => by
    have ih := Scl.filter (r := r) ⟨h.s0, h.b0, fun y hy => h.e y (List.mem_cons_of_mem _ hy)⟩
    have hx := h.zero (x := x) List.mem_cons_self
    rw [List.map_cons, List.filter_cons, List.filter_cons, hx, ih]
    split <;> rfl
theorem Scl.lead {s b : Int} {f : Int → Int} {r : List Int} (h : Scl s b f r) : (leadI (r.map f) < 0) ↔ (leadI r < 0) := by
  unfold leadI
  rw [h.filter]
  cases e : r.filter (· != 0) with
  | nil => exact Iff.rfl
  | cons x t =>
    have hx : x ∈ r := (List.mem_filter.mp (by rw [e]; exact List.mem_cons_self)).1
    exact h.neg hx
theorem Scl.gc {s b : Int} {f : Int → Int} {r : List Int} (h : Scl s b f r) : gcL (r.map f) * b = gcL r * s := by
  rw [← gcL_mul (Int.le_of_lt h.b0), ← gcL_mul (Int.le_of_lt h.s0), List.map_map]
  congr 1
  exact List.map_congr_left fun x hx => h.e x hx
theorem fdiv_exact {a g p : Int} (h : p * g = a) (hg : g ≠ 0) : a.fdiv g = p := by
  rw [← h, Int.mul_comm]
  exact Int.mul_fdiv_cancel_left _ hg
theorem Scl.gc0 {s b : Int} {f : Int → Int} {r : List Int} (h : Scl s b f r) (h0 : gcL r ≠ 0) : gcL (r.map f) ≠ 0 := fun z => by
  have e := h.gc
  rw [z, Int.zero_mul] at e
  rcases Int.mul_eq_zero.mp e.symm with e | e
  · exact h0 e
  · have := h.s0; omega
theorem Scl.sg {s b : Int} {f : Int → Int} {r : List Int} (h : Scl s b f r) (x : Int) (hx : x ∈ r) : sgR (r.map f) (f x) * b = sgR r x * s := by
  unfold sgR
  have l := h.lead
  have e := h.e x hx
  by_cases h1 : leadI r < 0
  · rw [if_pos h1, if_pos (l.mpr h1), Int.neg_mul, Int.neg_mul, e]
  · rw [if_neg h1, if_neg (fun z => h1 (l.mp z)), e]
theorem Scl.dir {s b : Int} {f : Int → Int} {r : List Int} (h : Scl s b f r) (h0 : gcL r ≠ 0) : dirP (r.map f) = dirP r := by
  rw [dirP_eq h0, dirP_eq (h.gc0 h0), List.map_map]
  refine List.map_congr_left fun x hx => ?_
  show (sgR (r.map f) (f x)).fdiv (gcL (r.map f)) = (sgR r x).fdiv (gcL r)
  obtain ⟨c, hc⟩ : gcL r ∣ sgR r x := by
    rcases sgR_or r x with e | e <;> rw [e]
    · exact gcL_dvd hx
    · exact Int.dvd_neg.mpr (gcL_dvd hx)
  have e1 : (sgR r x).fdiv (gcL r) = c := fdiv_exact (by rw [hc, Int.mul_comm]) h0
  rw [e1]
  refine fdiv_exact ?_ (h.gc0 h0)
  have e2 := h.sg x hx
  have e3 := h.gc
  have : c * gcL (r.map f) * b = sgR (r.map f) (f x) * b := by
    rw [Int.mul_assoc, e3, e2, hc, Int.mul_comm (gcL r) c, Int.mul_assoc]
  exact Int.eq_of_mul_eq_mul_right (by have := h.b0; omega) this
/-- the first entry that is not 0 -/
theorem lead_ix (p : List Int) : ((List.range p.length).filter fun k => p.getD k 0 != 0).map (fun k => p.getD k 0) = p.filter (· != 0) := by
  have e : p = (List.range p.length).map fun k => p.getD k 0 := by
    apply List.ext_getElem
    · simp
    · intro i h1 h2
      simp [List.getD_eq_getElem?_getD, List.getElem?_eq_getElem h1]
  conv => rhs; rw [e]
  rw [List.filter_map]
  rfl
theorem dir_lead {r : List Int} (h : gcL r ≠ 0) : 0 < leadI (dirP r) := by
  have g0 := gcL_nn r
  have hs : Scl 1 (gcL r) (fun x => (sgR r x).fdiv (gcL r)) [] := ⟨by decide, by omega, fun x hx => by cases hx⟩
  have hx : ∀ x ∈ r, (sgR r x).fdiv (gcL r) * gcL r = sgR r x := fun x hx => fdiv_ok (by
    rcases sgR_or r x with e | e <;> rw [e]
    · exact gcL_dvd hx
    · exact Int.dvd_neg.mpr (gcL_dvd hx)) (by omega)
  rw [dirP_eq h]
  unfold leadI
  have hf : (r.map fun x => (sgR r x).fdiv (gcL r)).filter (· != 0) = (r.filter (· != 0)).map fun x => (sgR r x).fdiv (gcL r) := by
    rw [List.filter_map]
    congr 1
    refine List.filter_congr fun x hx2 => ?_
    show ((sgR r x).fdiv (gcL r) != 0) = (x != 0)
    have e := hx x hx2
    by_cases h0 : x = 0
    · subst h0
      have : sgR r 0 = 0 := by rcases sgR_or r 0 with e | e <;> rw [e] <;> rfl
      rw [this, Int.zero_fdiv]
    · have : (sgR r x).fdiv (gcL r) ≠ 0 := fun z => by
        rw [z, Int.zero_mul] at e
        rcases sgR_or r x with e2 | e2 <;> rw [e2] at e <;> omega
      rw [bne_iff_ne.mpr h0, bne_iff_ne.mpr this]
  rw [hf]
  obtain ⟨x, hx2, h0⟩ := gcL_ne.mp h
  cases e : r.filter (· != 0) with
  | nil =>
    have : x ∈ r.filter (· != 0) := List.mem_filter.mpr ⟨hx2, bne_iff_ne.mpr h0⟩
    rw [e] at this; cases this
  | cons y t =>
    have hy : y ∈ r ∧ (y != 0) = true := List.mem_filter.mp (by rw [e]; exact List.mem_cons_self)
    have hl : leadI r = y := by unfold leadI; rw [e]; rfl
    have e2 := hx y hy.1
    have y0 : y ≠ 0 := bne_iff_ne.mp hy.2
    show 0 < (sgR r y).fdiv (gcL r)
    have pos : 0 < sgR r y := by
      unfold sgR
      rw [hl]
      split <;> omega
    rcases lt_or_geI 0 ((sgR r y).fdiv (gcL r)) with h3 | h3
    · exact h3
    · have := Int.mul_le_mul_of_nonneg_right h3 g0
      rw [Int.zero_mul, e2] at this; omega
theorem o_ixI0 {l : List Int} {x : Int} {t : List Int} (e : l = x :: t) : O2 dIx (.lst (dints l)) (.int 0) (.int x) := by
  subst e
  exact .mk fun k q => by
    show match atI (D.int x :: t.map D.int) 0 with | some d => k d | none => False
    rw [atI_zero]; exact q
theorem o_ixN0 {l : List Nat} {x : Nat} {t : List Nat} (e : l = x :: t) : O2 dIx (.lst (l.map fun k : Nat => D.int (0 + (k : Int)))) (.int 0) (.int (0 + (x : Int))) := by
  subst e
  exact .mk fun k q => by
    show match atI (D.int (0 + (x : Int)) :: t.map fun k : Nat => D.int (0 + (k : Int))) 0 with | some d => k d | none => False
    rw [atI_zero]; exact q
theorem o_ixNI {l : List Int} {i : Nat} (h : i < l.length) : O2 dIx (.lst (dints l)) (.int (0 + (i : Int))) (.int (l.getD i 0)) := .mk fun k q => (o_ixTI h).run k q
theorem head_lead {l : List Int} (h : gcL l ≠ 0) : ∃ x t, l.filter (· != 0) = x :: t ∧ leadI l = x := by
  obtain ⟨x, hx2, h0⟩ := gcL_ne.mp h
  cases e : l.filter (· != 0) with
  | nil =>
    have : x ∈ l.filter (· != 0) := List.mem_filter.mpr ⟨hx2, bne_iff_ne.mpr h0⟩
    rw [e] at this; cases this
  | cons y t => exact ⟨y, t, rfl, by unfold leadI; rw [e]; rfl⟩
/-- where the first entry that is not 0 stands -/
theorem head_ix {p : List Int} (h : 0 < leadI p) : ∃ (j : Nat) (t : List Nat), ((List.range p.length).filter fun k => p.getD k 0 != 0) = j :: t ∧ j < p.length ∧ p.getD j 0 = leadI p := by
  have e := lead_ix p
  cases c : (List.range p.length).filter fun k => p.getD k 0 != 0 with
  | nil =>
    rw [c] at e
    unfold leadI at h
    rw [← e] at h
    exact absurd h (Int.lt_irrefl 0)
  | cons j t =>
    have hj : j ∈ (List.range p.length).filter fun k => p.getD k 0 != 0 := by rw [c]; exact List.mem_cons_self
    refine ⟨j, t, rfl, List.mem_range.mp (List.mem_filter.mp hj).1, ?_⟩
    rw [c] at e
    unfold leadI
    rw [← e]; rfl
/-- a row over b, as whole_row sees it -/
abbrev qsO (b : Int) (r : List Int) : List (Int × Int) := r.map fun x => lowP x b
theorem low_dvd {a b : Int} (hb : 0 < b) : (lowP a b).2 ∣ b := by
  obtain ⟨g, hg, e1, e2, _⟩ := low_ex (a := a) hb
  exact ⟨g, by rw [Int.mul_comm]; exact e2⟩
theorem qsO_ok {b : Int} {r : List Int} (b0 : 0 < b) (zb : Sz 900 b) (hz : Sms 1000 r) (hl : r.length ≤ 1000) : QsOk b (qsO b r) := ⟨b0, zb, fun q hq => by
  obtain ⟨x, hx, rfl⟩ := List.mem_map.mp hq
  exact ⟨(low_red b0).1, low_dvd b0, (low_sz b0 (hz x hx) (zb.mono (by decide))).1⟩, by rw [List.length_map]; exact hl⟩
def fO (s b x : Int) : Int := (lowP x b).1 * s.fdiv (lowP x b).2
theorem numsO {b : Int} {r : List Int} : numsI (qsO b r) = r.map (fO (cbI (qsO b r)) b) := by
  unfold numsI
  rw [List.map_map]; rfl
theorem sclO {b : Int} {r : List Int} (b0 : 0 < b) (zb : Sz 900 b) (hz : Sms 1000 r) (hl : r.length ≤ 1000) : Scl (cbI (qsO b r)) b (fO (cbI (qsO b r)) b) r := by
  have ok := qsO_ok b0 zb hz hl
  obtain ⟨c0, c1, c2⟩ := ok.cb
  refine ⟨c0, b0, fun x hx => ?_⟩
  have hq : lowP x b ∈ qsO b r := List.mem_map.mpr ⟨x, hx, rfl⟩
  have e1 := low_cross (a := x) b0
  have e2 := fdiv_ok (c2 _ hq) (ok.q _ hq).1
  unfold fO
  rw [Int.mul_right_comm, e1, Int.mul_assoc, Int.mul_comm (lowP x b).2, e2]
theorem szO {b : Int} {r : List Int} (b0 : 0 < b) (zb : Sz 900 b) (hz : Sms 1000 r) (hl : r.length ≤ 1000) : Sms 1900 (r.map (fO (cbI (qsO b r)) b)) := fun y hy => by
  obtain ⟨x, hx, rfl⟩ := List.mem_map.mp hy
  have ok := qsO_ok b0 zb hz hl
  obtain ⟨c0, c1, c2⟩ := ok.cb
  have hq : lowP x b ∈ qsO b r := List.mem_map.mpr ⟨x, hx, rfl⟩
  exact Sz.mul (n := 1000) (m := 900) (ok.q _ hq).2.2 (sz_fdiv (c2 _ hq) (ok.q _ hq).1 ok.zc)
theorem sgR_sz {n : Nat} {r s : List Int} (h : Sms n r) : Sms n (r.map (sgR s)) := fun y hy => by
  obtain ⟨x, hx, rfl⟩ := List.mem_map.mp hy
  have := h x hx
  unfold Sz at *
  rcases sgR_or s x with e | e <;> rw [e] <;> omega
def s_diro : GS := fun ds k _ => ∃ (r : List Int) (b : Int), ds = [rowO b r] ∧ 0 < b ∧ Sz 900 b ∧ Sms 1000 r ∧ r.length ≤ 1000 ∧ gcL r ≠ 0 ∧ k (.tup [.lst (dints (dirP r)), ratO b (gcL r)])
theorem mn_diro : MnS s_diro := fun ds k k' e e' h1 _ ⟨r, b, h, g1, g2, g3, g4, g5, q⟩ => ⟨r, b, h, g1, g2, g3, g4, g5, h1 _ q⟩
theorem ok_direction_of (F : Facts K mg) : FnOk P w K mg base (L2.CX P w) 5 (He.ga K "direction_of") (fdOf K (He.ga K "direction_of")) ["row"] (lift K s_diro) := by
  refine okD F.d_direction_of sc_direction_of (fun ds k e h => by obtain ⟨_, _, rfl, _⟩ := h; rfl) fun cdv A outer s0 H E b eo hr Z => ⟨_, dss_cons (ds_tgt (de_ca (fc_whole_row_1 F) mn_wrow (hr.mono (by decide)) F.g_whole_row F.d_whole_row.kp cz_none (dca_pos (da_cons (de_var 0) (da_nil)))) (dg_tup rfl (dgs_cons (dg_name (i := 1) sc_direction_of.nd rfl (.inl rfl)) (dgs_cons (dg_name (i := 2) sc_direction_of.nd rfl (.inl rfl)) (dgs_nil)))))
    (dss_cons (ds_asg (i := 3) sc_direction_of.nd rfl (.inr rfl) (de_ix (de_lc rfl sc_direction_of.nd (own := [("number", 4)]) (di_seq (de_var 2)) (blk_ok (N := ["row", "scale", "numbers", "lead", "number", "plain", "at", "k"]) (by kernel_rfl)) (fun _ _ _ _ _ => dg_name (i := 4) sc_direction_of.nd rfl (.inl rfl)) (fun _ _ _ _ _ => dts_one (db_neA hr (DE.dt (de_var 4)) (DE.dt (de_int)))) (fun _ _ _ _ _ => de_var 4)) (DE.dt (de_int))))
    (dss_cons (ds_asg (i := 5) sc_direction_of.nd rfl (.inr rfl) (de_ca (fc_lowered_1 F) mn_lowd (hr.mono (by decide)) F.g_lowered F.d_lowered.kp cz_none (dca_pos (da_cons (de_lc rfl sc_direction_of.nd (own := [("number", 4)]) (di_seq (de_var 2)) (blk_ok (N := ["row", "scale", "numbers", "lead", "number", "plain", "at", "k"]) (by kernel_rfl)) (fun _ _ _ _ _ => dg_name (i := 4) sc_direction_of.nd rfl (.inl rfl)) (fun _ _ _ _ _ => dts_nil) (fun _ _ _ _ _ => de_if (db_lt (DE.dt (de_var 3)) (DE.dt (de_int))) (de_neg (DE.dt (de_var 4))) (de_var 4))) (da_nil)))))
    (dss_cons (ds_asg (i := 6) sc_direction_of.nd rfl (.inl rfl) (de_ix (de_lc rfl sc_direction_of.nd (own := [("k", 7)]) (di_rng1 rfl F.n_range (DE.dt (de_callB call_len3 cl_len rfl F.n_len rfl (DE.dt (de_var 5))))) (blk_ok (N := ["row", "scale", "numbers", "lead", "number", "plain", "at", "k"]) (by kernel_rfl)) (fun _ _ _ _ _ => dg_name (i := 7) sc_direction_of.nd rfl (.inl rfl)) (fun _ _ _ _ _ => dts_one (db_neA hr (DE.dt (de_ix (de_var 5) (DE.dt (de_var 7)))) (DE.dt (de_int)))) (fun _ _ _ _ _ => de_var 7)) (DE.dt (de_int))))
    (dss_one (ds_ret (DE.dt (de_tup (da_cons (de_var 5) (da_cons (de_mk F.k_Ratio (fc_Ratio_init_2 F) (shpI_mn mn_Rinit) (hr.mono (by decide)) F.g_Ratio Z (dca_pos (da_cons (de_callB call_abs cl_abs rfl F.n_abs rfl (DE.dt (de_ix (de_var 2) (DE.dt (de_var 6))))) (da_cons (de_mulA (DE.dt (de_var 1)) (DE.dt (de_ix (de_var 5) (DE.dt (de_var 6))))) (da_nil))))) (da_nil)))))))))), fun ds k h => ?_⟩
  obtain ⟨r, b, rfl, b0, zb, hz, hl, hg, hk⟩ := h
  suffices z : Stp _ from z.run
  have ok := qsO_ok b0 zb hz hl
  have sc := sclO b0 zb hz hl
  have zn := szO b0 zb hz hl
  have zs : Sz 900 (cbI (qsO b r)) := ok.zc
  have g1 := sc.gc0 hg
  have dd := sc.dir hg
  have sW : SR s_wrow [rowO b r] (.tup [.int (cbI (qsO b r)), .lst (dints (r.map (fO (cbI (qsO b r)) b)))]) := .mk fun k e q => ⟨rowO b r, qsO b r, b, rfl, .inr (by unfold rowO; rw [List.map_map]; rfl), ok, by rw [numsO]; exact q⟩
  have fl : ∀ x ∈ r, fO (cbI (qsO b r)) b x * b = x * cbI (qsO b r) := sc.e
  have s0 : 0 < cbI (qsO b r) := sc.s0
  clear sc
  have hl2 : (r.map (fO (cbI (qsO b r)) b)).length = r.length := List.length_map ..
  have hf : ∀ i, i < r.length → (r.map (fO (cbI (qsO b r)) b)).getD i 0 = fO (cbI (qsO b r)) b (r.getD i 0) := fun i hi => by
    rw [List.getD_eq_getElem?_getD, List.getD_eq_getElem?_getD, List.getElem?_map, List.getElem?_eq_getElem hi]; rfl
  generalize cbI (qsO b r) = s at *
  generalize hN : r.map (fO s b) = N at *
  show Stp (gSeq _ _ _ [.sh (rowO b r), .unset, .unset, .unset, .unset, .unset, .unset, .unset])
  with_reducible apply s_tgt2 (x := .int s) (y := .lst (dints N))
  · exact ev_ca (eva_cons (ev_var rfl) eva_nil) sW
  · exists pt
  · exists pt
  obtain ⟨x0, t0, hx0, hl0⟩ := head_lead g1
  with_reducible apply s_asg (d := .int (leadI N))
  · refine ev_g2 (x := .lst (dints (N.filter (· != 0)))) ?_ ev_c (by rw [hl0]; exact o_ixI0 hx0)
    refine ev_lcF (l := N) (gg := D.int) (p := fun x => x != 0) (f := D.int) (evi_it (ev_var rfl) itr_L) rfl (fun x hx => aevf1 (evt_B ?_) fun _ => ev_var rfl) (by omega)
    refine Ev.eq (ev_g2 (ev_var rfl) ev_c o_neI) ?_
    rfl
  · exists pt
  have sL : SR s_lowd [.lst (dints (N.map (sgR N)))] (.lst (dints (dirP r))) := .mk fun k e q => ⟨N.map (sgR N), rfl, by rw [List.length_map]; omega, (sgR_sz zn).mono (by decide), by rw [← dd] at q; exact q⟩
  with_reducible apply s_asg (d := .lst (dints (dirP r)))
  · refine ev_ca (eva_cons (Ev.eq (ev_lc (l := N) (gg := D.int) (f := fun x => .int (sgR N x)) (evi_it (ev_var rfl) itr_L) rfl (fun x hx => aev1 ?_) (by omega)) ?_) eva_nil) sL
    · have hT : EvT (gB (g2 dLt (gVar 3) (gC (.int 0)))) (put (wipeD [.sh (rowO b r), .sh (.int s), .sh (.lst (dints N)), .sh (.int (leadI N)), .unset, .unset, .unset, .unset] [4]) 4 (.sh (.int x))) (decide (leadI N < 0)) := evt_B (ev_g2 (z := .bl (decide (leadI N < 0))) (ev_var rfl) ev_c (.mk fun k q => q))
      unfold sgR
      by_cases c : leadI N < 0
      · rw [if_pos c]
        exact ev_ifT hT (decide_eq_true c) (ev_g1 (ev_var rfl) (.mk fun k q => q))
      · rw [if_neg c]
        exact ev_ifF hT (decide_eq_false c) (ev_var rfl)
    · unfold dints
      rw [List.map_map]; rfl
  · exists pt
  have l1 := dir_lead hg
  obtain ⟨j, t, hj, hj2, hj3⟩ := head_ix l1
  have pe := dirP_eq hg
  have pl : (dirP r).length = r.length := by rw [pe, List.length_map]
  have jr : j < r.length := by omega
  have hxj : r.getD j 0 ∈ r := by rw [List.getD_eq_getElem?_getD, List.getElem?_eq_getElem jr]; exact List.getElem_mem jr
  have pj : (dirP r).getD j 0 * gcL r = sgR r (r.getD j 0) := by
    rw [pe, List.getD_eq_getElem?_getD, List.getElem?_map, List.getElem?_eq_getElem jr]
    have e0 : r.getD j 0 = r[j] := by rw [List.getD_eq_getElem?_getD, List.getElem?_eq_getElem jr]; rfl
    rw [e0]
    refine fdiv_ok ?_ (by have := gcL_nn r; omega)
    rcases sgR_or r r[j] with e | e <;> rw [e]
    · exact gcL_dvd (List.getElem_mem jr)
    · exact Int.dvd_neg.mpr (gcL_dvd (List.getElem_mem jr))
  have gp : 0 < gcL r := by have := gcL_nn r; omega
  have fj := fl _ hxj
  have nj := hf j jr
  have zx := hz _ hxj
  rw [hj3] at pj
  have zp : Sz 1000 (leadI (dirP r)) := by
    have z2 : Sz 1000 (sgR r (r.getD j 0)) := by
      unfold Sz at *
      rcases sgR_or r (r.getD j 0) with e | e <;> rw [e] <;> omega
    rw [← pj] at z2
    have h1 : leadI (dirP r) ∣ leadI (dirP r) * gcL r := ⟨_, rfl⟩
    exact sz_dvd h1 (Int.mul_pos l1 gp) z2
  have zxn : Sz 1900 (N.getD j 0) := zn _ (by rw [List.getD_eq_getElem?_getD, List.getElem?_eq_getElem (by omega)]; exact List.getElem_mem _)
  have key : lowP (absI (N.getD j 0)) (s * leadI (dirP r)) = lowP (gcL r) b := by
    refine low_eq (Int.mul_pos s0 l1) b0 ?_
    have a1 : absI (r.getD j 0) = leadI (dirP r) * gcL r := by
      have := Int.mul_pos l1 gp
      rw [pj] at this ⊢
      unfold absI
      rcases sgR_or r (r.getD j 0) with e | e <;> rw [e] at this ⊢ <;> split <;> omega
    have a2 : absI (N.getD j 0) * b = absI (r.getD j 0) * s := by
      rw [nj]
      have n1 : fO s b (r.getD j 0) < 0 ↔ r.getD j 0 < 0 := (Scl.mk (r := r) s0 b0 fl).neg hxj
      unfold absI
      by_cases c : r.getD j 0 < 0
      · rw [if_pos c, if_pos (n1.mpr c), Int.neg_mul, Int.neg_mul, fj]
      · rw [if_neg c, if_neg (fun z => c (n1.mp z)), fj]
    rw [a2, a1]; ac_rfl
  with_reducible apply s_asg (d := .int (0 + (j : Int)))
  · refine ev_g2 (ev_lcF (l := List.range (dirP r).length) (gg := fun k : Nat => D.int (0 + (k : Int))) (p := fun k => (dirP r).getD k 0 != 0) (f := fun k : Nat => D.int (0 + (k : Int))) (evi_rng (j := (((dirP r).map D.int).length : Int)) (ev_g1 (ev_var rfl) (.mk fun k q => q)) (by rw [List.length_map]; omega)) (by rw [List.length_map]; rfl) (fun k hk => aevf1 (evt_B ?_) fun _ => ev_var rfl) (by rw [List.length_range]; omega)) ev_c (o_ixN0 hj)
    refine Ev.eq (ev_g2 (ev_g2 (ev_var rfl) (ev_var rfl) (o_ixNI (List.mem_range.mp hk))) ev_c o_neI) ?_
    rfl
  · exists pt
  have m : MulOk s (leadI (dirP r)) := MulOk.of zs zp (by decide)
  have m0 := Int.mul_pos s0 l1
  with_reducible apply s_ret (d := .tup [.lst (dints (dirP r)), ratO b (gcL r)])
  · refine ev_tup (eva_cons (ev_var rfl) (eva_cons (Ev.eq (ev_mk (eva_cons (ev_g1 (x := .int (N.getD j 0)) (ev_g2 (ev_var rfl) (ev_var rfl) (o_ixNI (by omega))) (z := .int (absI (N.getD j 0))) ?_) (eva_cons (ev_g2 (ev_var rfl) (ev_g2 (z := .int (leadI (dirP r))) (ev_var rfl) (ev_var rfl) (by rw [← hj3]; exact o_ixNI hj2)) (.mk fun k q => ⟨m, q⟩)) eva_nil)) (sri_shp (es := [.int (absI (N.getD j 0)), .int (s * leadI (dirP r))]) (sri_Rinit (by omega) ((Sz.mul (n := 900) (m := 1000) zs zp).mono (by decide))) rfl rfl)) ?_) eva_nil)) (by show 2 ≤ 1000; decide)
    · exact .mk fun k q => q
    · show ratP (lowP _ _) = _
      rw [key]
  · exact ⟨hk⟩
theorem fc_direction_of_1 (F : Facts K mg) : FnC P w K mg base 5 (He.ga K "direction_of") [] (lift K s_diro) := FnOk.c0 (ok_direction_of F) (F.d_direction_of.bindsN fun _ _ _ _ _ _ us hl => match us, hl with | [_], _ => rfl)
def s_Radd : GS := fun ds k _ => ∃ p q y r s, ds = [rat p q, y] ∧ isP y r s ∧ q ≠ 0 ∧ s ≠ 0 ∧ Sz 1000 p ∧ Sz 1000 q ∧ Sz 1000 r ∧ Sz 1000 s ∧ k (ratP (lowP (p * s + r * q) (q * s)))
theorem mn_Radd : MnS s_Radd := fun ds k k' e e' h1 _ ⟨p, q, y, r, s, h, g1, g2, g3, g4, g5, g6, g7, z⟩ => ⟨p, q, y, r, s, h, g1, g2, g3, g4, g5, g6, g7, h1 _ z⟩
theorem ok_Ratio_add (F : Facts K mg) : FnOk P w K mg base (L2.CX P w) 6 (He.ma K (He.ga K "Ratio") "__add__") (fdOf K (He.ma K (He.ga K "Ratio") "__add__")) ["self", "other"] (lift K s_Radd) := by
  refine okD F.d_Ratio_add sc_Ratio_add (fun ds k e h => by obtain ⟨p, q, y, r, s, rfl, _⟩ := h; rfl) fun cdv A outer s0 H E b eo hr Z => ⟨_, dss_cons (ds_if (db_not (db_val (DE.dt (de_ca (fc_is_part_1 F) mn_is_part (hr.mono (by decide)) F.g_is_part F.d_is_part.kp cz_none (dca_pos (da_cons (de_var 1) (da_nil))))))) (dss_never) (dss_nil))
    (dss_cons (ds_asg (i := 2) sc_Ratio_add.nd rfl (.inl rfl) (de_ca (fc_ratio_of_1 F) mn_ratio_of (hr.mono (by decide)) F.g_ratio_of F.d_ratio_of.kp Z (dca_pos (da_cons (de_var 1) (da_nil)))))
    (dss_one (ds_ret (DE.dt (de_mk F.k_Ratio (fc_Ratio_init_2 F) (shpI_mn mn_Rinit) (hr.mono (by decide)) F.g_Ratio Z (dca_pos (da_cons (de_addB (de_mulA (DE.dt (de_fld (c := "Ratio") (NS := ["top", "bottom"]) (i := 0) (de_var 0) F.c_Ratio F.a_Ratio_top (by decide))) (DE.dt (de_fld (c := "Ratio") (NS := ["top", "bottom"]) (i := 1) (de_var 2) F.c_Ratio F.a_Ratio_bottom (by decide)))) (de_mulA (DE.dt (de_fld (c := "Ratio") (NS := ["top", "bottom"]) (i := 0) (de_var 2) F.c_Ratio F.a_Ratio_top (by decide))) (DE.dt (de_fld (c := "Ratio") (NS := ["top", "bottom"]) (i := 1) (de_var 0) F.c_Ratio F.a_Ratio_bottom (by decide))))) (da_cons (de_mulA (DE.dt (de_fld (c := "Ratio") (NS := ["top", "bottom"]) (i := 1) (de_var 0) F.c_Ratio F.a_Ratio_bottom (by decide))) (DE.dt (de_fld (c := "Ratio") (NS := ["top", "bottom"]) (i := 1) (de_var 2) F.c_Ratio F.a_Ratio_bottom (by decide)))) (da_nil))))))))), fun ds k h => ?_⟩
  obtain ⟨p, q, y, r, s, rfl, hy, hq, hs, zp, zq, zr, zs, hk⟩ := h
  have ay : askD CLS y = true := by rcases hy with rfl | ⟨rfl, _⟩ <;> first | exact ask_rat _ _ | rfl
  have cy : ∀ c ns xs, y = .ins c ns xs → c = "Ratio" := fun c ns xs e => by
    rcases hy with rfl | ⟨rfl, _⟩
    · cases e; rfl
    · cases e
  have py : partB y = true := by rcases hy with rfl | ⟨rfl, _⟩ <;> rfl
  refine ⟨y, rfl, ay, fun c ns xs e => .inl (cy c ns xs e), ?_⟩
  rw [py]
  refine ratio_ofP hy ?_
  have m : ∀ {a c : Int}, Sz 1000 a → Sz 1000 c → MulOk a c := fun ha hc => MulOk.of ha hc (by decide)
  have hqs : q * s ≠ 0 := Int.mul_ne_zero hq hs
  have zqs : Sz 4000 (q * s) := (zq.mul zs).mono (by decide)
  exact ⟨rfl, rfl, rfl, rfl, m zp zs, rfl, rfl, rfl, rfl, m zr zq, rfl, rfl, rfl, rfl, m zq zs, rfl, Rinit_ok hqs zqs hk⟩
theorem sr_Radd_r {p q r s : Int} (hq : q ≠ 0) (hs : s ≠ 0) (zp : Sz 1000 p) (zq : Sz 1000 q) (zr : Sz 1000 r) (zs : Sz 1000 s) : SR s_Radd [rat p q, rat r s] (ratP (lowP (p * s + r * q) (q * s))) := .mk fun k e z => ⟨p, q, _, r, s, rfl, .inl rfl, hq, hs, zp, zq, zr, zs, z⟩
theorem sr_Radd_i {p q r : Int} (hq : q ≠ 0) (zp : Sz 1000 p) (zq : Sz 1000 q) (zr : Sz 1000 r) : SR s_Radd [rat p q, .int r] (ratP (lowP (p * 1 + r * q) (q * 1))) := .mk fun k e z => ⟨p, q, _, r, 1, rfl, .inr ⟨rfl, rfl⟩, hq, by decide, zp, zq, zr, szW (by decide), z⟩
local macro_rules
  | `(tactic| exists $i:ident) => match i.getId.eraseMacroScopes with
    | `es => `(tactic| ((with_reducible (first | apply sr_is_number | apply sri_Rinit | apply sr_lover | apply sr_mrows | apply sri_Linit | apply sr_pair | apply sr_Req_r | apply sr_Req_i | apply sr_Req_o | apply sr_Radd_r | apply sr_Radd_i))))
    | _ => Lean.Macro.throwUnsupported
def s_Rmul : GS := fun ds k _ => ∃ p q y r s, ds = [rat p q, y] ∧ isP y r s ∧ q ≠ 0 ∧ s ≠ 0 ∧ Sz 1000 p ∧ Sz 1000 q ∧ Sz 1000 r ∧ Sz 1000 s ∧ k (ratP (lowP (p * r) (q * s)))
theorem mn_Rmul : MnS s_Rmul := fun ds k k' e e' h1 _ ⟨p, q, y, r, s, h, g1, g2, g3, g4, g5, g6, g7, z⟩ => ⟨p, q, y, r, s, h, g1, g2, g3, g4, g5, g6, g7, h1 _ z⟩
theorem ok_Ratio_mul (F : Facts K mg) : FnOk P w K mg base (L2.CX P w) 6 (He.ma K (He.ga K "Ratio") "__mul__") (fdOf K (He.ma K (He.ga K "Ratio") "__mul__")) ["self", "other"] (lift K s_Rmul) := by
  refine okD F.d_Ratio_mul sc_Ratio_mul (fun ds k e h => by obtain ⟨p, q, y, r, s, rfl, _⟩ := h; rfl) fun cdv A outer s0 H E b eo hr Z => ⟨_, dss_cons (ds_if (db_not (db_val (DE.dt (de_ca (fc_is_part_1 F) mn_is_part (hr.mono (by decide)) F.g_is_part F.d_is_part.kp cz_none (dca_pos (da_cons (de_var 1) (da_nil))))))) (dss_never) (dss_nil))
    (dss_cons (ds_asg (i := 2) sc_Ratio_mul.nd rfl (.inl rfl) (de_ca (fc_ratio_of_1 F) mn_ratio_of (hr.mono (by decide)) F.g_ratio_of F.d_ratio_of.kp Z (dca_pos (da_cons (de_var 1) (da_nil)))))
    (dss_one (ds_ret (DE.dt (de_mk F.k_Ratio (fc_Ratio_init_2 F) (shpI_mn mn_Rinit) (hr.mono (by decide)) F.g_Ratio Z (dca_pos (da_cons (de_mulA (DE.dt (de_fld (c := "Ratio") (NS := ["top", "bottom"]) (i := 0) (de_var 0) F.c_Ratio F.a_Ratio_top (by decide))) (DE.dt (de_fld (c := "Ratio") (NS := ["top", "bottom"]) (i := 0) (de_var 2) F.c_Ratio F.a_Ratio_top (by decide)))) (da_cons (de_mulA (DE.dt (de_fld (c := "Ratio") (NS := ["top", "bottom"]) (i := 1) (de_var 0) F.c_Ratio F.a_Ratio_bottom (by decide))) (DE.dt (de_fld (c := "Ratio") (NS := ["top", "bottom"]) (i := 1) (de_var 2) F.c_Ratio F.a_Ratio_bottom (by decide)))) (da_nil))))))))), fun ds k h => ?_⟩
  obtain ⟨p, q, y, r, s, rfl, hy, hq, hs, zp, zq, zr, zs, hk⟩ := h
  have ay : askD CLS y = true := by rcases hy with rfl | ⟨rfl, _⟩ <;> first | exact ask_rat _ _ | rfl
  have cy : ∀ c ns xs, y = .ins c ns xs → c = "Ratio" := fun c ns xs e => by
    rcases hy with rfl | ⟨rfl, _⟩
    · cases e; rfl
    · cases e
  have py : partB y = true := by rcases hy with rfl | ⟨rfl, _⟩ <;> rfl
  refine ⟨y, rfl, ay, fun c ns xs e => .inl (cy c ns xs e), ?_⟩
  rw [py]
  refine ratio_ofP hy ?_
  have m : ∀ {a c : Int}, Sz 1000 a → Sz 1000 c → MulOk a c := fun ha hc => MulOk.of ha hc (by decide)
  have hqs : q * s ≠ 0 := Int.mul_ne_zero hq hs
  have zqs : Sz 4000 (q * s) := (zq.mul zs).mono (by decide)
  exact ⟨rfl, rfl, rfl, rfl, m zp zr, rfl, rfl, rfl, rfl, m zq zs, rfl, Rinit_ok hqs zqs hk⟩
theorem sr_Rmul_r {p q r s : Int} (hq : q ≠ 0) (hs : s ≠ 0) (zp : Sz 1000 p) (zq : Sz 1000 q) (zr : Sz 1000 r) (zs : Sz 1000 s) : SR s_Rmul [rat p q, rat r s] (ratP (lowP (p * r) (q * s))) := .mk fun k e z => ⟨p, q, _, r, s, rfl, .inl rfl, hq, hs, zp, zq, zr, zs, z⟩
theorem sr_Rmul_i {p q r : Int} (hq : q ≠ 0) (zp : Sz 1000 p) (zq : Sz 1000 q) (zr : Sz 1000 r) : SR s_Rmul [rat p q, .int r] (ratP (lowP (p * r) (q * 1))) := .mk fun k e z => ⟨p, q, _, r, 1, rfl, .inr ⟨rfl, rfl⟩, hq, by decide, zp, zq, zr, szW (by decide), z⟩
local macro_rules
  | `(tactic| exists $i:ident) => match i.getId.eraseMacroScopes with
    | `es => `(tactic| ((with_reducible (first | apply sr_is_number | apply sri_Rinit | apply sr_lover | apply sr_mrows | apply sri_Linit | apply sr_pair | apply sr_Req_r | apply sr_Req_i | apply sr_Req_o | apply sr_Radd_r | apply sr_Radd_i | apply sr_Rmul_r | apply sr_Rmul_i))))
    | _ => Lean.Macro.throwUnsupported
theorem sr_addO {b m n : Int} (h1 : OkO b m) (h2 : OkO b n) : SR s_Radd [ratO b m, ratO b n] (ratO b (m + n)) := by
  obtain ⟨q1, z1, z2⟩ := h1.q
  obtain ⟨q2, z3, z4⟩ := h2.q
  have := sr_Radd_r q1 q2 z1 z2 z3 z4
  rwa [low_add h1.pos] at this
theorem sr_raddO {b m : Int} (h1 : OkO b m) : SR s_Radd [ratO b m, .int 0] (ratO b m) := by
  obtain ⟨q1, z1, z2⟩ := h1.q
  have := sr_Radd_i (r := 0) q1 z1 z2 (szW (by decide))
  rwa [low_addI h1.pos] at this
theorem ow_zero {b m : Int} (h : OkO b m) : OW2 "Ratio" s_Radd (ratO b m) (rat 0 1) (ratO b m) := by
  have z := sr_addO h (n := 0) ⟨h.pos, h.zb, szW (by decide)⟩
  rw [Int.add_zero, ← rat0 h.pos] at z
  exact ow2_own z
theorem sr_mulO {b m x : Int} (h1 : OkO b m) (hx : Sz 1000 x) : SR s_Rmul [ratO b m, .int x] (ratO b (m * x)) := by
  obtain ⟨q1, z1, z2⟩ := h1.q
  have := sr_Rmul_i (r := x) q1 z1 z2 hx
  rwa [low_mul h1.pos] at this
theorem ev_zero {σ : StD} {eo : XD → Prop} : Ev (gMk "Ratio" (shpI 1 [0, 1] [.int 1] s_Rinit) eo (DL.gCons (gC (.int 0)) DL.gNil)) σ (rat 0 1) := by
  have r01 : SRI s_Rinit "Ratio" [.int 0, .int 1] RNS [.int 0, .int 1] := by
    have := sri_Rinit (t := 0) (b := 1) (by decide) (szW (by decide))
    rwa [low_one] at this
  exact ev_mk (eva_cons ev_c eva_nil) (sri_shp (es := [.int 0, .int 1]) r01 rfl rfl)
def wtR (rs : List (List Int)) (p : List Int) : Int := ((rs.filter fun r => gcL r != 0 && dirP r == p).map gcL).sum
def leR (a c : List Int) : Bool := decide (a ≤ c)
def stD (P : List (List Int)) (r : List Int) : List (List Int) := bif gcL r == 0 || P.any (· == dirP r) then P else P ++ [dirP r]
def dirsR (rs : List (List Int)) : List (List Int) := rs.foldl stD []
def outR (rs : List (List Int)) : List (List Int) := ((dirsR rs).mergeSort leR).map fun p => p.map (wtR rs p * ·)
theorem dirs_snoc (pre : List (List Int)) (x : List Int) : dirsR (pre ++ [x]) = stD (dirsR pre) x := by unfold dirsR; rw [List.foldl_append]; rfl
theorem wt_snoc (pre : List (List Int)) (x p : List Int) : wtR (pre ++ [x]) p = wtR pre p + (bif gcL x != 0 && dirP x == p then gcL x else 0) := by
  unfold wtR
  rw [List.filter_append, List.map_append, List.sum_append, List.filter_cons, List.filter_nil]
  cases gcL x != 0 && dirP x == p <;> simp
theorem fold_inv : ∀ (rs P : List (List Int)), P.Nodup → (rs.foldl stD P).Nodup ∧ ∀ p, p ∈ rs.foldl stD P ↔ p ∈ P ∨ ∃ r ∈ rs, gcL r ≠ 0 ∧ dirP r = p
  | [], P, h => ⟨h, fun p => by simp⟩
  | x :: rs, P, h => by
    rw [List.foldl_cons]
    have key : (stD P x).Nodup ∧ ∀ p, p ∈ stD P x ↔ p ∈ P ∨ (gcL x ≠ 0 ∧ dirP x = p) := by
      unfold stD
      by_cases c0 : gcL x = 0
      · rw [show (gcL x == 0 || P.any (· == dirP x)) = true by simp [c0], cond_true]
        exact ⟨h, fun p => by simp [c0]⟩
      · by_cases c1 : dirP x ∈ P
        · rw [show (gcL x == 0 || P.any (· == dirP x)) = true by simp [c1], cond_true]
          refine ⟨h, fun p => ⟨.inl, fun z => z.elim id fun z => z.2 ▸ c1⟩⟩
        · rw [show (gcL x == 0 || P.any (· == dirP x)) = false by simp [c0]; exact fun y hy e => c1 (e ▸ hy), cond_false]
          refine ⟨List.nodup_append.mpr ⟨h, by simp, fun a ha c hc => ?_⟩, fun p => ?_⟩
          · rw [List.mem_singleton.mp hc]
            exact fun e => c1 (e ▸ ha)
          · simp [c0, eq_comm]
    obtain ⟨a, b⟩ := fold_inv rs _ key.1
    refine ⟨a, fun p => ?_⟩
    rw [b p, key.2 p]
    simp only [List.mem_cons]
    constructor
    · rintro ((h | h) | ⟨r, hr, h⟩)
      · exact .inl h
      · exact .inr ⟨x, .inl rfl, h⟩
      · exact .inr ⟨r, .inr hr, h⟩
    · rintro (h | ⟨r, rfl | hr, h⟩)
      · exact .inl (.inl h)
      · exact .inl (.inr h)
      · exact .inr ⟨r, hr, h⟩
theorem dirs_nodup (rs : List (List Int)) : (dirsR rs).Nodup := (fold_inv rs [] List.nodup_nil).1
theorem dirs_mem {rs : List (List Int)} {p : List Int} : p ∈ dirsR rs ↔ ∃ r ∈ rs, gcL r ≠ 0 ∧ dirP r = p := by
  have := (fold_inv rs [] List.nodup_nil).2 p
  unfold dirsR
  rw [this]; simp
theorem dirs_len (rs : List (List Int)) : (dirsR rs).length ≤ rs.length := by
  have : ∀ (rs P : List (List Int)), (rs.foldl stD P).length ≤ P.length + rs.length := by
    intro rs
    induction rs with
    | nil => intro P; exact Nat.le_refl _
    | cons x t ih =>
      intro P
      rw [List.foldl_cons]
      refine Nat.le_trans (ih _) ?_
      have : (stD P x).length ≤ P.length + 1 := by
        unfold stD
        cases gcL x == 0 || P.any (· == dirP x)
        · rw [cond_false, List.length_append]; exact Nat.le_refl _
        · rw [cond_true]; omega
      rw [List.length_cons]; omega
  have h : (dirsR rs).length ≤ ([] : List (List Int)).length + rs.length := this rs []
  rw [List.length_nil, Nat.zero_add] at h
  exact h
theorem wt_zero {rs : List (List Int)} {p : List Int} (h : p ∉ dirsR rs) : wtR rs p = 0 := by
  unfold wtR
  rw [List.filter_eq_nil_iff.mpr fun r hr => ?_]
  · rfl
  · intro z
    obtain ⟨z1, z2⟩ := Bool.and_eq_true_iff.mp z
    exact h (dirs_mem.mpr ⟨r, hr, bne_iff_ne.mp z1, beq_iff_eq.mp z2⟩)
theorem gc_sz {n : Nat} {r : List Int} (h : Sms n r) : Sz n (gcL r) := by
  by_cases c : gcL r = 0
  · rw [c]; unfold Sz; exact Nat.two_pow_pos n
  · obtain ⟨x, hx, h0⟩ := gcL_ne.mp c
    have := Nat.le_of_dvd (by omega) (Int.natAbs_dvd_natAbs.mpr (gcL_dvd hx))
    have := h x hx
    unfold Sz at *
    omega
theorem sum_nat {B : Nat} : ∀ l : List Int, (∀ x ∈ l, x.natAbs ≤ B) → l.sum.natAbs ≤ B * l.length
  | [], _ => by simp
  | x :: r, h => by
    have h1 := h x List.mem_cons_self
    have h2 := sum_nat r fun y hy => h y (List.mem_cons_of_mem _ hy)
    rw [List.sum_cons, List.length_cons, Nat.mul_succ]
    omega
theorem wt_sz {n : Nat} {rs : List (List Int)} {p : List Int} (h : ∀ r ∈ rs, Sms n r) (hl : rs.length ≤ 100) : Sz (n + 7) (wtR rs p) := by
  unfold wtR
  have h1 := sum_nat (B := 2 ^ n) ((rs.filter fun r => gcL r != 0 && dirP r == p).map gcL) fun x hx => by
    obtain ⟨r, hr, rfl⟩ := List.mem_map.mp hx
    exact Nat.le_of_lt (gc_sz (h r (List.mem_filter.mp hr).1))
  unfold Sz
  refine Nat.lt_of_le_of_lt h1 ?_
  rw [Nat.pow_add]
  refine Nat.mul_lt_mul_of_pos_left ?_ (Nat.two_pow_pos n)
  rw [List.length_map]
  have := List.length_filter_le (fun r => gcL r != 0 && dirP r == p) rs
  omega
theorem set_mapN {β : Type} {f g : List Int → β} {q : List Int} : ∀ {P : List (List Int)} {j : Nat}, P.Nodup → P[j]? = some q → (∀ p, p ≠ q → g p = f p) → (P.map f).set j (g q) = P.map g
  | x :: t, 0, nd, h, e => by
    have hx : x = q := by simpa using h
    subst hx
    show g x :: t.map f = g x :: t.map g
    congr 1
    exact List.map_congr_left fun y hy => (e y fun z => (List.nodup_cons.mp nd).1 (z ▸ hy)).symm
  | x :: t, j + 1, nd, h, e => by
    show f x :: (t.map f).set j (g q) = g x :: t.map g
    have h2 : t[j]? = some q := by simpa using h
    rw [set_mapN (List.nodup_cons.mp nd).2 h2 e, e x fun z => (List.nodup_cons.mp nd).1 (z ▸ List.mem_of_getElem? h2)]
  | [], _, _, h, _ => by simp at h
theorem ix_nodup {P : List (List Int)} {q : List Int} (nd : P.Nodup) (h : q ∈ P) : ∃ j : Nat, j < P.length ∧ P[j]? = some q ∧ ∀ m z, m < j → P[m]? = some z → (z == q) = false := by
  obtain ⟨j, hj, e⟩ := List.getElem_of_mem h
  refine ⟨j, hj, by rw [List.getElem?_eq_getElem hj, e], fun m z hm hz => ?_⟩
  rw [beq_eq_false_iff_ne]
  intro c
  subst c
  have hm2 : m < P.length := by omega
  rw [List.getElem?_eq_getElem hm2] at hz
  have : P[m] = P[j] := by rw [e]; exact Option.some.inj hz
  have := (List.getElem_inj nd).mp this
  omega
theorem dirP_len (r : List Int) : (dirP r).length = r.length := by
  unfold dirP lowI
  cases decide (gcL (r.map (sgR r)) > 1) <;> simp
theorem dirP_sz {n : Nat} {r : List Int} (h : Sms n r) (h0 : gcL r ≠ 0) : Sms n (dirP r) := fun y hy => by
  rw [dirP_eq h0] at hy
  obtain ⟨x, hx, rfl⟩ := List.mem_map.mp hy
  have z := sgR_sz (s := r) h _ (List.mem_map.mpr ⟨x, hx, rfl⟩)
  refine sz_fdiv ?_ (by have := gcL_nn r; omega) z
  rcases sgR_or r x with e | e <;> rw [e]
  · exact gcL_dvd hx
  · exact Int.dvd_neg.mpr (gcL_dvd hx)
theorem any_gc (r : List Int) : r.any (· != 0) = decide (gcL r ≠ 0) := by
  rw [Bool.eq_iff_iff, decide_eq_true_iff, gcL_ne, List.any_eq_true]
  simp
abbrev rowJ (r : List Int) : D := .lst (dints r)
theorem dAny_bls {α : Type} {f : α → Bool} {l : List α} {k : D → Prop} (h : k (.bl (l.any f))) : dAny (.lst (l.map fun x => D.bl (f x))) k := by
  simp only [dAny, blsOf_map]
  have e : (l.map f).any id = l.any f := by rw [List.any_map]; rfl
  rw [e]; exact h
theorem o_anyB {α : Type} {f : α → Bool} {l : List α} : O1 dAny (.lst (l.map fun w => .bl (f w))) (.bl (l.any f)) := .mk fun k q => dAny_bls q
theorem low_ne0 {b x : Int} (hb : 0 < b) : (!([(lowP x b).1, (lowP x b).2] == [0, 1])) = (x != 0) := by
  by_cases h : x = 0
  · subst h; rw [low_z hb]; rfl
  · have : (lowP x b).1 ≠ 0 := fun z => h ((low_zero hb).mp z)
    rw [bne_iff_ne.mpr h]
    simp [this]
theorem s_parFLd {σ : StD} {ds es : List D} {ga gb : GE} {D' : EndD} {i j : Nat} (A : Ev ga σ (.lst ds)) (B : Ev gb σ (.lst es)) {τ τ2 : StD} (p : Pt σ i (.own ds) τ) (p2 : Pt τ j (.own es) τ2) (r : Stp (D'.nx τ2)) : Stp (gParF i j ga gb D' σ) := ⟨A _ (B _ (by show D'.nx (put (put σ i (.own ds)) j (.own es)); rw [p.eq, p2.eq]; exact r.run))⟩
theorem atI_natJ {α : Type} {l : List α} {j : Nat} {x : α} (h : l[j]? = some x) : atI l (j : Int) = some x := by
  have hj : j < l.length := by
    rcases Nat.lt_or_ge j l.length with c | c
    · exact c
    · rw [List.getElem?_eq_none c] at h; cases h
  unfold atI ixN
  rw [if_pos (by omega), if_pos (by omega)]
  exact h
theorem o_ixJ {ds : List D} {j : Nat} {d : D} (h : ds[j]? = some d) : O2 dIx (.lst ds) (.int (j : Int)) d := .mk fun k q => by
  show match atI ds (j : Int) with | some d => k d | none => False
  rw [atI_natJ h]; exact q
def s_dirs : GS := fun ds k _ => ∃ (rs : List (List Int)) (b : Int) (n : Nat), ds = [.lst (rs.map (rowO b))] ∧ (0 < b ∧ Sz 900 b ∧ n ≤ 1000 ∧ (∀ r ∈ rs, Sms 190 r ∧ r.length = n) ∧ rs.length ≤ 100) ∧ k (.lst ((outR rs).map (rowO b)))
theorem mn_dirs : MnS s_dirs := fun ds k k' e e' h1 _ ⟨rs, b, n, h, g, q⟩ => ⟨rs, b, n, h, g, h1 _ q⟩
theorem okF_directions_of (F : Facts K mg) : FnOk P w K mg base (L2.CX P w) 8 (He.ga K "directions_of") (fdOf K (He.ga K "directions_of")) ["rows"] (liftF K s_dirs) := by
  refine okF F.d_directions_of sc_directions_of (fun ds k e h => by obtain ⟨_, _, _, rfl, _⟩ := h; rfl) fun cdv A outer s0 H E b eo hr Z => ⟨_, dssF_cons (dsF_ds (ds_tgtFF rfl (pg_name (i := 1) sc_directions_of.nd rfl (.inr rfl)) (pg_name (i := 2) sc_directions_of.nd rfl (.inr rfl)) (df_lst (da_nil)) (df_lst (da_nil))))
    (dssF_cons (dsF_ds (ds_for (passes_of rfl) rfl (di_seq (de_var 0)) (dg_name (i := 3) sc_directions_of.nd rfl (.inl rfl)) (dss_one (ds_if (db_val (DE.dt (de_callB (cr_any rfl) cl_any rfl F.n_any rfl (DE.dt (de_lc rfl sc_directions_of.nd (own := [("one", 4)]) (di_seq (de_var 3)) (blk_ok (N := ["rows", "plains", "weights", "row", "one", "plain", "weight", "at", "order", "number"]) (by kernel_rfl)) (fun _ _ _ _ _ => dg_name (i := 4) sc_directions_of.nd rfl (.inl rfl)) (fun _ _ _ _ _ => dts_nil) (fun _ _ _ _ _ => DCm.de (dc_neE (c := "Ratio") (de_var 4) (de_int) F.o_Ratio_eq F.nf_Ratio F.o_Ratio_ne.1 F.o_Ratio_ne.2 (ok_Ratio_eq F) mn_Req (hr.mono (by decide)) (bi_Ratio_eq F) cz_none))))))) (dss_cons (ds_tgt (de_ca (fc_direction_of_1 F) mn_diro (hr.mono (by decide)) F.g_direction_of F.d_direction_of.kp cz_none (dca_pos (da_cons (de_var 3) (da_nil)))) (dg_tup rfl (dgs_cons (dg_name (i := 5) sc_directions_of.nd rfl (.inl rfl)) (dgs_cons (dg_name (i := 6) sc_directions_of.nd rfl (.inl rfl)) (dgs_nil)))))
    (dss_cons (ds_if (db_ninA (k := 0) (hr.mono (by decide)) (DE.dt (de_var 5)) (dt_var 1)) (dss_cons (ds_app (i := 1) rfl (by first | exact Or.inl rfl | exact Or.inr (Or.inl rfl) | exact Or.inr (Or.inr rfl)) (de_var 5))
    (dss_one (ds_app (i := 2) rfl (by first | exact Or.inl rfl | exact Or.inr (Or.inl rfl) | exact Or.inr (Or.inr rfl)) (de_mk F.k_Ratio (fc_Ratio_init_1 F) (shpI_mn mn_Rinit) (hr.mono (by decide)) F.g_Ratio Z (dca_pos (da_cons (de_int) (da_nil))))))) (dss_nil))
    (dss_cons (ds_asg (i := 7) sc_directions_of.nd rfl (.inl rfl) (de_lidx (k := 0) (hr.mono (by decide)) (dt_var 1) (DE.dt (de_var 5))))
    (dss_one (ds_setIx (i := 2) rfl (by first | exact Or.inl rfl | exact Or.inr (Or.inl rfl) | exact Or.inr (Or.inr rfl)) (DE.dt (de_var 7)) (de_binO (c := "Ratio") (de_ixO (i := 2) rfl (by first | exact Or.inl rfl | exact Or.inr (Or.inl rfl) | exact Or.inr (Or.inr rfl)) (DE.dt (de_var 7))) (de_var 6) F.o_Ratio_add (ok_Ratio_add F) mn_Radd (hr.mono (by decide)) (bi_Ratio_add F) cz_none)))))) (dss_nil)))))
    (dssF_pub 1 (dssF_pub 2 (dssF_cons (dsF_ds (ds_asg (i := 8) sc_directions_of.nd rfl (.inl rfl) (de_sortG (k := 0) (hr.mono (by decide)) (by rfl) F.n_sorted (de_var 1))))
    (dssF_one (dsF_ret (df_lc rfl sc_directions_of.nd (own := [("plain", 5)]) (di_seq (de_var 8)) (blk_ok (N := ["rows", "plains", "weights", "row", "one", "plain", "weight", "at", "order", "number"]) (by kernel_rfl)) (fun _ _ _ _ _ => dg_name (i := 5) sc_directions_of.nd rfl (.inr rfl)) (fun _ _ _ _ _ => dts_nil) (fun _ _ _ _ _ => de_callTyS call_tuple_of cl_tuple rfl F.n_tuple rfl (de_lc rfl sc_directions_of.nd (own := [("number", 9)]) (di_seq (de_var 5)) (blk_ok (N := ["rows", "plains", "weights", "row", "one", "plain", "weight", "at", "order", "number"]) (by kernel_rfl)) (fun _ _ _ _ _ => dg_name (i := 9) sc_directions_of.nd rfl (.inl rfl)) (fun _ _ _ _ _ => dts_nil) (fun _ _ _ _ _ => de_binO (c := "Ratio") (de_ix (de_var 2) (DE.dt (de_lidx (k := 0) (hr.mono (by decide)) (DE.dt (de_var 1)) (DE.dt (de_var 5))))) (de_var 9) F.o_Ratio_mul (ok_Ratio_mul F) mn_Rmul (hr.mono (by decide)) (bi_Ratio_mul F) cz_none)))))))))), fun ds k h => ?_⟩
  obtain ⟨rs, b, n, rfl, ⟨b0, zb, n1, hz, hl⟩, hk⟩ := h
  suffices z : Stp _ from z.run
  show Stp (gSeq _ _ _ [.sh (.lst (rs.map (rowO b))), .unset, .unset, .unset, .unset, .unset, .unset, .unset, .unset, .unset])
  refine s_noRS ?_
  with_reducible apply s_parFLd (ds := []) (es := [])
  · exact ev_lst eva_nil (by decide)
  · exact ev_lst eva_nil (by decide)
  · exists pt
  · exists pt
  with_reducible refine nx_mk ?_
  with_reducible refine s_noRS ?_
  with_reducible apply s_forL (ds := rs.map (rowO b))
  · exact evi_it (ev_var rfl) itr_L
  refine forS_at (fun pre σ => ∃ x3 x4 x5 x6 x7, σ = [.sh (.lst (rs.map (rowO b))), .own ((dirsR pre).map rowJ), .own ((dirsR pre).map fun p => ratO b (wtR pre p)), x3, x4, x5, x6, x7, .unset, .unset]) (fun pre r suf el σ D2 hR hN _ => ?_) ⟨_, _, _, _, _, rfl⟩ (fun σ' hR => ?_)
  · obtain ⟨x3, x4, x5, x6, x7, rfl⟩ := hR
    have hr := hz r (by rw [el]; exact List.mem_append_right _ List.mem_cons_self)
    have hpre : ∀ x ∈ pre, Sms 190 x := fun x hx => (hz x (by rw [el]; exact List.mem_append_left _ hx)).1
    have lpre : pre.length + 1 ≤ 100 := by rw [el, List.length_append, List.length_cons] at hl; omega
    have hok : ∀ p, OkO b (wtR pre p) := fun p => ⟨b0, zb, (wt_sz hpre (by omega)).mono (by decide)⟩
    have ldir := dirs_len pre
    have hz1 : Sms 1000 r := hr.1.mono (by decide)
    (first | (with_reducible show Stp _) | refine Stp.run ?_); exists ass
    refine s_ifLN (c := decide (gcL r ≠ 0)) (evt_B ?_) (fun hc => ?_) (fun hc => ?_)
    · refine ev_g1 (ev_lc (l := r) (gg := ratO b) (f := fun x => .bl (x != 0)) (evi_it (ev_var rfl) (.inr rfl)) rfl (fun x hx => aev1 ?_) (by omega)) ?_
      · rw [← low_ne0 b0]
        exact ev_ownEN (ev_var rfl) ev_c rfl sr_Req_i
      · rw [← any_gc]; exact o_anyB
    · have hg : gcL r ≠ 0 := of_decide_eq_true hc
      have sD : SR s_diro [rowO b r] (.tup [.lst (dints (dirP r)), ratO b (gcL r)]) := .mk fun k e q => ⟨r, b, rfl, b0, zb, hz1, by omega, hg, q⟩
      with_reducible apply s_tgt2 (x := .lst (dints (dirP r))) (y := ratO b (gcL r))
      · exact ev_ca (eva_cons (ev_var rfl) eva_nil) sD
      · exists pt
      · exists pt
      have e1 : dirsR (pre ++ [r]) = bif (dirsR pre).any (· == dirP r) then dirsR pre else dirsR pre ++ [dirP r] := by
        rw [dirs_snoc]
        unfold stD
        rw [show (gcL r == 0) = false by simpa using hg, Bool.false_or]
      have cont : ∀ (D3 : EndD) (y4 : SD), (∀ σ', (∃ x3 x4 x5 x6 x7, σ' = [.sh (.lst (rs.map (rowO b))), .own ((dirsR (pre ++ [r])).map rowJ), .own ((dirsR (pre ++ [r])).map fun p => ratO b (wtR (pre ++ [r]) p)), x3, x4, x5, x6, x7, .unset, .unset]) → D3.nx σ') → Stp (gSeq (gAsg 7 (gIdx (gVarT 1) (gVar 5))) (gSetIx 2 (gVar 7) (gOwn2 "Ratio" s_Radd (fun x => False) (gIxO 2 (gVar 7)) (gVar 6))) D3 [.sh (.lst (rs.map (rowO b))), .own ((dirsR (pre ++ [r])).map rowJ), .own ((dirsR (pre ++ [r])).map fun p => ratO b (wtR pre p)), .sh (rowO b r), y4, .sh (.lst (dints (dirP r))), .sh (ratO b (gcL r)), x7, .unset, .unset]) := fun D3 y4 hD => by
        have nd := dirs_nodup (pre ++ [r])
        have hm : dirP r ∈ dirsR (pre ++ [r]) := dirs_mem.mpr ⟨r, List.mem_append_right _ List.mem_cons_self, hg, rfl⟩
        obtain ⟨j, j0, j1, j2⟩ := ix_nodup nd hm
        have hadd := ow2_own (sr_addO (hok (dirP r)) (n := gcL r) ⟨b0, zb, (gc_sz hr.1).mono (by decide)⟩)
        have hixA : ∀ τ : StD, look τ 2 = .own ((dirsR (pre ++ [r])).map fun p => ratO b (wtR pre p)) → look τ 7 = .sh (.int (j : Int)) → Ev (gIxO 2 (gVar 7)) τ (ratO b (wtR pre (dirP r))) := fun τ h1 h2 => ev_ixO h1 (ev_var h2.symm) (atI_natJ (by rw [List.getElem?_map, j1]; rfl))
        with_reducible apply s_asg (d := .int (j : Int))
        · exact ev_idxC codRow (by decide) (ev_varO rfl) (ev_var rfl) j1 (by simp) j2
        · exists pt
        with_reducible apply s_setIxL (ds := (dirsR (pre ++ [r])).map fun p => ratO b (wtR pre p)) (n := (j : Int)) (j := j) (z := ratO b (wtR pre (dirP r) + gcL r))
        · rfl
        · exact ev_var rfl
        · exact ev_own2 (hixA _ rfl rfl) (ev_var rfl) hadd
        · unfold ixN
          rw [if_pos (by omega), if_pos (by rw [List.length_map]; omega)]; rfl
        · exists pt
        have e3 : wtR (pre ++ [r]) (dirP r) = wtR pre (dirP r) + gcL r := by
          rw [wt_snoc, show (gcL r != 0 && dirP r == dirP r) = true by simp [hg], cond_true]
        have e2 := set_mapN (f := fun p => ratO b (wtR pre p)) (g := fun p => ratO b (wtR (pre ++ [r]) p)) nd j1 fun p hp => by
          show ratO b (wtR (pre ++ [r]) p) = ratO b (wtR pre p)
          rw [wt_snoc, show (gcL r != 0 && dirP r == p) = false by simp [hg]; exact fun z => hp z.symm, cond_false, Int.add_zero]
        rw [e3] at e2
        rw [e2]
        exact ⟨hD _ ⟨_, _, _, _, _, rfl⟩⟩
      refine s_ifN (c := !((dirsR pre).any (· == dirP r))) (evt_B (ev_g2 (ev_var rfl) (ev_varO rfl) (o_ninC codRow rfl (by decide)))) (fun hn => ?_) (fun hn => ?_)
      · have hn2 : (dirsR pre).any (· == dirP r) = false := by simpa using hn
        rw [hn2, cond_false] at e1
        have hw : wtR pre (dirP r) = 0 := wt_zero fun z => by
          have : (dirsR pre).any (· == dirP r) = true := List.any_eq_true.mpr ⟨_, z, by simp⟩
          rw [hn2] at this; cases this
        with_reducible apply s_psh (ds := (dirsR pre).map rowJ) (d := rowJ (dirP r))
        · rfl
        · exact ev_var rfl
        · rw [List.length_map]; omega
        · exists pt
        with_reducible apply s_pshL (ds := (dirsR pre).map fun p => ratO b (wtR pre p)) (d := rat 0 1)
        · rfl
        · exact ev_zero
        · rw [List.length_map]; omega
        · exists pt
        have := cont D2 x4 hN
        rw [e1, List.map_append, List.map_append, List.map_singleton, List.map_singleton, hw, ← rat0 b0] at this
        exact this
      · have hn2 : (dirsR pre).any (· == dirP r) = true := by simpa using hn
        rw [hn2, cond_true] at e1
        have := cont D2 x4 hN
        rw [e1] at this
        exact this
    · have hg : gcL r = 0 := by simpa using hc
      have e1 : dirsR (pre ++ [r]) = dirsR pre := by
        rw [dirs_snoc]
        unfold stD
        rw [hg]; rfl
      have e2 : (fun p => ratO b (wtR (pre ++ [r]) p)) = fun p => ratO b (wtR pre p) := by
        funext p
        rw [wt_snoc, hg]
        show ratO b (wtR pre p + 0) = _
        rw [Int.add_zero]
      exact ⟨hN _ ⟨_, _, _, _, _, by rw [e1, e2]⟩⟩
  · obtain ⟨x3, x4, x5, x6, x7, rfl⟩ := hR
    have hall : ∀ x ∈ rs, Sms 190 x := fun x hx => (hz x hx).1
    have hok : ∀ p, OkO b (wtR rs p) := fun p => ⟨b0, zb, (wt_sz hall hl).mono (by decide)⟩
    have ldir := dirs_len rs
    have hd : ∀ p ∈ dirsR rs, Sms 190 p ∧ p.length = n := fun p hp => by
      obtain ⟨r, hr, h0, rfl⟩ := dirs_mem.mp hp
      exact ⟨dirP_sz (hz r hr).1 h0, by rw [dirP_len]; exact (hz r hr).2⟩
    (try with_reducible refine nx_mk ?_)
    with_reducible apply s_pub (ds := (dirsR rs).map rowJ)
    · rfl
    · exists pt
    with_reducible apply s_pub (ds := (dirsR rs).map fun p => ratO b (wtR rs p))
    · rfl
    · exists pt
    with_reducible refine s_noRS ?_
    with_reducible apply s_asgL (d := .lst (((dirsR rs).mergeSort leR).map rowJ))
    · refine ev_g1 (ev_var rfl) (o_sortC codRow (by decide) (by omega) (fun x hx y hy => ?_) (.inr fun d hd => ?_) fun x _ y _ => le_rows x y)
      · exact alike_ints (by rw [(hd x hx).2, (hd y hy).2])
      · obtain ⟨x, _, rfl⟩ := List.mem_map.mp hd
        exact ⟨by simp, by simp⟩
    · exists pt
    (try with_reducible refine nx_mk ?_)
    with_reducible apply s_ret (d := .lst ((outR rs).map (rowO b)))
    · refine Ev.eq (ev_lc (l := (dirsR rs).mergeSort leR) (gg := rowJ) (f := fun p => rowO b (p.map (wtR rs p * ·))) (evi_it (ev_var rfl) itr_L) rfl (fun p hp => aev1 ?_) (by rw [List.length_mergeSort]; omega)) (by unfold outR; rw [List.map_map]; rfl)
      have hp2 := List.mem_mergeSort.mp hp
      obtain ⟨zp, lp⟩ := hd p hp2
      obtain ⟨j, j0, j1, j2⟩ := ix_nodup (dirs_nodup rs) hp2
      refine ev_g1 (x := .lst ((p.map (wtR rs p * ·)).map (ratO b))) ?_ o_tup
      refine Ev.eq (ev_lc (l := p) (gg := D.int) (f := fun x => ratO b (wtR rs p * x)) (evi_it (ev_var rfl) itr_L) rfl (fun x hx => aev1 ?_) (by omega)) (by rw [List.map_map]; rfl)
      exact ev_own2 (ev_g2 (ev_var rfl) (ev_idxC codRow (by decide) (ev_var rfl) (ev_var rfl) j1 (by simp) j2) (o_ixJ (by rw [List.getElem?_map, j1]; rfl))) (ev_var rfl) (ow2_int (sr_mulO (hok p) ((zp x hx).mono (by decide))))
    · exact ⟨hk⟩
theorem fcF_directions_of_1 (F : Facts K mg) : FnC P w K mg base 8 (He.ga K "directions_of") [] (liftF K s_dirs) := FnOk.c0 (okF_directions_of F) (F.d_directions_of.bindsN fun _ _ _ _ _ _ us hl => match us, hl with | [_], _ => rfl)
abbrev ANS : List Str := ["own_places", "size"]
abbrev arr (ps : List Int) : D := .ins "Arrow" ANS [.tup (dints ps), .int ps.length]
theorem ask_ints {l : List Int} : ∀ d ∈ dints l, askD CLS d = true := fun d hd => by
  obtain ⟨i, _, rfl⟩ := List.mem_map.mp hd
  rfl
structure MOk (b : Int) (n : Nat) (rows : List (List Int)) : Prop where
  pos : 0 < b
  zb : Sz 900 b
  n1 : 1 ≤ n
  n4 : n ≤ 4
  row : ∀ r ∈ rows, r.length = n ∧ Sms 400 r
  few : rows.length ≤ 10000
abbrev linesD (b : Int) (n : Nat) (rows : List (List Int)) : D := .ins "Lines" LNS [.int n, .lst (rows.map (rowO b))]
theorem MOk.dot {b : Int} {n : Nat} {rows : List (List Int)} {a : List Int} (h : MOk b n rows) (za : Sms 400 a) : ∀ x ∈ prodsI rows a, Sz 810 x := fun x hx => by
  obtain ⟨r, hr, rfl⟩ := List.mem_map.mp hx
  obtain ⟨h1, h2⟩ := h.row r hr
  have h4 := h.n4
  exact (Sz.dot h2 za).mono (by omega)
theorem MOk.okO {b : Int} {n : Nat} {rows : List (List Int)} {a : List Int} (h : MOk b n rows) (za : Sms 400 a) : ∀ x ∈ prodsI rows a, OkO b x := fun x hx => ⟨h.pos, h.zb, (h.dot za x hx).mono (by decide)⟩
def s_Ldir : GS := fun ds k _ => ∃ (b : Int) (n : Nat) (rs : List (List Int)), ds = [linesD b n rs] ∧ (0 < b ∧ Sz 900 b ∧ n ≤ 1000 ∧ (∀ r ∈ rs, Sms 190 r ∧ r.length = n) ∧ rs.length ≤ 100) ∧ k (.lst ((outR rs).map (rowO b)))
theorem mn_Ldir : MnS s_Ldir := fun ds k k' e e' h1 _ ⟨b, n, rs, h, g, q⟩ => ⟨b, n, rs, h, g, h1 _ q⟩
theorem okF_Lines_directions (F : Facts K mg) : FnOk P w K mg base (L2.CX P w) 9 (He.ma K (He.ga K "Lines") "directions") (fdOf K (He.ma K (He.ga K "Lines") "directions")) ["self"] (liftF K s_Ldir) := by
  refine okF F.d_Lines_directions sc_Lines_directions (fun ds k e h => by obtain ⟨_, _, _, rfl, _⟩ := h; rfl) fun cdv A outer s0 H E b eo hr Z => ⟨_, dssF_one (dsF_ret (df_ca (fcF_directions_of_1 F) mn_dirs (hr.mono (by decide)) F.g_directions_of F.d_directions_of.kp cz_none (dca_pos (da_cons (de_fld (c := "Lines") (NS := ["size", "own_rows"]) (i := 1) (de_var 0) F.c_Lines F.a_Lines_own_rows (by decide)) (da_nil))))), fun ds k h => ?_⟩
  obtain ⟨b, n, rs, rfl, g, hk⟩ := h
  suffices z : Stp _ from z.run
  show Stp (gRet _ _ [SD.sh (linesD b n rs)])
  with_reducible apply s_ret (d := .lst ((outR rs).map (rowO b)))
  · exact ev_ca (eva_cons (ev_fld (ev_var rfl) rfl) eva_nil) (.mk fun k e q => ⟨rs, b, n, rfl, g, q⟩)
  · exact ⟨hk⟩
theorem ok_Lines_directions (F : Facts K mg) : FnOk P w K mg base (L2.CX P w) 9 (He.ma K (He.ga K "Lines") "directions") (fdOf K (He.ma K (He.ga K "Lines") "directions")) ["self"] (lift K s_Ldir) := FnOk.ofF mn_Ldir (okF_Lines_directions F) (fun ds k e ⟨b, n, rs, h, g, q⟩ => ⟨b, n, rs, h, g, _, rfl, q⟩)
theorem sr_Ldir {b : Int} {n : Nat} {rs : List (List Int)} (b0 : 0 < b) (zb : Sz 900 b) (n1 : n ≤ 1000) (hz : ∀ r ∈ rs, Sms 190 r ∧ r.length = n) (hl : rs.length ≤ 100) : SR s_Ldir [linesD b n rs] (.lst ((outR rs).map (rowO b))) := .mk fun k e q => ⟨b, n, rs, rfl, ⟨b0, zb, n1, hz, hl⟩, q⟩
local macro_rules
  | `(tactic| exists $i:ident) => match i.getId.eraseMacroScopes with
    | `es => `(tactic| ((with_reducible (first | apply sr_is_number | apply sri_Rinit | apply sr_lover | apply sr_mrows | apply sri_Linit | apply sr_pair | apply sr_Req_r | apply sr_Req_i | apply sr_Req_o | apply sr_Radd_r | apply sr_Radd_i | apply sr_Rmul_r | apply sr_Rmul_i | apply sr_Ldir))))
    | _ => Lean.Macro.throwUnsupported
theorem fcF_Lines_directions_0 (F : Facts K mg) : FnC P w K mg base 9 (He.ma K (He.ga K "Lines") "directions") [] (liftF K s_Ldir) := FnOk.c0 (okF_Lines_directions F) (F.d_Lines_directions.bindsN fun _ _ _ _ _ _ us hl => match us, hl with | [_], _ => rfl)
theorem fc_Lines_directions_0 (F : Facts K mg) : FnC P w K mg base 9 (He.ma K (He.ga K "Lines") "directions") [] (lift K s_Ldir) := FnOk.c0 (ok_Lines_directions F) (F.d_Lines_directions.bindsN fun _ _ _ _ _ _ us hl => match us, hl with | [_], _ => rfl)
theorem ok__law_gcd (F : Facts K mg) : FnOk P w K mg base (L2.CX P w) 2 (He.ga K "_law_gcd") (fdOf K (He.ga K "_law_gcd")) ["_law_one", "_law_other"] (lift K sGcd) := by
  refine okD F.d__law_gcd sc__law_gcd (fun ds k e h => by obtain ⟨a, b, rfl, _⟩ := h; rfl) fun cdv A outer s0 H E b eo hr Z => ⟨_, dss_cons (ds_par (i := 2) (j := 3) rfl sc__law_gcd.nd rfl rfl (by decide) rfl rfl (de_callB call_abs cl_abs rfl F.n_abs rfl (DE.dt (de_var 0))) (de_callB call_abs cl_abs rfl F.n_abs rfl (DE.dt (de_var 1))) rfl)
    (dss_cons (ds_while (passes_of rfl) (db_neA hr (DE.dt (de_var 3)) (DE.dt (de_int))) (dss_one (ds_par (i := 2) (j := 3) rfl sc__law_gcd.nd rfl rfl (by decide) rfl rfl (de_var 3) (de_sub (DE.dt (de_var 2)) (DE.dt (de_mulA (DE.dt (de_div (DE.dt (de_var 2)) (DE.dt (de_var 3)))) (DE.dt (de_var 3))))) rfl)))
    (dss_one (ds_ret (DE.dt (de_var 2))))), fun ds k h => ?_⟩
  obtain ⟨x, y, rfl, hx, hy, hk⟩ := h
  exists dl
  show gWhile _ _ _ [SD.sh (D.int x), SD.sh (D.int y), SD.sh (D.int (if x < 0 then -x else x)), SD.sh (D.int (if y < 0 then -y else y))]
  rw [natAbs_if, natAbs_if]
  refine ⟨fun m σ => ∃ l r : Nat, m = r ∧ σ = [SD.sh (D.int x), SD.sh (D.int y), SD.sh (D.int l), SD.sh (D.int r)] ∧ Nat.gcd l r = Nat.gcd x.natAbs y.natAbs ∧ l < 2 ^ 4000 ∧ r < 2 ^ 4000, ⟨_, _, _, rfl, rfl, rfl, hx, hy⟩, ?_⟩
  rintro m σ ⟨l, r, rfl, rfl, hg, hl, hr⟩
  by_cases e : m = 0
  · subst e
    rw [Nat.gcd_zero_right] at hg
    show k (.int l)
    rw [hg]; exact hk
  · have e2 : ((m : Int) == 0) = false := by simp; omega
    have e3 : eqF (D.int (m : Int)) (D.int 0) = false := e2
    show (match !(eqF (D.int (m : Int)) (D.int 0)) with | true => _ | false => _)
    rw [e3]
    refine ⟨DivOk.of (n := 4000) (by omega) (by unfold Sz; rw [Int.natAbs_natCast]; exact hr) (by decide), MulOk.of (m := 4000) (n := 4000) ?_ (by unfold Sz; rw [Int.natAbs_natCast]; exact hr) (by decide), l % m, Nat.mod_lt _ (Nat.pos_of_ne_zero e), m, l % m, rfl, ?_, ?_, hr, ?_⟩
    · unfold Sz
      rw [Int.fdiv_eq_ediv_of_nonneg _ (by omega)]
      show (((l / m : Nat) : Int)).natAbs < _
      rw [Int.natAbs_natCast]
      exact Nat.lt_of_le_of_lt (Nat.div_le_self _ _) hl
    · show [SD.sh (D.int x), SD.sh (D.int y), SD.sh (D.int m), SD.sh (D.int ((l : Int) - (l : Int).fdiv (m : Int) * (m : Int)))] = _
      rw [gcd_step l m e]
    · rw [← hg, Nat.gcd_comm l m, Nat.gcd_rec m l, Nat.gcd_comm]
    · exact Nat.lt_of_le_of_lt (Nat.mod_le _ _) hl
theorem sr_gcd {a b : Int} (ha : Sz 4000 a) (hb : Sz 4000 b) : SR sGcd [.int a, .int b] (.int (Nat.gcd a.natAbs b.natAbs : Nat)) := .mk fun k e q => ⟨a, b, rfl, ha, hb, q⟩
local macro_rules
  | `(tactic| exists $i:ident) => match i.getId.eraseMacroScopes with
    | `es => `(tactic| ((with_reducible (first | apply sr_is_number | apply sri_Rinit | apply sr_lover | apply sr_mrows | apply sri_Linit | apply sr_pair | apply sr_Req_r | apply sr_Req_i | apply sr_Req_o | apply sr_Radd_r | apply sr_Radd_i | apply sr_Rmul_r | apply sr_Rmul_i | apply sr_Ldir | apply sr_gcd))))
    | _ => Lean.Macro.throwUnsupported
theorem fc__law_gcd_2 (F : Facts K mg) : FnC P w K mg base 2 (He.ga K "_law_gcd") [] (lift K sGcd) := FnOk.c0 (ok__law_gcd F) (F.d__law_gcd.bindsN fun _ _ _ _ _ _ us hl => match us, hl with | [_, _], _ => rfl)
def plI (r : List Int) : List Int := if gcL r = 0 then r else dirP r
def s_lpln : GS := fun ds k _ => ∃ (r : List Int), ds = [.lst (dints r)] ∧ r.length ≤ 1000 ∧ Sms 190 r ∧ k (.tup [.lst (dints (plI r)), .int (gcL r)])
theorem mn_lpln : MnS s_lpln := fun ds k k' e e' h1 _ ⟨r, h, g, g2, q⟩ => ⟨r, h, g, g2, h1 _ q⟩
theorem ok__law_plain (F : Facts K mg) : FnOk P w K mg base (L2.CX P w) 3 (He.ga K "_law_plain") (fdOf K (He.ga K "_law_plain")) ["_law_row"] (lift K s_lpln) := by
  refine okD F.d__law_plain sc__law_plain (fun ds k e h => by obtain ⟨_, rfl, _⟩ := h; rfl) fun cdv A outer s0 H E b eo hr Z => ⟨_, dss_cons (ds_asg (i := 1) sc__law_plain.nd rfl (.inr rfl) (de_int))
    (dss_cons (ds_for (passes_of rfl) rfl (di_seq (de_var 0)) (dg_name (i := 2) sc__law_plain.nd rfl (.inl rfl)) (dss_one (ds_asg (i := 1) sc__law_plain.nd rfl (.inr rfl) (de_ca (fc__law_gcd_2 F) sGcd_mn (hr.mono (by decide)) F.g__law_gcd F.d__law_gcd.kp cz_none (dca_pos (da_cons (de_var 1) (da_cons (de_var 2) (da_nil))))))))
    (dss_cons (ds_if (db_eqA hr (DE.dt (de_var 1)) (DE.dt (de_int))) (dss_one (ds_ret (DE.dt (de_tup (da_cons (de_var 0) (da_cons (de_int) (da_nil))))))) (dss_nil))
    (dss_cons (ds_asg (i := 3) sc__law_plain.nd rfl (.inl rfl) (de_ix (de_lc rfl sc__law_plain.nd (own := [("_law_one", 2)]) (di_seq (de_var 0)) (blk_ok (N := ["_law_row", "_law_common", "_law_one", "_law_lead", "_law_sign"]) (by kernel_rfl)) (fun _ _ _ _ _ => dg_name (i := 2) sc__law_plain.nd rfl (.inl rfl)) (fun _ _ _ _ _ => dts_one (db_neA hr (DE.dt (de_var 2)) (DE.dt (de_int)))) (fun _ _ _ _ _ => de_var 2)) (DE.dt (de_int))))
    (dss_cons (ds_asg (i := 4) sc__law_plain.nd rfl (.inr rfl) (de_if (db_gt (DE.dt (de_var 3)) (DE.dt (de_int))) (de_int) (de_sub (DE.dt (de_int)) (DE.dt (de_int)))))
    (dss_one (ds_ret (DE.dt (de_tup (da_cons (de_lc rfl sc__law_plain.nd (own := [("_law_one", 2)]) (di_seq (de_var 0)) (blk_ok (N := ["_law_row", "_law_common", "_law_one", "_law_lead", "_law_sign"]) (by kernel_rfl)) (fun _ _ _ _ _ => dg_name (i := 2) sc__law_plain.nd rfl (.inl rfl)) (fun _ _ _ _ _ => dts_nil) (fun _ _ _ _ _ => de_div (DE.dt (de_mulA (DE.dt (de_var 2)) (DE.dt (de_var 4)))) (DE.dt (de_var 1)))) (da_cons (de_var 1) (da_nil))))))))))), fun ds k h => ?_⟩
  obtain ⟨r, rfl, hl, hz, hk⟩ := h
  suffices z : Stp _ from z.run
  show Stp (gSeq _ _ _ [.sh (.lst (dints r)), .unset, .unset, .unset, .unset])
  exists nx; (with_reducible first | apply s_asg | apply s_asgL); exists ev; exists pt
  with_reducible apply s_for (ds := r.map D.int)
  · exact evi_it (ev_var rfl) itr_L
  refine forS_rel (fun (g : Int) σ => (0 ≤ g ∧ Sz 4000 g) ∧ ∃ x2, σ = [.sh (.lst (dints r)), .sh (.int g), x2, .unset, .unset]) gI (fun x hx g σ D2 hR hN _ _ => ?_) ⟨⟨Int.le_refl _, by unfold Sz; decide⟩, _, rfl⟩ (fun σ' hR => ?_)
  · obtain ⟨⟨g0, g1⟩, x2, rfl⟩ := hR
    (first | (with_reducible show Stp _) | refine Stp.run ?_); exists ass
    with_reducible apply s_asgL (d := .int (gI g x))
    · exact ev_ca (eva_cons (ev_var rfl) (eva_cons (ev_var rfl) eva_nil)) (sr_gcd g1 ((hz x hx).mono (by decide)))
    · exists pt
    exact ⟨hN _ ⟨⟨gI_nn g x, sz_gI g1 ((hz x hx).mono (by decide))⟩, _, rfl⟩⟩
  · obtain ⟨⟨g0, g1⟩, x2, rfl⟩ := hR
    (try with_reducible refine nx_mk ?_)
    have g0 : 0 ≤ gcL r := g0
    have g1 : Sz 4000 (gcL r) := g1
    show Stp (gSeq _ _ _ [.sh (.lst (dints r)), .sh (.int (gcL r)), x2, .unset, .unset])
    refine s_ifN (c := gcL r == 0) (evt_B (Ev.eq (ev_g2 (ev_var rfl) ev_c o_eqI) rfl)) (fun hc => ?_) (fun hc => ?_)
    · have hg : gcL r = 0 := by simpa using hc
      with_reducible apply s_ret (d := .tup [.lst (dints (plI r)), .int (gcL r)])
      · have e : plI r = r := if_pos hg
        rw [e]
        refine Ev.eq (ev_tup (eva_cons (ev_var rfl) (eva_cons ev_c eva_nil)) (by show 2 ≤ 1000; decide)) ?_
        rw [hg]
      · exact ⟨hk⟩
    · have hg : gcL r ≠ 0 := by simpa using hc
      obtain ⟨x0, t0, hx0, hl0⟩ := head_lead hg
      have h0 : leadI r ≠ 0 := by
        have : x0 ∈ r.filter (· != 0) := by rw [hx0]; exact List.mem_cons_self
        rw [hl0]
        exact bne_iff_ne.mp (List.mem_filter.mp this).2
      with_reducible apply s_asg (d := .int (leadI r))
      · refine ev_g2 (x := .lst (dints (r.filter (· != 0)))) ?_ ev_c (by rw [hl0]; exact o_ixI0 hx0)
        refine ev_lcF (l := r) (gg := D.int) (p := fun x => x != 0) (f := D.int) (evi_it (ev_var rfl) itr_L) rfl (fun x hx => aevf1 (evt_B ?_) fun _ => ev_var rfl) (by omega)
        refine Ev.eq (ev_g2 (ev_var rfl) ev_c o_neI) ?_
        rfl
      · exists pt
      with_reducible apply s_asg (d := .int (if leadI r < 0 then -1 else 1))
      · by_cases c : leadI r < 0
        · rw [if_pos c]
          exact ev_ifF (evt_B (ev_g2 (z := .bl (decide (leadI r > 0))) (ev_var rfl) ev_c (.mk fun k q => q))) (decide_eq_false (by omega)) (ev_g2 ev_c ev_c (.mk fun k q => q))
        · rw [if_neg c]
          exact ev_ifT (evt_B (ev_g2 (z := .bl (decide (leadI r > 0))) (ev_var rfl) ev_c (.mk fun k q => q))) (decide_eq_true (by omega)) ev_c
      · exists pt
      with_reducible apply s_ret (d := .tup [.lst (dints (plI r)), .int (gcL r)])
      · have e : plI r = dirP r := if_neg hg
        rw [e, dirP_eq hg]
        have dg : DivOk (gcL r) := DivOk.of hg g1 (by decide)
        refine ev_tup (eva_cons (Ev.eq (ev_lc (l := r) (gg := D.int) (f := fun x => .int ((sgR r x).fdiv (gcL r))) (evi_it (ev_var rfl) itr_L) rfl (fun x hx => aev1 ?_) (by omega)) (by unfold dints; rw [List.map_map]; rfl)) (eva_cons (ev_var rfl) eva_nil)) (by show 2 ≤ 1000; decide)
        have e2 : x * (if leadI r < 0 then -1 else 1) = sgR r x := by unfold sgR; split <;> omega
        have m : MulOk x (if leadI r < 0 then -1 else 1) := MulOk.of (n := 10) (hz x hx) (by unfold Sz; split <;> decide) (by decide)
        exact ev_g2 (ev_g2 (z := .int (sgR r x)) (ev_var rfl) (ev_var rfl) (.mk fun k q => ⟨m, by rw [e2]; exact q⟩)) (ev_var rfl) (.mk fun k q => ⟨dg, q⟩)
      · exact ⟨hk⟩
theorem fc__law_plain_1 (F : Facts K mg) : FnC P w K mg base 3 (He.ga K "_law_plain") [] (lift K s_lpln) := FnOk.c0 (ok__law_plain F) (F.d__law_plain.bindsN fun _ _ _ _ _ _ us hl => match us, hl with | [_], _ => rfl)
abbrev rowJT (r : List Int) : D := .tup (dints r)
abbrev kI (p : List Int) : KeyT := p.map Sum.inl
theorem kI_inj {p q : List Int} (h : kI p = kI q) : p = q := by
  induction p generalizing q with
  | nil => cases q with
    | nil => rfl
    | cons y t => cases h
  | cons x r ih => cases q with
    | nil => cases h
    | cons y t =>
      obtain ⟨h1, h2⟩ := List.cons.inj h
      rw [ih h2, Sum.inl.inj h1]
abbrev tabI (P : List (List Int)) (f : List Int → Int) : List (KeyT × D) := P.map fun p => (kI p, D.int (f p))
theorem valT_tab {f : List Int → Int} {q : List Int} : ∀ {P : List (List Int)}, q ∈ P → valT (tabI P f) (kI q) = some (.int (f q))
  | x :: t, h => by
    unfold valT
    show (((kI x, D.int (f x)) :: tabI t f).find? _).map _ = _
    rw [List.find?_cons]
    by_cases c : x = q
    · subst c; simp
    · have : decide (kI x = kI q) = false := decide_eq_false fun z => c (kI_inj z)
      show (match decide (kI x = kI q) with | true => some (kI x, D.int (f x)) | false => (tabI t f).find? _).map _ = _
      rw [this]
      exact valT_tab ((List.mem_cons.mp h).resolve_left fun z => c z.symm)
theorem valT_tabN {f : List Int → Int} {q : List Int} : ∀ {P : List (List Int)}, q ∉ P → valT (tabI P f) (kI q) = none
  | [], _ => rfl
  | x :: t, h => by
    unfold valT
    show (((kI x, D.int (f x)) :: tabI t f).find? _).map _ = _
    rw [List.find?_cons]
    have : decide (kI x = kI q) = false := decide_eq_false fun z => h (kI_inj z ▸ List.mem_cons_self)
    show (match decide (kI x = kI q) with | true => some (kI x, D.int (f x)) | false => (tabI t f).find? _).map _ = _
    rw [this]
    exact valT_tabN fun z => h (List.mem_cons_of_mem _ z)
theorem any_tab {f : List Int → Int} {q : List Int} (P : List (List Int)) : ((tabI P f).any fun p => decide (p.1 = kI q)) = P.any (· == q) := by
  rw [List.any_map]
  congr 1
  funext p
  show decide (kI p = kI q) = (p == q)
  by_cases c : p = q
  · subst c; simp
  · rw [decide_eq_false fun z => c (kI_inj z)]
    exact (beq_eq_false_iff_ne.mpr c).symm
theorem putT_tab {f g : List Int → Int} {q : List Int} {P : List (List Int)} (e : ∀ p, p ≠ q → g p = f p) : putT (tabI P f) (kI q) (.int (g q)) = tabI (bif P.any (· == q) then P else P ++ [q]) g := by
  unfold putT
  rw [any_tab]
  cases c : P.any (· == q) with
  | true =>
    rw [if_pos rfl, cond_true, List.map_map]
    refine List.map_congr_left fun p hp => ?_
    show (if kI p = kI q then (kI p, D.int (g q)) else (kI p, D.int (f p))) = (kI p, D.int (g p))
    by_cases c2 : p = q
    · subst c2; rw [if_pos rfl]
    · rw [if_neg fun z => c2 (kI_inj z), e p c2]
  | false =>
    rw [if_neg (by decide), cond_false]
    unfold tabI
    rw [List.map_append, List.map_singleton]
    congr 1
    refine List.map_congr_left fun p hp => ?_
    rw [e p fun z => ?_]
    subst z
    have : P.any (· == p) = true := List.any_eq_true.mpr ⟨_, hp, by simp⟩
    rw [c] at this; cases this
theorem kD_kI (p : List Int) : (kI p).map kD = dints p := by
  unfold kI
  rw [List.map_map]; rfl
def s_ldirs : GS := fun ds k _ => ∃ (rs : List (List Int)) (n : Nat), ds = [.lst (rs.map fun r => .lst (dints r))] ∧ (1 ≤ n ∧ n ≤ 1000 ∧ (∀ r ∈ rs, Sms 190 r ∧ r.length = n) ∧ rs.length ≤ 100) ∧ k (.lst ((outR rs).map fun r => .lst (dints r)))
theorem mn_ldirs : MnS s_ldirs := fun ds k k' e e' h1 _ ⟨rs, n, h, g, q⟩ => ⟨rs, n, h, g, h1 _ q⟩
theorem ok__law_directions (F : Facts K mg) : FnOk P w K mg base (L2.CX P w) 4 (He.ga K "_law_directions") (fdOf K (He.ga K "_law_directions")) ["_law_rows_here"] (lift K s_ldirs) := by
  refine okD F.d__law_directions sc__law_directions (fun ds k e h => by obtain ⟨_, _, rfl, _⟩ := h; rfl) fun cdv A outer s0 H E b eo hr Z => ⟨_, dss_cons (ds_asgT0 (i := 1) sc__law_directions.nd rfl (.inr rfl))
    (dss_cons (ds_for (passes_of rfl) rfl (di_seq (de_var 0)) (dg_name (i := 2) sc__law_directions.nd rfl (.inl rfl)) (dss_cons (ds_tgt (de_ca (fc__law_plain_1 F) mn_lpln (hr.mono (by decide)) F.g__law_plain F.d__law_plain.kp cz_none (dca_pos (da_cons (de_var 2) (da_nil)))) (dg_tup rfl (dgs_cons (dg_name (i := 3) sc__law_directions.nd rfl (.inl rfl)) (dgs_cons (dg_name (i := 4) sc__law_directions.nd rfl (.inl rfl)) (dgs_nil)))))
    (dss_one (ds_if (db_gt (DE.dt (de_var 4)) (DE.dt (de_int))) (dss_one (ds_tput (i := 1) hr rfl (by first | exact Or.inl rfl | exact Or.inr (Or.inl rfl) | exact Or.inr (Or.inr rfl)) (dp_tuple (by rfl) F.n_tuple (de_var 3)) (de_addB (de_tget2 (i := 1) hr rfl (by first | exact Or.inl rfl | exact Or.inr (Or.inl rfl) | exact Or.inr (Or.inr rfl)) (dp_tuple (by rfl) F.n_tuple (de_var 3)) (de_int) ⟨rfl, rfl, rfl, rfl⟩) (de_var 4)))) (dss_nil)))))
    (dss_one (ds_ret (DE.dt (de_lc rfl sc__law_directions.nd (own := [("_law_plain_here", 3)]) (di_seq (de_sortG (k := 0) (hr.mono (by decide)) (by rfl) F.n_sorted (de_tlist (i := 1) rfl rfl (by first | exact Or.inl rfl | exact Or.inr (Or.inl rfl) | exact Or.inr (Or.inr rfl)) (by rfl) F.n_list))) (blk_ok (N := ["_law_rows_here", "_law_known", "_law_row", "_law_plain_here", "_law_common", "_law_one"]) (by kernel_rfl)) (fun _ _ _ _ _ => dg_name (i := 3) sc__law_directions.nd rfl (.inr rfl)) (fun _ _ _ _ _ => dts_nil) (fun _ _ _ _ _ => de_lc rfl sc__law_directions.nd (own := [("_law_one", 5)]) (di_seq (de_var 3)) (blk_ok (N := ["_law_rows_here", "_law_known", "_law_row", "_law_plain_here", "_law_common", "_law_one"]) (by kernel_rfl)) (fun _ _ _ _ _ => dg_name (i := 5) sc__law_directions.nd rfl (.inl rfl)) (fun _ _ _ _ _ => dts_nil) (fun _ _ _ _ _ => de_mulA (DE.dt (de_var 5)) (DE.dt (de_tix (i := 1) hr rfl (by first | exact Or.inl rfl | exact Or.inr (Or.inl rfl) | exact Or.inr (Or.inr rfl)) (DE.dt (de_var 3)) (by exact fun _ _ => rfl)))))))))), fun ds k h => ?_⟩
  obtain ⟨rs, n, rfl, ⟨n0, n1, hz, hl⟩, hk⟩ := h
  suffices z : Stp _ from z.run
  show Stp (gSeq _ _ _ [.sh (.lst (rs.map fun r => .lst (dints r))), .unset, .unset, .unset, .unset, .unset])
  with_reducible apply s_asgT0
  · exists pt
  with_reducible apply s_for (ds := rs.map fun r => .lst (dints r))
  · exact evi_it (ev_var rfl) itr_L
  refine forS_at (fun pre σ => ∃ x2 x3 x4, σ = [.sh (.lst (rs.map fun r => .lst (dints r))), otS (tabI (dirsR pre) (wtR pre)), x2, x3, x4, .unset]) (fun pre r suf el σ D2 hR hN _ => ?_) ⟨_, _, _, rfl⟩ (fun σ' hR => ?_)
  · obtain ⟨x2, x3, x4, rfl⟩ := hR
    have hr := hz r (by rw [el]; exact List.mem_append_right _ List.mem_cons_self)
    have lpre : pre.length + 1 ≤ 100 := by rw [el, List.length_append, List.length_cons] at hl; omega
    have ldir := dirs_len pre
    (first | (with_reducible show Stp _) | refine Stp.run ?_); exists ass
    with_reducible apply s_tgt2 (x := .lst (dints (plI r))) (y := .int (gcL r))
    · exact ev_ca (eva_cons (ev_var rfl) eva_nil) (.mk fun k e q => ⟨r, rfl, by omega, hr.1, q⟩)
    · exists pt
    · exists pt
    refine s_ifLN (c := decide (gcL r > 0)) (evt_B (ev_g2 (ev_var rfl) ev_c (.mk fun k q => q))) (fun hc => ?_) (fun hc => ?_)
    · have h1 : gcL r > 0 := of_decide_eq_true hc
      have hg : gcL r ≠ 0 := by omega
      have e0 : plI r = dirP r := if_neg hg
      rw [e0]
      have e1 : dirsR (pre ++ [r]) = bif (dirsR pre).any (· == dirP r) then dirsR pre else dirsR pre ++ [dirP r] := by
        rw [dirs_snoc]
        unfold stD
        rw [show (gcL r == 0) = false by simpa using hg, Bool.false_or]
      have e3 : wtR (pre ++ [r]) (dirP r) = wtR pre (dirP r) + gcL r := by
        rw [wt_snoc, show (gcL r != 0 && dirP r == dirP r) = true by simp [hg], cond_true]
      have ep := putT_tab (f := wtR pre) (g := wtR (pre ++ [r])) (q := dirP r) (P := dirsR pre) fun p hp => by
        rw [wt_snoc, show (gcL r != 0 && dirP r == p) = false by simp [hg]; exact fun z => hp z.symm, cond_false, Int.add_zero]
      rw [← e1, e3] at ep
      have ev : (valT (tabI (dirsR pre) (wtR pre)) (kI (dirP r))).getD (.int 0) = .int (wtR pre (dirP r)) := by
        by_cases c : dirP r ∈ dirsR pre
        · rw [valT_tab c]; rfl
        · rw [valT_tabN c, wt_zero c]; rfl
      with_reducible apply s_tputL (l := tabI (dirsR pre) (wtR pre)) (d := .tup (dints (dirP r))) (kt := kI (dirP r)) (z := .int (wtR pre (dirP r) + gcL r)) (τ := [.sh (.lst (rs.map fun r => .lst (dints r))), otS (tabI (dirsR (pre ++ [r])) (wtR (pre ++ [r]))), .sh (.lst (dints r)), .sh (.lst (dints (dirP r))), .sh (.int (gcL r)), .unset])
      · rfl
      · exact ev_tupF (ev_var rfl)
      · exact keysT_ints _
      · exact ev_g2 (Ev.eq (ev_tget2 (l := tabI (dirsR pre) (wtR pre)) (z := .int 0) rfl (ev_tupF (ev_var rfl)) (keysT_ints _) ev_c) ev) (ev_var rfl) (.mk fun k q => q)
      · rw [List.length_map]; omega
      · rw [ep]
        exists pt
      exact ⟨hN _ ⟨_, _, _, rfl⟩⟩
    · have h1 : ¬ gcL r > 0 := of_decide_eq_false hc
      have hg : gcL r = 0 := by have := gcL_nn r; omega
      have e1 : dirsR (pre ++ [r]) = dirsR pre := by
        rw [dirs_snoc]
        unfold stD
        rw [hg]; rfl
      have e2 : wtR (pre ++ [r]) = wtR pre := by
        funext p
        rw [wt_snoc, hg]
        show wtR pre p + 0 = _
        rw [Int.add_zero]
      exact ⟨hN _ ⟨_, _, _, by rw [e1, e2]⟩⟩
  · obtain ⟨x2, x3, x4, rfl⟩ := hR
    (try with_reducible refine nx_mk ?_)
    have ldir := dirs_len rs
    have hd : ∀ p ∈ dirsR rs, Sms 190 p ∧ p.length = n := fun p hp => by
      obtain ⟨r, hr, h0, rfl⟩ := dirs_mem.mp hp
      exact ⟨dirP_sz (hz r hr).1 h0, by rw [dirP_len]; exact (hz r hr).2⟩
    have hw : ∀ p, Sz 197 (wtR rs p) := fun p => wt_sz (fun r hr => (hz r hr).1) hl
    with_reducible apply s_ret (d := .lst ((outR rs).map fun r => .lst (dints r)))
    · refine Ev.eq (ev_lc (l := (dirsR rs).mergeSort leR) (gg := rowJT) (f := fun p => .lst (dints (p.map (wtR rs p * ·)))) (evi_it (ev_g1 (ev_tlist (l := tabI (dirsR rs) (wtR rs)) rfl) ?_) itr_L) rfl (fun p hp => aev1 ?_) (by rw [List.length_mergeSort]; omega)) (by unfold outR; rw [List.map_map]; rfl)
      · have e : ((tabI (dirsR rs) (wtR rs)).map fun p => D.tup (p.1.map kD)) = (dirsR rs).map rowJT := by
          unfold tabI
          rw [List.map_map]
          exact List.map_congr_left fun p _ => congrArg D.tup (kD_kI p)
        rw [e]
        refine o_sortC codTup (by decide) (by omega) (fun x hx y hy => ?_) (.inl fun d hd2 => ?_) fun x _ y _ => le_tups x y
        · exact alike_ints (by rw [(hd x hx).2, (hd y hy).2])
        · obtain ⟨x, hx, rfl⟩ := List.mem_map.mp hd2
          have lx := (hd x hx).2
          cases x with
          | nil => simp at lx; omega
          | cons y t => exact ⟨_, _, rfl⟩
      · have hp2 := List.mem_mergeSort.mp hp
        obtain ⟨zp, lp⟩ := hd p hp2
        refine Ev.eq (ev_lc (l := p) (gg := D.int) (f := fun x => .int (wtR rs p * x)) (evi_it (ev_var rfl) (.inr rfl)) rfl (fun x hx => aev1 ?_) (by omega)) (by unfold dints; rw [List.map_map]; rfl)
        have m : MulOk x (wtR rs p) := MulOk.of (zp x hx) (hw p) (by decide)
        exact ev_g2 (z := .int (wtR rs p * x)) (ev_var rfl) (ev_tix (l := tabI (dirsR rs) (wtR rs)) rfl (ev_var rfl) (keysT_ints _) (valT_tab hp2)) (.mk fun k q => ⟨m, by rw [Int.mul_comm]; exact q⟩)
    · exact ⟨hk⟩
theorem sr_ldirs {rs : List (List Int)} {n : Nat} (n0 : 1 ≤ n) (n1 : n ≤ 1000) (hz : ∀ r ∈ rs, Sms 190 r ∧ r.length = n) (hl : rs.length ≤ 100) : SR s_ldirs [.lst (rs.map fun r => .lst (dints r))] (.lst ((outR rs).map fun r => .lst (dints r))) := .mk fun k e q => ⟨rs, n, rfl, ⟨n0, n1, hz, hl⟩, q⟩
local macro_rules
  | `(tactic| exists $i:ident) => match i.getId.eraseMacroScopes with
    | `es => `(tactic| ((with_reducible (first | apply sr_is_number | apply sri_Rinit | apply sr_lover | apply sr_mrows | apply sri_Linit | apply sr_pair | apply sr_Req_r | apply sr_Req_i | apply sr_Req_o | apply sr_Radd_r | apply sr_Radd_i | apply sr_Rmul_r | apply sr_Rmul_i | apply sr_Ldir | apply sr_gcd | apply sr_ldirs))))
    | _ => Lean.Macro.throwUnsupported
theorem fc__law_directions_1 (F : Facts K mg) : FnC P w K mg base 4 (He.ga K "_law_directions") [] (lift K s_ldirs) := FnOk.c0 (ok__law_directions F) (F.d__law_directions.bindsN fun _ _ _ _ _ _ us hl => match us, hl with | [_], _ => rfl)
def s_low : GS := fun ds k _ => ∃ t b : Int, ds = [.int t, .int b] ∧ b ≠ 0 ∧ Sz 3990 t ∧ Sz 3990 b ∧ k (.tup [.int (lowP t b).1, .int (lowP t b).2])
theorem mn_low : MnS s_low := fun ds k k' e e' h1 _ ⟨t, b, e1, h, h2, h3, q⟩ => ⟨t, b, e1, h, h2, h3, h1 _ q⟩
theorem ok__law_low (F : Facts K mg) : FnOk P w K mg base (L2.CX P w) 3 (He.ga K "_law_low") (fdOf K (He.ga K "_law_low")) ["_law_top", "_law_bottom"] (lift K s_low) := by
  refine okD F.d__law_low sc__law_low (fun ds k e h => by obtain ⟨a, c, rfl, _⟩ := h; rfl) fun cdv A outer s0 H E b eo hr Z => ⟨_, dss_cons (ds_asg (i := 2) sc__law_low.nd rfl (.inl rfl) (de_ca (fc__law_gcd_2 F) sGcd_mn (hr.mono (by decide)) F.g__law_gcd F.d__law_gcd.kp cz_none (dca_pos (da_cons (de_var 0) (da_cons (de_var 1) (da_nil))))))
    (dss_one (ds_ret (DE.dt (de_if (db_gt (DE.dt (de_var 1)) (DE.dt (de_int))) (de_tup (da_cons (de_div (DE.dt (de_var 0)) (DE.dt (de_var 2))) (da_cons (de_div (DE.dt (de_var 1)) (DE.dt (de_var 2))) (da_nil)))) (de_tup (da_cons (de_sub (DE.dt (de_int)) (DE.dt (de_div (DE.dt (de_var 0)) (DE.dt (de_var 2))))) (da_cons (de_sub (DE.dt (de_int)) (DE.dt (de_div (DE.dt (de_var 1)) (DE.dt (de_var 2))))) (da_nil)))))))), fun ds k h => ?_⟩
  obtain ⟨t, b, rfl, h0, ht, hb, hk⟩ := h
  obtain ⟨d1, d2⟩ := gI_ok (a := t) h0 (hb.mono (by decide))
  refine ⟨t, b, rfl, ht.mono (by decide), hb.mono (by decide), ?_⟩
  have hk : k (.tup [.int (t.fdiv (cmI t b)), .int (b.fdiv (cmI t b))]) := hk
  show match decide ((0 : Int) < b) with | true => _ | false => _
  unfold cmI at hk
  by_cases c : 0 < b
  · rw [if_pos c] at hk
    rw [decide_eq_true c]
    exact ⟨d1, d1, (by show 2 ≤ 1000; decide), hk⟩
  · rw [if_neg c, fdiv_negG (gI_dvd1 t b), fdiv_negG (gI_dvd2 t b)] at hk
    rw [decide_eq_false c]
    refine ⟨d1, d1, (by show 2 ≤ 1000; decide), ?_⟩
    exact hk
theorem sr_low {t b : Int} (h : b ≠ 0) (ht : Sz 3990 t) (hb : Sz 3990 b) : SR s_low [.int t, .int b] (.tup [.int (lowP t b).1, .int (lowP t b).2]) := .mk fun k e z => ⟨_, _, rfl, h, ht, hb, z⟩
local macro_rules
  | `(tactic| exists $i:ident) => match i.getId.eraseMacroScopes with
    | `es => `(tactic| ((with_reducible (first | apply sr_is_number | apply sri_Rinit | apply sr_lover | apply sr_mrows | apply sri_Linit | apply sr_pair | apply sr_Req_r | apply sr_Req_i | apply sr_Req_o | apply sr_Radd_r | apply sr_Radd_i | apply sr_Rmul_r | apply sr_Rmul_i | apply sr_Ldir | apply sr_gcd | apply sr_ldirs | apply sr_low))))
    | _ => Lean.Macro.throwUnsupported
theorem fc__law_low_2 (F : Facts K mg) : FnC P w K mg base 3 (He.ga K "_law_low") [] (lift K s_low) := FnOk.c0 (ok__law_low F) (F.d__law_low.bindsN fun _ _ _ _ _ _ us hl => match us, hl with | [_, _], _ => rfl)
def s_lpart : GS := fun ds k _ => ∃ y p q, ds = [y] ∧ isP y p q ∧ k (.tup [.int p, .int q])
theorem mn_lpart : MnS s_lpart := fun ds k k' e e' h1 _ ⟨y, p, q, h, g1, z⟩ => ⟨y, p, q, h, g1, h1 _ z⟩
theorem ok__law_part (F : Facts K mg) : FnOk P w K mg base (L2.CX P w) 2 (He.ga K "_law_part") (fdOf K (He.ga K "_law_part")) ["_law_found"] (lift K s_lpart) := by
  refine okD F.d__law_part sc__law_part (fun ds k e h => by obtain ⟨y, p, q, rfl, _⟩ := h; rfl) fun cdv A outer s0 H E b eo hr Z => ⟨_, dss_one (ds_ret (DE.dt (de_if (db_val (DE.dt (de_isi (k := .own "Ratio") F.W (by simp [KC.ok]) (DE.dt (de_var 0)) (pe_kown rfl F.g_Ratio) rfl F.n_isinstance))) (de_tup (da_cons (de_fld (c := "Ratio") (NS := ["top", "bottom"]) (i := 0) (de_var 0) F.c_Ratio F.a_Ratio_top (by decide)) (da_cons (de_fld (c := "Ratio") (NS := ["top", "bottom"]) (i := 1) (de_var 0) F.c_Ratio F.a_Ratio_bottom (by decide)) (da_nil)))) (de_tup (da_cons (de_var 0) (da_cons (de_int) (da_nil))))))), fun ds k h => ?_⟩
  obtain ⟨y, p, q, rfl, h, hk⟩ := h
  suffices z : Stp _ from z.run
  show Stp (gRet _ _ [SD.sh y])
  rcases h with rfl | ⟨rfl, rfl⟩
  · with_reducible apply s_ret (d := .tup [.int p, .int q])
    · refine ev_ifT (evt_B (ev_isi (ev_var rfl) (ask_rat p q))) (isA_Ratio _ _) ?_
      exists ev
    · exact ⟨hk⟩
  · with_reducible apply s_ret (d := .tup [.int p, .int 1])
    · refine ev_ifF (evt_B (ev_isi (ev_var rfl) rfl)) rfl ?_
      exists ev
    · exact ⟨hk⟩
theorem sr_lpart {p q : Int} : SR s_lpart [rat p q] (.tup [.int p, .int q]) := .mk fun k e z => ⟨_, p, q, rfl, .inl rfl, z⟩
theorem sr_lpartI {p : Int} : SR s_lpart [.int p] (.tup [.int p, .int 1]) := .mk fun k e z => ⟨_, p, 1, rfl, .inr ⟨rfl, rfl⟩, z⟩
local macro_rules
  | `(tactic| exists $i:ident) => match i.getId.eraseMacroScopes with
    | `es => `(tactic| ((with_reducible (first | apply sr_is_number | apply sri_Rinit | apply sr_lover | apply sr_mrows | apply sri_Linit | apply sr_pair | apply sr_Req_r | apply sr_Req_i | apply sr_Req_o | apply sr_Radd_r | apply sr_Radd_i | apply sr_Rmul_r | apply sr_Rmul_i | apply sr_Ldir | apply sr_gcd | apply sr_ldirs | apply sr_low | apply sr_lpart | apply sr_lpartI))))
    | _ => Lean.Macro.throwUnsupported
theorem fc__law_part_1 (F : Facts K mg) : FnC P w K mg base 2 (He.ga K "_law_part") [] (lift K s_lpart) := FnOk.c0 (ok__law_part F) (F.d__law_part.bindsN fun _ _ _ _ _ _ us hl => match us, hl with | [_], _ => rfl)
abbrev pairO (b x : Int) : D := .tup [.int (lowP x b).1, .int (lowP x b).2]
def s_lpairs : GS := fun ds k _ => ∃ (b : Int) (rows : List (List Int)) (fa : Addr), ds = [.frl fa (rows.map (rowO b))] ∧ (rows.length ≤ 10000 ∧ ∀ r ∈ rows, r.length ≤ 10000) ∧ k (.lst (rows.map fun r => .lst (r.map (pairO b))))
theorem mn_lpairs : MnS s_lpairs := fun ds k k' e e' h1 _ ⟨b, rows, fa, h, g1, q⟩ => ⟨b, rows, fa, h, g1, h1 _ q⟩
theorem ok__law_pairs (F : Facts K mg) : FnOk P w K mg base (L2.CX P w) 3 (He.ga K "_law_pairs") (fdOf K (He.ga K "_law_pairs")) ["_law_rows_here"] (lift K s_lpairs) := by
  refine okD F.d__law_pairs sc__law_pairs (fun ds k e h => by obtain ⟨b, rows, fa, rfl, _⟩ := h; rfl) fun cdv A outer s0 H E b eo hr Z => ⟨_, dss_one (ds_ret (DE.dt (de_lc rfl sc__law_pairs.nd (own := [("_law_row", 2)]) (di_seq (de_var 0)) (blk_ok (N := ["_law_rows_here", "_law_one", "_law_row"]) (by kernel_rfl)) (fun _ _ _ _ _ => dg_name (i := 2) sc__law_pairs.nd rfl (.inl rfl)) (fun _ _ _ _ _ => dts_nil) (fun _ _ _ _ _ => de_lc rfl sc__law_pairs.nd (own := [("_law_one", 1)]) (di_seq (de_var 2)) (blk_ok (N := ["_law_rows_here", "_law_one", "_law_row"]) (by kernel_rfl)) (fun _ _ _ _ _ => dg_name (i := 1) sc__law_pairs.nd rfl (.inl rfl)) (fun _ _ _ _ _ => dts_nil) (fun _ _ _ _ _ => de_ca (fc__law_part_1 F) mn_lpart (hr.mono (by decide)) F.g__law_part F.d__law_part.kp cz_none (dca_pos (da_cons (de_var 1) (da_nil)))))))), fun ds k h => ?_⟩
  obtain ⟨bo, rows, fa, rfl, hl, hk⟩ := h
  suffices z : Stp _ from z.run
  show Stp (gRet _ _ [SD.sh (.frl fa (rows.map (rowO bo))), SD.unset, SD.unset])
  with_reducible apply s_ret (d := .lst (rows.map fun r => .lst (r.map (pairO bo))))
  · refine ev_lc (l := rows) (gg := rowO bo) (f := fun r => D.lst (r.map (pairO bo))) (evi_itF (ev_var rfl)) rfl (fun r hr => aev1 ?_) (by omega)
    exact ev_lc (l := r) (gg := ratO bo) (f := pairO bo) (evi_it (ev_var rfl) itr_T) rfl (fun x hx => aev1 (ev_ca (eva_cons (ev_var rfl) eva_nil) sr_lpart)) (by have := hl.2 r hr; omega)
  · exact ⟨hk⟩
theorem sr_lpairs {b : Int} {rows : List (List Int)} {fa : Addr} (hl : rows.length ≤ 10000 ∧ ∀ r ∈ rows, r.length ≤ 10000) : SR s_lpairs [.frl fa (rows.map (rowO b))] (.lst (rows.map fun r => .lst (r.map (pairO b)))) := .mk fun k e q => ⟨b, rows, fa, rfl, hl, q⟩
local macro_rules
  | `(tactic| exists $i:ident) => match i.getId.eraseMacroScopes with
    | `es => `(tactic| ((with_reducible (first | apply sr_is_number | apply sri_Rinit | apply sr_lover | apply sr_mrows | apply sri_Linit | apply sr_pair | apply sr_Req_r | apply sr_Req_i | apply sr_Req_o | apply sr_Radd_r | apply sr_Radd_i | apply sr_Rmul_r | apply sr_Rmul_i | apply sr_Ldir | apply sr_gcd | apply sr_ldirs | apply sr_low | apply sr_lpart | apply sr_lpartI | apply sr_lpairs))))
    | _ => Lean.Macro.throwUnsupported
theorem fc__law_pairs_1 (F : Facts K mg) : FnC P w K mg base 3 (He.ga K "_law_pairs") [] (lift K s_lpairs) := FnOk.c0 (ok__law_pairs F) (F.d__law_pairs.bindsN fun _ _ _ _ _ _ us hl => match us, hl with | [_], _ => rfl)
theorem ok__law_same : ∀ (n : Nat) (F : Facts K mg), FnOk P w K mg base (L2.CX P w) (n + 2) (He.ga K "_law_same") (fdOf K (He.ga K "_law_same")) ["_law_found", "_law_due"] (lift K (sSame n))
  | 0, F => okD F.d__law_same sc__law_same (fun ds k e h => by obtain ⟨d, rfl, _⟩ := h; rfl) fun cdv A outer s0 H E b eo hr Z => ⟨_, dss_never, fun ds k h => by obtain ⟨d, rfl, _, h, _⟩ := h; omega⟩
  | n + 1, F => by
    refine okD F.d__law_same sc__law_same (fun ds k e h => by obtain ⟨d, rfl, _⟩ := h; rfl) fun cdv A outer s0 H E b eo hr Z => ⟨_, dss_cons (ds_if (DW.db (dw_or (db_isN (DE.dt (de_var 1))) (dw_or1 (db_isN (DE.dt (de_var 0)))))) (dss_one (ds_ret (DE.dt (de_and (DE.dt (de_isN (DE.dt (de_var 0)))) (de_one (de_isN (DE.dt (de_var 1)))))))) (dss_nil))
    (dss_cons (ds_if (DW.db (dw_or (db_val (DE.dt (de_isi (k := .ty .bl) F.W (by simp [KC.ok]) (DE.dt (de_var 1)) (pe_kty rfl F.n_bool rfl) rfl F.n_isinstance))) (dw_or1 (db_val (DE.dt (de_isi (k := .ty .bl) F.W (by simp [KC.ok]) (DE.dt (de_var 0)) (pe_kty rfl F.n_bool rfl) rfl F.n_isinstance)))))) (dss_one (ds_ret (DE.dt (de_and (DE.dt (de_isi (k := .ty .bl) F.W (by simp [KC.ok]) (DE.dt (de_var 1)) (pe_kty rfl F.n_bool rfl) rfl F.n_isinstance)) (de_and (DE.dt (de_isi (k := .ty .bl) F.W (by simp [KC.ok]) (DE.dt (de_var 0)) (pe_kty rfl F.n_bool rfl) rfl F.n_isinstance)) (de_one (de_eqA hr (DE.dt (de_var 0)) (DE.dt (de_var 1))))))))) (dss_nil))
    (dss_cons (ds_if (db_val (DE.dt (de_isiT (ks := [.ty .int, .ty .str]) F.W (by simp [KC.ok]) (DE.dt (de_var 1)) (pks_cons (pe_kty rfl F.n_int rfl) (pks_cons (pe_kty rfl F.n_str rfl) (pks_nil))) (by decide) rfl F.n_isinstance))) (dss_one (ds_ret (DE.dt (de_and (DE.dt (de_isiT (ks := [.ty .int, .ty .str]) F.W (by simp [KC.ok]) (DE.dt (de_var 0)) (pks_cons (pe_kty rfl F.n_int rfl) (pks_cons (pe_kty rfl F.n_str rfl) (pks_nil))) (by decide) rfl F.n_isinstance)) (de_and (DE.dt (de_eqA hr (DE.dt (de_isi (k := .ty .int) F.W (by simp [KC.ok]) (DE.dt (de_var 0)) (pe_kty rfl F.n_int rfl) rfl F.n_isinstance)) (DE.dt (de_isi (k := .ty .int) F.W (by simp [KC.ok]) (DE.dt (de_var 1)) (pe_kty rfl F.n_int rfl) rfl F.n_isinstance)))) (de_one (de_eqA hr (DE.dt (de_var 0)) (DE.dt (de_var 1))))))))) (dss_nil))
    (dss_cons (ds_if (db_val (DE.dt (de_isi (k := .ty .dic) F.W (by simp [KC.ok]) (DE.dt (de_var 1)) (pe_kty rfl F.n_dict rfl) rfl F.n_isinstance))) (dss_never) (dss_nil))
    (dss_cons (ds_if (DW.db (dw_or (db_neA hr (DE.dt (de_isi (k := .ty .lst) F.W (by simp [KC.ok]) (DE.dt (de_var 1)) (pe_kty rfl F.n_list rfl) rfl F.n_isinstance)) (DE.dt (de_isi (k := .ty .lst) F.W (by simp [KC.ok]) (DE.dt (de_var 0)) (pe_kty rfl F.n_list rfl) rfl F.n_isinstance))) (dw_or1 (db_neA hr (DE.dt (de_isi (k := .ty .tup) F.W (by simp [KC.ok]) (DE.dt (de_var 1)) (pe_kty rfl F.n_tuple rfl) rfl F.n_isinstance)) (DE.dt (de_isi (k := .ty .tup) F.W (by simp [KC.ok]) (DE.dt (de_var 0)) (pe_kty rfl F.n_tuple rfl) rfl F.n_isinstance)))))) (dss_one (ds_ret (DE.dt (de_bl)))) (dss_nil))
    (dss_cons (ds_if (db_not (db_val (DE.dt (de_isiT (ks := [.ty .lst, .ty .tup]) F.W (by simp [KC.ok]) (DE.dt (de_var 1)) (pks_cons (pe_kty rfl F.n_list rfl) (pks_cons (pe_kty rfl F.n_tuple rfl) (pks_nil))) (by decide) rfl F.n_isinstance)))) (dss_never) (dss_nil))
    (dss_one (ds_ret (DE.dt (de_and (DE.dt (de_eqA hr (DE.dt (de_callB call_len3 cl_len rfl F.n_len rfl (DE.dt (de_var 0)))) (DE.dt (de_callB call_len3 cl_len rfl F.n_len rfl (DE.dt (de_var 1)))))) (de_one (de_callB (cr_all rfl) cl_all rfl F.n_all rfl (DE.dt (de_lc rfl sc__law_same.nd (own := [("_law_a", 3), ("_law_b", 4)]) (di_zipA (de_var 0) (de_var 1) rfl F.n_zip) (blk_ok (N := ["_law_found", "_law_due", "_law_key", "_law_a", "_law_b"]) (by kernel_rfl)) (fun _ _ _ _ _ => dg_tup rfl (dgs_cons (dg_name (i := 3) sc__law_same.nd rfl (.inl rfl)) (dgs_cons (dg_name (i := 4) sc__law_same.nd rfl (.inl rfl)) (dgs_nil)))) (fun _ _ _ _ _ => dts_nil) (fun _ _ _ _ _ => de_ca (FnOk.c0 (ok__law_same n F) (bi__law_same F)) (sSame_mn n) (hr.mono (by omega)) F.g__law_same F.d__law_same.kp cz_none (dca_pos (da_cons (de_var 3) (da_cons (de_var 4) (da_nil)))))))))))))))))), fun ds k h => ?_⟩
    obtain ⟨d, rfl, hg, hd, hk⟩ := h
    have last : ∀ ds : List D, ds.length ≤ 100000 → goodDs ds = true → deps ds < n → ∀ σd : D, lcD (.tp [.nm 3, .nm 4]) gYes (gCa (sSame n) (fun _ => False) (gCons (gVar 3) (gCons (gVar 4) gNil))) [.sh σd, .sh σd, .unset, .unset, .unset] (pairsD ds ds) [] fun x => dAll x k := fun ds h1 h2 h3 σd => by
      rw [pairsD_self]
      refine lcD_mapL (l := ds) (fun d => D.tup [d, d]) (fun _ => D.bl true) (fun x hx kk hkk => ?_) (by simp only [List.length_nil]; omega) ?_
      · exact ⟨x, rfl, goodDs_mem h2 x hx, Nat.lt_of_le_of_lt (deps_mem x hx) h3, hkk⟩
      · refine dAll_bls ?_
        have e : (ds.all fun _ => true) = true := by simp
        rw [e]; exact hk
    cases d with
    | non => exact hk
    | bl x =>
      have hk' : k (.bl (x == x)) := by rw [beq_self_eq_true]; exact hk
      repeat' (first | exact hk' | refine ⟨rfl, ?_⟩)
    | int x =>
      have hk' : k (.bl (x == x)) := by rw [beq_self_eq_true]; exact hk
      repeat' (first | exact hk' | refine ⟨rfl, ?_⟩)
    | str x =>
      have hk' : k (.bl (x == x)) := by rw [beq_self_eq_true]; exact hk
      repeat' (first | exact hk' | refine ⟨rfl, ?_⟩)
    | tup ds =>
      simp only [goodD, Bool.and_eq_true, decide_eq_true_eq] at hg
      simp only [dep] at hd
      exists dl
      refine ⟨rfl, rfl, rfl, rfl, rfl, rfl, rfl, rfl, rfl, ?_⟩
      show dEqA false (D.int (ds.length : Int)) (D.int (ds.length : Int)) _
      exact dEqA_self (last ds hg.1 hg.2 (by omega) _)
    | lst ds =>
      simp only [goodD, Bool.and_eq_true, decide_eq_true_eq] at hg
      simp only [dep] at hd
      exists dl
      refine ⟨rfl, rfl, rfl, rfl, rfl, rfl, rfl, rfl, rfl, ?_⟩
      show dEqA false (D.int (ds.length : Int)) (D.int (ds.length : Int)) _
      exact dEqA_self (last ds hg.1 hg.2 (by omega) _)
    | _ => cases hg
theorem fc__law_same_2 (F : Facts K mg) : FnC P w K mg base 10 (He.ga K "_law_same") [] (lift K (sSame 8)) := FnOk.c0 (ok__law_same 8 F) (F.d__law_same.bindsN fun _ _ _ _ _ _ us hl => match us, hl with | [_, _], _ => rfl)
def s_dot : GS := fun ds k _ => ∃ x y a b, ds = [x, y] ∧ seqI x = some a ∧ seqI y = some b ∧ a.length ≤ 1000 ∧ Sms 4000 a ∧ Sms 4000 b ∧ k (.int (dotI a b))
theorem mn_dot : MnS s_dot := fun ds k k' e e' h1 _ ⟨x, y, a, b, h, h2, h3, h4, h5, h6, q⟩ => ⟨x, y, a, b, h, h2, h3, h4, h5, h6, h1 _ q⟩
theorem mulSm {n m : Nat} {a b : List Int} (ha : Sms n a) (hb : Sms m b) (h : n + m ≤ 900000) : ∀ p ∈ a.zip b, MulOk p.1 p.2 := fun p hp => MulOk.of (ha p.1 (List.of_mem_zip hp).1) (hb p.2 (List.of_mem_zip hp).2) h
theorem ok__law_dot (F : Facts K mg) : FnOk P w K mg base (L2.CX P w) 2 (He.ga K "_law_dot") (fdOf K (He.ga K "_law_dot")) ["_law_row", "_law_other"] (lift K s_dot) := by
  refine okD F.d__law_dot sc__law_dot (fun ds k e h => by obtain ⟨x, y, a, b, rfl, _⟩ := h; rfl) fun cdv A outer s0 H E b eo hr Z => ⟨_, dss_one (ds_ret (DE.dt (de_callB (cr_sum rfl) cl_sumI rfl F.n_sum rfl (DE.dt (de_lc rfl sc__law_dot.nd (own := [("_law_a", 2), ("_law_b", 3)]) (di_zipA (de_var 0) (de_var 1) rfl F.n_zip) (blk_ok (N := ["_law_row", "_law_other", "_law_a", "_law_b"]) (by kernel_rfl)) (fun _ _ _ _ _ => dg_tup rfl (dgs_cons (dg_name (i := 2) sc__law_dot.nd rfl (.inl rfl)) (dgs_cons (dg_name (i := 3) sc__law_dot.nd rfl (.inl rfl)) (dgs_nil)))) (fun _ _ _ _ _ => dts_nil) (fun _ _ _ _ _ => de_mulA (DE.dt (de_var 2)) (DE.dt (de_var 3)))))))), fun ds k h => ?_⟩
  obtain ⟨x, y, a, b, rfl, hx, hy, hl, ha, hb, hk⟩ := h
  have key : ∀ σ : StD, σ.length = 4 → lcD (.tp [.nm 2, .nm 3]) gYes (g2 dMulA (gVar 2) (gVar 3)) [look σ 0, look σ 1, .unset, .unset] (pairsD (dints a) (dints b)) [] fun x => dSumI x k := fun σ _ => by
    rw [pairs_ints]
    refine lcD_mapL (l := a.zip b) (fun p => D.tup [.int p.1, .int p.2]) (fun p => D.int (p.1 * p.2)) (fun p hp kk hkk => ?_) ?_ ?_
    · exact ⟨mulSm ha hb (by decide) p hp, hkk⟩
    · simp only [List.length_nil, List.length_zip]; omega
    have e : (a.zip b).map (fun p => D.int (p.1 * p.2)) = dints ((a.zip b).map fun p => p.1 * p.2) := by simp [dints]
    rw [List.nil_append, e]
    exact dSum_ints hk
  cases x with
  | lst ds =>
    have e := ints_of hx
    subst e
    cases y with
    | lst es => have e := ints_of hy; subst e; exact key [.sh (.lst (dints a)), .sh (.lst (dints b)), .unset, .unset] rfl
    | tup es => have e := ints_of hy; subst e; exact key [.sh (.lst (dints a)), .sh (.tup (dints b)), .unset, .unset] rfl
    | _ => cases hy
  | tup ds =>
    have e := ints_of hx
    subst e
    cases y with
    | lst es => have e := ints_of hy; subst e; exact key [.sh (.tup (dints a)), .sh (.lst (dints b)), .unset, .unset] rfl
    | tup es => have e := ints_of hy; subst e; exact key [.sh (.tup (dints a)), .sh (.tup (dints b)), .unset, .unset] rfl
    | _ => cases hy
  | _ => cases hx
theorem sr_ldot {a c : List Int} (ha : a.length ≤ 1000) (s1 : Sms 4000 a) (s2 : Sms 4000 c) : SR s_dot [.lst (dints a), .lst (dints c)] (.int (dotI a c)) := .mk fun k e q => ⟨_, _, a, c, rfl, intsOf_map a, intsOf_map c, ha, s1, s2, q⟩
local macro_rules
  | `(tactic| exists $i:ident) => match i.getId.eraseMacroScopes with
    | `es => `(tactic| ((with_reducible (first | apply sr_is_number | apply sri_Rinit | apply sr_lover | apply sr_mrows | apply sri_Linit | apply sr_pair | apply sr_Req_r | apply sr_Req_i | apply sr_Req_o | apply sr_Radd_r | apply sr_Radd_i | apply sr_Rmul_r | apply sr_Rmul_i | apply sr_Ldir | apply sr_gcd | apply sr_ldirs | apply sr_low | apply sr_lpart | apply sr_lpartI | apply sr_lpairs | apply sr_ldot))))
    | _ => Lean.Macro.throwUnsupported
theorem fc__law_dot_2 (F : Facts K mg) : FnC P w K mg base 2 (He.ga K "_law_dot") [] (lift K s_dot) := FnOk.c0 (ok__law_dot F) (F.d__law_dot.bindsN fun _ _ _ _ _ _ us hl => match us, hl with | [_, _], _ => rfl)
def lenL (rows : List (List Int)) (a : List Int) : Int := ((prodsI rows a).map absI).sum
theorem sz_abs {n : Nat} {x : Int} (h : Sz n x) : Sz n (absI x) := by
  unfold absI
  split
  · exact h.neg
  · exact h
theorem o_sumL {l : List Int} : O1 dSumI (.lst (dints l)) (.int l.sum) := .mk fun k q => dSum_ints q
theorem o_absI {x : Int} : O1 dAbs (.int x) (.int (absI x)) := .mk fun k q => q
theorem ev_lcI {α : Type} {gi : GI} {tg : Tgt} {vs : List Nat} {ge : GE} {σ : StD} {ds : List D} {gg : α → D} {f : α → Int} {l : List α} (I : EvI gi σ ds) (e : ds = l.map gg) (h : ∀ w ∈ l, AEv tg (gg w) (wipeD σ vs) ge (.int (f w))) (hl : l.length ≤ 1000000) : Ev (gLc gi tg gYes ge vs) σ (.lst (dints (l.map f))) :=
  (ev_lc (f := fun w => D.int (f w)) I e h hl).eq (by unfold dints; rw [List.map_map]; rfl)
def s_llen : GS := fun ds k _ => ∃ rows a, ds = [.lst (rows.map rowL), rowL a] ∧ rows.length ≤ 10000 ∧ Sms 400 a ∧ (∀ r ∈ rows, r.length ≤ 1000 ∧ Sms 400 r) ∧ k (.int (lenL rows a))
theorem mn_llen : MnS s_llen := fun ds k k' e e' h1 _ ⟨rows, a, h, g2, g3, g4, q⟩ => ⟨rows, a, h, g2, g3, g4, h1 _ q⟩
theorem ok__law_lines_length (F : Facts K mg) : FnOk P w K mg base (L2.CX P w) 3 (He.ga K "_law_lines_length") (fdOf K (He.ga K "_law_lines_length")) ["_law_rows_here", "_law_places_here"] (lift K s_llen) := by
  refine okD F.d__law_lines_length sc__law_lines_length (fun ds k e h => by obtain ⟨rows, a, rfl, _⟩ := h; rfl) fun cdv A outer s0 H E b eo hr Z => ⟨_, dss_one (ds_ret (DE.dt (de_callB (cr_sum rfl) cl_sumI rfl F.n_sum rfl (DE.dt (de_lc rfl sc__law_lines_length.nd (own := [("_law_row", 2)]) (di_seq (de_var 0)) (blk_ok (N := ["_law_rows_here", "_law_places_here", "_law_row"]) (by kernel_rfl)) (fun _ _ _ _ _ => dg_name (i := 2) sc__law_lines_length.nd rfl (.inl rfl)) (fun _ _ _ _ _ => dts_nil) (fun _ _ _ _ _ => de_callB call_abs cl_abs rfl F.n_abs rfl (DE.dt (de_ca (fc__law_dot_2 F) mn_dot (hr.mono (by decide)) F.g__law_dot F.d__law_dot.kp cz_none (dca_pos (da_cons (de_var 2) (da_cons (de_var 1) (da_nil)))))))))))), fun ds k h => ?_⟩
  obtain ⟨rows, a, rfl, hl, za, hr, hk⟩ := h
  suffices z : Stp _ from z.run
  show Stp (gRet _ _ [SD.sh (.lst (rows.map rowL)), SD.sh (rowL a), SD.unset])
  with_reducible apply s_ret (d := .int (lenL rows a))
  · refine (ev_g1 (ev_lcI (l := rows) (gg := rowL) (f := fun r => absI (dotI r a)) (evi_it (ev_var rfl) itr_L) rfl (fun r h => aev1 (ev_g1 (ev_ca (eva_cons (ev_var rfl) (eva_cons (ev_var rfl) eva_nil)) (sr_ldot (hr r h).1 (fun x hx => ((hr r h).2 x hx).mono (by decide)) (fun x hx => (za x hx).mono (by decide)))) o_absI)) (by omega)) o_sumL).eq ?_
    unfold lenL prodsI
    rw [List.map_map]; rfl
  · exact ⟨hk⟩
theorem sr_llen {rows : List (List Int)} {a : List Int} (hl : rows.length ≤ 10000) (za : Sms 400 a) (hr : ∀ r ∈ rows, r.length ≤ 1000 ∧ Sms 400 r) : SR s_llen [.lst (rows.map rowL), rowL a] (.int (lenL rows a)) := .mk fun k e q => ⟨rows, a, rfl, hl, za, hr, q⟩
local macro_rules
  | `(tactic| exists $i:ident) => match i.getId.eraseMacroScopes with
    | `es => `(tactic| ((with_reducible (first | apply sr_is_number | apply sri_Rinit | apply sr_lover | apply sr_mrows | apply sri_Linit | apply sr_pair | apply sr_Req_r | apply sr_Req_i | apply sr_Req_o | apply sr_Radd_r | apply sr_Radd_i | apply sr_Rmul_r | apply sr_Rmul_i | apply sr_Ldir | apply sr_gcd | apply sr_ldirs | apply sr_low | apply sr_lpart | apply sr_lpartI | apply sr_lpairs | apply sr_ldot | apply sr_llen))))
    | _ => Lean.Macro.throwUnsupported
theorem fc__law_lines_length_2 (F : Facts K mg) : FnC P w K mg base 3 (He.ga K "_law_lines_length") [] (lift K s_llen) := FnOk.c0 (ok__law_lines_length F) (F.d__law_lines_length.bindsN fun _ _ _ _ _ _ us hl => match us, hl with | [_, _], _ => rfl)
theorem ok_InvalidPlaces_init (F : Facts K mg) : FnOk P w K mg base (L2.CX P w) 1 (He.ma K (He.ga K "InvalidPlaces") "__init__") (fdOf K (He.ma K (He.ga K "InvalidPlaces") "__init__")) ["self", "at"] (spErr (He.ga K "InvalidPlaces") "InvalidPlaces" ["at"]) := by
  refine F.d_InvalidPlaces_init.ok sc_InvalidPlaces_init (fun vs H Q E h => by obtain ⟨a, ws, rfl, hl, _⟩ := h; simpa using hl) fun cdv A outer s H vs Q E hr h => ⟨_, (pss_cons (ps_expr (pe_bsinit rfl F.g_StrideError F.base (pa_cons (pe_var (i := 0) rfl (.inl rfl)) (pa_cons pe_str pa_nil)))) (pss_cons (ps_osE .ve (pe_var (i := 0) rfl (.inl rfl)) pe_str) (pss_one (ps_osE .ve (pe_var (i := 0) rfl (.inl rfl)) (pe_var (i := 1) rfl (.inl rfl)))))), ?_⟩
  exact err_read1 F.e_InvalidPlaces.C h rfl
def badAt : List D → Option Nat
  | [] => none
  | d :: r => if numD d then (badAt r).map (· + 1) else some 0
def s_Ainit : GSI := fun c ns fs ds k e => c = "Arrow" ∧ ns = [] ∧ fs = [] ∧ ds.length ≤ 900 ∧ (∀ d ∈ ds, askD CLS d = true) ∧ match badAt ds with
  | some i => e (errX "InvalidPlaces" "InvalidPlaces" ["at"] [.int (i : Int)])
  | none => bif ds.isEmpty then e (errX "InvalidPlaces" "InvalidPlaces" ["at"] [.int (-1)]) else bif decide (4 < ds.length) then e (errX "TooMany" "TooMany" ["most", "subject"] [.int 4, .str "places"]) else k ANS [.tup ds, .int ds.length]
theorem mn_Ainit : MnSI s_Ainit := fun c ns fs ds k k' e e' h1 h2 ⟨e1, e2, e3, h, g, q⟩ => ⟨e1, e2, e3, h, g, by
  cases eb : badAt ds with
  | some i => rw [eb] at q; exact h2 _ q
  | none =>
    rw [eb] at q
    revert q
    show (bif ds.isEmpty then _ else _) → (bif ds.isEmpty then _ else _)
    cases ds.isEmpty
    · cases decide (4 < ds.length)
      · exact h1 _ _
      · exact h2 _
    · exact h2 _⟩
theorem badAt_ints : ∀ l : List Int, badAt (dints l) = none
  | [] => rfl
  | x :: r => by
    show (badAt (dints r)).map (· + 1) = none
    rw [badAt_ints r]; rfl
theorem of_badAt : ∀ {ds : List D}, badAt ds = none → ∃ l, ds = dints l
  | [], _ => ⟨[], rfl⟩
  | d :: r, h => by
    cases d with
    | int i =>
      have h : (badAt r).map (· + 1) = none := h
      obtain ⟨l, rfl⟩ := of_badAt (ds := r) (by cases e : badAt r with | none => rfl | some j => rw [e] at h; cases h)
      exact ⟨i :: l, rfl⟩
    | _ => cases h
/-- a good arrow is made -/
theorem Ainit_ok {l : List Int} {k : List Str → List D → Prop} {e : XD → Prop} (h1 : 1 ≤ l.length) (h4 : l.length ≤ 4) (q : k ANS [.tup (dints l), .int l.length]) : s_Ainit "Arrow" [] [] (dints l) k e := by
  refine ⟨rfl, rfl, rfl, by rw [dints_len]; omega, ask_ints, ?_⟩
  rw [badAt_ints]
  show (bif (dints l).isEmpty then _ else _)
  have e1 : (dints l).isEmpty = false := by
    cases l with
    | nil => simp at h1
    | cons x r => rfl
  rw [e1]
  show (bif decide (4 < (dints l).length) then _ else _)
  rw [dints_len, decide_eq_false (by omega)]
  exact q
theorem arr_ok {l : List Int} {k : D → Prop} {e : XD → Prop} (h1 : 1 ≤ l.length) (h4 : l.length ≤ 4) (q : k (arr l)) : s_Ainit "Arrow" [] [] (dints l) (fun ns fs => k (.ins "Arrow" ns fs)) e := Ainit_ok h1 h4 q
theorem ok_Arrow_init (F : Facts K mg) : FnC P w K mg base 3 (He.ma K (He.ga K "Arrow") "__init__") [] (liftI K s_Ainit) := by
  refine okIS F.d_Arrow_init sc_Arrow_init (fun _ _ _ _ _ _ u rest => by cases rest <;> rfl) (fun c ns fs ds k e h => Nat.le_trans h.2.2.2.1 (by decide)) (fun cdv A outer s0 Hc H E b eo hr Z c ns fs ds k h => ?_) mn_Ainit
  refine ⟨_, dss_cons (ds_for (passes_of rfl) rfl (di_enum (de_var 1) rfl F.n_enumerate) (dg_tup rfl (dgs_cons (dg_name (i := 2) sc_Arrow_init.nd rfl (.inl rfl)) (dgs_cons (dg_name (i := 3) sc_Arrow_init.nd rfl (.inl rfl)) (dgs_nil)))) (dss_one (ds_if (db_not (db_val (DE.dt (de_ca (fc_is_number_1 F) mn_is_number (hr.mono (by decide)) F.g_is_number F.d_is_number.kp cz_none (dca_pos (da_cons (de_var 3) (da_nil))))))) (dss_one (ds_raise (takes_of rfl rfl rfl rfl) Z rfl F.e_InvalidPlaces (ok_InvalidPlaces_init F) (hr.mono (by decide)) (bi_InvalidPlaces_init F) .nil (fun _ _ => Reps.nil) (passes_call (takes_of rfl rfl rfl rfl) fun _ _ _ _ z => z.elim) rfl F.g_InvalidPlaces (da_cons (de_var 2) (da_nil)))) (dss_nil))))
    (dss_cons (ds_if (db_eqA hr (DE.dt (de_var 1)) (DE.dt (de_tup (da_nil)))) (dss_one (ds_raise (takes_of rfl rfl rfl rfl) Z rfl F.e_InvalidPlaces (ok_InvalidPlaces_init F) (hr.mono (by decide)) (bi_InvalidPlaces_init F) .nil (fun _ _ => Reps.nil) (passes_call (takes_of rfl rfl rfl rfl) fun _ _ _ _ z => z.elim) rfl F.g_InvalidPlaces (da_cons (de_neg (DE.dt (de_int))) (da_nil)))) (dss_nil))
    (dss_cons (ds_if (db_gt (DE.dt (de_callB call_len3 cl_len rfl F.n_len rfl (DE.dt (de_var 1)))) (DE.dt (de_cint F.v_Arrow_MOST rfl F.g_Arrow))) (dss_one (ds_raise (takes_of rfl rfl rfl rfl) Z rfl F.e_TooMany (ok_TooMany_init F) (hr.mono (by decide)) (bn_TooMany_init F).choose_spec.2 (bn_TooMany_init F).choose_spec.1 (fun _ _ => Reps.nil) (passes_call (takes_of rfl rfl rfl rfl) fun _ _ _ _ z => z.elim) rfl F.g_TooMany (da_cons (de_cint F.v_Arrow_MOST rfl F.g_Arrow) (da_cons (de_str) (da_nil))))) (dss_nil))
    (dss_cons (ds_self (i := 0) (c := "Arrow") (ns0 := []) (de_callTyS call_tuple_of cl_tuple rfl F.n_tuple rfl (de_var 1)) F.c_Arrow F.a_Arrow_own_places (by decide) (by decide))
    (dss_one (ds_self (i := 0) (c := "Arrow") (ns0 := ["own_places"]) (de_callB call_len3 cl_len rfl F.n_len rfl (DE.dt (de_var 1))) F.c_Arrow F.a_Arrow_size (by decide) (by decide)))))), fun a dx => ?_⟩
  obtain ⟨rfl, rfl, rfl, hl, ha, h⟩ := h
  have key : ∀ (es : List D) (j : Nat) (D' : EndD) (o t a2 a3 : SD), (∀ d ∈ es, askD CLS d = true) → (match badAt es with | some i => eo (errX "InvalidPlaces" "InvalidPlaces" ["at"] [.int ((j + i : Nat) : Int)]) | none => ∀ a2 a3, D'.nx [o, t, a2, a3]) →
      forD (.tp [.nm 2, .nm 3]) (gIfS (gNot (gB (gCa s_is_number (fun _ => False) (DL.gCons (gVar 3) DL.gNil)))) (gRaise "InvalidPlaces" "InvalidPlaces" ["at"] [] eo (DL.gCons (gVar 2) DL.gNil)) gNext) (enumD j es) D' [o, t, a2, a3] := by
    intro es
    induction es with
    | nil => exact fun j D' o t a2 a3 _ q => q a2 a3
    | cons d r ih =>
      intro j D' o t a2 a3 hr q
      refine ⟨d, rfl, hr d List.mem_cons_self, ?_⟩
      show match !numD d with | true => _ | false => _
      unfold badAt at q
      cases e : numD d with
      | false =>
        rw [e] at q
        exact ⟨rfl, (by show 1 ≤ 900; decide), q⟩
      | true =>
        rw [e] at q
        refine ih (j + 1) D' o t _ _ (fun d' hd' => hr d' (List.mem_cons_of_mem _ hd')) ?_
        rw [if_pos rfl] at q
        cases eb : badAt r with
        | none => rw [eb] at q; exact q
        | some i =>
          rw [eb] at q
          have q : eo (errX "InvalidPlaces" "InvalidPlaces" ["at"] [.int ((j + (i + 1) : Nat) : Int)]) := q
          rwa [show j + (i + 1) = j + 1 + i by omega] at q
  refine key ds 0 _ _ _ _ _ ha ?_
  cases eb : badAt ds with
  | some i =>
    rw [eb] at h
    show eo (errX "InvalidPlaces" "InvalidPlaces" ["at"] [.int ((0 + i : Nat) : Int)])
    rw [Nat.zero_add]; exact h
  | none =>
    rw [eb] at h
    obtain ⟨l, rfl⟩ := of_badAt eb
    intro a2 a3
    exists dl
    refine ⟨by decide, ?_⟩
    refine dEqA_tints (m := []) ?_
    show match (l == []) with | true => _ | false => _
    have h : bif (dints l).isEmpty then eo (errX "InvalidPlaces" "InvalidPlaces" ["at"] [.int (-1)]) else bif decide (4 < (dints l).length) then eo (errX "TooMany" "TooMany" ["most", "subject"] [.int 4, .str "places"]) else k ANS [.tup (dints l), .int (dints l).length] := h
    cases l with
    | nil => exact ⟨(by show 1 ≤ 900; decide), h⟩
    | cons x r =>
      have h : bif decide (4 < (dints (x :: r)).length) then eo (errX "TooMany" "TooMany" ["most", "subject"] [.int 4, .str "places"]) else k ANS [.tup (dints (x :: r)), .int (dints (x :: r)).length] := h
      show match decide ((4 : Int) < ((dints (x :: r)).length : Int)) with | true => _ | false => _
      by_cases c : 4 < (dints (x :: r)).length
      · rw [decide_eq_true c] at h
        rw [decide_eq_true (by omega)]
        exact ⟨(by show 2 ≤ 900; decide), h⟩
      · rw [decide_eq_false c] at h
        rw [decide_eq_false (by omega)]
        have h : k ANS [.tup (dints (x :: r)), .int (dints (x :: r)).length] := h
        exact ⟨rfl, rfl, rfl, rfl, rfl, rfl, rfl, h⟩
theorem sri_Ainit {l : List Int} (h1 : 1 ≤ l.length) (h4 : l.length ≤ 4) : SRI s_Ainit "Arrow" (dints l) ANS [.tup (dints l), .int l.length] := .mk fun k e q => Ainit_ok h1 h4 q
local macro_rules
  | `(tactic| exists $i:ident) => match i.getId.eraseMacroScopes with
    | `es => `(tactic| ((with_reducible (first | apply sr_is_number | apply sri_Rinit | apply sr_lover | apply sr_mrows | apply sri_Linit | apply sr_pair | apply sr_Req_r | apply sr_Req_i | apply sr_Req_o | apply sr_Radd_r | apply sr_Radd_i | apply sr_Rmul_r | apply sr_Rmul_i | apply sr_Ldir | apply sr_gcd | apply sr_ldirs | apply sr_low | apply sr_lpart | apply sr_lpartI | apply sr_lpairs | apply sr_ldot | apply sr_llen | apply sri_Ainit))))
    | _ => Lean.Macro.throwUnsupported
def s_arrow : GS := fun ds k _ => ∃ l : List Int, ds = [.lst (dints l)] ∧ 1 ≤ l.length ∧ l.length ≤ 4 ∧ k (arr l)
theorem mn_arrow : MnS s_arrow := fun ds k k' e e' h1 _ ⟨n, h, g1, g2, q⟩ => ⟨n, h, g1, g2, h1 _ q⟩
theorem ok__law_arrow (F : Facts K mg) : FnOk P w K mg base (L2.CX P w) 5 (He.ga K "_law_arrow") (fdOf K (He.ga K "_law_arrow")) ["_law_places_here"] (lift K s_arrow) := by
  refine okD F.d__law_arrow sc__law_arrow (fun ds k e h => by obtain ⟨a, rfl, _⟩ := h; rfl) fun cdv A outer s0 H E b eo hr Z => ⟨_, dss_cons (ds_if (db_eqA hr (DE.dt (de_callB call_len3 cl_len rfl F.n_len rfl (DE.dt (de_var 0)))) (DE.dt (de_int))) (dss_one (ds_ret (DE.dt (de_mk F.k_Arrow (ok_Arrow_init F) mn_Ainit (hr.mono (by decide)) F.g_Arrow Z (dca_pos (da_cons (de_ix (de_var 0) (DE.dt (de_int))) (da_nil))))))) (dss_nil))
    (dss_cons (ds_if (db_eqA hr (DE.dt (de_callB call_len3 cl_len rfl F.n_len rfl (DE.dt (de_var 0)))) (DE.dt (de_int))) (dss_one (ds_ret (DE.dt (de_mk F.k_Arrow (ok_Arrow_init F) mn_Ainit (hr.mono (by decide)) F.g_Arrow Z (dca_pos (da_cons (de_ix (de_var 0) (DE.dt (de_int))) (da_cons (de_ix (de_var 0) (DE.dt (de_int))) (da_nil)))))))) (dss_nil))
    (dss_one (ds_ret (DE.dt (de_if (db_eqA hr (DE.dt (de_callB call_len3 cl_len rfl F.n_len rfl (DE.dt (de_var 0)))) (DE.dt (de_int))) (de_mk F.k_Arrow (ok_Arrow_init F) mn_Ainit (hr.mono (by decide)) F.g_Arrow Z (dca_pos (da_cons (de_ix (de_var 0) (DE.dt (de_int))) (da_cons (de_ix (de_var 0) (DE.dt (de_int))) (da_cons (de_ix (de_var 0) (DE.dt (de_int))) (da_nil)))))) (de_mk F.k_Arrow (ok_Arrow_init F) mn_Ainit (hr.mono (by decide)) F.g_Arrow Z (dca_pos (da_cons (de_ix (de_var 0) (DE.dt (de_int))) (da_cons (de_ix (de_var 0) (DE.dt (de_int))) (da_cons (de_ix (de_var 0) (DE.dt (de_int))) (da_cons (de_ix (de_var 0) (DE.dt (de_int))) (da_nil)))))))))))), fun ds k h => ?_⟩
  obtain ⟨l, rfl, h1, h4, hk⟩ := h
  match l, h1, h4, hk with
  | [x], _, _, hk =>
    exists dl
    exact arr_ok (l := [x]) (by simp) (by simp) hk
  | [x, y], _, _, hk =>
    exists dl
    exact arr_ok (l := [x, y]) (by simp) (by simp) hk
  | [x, y, z], _, _, hk =>
    exists dl
    exact arr_ok (l := [x, y, z]) (by simp) (by simp) hk
  | [x, y, z, u], _, _, hk =>
    exists dl
    exact arr_ok (l := [x, y, z, u]) (by simp) (by simp) hk
theorem sr_arrow {l : List Int} (h1 : 1 ≤ l.length) (h4 : l.length ≤ 4) : SR s_arrow [.lst (dints l)] (arr l) := .mk fun k e q => ⟨l, rfl, h1, h4, q⟩
local macro_rules
  | `(tactic| exists $i:ident) => match i.getId.eraseMacroScopes with
    | `es => `(tactic| ((with_reducible (first | apply sr_is_number | apply sri_Rinit | apply sr_lover | apply sr_mrows | apply sri_Linit | apply sr_pair | apply sr_Req_r | apply sr_Req_i | apply sr_Req_o | apply sr_Radd_r | apply sr_Radd_i | apply sr_Rmul_r | apply sr_Rmul_i | apply sr_Ldir | apply sr_gcd | apply sr_ldirs | apply sr_low | apply sr_lpart | apply sr_lpartI | apply sr_lpairs | apply sr_ldot | apply sr_llen | apply sri_Ainit | apply sr_arrow))))
    | _ => Lean.Macro.throwUnsupported
theorem fc__law_arrow_1 (F : Facts K mg) : FnC P w K mg base 5 (He.ga K "_law_arrow") [] (lift K s_arrow) := FnOk.c0 (ok__law_arrow F) (F.d__law_arrow.bindsN fun _ _ _ _ _ _ us hl => match us, hl with | [_], _ => rfl)
theorem ok_Ratio_radd (F : Facts K mg) : FnOk P w K mg base (L2.CX P w) 7 (He.ma K (He.ga K "Ratio") "__radd__") (fdOf K (He.ma K (He.ga K "Ratio") "__radd__")) ["self", "other"] (lift K s_Radd) := by
  refine okD F.d_Ratio_radd sc_Ratio_radd (fun ds k e h => by obtain ⟨p, q, y, r, s, rfl, _⟩ := h; rfl) fun cdv A outer s0 H E b eo hr Z => ⟨_, dss_one (ds_ret (DE.dt (de_binO (c := "Ratio") (de_var 0) (de_var 1) F.o_Ratio_add (ok_Ratio_add F) mn_Radd (hr.mono (by decide)) (bi_Ratio_add F) cz_none))), fun ds k h => ?_⟩
  obtain ⟨p, q, y, r, s, rfl, hy, h⟩ := h
  have hy2 := hy
  rcases hy with rfl | ⟨rfl, rfl⟩
  · exact ⟨rfl, rfl, p, q, _, _, _, rfl, hy2, h⟩
  · exact ⟨rfl, p, q, _, _, _, rfl, hy2, h⟩
theorem ok_Mismatch_init (F : Facts K mg) : FnOk P w K mg base (L2.CX P w) 1 (He.ma K (He.ga K "Mismatch") "__init__") (fdOf K (He.ma K (He.ga K "Mismatch") "__init__")) ["self"] (spErr (He.ga K "Mismatch") "Mismatch" []) := by
  refine F.d_Mismatch_init.ok sc_Mismatch_init (fun vs H Q E h => by obtain ⟨a, ws, rfl, hl, _⟩ := h; simpa using hl) fun cdv A outer s H vs Q E hr h => ⟨_, (pss_cons (ps_expr (pe_bsinit rfl F.g_StrideError F.base (pa_cons (pe_var (i := 0) rfl (.inl rfl)) (pa_cons pe_str pa_nil)))) (pss_one (ps_osE .ve (pe_var (i := 0) rfl (.inl rfl)) pe_str))), ?_⟩
  exact err_read0 F.e_Mismatch.C h rfl
def s_Aplaces : GS := fun ds k _ => ∃ a, ds = [arr a] ∧ k (.lst (dints a))
theorem mn_Aplaces : MnS s_Aplaces := fun ds k k' e e' h1 _ ⟨a, h, q⟩ => ⟨a, h, h1 _ q⟩
theorem okF_Arrow_places (F : Facts K mg) : FnOk P w K mg base (L2.CX P w) 2 (He.ma K (He.ga K "Arrow") "places") (fdOf K (He.ma K (He.ga K "Arrow") "places")) ["self"] (liftF K s_Aplaces) := by
  refine okF F.d_Arrow_places sc_Arrow_places (fun ds k e h => by obtain ⟨a, rfl, _⟩ := h; rfl) fun cdv A outer s0 H E b eo hr Z => ⟨_, dssF_one (dsF_ret (df_list rfl F.n_list (de_fld (c := "Arrow") (NS := ["own_places", "size"]) (i := 0) (de_var 0) F.c_Arrow F.a_Arrow_own_places (by decide)))), fun ds k h => ?_⟩
  obtain ⟨a, rfl, hk⟩ := h
  exact ⟨rfl, rfl, hk⟩
theorem ok_Arrow_places (F : Facts K mg) : FnOk P w K mg base (L2.CX P w) 2 (He.ma K (He.ga K "Arrow") "places") (fdOf K (He.ma K (He.ga K "Arrow") "places")) ["self"] (lift K s_Aplaces) := FnOk.ofF mn_Aplaces (okF_Arrow_places F) (fun ds k e ⟨a, h, q⟩ => ⟨a, h, _, rfl, q⟩)
theorem sr_Aplaces {a : List Int} : SR s_Aplaces [arr a] (.lst (dints a)) := .mk fun k e q => ⟨a, rfl, q⟩
local macro_rules
  | `(tactic| exists $i:ident) => match i.getId.eraseMacroScopes with
    | `es => `(tactic| ((with_reducible (first | apply sr_is_number | apply sri_Rinit | apply sr_lover | apply sr_mrows | apply sri_Linit | apply sr_pair | apply sr_Req_r | apply sr_Req_i | apply sr_Req_o | apply sr_Radd_r | apply sr_Radd_i | apply sr_Rmul_r | apply sr_Rmul_i | apply sr_Ldir | apply sr_gcd | apply sr_ldirs | apply sr_low | apply sr_lpart | apply sr_lpartI | apply sr_lpairs | apply sr_ldot | apply sr_llen | apply sri_Ainit | apply sr_arrow | apply sr_Aplaces))))
    | _ => Lean.Macro.throwUnsupported
theorem fc_Arrow_places_0 (F : Facts K mg) : FnC P w K mg base 2 (He.ma K (He.ga K "Arrow") "places") [] (lift K s_Aplaces) := FnOk.c0 (ok_Arrow_places F) (F.d_Arrow_places.bindsN fun _ _ _ _ _ _ us hl => match us, hl with | [_], _ => rfl)
theorem sumO_from {b : Int} (hb : 0 < b) (zb : Sz 900 b) (M : Nat) : ∀ {xs : List Int} {acc : Int}, (∀ x ∈ xs, x.natAbs ≤ M) → acc.natAbs + M * xs.length < 2 ^ 1000 → SumR "Ratio" s_Radd s_Radd (ratO b acc) (xs.map (ratO b)) (ratO b (acc + xs.sum))
  | [], acc, _, _ => ⟨fun k q => by
    rw [show acc + ([] : List Int).sum = acc by simp] at q
    exact q⟩
  | x :: r, acc, h, z => by
    have hx := h x List.mem_cons_self
    rw [List.length_cons, Nat.mul_succ] at z
    have za : OkO b acc := ⟨hb, zb, by unfold Sz; omega⟩
    have zx : OkO b x := ⟨hb, zb, by unfold Sz; omega⟩
    refine ⟨fun k q => ⟨rfl, rfl, (sr_addO za zx).run _ _ ⟨trivial, (sumO_from hb zb M (xs := r) (acc := acc + x) (fun y hy => h y (List.mem_cons_of_mem _ hy)) (by omega)).run k ?_⟩⟩⟩
    rw [Int.add_assoc, ← List.sum_cons]
    exact q
theorem sumO {b : Int} (hb : 0 < b) (zb : Sz 900 b) (M : Nat) {xs : List Int} (h0 : xs ≠ []) (h : ∀ x ∈ xs, x.natAbs ≤ M) (z : M * xs.length < 2 ^ 1000) : SumR "Ratio" s_Radd s_Radd (.int 0) (xs.map (ratO b)) (ratO b xs.sum) := by
  cases xs with
  | nil => exact absurd rfl h0
  | cons x r =>
    have hx := h x List.mem_cons_self
    rw [List.length_cons, Nat.mul_succ] at z
    have zx : OkO b x := ⟨hb, zb, by unfold Sz; omega⟩
    refine ⟨fun k q => ⟨rfl, (sr_raddO zx).run _ _ ⟨trivial, (sumO_from hb zb M (xs := r) (acc := x) (fun y hy => h y (List.mem_cons_of_mem _ hy)) (by omega)).run k ?_⟩⟩⟩
    rw [← List.sum_cons]
    exact q
theorem ins_ratO {b : Int} {xs : List Int} : ∀ d ∈ xs.map (ratO b), insD d := fun d hd => by
  obtain ⟨x, _, rfl⟩ := List.mem_map.mp hd
  trivial
theorem Sms.abs {n : Nat} {l : List Int} (h : Sms n l) : ∀ x ∈ l, x.natAbs ≤ 2 ^ n := fun x hx => Nat.le_of_lt (h x hx)
theorem pow_mul_len {n m c : Nat} (h : c ≤ 2 ^ m) (h2 : n + m < 1000) : 2 ^ n * c < 2 ^ 1000 :=
  Nat.lt_of_le_of_lt (Nat.mul_le_mul_left _ h) (by rw [← Nat.pow_add]; exact Nat.pow_lt_pow_right (by decide) h2)
def s_dotR : GS := fun ds k _ => ∃ b r a, ds = [rowO b r, .lst (dints a)] ∧ 0 < b ∧ Sz 900 b ∧ r ≠ [] ∧ r.length = a.length ∧ r.length ≤ 1000 ∧ Sms 400 r ∧ Sms 400 a ∧ k (ratO b (dotI r a))
theorem mn_dotR : MnS s_dotR := fun ds k k' e e' h1 _ ⟨b, r, a, h, h2, h3, h4, h5, h6, h7, h8, q⟩ => ⟨b, r, a, h, h2, h3, h4, h5, h6, h7, h8, h1 _ q⟩
theorem pairs_map {f g : Int → D} : ∀ a b : List Int, pairsD (a.map f) (b.map g) = (a.zip b).map fun p => D.tup [f p.1, g p.2]
  | [], _ => rfl
  | _ :: _, [] => rfl
  | x :: a, y :: b => by
    show D.tup [f x, g y] :: pairsD (a.map f) (b.map g) = _
    rw [pairs_map a b]; rfl
theorem ok_dot (F : Facts K mg) : FnOk P w K mg base (L2.CX P w) 9 (He.ga K "dot") (fdOf K (He.ga K "dot")) ["row", "other"] (lift K s_dotR) := by
  refine okD F.d_dot sc_dot (fun ds k e h => by obtain ⟨b, r, a, rfl, _⟩ := h; rfl) fun cdv A outer s0 H E b eo hr Z => ⟨_, dss_one (ds_ret (DE.dt (de_sumO (k := 7) (c := "Ratio") (de_lc rfl sc_dot.nd (own := [("one", 2), ("two", 3)]) (di_zipA (de_var 0) (de_var 1) rfl F.n_zip) (blk_ok (N := ["row", "other", "one", "two"]) (by kernel_rfl)) (fun _ _ _ _ _ => dg_tup rfl (dgs_cons (dg_name (i := 2) sc_dot.nd rfl (.inl rfl)) (dgs_cons (dg_name (i := 3) sc_dot.nd rfl (.inl rfl)) (dgs_nil)))) (fun _ _ _ _ _ => dts_nil) (fun _ _ _ _ _ => de_binO (c := "Ratio") (de_var 2) (de_var 3) F.o_Ratio_mul (ok_Ratio_mul F) mn_Rmul (hr.mono (by decide)) (bi_Ratio_mul F) cz_none)) F.o_Ratio_add F.r_Ratio_add ((ok_Ratio_add F).mono (by decide)) ((ok_Ratio_radd F).mono (by decide)) mn_Radd mn_Radd (hr.mono (by decide)) (bi_Ratio_add F) (bi_Ratio_radd F) rfl F.n_sum rfl))), fun ds k h => ?_⟩
  obtain ⟨bo, r, a, rfl, b0, zb, r0, hl, h9, zr, za, hk⟩ := h
  suffices z : Stp _ from z.run
  show Stp (gRet _ _ [SD.sh (.tup (r.map (ratO bo))), SD.sh (.lst (dints a)), SD.unset, SD.unset])
  have zz : ∀ p ∈ r.zip a, OkO bo p.1 ∧ Sz 1000 p.2 := fun p hp => ⟨⟨b0, zb, (zr p.1 (List.of_mem_zip hp).1).mono (by decide)⟩, (za p.2 (List.of_mem_zip hp).2).mono (by decide)⟩
  with_reducible apply s_ret (d := ratO bo (dotI r a))
  · refine ev_sumO (ds := ((r.zip a).map fun p => p.1 * p.2).map (ratO bo)) ?_ ins_ratO ?_
    · refine (ev_lc (l := r.zip a) (gg := fun p => D.tup [ratO bo p.1, .int p.2]) (f := fun p => ratO bo (p.1 * p.2)) (evi_zip (ev_var rfl) itr_T (ev_var rfl) itr_L) (pairs_map r a) (fun p hp => aev2 ?_) ?_).eq ?_
      · exact ev_own2 (ev_var rfl) (ev_var rfl) (ow2_int (sr_mulO (zz p hp).1 (zz p hp).2))
      · rw [List.length_zip]; omega
      · rw [List.map_map]; rfl
    · refine sumO b0 zb (2 ^ 800) ?_ (fun x hx => ?_) (pow_mul_len (m := 20) (by rw [List.length_map, List.length_zip]; omega) (by decide))
      · cases r with
        | nil => exact absurd rfl r0
        | cons x r => cases a with
          | nil => cases hl
          | cons y a => intro h; cases h
      · obtain ⟨p, hp, rfl⟩ := List.mem_map.mp hx
        exact Nat.le_of_lt ((zr p.1 (List.of_mem_zip hp).1).mul (za p.2 (List.of_mem_zip hp).2))
  · exact ⟨hk⟩
theorem sr_dotR {b : Int} {r a : List Int} (b0 : 0 < b) (zb : Sz 900 b) (r0 : r ≠ []) (hl : r.length = a.length) (h9 : r.length ≤ 1000) (zr : Sms 400 r) (za : Sms 400 a) : SR s_dotR [rowO b r, .lst (dints a)] (ratO b (dotI r a)) := .mk fun k e q => ⟨b, r, a, rfl, b0, zb, r0, hl, h9, zr, za, q⟩
local macro_rules
  | `(tactic| exists $i:ident) => match i.getId.eraseMacroScopes with
    | `es => `(tactic| ((with_reducible (first | apply sr_is_number | apply sri_Rinit | apply sr_lover | apply sr_mrows | apply sri_Linit | apply sr_pair | apply sr_Req_r | apply sr_Req_i | apply sr_Req_o | apply sr_Radd_r | apply sr_Radd_i | apply sr_Rmul_r | apply sr_Rmul_i | apply sr_Ldir | apply sr_gcd | apply sr_ldirs | apply sr_low | apply sr_lpart | apply sr_lpartI | apply sr_lpairs | apply sr_ldot | apply sr_llen | apply sri_Ainit | apply sr_arrow | apply sr_Aplaces | apply sr_dotR))))
    | _ => Lean.Macro.throwUnsupported
theorem fc_dot_2 (F : Facts K mg) : FnC P w K mg base 9 (He.ga K "dot") [] (lift K s_dotR) := FnOk.c0 (ok_dot F) (F.d_dot.bindsN fun _ _ _ _ _ _ us hl => match us, hl with | [_, _], _ => rfl)
def s_MprodLines : GS := fun ds k e => ∃ b n rows a, ds = [linesD b n rows, arr a] ∧ MOk b n rows ∧ Sms 400 a ∧ ((a.length = n ∧ k (.lst ((prodsI rows a).map (ratO b)))) ∨ (a.length ≠ n ∧ e (errX "Mismatch" "Mismatch" [] [])))
theorem mn_MprodLines : MnS s_MprodLines := fun ds k k' e e' h1 h2 ⟨b, n, rows, a, h, g1, g2, q⟩ => ⟨b, n, rows, a, h, g1, g2, q.imp (fun z => ⟨z.1, h1 _ z.2⟩) (fun z => ⟨z.1, h2 _ z.2⟩)⟩
theorem ok_Measure_products_Lines (F : Facts K mg) : FnOk P w K mg base (L2.CX P w) 10 (He.ma K (He.ga K "Measure") "products") (fdOf K (He.ma K (He.ga K "Measure") "products")) ["self", "arrow"] (lift K s_MprodLines) := by
  refine okD F.d_Measure_products_Lines sc_Measure_products_Lines (fun ds k e h => by obtain ⟨b, n, rows, a, rfl, _⟩ := h; rfl) fun cdv A outer s0 H E b eo hr Z => ⟨_, dss_cons (ds_if (db_neA hr (DE.dt (de_fld (c := "Arrow") (NS := ["own_places", "size"]) (i := 1) (de_var 1) F.c_Arrow F.a_Arrow_size (by decide))) (DE.dt (de_fld (c := "Lines") (NS := ["size", "own_rows"]) (i := 0) (de_var 0) F.c_Lines F.a_Lines_size (by decide)))) (dss_one (ds_raise0 (takes_of rfl rfl rfl rfl) Z rfl F.e_Mismatch (ok_Mismatch_init F) (hr.mono (by decide)) (bi_Mismatch_init F) .nil (fun _ _ => Reps.nil) (passes_call (takes_of rfl rfl rfl rfl) fun _ _ _ _ z => z.elim) rfl F.g_Mismatch)) (dss_nil))
    (dss_one (ds_ret (DE.dt (de_lc rfl sc_Measure_products_Lines.nd (own := [("row", 2)]) (di_seq (de_fld (c := "Lines") (NS := ["size", "own_rows"]) (i := 1) (de_var 0) F.c_Lines F.a_Lines_own_rows (by decide))) (blk_ok (N := ["self", "arrow", "row"]) (by kernel_rfl)) (fun _ _ _ _ _ => dg_name (i := 2) sc_Measure_products_Lines.nd rfl (.inl rfl)) (fun _ _ _ _ _ => dts_nil) (fun _ _ _ _ _ => de_binO (c := "Ratio") (de_ca (fc_dot_2 F) mn_dotR (hr.mono (by decide)) F.g_dot F.d_dot.kp cz_none (dca_pos (da_cons (de_var 2) (da_cons (de_mc (c := "Arrow") (de_var 1) F.c_Arrow F.m_Arrow_places (fc_Arrow_places_0 F) mn_Aplaces (hr.mono (by decide)) cz_none dca_nil) (da_nil))))) (de_mk F.k_Ratio (fc_Ratio_init_1 F) (shpI_mn mn_Rinit) (hr.mono (by decide)) F.g_Ratio cz_none (dca_pos (da_cons (de_int) (da_nil)))) F.o_Ratio_add (ok_Ratio_add F) mn_Radd (hr.mono (by decide)) (bi_Ratio_add F) cz_none))))), fun ds k h => ?_⟩
  obtain ⟨b, n, rows, a, rfl, mo, za, h⟩ := h
  suffices z : Stp _ from z.run
  show Stp (gSeq _ _ _ [SD.sh (linesD b n rows), SD.sh (arr a), SD.unset])
  rcases h with ⟨hn, hk⟩ | ⟨hn, he⟩
  · exists nx; (with_reducible first | apply s_ifFN | apply s_ifLFN); exists ev
    · rw [hn]; simp
    with_reducible apply s_ret (d := .lst ((prodsI rows a).map (ratO b)))
    · refine (ev_lc (l := rows) (gg := rowO b) (f := fun r => ratO b (dotI r a)) (evi_it (ev_fld (ev_var rfl) rfl) itr_L) rfl (fun r hr => aev1 ?_) (Nat.le_trans mo.few (by decide))).eq ?_
      · obtain ⟨h1, h2⟩ := mo.row r hr
        have n1 := mo.n1
        have n4 := mo.n4
        have hd := (Sz.dot h2 za).mono (m := 1000) (by omega)
        refine ev_own2 (ev_ca (eva_cons (ev_var rfl) (eva_cons (ev_mc (ev_var rfl) (by decide) eva_nil sr_Aplaces) eva_nil)) (sr_dotR mo.pos mo.zb (fun z => by rw [z] at h1; simp at h1; omega) (by omega) (by omega) h2 za)) ev_zero (ow_zero ⟨mo.pos, mo.zb, hd⟩)
      · show D.lst _ = D.lst _
        unfold prodsI
        rw [List.map_map]; rfl
    · exact ⟨hk⟩
  · exists nx; (with_reducible first | apply s_ifT | apply s_ifLT); exists ev
    · have : ((a.length : Int) == (n : Int)) = false := beq_eq_false_iff_ne.mpr (by omega)
      rw [this]; rfl
    exists nx; (with_reducible first | apply s_raise | apply s_raiseS); exists ev; (try exact rfl); (try exact Nat.le_of_ble_eq_true rfl)
    exact ⟨he⟩
theorem sr_MprodLines {b : Int} {n : Nat} {rows : List (List Int)} {a : List Int} (mo : MOk b n rows) (za : Sms 400 a) (h : a.length = n) : SR s_MprodLines [linesD b n rows, arr a] (.lst ((prodsI rows a).map (ratO b))) := .mk fun k e q => ⟨b, n, rows, a, rfl, mo, za, .inl ⟨h, q⟩⟩
theorem sx_MprodLines {b : Int} {n : Nat} {rows : List (List Int)} {a : List Int} (mo : MOk b n rows) (za : Sms 400 a) (h : a.length ≠ n) : SX s_MprodLines [linesD b n rows, arr a] (errX "Mismatch" "Mismatch" [] []) := .mk fun k e q => ⟨b, n, rows, a, rfl, mo, za, .inr ⟨h, q⟩⟩
local macro_rules
  | `(tactic| exists $i:ident) => match i.getId.eraseMacroScopes with
    | `es => `(tactic| ((with_reducible (first | apply sr_is_number | apply sri_Rinit | apply sr_lover | apply sr_mrows | apply sri_Linit | apply sr_pair | apply sr_Req_r | apply sr_Req_i | apply sr_Req_o | apply sr_Radd_r | apply sr_Radd_i | apply sr_Rmul_r | apply sr_Rmul_i | apply sr_Ldir | apply sr_gcd | apply sr_ldirs | apply sr_low | apply sr_lpart | apply sr_lpartI | apply sr_lpairs | apply sr_ldot | apply sr_llen | apply sri_Ainit | apply sr_arrow | apply sr_Aplaces | apply sr_dotR | apply sr_MprodLines))))
    | _ => Lean.Macro.throwUnsupported
theorem fc_Measure_products_Lines_1 (F : Facts K mg) : FnC P w K mg base 10 (He.ma K (He.ga K "Measure") "products") [] (lift K s_MprodLines) := FnOk.c0 (ok_Measure_products_Lines F) (F.d_Measure_products_Lines.bindsN fun _ _ _ _ _ _ us hl => match us, hl with | [_, _], _ => rfl)
def s_Rabs : GS := fun ds k _ => ∃ p q, ds = [rat p q] ∧ Red p q ∧ Sz 4000 q ∧ k (rat (if p < 0 then -p else p) q)
theorem mn_Rabs : MnS s_Rabs := fun ds k k' e e' h1 _ ⟨p, q, h, g1, g2, z⟩ => ⟨p, q, h, g1, g2, h1 _ z⟩
theorem ok_Ratio_abs (F : Facts K mg) : FnOk P w K mg base (L2.CX P w) 5 (He.ma K (He.ga K "Ratio") "__abs__") (fdOf K (He.ma K (He.ga K "Ratio") "__abs__")) ["self"] (lift K s_Rabs) := by
  refine okD F.d_Ratio_abs sc_Ratio_abs (fun ds k e h => by obtain ⟨p, q, rfl, _⟩ := h; rfl) fun cdv A outer s0 H E b eo hr Z => ⟨_, dss_one (ds_ret (DE.dt (de_mk F.k_Ratio (fc_Ratio_init_2 F) (shpI_mn mn_Rinit) (hr.mono (by decide)) F.g_Ratio Z (dca_pos (da_cons (de_callB call_abs cl_abs rfl F.n_abs rfl (DE.dt (de_fld (c := "Ratio") (NS := ["top", "bottom"]) (i := 0) (de_var 0) F.c_Ratio F.a_Ratio_top (by decide)))) (da_cons (de_fld (c := "Ratio") (NS := ["top", "bottom"]) (i := 1) (de_var 0) F.c_Ratio F.a_Ratio_bottom (by decide)) (da_nil))))))), fun ds k h => ?_⟩
  obtain ⟨p, q, rfl, hr, hq, hk⟩ := h
  refine ⟨rfl, rfl, rfl, rfl, rfl, Rinit_ok (by have := hr.1; omega) hq ?_⟩
  rw [hr.abs.low]
  exact hk
theorem sr_Rabs {p q : Int} (h : Red p q) (hq : Sz 4000 q) : SR s_Rabs [rat p q] (rat (if p < 0 then -p else p) q) := .mk fun k e z => ⟨p, q, rfl, h, hq, z⟩
local macro_rules
  | `(tactic| exists $i:ident) => match i.getId.eraseMacroScopes with
    | `es => `(tactic| ((with_reducible (first | apply sr_is_number | apply sri_Rinit | apply sr_lover | apply sr_mrows | apply sri_Linit | apply sr_pair | apply sr_Req_r | apply sr_Req_i | apply sr_Req_o | apply sr_Radd_r | apply sr_Radd_i | apply sr_Rmul_r | apply sr_Rmul_i | apply sr_Ldir | apply sr_gcd | apply sr_ldirs | apply sr_low | apply sr_lpart | apply sr_lpartI | apply sr_lpairs | apply sr_ldot | apply sr_llen | apply sri_Ainit | apply sr_arrow | apply sr_Aplaces | apply sr_dotR | apply sr_MprodLines | apply sr_Rabs))))
    | _ => Lean.Macro.throwUnsupported
theorem sr_absO {b m : Int} (h1 : OkO b m) : SR s_Rabs [ratO b m] (ratO b (absI m)) := by
  obtain ⟨q1, z1, z2⟩ := h1.q
  have := sr_Rabs (low_red (a := m) h1.pos) (z2.mono (by decide))
  rwa [pairRat (low_abs h1.pos)] at this
def s_Llen : GS := fun ds k e => ∃ b n rows a, ds = [linesD b n rows, arr a] ∧ MOk b n rows ∧ Sms 400 a ∧ ((a.length = n ∧ k (ratO b (lenL rows a))) ∨ (a.length ≠ n ∧ e (errX "Mismatch" "Mismatch" [] [])))
theorem mn_Llen : MnS s_Llen := fun ds k k' e e' h1 h2 ⟨b, n, rows, a, h, g1, g3, q⟩ => ⟨b, n, rows, a, h, g1, g3, q.imp (fun z => ⟨z.1, h1 _ z.2⟩) (fun z => ⟨z.1, h2 _ z.2⟩)⟩
theorem lenL_sz {b : Int} {n : Nat} {rows : List (List Int)} {a : List Int} (mo : MOk b n rows) (za : Sms 400 a) : Sz 900 (lenL rows a) := by
  have key : ∀ l : List Int, (∀ x ∈ l, Sz 810 x) → (l.map absI).sum.natAbs ≤ 2 ^ 810 * l.length := by
    intro l
    induction l with
    | nil => intro _; simp
    | cons x r ih =>
      intro h
      have h1 := sz_abs (h x List.mem_cons_self)
      have h2 := ih fun y hy => h y (List.mem_cons_of_mem _ hy)
      unfold Sz at h1
      rw [List.map_cons, List.sum_cons, List.length_cons, Nat.mul_succ]
      omega
  have h := key _ (mo.dot za)
  have hl : (prodsI rows a).length ≤ 2 ^ 20 := by
    have := mo.few
    unfold prodsI
    rw [List.length_map]
    omega
  unfold Sz
  refine Nat.lt_of_le_of_lt h (Nat.lt_of_le_of_lt (Nat.mul_le_mul_left _ hl) ?_)
  rw [← Nat.pow_add]
  exact Nat.pow_lt_pow_right (by decide) (by decide)
theorem ok_Lines_length (F : Facts K mg) : FnOk P w K mg base (L2.CX P w) 11 (He.ma K (He.ga K "Lines") "length") (fdOf K (He.ma K (He.ga K "Lines") "length")) ["self", "arrow"] (lift K s_Llen) := by
  refine okD F.d_Lines_length sc_Lines_length (fun ds k e h => by obtain ⟨b, n, rows, a, rfl, _⟩ := h; rfl) fun cdv A outer s0 H E b eo hr Z => ⟨_, dss_one (ds_ret (DE.dt (DE.or (de_binO (c := "Ratio") (de_sumO (k := 7) (c := "Ratio") (de_lc rfl sc_Lines_length.nd (own := [("one", 2)]) (di_seq (de_mc (c := "Lines") (de_var 0) F.c_Lines F.mi_Lines_products (fc_Measure_products_Lines_1 F) mn_MprodLines (hr.mono (by decide)) Z (dca_pos (da_cons (de_var 1) (da_nil))))) (blk_ok (N := ["self", "arrow", "one"]) (by kernel_rfl)) (fun _ _ _ _ _ => dg_name (i := 2) sc_Lines_length.nd rfl (.inl rfl)) (fun _ _ _ _ _ => dts_nil) (fun _ _ _ _ _ => de_absO (c := "Ratio") rfl F.n_abs (de_var 2) F.o_Ratio_abs (ok_Ratio_abs F) mn_Rabs (hr.mono (by decide)) (bi_Ratio_abs F) cz_none)) F.o_Ratio_add F.r_Ratio_add ((ok_Ratio_add F).mono (by decide)) ((ok_Ratio_radd F).mono (by decide)) mn_Radd mn_Radd (hr.mono (by decide)) (bi_Ratio_add F) (bi_Ratio_radd F) rfl F.n_sum rfl) (de_mk F.k_Ratio (fc_Ratio_init_1 F) (shpI_mn mn_Rinit) (hr.mono (by decide)) F.g_Ratio Z (dca_pos (da_cons (de_int) (da_nil)))) F.o_Ratio_add (ok_Ratio_add F) mn_Radd (hr.mono (by decide)) (bi_Ratio_add F) cz_none) (de_binR (c := "Ratio") refAdd (de_sumO (k := 7) (c := "Ratio") (de_lc rfl sc_Lines_length.nd (own := [("one", 2)]) (di_seq (de_mc (c := "Lines") (de_var 0) F.c_Lines F.mi_Lines_products (fc_Measure_products_Lines_1 F) mn_MprodLines (hr.mono (by decide)) Z (dca_pos (da_cons (de_var 1) (da_nil))))) (blk_ok (N := ["self", "arrow", "one"]) (by kernel_rfl)) (fun _ _ _ _ _ => dg_name (i := 2) sc_Lines_length.nd rfl (.inl rfl)) (fun _ _ _ _ _ => dts_nil) (fun _ _ _ _ _ => de_absO (c := "Ratio") rfl F.n_abs (de_var 2) F.o_Ratio_abs (ok_Ratio_abs F) mn_Rabs (hr.mono (by decide)) (bi_Ratio_abs F) cz_none)) F.o_Ratio_add F.r_Ratio_add ((ok_Ratio_add F).mono (by decide)) ((ok_Ratio_radd F).mono (by decide)) mn_Radd mn_Radd (hr.mono (by decide)) (bi_Ratio_add F) (bi_Ratio_radd F) rfl F.n_sum rfl) (de_mk F.k_Ratio (fc_Ratio_init_1 F) (shpI_mn mn_Rinit) (hr.mono (by decide)) F.g_Ratio Z (dca_pos (da_cons (de_int) (da_nil)))) F.r_Ratio_add (ok_Ratio_radd F) mn_Radd (hr.mono (by decide)) (bi_Ratio_radd F) cz_none)))), fun ds k h => ?_⟩
  obtain ⟨bo, n, rows, a, rfl, mo, za, h⟩ := h
  suffices z : Stp _ from z.run
  show Stp (gRet _ _ [SD.sh (linesD bo n rows), SD.sh (arr a), SD.unset])
  rcases h with ⟨hn, hk⟩ | ⟨hn, he⟩
  · have ok := mo.okO za
    have zl := lenL_sz mo za
    have A : ∀ σ : StD, σ = [SD.sh (linesD bo n rows), SD.sh (arr a), SD.unset] → Ev (gLc (gIt (gMc "Lines" "products" s_MprodLines eo (gVar 0) (gCons (gVar 1) gNil))) (.nm 2) gYes (gOwn1 "Ratio" s_Rabs (fun _ => False) (gVar 2)) [2]) σ (.lst (((prodsI rows a).map absI).map (ratO bo))) := fun σ e => by
      subst e
      refine (ev_lc (l := prodsI rows a) (gg := ratO bo) (f := fun x => ratO bo (absI x)) (evi_it (ev_mc (ev_var rfl) (by decide) (eva_cons (ev_var rfl) eva_nil) (sr_MprodLines mo za hn)) itr_L) rfl (fun x hx => aev1 (ev_own1 (ev_var rfl) (sr_absO (ok x hx)))) (by unfold prodsI; rw [List.length_map]; have := mo.few; omega)).eq ?_
      rw [List.map_map]; rfl
    with_reducible apply s_ret (d := ratO bo (lenL rows a))
    · by_cases c : prodsI rows a = []
      · have e0 : lenL rows a = 0 := by unfold lenL; rw [c]; rfl
        rw [e0]
        have z0 := sr_raddO (b := bo) (m := 0) ⟨mo.pos, mo.zb, szW (by decide)⟩
        rw [← rat0 mo.pos] at z0 ⊢
        exact ev_orR (ev_ownR (i := 0) (ev_sumO (A _ rfl) ins_ratO ⟨fun k q => by rw [c]; exact q⟩) ev_zero z0)
      · refine ev_orL (ev_own2 (ev_sumO (A _ rfl) ins_ratO (sumO mo.pos mo.zb (2 ^ 810) (by simpa using c) (fun x hx => ?_) (pow_mul_len (m := 20) (by unfold prodsI; rw [List.length_map, List.length_map]; have := mo.few; omega) (by decide)))) ev_zero (ow_zero ⟨mo.pos, mo.zb, zl.mono (by decide)⟩))
        obtain ⟨y, hy, rfl⟩ := List.mem_map.mp hx
        exact Nat.le_of_lt (sz_abs (mo.dot za y hy))
    · exact ⟨hk⟩
  · have X : EvX eo (gMc "Lines" "products" s_MprodLines eo (gVar 0) (DL.gCons (gVar 1) DL.gNil)) [SD.sh (linesD bo n rows), SD.sh (arr a), SD.unset] (errX "Mismatch" "Mismatch" [] []) := evx_mc (ev_var rfl) (by decide) (eva_cons (ev_var rfl) eva_nil) (sx_MprodLines mo za hn)
    exact ⟨.inl (X.run _ he)⟩
theorem sr_Llen {b : Int} {n : Nat} {rows : List (List Int)} {a : List Int} (mo : MOk b n rows) (za : Sms 400 a) (h : a.length = n) : SR s_Llen [linesD b n rows, arr a] (ratO b (lenL rows a)) := .mk fun k e q => ⟨b, n, rows, a, rfl, mo, za, .inl ⟨h, q⟩⟩
local macro_rules
  | `(tactic| exists $i:ident) => match i.getId.eraseMacroScopes with
    | `es => `(tactic| ((with_reducible (first | apply sr_is_number | apply sri_Rinit | apply sr_lover | apply sr_mrows | apply sri_Linit | apply sr_pair | apply sr_Req_r | apply sr_Req_i | apply sr_Req_o | apply sr_Radd_r | apply sr_Radd_i | apply sr_Rmul_r | apply sr_Rmul_i | apply sr_Ldir | apply sr_gcd | apply sr_ldirs | apply sr_low | apply sr_lpart | apply sr_lpartI | apply sr_lpairs | apply sr_ldot | apply sr_llen | apply sri_Ainit | apply sr_arrow | apply sr_Aplaces | apply sr_dotR | apply sr_MprodLines | apply sr_Rabs | apply sr_Llen))))
    | _ => Lean.Macro.throwUnsupported
theorem fc_Lines_length_1 (F : Facts K mg) : FnC P w K mg base 11 (He.ma K (He.ga K "Lines") "length") [] (lift K s_Llen) := FnOk.c0 (ok_Lines_length F) (F.d_Lines_length.bindsN fun _ _ _ _ _ _ us hl => match us, hl with | [_, _], _ => rfl)
end LK
/-! DM4 -/
set_option Elab.async false
set_option linter.all false
set_option maxRecDepth 100000
set_option maxHeartbeats 4000000
/-! More steps for the reading of a law. -/
namespace DL
open PySem PySem.Spec PyProof.Rows L2
variable [TabC]
section
variable {σ : StD} {k : D → Prop} {i j : Int} {ge : GE} {gl gh : StD → (Option Int → Prop) → Prop}
theorem c_pow (h1 : 0 ≤ j) (h2 : j ≤ 1000000) (h3 : i.natAbs < 2 ^ 64) (h : Stp (k (.int (i ^ j.toNat)))) : Stp (dPow (.int i) (.int j) k) := ⟨⟨⟨h1, h2, h3⟩, h.run⟩⟩
theorem Sms.get {n : Nat} {x : Int} {l : List Int} (h : Sms n l) (m : x ∈ l) : Sz n x := h x m
theorem o_eqL {l m : List Int} : O2 (dEqA false) (.lst (dints l)) (.lst (dints m)) (.bl (l == m)) := .mk fun k q => dEqA_lints q
theorem o_eqTu {l m : List Int} : O2 (dEqA false) (.tup (dints l)) (.tup (dints m)) (.bl (l == m)) := .mk fun k q => dEqA_tints q
end
end DL
/-! K16L -/
set_option Elab.async false
set_option linter.all false
set_option maxRecDepth 100000
set_option maxHeartbeats 0
namespace LK
open PySem PySem.Spec PyProof.Rows L2 DL
variable [TabC]
variable {w : World} {K : Fg} {mg : Str → Option Value} {base : Heap}
local macro_rules
  | `(tactic| exists $i:ident) => match i.getId.eraseMacroScopes with
    | `pt => `(tactic| ((focus (repeat' first | with_reducible exact pt0 | with_reducible apply pts | with_reducible intro _))))
    | `nx => `(tactic| ((first | (with_reducible show Stp _) | refine Stp.run ?_); (try with_reducible refine nx_mk ?_)))
    | `st => `(tactic| ((focus (repeat' first | with_reducible exact pt0 | with_reducible apply pts | with_reducible apply ns_put | with_reducible apply ns_wipe | with_reducible apply ns_wipe0 | with_reducible exact ns_id))))
    | `ass => `(tactic| ((with_reducible first | apply as1 | apply as2 | apply as3 | apply as2l | apply as3l); (repeat' first | with_reducible exact pt0 | with_reducible apply pts | with_reducible apply ns_put | with_reducible apply ns_wipe | with_reducible apply ns_wipe0 | with_reducible exact ns_id)))
    | `sd => `(tactic| ((try (show (_ : Prop); (fail_if_success (with_reducible show Ev _ _ _)); first | ((with_reducible apply sle); first | (simp only [str_len2]; omega) | with_reducible assumption | omega | decide) | ((fail_if_success (with_reducible apply sle)); first | assumption | ((with_reducible refine And.intro ?_ ?_) <;> omega) | ((fail_if_success (with_reducible refine And.intro ?_ ?_)); first | rfl | exact List.cons_ne_nil _ _ | exact Nat.le_of_ble_eq_true rfl | decide | omega | exact MulOk.right (by omega) | exact MulOk.left (by omega) | exact MulOk.of (by assumption) (by assumption) (by decide) | exact Sz.mono (by assumption) (by decide) | exact szLog (by assumption) | exact szLog (Sms.get (by assumption) (by assumption)) | exact szW (by decide) | (simp only [List.length_map, List.length_cons, List.length_nil, List.length_append, List.length_reverse]; omega)))))))
    | `ea => `(tactic| (first | ((with_reducible apply ev_var); exact rfl) | with_reducible exact ev_c | (with_reducible (first | apply ev_repF | apply ev_repT | apply ev_g2 | apply ev_g1 | apply eva_cons | apply ev_tup | apply ev_lst | apply evt_B | apply evt_and | apply evt_or | apply evt_not | apply ev_if | apply ev_isi | apply ev_isN | apply ev_fld | apply ev_ca | apply ev_mc | apply ev_ci | apply ev_con | apply ev_mk | apply ev_own1 | apply ev_own2 | apply ev_ownR | apply ev_ownQ | apply ev_ownN | apply ev_ownE | apply ev_ownEN | apply ev_ownS | apply ev_ownB | apply ev_join | apply ev_js | apply ev_fmt | apply ev_sl | apply ev_andV | apply ev_orV | apply ev_notV | apply ev_chain | apply ev_cl | apply eva_app | apply eva_star | apply eva_star1 | apply evp_part | apply evi_it | apply evi_LL | apply evi_TT | apply evi_S | apply evi_rng | apply evi_rng2 | apply evi_zip | apply evi_en | apply ev_tm | apply ot_split | apply ot_part | apply o_intS | apply o_ixS | apply o_inL | apply o_inTu | apply o_inT | apply o_pow | apply o_rev | apply o_strI | apply ev_ls | apply o_ninTu | apply o_ixTI | apply sr_shp | apply sri_shp | apply sr_same | apply ow2_own | apply ow2_int | apply fm_S | apply fm_I | apply sl_S | apply aev1 | apply aev2 | apply aev3 | apply aevf1 | apply aevf2 | apply aevf3 | exact eva_nil | exact evt_yes | exact evp_no | exact ev_jsN | exact itr_L | exact itr_T | exact sl_L | exact sl_T | exact jn_eq | exact jn_int | exact jn_str | exact jn_bl | exact jn_tup | exact jn_lst | exact jn_any | exact o_eqI | exact o_neI | exact o_eqS | exact o_neS | exact o_eqB | exact o_neB | exact o_all | exact o_eqT2 | exact o_neT2 | exact o_inS | exact o_ninS | exact o_eqL | exact o_eqTu | exact o_max2 | exact o_tup | exact o_tup2 | exact o_lst | exact o_lst2)) | ((with_reducible apply ev_varT); exact rfl) | ((with_reducible apply ev_varO); exact rfl) | ((with_reducible apply o2_i); exact fun _ q => q) | ((with_reducible apply o2_i); refine fun _ zq_ => ⟨?_, zq_⟩) | ((with_reducible apply o1_i); exact fun _ q => q) | ((with_reducible apply o1_i); refine fun _ zq_ => ⟨?_, zq_⟩) | ((with_reducible apply on_i); exact fun _ q => q) | ((with_reducible apply on_i); refine fun _ zq_ => ⟨?_, zq_⟩) | ((with_reducible apply fi_i); exact rfl) | ((with_reducible apply pk_i); exact rfl) | exact pairs_ints _ _ | ((with_reducible apply mp_i); exact rfl) | with_reducible apply ev_lc | with_reducible apply ev_lcF))
    | `es => `(tactic| (fail))
    | `ev => `(tactic| (focus ((repeat' first | exists ea | exists es | with_reducible intro _) <;> exists sd)))
    | `cps => `(tactic| ((with_reducible first | refine c_asg ?_ | refine c_tgt ?_ | refine c_par ?_ | skip); (repeat first | ((with_reducible apply c_draw); (exact ev_var rfl); (first | (with_reducible exact ev_c) | (focus (exists ev; done))); decide; (exact divW (by decide) (by decide)); intro _ _ _) | ((with_reducible apply c_var); exact rfl) | ((with_reducible apply c_ev); (focus (exists ev; done))) | with_reducible refine c_cons ?_ | with_reducible refine c_tup ?_ | with_reducible refine c_lst ?_ | with_reducible refine c_g2 ?_ | with_reducible refine c_g1 ?_ | with_reducible refine c_app ?_ | with_reducible refine c_addI ?_ | with_reducible refine c_subI ?_ | with_reducible refine c_ca ?_ | with_reducible refine c_mk ?_ | with_reducible refine c_lc1 ?_ | with_reducible refine c_rng2 ?_ | with_reducible refine c_rng3 ?_ | with_reducible refine c_nil ?_ | with_reducible refine c_c ?_ | with_reducible refine c_lc0 ?_ | ((with_reducible first | apply as1 | apply as2 | apply as3 | apply as2l | apply as3l); (repeat' first | with_reducible exact pt0 | with_reducible apply pts | with_reducible apply ns_put | with_reducible apply ns_wipe | with_reducible apply ns_wipe0 | with_reducible exact ns_id)) | ((with_reducible refine c_pow ?_ ?_ ?_ ?_); decide; decide; decide) | (with_reducible refine c_o2 o_eqI ?_) | ((with_reducible refine c_len ?_ ?_); exact rfl) | ((with_reducible refine c_lt ?_ ?_); exact rfl) | ((with_reducible refine c_mulI ?_ ?_); (first | exact MulOk.right (by omega) | exact MulOk.left (by omega)))); (try simp only [List.nil_append, List.cons_append]); (try (with_reducible apply n_st; (focus (repeat' first | with_reducible exact pt0 | with_reducible apply pts | with_reducible apply ns_put | with_reducible apply ns_wipe | with_reducible apply ns_wipe0 | with_reducible exact ns_id))))))
    | `dl => `(tactic| (simp (config := { decide := false }) only [gRet, gRetN, gAndV, gOrV, gNotV, gIsi, gVar, gVarT, gC, gSeq, gNext, gIfS, gAsg, gDrop, gNever, gBreak, gCont, gIf, gAnd, gOr, gNot, gB, g1, g2, DL.gNil, DL.gCons, DL.gTup, DL.gLst, gIsN, dIsN, gPar, gTgt, asg, asgs, gCl, gCall, gCallK, gMeth, gFld, gMake, gJoin, gSl2, gNoP, gPart, gItS, gIt, gItL, gItT, gZip, gRng1, gLc, gRaise, gYes, gChain, dI, dI0, startD, initD, look, put, wipeD, List.map_cons, List.map_nil, List.cons_append, List.nil_append, List.append_nil, List.length_cons, List.length_nil, List.replicate, Nat.zero_add, Nat.add_zero, Nat.sub_self, Nat.reduceAdd, Nat.reduceSub, dAddA, dAddB, dMulA, dLen3, dNeg, true_and, eq_self, gCa, gMc, gMk, gSlA, gZipA, gEnum, gOwn2, gOwnQ, gOwnN, gOwn1, gOwnS, gOwnR, gAsgO, gPsh, gAns, gOwnE, gOwnEN, gOwnB, gJs, gFmt]))
    | _ => Lean.Macro.throwUnsupported
local macro_rules
  | `(tactic| exists $i:ident, (by $t:tacticSeq)) => if i.getId.eraseMacroScopes == `ev then `(tactic| (focus ((repeat' first | ($t:tacticSeq) | exists ea | exists es | with_reducible intro _) <;> exists sd))) else Lean.Macro.throwUnsupported
local macro_rules
  | `(tactic| exists $i:ident) => match i.getId.eraseMacroScopes with
    | `es => `(tactic| ((with_reducible (first | apply sr_is_number | apply sri_Rinit | apply sr_lover | apply sr_mrows | apply sri_Linit | apply sr_pair | apply sr_Req_r | apply sr_Req_i | apply sr_Req_o | apply sr_Radd_r | apply sr_Radd_i | apply sr_Rmul_r | apply sr_Rmul_i | apply sr_Ldir | apply sr_gcd | apply sr_ldirs | apply sr_low | apply sr_lpart | apply sr_lpartI | apply sr_lpairs | apply sr_ldot | apply sr_llen | apply sri_Ainit | apply sr_arrow | apply sr_Aplaces | apply sr_dotR | apply sr_MprodLines | apply sr_Rabs | apply sr_Llen))))
    | _ => Lean.Macro.throwUnsupported
theorem c_places {n m : Int} {k : D → Prop} {e : XD → Prop} (n0 : 0 ≤ n) (n1 : n ≤ 1000) (m0 : 0 ≤ m) (m1 : m < 2 ^ 100) (h : ∀ l : List Int, (l.length : Int) = n → (∀ x ∈ l, -m ≤ x ∧ x ≤ m) → Stp (k (.lst (dints l)))) : Stp (s_places [.bag, .int n, .int m] k e) := ⟨n, m, rfl, n0, n1, m0, m1, fun l a b => (h l a b).run⟩
theorem c_lrows {c n m : Int} {k : D → Prop} {e : XD → Prop} (c0 : 0 ≤ c) (c1 : c ≤ 1000) (n0 : 0 ≤ n) (n1 : n ≤ 1000) (m0 : 0 ≤ m) (m1 : m < 2 ^ 100) (h : ∀ ls : List (List Int), (ls.length : Int) = c → (∀ l ∈ ls, (l.length : Int) = n ∧ ∀ x ∈ l, -m ≤ x ∧ x ≤ m) → Stp (k (.lst (ls.map fun l => .lst (dints l))))) : Stp (s_lrows [.bag, .int c, .int n, .int m] k e) := ⟨⟨c, n, m, rfl, c0, c1, n0, n1, m0, m1, fun ls h1 h2 => (h ls h1 h2).run⟩⟩
theorem sms_of {n : Nat} {m : Int} (hm : decide (m < 2 ^ n) = true) {l : List Int} (h : ∀ x ∈ l, -m ≤ x ∧ x ≤ m) : Sms n l := fun x hx => by
  have h1 := h x hx
  have h2 := of_decide_eq_true hm
  exact Sz.of_lt (by omega) (by omega)
theorem ev_lkP {g : GE} {i : Nat} {σ : StD} {ds : List D} {d : D} {σ' : Addr → StD} (hl : look σ i = .own ds) (p : ∀ a, Pt σ i (.sh (.frl a ds)) (σ' a)) (h : ∀ a, Ev g (σ' a) d) (n : noL d = true) : Ev (gLk i g) σ d := ev_lk hl (fun a => by rw [(p a).eq]; exact h a) n
theorem ratV_O {b : Int} (l : List Int) : (l.map (ratO b)).map ratV = l.map (ratO b) := by
  rw [List.map_map]
  exact List.map_congr_left fun x _ => rfl
theorem rowR_OL {b : Int} (l : List Int) : rowR (.lst (l.map (ratO b))) = rowO b l := by
  show D.tup ((l.map (ratO b)).map ratV) = _
  rw [ratV_O]
theorem rowR_OT {b : Int} (l : List Int) : rowR (.tup (l.map (ratO b))) = rowO b l := rowR_OL l
theorem rowOk_O {b : Int} {n : Int} {l : List Int} {r : D} (hr : r = .lst (l.map (ratO b)) ∨ r = .tup (l.map (ratO b))) (h : (l.length : Int) = n) : rowOk n r := ⟨l.map (ratO b), hr, by rw [List.length_map]; exact h, fun d hd => by
  obtain ⟨x, _, rfl⟩ := List.mem_map.mp hd
  exact .inr ⟨_, _, rfl⟩⟩
theorem perm_map {α β : Type} {f : α → β} {ys xs : List β} (p : ys.Perm xs) : ∀ l : List α, xs = l.map f → ∃ l' : List α, ys = l'.map f ∧ l'.Perm l := by
  induction p with
  | nil => exact fun l e => ⟨[], rfl, by cases l with | nil => exact List.Perm.nil | cons => cases e⟩
  | cons x p ih =>
    intro l e
    cases l with
    | nil => cases e
    | cons a r =>
      obtain ⟨e1, e2⟩ := List.cons.inj e
      obtain ⟨l', rfl, q⟩ := ih r e2
      subst e1
      exact ⟨a :: l', rfl, q.cons a⟩
  | swap x y r =>
    intro l e
    rcases l with _ | ⟨a, _ | ⟨c, r2⟩⟩
    · cases e
    · cases e
    · simp only [List.map_cons, List.cons.injEq] at e
      obtain ⟨e1, e3, e4⟩ := e
      rw [e1, e3, e4]
      exact ⟨c :: a :: r2, rfl, List.Perm.swap a c r2⟩
  | trans p q ih1 ih2 =>
    intro l e
    obtain ⟨l2, e2, q2⟩ := ih2 l e
    obtain ⟨l1, e1, q1⟩ := ih1 l2 e2
    exact ⟨l1, e1, q1.trans q2⟩
theorem ev_allT {α : Type} {gi : GI} {tg : Tgt} {vs : List Nat} {ge : GE} {σ : StD} {ds : List D} {l : List α} {gg : α → D} (I : EvI gi σ ds) (e : ds = l.map gg) (h : ∀ w ∈ l, AEv tg (gg w) (wipeD σ vs) ge (.bl true)) (hl : l.length ≤ 1000000) : Ev (g1 dAll (gLc gi tg gYes ge vs)) σ (.bl true) := .mk fun k q => by
  refine (ev_lc (f := fun _ => .bl true) I e h hl).run _ ?_
  refine (o_all (f := fun _ => true)).run _ ?_
  rw [show (l.all fun _ => true) = true by induction l <;> simp_all]
  exact q
theorem good_pairs {b : Int} : ∀ l : List Int, goodDs (l.map (pairO b)) = true
  | [] => rfl
  | x :: r => by
    show ((decide (2 ≤ 100000) && (true && (true && true))) && goodDs (r.map (pairO b))) = true
    rw [good_pairs r]; rfl
theorem good_prows {b : Int} : ∀ ls : List (List Int), (∀ l ∈ ls, l.length ≤ 10000) → goodDs (ls.map fun r => D.lst (r.map (pairO b))) = true
  | [], _ => rfl
  | x :: r, hl => by
    have := hl x List.mem_cons_self
    show ((decide ((x.map (pairO b)).length ≤ 100000) && goodDs (x.map (pairO b))) && goodDs (r.map fun r => D.lst (r.map (pairO b)))) = true
    rw [good_pairs x, good_prows r fun y hy => hl y (List.mem_cons_of_mem _ hy), List.length_map, decide_eq_true (by omega)]; rfl
theorem dep_pairs {b : Int} : ∀ l : List Int, deps (l.map (pairO b)) ≤ 1
  | [] => Nat.zero_le _
  | x :: r => by
    have := dep_pairs (b := b) r
    show max (max 0 (max 0 0) + 1) (deps (r.map (pairO b))) ≤ 1
    omega
theorem dep_prows {b : Int} : ∀ ls : List (List Int), deps (ls.map fun r => D.lst (r.map (pairO b))) ≤ 2
  | [] => Nat.zero_le _
  | x :: r => by
    have h1 := dep_pairs (b := b) x
    have h2 := dep_prows (b := b) r
    show max (deps (x.map (pairO b)) + 1) (deps (r.map fun r => D.lst (r.map (pairO b)))) ≤ 2
    omega
theorem leR_trans (a b c : List Int) (h : leR a b = true) (g : leR b c = true) : leR a c = true := decide_eq_true (List.le_trans (of_decide_eq_true h) (of_decide_eq_true g))
theorem leR_total (a b : List Int) : (leR a b || leR b a) = true := by
  rcases List.le_total a b with h | h
  · rw [show leR a b = true from decide_eq_true h]; rfl
  · rw [show leR b a = true from decide_eq_true h]; exact Bool.or_true _
theorem leR_anti {a b : List Int} (h : leR a b = true) (g : leR b a = true) : a = b := List.le_antisymm (of_decide_eq_true h) (of_decide_eq_true g)
theorem sortR_perm {P Q : List (List Int)} (h : P.Perm Q) : P.mergeSort leR = Q.mergeSort leR :=
  List.Perm.eq_of_pairwise (fun a b _ _ x y => leR_anti x y) (List.pairwise_mergeSort (le := leR) leR_trans leR_total P) (List.pairwise_mergeSort (le := leR) leR_trans leR_total Q) (((List.mergeSort_perm P leR).trans h).trans (List.mergeSort_perm Q leR).symm)
theorem sum_permI {l m : List Int} (h : l.Perm m) : l.sum = m.sum := by
  induction h with
  | nil => rfl
  | cons x _ ih => rw [List.sum_cons, List.sum_cons, ih]
  | swap x y l => simp only [List.sum_cons]; omega
  | trans _ _ a b => exact a.trans b
theorem wt_perm {rs qs : List (List Int)} (h : rs.Perm qs) (p : List Int) : wtR rs p = wtR qs p := sum_permI ((h.filter _).map _)
theorem out_perm {rs qs : List (List Int)} (h : rs.Perm qs) : outR rs = outR qs := by
  unfold outR
  have d : (dirsR rs).Perm (dirsR qs) := (List.perm_ext_iff_of_nodup (dirs_nodup rs) (dirs_nodup qs)).mpr fun p => by
    rw [dirs_mem, dirs_mem]
    exact ⟨fun ⟨r, hr, g⟩ => ⟨r, h.mem_iff.mp hr, g⟩, fun ⟨r, hr, g⟩ => ⟨r, h.mem_iff.mpr hr, g⟩⟩
  rw [sortR_perm d]
  exact List.map_congr_left fun p _ => by rw [wt_perm h]
theorem out_len (rs : List (List Int)) : (outR rs).length ≤ rs.length := by
  unfold outR
  rw [List.length_map, List.length_mergeSort]; exact dirs_len rs
theorem out_row {n m : Nat} {rs : List (List Int)} (h : ∀ r ∈ rs, Sms m r ∧ r.length = n) (hl : rs.length ≤ 100) : ∀ q ∈ outR rs, Sms (m + 7 + m) q ∧ q.length = n := fun q hq => by
  obtain ⟨p, hp, rfl⟩ := List.mem_map.mp hq
  obtain ⟨r, hr, h0, rfl⟩ := dirs_mem.mp (List.mem_mergeSort.mp hp)
  refine ⟨fun y hy => ?_, by rw [List.length_map, dirP_len]; exact (h r hr).2⟩
  obtain ⟨x, hx, rfl⟩ := List.mem_map.mp hy
  exact Sz.mul (wt_sz (fun r hr => (h r hr).1) hl) (dirP_sz (h r hr).1 h0 x hx)
theorem dot_mulL (c : Int) : ∀ p a : List Int, dotI (p.map (c * ·)) a = c * dotI p a
  | [], a => by unfold dotI; simp
  | x :: r, [] => by unfold dotI; simp
  | x :: r, y :: a => by
    have ih := dot_mulL c r a
    unfold dotI at ih ⊢
    rw [List.map_cons, List.zip_cons_cons, List.map_cons, List.sum_cons, ih, List.zip_cons_cons, List.map_cons, List.sum_cons, Int.mul_add, Int.mul_assoc]
theorem absI_nat (x : Int) : absI x = (x.natAbs : Int) := by unfold absI; split <;> omega
theorem abs_mulI {c x : Int} (h : 0 ≤ c) : absI (c * x) = c * absI x := by
  rw [absI_nat, absI_nat, Int.natAbs_mul, Int.natCast_mul]
  congr 1
  omega
theorem dir_dot {r a : List Int} (h : gcL r ≠ 0) : gcL r * absI (dotI (dirP r) a) = absI (dotI r a) := by
  have g0 := gcL_nn r
  rw [← abs_mulI g0, ← dot_mulL]
  have e : (dirP r).map (gcL r * ·) = r.map (sgR r) := by
    rw [dirP_eq h, List.map_map]
    refine List.map_congr_left fun x hx => ?_
    show gcL r * (sgR r x).fdiv (gcL r) = sgR r x
    rw [Int.mul_comm]
    refine fdiv_ok ?_ (by omega)
    rcases sgR_or r x with e | e <;> rw [e]
    · exact gcL_dvd hx
    · exact Int.dvd_neg.mpr (gcL_dvd hx)
  have e2 : r.map (sgR r) = r.map ((if leadI r < 0 then -1 else 1) * ·) := List.map_congr_left fun x _ => by
    unfold sgR
    split <;> omega
  rw [e, e2, dot_mulL, absI_nat, absI_nat, Int.natAbs_mul]
  split
  · show ((1 * _ : Nat) : Int) = _
    rw [Nat.one_mul]
  · show ((1 * _ : Nat) : Int) = _
    rw [Nat.one_mul]
theorem zero_dot {r a : List Int} (h : gcL r = 0) : dotI r a = 0 := by
  have hz : ∀ x ∈ r, x = 0 * x := fun x hx => by
    have : x = 0 := Decidable.byContradiction fun c => absurd h (gcL_ne.mpr ⟨x, hx, c⟩)
    omega
  have e : r = r.map (0 * ·) := by
    conv => lhs; rw [← List.map_id r]
    exact List.map_congr_left hz
  rw [e, dot_mulL, Int.zero_mul]
theorem sum_zeros {α : Type} : ∀ t : List α, (t.map fun _ => (0 : Int)).sum = 0
  | [] => rfl
  | x :: t => by rw [List.map_cons, List.sum_cons, sum_zeros t]; rfl
theorem sum_addM {α : Type} (f g : α → Int) : ∀ l : List α, (l.map fun x => f x + g x).sum = (l.map f).sum + (l.map g).sum
  | [] => rfl
  | x :: t => by
    rw [List.map_cons, List.map_cons, List.map_cons, List.sum_cons, List.sum_cons, List.sum_cons, sum_addM f g t]
    omega
theorem delta_sum {f : List Int → Int} {g : Int} {q : List Int} : ∀ {P : List (List Int)}, P.Nodup → q ∈ P → (P.map fun p => (bif q == p then g else 0) * f p).sum = g * f q
  | x :: t, nd, h => by
    obtain ⟨n1, n2⟩ := List.nodup_cons.mp nd
    rw [List.map_cons, List.sum_cons]
    by_cases c : q = x
    · subst c
      have z : (t.map fun p => (bif q == p then g else 0) * f p) = t.map fun _ => 0 := List.map_congr_left fun p hp => by
        rw [show (q == p) = false from beq_eq_false_iff_ne.mpr fun e => n1 (e ▸ hp), cond_false, Int.zero_mul]
      rw [z, sum_zeros, show (q == q) = true from beq_self_eq_true q, cond_true, Int.add_zero]
    · rw [delta_sum n2 ((List.mem_cons.mp h).resolve_left c), show (q == x) = false from beq_eq_false_iff_ne.mpr c, cond_false, Int.zero_mul, Int.zero_add]
theorem wt_cons (r : List Int) (rs : List (List Int)) (p : List Int) : wtR (r :: rs) p = (bif gcL r != 0 && dirP r == p then gcL r else 0) + wtR rs p := by
  unfold wtR
  rw [List.filter_cons]
  cases gcL r != 0 && dirP r == p
  · rw [cond_false, Int.zero_add, if_neg (by decide)]
  · rw [cond_true, if_pos rfl, List.map_cons, List.sum_cons]
theorem wt_sumF {f : List Int → Int} {P : List (List Int)} (nd : P.Nodup) : ∀ rs : List (List Int), (∀ r ∈ rs, gcL r ≠ 0 → dirP r ∈ P) → (P.map fun p => wtR rs p * f p).sum = (rs.map fun r => gcL r * f (dirP r)).sum
  | [], _ => by
    have e : (P.map fun p => wtR [] p * f p) = P.map fun _ => 0 := List.map_congr_left fun p _ => by
      show (0 : Int) * f p = 0
      rw [Int.zero_mul]
    rw [e, sum_zeros]; rfl
  | r :: rs, h => by
    have ih := wt_sumF (f := f) nd rs fun q hq => h q (List.mem_cons_of_mem _ hq)
    have e : (P.map fun p => wtR (r :: rs) p * f p) = P.map fun p => (bif gcL r != 0 && dirP r == p then gcL r else 0) * f p + wtR rs p * f p := List.map_congr_left fun p _ => by rw [wt_cons, Int.add_mul]
    rw [e, sum_addM, ih, List.map_cons, List.sum_cons]
    congr 1
    by_cases c : gcL r = 0
    · have e2 : (P.map fun p => (bif gcL r != 0 && dirP r == p then gcL r else 0) * f p) = P.map fun _ => 0 := List.map_congr_left fun p _ => by
        rw [c]
        show (0 : Int) * f p = 0
        rw [Int.zero_mul]
      rw [e2, sum_zeros, c, Int.zero_mul]
    · have e2 : (P.map fun p => (bif gcL r != 0 && dirP r == p then gcL r else 0) * f p) = P.map fun p => (bif dirP r == p then gcL r else 0) * f p := List.map_congr_left fun p _ => by
        rw [show (gcL r != 0) = true from bne_iff_ne.mpr c, Bool.true_and]
      rw [e2]
      exact delta_sum nd (h r List.mem_cons_self c)
theorem sum_nn : ∀ l : List Int, (∀ x ∈ l, 0 ≤ x) → 0 ≤ l.sum
  | [], _ => Int.le_refl _
  | x :: t, h => by
    have h1 := h x List.mem_cons_self
    have h2 := sum_nn t fun y hy => h y (List.mem_cons_of_mem _ hy)
    rw [List.sum_cons]; omega
theorem wt_nn (rs : List (List Int)) (p : List Int) : 0 ≤ wtR rs p := sum_nn _ fun x hx => by
  obtain ⟨r, _, rfl⟩ := List.mem_map.mp hx
  exact gcL_nn r
theorem lenL_out (rs : List (List Int)) (a : List Int) : lenL (outR rs) a = lenL rs a := by
  unfold lenL prodsI
  rw [List.map_map, List.map_map]
  have e1 : ((outR rs).map (absI ∘ fun r => dotI r a)).sum = ((dirsR rs).map fun p => wtR rs p * absI (dotI p a)).sum := by
    unfold outR
    rw [List.map_map, sum_permI ((List.mergeSort_perm (dirsR rs) leR).map _)]
    congr 1
    refine List.map_congr_left fun p _ => ?_
    show absI (dotI (p.map (wtR rs p * ·)) a) = _
    rw [dot_mulL, abs_mulI (wt_nn rs p)]
  rw [e1, wt_sumF (f := fun p => absI (dotI p a)) (dirs_nodup rs) rs fun r hr h0 => dirs_mem.mpr ⟨r, hr, h0, rfl⟩]
  congr 1
  refine List.map_congr_left fun r _ => ?_
  show gcL r * absI (dotI (dirP r) a) = absI (dotI r a)
  by_cases c : gcL r = 0
  · rw [c, Int.zero_mul, zero_dot c]; rfl
  · exact dir_dot c
abbrev rwL (r : List Int) : D := .lst (dints r)
theorem c_mixedL {xs : List (List Int)} {k : D → Prop} {e : XD → Prop} (h : xs.length ≤ 1000) (q : ∀ ys : List (List Int), ys.Perm xs → Stp (k (.lst (ys.map rwL)))) : Stp (s_mixed [.bag, .lst (xs.map rwL)] k e) := ⟨⟨xs.map rwL, rfl, by rw [List.length_map]; exact h, fun ds p => by
  obtain ⟨ys, rfl, p2⟩ := perm_map p xs rfl
  exact (q ys p2).run⟩⟩
theorem pairs_zip : ∀ (ls : List (List Int)) (fs : List Int), pairsD (ls.map rwL) (fs.map D.int) = (ls.zip fs).map fun p => .tup [rwL p.1, .int p.2]
  | [], fs => by cases fs <;> rfl
  | x :: t, [] => rfl
  | x :: t, y :: u => by
    show D.tup [rwL x, .int y] :: pairsD (t.map rwL) (u.map D.int) = _
    rw [pairs_zip t u]; rfl
theorem mr_L {n : Nat} {b : Int} {qs : List (List Int)} (n1 : 1 ≤ n) (n4 : n ≤ 4) (h : ∀ r ∈ qs, r.length = n) (hl : qs.length ≤ 100) : SR s_mrows [.int n, .lst (qs.map fun r => .lst (r.map (ratO b))), .int 0] (.lst (qs.map (rowO b))) := by
  have z := sr_mrows (n := n) (y := .lst (qs.map fun r => .lst (r.map (ratO b)))) (m := 0) (by omega) (by omega) rfl rfl (Nat.zero_le _) (by show (qs.map _).length ≤ 100; rw [List.length_map]; exact hl) (fun r hr => by
    obtain ⟨l, hl, rfl⟩ := List.mem_map.mp (show r ∈ qs.map _ from hr)
    exact rowOk_O (.inl rfl) (by have := h l hl; omega))
  rwa [show (itemsS (.lst (qs.map fun r => .lst (r.map (ratO b))))).map rowR = qs.map (rowO b) from by
    show (qs.map _).map rowR = _
    rw [List.map_map]
    exact List.map_congr_left fun l _ => rowR_OL l] at z
theorem mr_T {n : Nat} {b : Int} {qs : List (List Int)} (n1 : 1 ≤ n) (n4 : n ≤ 4) (h : ∀ r ∈ qs, r.length = n) (hl : qs.length ≤ 100) : SR s_mrows [.int n, .lst (qs.map (rowO b)), .int 0] (.lst (qs.map (rowO b))) := by
  have z := sr_mrows (n := n) (y := .lst (qs.map (rowO b))) (m := 0) (by omega) (by omega) rfl rfl (Nat.zero_le _) (by show (qs.map _).length ≤ 100; rw [List.length_map]; exact hl) (fun r hr => by
    obtain ⟨l, hl, rfl⟩ := List.mem_map.mp (show r ∈ qs.map _ from hr)
    exact rowOk_O (.inr rfl) (by have := h l hl; omega))
  rwa [show (itemsS (.lst (qs.map (rowO b)))).map rowR = qs.map (rowO b) from by
    show (qs.map _).map rowR = _
    rw [List.map_map]
    exact List.map_congr_left fun l _ => rowR_OT l] at z
theorem noLs_pr {b : Int} : ∀ l : List Int, noLs (l.map (pairO b)) = true
  | [] => rfl
  | x :: r => by
    show ((true && (true && true)) && noLs (r.map (pairO b))) = true
    rw [noLs_pr r]; rfl
theorem noLs_pP {b : Int} : ∀ ls : List (List Int), noLs (ls.map fun r => D.lst (r.map (pairO b))) = true
  | [] => rfl
  | x :: r => by
    show (noLs (x.map (pairO b)) && noLs (r.map fun r => D.lst (r.map (pairO b)))) = true
    rw [noLs_pr x, noLs_pP r]; rfl
abbrev rows4 : List (List Int) := [[0, -2], [3, 1], [-6, -2], [0, 0]]
abbrev dirs4 : List (List Int) := [[0, 2], [9, 3]]
theorem out4 : outR rows4 = dirs4 := by
  have e : dirsR rows4 = [[0, 1], [3, 1]] := by decide +kernel
  have w1 : wtR rows4 [0, 1] = 2 := by decide +kernel
  have w2 : wtR rows4 [3, 1] = 3 := by decide +kernel
  have e2 : [[0, 1], [3, 1]].mergeSort leR = [[0, 1], [3, 1]] := List.mergeSort_of_pairwise (by decide +kernel)
  unfold outR
  rw [e, e2]
  show [[wtR rows4 [0, 1] * 0, wtR rows4 [0, 1] * 1], [wtR rows4 [3, 1] * 3, wtR rows4 [3, 1] * 1]] = _
  rw [w1, w2]; rfl
theorem rowR_int (a b : Int) : rowR (.tup [.int a, .int b]) = rowO 1 [a, b] := by
  show D.tup [rat a 1, rat b 1] = D.tup [ratO 1 a, ratO 1 b]
  rw [rat1, rat1]
theorem mr_4 : SR s_mrows [.int 2, .lst [.tup [.int 0, .int (-2)], .tup [.int 3, .int 1], .tup [.int (-6), .int (-2)], .tup [.int 0, .int 0]], .int 0] (.lst (rows4.map (rowO 1))) := by
  have g : ∀ a b : Int, rowOk 2 (.tup [.int a, .int b]) := fun a b => ⟨[.int a, .int b], .inr rfl, rfl, fun d hd => by
    simp only [List.mem_cons, List.not_mem_nil, or_false] at hd
    rcases hd with rfl | rfl <;> exact .inl ⟨_, rfl⟩⟩
  have z := sr_mrows (n := 2) (y := .lst [.tup [.int 0, .int (-2)], .tup [.int 3, .int 1], .tup [.int (-6), .int (-2)], .tup [.int 0, .int 0]]) (m := 0) (by decide) (by decide) rfl rfl (Nat.zero_le _) (by decide) (fun r hr => by
    have hr : r ∈ [D.tup [.int 0, .int (-2)], .tup [.int 3, .int 1], .tup [.int (-6), .int (-2)], .tup [.int 0, .int 0]] := hr
    simp only [List.mem_cons, List.not_mem_nil, or_false] at hr
    rcases hr with rfl | rfl | rfl | rfl <;> exact g _ _)
  rwa [show (itemsS (.lst [.tup [.int 0, .int (-2)], .tup [.int 3, .int 1], .tup [.int (-6), .int (-2)], .tup [.int 0, .int 0]])).map rowR = rows4.map (rowO 1) from by
    show [rowR _, rowR _, rowR _, rowR _] = [rowO 1 _, rowO 1 _, rowO 1 _, rowO 1 _]
    rw [rowR_int, rowR_int, rowR_int, rowR_int]] at z
/-- the rows of the law, and their multiples -/
def rowsM (ls : List (List Int)) (fs : List Int) : List (List Int) := ls ++ (ls.zip fs).map fun p => p.1.map (· * p.2)
theorem rowsM_len {ls : List (List Int)} {fs : List Int} (h : ls.length ≤ 3) : (rowsM ls fs).length ≤ 6 := by
  unfold rowsM
  rw [List.length_append, List.length_map, List.length_zip]; omega
theorem rowsM_row {n : Nat} {ls : List (List Int)} {fs : List Int} (h : ∀ l ∈ ls, (l.length : Int) = n ∧ ∀ x ∈ l, -3 ≤ x ∧ x ≤ 3) (hf : ∀ f ∈ fs, -2 ≤ f ∧ f ≤ 3) : ∀ r ∈ rowsM ls fs, r.length = n ∧ Sms 4 r := fun r hr => by
  rcases List.mem_append.mp hr with hr | hr
  · exact ⟨by have := (h r hr).1; omega, fun x hx => by have := (h r hr).2 x hx; exact Sz.of_lt (by omega) (by omega)⟩
  · obtain ⟨p, hp, rfl⟩ := List.mem_map.mp hr
    obtain ⟨h1, h2⟩ := List.of_mem_zip (a := p.1) (b := p.2) hp
    refine ⟨by rw [List.length_map]; have := (h _ h1).1; omega, fun y hy => ?_⟩
    obtain ⟨x, hx, rfl⟩ := List.mem_map.mp hy
    have a := (h _ h1).2 x hx
    have b := hf _ h2
    have e1 : -9 ≤ x * p.2 ∧ x * p.2 ≤ 9 := by
      have c : p.2 = -2 ∨ p.2 = -1 ∨ p.2 = 0 ∨ p.2 = 1 ∨ p.2 = 2 ∨ p.2 = 3 := by omega
      rcases c with c | c | c | c | c | c <;> rw [c] <;> omega
    exact Sz.of_lt (by omega) (by omega)
theorem ok_law (F : Facts K mg) : FnOk P w K mg base (L2.CX P w) 12 (He.ga K "law") (fdOf K (He.ga K "law")) ["_law_script"] (spLaw K) := by
  refine FunD.okC F.d_law sc_law (fun vs H Q E h => by obtain ⟨a, ns, rfl, _⟩ := h; rfl) fun cdv A outer s0 H vs Q E hc hr h => ?_
  refine law_run (N := ["_law_script", "_law_bag_here", "_law_turn", "_law_size", "_law_bottom", "_law_rows_here", "_law_factors", "_law_row", "_law_one", "_law_factor", "_law_made", "_law_found", "_law_due", "_law_places_here"]) (ps_set (i := 1) sc_law.nd rfl (.inr rfl) (pe_call (ok__law_bag F) (hr.mono (by decide)) rfl F.g__law_bag F.d__law_bag.kp (bi__law_bag F) .nil (cz_none (b := none) (H0 := fun _ => none)).pass (pa_cons (pe_var (i := 0) rfl (by first | exact Or.inl rfl | exact Or.inr (Or.inl rfl) | exact Or.inr (Or.inr rfl))) pa_nil))) (fun b H0 hT => dss_cons (ds_for (passes_of rfl) rfl (di_rng1 rfl F.n_range (DE.dt (de_int))) (dg_name (i := 2) sc_law.nd rfl (.inl rfl)) (dss_cons (ds_tgt (de_tup (da_cons (de_addB (de_int) (de_ca (fc__law_draw_2 F) sDraw_mn (hr.mono (by decide)) F.g__law_draw F.d__law_draw.kp cz_none (dca_pos (da_cons (de_var 1) (da_cons (de_int) (da_nil)))))) (da_cons (de_addB (de_int) (de_ca (fc__law_draw_2 F) sDraw_mn (hr.mono (by decide)) F.g__law_draw F.d__law_draw.kp cz_none (dca_pos (da_cons (de_var 1) (da_cons (de_int) (da_nil)))))) (da_nil)))) (dg_tup rfl (dgs_cons (dg_name (i := 3) sc_law.nd rfl (.inl rfl)) (dgs_cons (dg_name (i := 4) sc_law.nd rfl (.inr rfl)) (dgs_nil)))))
    (dss_cons (ds_asg (i := 5) sc_law.nd rfl (.inl rfl) (de_ca (fc__law_rows_4 F) mn_lrows (hr.mono (by decide)) F.g__law_rows F.d__law_rows.kp cz_none (dca_pos (da_cons (de_var 1) (da_cons (de_ca (fc__law_draw_2 F) sDraw_mn (hr.mono (by decide)) F.g__law_draw F.d__law_draw.kp cz_none (dca_pos (da_cons (de_var 1) (da_cons (de_int) (da_nil))))) (da_cons (de_var 3) (da_cons (de_int) (da_nil))))))))
    (dss_cons (ds_setLc (i := 6) rfl sc_law.nd rfl rfl rfl (own := [("_law_row", 7)]) (di_seq (de_var 5)) (blk_ok (N := ["_law_script", "_law_bag_here", "_law_turn", "_law_size", "_law_bottom", "_law_rows_here", "_law_factors", "_law_row", "_law_one", "_law_factor", "_law_made", "_law_found", "_law_due", "_law_places_here"]) (by kernel_rfl)) (fun _ _ _ _ _ => dg_name (i := 7) sc_law.nd rfl (.inl rfl)) (fun _ _ _ _ _ => dts_nil) (fun _ _ _ _ _ => de_ca (fc__law_of_2 F) sOf_mn (hr.mono (by decide)) F.g__law_of F.d__law_of.kp cz_none (dca_pos (da_cons (de_var 1) (da_cons (de_lst (da_cons (de_neg (DE.dt (de_int))) (da_cons (de_int) (da_cons (de_int) (da_cons (de_int) (da_nil)))))) (da_nil))))))
    (dss_cons (ds_asg (i := 5) sc_law.nd rfl (.inl rfl) (de_addB (de_var 5) (de_lc rfl sc_law.nd (own := [("_law_row", 7), ("_law_factor", 9)]) (di_zipA (de_var 5) (de_var 6) rfl F.n_zip) (blk_ok (N := ["_law_script", "_law_bag_here", "_law_turn", "_law_size", "_law_bottom", "_law_rows_here", "_law_factors", "_law_row", "_law_one", "_law_factor", "_law_made", "_law_found", "_law_due", "_law_places_here"]) (by kernel_rfl)) (fun _ _ _ _ _ => dg_tup rfl (dgs_cons (dg_name (i := 7) sc_law.nd rfl (.inl rfl)) (dgs_cons (dg_name (i := 9) sc_law.nd rfl (.inr rfl)) (dgs_nil)))) (fun _ _ _ _ _ => dts_nil) (fun _ _ _ _ _ => de_lc rfl sc_law.nd (own := [("_law_one", 8)]) (di_seq (de_var 7)) (blk_ok (N := ["_law_script", "_law_bag_here", "_law_turn", "_law_size", "_law_bottom", "_law_rows_here", "_law_factors", "_law_row", "_law_one", "_law_factor", "_law_made", "_law_found", "_law_due", "_law_places_here"]) (by kernel_rfl)) (fun _ _ _ _ _ => dg_name (i := 8) sc_law.nd rfl (.inl rfl)) (fun _ _ _ _ _ => dts_nil) (fun _ _ _ _ _ => de_mulA (DE.dt (de_var 8)) (DE.dt (de_var 9)))))))
    (dss_cons (ds_asg (i := 10) sc_law.nd rfl (.inl rfl) (de_mk F.k_Lines (fc_Lines_init_2 F) mn_Linit (hr.mono (by decide)) F.g_Lines cz_none (dca_pos (da_cons (de_var 3) (da_cons (de_ca (fc__law_over_2 F) mn_lover (hr.mono (by decide)) F.g__law_over F.d__law_over.kp cz_none (dca_pos (da_cons (de_ca (fc__law_mixed_2 F) mn_mixed (hr.mono (by decide)) F.g__law_mixed F.d__law_mixed.kp cz_none (dca_pos (da_cons (de_var 1) (da_cons (de_var 5) (da_nil))))) (da_cons (de_var 4) (da_nil))))) (da_nil))))))
    (dss_cons (ds_parFD (i := 11) (j := 12) rfl sc_law.nd rfl rfl (by decide) rfl rfl (df_mc (c := "Lines") (de_var 10) F.c_Lines F.m_Lines_directions (fcF_Lines_directions_0 F) mn_Ldir (hr.mono (by decide)) cz_none dca_nil) (de_ca (fc__law_directions_1 F) mn_ldirs (hr.mono (by decide)) F.g__law_directions F.d__law_directions.kp cz_none (dca_pos (da_cons (de_var 5) (da_nil)))) rfl)
    (dss_cons (ds_if (DW.db (dw_or (db_not (db_val (DE.dt (de_isi (k := .ty .lst) F.W (by simp [KC.ok]) (dt_var 11) (pe_kty rfl F.n_list rfl) rfl F.n_isinstance)))) (dw_or1 (db_not (db_val (DE.dt (de_callB (cr_all rfl) cl_all rfl F.n_all rfl (DE.dt (de_lcX rfl sc_law.nd (own := [("_law_row", 7)]) (dix_var 11) (blk_ok (N := ["_law_script", "_law_bag_here", "_law_turn", "_law_size", "_law_bottom", "_law_rows_here", "_law_factors", "_law_row", "_law_one", "_law_factor", "_law_made", "_law_found", "_law_due", "_law_places_here"]) (by kernel_rfl)) (fun _ _ _ _ _ => dg_name (i := 7) sc_law.nd rfl (.inl rfl)) (fun _ _ _ _ _ => dts_nil) (fun _ _ _ _ _ => de_isi (k := .ty .tup) F.W (by simp [KC.ok]) (DE.dt (de_var 7)) (pe_kty rfl F.n_tuple rfl) rfl F.n_isinstance)))))))))) (dss_one (ds_ret (DE.dt (de_bl)))) (dss_nil))
    (dss_cons (ds_if (db_not (db_val (DE.dt (de_ca (fc__law_same_2 F) (sSame_mn 8) (hr.mono (by decide)) F.g__law_same F.d__law_same.kp cz_none (dca_pos (da_cons (de_lk 11 (de_ca (fc__law_pairs_1 F) mn_lpairs (hr.mono (by decide)) F.g__law_pairs F.d__law_pairs.kp cz_none (dca_pos (da_cons (de_var 11) (da_nil))))) (da_cons (de_lc rfl sc_law.nd (own := [("_law_row", 7)]) (di_seq (de_var 12)) (blk_ok (N := ["_law_script", "_law_bag_here", "_law_turn", "_law_size", "_law_bottom", "_law_rows_here", "_law_factors", "_law_row", "_law_one", "_law_factor", "_law_made", "_law_found", "_law_due", "_law_places_here"]) (by kernel_rfl)) (fun _ _ _ _ _ => dg_name (i := 7) sc_law.nd rfl (.inl rfl)) (fun _ _ _ _ _ => dts_nil) (fun _ _ _ _ _ => de_lc rfl sc_law.nd (own := [("_law_one", 8)]) (di_seq (de_var 7)) (blk_ok (N := ["_law_script", "_law_bag_here", "_law_turn", "_law_size", "_law_bottom", "_law_rows_here", "_law_factors", "_law_row", "_law_one", "_law_factor", "_law_made", "_law_found", "_law_due", "_law_places_here"]) (by kernel_rfl)) (fun _ _ _ _ _ => dg_name (i := 8) sc_law.nd rfl (.inl rfl)) (fun _ _ _ _ _ => dts_nil) (fun _ _ _ _ _ => de_ca (fc__law_low_2 F) mn_low (hr.mono (by decide)) F.g__law_low F.d__law_low.kp cz_none (dca_pos (da_cons (de_var 8) (da_cons (de_var 4) (da_nil))))))) (da_nil)))))))) (dss_one (ds_ret (DE.dt (de_bl)))) (dss_nil))
    (dss_cons (ds_app (i := 11) rfl (by first | exact Or.inl rfl | exact Or.inr (Or.inl rfl) | exact Or.inr (Or.inr rfl)) (de_non))
    (dss_cons (ds_asg (i := 13) sc_law.nd rfl (.inl rfl) (de_ca (fc__law_places_3 F) mn_places (hr.mono (by decide)) F.g__law_places F.d__law_places.kp cz_none (dca_pos (da_cons (de_var 1) (da_cons (de_var 3) (da_cons (de_int) (da_nil)))))))
    (dss_one (ds_if (db_not (db_val (DE.dt (de_ca (fc__law_same_2 F) (sSame_mn 8) (hr.mono (by decide)) F.g__law_same F.d__law_same.kp cz_none (dca_pos (da_cons (de_mc (c := "Ratio") (de_mc (c := "Lines") (de_mk F.k_Lines (fc_Lines_init_2 F) mn_Linit (hr.mono (by decide)) F.g_Lines cz_none (dca_pos (da_cons (de_var 3) (da_cons (de_mc (c := "Lines") (de_var 10) F.c_Lines F.m_Lines_directions (fc_Lines_directions_0 F) mn_Ldir (hr.mono (by decide)) cz_none dca_nil) (da_nil))))) F.c_Lines F.m_Lines_length (fc_Lines_length_1 F) mn_Llen (hr.mono (by decide)) cz_none (dca_pos (da_cons (de_ca (fc__law_arrow_1 F) mn_arrow (hr.mono (by decide)) F.g__law_arrow F.d__law_arrow.kp cz_none (dca_pos (da_cons (de_var 13) (da_nil)))) (da_nil)))) F.c_Ratio F.m_Ratio_pair (fc_Ratio_pair_0 F) mn_pair (hr.mono (by decide)) cz_none dca_nil) (da_cons (de_ca (fc__law_low_2 F) mn_low (hr.mono (by decide)) F.g__law_low F.d__law_low.kp cz_none (dca_pos (da_cons (de_ca (fc__law_lines_length_2 F) mn_llen (hr.mono (by decide)) F.g__law_lines_length F.d__law_lines_length.kp cz_none (dca_pos (da_cons (de_var 5) (da_cons (de_var 13) (da_nil))))) (da_cons (de_var 4) (da_nil))))) (da_nil)))))))) (dss_one (ds_ret (DE.dt (de_bl)))) (dss_nil))))))))))))))
    (dss_cons (ds_asgF (i := 11) sc_law.nd rfl (.inl rfl) (df_mc (c := "Lines") (de_mk F.k_Lines (fc_Lines_init_2 F) mn_Linit (hr.mono (by decide)) F.g_Lines cz_none (dca_pos (da_cons (de_int) (da_cons (de_lst (da_cons (de_tup (da_cons (de_int) (da_cons (de_neg (DE.dt (de_int))) (da_nil)))) (da_cons (de_tup (da_cons (de_int) (da_cons (de_int) (da_nil)))) (da_cons (de_tup (da_cons (de_neg (DE.dt (de_int))) (da_cons (de_neg (DE.dt (de_int))) (da_nil)))) (da_cons (de_tup (da_cons (de_int) (da_cons (de_int) (da_nil)))) (da_nil)))))) (da_nil))))) F.c_Lines F.m_Lines_directions (fcF_Lines_directions_0 F) mn_Ldir (hr.mono (by decide)) cz_none dca_nil))
    (dss_one (ds_ret (DE.dt (de_ca (fc__law_same_2 F) (sSame_mn 8) (hr.mono (by decide)) F.g__law_same F.d__law_same.kp cz_none (dca_pos (da_cons (de_lcX rfl sc_law.nd (own := [("_law_row", 7)]) (dix_var 11) (blk_ok (N := ["_law_script", "_law_bag_here", "_law_turn", "_law_size", "_law_bottom", "_law_rows_here", "_law_factors", "_law_row", "_law_one", "_law_factor", "_law_made", "_law_found", "_law_due", "_law_places_here"]) (by kernel_rfl)) (fun _ _ _ _ _ => dg_name (i := 7) sc_law.nd rfl (.inl rfl)) (fun _ _ _ _ _ => dts_nil) (fun _ _ _ _ _ => de_lc rfl sc_law.nd (own := [("_law_one", 8)]) (di_seq (de_var 7)) (blk_ok (N := ["_law_script", "_law_bag_here", "_law_turn", "_law_size", "_law_bottom", "_law_rows_here", "_law_factors", "_law_row", "_law_one", "_law_factor", "_law_made", "_law_found", "_law_due", "_law_places_here"]) (by kernel_rfl)) (fun _ _ _ _ _ => dg_name (i := 8) sc_law.nd rfl (.inl rfl)) (fun _ _ _ _ _ => dts_nil) (fun _ _ _ _ _ => de_fld (c := "Ratio") (NS := ["top", "bottom"]) (i := 0) (de_var 8) F.c_Ratio F.a_Ratio_top (by decide)))) (da_cons (de_lst (da_cons (de_lst (da_cons (de_int) (da_cons (de_int) (da_nil)))) (da_cons (de_lst (da_cons (de_int) (da_cons (de_int) (da_nil)))) (da_nil)))) (da_nil)))))))))) h (by decide) ?_
  refine ⟨⟨by decide, by decide⟩, forD_inv (fun σ => ∃ a2 a3 a4 a5 a6 a10 a11 a12 a13, σ = [SD.unset, SD.sh D.bag, a2, a3, a4, a5, a6, .unset, .unset, .unset, a10, a11, a12, a13]) ?_ _ ⟨_, _, _, _, _, _, _, _, _, rfl⟩ ?_⟩
  · rintro d hd σ D' ⟨a2, a3, a4, a5, a6, a10, a11, a12, a13, rfl⟩ hN hR
    (first | (with_reducible show Stp _) | refine Stp.run ?_); exists ass
    refine c_tgt ?_
    exists nx; exists cps
    rename_i s s0 s1 b b0 b1
    obtain ⟨n, hn⟩ : ∃ n : Nat, 1 + s = (n : Int) := ⟨(1 + s).toNat, by omega⟩
    obtain ⟨bo, hb⟩ : ∃ bo : Int, 1 + b = bo := ⟨_, rfl⟩
    rw [hn, hb]
    refine c_asg ?_
    exists nx; exists cps
    rename_i c c0 c1
    refine c_lrows (by omega) (by omega) (by omega) (by omega) (by decide) (by decide) fun ls hls hrow => ?_
    exists nx; (with_reducible apply n_st); exists st
    have mark1 : True := trivial
    have hl3 : ls.length ≤ 3 := by omega
    refine c_asg ?_
    with_reducible apply c_lc (ds := ls.map rwL)
    · exact evi_it (ev_var rfl) itr_L
    refine Stp.mk (lcD_rel (fun _ y => ∃ f : Int, (-2 ≤ f ∧ f ≤ 3) ∧ y = .int f) _ _ _ (fun d hd kk hkk => Stp.run ?_) (by rw [List.length_map, List.length_nil]; omega) (fun ys hys => Stp.run ?_))
    · (first | (with_reducible show Stp _) | refine Stp.run ?_); exists ass
      with_reducible apply c_of (x := .lst [.int (-2), .int 1, .int 3, .int 0])
      · exact ev_var rfl
      · exists ev
      · exact List.cons_ne_nil _ _
      · exact Nat.le_of_ble_eq_true rfl
      intro f hf
      have hf : f ∈ [D.int (-2), .int 1, .int 3, .int 0] := hf
      simp only [List.mem_cons, List.not_mem_nil, or_false] at hf
      rcases hf with rfl | rfl | rfl | rfl <;> exact ⟨hkk _ ⟨_, by omega, rfl⟩⟩
    obtain ⟨fs, rfl, lf, hf⟩ := fa2_ints hys
    clear hys
    rw [List.nil_append]
    have mark2 : True := trivial
    exists nx; (with_reducible apply n_st); exists st
    obtain ⟨rs, hrs⟩ : ∃ rs, rowsM ls fs = rs := ⟨_, rfl⟩
    with_reducible apply s_asg (d := .lst (rs.map rwL))
    · refine Ev.eq (x := .lst (ls.map rwL ++ ((ls.zip fs).map fun p => rwL (p.1.map (· * p.2))))) ?_ (by rw [← hrs]; unfold rowsM; rw [List.map_append, List.map_map]; rfl)
      exists ev, (by first | refine ev_lc (l := ls.zip fs) (gg := fun p => .tup [rwL p.1, .int p.2]) (f := fun p => rwL (p.1.map (· * p.2))) (evi_zip (ev_var rfl) itr_L (ev_var rfl) itr_L) (pairs_zip ls fs) (fun p hp => aev2 (Ev.eq (ev_lc (l := p.1) (gg := D.int) (f := fun x => .int (x * p.2)) (evi_it (ev_var rfl) itr_L) rfl (fun x hx => aev1 (ev_g2 (ev_var rfl) (ev_var rfl) (.mk fun k q => ⟨MulOk.of (m := 4) (n := 4) (by have := (hrow _ (List.of_mem_zip (a := p.1) (b := p.2) hp).1).2 x hx; exact Sz.of_lt (by omega) (by omega)) (by have := hf _ (List.of_mem_zip (a := p.1) (b := p.2) hp).2; exact Sz.of_lt (by omega) (by omega)) (by decide), q⟩))) (by have := (hrow _ (List.of_mem_zip (a := p.1) (b := p.2) hp).1).1; omega)) (by unfold rwL dints; rw [List.map_map]; rfl))) (by rw [List.length_zip]; omega))
      (try (rw [List.length_map, List.length_map, List.length_zip]; omega))
    · exists pt
    have lrs : rs.length ≤ 6 := by rw [← hrs]; exact rowsM_len hl3
    have hrw : ∀ r ∈ rs, r.length = n ∧ Sms 4 r := by rw [← hrs]; exact rowsM_row hrow hf
    clear hrs hrow hf lf hls c0 c1
    have mark3 : True := trivial
    refine c_asg ?_
    exists nx; exists cps
    refine c_mixedL (by omega) fun qs hq => ?_
    exists nx; exists cps
    have hqr : ∀ r ∈ qs, r.length = n ∧ Sms 4 r := fun r hr => hrw r (hq.mem_iff.mp hr)
    have lqs : qs.length = rs.length := hq.length_eq
    have b00 : 0 < bo := by omega
    have zb : Sz 900 bo := Sz.of_lt (by omega) (by omega)
    have n1 : 1 ≤ n := by omega
    have n4 : n ≤ 4 := by omega
    refine c_sr (sr_lover b00 zb ⟨by omega, fun r hr => by have := (hqr r hr).1; omega⟩) ?_
    exists nx; exists cps
    refine c_sri (sri_Linit (mr_L n1 n4 (fun r hr => (hqr r hr).1) (by omega))) ?_
    exists nx; (with_reducible apply n_st); exists st
    have mark4 : True := trivial
    have hr190 : ∀ r ∈ rs, Sms 190 r ∧ r.length = n := fun r hr => ⟨(hrw r hr).2.mono (by decide), (hrw r hr).1⟩
    have sD : SR s_Ldir [linesD bo n qs] (.lst ((outR rs).map (rowO bo))) := by
      rw [← out_perm hq]
      exact sr_Ldir b00 zb (by omega) (fun r hr => ⟨(hqr r hr).2.mono (by decide), (hqr r hr).1⟩) (by omega)
    have sE : SR s_ldirs [.lst (rs.map rwL)] (.lst ((outR rs).map rwL)) := sr_ldirs (n := n) (by omega) (by omega) hr190 (by omega)
    have hO : ∀ q ∈ outR rs, Sms (4 + 7 + 4) q ∧ q.length = n := out_row (fun r hr => ⟨(hrw r hr).2, (hrw r hr).1⟩) (by omega)
    have lO := out_len rs
    have lenO : ∀ a, lenL (outR rs) a = lenL rs a := lenL_out rs
    clear hqr hq lqs hr190
    generalize outR rs = O at sD sE hO lO lenO
    with_reducible apply s_parFD (ds := O.map (rowO bo)) (d := .lst (O.map rwL))
    · exact ev_mc (ev_var rfl) (by decide) eva_nil sD
    · exact ev_ca (eva_cons (ev_var rfl) eva_nil) sE
    · exists pt
    · exists pt
    have mark5 : True := trivial
    exists nx; (with_reducible first | apply s_ifFN | apply s_ifLFN); exists ev, (by first | exact ev_allT (l := O) (gg := rowO bo) (evi_own rfl) rfl (fun r hr => aev1 ((ev_isi (ev_var rfl) rfl).eq rfl)) (by omega) | exact (ev_isi (ev_varO rfl) rfl).eq rfl)
    · rfl
    have mark6 : True := trivial
    have hOl : O.length ≤ 10000 ∧ ∀ r ∈ O, r.length ≤ 10000 := ⟨by omega, fun r hr => by have := (hO r hr).2; omega⟩
    have hOl3 : O.length ≤ 1000000 := by omega
    have zO : ∀ r ∈ O, ∀ x ∈ r, Sz 3990 x := fun r hr x hx => ((hO r hr).1 x hx).mono (by decide)
    have zb9 : Sz 3990 bo := zb.mono (by decide)
    have b01 : bo ≠ 0 := by omega
    have nlP : noL (.lst (O.map fun r => D.lst (r.map (pairO bo)))) = true := noLs_pP O
    exists nx; (with_reducible first | apply s_ifFN | apply s_ifLFN); exists ev, (by first | (apply ev_lkP; (rfl); (exists pt); (intro fa; exact ev_ca (eva_cons (ev_var rfl) eva_nil) (sr_lpairs hOl)); (exact nlP)) | refine ev_lc (l := O) (gg := rwL) (f := fun r => .lst (r.map (pairO bo))) (evi_it (ev_var rfl) itr_L) rfl (fun r hr => aev1 (ev_lc (l := r) (gg := D.int) (f := pairO bo) (evi_it (ev_var rfl) itr_L) rfl (fun x hx => aev1 (ev_ca (eva_cons (ev_var rfl) (eva_cons (ev_var rfl) eva_nil)) (sr_low b01 (zO r hr x hx) zb9))) (by have := hOl.2 r hr; omega))) hOl3)
    · show (decide (_ ≤ 100000) && goodDs _) = true
      rw [good_prows _ hOl.2, List.length_map, decide_eq_true (by omega)]; rfl
    · have := dep_prows (b := bo) O
      show deps _ + 1 < 8
      omega
    · rfl
    have mark7 : True := trivial
    with_reducible apply s_psh (ds := O.map (rowO bo)) (d := .non)
    · rfl
    · exact ev_c
    · rw [List.length_map]; omega
    · exists pt
    refine c_asg ?_
    exists nx; exists cps
    refine c_places (by omega) (by omega) (by decide) (by decide) fun x hx1 hx2 => ?_
    exists nx; (with_reducible apply n_st); exists st
    have mark8 : True := trivial
    have zx : Sms 400 x := (sms_of (m := 9) (n := 100) (by decide) hx2).mono (by decide)
    have hxn : x.length = n := by omega
    have sa : SR s_arrow [.lst (dints x)] (arr x) := sr_arrow (by omega) (by omega)
    have mo : MOk bo n O := ⟨b00, zb, n1, n4, fun r hr => ⟨(hO r hr).2, (hO r hr).1.mono (by decide)⟩, by omega⟩
    have mr : MOk bo n rs := ⟨b00, zb, n1, n4, fun r hr => ⟨(hrw r hr).1, (hrw r hr).2.mono (by decide)⟩, by omega⟩
    have sl : SR s_Llen [linesD bo n O, arr x] (ratO bo (lenL rs x)) := by rw [← lenO x]; exact sr_Llen mo zx hxn
    have l0 : SRI s_Linit "Lines" [.int n, .lst (O.map (rowO bo))] LNS [.int n, .lst (O.map (rowO bo))] := sri_Linit (mr_T n1 n4 (fun r hr => (hO r hr).2) (by omega))
    have sf : SR s_llen [.lst (rs.map rwL), rwL x] (.int (lenL rs x)) := sr_llen (by omega) zx fun r hr => ⟨by have := (hrw r hr).1; omega, (hrw r hr).2.mono (by decide)⟩
    have zL : Sz 900 (lenL rs x) := lenL_sz mr zx
    obtain ⟨L, hL⟩ : ∃ L, lenL rs x = L := ⟨_, rfl⟩
    rw [hL] at sl sf zL
    have slo : SR s_low [.int L, .int bo] (pairO bo L) := sr_low b01 (zL.mono (by decide)) zb9
    exists nx; (with_reducible first | apply s_ifFN | apply s_ifLFN); exists ev, (by first | with_reducible exact sD | with_reducible exact l0 | with_reducible exact sl | with_reducible exact sf | with_reducible exact slo | with_reducible exact sa | exact sr_pair)
    · rfl
    have mark9 : True := trivial
    exact ⟨hN _ ⟨_, _, _, _, _, _, _, _, _, rfl⟩⟩
  · rintro σ ⟨a2, a3, a4, a5, a6, a10, a11, a12, a13, rfl⟩
    refine Stp.run ?_
    have l4 : SRI s_Linit "Lines" [.int 2, .lst [.tup [.int 0, .int (-2)], .tup [.int 3, .int 1], .tup [.int (-6), .int (-2)], .tup [.int 0, .int 0]]] LNS [.int 2, .lst (rows4.map (rowO 1))] := sri_Linit mr_4
    have d4 : SR s_Ldir [linesD 1 2 rows4] (.lst (dirs4.map (rowO 1))) := by
      rw [← out4]
      exact sr_Ldir (by decide) (szW (by decide)) (by decide) (fun r hr => by
        simp only [rows4, List.mem_cons, List.not_mem_nil, or_false] at hr
        rcases hr with rfl | rfl | rfl | rfl <;> exact ⟨sms_of (m := 9) (n := 190) (by decide) (by decide), rfl⟩) (by decide)
    (try with_reducible refine nx_mk ?_)
    with_reducible apply s_asgF (ds := dirs4.map (rowO 1))
    · exists ev, (by first | exact l4 | exact d4)
    · exists pt
    have marka : True := trivial
    have hE : Ev (gLc (gItO 11) (Tgt.nm 7) gYes (gLc (gIt (gVar 7)) (Tgt.nm 8) gYes (gFld "Ratio" ["top", "bottom"] 0 (gVar 8)) (List.map (fun x => x.snd) [(("_law_one" : Str), 8)])) (List.map (fun x => x.snd) [(("_law_row" : Str), 7)])) [SD.unset, SD.sh D.bag, a2, a3, a4, a5, a6, SD.unset, SD.unset, SD.unset, a10, SD.own (List.map (rowO 1) dirs4), a12, a13] (.lst (dirs4.map rwL)) := by
      refine ev_lc (l := dirs4) (gg := rowO 1) (f := rwL) (evi_own rfl) rfl (fun r hr => aev1 ?_) (Nat.le_of_ble_eq_true rfl)
      refine Ev.eq (ev_lc (l := r) (gg := ratO 1) (f := D.int) (evi_it (ev_var rfl) (.inr rfl)) rfl (fun x hx => aev1 ?_) ?_) rfl
      · exact (ev_fld (ds := [.int (lowP x 1).1, .int (lowP x 1).2]) (ev_var rfl) rfl).eq (by rw [low_one])
      · simp only [dirs4, List.mem_cons, List.not_mem_nil, or_false] at hr
        rcases hr with rfl | rfl <;> exact Nat.le_of_ble_eq_true rfl
    exists nx; (with_reducible apply s_ret); exists ev, (by first | exact hE)
    have markb : True := trivial
    exact ⟨rfl⟩
end LK
/-! K16E -/
section
set_option Elab.async false
set_option linter.all false
set_option maxRecDepth 100000
set_option maxHeartbeats 0
open PySem PySem.W PySem.Calls PyProof.Rows
theorem PySem.Challenge.cw_anystride_k16_directions_of_lines_holds : PySem.Challenge.rw_anystride_k16_directions_of_lines.Holds := by
  w_on; o_law
  refine HandSHeadRun.head_imp (r := OpenLaw.row PySem.Challenge.rw_anystride_k16_directions_of_lines) (q := view (OpenLaw.row PySem.Challenge.rw_anystride_k16_directions_of_lines).prog [0, 54]) (H := LK.hk) (ob := LK.ob) (M := 20000) (loose := LK.names) (d := HandSHeadRun.topDef (OpenLaw.row PySem.Challenge.rw_anystride_k16_directions_of_lines).prog 54) (kwd := []) LK.ob_eq
    LK.run (by kernel_rfl) (by kernel_rfl) (by kernel_rfl) (by rfl) (by first | assumption | decide +kernel) (by decide +kernel) ⟨rfl, rfl, rfl, rfl, rfl, by decide +kernel⟩ ?hw ?hc
  case hw => w_witness2
  case hc =>
    haveI : DL.TabC := ⟨[]⟩
    refine DL.walk_ofX (l := PySem.Challenge.rw_anystride_k16_directions_of_lines) (n := 63) (k := 12) (x := "_law_script") (CX := fun w => L2.CX (PySem.Challenge.rw_anystride_k16_directions_of_lines).prog w) rfl (by decide) (by kernel_rfl) ⟨rfl, by decide, by decide⟩ ?F (fun w H s e s' h => by
      obtain ⟨_, _, _, _, _, _, _, _, _, _, _, _, q⟩ := h
      exact q)
    intro w mg fa h Y G hmg0
    obtain ⟨K, KX, c, c2, c3⟩ := Y
    letI : DL.TabC := ⟨[]⟩
    have F := LK.facts_of KX G c c2 c3
    have e : fa = He.ga K "law" := by
      have e1 : (HandSHeadRun.topDef (OpenLaw.row PySem.Challenge.rw_anystride_k16_directions_of_lines).prog 54).name = ("law" : PySem.Str) := by kernel_rfl
      rw [e1, F.g_law] at hmg0
      cases hmg0
      rfl
    subst e
    refine ⟨K, KX, DL.fdOf K (He.ga K "law"), [], DL.spLaw K, fun p hp => (by cases hp), fun p hp => (by cases hp), fun p hp => (by cases hp), fun s u => ?_, fun H a ns hl hb hT hS => ?_, fun base hK hN tb => ?_⟩
    · exact F.d_law.bindsA (ps := ["_law_script"]) (fun _ _ _ _ _ _ us hl => match us, hl with | [_], _ => rfl) s [u] rfl
    · exact ⟨a, ns, rfl, hS, by omega, fun p hp => (by cases hp), fun H' => rfl⟩
    · have h := LK.ok_law (w := w) (base := base) F
      rw [LK.P_eq] at h
      exact h
end
