import PyProof.Rows.All
import Wide.All
import OpenK.AllK
import Wide.FinOn
import PyProof.EqAt
import PyProof.EqKinds
import PyProof.TupleCall
import HandS.ForMost
import HandS.WordsExc
import HandS.Exc
import HandS.ExcInit
import HandS.Defaults
import HandS.HeadHook1
import HandS.HeadHook2
import HandS.HeadHook3
import HandS.HeadHook4
import HandS.HeadEnd
import HandS.Head0
import HandS.Head1
import HandS.Head2
import HandS.Wide
import HandS.Gcd
import HandS.Lambda
import HandS.IsInst
import HandS.Deep
import HandS.ClsMeth
import HandS.Zip
import HandS.FStr
import HandS.Text
import HandS.Style
import HandS.LawCells
import KE.KExcInit
import HandS.ExcField
import HandS.TryMany
import HandS.ExcOwn
import HandS.HotCalls
import KE.KTryMore
import HandS.EndTab
import HandS.Head3
import KE.KOpsOwn
import PyProof.InstEq
import KE.KCallOwn
import HandS.Small
import HandS.Property
import HandS.Star
import HandS.MakeKw
import KE.GoesEnum
import HandS.TupAny
import PyProof.StrBlock2
import PyProof.Conv_bool
import HandS.HeadNt
import HandS.Codes
import KE.IntTextLaws
import HandS.Nested
import KE.KSuper
import HandS.TupMul
import PyProof.SumWalkG
import HandS.Dict
import HandS.DictComp
import HandS.List
import PyProof.Rows.StrMeet
import KE.KEqDict
import HandS.DictEq
import HandS.TryOnly
import HandS.StrSplit
import HandS.Finally
import PySem.Challenge.RW_anystride_k31_forms_told
/-! DA -/
set_option Elab.async false
set_option linter.all false
set_option maxRecDepth 100000
set_option maxHeartbeats 4000000
/-! Data beneath the heap: values as trees, and what stands for them. -/
namespace DL
open PySem PySem.Spec PyProof.Rows L2
/-- a lambda without parameters: what its function object holds -/
structure LamO where
  q : Str
  params : Arguments
  body : Expr
  scope : Scope
  cl : List (Str × Addr)
  pm : Value
  c' : Addr
  ctv : Value
def LamO.obj (o : LamO) : Obj := PySem.W.kla_obj "<lambda>" o.q o.params o.body o.scope o.cl o.pm o.c' o.ctv
/-- the object at f is that function -/
def FnH (f : Addr) (o : LamO) : HO := .ext fun h => h.get? f = some o.obj
inductive D where
  | non | bl (b : Bool) | int (i : Int) | str (x : Str)
  | tup (xs : List D) | lst (xs : List D) | dic (ks : List Key) (xs : List D)
  | ins (c : Str) (ns : List Str) (xs : List D)
  | bag
  | clo (o : LamO)
  | frl (a : Addr) (xs : List D)
  | frd (ks : List Key) (xs : List D)
  | exc (c : Str) (ns : List Str) (xs : List D)
abbrev Fg := PySem.W.Frag
/-- a list that nobody has locked -/
def SqS (K : Fg) (H : Hp) (a : Addr) (xs : List V) : Prop :=
  (H a = some (.lst xs) ∨ False) ∨
    ∃ (o : Obj) (its : Array Value) (n : Nat), K.lookup a = some o ∧ o.cls = .type "list" ∧ o.dict = none ∧ o.data = .seq its n ∧ its.size ≤ sizeLine ∧ Vals xs its.toList
theorem SqS.l {K : Fg} {H : Hp} {a : Addr} {xs : List V} (h : SqS K H a xs) : SqL K H a xs := h.imp (fun h => h.imp id fun h => h.elim) id
section
variable (K : Fg) (b : Option Addr) (H : Hp)
mutual
def Rep : D → V → Prop
  | .non, v => v = .non
  | .bl x, v => v = .bl x
  | .int i, v => v = .int i
  | .str x, v => v = .str x
  | .tup ds, v => ∃ a vs, v = .ref a ∧ some a ≠ b ∧ SqT K H a vs ∧ Reps ds vs
  | .lst ds, v => ∃ a vs, v = .ref a ∧ some a ≠ b ∧ SqS K H a vs ∧ Reps ds vs
  | .dic ks ds, v => ∃ a o vs, v = .ref a ∧ some a ≠ b ∧ H a = some (.frz o (.dK (ks.zip vs))) ∧ ks.length = vs.length ∧ Reps ds vs
  | .ins c ns ds, v => ∃ a dx vs, v = .ref a ∧ some a ≠ b ∧ H a = some (.ins (He.ga K c) dx (ns.zip vs)) ∧ ns.length = vs.length ∧ Reps ds vs
  | .bag, v => ∃ a, v = .ref a ∧ b = some a
  | .clo o, v => ∃ f, v = .ref f ∧ some f ≠ b ∧ H f = some (FnH f o) ∧ some o.c' ≠ b ∧ H o.c' = some (LamX.CodeO o.c' o.q)
  | .frl f ds, v => ∃ o vs, v = .ref f ∧ some f ≠ b ∧ H f = some (.frz o (.lst vs)) ∧ Reps ds vs
  | .frd ks ds, v => ∃ a vs, v = .ref a ∧ some a ≠ b ∧ H a = some (.dK (ks.zip vs)) ∧ ks.length = vs.length ∧ Reps ds vs
  | .exc c ns ds, v => ∃ a dx vs, v = .ref a ∧ some a ≠ b ∧ some dx ≠ b ∧ H a = some (exo a (He.ga K c) (some dx)) ∧ H dx = some (exd dx (ns.zip vs)) ∧ ns.length = vs.length ∧ Reps ds vs
def Reps : List D → List V → Prop
  | [], vs => vs = []
  | d :: r, vs => ∃ v q, vs = v :: q ∧ Rep d v ∧ Reps r q
end
end
/-- what may change is the bag alone -/
def nt : HO → Bool
  | .tbl _ => false
  | _ => true
def Le (b : Option Addr) (H H' : Hp) : Prop := ∀ a o, some a ≠ b → H a = some o → nt o = true → H' a = some o
/-- the tables of code objects stay tables of the same names -/
class TabC where
  T : List (Addr × Str)
variable [TabC]
def Tk (H H' : Hp) : Prop := LamX.Tabs TabC.T H → LamX.Tabs TabC.T H'
def BagAt (H : Hp) (a : Addr) : Prop := ∃ (c : Addr) (i j m : Int) (ns : List Int), H a = some (.lst [.ref c, .int i, .int j, .int m]) ∧ c ≠ a ∧ H c = some (.lst (ns.map V.int)) ∧ 0 ≤ i
def Bg (b : Option Addr) (H : Hp) : Prop := ∀ a, b = some a → BagAt H a
/-- the bag stays a bag of the same cells -/
def Bs (b : Option Addr) (H H' : Hp) : Prop := ∀ a, b = some a → ∀ (c : Addr) (i j m : Int), H a = some (.lst [.ref c, .int i, .int j, .int m]) → 0 ≤ i → ∃ i' j' : Int, 0 ≤ i' ∧ H' a = some (.lst [.ref c, .int i', .int j', .int m])
def Ext (b : Option Addr) (H H' : Hp) : Prop := Le b H H' ∧ Bs b H H' ∧ Tk H H'
def hide (O : List Addr) (H : Hp) : Hp := fun a => if a ∈ O then none else H a
theorem Le.refl {b : Option Addr} (H : Hp) : Le b H H := fun _ _ _ h _ => h
theorem Le.trans {b : Option Addr} {H H1 H2 : Hp} (x : Le b H H1) (y : Le b H1 H2) : Le b H H2 := fun a o n h t => y a o n (x a o n h t) t
theorem Ext.refl {b : Option Addr} (H : Hp) : Ext b H H := ⟨.refl H, fun a e c i j m h h0 => ⟨i, j, h0, h⟩, fun h => h⟩
theorem Ext.trans {b : Option Addr} {H H1 H2 : Hp} (x : Ext b H H1) (y : Ext b H1 H2) : Ext b H H2 := ⟨x.1.trans y.1, fun a e c i j m h h0 => by
  obtain ⟨i', j', h1, h2⟩ := x.2.1 a e c i j m h h0
  exact y.2.1 a e c i' j' m h2 h1, fun h => y.2.2 (x.2.2 h)⟩
theorem hide_in {O : List Addr} {H : Hp} {a : Addr} (h : a ∈ O) : hide O H a = none := if_pos h
theorem hide_out {O : List Addr} {H : Hp} {a : Addr} (h : a ∉ O) : hide O H a = H a := if_neg h
theorem of_hide {O : List Addr} {H : Hp} {a : Addr} {o : HO} (h : hide O H a = some o) : a ∉ O ∧ H a = some o := by
  unfold hide at h
  split at h
  · cases h
  · exact ⟨by assumption, h⟩
theorem hide_le {b : Option Addr} {O : List Addr} {H : Hp} : Le b (hide O H) H := fun _ _ _ h _ => (of_hide h).2
theorem Le.hide {b : Option Addr} {H H' : Hp} (O : List Addr) (x : Le b H H') : Le b (hide O H) (hide O H') := fun a o n h t => by
  obtain ⟨h1, h2⟩ := of_hide h
  rw [hide_out h1]
  exact x a o n h2 t
theorem hide_upd {O : List Addr} {H : Hp} {a : Addr} {o : HO} (h : a ∈ O) : DL.hide O (upd H a o) = DL.hide O H := by
  funext c
  unfold DL.hide
  by_cases hc : c ∈ O
  · rw [if_pos hc, if_pos hc]
  · rw [if_neg hc, if_neg hc, upd_ne (fun e => hc (by rw [e]; exact h))]
theorem hide_new {O : List Addr} {H : Hp} {a : Addr} {o : HO} (h : a ∉ O) : DL.hide O (upd H a o) = upd (DL.hide O H) a o := by
  funext c
  unfold DL.hide upd
  by_cases e : c = a
  · subst e; simp [h]
  · simp [e]
theorem hide_mono {b : Option Addr} {O O' : List Addr} {H : Hp} (h : ∀ a ∈ O, a ∈ O') : Le b (DL.hide O' H) (DL.hide O H) := fun a o _ e _ => by
  obtain ⟨h1, h2⟩ := of_hide e
  rw [hide_out (fun z => h1 (h a z))]
  exact h2
theorem Le.new {b : Option Addr} {H : Hp} {p : Addr} {o : HO} (h : H p = none) : Le b H (upd H p o) := fun a u _ e _ => by
  rw [upd_ne (ne_of_none e h)]
  exact e
theorem Bg.le {b : Option Addr} {H H' : Hp} (h : Bg b H) (x : ∀ a o, H a = some o → H' a = some o) : Bg b H' := fun a e => by
  obtain ⟨c, i, j, m, ns, h1, h2, h3, h4⟩ := h a e
  exact ⟨c, i, j, m, ns, x _ _ h1, h2, x _ _ h3, h4⟩
theorem Ext.all {b : Option Addr} {H H' : Hp} (x : ∀ a o, H a = some o → H' a = some o) : Ext b H H' := ⟨fun a o _ h _ => x a o h, fun a e c i j m h h0 => ⟨i, j, h0, x _ _ h⟩, fun t => t.ext x⟩
/-- what may be hidden: nothing else leans on it -/
def Hid (O : List Addr) (H : Hp) (a : Addr) : Prop := ∃ o, H a = some o ∧ match o with
  | .lst _ => True
  | .dK _ => True
  | .ins _ dx _ => dx ∈ O
  | .own x => x ∈ O ∧ ∃ C fs, H x = some (.ins C a fs)
  | _ => False
theorem Hid.ne {O : List Addr} {H : Hp} {a : Addr} (h : Hid O H a) : H a ≠ none := by
  obtain ⟨o, e, _⟩ := h
  rw [e]; simp
theorem Hid.nt {O : List Addr} {H : Hp} {a : Addr} (h : Hid O H a) : ∃ o, H a = some o ∧ nt o = true ∧ ∀ c q, o ≠ LamX.CodeO c q := by
  obtain ⟨o, e, h⟩ := h
  refine ⟨o, e, ?_, fun c q z => ?_⟩
  · cases o <;> first | rfl | exact h.elim
  · subst z
    exact h.elim
theorem tab_hide {O : List Addr} {H : Hp} {P : Addr} {q : Str} (hO : ∀ a ∈ O, ∃ o, H a = some o ∧ DL.nt o = true ∧ ∀ c q, o ≠ LamX.CodeO c q) (t : LamX.TabS H P q) : LamX.TabS (DL.hide O H) P q := by
  obtain ⟨ps, h1, h2, h3⟩ := t
  refine ⟨ps, ?_, h2, fun pos cv hc => ?_⟩
  · rw [hide_out (fun m => ?_)]; exact h1
    obtain ⟨o, e, n, _⟩ := hO P m
    rw [h1] at e; cases e; cases n
  · obtain ⟨c, e1, e2⟩ := h3 pos cv hc
    refine ⟨c, e1, ?_⟩
    rw [hide_out (fun m => ?_)]; exact e2
    obtain ⟨o, e, _, n⟩ := hO c m
    rw [e2] at e; cases e; exact n _ _ rfl
theorem tabs_unhide {O : List Addr} {H : Hp} {T : List (Addr × Str)} (t : LamX.Tabs T (DL.hide O H)) : LamX.Tabs T H := t.ext fun _ _ e => (of_hide e).2
theorem tabs_hide {O : List Addr} {H : Hp} {T : List (Addr × Str)} (hO : ∀ a ∈ O, ∃ o, H a = some o ∧ DL.nt o = true ∧ ∀ c q, o ≠ LamX.CodeO c q) (t : LamX.Tabs T H) : LamX.Tabs T (DL.hide O H) := fun p hp => tab_hide hO (t p hp)
theorem Ext.hide {b : Option Addr} {H H' : Hp} {O : List Addr} (x : Ext b H H') (hO : ∀ a ∈ O, some a ≠ b ∧ Hid O H a) : Ext b (DL.hide O H) (DL.hide O H') := ⟨x.1.hide O, fun a e c i j m h h0 => by
  obtain ⟨h1, h2⟩ := of_hide h
  rw [hide_out h1]
  exact x.2.1 a e c i j m h2 h0, fun t => tabs_hide (fun a m => by
    obtain ⟨n, h⟩ := hO a m
    obtain ⟨o, e, t1, t2⟩ := h.nt
    exact ⟨o, x.1 a o n e t1, t1, t2⟩) (x.2.2 (tabs_unhide t))⟩
theorem Bg.ext {b : Option Addr} {H H' : Hp} (h : Bg b H) (x : Ext b H H') : Bg b H' := fun a e => by
  obtain ⟨c, i, j, m, ns, h1, h2, h3, h4⟩ := h a e
  obtain ⟨i', j', h5, h6⟩ := x.2.1 a e c i j m h1 h4
  exact ⟨c, i', j', m, ns, h6, h2, x.1 c _ (fun z => h2 (Option.some.inj (z.trans e))) h3 rfl, h5⟩
theorem Ext.new {b : Option Addr} {H : Hp} {p : Addr} {o : HO} (h : H p = none) : Ext b H (upd H p o) := .all fun a u e => by
  rw [upd_ne (ne_of_none e h)]
  exact e
theorem Bg.ne {b : Option Addr} {H : Hp} (h : Bg b H) {p : Addr} (hp : H p = none) : some p ≠ b := fun e => by
  obtain ⟨c, i, j, m, ns, h1, _⟩ := h p e.symm
  rw [hp] at h1; cases h1
section
variable {K : Fg} {b : Option Addr} {H H' : Hp}
theorem rd_mono {a : Addr} {u : HO} (x : Le b H H') (hb : some a ≠ b) (h : Rd H a u) (t : nt u = true) : Rd H' a u := by
  rcases h with h | ⟨o, h⟩
  · exact .inl (x _ _ hb h t)
  · exact .inr ⟨o, x _ _ hb h rfl⟩
theorem sqL_mono {a : Addr} {xs : List V} (x : Le b H H') (hb : some a ≠ b) (h : SqL K H a xs) : SqL K H' a xs := by
  rcases h with h | h
  · exact .inl (rd_mono x hb h rfl)
  · exact .inr h
theorem sqS_mono {a : Addr} {xs : List V} (x : Le b H H') (hb : some a ≠ b) (h : SqS K H a xs) : SqS K H' a xs := by
  rcases h with (h | h) | h
  · exact .inl (.inl (x _ _ hb h rfl))
  · exact h.elim
  · exact .inr h
theorem sqT_mono {a : Addr} {xs : List V} (x : Le b H H') (hb : some a ≠ b) (h : SqT K H a xs) : SqT K H' a xs := by
  rcases h with h | h
  · exact .inl (rd_mono x hb h rfl)
  · exact .inr h
mutual
theorem Rep.mono (x : Le b H H') : ∀ {d : D} {v : V}, Rep K b H d v → Rep K b H' d v
  | .non, _, h => h
  | .bl _, _, h => h
  | .int _, _, h => h
  | .str _, _, h => h
  | .tup ds, v, h => by
    simp only [Rep] at h ⊢
    obtain ⟨a, vs, e, n, q, r⟩ := h
    exact ⟨a, vs, e, n, sqT_mono x n q, Reps.mono x r⟩
  | .lst ds, v, h => by
    simp only [Rep] at h ⊢
    obtain ⟨a, vs, e, n, q, r⟩ := h
    exact ⟨a, vs, e, n, sqS_mono x n q, Reps.mono x r⟩
  | .dic ks ds, v, h => by
    simp only [Rep] at h ⊢
    obtain ⟨a, o, vs, e, n, q, l, r⟩ := h
    exact ⟨a, o, vs, e, n, x _ _ n q rfl, l, Reps.mono x r⟩
  | .ins c ns ds, v, h => by
    simp only [Rep] at h ⊢
    obtain ⟨a, dx, vs, e, n, q, l, r⟩ := h
    exact ⟨a, dx, vs, e, n, x _ _ n q rfl, l, Reps.mono x r⟩
  | .bag, _, h => h
  | .clo o, v, h => by
    simp only [Rep] at h ⊢
    obtain ⟨f, e, n, q, n2, q2⟩ := h
    exact ⟨f, e, n, x _ _ n q rfl, n2, x _ _ n2 q2 rfl⟩
  | .frl f ds, v, h => by
    simp only [Rep] at h ⊢
    obtain ⟨o, vs, e, n, q, r⟩ := h
    exact ⟨o, vs, e, n, x _ _ n q rfl, Reps.mono x r⟩
  | .frd ks ds, v, h => by
    simp only [Rep] at h ⊢
    obtain ⟨a, vs, e, n, q, l, r⟩ := h
    exact ⟨a, vs, e, n, x _ _ n q rfl, l, Reps.mono x r⟩
  | .exc c ns ds, v, h => by
    simp only [Rep] at h ⊢
    obtain ⟨a, dx, vs, e, n, n2, q, q2, l, r⟩ := h
    exact ⟨a, dx, vs, e, n, n2, x _ _ n q rfl, x _ _ n2 q2 rfl, l, Reps.mono x r⟩
theorem Reps.mono (x : Le b H H') : ∀ {ds : List D} {vs : List V}, Reps K b H ds vs → Reps K b H' ds vs
  | [], _, h => h
  | d :: r, vs, h => by
    simp only [Reps] at h ⊢
    obtain ⟨v, q, e, h1, h2⟩ := h
    exact ⟨v, q, e, Rep.mono x h1, Reps.mono x h2⟩
end
theorem Reps.length : ∀ {ds : List D} {vs : List V}, Reps K b H ds vs → ds.length = vs.length
  | [], _, h => by simp only [Reps] at h; rw [h]; rfl
  | d :: r, vs, h => by
    simp only [Reps] at h
    obtain ⟨v, q, rfl, _, h2⟩ := h
    simp [Reps.length h2]
theorem Reps.nil : Reps K b H [] [] := by simp only [Reps]
theorem Reps.cons {d : D} {ds : List D} {v : V} {vs : List V} (h : Rep K b H d v) (r : Reps K b H ds vs) : Reps K b H (d :: ds) (v :: vs) := by
  simp only [Reps]
  exact ⟨v, vs, rfl, h, r⟩
theorem Reps.of_cons {d : D} {ds : List D} {vs : List V} (h : Reps K b H (d :: ds) vs) : ∃ v q, vs = v :: q ∧ Rep K b H d v ∧ Reps K b H ds q := by
  simpa only [Reps] using h
theorem Reps.of_nil {vs : List V} (h : Reps K b H [] vs) : vs = [] := by
  simpa only [Reps] using h
theorem Reps.append : ∀ {ds es : List D} {vs us : List V}, Reps K b H ds vs → Reps K b H es us → Reps K b H (ds ++ es) (vs ++ us)
  | [], _, _, _, h, q => by rw [h.of_nil]; exact q
  | d :: r, _, vs, _, h, q => by
    obtain ⟨v, w, rfl, h1, h2⟩ := h.of_cons
    exact Reps.cons h1 (Reps.append h2 q)
theorem Reps.get : ∀ {ds : List D} {vs : List V} {i : Nat} {d : D}, Reps K b H ds vs → ds[i]? = some d → ∃ v, vs[i]? = some v ∧ Rep K b H d v
  | [], _, _, _, _, e => by simp at e
  | d :: r, vs, 0, d', h, e => by
    obtain ⟨v, w, rfl, h1, h2⟩ := h.of_cons
    simp at e; subst e
    exact ⟨v, rfl, h1⟩
  | d :: r, vs, i + 1, d', h, e => by
    obtain ⟨v, w, rfl, h1, h2⟩ := h.of_cons
    obtain ⟨u, e1, e2⟩ := Reps.get h2 (by simpa using e)
    exact ⟨u, by simpa using e1, e2⟩
theorem Reps.take : ∀ {ds : List D} {vs : List V} (n : Nat), Reps K b H ds vs → Reps K b H (ds.take n) (vs.take n)
  | _, _, 0, _ => Reps.nil
  | [], _, n + 1, h => by rw [h.of_nil]; exact Reps.nil
  | d :: r, vs, n + 1, h => by
    obtain ⟨v, w, rfl, h1, h2⟩ := h.of_cons
    exact Reps.cons h1 (Reps.take n h2)
theorem Reps.drop : ∀ {ds : List D} {vs : List V} (n : Nat), Reps K b H ds vs → Reps K b H (ds.drop n) (vs.drop n)
  | _, _, 0, h => h
  | [], _, n + 1, h => by rw [h.of_nil]; exact Reps.nil
  | d :: r, vs, n + 1, h => by
    obtain ⟨v, w, rfl, h1, h2⟩ := h.of_cons
    exact Reps.drop n h2
theorem Reps.set {d : D} {v : V} (r : Rep K b H d v) : ∀ {ds : List D} {vs : List V} (i : Nat), Reps K b H ds vs → Reps K b H (ds.set i d) (vs.set i v)
  | [], _, _, h => by rw [h.of_nil]; exact Reps.nil
  | e :: q, vs, 0, h => by
    obtain ⟨w, u, rfl, h1, h2⟩ := h.of_cons
    exact Reps.cons r h2
  | e :: q, vs, i + 1, h => by
    obtain ⟨w, u, rfl, h1, h2⟩ := h.of_cons
    exact Reps.cons h1 (Reps.set r i h2)
theorem Rep.int {i : Int} {v : V} (h : Rep K b H (.int i) v) : v = .int i := h
theorem Rep.bl {i : Bool} {v : V} (h : Rep K b H (.bl i) v) : v = .bl i := h
theorem Rep.str {i : Str} {v : V} (h : Rep K b H (.str i) v) : v = .str i := h
theorem Rep.non {v : V} (h : Rep K b H .non v) : v = .non := h
theorem Rep.tup {ds : List D} {v : V} (h : Rep K b H (.tup ds) v) : ∃ a vs, v = .ref a ∧ some a ≠ b ∧ SqT K H a vs ∧ Reps K b H ds vs := by simpa only [Rep] using h
theorem Rep.lst {ds : List D} {v : V} (h : Rep K b H (.lst ds) v) : ∃ a vs, v = .ref a ∧ some a ≠ b ∧ SqL K H a vs ∧ Reps K b H ds vs := by
  simp only [Rep] at h
  obtain ⟨a, vs, e, n, q, r⟩ := h
  exact ⟨a, vs, e, n, q.l, r⟩
theorem Rep.frl {a : Addr} {ds : List D} {v : V} (h : Rep K b H (.frl a ds) v) : ∃ o vs, v = .ref a ∧ some a ≠ b ∧ H a = some (.frz o (.lst vs)) ∧ Reps K b H ds vs := by simpa only [Rep] using h
theorem Rep.frd {ks : List Key} {ds : List D} {v : V} (h : Rep K b H (.frd ks ds) v) : ∃ a vs, v = .ref a ∧ some a ≠ b ∧ H a = some (.dK (ks.zip vs)) ∧ ks.length = vs.length ∧ Reps K b H ds vs := by simpa only [Rep] using h
theorem Rep.exc {c : Str} {ns : List Str} {ds : List D} {v : V} (h : Rep K b H (.exc c ns ds) v) : ∃ a dx vs, v = .ref a ∧ some a ≠ b ∧ some dx ≠ b ∧ H a = some (exo a (He.ga K c) (some dx)) ∧ H dx = some (exd dx (ns.zip vs)) ∧ ns.length = vs.length ∧ Reps K b H ds vs := by simpa only [Rep] using h
theorem Rep.ins {c : Str} {ns : List Str} {ds : List D} {v : V} (h : Rep K b H (.ins c ns ds) v) : ∃ a dx vs, v = .ref a ∧ some a ≠ b ∧ H a = some (.ins (He.ga K c) dx (ns.zip vs)) ∧ ns.length = vs.length ∧ Reps K b H ds vs := by simpa only [Rep] using h
theorem Rep.mkTup {ds : List D} {a : Addr} {vs : List V} (hb : some a ≠ b) (h : SqT K H a vs) (r : Reps K b H ds vs) : Rep K b H (.tup ds) (.ref a) := by
  simp only [Rep]
  exact ⟨a, vs, rfl, hb, h, r⟩
theorem Rep.mkLst {ds : List D} {a : Addr} {vs : List V} (hb : some a ≠ b) (h : SqS K H a vs) (r : Reps K b H ds vs) : Rep K b H (.lst ds) (.ref a) := by
  simp only [Rep]
  exact ⟨a, vs, rfl, hb, h, r⟩
theorem Rep.mkIns {c : Str} {ns : List Str} {ds : List D} {a dx : Addr} {vs : List V} (hb : some a ≠ b) (h : H a = some (.ins (He.ga K c) dx (ns.zip vs))) (l : ns.length = vs.length) (r : Reps K b H ds vs) : Rep K b H (.ins c ns ds) (.ref a) := by
  simp only [Rep]
  exact ⟨a, dx, vs, rfl, hb, h, l, r⟩
end
/-! ### the frame's slots as data -/
inductive SD where
  | unset | sh (d : D) | own (ds : List D) | obj (a dx : Addr) (c : Str) (ns : List Str) (ds : List D) | owd (ks : List Key) (ds : List D)
abbrev StD := List SD
def look : StD → Nat → SD
  | [], _ => .unset
  | x :: _, 0 => x
  | _ :: r, n + 1 => look r n
def put : StD → Nat → SD → StD
  | [], _, _ => []
  | _ :: r, 0, y => y :: r
  | x :: r, n + 1, y => x :: put r n y
theorem put_length : ∀ (σ : StD) (i : Nat) (x : SD), (put σ i x).length = σ.length
  | [], _, _ => rfl
  | _ :: _, 0, _ => rfl
  | _ :: r, n + 1, y => by simp [put, put_length r n y]
theorem look_put : ∀ {σ : StD} {i : Nat} {x : SD} (j : Nat), i < σ.length → look (put σ i x) j = if j = i then x else look σ j
  | [], _, _, _, h => by simp at h
  | _ :: _, 0, _, 0, _ => by simp [put, look]
  | _ :: _, 0, _, j + 1, _ => by simp [put, look]
  | _ :: _, i + 1, _, 0, _ => by simp [put, look]
  | _ :: r, i + 1, x, j + 1, h => by
    have ih := look_put (σ := r) (i := i) (x := x) j (by simpa using h)
    simp only [put, look, ih, Nat.add_right_cancel_iff]
theorem look_out : ∀ {σ : StD} {i : Nat}, σ.length ≤ i → look σ i = .unset
  | [], _, _ => rfl
  | _ :: _, 0, h => by simp at h
  | _ :: r, i + 1, h => by simp only [look]; exact look_out (by simpa using h)
def SlotOk (K : Fg) (b : Option Addr) (O : List Addr) (H : Hp) : SD → Option V → Prop
  | .unset, _ => True
  | .sh d, x => ∃ v, x = some v ∧ Rep K b (hide O H) d v
  | .own ds, x => ∃ a vs, x = some (.ref a) ∧ a ∈ O ∧ H a = some (.lst vs) ∧ Reps K b (hide O H) ds vs
  | .obj a dx c ns ds, x => ∃ vs, x = some (.ref a) ∧ a ∈ O ∧ dx ∈ O ∧ H a = some (.ins (He.ga K c) dx (ns.zip vs)) ∧ H dx = some (.own a) ∧ ns.length = vs.length ∧ Reps K b (hide O H) ds vs
  | .owd ks ds, x => ∃ a vs, x = some (.ref a) ∧ a ∈ O ∧ H a = some (.dK (ks.zip vs)) ∧ Reps K b (hide O H) ds vs
def Owns : SD → Option V → Addr → Prop
  | .own _, some (.ref a), c => c = a
  | .obj _ _ _ _ _, some (.ref a), c => c = a
  | .owd _ _, some (.ref a), c => c = a
  | _, _, _ => False
structure Rst (K : Fg) (b : Option Addr) (H0 : Hp) (σd : StD) (σ : L2.St) (H : Hp) (O : List Addr) : Prop where
  len : σd.length = σ.length
  slot : ∀ i, SlotOk K b O H (look σd i) (σ.getD i none)
  uniq : ∀ i j a, Owns (look σd i) (σ.getD i none) a → Owns (look σd j) (σ.getD j none) a → i = j
  nb : ∀ a ∈ O, some a ≠ b ∧ True ∧ Hid O H a
  le : Ext b H0 (hide O H)
  bg : Bg b (hide O H)
section
variable {K : Fg} {b : Option Addr} {H0 H H' : Hp} {σd : StD} {σ : L2.St} {O : List Addr}
theorem SlotOk.mono (x : Ext b H H') (nb : ∀ a ∈ O, some a ≠ b) : ∀ {s : SD} {v : Option V}, SlotOk K b O H s v → SlotOk K b O H' s v
  | .unset, _, _ => trivial
  | .sh d, _, ⟨v, e, r⟩ => ⟨v, e, r.mono (x.1.hide O)⟩
  | .own ds, _, ⟨a, vs, e, m, h, r⟩ => ⟨a, vs, e, m, x.1 _ _ (nb a m) h rfl, r.mono (x.1.hide O)⟩
  | .obj a dx c ns ds, _, ⟨vs, e, m, md, h, hd, l, r⟩ => ⟨vs, e, m, md, x.1 _ _ (nb a m) h rfl, x.1 _ _ (nb dx md) hd rfl, l, r.mono (x.1.hide O)⟩
  | .owd ks ds, _, ⟨a, vs, e, m, h, r⟩ => ⟨a, vs, e, m, x.1 _ _ (nb a m) h rfl, r.mono (x.1.hide O)⟩
theorem Rst.hx (R : Rst K b H0 σd σ H O) (x : Ext b H H') : Ext b (hide O H) (hide O H') := x.hide fun a m => ⟨(R.nb a m).1, (R.nb a m).2.2⟩
theorem Rst.mono (R : Rst K b H0 σd σ H O) (x : Ext b H H') : Rst K b H0 σd σ H' O where
  len := R.len
  slot := fun i => (R.slot i).mono x fun a m => (R.nb a m).1
  uniq := R.uniq
  nb := fun a m => ⟨(R.nb a m).1, (R.nb a m).2.1, by
    obtain ⟨o, e, q⟩ := (R.nb a m).2.2
    refine ⟨o, x.1 a o (R.nb a m).1 e (by cases o <;> first | rfl | exact q.elim), ?_⟩
    cases o <;> first | exact q | (obtain ⟨q1, C, fs, q2⟩ := q; exact ⟨q1, C, fs, x.1 _ _ (R.nb _ q1).1 q2 rfl⟩)⟩
  le := R.le.trans (R.hx x)
  bg := R.bg.ext (R.hx x)
theorem Rst.free (R : Rst K b H0 σd σ H O) {p : Addr} (h : H p = none) : p ∉ O ∧ some p ≠ b := ⟨fun m => (R.nb p m).2.2.ne h, R.bg.ne (by unfold DL.hide; split; rfl; exact h)⟩
end
end DL
/-! DB -/
set_option Elab.async false
set_option linter.all false
set_option maxRecDepth 100000
set_option maxHeartbeats 4000000
/-! The judgements: an expression of the program, read as data. -/
namespace DL
open PySem PySem.Spec PyProof.Rows L2
variable [TabC]
abbrev GE := StD → (D → Prop) → Prop
abbrev GA := StD → (List D → Prop) → Prop
abbrev GT := StD → (Bool → Prop) → Prop
def Mn {α : Type} (g : StD → (α → Prop) → Prop) : Prop := ∀ σ k k', (∀ d, k d → k' d) → g σ k → g σ k'
section
variable (K : Fg) (b : Option Addr) (H0 : Hp)
/-- strong: what is read stands apart from the frame's own lists; weak: it stands in the heap -/
def LE (g : GE) : TE := fun σ H Q => ∃ σd O, Rst K b H0 σd σ H O ∧ g σd fun d => ∀ v H', Ext b H H' → Rep K b (hide O H') d v → Q v H'
def LT (g : GE) : TE := fun σ H Q => ∃ σd O, Rst K b H0 σd σ H O ∧ g σd fun d => ∀ v H', Ext b H H' → Rep K b H' d v → Q v H'
def LA (g : GA) : TA := fun σ H Q => ∃ σd O, Rst K b H0 σd σ H O ∧ g σd fun ds => ∀ vs H', Ext b H H' → Reps K b (hide O H') ds vs → Q vs H'
def LAT (g : GA) : TA := fun σ H Q => ∃ σd O, Rst K b H0 σd σ H O ∧ g σd fun ds => ∀ vs H', Ext b H H' → Reps K b H' ds vs → Q vs H'
def LB (g : GT) : TT := fun σ H Q => ∃ σd O, Rst K b H0 σd σ H O ∧ g σd fun c => ∀ H', Ext b H H' → Q c H'
end
structure DE (b : Option Addr) (H0 : Hp) (X : Cx) (e : Expr) (g : GE) : Prop where
  pe : PE X e (LE X.K b H0 g)
  mn : Mn g
structure DT (b : Option Addr) (H0 : Hp) (X : Cx) (e : Expr) (g : GE) : Prop where
  pe : PE X e (LT X.K b H0 g)
  mn : Mn g
structure DAr (b : Option Addr) (H0 : Hp) (X : Cx) (es : List Expr) (g : GA) : Prop where
  pa : PA X es (LA X.K b H0 g)
  mn : Mn g
structure DAT (b : Option Addr) (H0 : Hp) (X : Cx) (es : List Expr) (g : GA) : Prop where
  pa : PA X es (LAT X.K b H0 g)
  mn : Mn g
structure DB (b : Option Addr) (H0 : Hp) (X : Cx) (e : Expr) (g : GT) : Prop where
  pt : PT X e (LB X.K b H0 g)
  mn : Mn g
structure DW (b : Option Addr) (H0 : Hp) (X : Cx) (e : Expr) (g : GT) : Prop where
  pw : PW X e (LB X.K b H0 g)
  mn : Mn g
section
variable {X : Cx} {b : Option Addr} {H0 : Hp}
theorem pe_imp {e : Expr} {t t' : TE} (h : PE X e t) (i : ∀ σ H Q, t' σ H Q → t σ H Q) : PE X e t' := ⟨fun pins s σ H Q I q => h.run pins s σ H Q I (i σ H Q q)⟩
theorem pt_imp {e : Expr} {t t' : TT} (h : PT X e t) (i : ∀ σ H Q, t' σ H Q → t σ H Q) : PT X e t' := ⟨fun pins s σ H Q I q => h.run pins s σ H Q I (i σ H Q q)⟩
theorem pw_imp {e : Expr} {t t' : TT} (h : PW X e t) (i : ∀ σ H Q, t' σ H Q → t σ H Q) : PW X e t' := ⟨fun wh pins s σ H Q I q => h.run wh pins s σ H Q I (i σ H Q q)⟩
theorem pa_imp {e : List Expr} {t t' : TA} (h : PA X e t) (i : ∀ σ H Q, t' σ H Q → t σ H Q) : PA X e t' := ⟨fun pos pins s σ H Q I q => h.run pos pins s σ H Q I (i σ H Q q)⟩
theorem DE.dt {e : Expr} {g : GE} (h : DE b H0 X e g) : DT b H0 X e g := ⟨pe_imp h.pe fun σ H Q ⟨σd, O, R, q⟩ => ⟨σd, O, R, h.mn _ _ _ (fun d k v H' x r => k v H' x (r.mono hide_le)) q⟩, h.mn⟩
theorem DAr.dt {e : List Expr} {g : GA} (h : DAr b H0 X e g) : DAT b H0 X e g := ⟨pa_imp h.pa fun σ H Q ⟨σd, O, R, q⟩ => ⟨σd, O, R, h.mn _ _ _ (fun d k v H' x r => k v H' x (r.mono hide_le)) q⟩, h.mn⟩
/-- one of two readings -/
theorem DE.or {e : Expr} {g1 g2 : GE} (h1 : DE b H0 X e g1) (h2 : DE b H0 X e g2) : DE b H0 X e (fun σ k => g1 σ k ∨ g2 σ k) := ⟨⟨fun pins s σ H Q I ⟨σd, O, R, q⟩ => by
  rcases q with q | q
  · exact h1.pe.run pins s σ H Q I ⟨σd, O, R, q⟩
  · exact h2.pe.run pins s σ H Q I ⟨σd, O, R, q⟩⟩, fun σ k k' i q => q.imp (h1.mn σ k k' i) (h2.mn σ k k' i)⟩
theorem DE.imp {e : Expr} {g g' : GE} (h : DE b H0 X e g) (i : ∀ σ k, g' σ k → g σ k) (m : Mn g') : DE b H0 X e g' := ⟨pe_imp h.pe fun σ H Q ⟨σd, O, R, q⟩ => ⟨σd, O, R, i _ _ q⟩, m⟩
/-! ### names, constants -/
def gVar (i : Nat) : GE := fun σ k => match look σ i with | .sh d => k d | _ => False
def gVarT (i : Nat) : GE := fun σ k => match look σ i with | .sh d => k d | .own ds => k (.lst ds) | .obj _ _ c ns ds => k (.ins c ns ds) | .owd _ _ => False | .unset => False
def gC (d : D) : GE := fun _ k => k d
theorem gVar_mn (i : Nat) : Mn (gVar i) := fun σ k k' h q => by
  unfold gVar at q ⊢
  cases e : look σ i <;> rw [e] at q <;> first | exact h _ q | exact q.elim
theorem gVarT_mn (i : Nat) : Mn (gVarT i) := fun σ k k' h q => by
  unfold gVarT at q ⊢
  cases e : look σ i <;> rw [e] at q <;> first | exact h _ q | exact ⟨q.1, h _ q.2⟩ | exact q.elim
theorem getD_some {σ : L2.St} {i : Nat} {v : V} (h : σ.getD i none = some v) : σ[i]? = some (some v) := by
  rw [List.getD_eq_getElem?_getD] at h
  cases e : σ[i]? with
  | none => rw [e] at h; cases h
  | some x => rw [e] at h; simp at h; rw [h]
theorem de_var (i : Nat) {x : Str} {pos : Pos} (hN : X.N[i]? = some x := by rfl) (hv : Vis X.env.scope x := by first | exact Or.inl rfl | exact Or.inr (Or.inl rfl) | exact Or.inr (Or.inr rfl)) (hd : (x == ("__debug__" : Str)) = false := by decide)
    (hcd : (x == ("__classdict__" : Str)) = false := by decide) : DE b H0 X (.Name x pos) (gVar i) := ⟨pe_imp (pe_var hN hv hd hcd) fun σ H Q ⟨σd, O, R, q⟩ => by
  have s := R.slot i
  unfold gVar at q
  cases e : look σd i with
  | sh d =>
    rw [e] at q s
    obtain ⟨v, e1, r⟩ := s
    exact ⟨v, getD_some e1, q v H (.refl H) r⟩
  | unset => rw [e] at q; exact q.elim
  | own ds => rw [e] at q; exact q.elim
  | owd ks ds => rw [e] at q; exact q.elim
  | obj a dx c ns ds => rw [e] at q; exact q.elim, gVar_mn i⟩
theorem dt_var (i : Nat) {x : Str} {pos : Pos} (hN : X.N[i]? = some x := by rfl) (hv : Vis X.env.scope x := by first | exact Or.inl rfl | exact Or.inr (Or.inl rfl) | exact Or.inr (Or.inr rfl)) (hd : (x == ("__debug__" : Str)) = false := by decide)
    (hcd : (x == ("__classdict__" : Str)) = false := by decide) : DT b H0 X (.Name x pos) (gVarT i) := ⟨pe_imp (pe_var hN hv hd hcd) fun σ H Q ⟨σd, O, R, q⟩ => by
  have s := R.slot i
  unfold gVarT at q
  cases e : look σd i with
  | sh d =>
    rw [e] at q s
    obtain ⟨v, e1, r⟩ := s
    exact ⟨v, getD_some e1, q v H (.refl H) (r.mono hide_le)⟩
  | unset => rw [e] at q; exact q.elim
  | own ds =>
    rw [e] at q s
    obtain ⟨a, vs, e1, m, h, r⟩ := s
    exact ⟨.ref a, getD_some e1, q _ H (.refl H) (Rep.mkLst (R.nb a m).1 (.inl (.inl h)) (r.mono hide_le))⟩
  | obj a dx c ns ds =>
    rw [e] at q s
    obtain ⟨vs, e1, m, _, h, _, l, r⟩ := s
    exact ⟨.ref a, getD_some e1, q _ H (.refl H) (Rep.mkIns (R.nb a m).1 h l (r.mono hide_le))⟩
  | owd ks ds => rw [e] at q; exact q.elim, gVarT_mn i⟩
theorem de_c {e : Expr} {d : D} {v : V} (h : PE X e (tC v)) (r : ∀ K H, Rep K b H d v) : DE b H0 X e (gC d) := ⟨pe_imp h fun σ H Q ⟨σd, O, R, q⟩ => q v H (.refl H) (r _ _), fun σ k k' h q => h _ q⟩
theorem de_int {i j pos} : DE b H0 X (.Constant (.int i) j pos) (gC (.int i)) := de_c pe_int fun _ _ => rfl
theorem de_bl {i j pos} : DE b H0 X (.Constant (.bool i) j pos) (gC (.bl i)) := de_c pe_bl fun _ _ => rfl
theorem de_non {j pos} : DE b H0 X (.Constant .none j pos) (gC .non) := de_c pe_non fun _ _ => rfl
theorem de_str {x j pos} : DE b H0 X (.Constant (.str x) j pos) (gC (.str x)) := de_c pe_str fun _ _ => rfl
/-- a module's constant -/
theorem de_gint {x : Str} {i : Int} {t : Tok} {pos : Pos} (hg : Gl X x) (hm : X.mg x = some (.int i t)) (hd : (x == ("__debug__" : Str)) = false := by decide) : DE b H0 X (.Name x pos) (gC (.int i)) := de_c (pe_glob (v := .int i) hg hm ⟨t, rfl⟩ hd) fun _ _ => rfl
theorem de_gstr {x : Str} {i : Str} {t : Tok} {pos : Pos} (hg : Gl X x) (hm : X.mg x = some (.str i t)) (hd : (x == ("__debug__" : Str)) = false := by decide) : DE b H0 X (.Name x pos) (gC (.str i)) := de_c (pe_glob (v := .str i) hg hm ⟨t, rfl⟩ hd) fun _ _ => rfl
/-! ### two operands, one -/
/-- what a two-place rule on values does, as data -/
structure Op2 (K : Fg) (b : Option Addr) (r : R2) (rd : D → D → (D → Prop) → Prop) : Prop where
  mn : ∀ x y (k k' : D → Prop), (∀ d, k d → k' d) → rd x y k → rd x y k'
  ok : ∀ (O : List Addr) (H : Hp) (dx dy : D) (x y : V) (Q : VK), (∀ p, H p = none → p ∉ O ∧ some p ≠ b) → Rep K b H dx x → Rep K b H dy y → rd dx dy (fun d => ∀ v H', Ext b H H' → Rep K b (hide O H') d v → Q v H') → r x y H Q
structure Op1 (K : Fg) (b : Option Addr) (r : V → Hp → VK → Prop) (rd : D → (D → Prop) → Prop) : Prop where
  mn : ∀ x (k k' : D → Prop), (∀ d, k d → k' d) → rd x k → rd x k'
  ok : ∀ (O : List Addr) (H : Hp) (dx : D) (x : V) (Q : VK), (∀ p, H p = none → p ∉ O ∧ some p ≠ b) → Rep K b H dx x → rd dx (fun d => ∀ v H', Ext b H H' → Rep K b (hide O H') d v → Q v H') → r x H Q
/-- the result leans on what was handed in: strong operands, a strong result -/
structure Op2S (K : Fg) (b : Option Addr) (r : R2) (rd : D → D → (D → Prop) → Prop) : Prop where
  mn : ∀ x y (k k' : D → Prop), (∀ d, k d → k' d) → rd x y k → rd x y k'
  ok : ∀ (O : List Addr) (H : Hp) (dx dy : D) (x y : V) (Q : VK), (∀ p, H p = none → p ∉ O ∧ some p ≠ b) → Rep K b (hide O H) dx x → Rep K b (hide O H) dy y → rd dx dy (fun d => ∀ v H', Ext b H H' → Rep K b (hide O H') d v → Q v H') → r x y H Q
def g2 (rd : D → D → (D → Prop) → Prop) (ga gb : GE) : GE := fun σ k => ga σ fun x => gb σ fun y => rd x y k
def g1 (rd : D → (D → Prop) → Prop) (ga : GE) : GE := fun σ k => ga σ fun x => rd x k
theorem g2_mn {rd : D → D → (D → Prop) → Prop} {ga gb : GE} (h : ∀ x y (k k' : D → Prop), (∀ d, k d → k' d) → rd x y k → rd x y k') (A : Mn ga) (B : Mn gb) : Mn (g2 rd ga gb) := fun σ k k' i q => A _ _ _ (fun x hx => B _ _ _ (fun y hy => h x y k k' i hy) hx) q
theorem g1_mn {rd : D → (D → Prop) → Prop} {ga : GE} (h : ∀ x (k k' : D → Prop), (∀ d, k d → k' d) → rd x k → rd x k') (A : Mn ga) : Mn (g1 rd ga) := fun σ k k' i q => A _ _ _ (fun x hx => h x k k' i hx) q
theorem Op2.imp {K : Fg} {r : R2} {rd rd' : D → D → (D → Prop) → Prop} (o : Op2 K b r rd) (i : ∀ x y k, rd' x y k → rd x y k) (m : ∀ x y (k k' : D → Prop), (∀ d, k d → k' d) → rd' x y k → rd' x y k') : Op2 K b r rd' := ⟨m, fun O H dx dy x y Q n r1 r2 q => o.ok O H dx dy x y Q n r1 r2 (i _ _ _ q)⟩
theorem bin_ok {r : R2} {rd : D → D → (D → Prop) → Prop} {ga gb : GE} (o : Op2 X.K b r rd) (ma : Mn ga) (mb : Mn gb) (σ : L2.St) (H : Hp) (Q : VK) (h : LE X.K b H0 (g2 rd ga gb) σ H Q) : tOp r (LT X.K b H0 ga) (LT X.K b H0 gb) σ H Q := by
  obtain ⟨σd, O, R, q⟩ := h
  refine ⟨σd, O, R, ma _ _ _ (fun x hx v1 H1 x1 r1 => ?_) q⟩
  refine ⟨σd, O, R.mono x1, mb _ _ _ (fun y hy v2 H2 x2 r2 => ?_) hx⟩
  exact o.ok O H2 x y v1 v2 Q (fun p hp => (R.mono (x1.trans x2)).free hp) (r1.mono x2.1) r2 (o.mn _ _ _ _ (fun d kd v H' x3 r3 => kd v H' (x1.trans (x2.trans x3)) r3) hy)
theorem binS_ok {r : R2} {rd : D → D → (D → Prop) → Prop} {ga gb : GE} (o : Op2S X.K b r rd) (ma : Mn ga) (mb : Mn gb) (σ : L2.St) (H : Hp) (Q : VK) (h : LE X.K b H0 (g2 rd ga gb) σ H Q) : tOp r (LE X.K b H0 ga) (LE X.K b H0 gb) σ H Q := by
  obtain ⟨σd, O, R, q⟩ := h
  refine ⟨σd, O, R, ma _ _ _ (fun x hx v1 H1 x1 r1 => ?_) q⟩
  refine ⟨σd, O, R.mono x1, mb _ _ _ (fun y hy v2 H2 x2 r2 => ?_) hx⟩
  exact o.ok O H2 x y v1 v2 Q (fun p hp => (R.mono (x1.trans x2)).free hp) (r1.mono (x2.1.hide O)) r2 (o.mn _ _ _ _ (fun d kd v H' x3 r3 => kd v H' (x1.trans (x2.trans x3)) r3) hy)
theorem un_ok {r : V → Hp → VK → Prop} {rd : D → (D → Prop) → Prop} {ga : GE} (o : Op1 X.K b r rd) (ma : Mn ga) (σ : L2.St) (H : Hp) (Q : VK) (h : LE X.K b H0 (g1 rd ga) σ H Q) : tUn r (LT X.K b H0 ga) σ H Q := by
  obtain ⟨σd, O, R, q⟩ := h
  refine ⟨σd, O, R, ma _ _ _ (fun x hx v1 H1 x1 r1 => ?_) q⟩
  exact o.ok O H1 x v1 Q (fun p hp => (R.mono x1).free hp) r1 (o.mn _ _ _ (fun d kd v H' x3 r3 => kd v H' (x1.trans x3) r3) hx)
section
variable {a c : Expr} {ga gb : GE} {pos : Pos}
theorem de_op {op : Operator} {r : R2} {rd : D → D → (D → Prop) → Prop} (ho : OpR X (binaryOp op) r) (o : Op2 X.K b r rd) (A : DT b H0 X a ga) (B : DT b H0 X c gb) : DE b H0 X (.BinOp a op c pos) (g2 rd ga gb) :=
  ⟨pe_imp (pe_op ho A.pe B.pe) fun σ H Q h => bin_ok o A.mn B.mn σ H Q h, g2_mn o.mn A.mn B.mn⟩
theorem de_opS {op : Operator} {r : R2} {rd : D → D → (D → Prop) → Prop} (ho : OpR X (binaryOp op) r) (o : Op2S X.K b r rd) (A : DE b H0 X a ga) (B : DE b H0 X c gb) : DE b H0 X (.BinOp a op c pos) (g2 rd ga gb) :=
  ⟨pe_imp (pe_op ho A.pe B.pe) fun σ H Q h => binS_ok o A.mn B.mn σ H Q h, g2_mn o.mn A.mn B.mn⟩
theorem de_un {op : UnaryOp} {r : V → Hp → VK → Prop} {rd : D → (D → Prop) → Prop} (ho : UnR X (unaryOp op) r) (o : Op1 X.K b r rd) (A : DT b H0 X a ga) : DE b H0 X (.UnaryOp op a pos) (g1 rd ga) :=
  ⟨pe_imp (pe_un ho A.pe) fun σ H Q h => un_ok o A.mn σ H Q h, g1_mn o.mn A.mn⟩
theorem de_cmp {op : CmpOp} {r : R2} {rd : D → D → (D → Prop) → Prop} (ho : OpR X (compareOp op) r) (o : Op2 X.K b r rd) (A : DT b H0 X a ga) (B : DT b H0 X c gb) (hm : behindInMarks op c = false := by first | exact nomark _ (by decide) (by decide) | rfl) : DE b H0 X (.Compare a [op] [c] pos) (g2 rd ga gb) :=
  ⟨pe_imp (pe_cmpR ho A.pe B.pe hm) fun σ H Q h => bin_ok o A.mn B.mn σ H Q h, g2_mn o.mn A.mn B.mn⟩
/-- a value that is a bool, as a test -/
def gB (g : GE) : GT := fun σ k => g σ fun d => match d with | .bl c => k c | _ => False
theorem gB_mn {g : GE} (h : Mn g) : Mn (gB g) := fun σ k k' i q => h _ _ _ (fun d hd => by cases d <;> first | exact i _ hd | exact hd.elim) q
theorem lb_of {g : GE} (m : Mn g) {σ : L2.St} {H : Hp} {Q : Bool → Hp → Prop} (h : LB X.K b H0 (gB g) σ H Q) : LT X.K b H0 g σ H fun x H' => ∃ k, x = .bl k ∧ Q k H' := by
  obtain ⟨σd, O, R, q⟩ := h
  refine ⟨σd, O, R, m _ _ _ (fun d hd v H' x r => ?_) q⟩
  cases d <;> first | exact ⟨_, r, hd H' x⟩ | exact hd.elim
theorem db_cmp {op : CmpOp} {r : R2} {rd : D → D → (D → Prop) → Prop} (ho : OpR X (compareOp op) r) (o : Op2 X.K b r rd) (A : DT b H0 X a ga) (B : DT b H0 X c gb) (hm : behindInMarks op c = false := by first | exact nomark _ (by decide) (by decide) | rfl) : DB b H0 X (.Compare a [op] [c] pos) (gB (g2 rd ga gb)) := by
  refine ⟨pt_imp (pt_cmpR ho A.pe B.pe hm) fun σ H Q h => ?_, gB_mn (g2_mn o.mn A.mn B.mn)⟩
  obtain ⟨σd, O, R, q⟩ := h
  refine bin_ok (H0 := H0) o A.mn B.mn σ H _ ⟨σd, O, R, g2_mn o.mn A.mn B.mn _ _ _ (fun d hd v H' x r => ?_) q⟩
  cases d <;> first | exact ⟨_, r, hd H' x⟩ | exact hd.elim
theorem db_val {e : Expr} {g : GE} (h : DT b H0 X e g) (he : ∀ whole, isTrue e X.env whole = (do let v ← whole; standAt e.pos; holding [v] (truthy v)) := by intro _; rfl) : DB b H0 X e (gB g) :=
  ⟨pt_imp (pt_val h.pe he) fun σ H Q q => lb_of h.mn q, gB_mn h.mn⟩
end
/-! ### and, or, not, if -/
section
variable {a c e : Expr} {rest : List Expr} {ga gb : GE} {t u : GT} {pos : Pos}
def gAnd (t u : GT) : GT := fun σ k => t σ fun x => match x with | true => u σ k | false => k false
def gOr (t u : GT) : GT := fun σ k => t σ fun x => match x with | true => k true | false => u σ k
def gNot (t : GT) : GT := fun σ k => t σ fun x => k (!x)
theorem gAnd_mn (A : Mn t) (B : Mn u) : Mn (gAnd t u) := fun σ k k' i q => A _ _ _ (fun x hx => by cases x; exact i _ hx; exact B _ _ _ i hx) q
theorem gOr_mn (A : Mn t) (B : Mn u) : Mn (gOr t u) := fun σ k k' i q => A _ _ _ (fun x hx => by cases x; exact B _ _ _ i hx; exact i _ hx) q
theorem DW.db (h : DW b H0 X e t) : DB b H0 X e t := ⟨h.pw.pt, h.mn⟩
theorem dw_and1 (h : DB b H0 X a t) : DW b H0 X (.BoolOp .And [a] pos) t := ⟨pw_and1 h.pt, h.mn⟩
theorem dw_or1 (h : DB b H0 X a t) : DW b H0 X (.BoolOp .Or [a] pos) t := ⟨pw_or1 h.pt, h.mn⟩
theorem dw_and (A : DB b H0 X a t) (B : DW b H0 X (.BoolOp .And (c :: rest) pos) u) : DW b H0 X (.BoolOp .And (a :: c :: rest) pos) (gAnd t u) := by
  refine ⟨pw_imp (pw_and A.pt B.pw) fun σ H Q ⟨σd, O, R, q⟩ => ?_, gAnd_mn A.mn B.mn⟩
  refine ⟨σd, O, R, A.mn _ _ _ (fun x hx H' x1 => ?_) q⟩
  cases x with
  | true => exact ⟨σd, O, R.mono x1, B.mn _ _ _ (fun y hy H2 x2 => hy H2 (x1.trans x2)) hx⟩
  | false => exact hx H' x1
theorem dw_or (A : DB b H0 X a t) (B : DW b H0 X (.BoolOp .Or (c :: rest) pos) u) : DW b H0 X (.BoolOp .Or (a :: c :: rest) pos) (gOr t u) := by
  refine ⟨pw_imp (pw_or A.pt B.pw) fun σ H Q ⟨σd, O, R, q⟩ => ?_, gOr_mn A.mn B.mn⟩
  refine ⟨σd, O, R, A.mn _ _ _ (fun x hx H' x1 => ?_) q⟩
  cases x with
  | true => exact hx H' x1
  | false => exact ⟨σd, O, R.mono x1, B.mn _ _ _ (fun y hy H2 x2 => hy H2 (x1.trans x2)) hx⟩
theorem db_not (A : DB b H0 X a t) : DB b H0 X (.UnaryOp .Not a pos) (gNot t) :=
  ⟨pt_imp (pt_not A.pt) fun σ H Q ⟨σd, O, R, q⟩ => ⟨σd, O, R, A.mn _ _ _ (fun x hx H' x1 => hx H' x1) q⟩, fun σ k k' i q => A.mn _ _ _ (fun x hx => i _ hx) q⟩
/-- as values (bools) -/
def gAndV (ga gb : GE) : GE := fun σ k => ga σ fun x => match x with | .bl true => gb σ k | .bl false => k (.bl false) | _ => False
def gOrV (ga gb : GE) : GE := fun σ k => ga σ fun x => match x with | .bl true => k (.bl true) | .bl false => gb σ k | _ => False
def gNotV (ga : GE) : GE := fun σ k => ga σ fun x => match x with | .bl c => k (.bl (!c)) | _ => False
theorem de_one {op} (h : DE b H0 X a ga) : DE b H0 X (.BoolOp op [a] pos) ga := ⟨pe_one h.pe, h.mn⟩
theorem de_and (A : DT b H0 X a ga) (B : DE b H0 X (.BoolOp .And (c :: rest) pos) gb) : DE b H0 X (.BoolOp .And (a :: c :: rest) pos) (gAndV ga gb) := by
  refine ⟨pe_imp (pe_and A.pe B.pe) fun σ H Q ⟨σd, O, R, q⟩ => ?_, fun σ k k' i q => A.mn _ _ _ (fun x hx => ?_) q⟩
  · refine ⟨σd, O, R, A.mn _ _ _ (fun x hx v H' x1 r => ?_) q⟩
    cases x with
    | bl z =>
      cases z with
      | true => exact ⟨true, r, ⟨σd, O, R.mono x1, B.mn _ _ _ (fun y hy v2 H2 x2 r2 => hy v2 H2 (x1.trans x2) r2) hx⟩⟩
      | false => exact ⟨false, r, hx (.bl false) H' x1 rfl⟩
    | _ => exact hx.elim
  · cases x with
    | bl z => cases z; exact i _ hx; exact B.mn _ _ _ i hx
    | _ => exact hx.elim
theorem de_or (A : DT b H0 X a ga) (B : DE b H0 X (.BoolOp .Or (c :: rest) pos) gb) : DE b H0 X (.BoolOp .Or (a :: c :: rest) pos) (gOrV ga gb) := by
  refine ⟨pe_imp (pe_or A.pe B.pe) fun σ H Q ⟨σd, O, R, q⟩ => ?_, fun σ k k' i q => A.mn _ _ _ (fun x hx => ?_) q⟩
  · refine ⟨σd, O, R, A.mn _ _ _ (fun x hx v H' x1 r => ?_) q⟩
    cases x with
    | bl z =>
      cases z with
      | true => exact ⟨true, r, hx (.bl true) H' x1 rfl⟩
      | false => exact ⟨false, r, ⟨σd, O, R.mono x1, B.mn _ _ _ (fun y hy v2 H2 x2 r2 => hy v2 H2 (x1.trans x2) r2) hx⟩⟩
    | _ => exact hx.elim
  · cases x with
    | bl z => cases z; exact B.mn _ _ _ i hx; exact i _ hx
    | _ => exact hx.elim
theorem de_not (A : DT b H0 X a ga) : DE b H0 X (.UnaryOp .Not a pos) (gNotV ga) := by
  refine ⟨pe_imp (pe_not A.pe) fun σ H Q ⟨σd, O, R, q⟩ => ?_, fun σ k k' i q => A.mn _ _ _ (fun x hx => ?_) q⟩
  · refine ⟨σd, O, R, A.mn _ _ _ (fun x hx v H' x1 r => ?_) q⟩
    cases x with
    | bl z => exact ⟨z, r, hx (.bl (!z)) H' x1 rfl⟩
    | _ => exact hx.elim
  · cases x with
    | bl z => exact i _ hx
    | _ => exact hx.elim
def gIf (t : GT) (ga gb : GE) : GE := fun σ k => t σ fun x => match x with | true => ga σ k | false => gb σ k
theorem gIf_mn (T : Mn t) (A : Mn ga) (B : Mn gb) : Mn (gIf t ga gb) := fun σ k k' i q => T _ _ _ (fun x hx => by cases x; exact B _ _ _ i hx; exact A _ _ _ i hx) q
theorem de_if (T : DB b H0 X e t) (A : DE b H0 X a ga) (B : DE b H0 X c gb) : DE b H0 X (.IfExp e a c pos) (gIf t ga gb) := by
  refine ⟨pe_imp (pe_ifExp T.pt A.pe B.pe) fun σ H Q ⟨σd, O, R, q⟩ => ?_, gIf_mn T.mn A.mn B.mn⟩
  refine ⟨σd, O, R, T.mn _ _ _ (fun x hx H' x1 => ?_) q⟩
  cases x with
  | true => exact ⟨σd, O, R.mono x1, A.mn _ _ _ (fun y hy v2 H2 x2 r2 => hy v2 H2 (x1.trans x2) r2) hx⟩
  | false => exact ⟨σd, O, R.mono x1, B.mn _ _ _ (fun y hy v2 H2 x2 r2 => hy v2 H2 (x1.trans x2) r2) hx⟩
end
/-! ### arguments, displays -/
section
variable {e : Expr} {es : List Expr} {ge : GE} {g : GA} {pos : Pos}
def gNil : GA := fun _ k => k []
def gCons (ge : GE) (g : GA) : GA := fun σ k => ge σ fun d => g σ fun ds => k (d :: ds)
theorem gCons_mn (A : Mn ge) (B : Mn g) : Mn (gCons ge g) := fun σ k k' i q => A _ _ _ (fun x hx => B _ _ _ (fun y hy => i _ hy) hx) q
theorem da_nil : DAr b H0 X [] gNil := ⟨pa_imp pa_nil fun σ H Q ⟨σd, O, R, q⟩ => q [] H (.refl H) Reps.nil, fun σ k k' i q => i _ q⟩
theorem da_cons (A : DE b H0 X e ge) (B : DAr b H0 X es g) (hs : starEach (e :: es) X.env = (false, eval e X.env) :: starEach es X.env := by rfl) : DAr b H0 X (e :: es) (gCons ge g) := by
  refine ⟨pa_imp (pa_cons A.pe B.pa hs) fun σ H Q ⟨σd, O, R, q⟩ => ?_, gCons_mn A.mn B.mn⟩
  refine ⟨σd, O, R, A.mn _ _ _ (fun x hx v H1 x1 r1 => ?_) q⟩
  exact ⟨σd, O, R.mono x1, B.mn _ _ _ (fun y hy vs H2 x2 r2 => hy (v :: vs) H2 (x1.trans x2) (Reps.cons (r1.mono (x2.1.hide O)) r2)) hx⟩
theorem dat_nil : DAT b H0 X [] gNil := da_nil.dt
theorem dat_cons (A : DT b H0 X e ge) (B : DAT b H0 X es g) (hs : starEach (e :: es) X.env = (false, eval e X.env) :: starEach es X.env := by rfl) : DAT b H0 X (e :: es) (gCons ge g) := by
  refine ⟨pa_imp (pa_cons A.pe B.pa hs) fun σ H Q ⟨σd, O, R, q⟩ => ?_, gCons_mn A.mn B.mn⟩
  refine ⟨σd, O, R, A.mn _ _ _ (fun x hx v H1 x1 r1 => ?_) q⟩
  exact ⟨σd, O, R.mono x1, B.mn _ _ _ (fun y hy vs H2 x2 r2 => hy (v :: vs) H2 (x1.trans x2) (Reps.cons (r1.mono x2.1) r2)) hx⟩
/-- a display of at most so many items that the line holds them -/
def gTup (g : GA) : GE := fun σ k => g σ fun ds => ds.length ≤ 1000 ∧ k (.tup ds)
def gLst (g : GA) : GE := fun σ k => g σ fun ds => ds.length ≤ 1000 ∧ k (.lst ds)
theorem le_line {n : Nat} (h : n ≤ 1000) : n ≤ sizeLine := Nat.le_trans h (by decide)
theorem de_tup {x1} (A : DAr b H0 X es g) : DE b H0 X (.Tuple es x1 pos) (gTup g) := by
  refine ⟨pe_imp (pe_tup A.pa) fun σ H Q ⟨σd, O, R, q⟩ => ?_, fun σ k k' i q => A.mn _ _ _ (fun x hx => ⟨hx.1, i _ hx.2⟩) q⟩
  refine ⟨σd, O, R, A.mn _ _ _ (fun ds hd vs H1 x1 r1 => ?_) q⟩
  refine ⟨by rw [← r1.length]; exact le_line hd.1, fun p hp => ?_⟩
  obtain ⟨n1, n2⟩ := (R.mono x1).free hp
  refine hd.2 _ _ (x1.trans (.new hp)) ?_
  rw [hide_new n1]
  exact Rep.mkTup n2 (.inl (.inl upd_same)) (r1.mono (Le.new (hide_out n1 ▸ hp)))
theorem de_lst (A : DAr b H0 X es g) : DE b H0 X (.List es pos) (gLst g) := by
  refine ⟨pe_imp (pe_lst A.pa) fun σ H Q ⟨σd, O, R, q⟩ => ?_, fun σ k k' i q => A.mn _ _ _ (fun x hx => ⟨hx.1, i _ hx.2⟩) q⟩
  refine ⟨σd, O, R, A.mn _ _ _ (fun ds hd vs H1 x1 r1 => ?_) q⟩
  refine ⟨by rw [← r1.length]; exact le_line hd.1, fun p hp => ?_⟩
  obtain ⟨n1, n2⟩ := (R.mono x1).free hp
  refine hd.2 _ _ (x1.trans (.new hp)) ?_
  rw [hide_new n1]
  exact Rep.mkLst n2 (.inl (.inl upd_same)) (r1.mono (Le.new (hide_out n1 ▸ hp)))
end
end
end DL
/-! DC -/
set_option Elab.async false
set_option linter.all false
set_option maxRecDepth 100000
set_option maxHeartbeats 4000000
/-! Operations on data. -/
namespace DL
open PySem PySem.Spec PyProof.Rows L2
variable [TabC]
abbrev Fresh (b : Option Addr) (O : List Addr) (H : Hp) : Prop := ∀ p, H p = none → p ∉ O ∧ some p ≠ b
/-! ### ints -/
def dI (C : Int → Int → Prop) (f : Int → Int → D) : D → D → (D → Prop) → Prop := fun x y k => match x, y with | .int i, .int j => C i j ∧ k (f i j) | _, _ => False
def dI0 (f : Int → Int → D) : D → D → (D → Prop) → Prop := fun x y k => match x, y with | .int i, .int j => k (f i j) | _, _ => False
section
variable {K : Fg} {b : Option Addr}
theorem op2I {C : Int → Int → Prop} {f : Int → Int → V} {fd : Int → Int → D} (h : ∀ H i j, Rep K b H (fd i j) (f i j)) : Op2 K b (rI C f) (dI C fd) := by
  refine ⟨fun x y k k' i q => ?_, fun O H dx dy x y Q _ r1 r2 q => ?_⟩
  · cases x <;> cases y <;> first | exact ⟨q.1, i _ q.2⟩ | exact q.elim
  · cases dx <;> cases dy <;> first | exact ⟨_, _, r1.int, r2.int, q.1, q.2 _ H (.refl H) (h _ _ _)⟩ | exact q.elim
theorem op2I0 {f : Int → Int → V} {fd : Int → Int → D} (h : ∀ H i j, Rep K b H (fd i j) (f i j)) : Op2 K b (rI0 f) (dI0 fd) := by
  refine ⟨fun x y k k' i q => ?_, fun O H dx dy x y Q _ r1 r2 q => ?_⟩
  · cases x <;> cases y <;> first | exact i _ q | exact q.elim
  · cases dx <;> cases dy <;> first | exact ⟨_, _, r1.int, r2.int, q _ H (.refl H) (h _ _ _)⟩ | exact q.elim
end
def MulOk (i j : Int) : Prop := IntMulOk i j
def Sz (n : Nat) (i : Int) : Prop := i.natAbs < 2 ^ n
theorem MulOk.of {i j : Int} {m n : Nat} (hi : Sz m i) (hj : Sz n j) (h : m + n ≤ 900000) : MulOk i j := by
  refine CMulW.ok (wide_mul (a := m + 1) (b := n + 1) (Nat.lt_of_lt_of_le hi (Nat.pow_le_pow_right (by decide) (by omega))) (Nat.lt_of_lt_of_le hj (Nat.pow_le_pow_right (by decide) (by omega))) (by omega) (by omega) (by omega))
theorem MulOk.left {i j : Int} (h : -(2 ^ 64) < i ∧ i < 2 ^ 64) : MulOk i j := CMul.ok (.inl h)
theorem MulOk.right {i j : Int} (h : -(2 ^ 64) < j ∧ j < 2 ^ 64) : MulOk i j := CMul.ok (.inr h)
def DivOk (j : Int) : Prop := j ≠ 0 ∧ j.natAbs.log2 < 9000
theorem DivOk.of {j : Int} {n : Nat} (h : j ≠ 0) (hj : Sz n j) (hn : n ≤ 8000) : DivOk j := ⟨h, Nat.lt_of_lt_of_le (PySem.Flt.log2_lt_of (k := n + 1) (by omega) (Nat.lt_of_lt_of_le hj (Nat.pow_le_pow_right (by decide) (by omega)))) (by omega)⟩
abbrev dSub := dI0 fun i j => .int (i - j)
abbrev dDiv := dI (fun _ j => DivOk j) fun i j => .int (i.fdiv j)
abbrev dMod := dI (fun _ j => j ≠ 0) fun i j => .int (i.fmod j)
abbrev dPow := dI CPow fun i j => .int (i ^ j.toNat)
abbrev dLe := dI0 fun i j => .bl (decide (i ≤ j))
abbrev dGt := dI0 fun i j => .bl (decide (j < i))
section
variable {X : Cx} {b : Option Addr} {H0 : Hp} {a c : Expr} {ga gb : GE} {pos : Pos}
theorem op_mulOk : OpR X (binaryOp .Mult) (rI MulOk fun i j => .int (i * j)) := opI fun _ _ _ _ _ _ _ hc q => mul_int q hc
theorem op_divOk : OpR X (binaryOp .FloorDiv) (rI (fun _ j => DivOk j) fun i j => .int (i.fdiv j)) := opI fun i j _ _ _ _ _ hc q => floordiv_int hc.1 q (.inl (PyProof.noPylong_of_log2 hc.2))
theorem de_sub (A : DT b H0 X a ga) (B : DT b H0 X c gb) : DE b H0 X (.BinOp a .Sub c pos) (g2 dSub ga gb) := de_op op_sub (op2I0 fun _ _ _ => rfl) A B
theorem de_div (A : DT b H0 X a ga) (B : DT b H0 X c gb) : DE b H0 X (.BinOp a .FloorDiv c pos) (g2 dDiv ga gb) := de_op op_divOk (op2I fun _ _ _ => rfl) A B
theorem de_mod (A : DT b H0 X a ga) (B : DT b H0 X c gb) : DE b H0 X (.BinOp a .Mod c pos) (g2 dMod ga gb) := de_op op_modN (op2I fun _ _ _ => rfl) A B
def dNeg : D → (D → Prop) → Prop := fun x k => match x with | .int i => k (.int (-i)) | _ => False
theorem op1_neg : Op1 X.K b (rU fun i => .int (-i)) dNeg := by
  refine ⟨fun x k k' i q => ?_, fun O H dx x Q _ r q => ?_⟩
  · cases x <;> first | exact i _ q | exact q.elim
  · cases dx <;> first | exact ⟨_, r.int, q _ H (.refl H) rfl⟩ | exact q.elim
theorem de_neg (A : DT b H0 X a ga) : DE b H0 X (.UnaryOp .USub a pos) (g1 dNeg ga) := de_un un_neg op1_neg A
theorem db_gt (A : DT b H0 X a ga) (B : DT b H0 X c gb) : DB b H0 X (.Compare a [.Gt] [c] pos) (gB (g2 dGt ga gb)) := db_cmp op_gt (op2I0 fun _ _ _ => rfl) A B
end
/-! ### == of scalars, and of data at any depth -/
mutual
def toPy : D → Option PyData
  | .non => some .none
  | .bl b => some (.bool b)
  | .int i => some (.int i)
  | .str x => some (.str x)
  | .tup ds => (toPys ds).map .tuple
  | .lst ds => (toPys ds).map .list
  | .dic _ _ => none
  | .ins _ _ _ => none
  | .bag => none
  | .clo _ => none
  | .frl _ _ => none
  | .frd _ _ => none
  | .exc _ _ _ => none
def toPys : List D → Option (List PyData)
  | [] => some []
  | d :: r => match toPy d, toPys r with
    | some p, some q => some (p :: q)
    | _, _ => none
end
section
variable {K : Fg} {b : Option Addr} {H : Hp}
mutual
theorem Rep.dp : ∀ {d : D} {v : V} {p : PyData}, Rep K b H d v → toPy d = some p → Dp K H v p
  | .non, _, _, h, e => by simp only [toPy, Option.some.injEq] at e; subst e; rw [h.non]; exact .non
  | .bl _, _, _, h, e => by simp only [toPy, Option.some.injEq] at e; subst e; rw [h.bl]; exact .bl _
  | .int _, _, _, h, e => by simp only [toPy, Option.some.injEq] at e; subst e; rw [h.int]; exact .int _
  | .str _, _, _, h, e => by simp only [toPy, Option.some.injEq] at e; subst e; rw [h.str]; exact .str _
  | .tup ds, _, _, h, e => by
    obtain ⟨a, vs, rfl, _, hs, r⟩ := h.tup
    simp only [toPy] at e
    cases q : toPys ds with
    | none => rw [q] at e; cases e
    | some ps => rw [q] at e; cases e; exact .tup hs (Reps.dp r q)
  | .lst ds, _, _, h, e => by
    obtain ⟨a, vs, rfl, _, hs, r⟩ := h.lst
    simp only [toPy] at e
    cases q : toPys ds with
    | none => rw [q] at e; cases e
    | some ps => rw [q] at e; cases e; exact .lst hs (Reps.dp r q)
  | .dic _ _, _, _, _, e => by simp only [toPy] at e; cases e
  | .ins _ _ _, _, _, _, e => by simp only [toPy] at e; cases e
  | .bag, _, _, _, e => by simp only [toPy] at e; cases e
  | .clo _, _, _, _, e => by simp only [toPy] at e; cases e
  | .frl _ _, _, _, _, e => by simp only [toPy] at e; cases e
  | .frd _ _, _, _, _, e => by simp only [toPy] at e; cases e
  | .exc _ _ _, _, _, _, e => by simp only [toPy] at e; cases e
theorem Reps.dp : ∀ {ds : List D} {vs : List V} {ps : List PyData}, Reps K b H ds vs → toPys ds = some ps → DpAll K H vs ps
  | [], _, _, h, e => by simp only [toPys, Option.some.injEq] at e; subst e; rw [h.of_nil]; exact .nil
  | d :: r, vs, ps, h, e => by
    obtain ⟨v, q, rfl, h1, h2⟩ := h.of_cons
    simp only [toPys] at e
    cases e1 : toPy d with
    | none => rw [e1] at e; cases e
    | some p =>
      cases e2 : toPys r with
      | none => rw [e1, e2] at e; cases e
      | some qs => rw [e1, e2] at e; cases e; exact .cons (Rep.dp h1 e1) (Reps.dp h2 e2)
end
end
def dEq (neg : Bool) : D → D → (D → Prop) → Prop := fun x y k => match toPy x, toPy y with
  | some p, some q => SeqAt.shaped p = true ∧ SeqAt.shaped q = true ∧ k (.bl (if neg then !PyData.eqv p q else PyData.eqv p q))
  | _, _ => False
section
variable {X : Cx} {b : Option Addr} {H0 : Hp} {a c : Expr} {ga gb : GE} {pos : Pos}
theorem op2_eq : Op2 X.K b (rEqD X.K) (dEq false) := by
  refine ⟨fun x y k k' i q => ?_, fun O H dx dy x y Q _ r1 r2 q => ?_⟩
  · unfold dEq at q ⊢
    cases e1 : toPy x <;> cases e2 : toPy y <;> rw [e1, e2] at q <;> first | exact ⟨q.1, q.2.1, i _ q.2.2⟩ | exact q.elim
  · unfold dEq at q
    cases e1 : toPy dx <;> cases e2 : toPy dy <;> rw [e1, e2] at q <;> first | exact ⟨_, _, r1.dp e1, r2.dp e2, q.1, q.2.1, q.2.2 _ H (.refl H) rfl⟩ | exact q.elim
theorem op2_ne : Op2 X.K b (rNeD X.K) (dEq true) := by
  refine ⟨fun x y k k' i q => ?_, fun O H dx dy x y Q _ r1 r2 q => ?_⟩
  · unfold dEq at q ⊢
    cases e1 : toPy x <;> cases e2 : toPy y <;> rw [e1, e2] at q <;> first | exact ⟨q.1, q.2.1, i _ q.2.2⟩ | exact q.elim
  · unfold dEq at q
    cases e1 : toPy dx <;> cases e2 : toPy dy <;> rw [e1, e2] at q <;> first | exact ⟨_, _, r1.dp e1, r2.dp e2, q.1, q.2.1, q.2.2 _ H (.refl H) rfl⟩ | exact q.elim
/-- is None, is not None -/
def dIsN (neg : Bool) : D → (D → Prop) → Prop := fun x k => match x with | .non => k (.bl (!neg)) | .clo _ => False | _ => k (.bl neg)
def gIsN (neg : Bool) (ga : GE) : GE := fun σ k => ga σ fun x => dIsN neg x k
theorem rep_isN {K : Fg} {H : Hp} {d : D} {v : V} (h : Rep K b H d v) (k : D → Prop) (neg : Bool) (q : dIsN neg d k) : k (.bl (if neg then !decide (v = .non) else decide (v = .non))) := by
  cases d with
  | non => rw [h.non]; cases neg <;> exact q
  | bl x => rw [h.bl]; cases neg <;> exact q
  | int x => rw [h.int]; cases neg <;> exact q
  | str x => rw [h.str]; cases neg <;> exact q
  | tup x => obtain ⟨a, vs, rfl, _⟩ := h.tup; cases neg <;> exact q
  | lst x => obtain ⟨a, vs, rfl, _⟩ := h.lst; cases neg <;> exact q
  | dic x y => simp only [Rep] at h; obtain ⟨a, o, vs, rfl, _⟩ := h; cases neg <;> exact q
  | ins x y z => obtain ⟨a, dx, vs, rfl, _⟩ := h.ins; cases neg <;> exact q
  | frl x y => obtain ⟨a, vs, rfl, _⟩ := h.frl; cases neg <;> exact q
  | frd x y => obtain ⟨a, vs, rfl, _⟩ := h.frd; cases neg <;> exact q
  | exc x y z => obtain ⟨a, dx, vs, rfl, _⟩ := h.exc; cases neg <;> exact q
  | bag => simp only [Rep] at h; obtain ⟨a, rfl, _⟩ := h; cases neg <;> exact q
  | clo _ => exact q.elim
theorem gIsN_mn {neg : Bool} (A : Mn ga) : Mn (gIsN neg ga) := fun σ k k' i q => A _ _ _ (fun x hx => by cases x <;> first | exact i _ hx | exact hx.elim) q
theorem de_isN {j pos'} (A : DT b H0 X a ga) : DE b H0 X (.Compare a [.Is] [.Constant .none j pos'] pos) (gIsN false ga) := ⟨pe_imp (pe_cmp (pc_isN A.pe) rfl) fun σ H Q ⟨σd, O, R, q⟩ => ⟨σd, O, R, A.mn _ _ _ (fun d hd v H' x r => rep_isN r (fun d => ∀ v H', Ext b H H' → Rep X.K b (hide O H') d v → Q v H') false hd _ _ x rfl) q⟩, gIsN_mn A.mn⟩
theorem db_isN {j pos'} (A : DT b H0 X a ga) : DB b H0 X (.Compare a [.Is] [.Constant .none j pos'] pos) (gB (gIsN false ga)) := ⟨pt_imp (pt_cmp (pc_isN A.pe) rfl) fun σ H Q ⟨σd, O, R, q⟩ => ⟨σd, O, R, A.mn _ _ _ (fun d hd v H' x r => by
  have z := rep_isN r (fun e => match e with | .bl c => ∀ H', Ext b H H' → Q c H' | _ => False) false hd
  exact ⟨_, rfl, z H' x⟩) q⟩, gB_mn (gIsN_mn A.mn)⟩
end
/-! ### texts, lists, tuples: +, items, len -/
theorem line_m {n : Nat} (h : n ≤ 1000000) : n ≤ sizeLine := Nat.le_trans h (by decide)
def rCatL (K : Fg) : R2 := fun x y H Q => ∃ l b xs zs, x = .ref l ∧ y = .ref b ∧ SqL K H l xs ∧ SqL K H b zs ∧ xs.length + zs.length ≤ sizeLine ∧ ∀ p, H p = none → Q (.ref p) (upd H p (.lst (xs ++ zs)))
section
variable {X : Cx} {b : Option Addr} {H0 : Hp} {a c : Expr} {ga gb : GE} {pos : Pos}
theorem op_catL : OpR X (binaryOp .Add) (rCatL X.K) := by
  intro pins s σ H x y v u Q I rx ry h
  obtain ⟨l, b, xs, zs, rfl, rfl, hH, hB, hz, q⟩ := h
  cases rx
  cases ry
  obtain ⟨its, r, p1, _⟩ := I.list hH
  obtain ⟨its2, r2, p2, _⟩ := I.list hB
  obtain ⟨⟨cls, dd, data, sl⟩, n, ho, hc, hdd, hd⟩ := p1
  obtain ⟨⟨cls2, dd2, data2, sl2⟩, n2, ho2, hc2, hdd2, hd2⟩ := p2
  simp only at hc hd hc2 hd2
  subst hc hd hc2 hd2
  have hz' : its.toArray.size + its2.toArray.size ≤ sizeLine := by
    rw [List.size_toArray, List.size_toArray, ← r.length, ← r2.length]; exact hz
  have e : its.toArray ++ its2.toArray = (its ++ its2).toArray := by simp
  refine concat_meets ⟨_, ho, rfl⟩ ⟨_, ho2, rfl⟩ noFill_list_add seq_list_add PySem.F.slot_list_add PySem.F.entry_list_add (PySem.F.args_list_add_2 _ _) (list_addW l b its.toArray its2.toArray n n2 dd dd2 sl sl2 hz') ⟨ho, ho2, ?_⟩
  rw [e]
  exact ⟨.ref _, _, I.lnew (t' := s.toks) (r.append r2) (by rw [List.length_append]; exact hz), rfl, q _ I.fresh⟩
theorem rep_newL {K : Fg} {O : List Addr} {H : Hp} {ds : List D} {vs : List V} {p : Addr} (F : Fresh b O H) (hp : H p = none) (r : Reps K b (hide O H) ds vs) : Rep K b (hide O (upd H p (.lst vs))) (.lst ds) (.ref p) := by
  obtain ⟨n1, n2⟩ := F p hp
  rw [hide_new n1]
  exact Rep.mkLst n2 (.inl (.inl upd_same)) (r.mono (Le.new (by rw [hide_out n1]; exact hp)))
theorem rep_newT {K : Fg} {O : List Addr} {H : Hp} {ds : List D} {vs : List V} {p : Addr} (F : Fresh b O H) (hp : H p = none) (r : Reps K b (hide O H) ds vs) : Rep K b (hide O (upd H p (.tup vs))) (.tup ds) (.ref p) := by
  obtain ⟨n1, n2⟩ := F p hp
  rw [hide_new n1]
  exact Rep.mkTup n2 (.inl (.inl upd_same)) (r.mono (Le.new (by rw [hide_out n1]; exact hp)))
/-- an item: of a list, a tuple, a text -/
def dIx : D → D → (D → Prop) → Prop := fun x y k => match x, y with
  | .frl _ ds, .int i => match atI ds i with | some d => k d | none => False
  | .lst ds, .int i => match atI ds i with | some d => k d | none => False
  | .tup ds, .int i => match atI ds i with | some d => k d | none => False
  | .str z, .int i => z.length ≤ 1000000 ∧ match atI z.cps.toList i with | some c => k (.str ⟨#[c]⟩) | none => False
  | _, _ => False
theorem atI_reps {K : Fg} {H : Hp} {ds : List D} {vs : List V} {i : Int} {d : D} (r : Reps K b H ds vs) (h : atI ds i = some d) : ∃ v, atI vs i = some v ∧ Rep K b H d v := by
  unfold atI at h ⊢
  rw [← r.length]
  cases e : ixN ds.length i with
  | none => rw [e] at h; cases h
  | some j => rw [e] at h; exact r.get h
theorem dIx_mn : ∀ x y (k k' : D → Prop), (∀ d, k d → k' d) → dIx x y k → dIx x y k' := by
  intro x y k k' i q
  cases x with
  | frl a ds =>
    cases y with
    | int j =>
      simp only [dIx] at q ⊢
      cases e : atI ds j <;> rw [e] at q <;> first | exact i _ q | exact q.elim
    | _ => exact q.elim
  | lst ds =>
    cases y with
    | int j =>
      simp only [dIx] at q ⊢
      cases e : atI ds j <;> rw [e] at q <;> first | exact i _ q | exact q.elim
    | _ => exact q.elim
  | tup ds =>
    cases y with
    | int j =>
      simp only [dIx] at q ⊢
      cases e : atI ds j <;> rw [e] at q <;> first | exact i _ q | exact q.elim
    | _ => exact q.elim
  | str z =>
    cases y with
    | int j =>
      simp only [dIx] at q ⊢
      refine ⟨q.1, ?_⟩
      have q := q.2
      cases e : atI z.cps.toList j <;> rw [e] at q <;> first | exact i _ q | exact q.elim
    | _ => exact q.elim
  | _ => cases y <;> exact q.elim
theorem ix_ok {K : Fg} {H Hh : Hp} {dx dy : D} {x y : V} {Q : VK} (le : Le b Hh H) (r1 : Rep K b Hh dx x) (r2 : Rep K b H dy y) (q : dIx dx dy (fun d => ∀ v H', Ext b H H' → (Rep K b Hh d v) → Q v H')) : rIx K x y H Q := by
  cases dx with
  | frl a ds =>
    cases dy with
    | int j =>
      simp only [dIx] at q
      obtain ⟨o, vs, rfl, n, h, r⟩ := r1.frl
      cases e : atI ds j with
      | none => rw [e] at q; exact q.elim
      | some d =>
        rw [e] at q
        obtain ⟨v, e2, rv⟩ := atI_reps r e
        exact .inl ⟨a, vs, j, v, rfl, r2.int, sqL_mono le n (.inl (.inr ⟨o, h⟩)), e2, q v H (.refl H) rv⟩
    | _ => exact q.elim
  | lst ds =>
    cases dy with
    | int j =>
      simp only [dIx] at q
      obtain ⟨a, vs, rfl, n, h, r⟩ := r1.lst
      cases e : atI ds j with
      | none => rw [e] at q; exact q.elim
      | some d =>
        rw [e] at q
        obtain ⟨v, e2, rv⟩ := atI_reps r e
        exact .inl ⟨a, vs, j, v, rfl, r2.int, sqL_mono le n h, e2, q v H (.refl H) rv⟩
    | _ => exact q.elim
  | tup ds =>
    cases dy with
    | int j =>
      simp only [dIx] at q
      obtain ⟨a, vs, rfl, n, h, r⟩ := r1.tup
      cases e : atI ds j with
      | none => rw [e] at q; exact q.elim
      | some d =>
        rw [e] at q
        obtain ⟨v, e2, rv⟩ := atI_reps r e
        exact .inr (.inl ⟨a, vs, j, v, rfl, r2.int, sqT_mono le n h, e2, q v H (.refl H) rv⟩)
    | _ => exact q.elim
  | str z =>
    cases dy with
    | int j =>
      simp only [dIx] at q
      obtain ⟨hz, q⟩ := q
      cases e : atI z.cps.toList j with
      | none => rw [e] at q; exact q.elim
      | some c =>
        rw [e] at q
        exact .inr (.inr ⟨z, j, c, r1.str, r2.int, line_m hz, e, q _ H (.refl H) rfl⟩)
    | _ => exact q.elim
  | _ => cases dy <;> exact q.elim
theorem de_ix (A : DE b H0 X a ga) (B : DT b H0 X c gb) (hs : PlainIx c := by exact fun _ _ => rfl) : DE b H0 X (.Subscript a c pos) (g2 dIx ga gb) := by
  refine ⟨pe_imp (pe_ix ix_seq A.pe B.pe hs) fun σ H Q ⟨σd, O, R, q⟩ => ?_, g2_mn dIx_mn A.mn B.mn⟩
  refine ⟨σd, O, R, A.mn _ _ _ (fun x hx v1 H1 x1 r1 => ?_) q⟩
  refine ⟨σd, O, R.mono x1, B.mn _ _ _ (fun y hy v2 H2 x2 r2 => ?_) hx⟩
  exact ix_ok hide_le (r1.mono (x2.1.hide O)) r2 (dIx_mn _ _ _ _ (fun d kd v H' x3 r3 => kd v H' (x1.trans (x2.trans x3)) (r3.mono (x3.1.hide O))) hy)
end
/-! ### built-in calls that hand back a scalar -/
/-- a built-in of one argument, weak -/
structure Cl1 (K : Fg) (b : Option Addr) (r : List V → Hp → VK → Prop) (rd : D → (D → Prop) → Prop) : Prop where
  mn : ∀ x (k k' : D → Prop), (∀ d, k d → k' d) → rd x k → rd x k'
  ok : ∀ (O : List Addr) (H : Hp) (dx : D) (x : V) (Q : VK), Fresh b O H → Rep K b H dx x → rd dx (fun d => ∀ v H', Ext b H H' → Rep K b (hide O H') d v → Q v H') → r [x] H Q
section
variable {X : Cx} {b : Option Addr} {H0 : Hp} {a c : Expr} {ga gb : GE} {pos p : Pos} {x : Str} {id T : String} {r : List V → Hp → VK → Prop} {rd : D → (D → Prop) → Prop}
theorem cl1_run (o : Cl1 X.K b r rd) (A : DT b H0 X a ga) {σ : L2.St} {H : Hp} {Q : VK} (h : LE X.K b H0 (g1 rd ga) σ H Q) : tCB r (tCons (LT X.K b H0 ga) tNil) σ H Q := by
  obtain ⟨σd, O, R, q⟩ := h
  refine ⟨σd, O, R, A.mn _ _ _ (fun x hx v1 H1 x1 r1 => ?_) q⟩
  exact o.ok O H1 x v1 Q (fun p hp => (R.mono x1).free hp) r1 (o.mn _ _ _ (fun d kd v H' x3 r3 => kd v H' (x1.trans x3) r3) hx)
theorem de_callB (hc : CallR X (.builtin id) r) (o : Cl1 X.K b r rd) (hg : Gl X x) (hm : X.mg x = none) (hv : bootBuiltins x = some (.builtin id)) (A : DT b H0 X a ga) (hn : x ≠ "__name__" := by decide) (hdb : (x == ("__debug__" : Str)) = false := by decide)
    (he : starEach [a] X.env = (false, eval a X.env) :: starEach [] X.env := by rfl) : DE b H0 X (.Call (.Name x p) [a] [] pos) (g1 rd ga) :=
  ⟨pe_imp (pe_callB hc hg hm hv (pa_cons A.pe pa_nil he) hn hdb he rfl) fun σ H Q h => cl1_run o A h, g1_mn o.mn A.mn⟩
theorem de_callTy (hc : CallR X (.type T) r) (o : Cl1 X.K b r rd) (hg : Gl X x) (hm : X.mg x = none) (hv : bootBuiltins x = some (.type T)) (A : DT b H0 X a ga) (hn : x ≠ "__name__" := by decide) (hdb : (x == ("__debug__" : Str)) = false := by decide)
    (he : starEach [a] X.env = (false, eval a X.env) :: starEach [] X.env := by rfl) : DE b H0 X (.Call (.Name x p) [a] [] pos) (g1 rd ga) :=
  ⟨pe_imp (pe_callTy hc hg hm hv (pa_cons A.pe pa_nil he) hn hdb he rfl) fun σ H Q h => cl1_run o A h, g1_mn o.mn A.mn⟩
end
def dInt : D → (D → Prop) → Prop := fun x k => match x with | .int i => k (.int i) | .bl c => k (.int (if c then 1 else 0)) | _ => False
def dAbs : D → (D → Prop) → Prop := fun x k => match x with | .int i => k (.int (if i < 0 then -i else i)) | _ => False
def dStrI : D → (D → Prop) → Prop := fun x k => match x with | .int i => i.natAbs.log2 < 1920 ∧ k (.str (toString i)) | _ => False
def dLen3 : D → (D → Prop) → Prop := fun x k => match x with | .lst ds => k (.int ds.length) | .tup ds => k (.int ds.length) | .frl _ ds => k (.int ds.length) | .str z => z.length ≤ 1000000 ∧ k (.int z.length) | _ => False
def dList : D → (D → Prop) → Prop := fun x k => match x with | .lst ds => k (.lst ds) | .tup ds => k (.lst ds) | .frl _ ds => k (.lst ds) | _ => False
def dTuple : D → (D → Prop) → Prop := fun x k => match x with | .lst ds => k (.tup ds) | .tup ds => k (.tup ds) | _ => False
/-- the ints of a list of them -/
def intsOf : List D → Option (List Int)
  | [] => some []
  | .int i :: r => (intsOf r).map (i :: ·)
  | _ :: _ => none
def blsOf : List D → Option (List Bool)
  | [] => some []
  | .bl i :: r => (blsOf r).map (i :: ·)
  | _ :: _ => none
def dAll : D → (D → Prop) → Prop := fun x k => match x with | .lst ds => (match blsOf ds with | some ns => k (.bl (ns.all id)) | none => False) | _ => False
section
variable {K : Fg} {b : Option Addr} {H : Hp}
theorem reps_ints : ∀ {ds : List D} {vs : List V} {ns : List Int}, Reps K b H ds vs → intsOf ds = some ns → vs = ns.map V.int
  | [], vs, ns, h, e => by simp only [intsOf, Option.some.injEq] at e; subst e; rw [h.of_nil]; rfl
  | d :: r, vs, ns, h, e => by
    obtain ⟨v, q, rfl, h1, h2⟩ := h.of_cons
    cases d with
    | int i =>
      simp only [intsOf] at e
      cases q2 : intsOf r with
      | none => rw [q2] at e; cases e
      | some ms => rw [q2] at e; cases e; rw [h1.int, reps_ints h2 q2]; rfl
    | _ => simp only [intsOf] at e; cases e
theorem reps_bls : ∀ {ds : List D} {vs : List V} {ns : List Bool}, Reps K b H ds vs → blsOf ds = some ns → vs = ns.map V.bl
  | [], vs, ns, h, e => by simp only [blsOf, Option.some.injEq] at e; subst e; rw [h.of_nil]; rfl
  | d :: r, vs, ns, h, e => by
    obtain ⟨v, q, rfl, h1, h2⟩ := h.of_cons
    cases d with
    | bl i =>
      simp only [blsOf] at e
      cases q2 : blsOf r with
      | none => rw [q2] at e; cases e
      | some ms => rw [q2] at e; cases e; rw [h1.bl, reps_bls h2 q2]; rfl
    | _ => simp only [blsOf] at e; cases e
end
section
variable {X : Cx} {b : Option Addr} {H0 : Hp} {a c : Expr} {ga gb : GE} {pos p : Pos}
theorem cl_int : Cl1 X.K b (fun xs H Q => (∃ i, xs = [.int i] ∧ Q (.int i) H) ∨ ∃ k, xs = [.bl k] ∧ Q (.int (if k then 1 else 0)) H) dInt := by
  refine ⟨fun x k k' i q => ?_, fun O H dx x Q F r q => ?_⟩
  · cases x <;> first | exact i _ q | exact q.elim
  · cases dx with
    | int i => exact .inl ⟨i, by rw [r.int], q _ H (.refl H) rfl⟩
    | bl i => exact .inr ⟨i, by rw [r.bl], q _ H (.refl H) rfl⟩
    | _ => exact q.elim
theorem cl_abs : Cl1 X.K b (fun xs H Q => ∃ i, xs = [.int i] ∧ Q (.int (if i < 0 then -i else i)) H) dAbs := by
  refine ⟨fun x k k' i q => ?_, fun O H dx x Q F r q => ?_⟩
  · cases x <;> first | exact i _ q | exact q.elim
  · cases dx with
    | int i => exact ⟨i, by rw [r.int], q _ H (.refl H) rfl⟩
    | _ => exact q.elim
theorem cl_all : Cl1 X.K b (rAll X.K) dAll := by
  refine ⟨fun x k k' i q => ?_, fun O H dx x Q F r q => ?_⟩
  · cases x with
    | lst ds => simp only [dAll] at q ⊢; cases e : blsOf ds <;> rw [e] at q <;> first | exact i _ q | exact q.elim
    | _ => exact q.elim
  · cases dx with
    | lst ds =>
      simp only [dAll] at q
      cases e : blsOf ds with
      | none => rw [e] at q; exact q.elim
      | some ns =>
        rw [e] at q
        obtain ⟨a, vs, rfl, n, h, s⟩ := r.lst
        have ev := reps_bls s e
        exact ⟨a, ns, rfl, ev ▸ h, q _ H (.refl H) rfl⟩
    | _ => exact q.elim
def rLen3 (K : Fg) : List V → Hp → VK → Prop := fun xs H Q => (∃ p ys, xs = [.ref p] ∧ (SqL K H p ys ∨ SqT K H p ys) ∧ Q (.int ys.length) H) ∨ (∃ z, xs = [.str z] ∧ z.length ≤ sizeLine ∧ Q (.int z.length) H)
theorem call_len3 : CallR X (.builtin "len") (rLen3 X.K) := by
  intro pins s σ H xs us Q I r h
  rcases h with h | h
  · exact call_len_seq pins s σ H xs us Q I r h
  · exact call_len_str pins s σ H xs us Q I r h
theorem cl_len : Cl1 X.K b (rLen3 X.K) dLen3 := by
  refine ⟨fun x k k' i q => ?_, fun O H dx x Q F r q => ?_⟩
  · cases x <;> first | exact i _ q | exact ⟨q.1, i _ q.2⟩ | exact q.elim
  · cases dx with
    | lst ds =>
      obtain ⟨a, vs, rfl, n, h, s⟩ := r.lst
      exact .inl ⟨a, vs, rfl, .inl h, by rw [← s.length]; exact q _ H (.refl H) rfl⟩
    | tup ds =>
      obtain ⟨a, vs, rfl, n, h, s⟩ := r.tup
      exact .inl ⟨a, vs, rfl, .inr h, by rw [← s.length]; exact q _ H (.refl H) rfl⟩
    | frl a ds =>
      obtain ⟨o, vs, rfl, n, h, s⟩ := r.frl
      exact .inl ⟨a, vs, rfl, .inl (.inl (.inr ⟨o, h⟩)), by rw [← s.length]; exact q _ H (.refl H) rfl⟩
    | str z => exact .inr ⟨z, by rw [r.str], line_m q.1, q.2 _ H (.refl H) rfl⟩
    | _ => exact q.elim
end
end DL
/-! DDc -/
set_option Elab.async false
set_option linter.all false
set_option maxRecDepth 100000
set_option maxHeartbeats 4000000
/-! Calls: a def's promise over data; what the caller owns is framed. -/
namespace DL
open PySem PySem.Spec PyProof.Rows L2
variable [TabC]
/-- an error of the program's own, as data -/
structure XD where
  c : Str
  ns : List Str
  ds : List D
def XAt (K : Fg) (b : Option Addr) (H : Hp) (x : XD) (cls : Value) (d : Option Addr) : Prop := cls = .ref (He.ga K x.c) ∧ ∃ da vs, d = some da ∧ H da = some (.xd (x.ns.zip vs)) ∧ x.ns.length = vs.length ∧ Reps K b H x.ds vs
abbrev GS := List D → (D → Prop) → (XD → Prop) → Prop
def MnS (s : GS) : Prop := ∀ ds k k' e e', (∀ d, k d → k' d) → (∀ x, e x → e' x) → s ds k e → s ds k' e'
def lift (K : Fg) (s : GS) : Sp := fun vs H Q E => ∃ b ds, Bg b H ∧ Reps K b H ds vs ∧ s ds (fun d => ∀ v H', Ext b H H' → Rep K b H' d v → Q v H') (fun x => ∀ cls d H', Ext b H H' → XAt K b H' x cls d → E cls d H')
/-- what the errors of a body come to -/
structure Cz (X : Cx) (b : Option Addr) (H0 : Hp) (E : XK) (eo : XD → Prop) : Prop where
  pass : Passes (L2.CX X.prog X.w) X E
  ex : ∀ x cls d H', eo x → Ext b H0 H' → XAt X.K b H' x cls d → E cls d H'
theorem XAt.mono {K : Fg} {b : Option Addr} {H H' : Hp} {x : XD} {cls : Value} {d : Option Addr} (h : XAt K b H x cls d) (l : Le b H H') (n : ∀ da, d = some da → some da ≠ b) : XAt K b H' x cls d := by
  obtain ⟨h1, da, vs, e, h2, h3, h4⟩ := h
  exact ⟨h1, da, vs, e, l _ _ (n da e) h2 rfl, h3, h4.mono l⟩
section
variable {X : Cx} {b : Option Addr} {H0 : Hp} {pins : List (Addr × Obj)} {σ : L2.St} {σd : StD} {H : Hp} {s0 : Shared} {O : List Addr}
theorem hide_keep {a : Addr} {o : HO} (hO : ∀ a ∈ O, Hid O H a) (h : H a = some o) (n : (∃ xs, o = .tup xs) ∨ (∃ ob u, o = .frz ob u) ∨ (∃ ps, o = .tbl ps)) : hide O H a = some o := by
  by_cases m : a ∈ O
  · obtain ⟨o', e, q⟩ := hO a m
    rw [h] at e; cases e
    rcases n with ⟨xs, rfl⟩ | ⟨ob, u, rfl⟩ | ⟨ps, rfl⟩ <;> exact q.elim
  · rw [hide_out m]; exact h
theorem hide_none {a : Addr} (h : H a = none) : hide O H a = none := by
  unfold hide
  split
  · rfl
  · exact h
theorem hok_hide {P : Program} {w : World} {h : Heap} (hO : ∀ a ∈ O, Hid O H a) (ok : HOk P w H h) : HOk P w (hide O H) h := fun a o e => by
  obtain ⟨n, e⟩ := of_hide e
  refine (ok a o e).stay (fun _ _ _ q => q) (fun c q => ?_) fun c xs q => hide_keep hO q (.inl ⟨xs, rfl⟩)
  by_cases m : c ∈ O
  · obtain ⟨o', e', z⟩ := hO c m
    rw [q] at e'; cases e'
    exact absurd z.1 n
  · rw [hide_out m]; exact q
theorem inv_hide (I : Inv X pins σ H s0) (hO : ∀ a ∈ O, Hid O H a) : Inv X pins σ (hide O H) s0 where
  ok := I.ok
  os := I.os
  bare := I.bare
  base := ⟨fun c o e n h1 h2 => I.base.keep c o e n h1 h2, fun c o e n h1 h2 => I.base.slot c o e n h1 h2, fun c o e n h => hide_none (I.base.free c o e n h), fun c o e h => I.base.there c o e h,
    fun c xs e => hide_keep hO (I.base.tups c xs e) (.inl ⟨xs, rfl⟩), fun c o u e => hide_keep hO (I.base.frzs c o u e) (.inr (.inl ⟨o, u, rfl⟩)), fun c ps e => by
      obtain ⟨m, e2⟩ := I.base.tbls c ps e
      exact ⟨m, hide_keep hO e2 (.inr (.inr ⟨_, rfl⟩))⟩⟩
  loc := I.loc
  cell := I.cell
  free := hide_none I.free
  freeC := fun x c e => hide_none (I.freeC x c e)
  pin := fun p hp => by
    obtain ⟨h1, h2, h3, h4, h5⟩ := I.pin p hp
    exact ⟨h1, hide_none h2, h3, h4, h5⟩
  hok := hok_hide hO I.hok
  len := I.len
/-- behind a call that saw the heap without what is owned -/
def back (O : List Addr) (H H2 : Hp) : Hp := fun a => if a ∈ O then H a else H2 a
theorem back_out {H2 : Hp} {a : Addr} (h : a ∉ O) : back O H H2 a = H2 a := if_neg h
theorem back_in {H2 : Hp} {a : Addr} (h : a ∈ O) : back O H H2 a = H a := if_pos h
theorem back_ext {H2 : Hp} (hO : ∀ a ∈ O, some a ≠ b ∧ Hid O H a) (fr : ∀ a ∈ O, H2 a = none) (x : Ext b (hide O H) H2) : Ext b H (back O H H2) := by
  refine ⟨fun a o n e t => ?_, fun a e c i j m h h0 => ?_, fun t => ?_⟩
  · by_cases m : a ∈ O
    · rw [back_in m]; exact e
    · rw [back_out m]; exact x.1 a o n (by rw [hide_out m]; exact e) t
  · have m' : a ∉ O := fun z => (hO a z).1 e.symm
    rw [back_out m']
    exact x.2.1 a e c i j m (by rw [hide_out m']; exact h) h0
  · refine (x.2.2 (tabs_hide (fun a m => (hO a m).2.nt) t)).ext fun a o e => ?_
    rw [back_out (fun m => by rw [fr a m] at e; cases e)]; exact e
theorem back_hide {H2 : Hp} (h : ∀ a ∈ O, H2 a = none) : hide O (back O H H2) = H2 := by
  funext a
  by_cases m : a ∈ O
  · rw [hide_in m, h a m]
  · rw [hide_out m, back_out m]
theorem inv_back {s' : Shared} {H2 : Hp} (I : Inv X pins σ H s0) (hO : ∀ a ∈ O, Hid O H a) (os : s'.os = s0.os) (bare : AllBare s'.gens) (un : Un (frs X.stack) [] (hide O H) H2 s0.heap s'.heap) (ok : HOk X.prog X.w H2 s'.heap) :
    (∀ a ∈ O, H2 a = none) ∧ Inv X pins σ (back O H H2) s' := by
  have thr : ∀ a ∈ O, ∃ o ob, H a = some o ∧ s0.heap.get? a = some ob ∧ s'.heap.get? a = some ob := fun a m => by
    obtain ⟨o, e, q2⟩ := hO a m
    · cases q : s0.heap.get? a with
      | none =>
        exfalso
        have z := I.hok a o e
        cases o with
        | lst xs => obtain ⟨_, _, _, _, h⟩ := z; rw [q] at h; cases h
        | dK kvs => obtain ⟨_, _, _, _, ob, es, ep, h, _⟩ := z; rw [q] at h; cases h
        | ins C dx fs => obtain ⟨_, _, _, h, _⟩ := z; rw [q] at h; cases h
        | own y => obtain ⟨ob, h⟩ := z; rw [q] at h; cases h
        | _ => exact q2.elim
      | some ob =>
        exact ⟨o, ob, e, rfl, un.keep a ob q (hide_in m) (fun z => by
          have := I.stkFree a z
          rw [e] at this; cases this) (by simp)⟩
  have fr : ∀ a ∈ O, H2 a = none := fun a m => by
    obtain ⟨o, ob, e, q, _⟩ := thr a m
    exact un.free a ob q (hide_in m) (by simp)
  refine ⟨fr, I.call' (ch := []) os ?_ ?_ bare (fun c z => absurd z (by simp))⟩
  · refine ⟨fun c o e n h1 h2 => un.keep c o e (hide_none n) h1 h2, fun c o e n h1 h2 => un.slot c o e (hide_none n) h1 h2, fun c o e n h => ?_, fun c o e h => un.there c o e h, fun c xs e => ?_, fun c o u e => ?_, fun c ps e => ?_⟩
    · by_cases m : c ∈ O
      · exact absurd n (hO c m).ne
      · rw [back_out m]; exact un.free c o e (hide_none n) h
    · have q := hide_keep hO e (.inl ⟨xs, rfl⟩)
      rw [back_out (of_hide q).1]; exact un.tups c xs q
    · have q := hide_keep hO e (.inr (.inl ⟨o, u, rfl⟩))
      rw [back_out (of_hide q).1]; exact un.frzs c o u q
    · have q := hide_keep hO e (.inr (.inr ⟨ps, rfl⟩))
      rw [back_out (of_hide q).1]; exact un.tbls c ps q
  · intro a o e
    by_cases m : a ∈ O
    · rw [back_in m] at e
      obtain ⟨o', ob, e1, q1, q2⟩ := thr a m
      obtain ⟨o2, e2, hid⟩ := hO a m
      rw [e] at e2; cases e2
      have z := I.hok a o e
      cases o with
      | lst xs =>
        obtain ⟨z1, its, n, r, h⟩ := z
        rw [q1] at h; cases h
        exact ⟨z1, its, n, r, q2⟩
      | dK kvs =>
        obtain ⟨z1, y, vs, r, ob', es, ep, h, c⟩ := z
        rw [q1] at h; cases h
        exact ⟨z1, y, vs, r, ob, es, ep, q2, c⟩
      | ins C dx fs =>
        obtain ⟨d, z1, ne, h, mA, ⟨od, es, ep, h2, c⟩, r⟩ := z
        rw [q1] at h; cases h
        obtain ⟨_, ob2, _, q3, q4⟩ := thr dx hid
        rw [h2] at q3; cases q3
        exact ⟨by rw [back_in hid]; exact d, z1, ne, q2, mA, ⟨od, es, ep, q4, c⟩, r⟩
      | own y => exact ⟨ob, q2⟩
      | _ => exact hid.elim
    · rw [back_out m] at e
      exact (ok a o e).stay (fun _ _ _ q => q) (fun c q => by
        rw [back_out (fun w => by rw [fr c w] at q; cases q)]; exact q) fun c xs q => by
        rw [back_out (fun w => by rw [fr c w] at q; cases q)]; exact q
/-! ### the call of a def -/
variable {P : Program} {E : XK} {eo : XD → Prop} {s : GS} {k : Nat} {f : Addr} {fd : FuncData} {ps : List Str} {ds dd : List D} {vs dvs : List V} {us dus : List Value} {Q : VK}
theorem run_fnDA {args : Args} {us2 : List Value} {vs2 : List V} {ds2 : List D} (F : FnOk X.prog X.w X.K X.mg X.base (L2.CX X.prog X.w) k f fd ps (lift X.K s)) (ms : MnS s) (hr : Room k X.A) (Z : Cz X b H0 E eo)
    (I : Inv X pins σ H s0) (hb : us2.length = ps.length → BindsTo s0 fd args (ps.zip us2)) (r2 : Vals vs2 us2) (R : Rst X.K b H0 σd σ H O) (rp : Reps X.K b (hide O H) ds2 vs2) (h : s ds2 (fun d => ∀ v H', Ext b H H' → Rep X.K b (hide O H') d v → Q v H') eo) :
    wpAny (model X.prog X.w) X.A (call (.ref f) args.pos args.kw) (EP X pins σ Q) X.xe s0 := by
  have hO : ∀ a ∈ O, Hid O H a := fun a m => (R.nb a m).2.2
  have I1 := inv_hide I hO
  have sp : lift X.K s vs2 (hide O H) (fun v H2 => (∀ a ∈ O, H2 a = none) → Q v (back O H H2)) E := by
    refine ⟨b, ds2, R.bg, rp, ms _ _ _ _ _ (fun d hd v H2 x r0 fr => ?_) (fun x hx cls d H2 x2 xa => ?_) h⟩
    · refine hd v _ (back_ext (fun a m => ⟨(R.nb a m).1, (R.nb a m).2.2⟩) fr x) ?_
      rw [back_hide fr]
      exact r0
    · exact Z.ex x cls d H2 hx (R.le.trans x2) xa
  have hl : us2.length = ps.length := by rw [← r2.length]; exact F.len _ _ _ _ sp
  refine wpAny_call (codeAny_mono (F.run X.A X.stack s0 (hide O H) args us2 vs2 _ E hr I1.env0 (hb hl) r2 sp) fun r s' hq => ?_)
  cases r with
  | error e => exact Z.pass pins σ (hide O H) s0 e s' I1 hq
  | ok fl =>
    cases fl with
    | ret u =>
      obtain ⟨v, H2, os, bare, un, ok, rv, q⟩ := hq
      obtain ⟨fr, I2⟩ := inv_back I hO os bare un ok
      exact ⟨v, _, I2, rv, q fr⟩
    | next => exact False.elim hq
    | brk => exact False.elim hq
    | cont => exact False.elim hq
theorem run_fnD (F : FnOk X.prog X.w X.K X.mg X.base (L2.CX X.prog X.w) k f fd ps (lift X.K s)) (ms : MnS s) (hr : Room k X.A) (hb : Binds X.K fd ps dus) (hd : Vals dvs dus) (hdd : ∀ b H, Reps X.K b H dd dvs) (Z : Cz X b H0 E eo)
    (I : Inv X pins σ H s0) (r : Vals vs us) (R : Rst X.K b H0 σd σ H O) (rp : Reps X.K b (hide O H) ds vs) (h : s (ds ++ dd) (fun d => ∀ v H', Ext b H H' → Rep X.K b (hide O H') d v → Q v H') eo) :
    wpAny (model X.prog X.w) X.A (call (.ref f) us) (EP X pins σ Q) X.xe s0 :=
  run_fnDA (args := ⟨us, []⟩) F ms hr Z I (hb s0 us I.kIn) (r.append hd) R (rp.append (hdd _ _)) h
end
end DL
/-! DE1 -/
set_option Elab.async false
set_option linter.all false
set_option maxRecDepth 100000
set_option maxHeartbeats 4000000
/-! Statements, targets, what is walked, loops, comprehensions. -/
namespace DL
open PySem PySem.Spec PyProof.Rows L2
variable [TabC]
structure EndD where
  nx : StD → Prop
  rt : D → Prop
  bk : StD → Prop := fun _ => False
  ct : StD → Prop := fun _ => False
abbrev GSt := EndD → StD → Prop
def MnD (g : GSt) : Prop := ∀ D D' σ, (∀ σ, D.nx σ → D'.nx σ) → (∀ d, D.rt d → D'.rt d) → (∀ σ, D.bk σ → D'.bk σ) → (∀ σ, D.ct σ → D'.ct σ) → g D σ → g D' σ
section
variable (K : Fg) (b : Option Addr) (H0 : Hp)
def dn (Hs : Hp) (D : Ends) : EndD := ⟨fun σd => ∀ σ H O, Rst K b H0 σd σ H O → Ext b Hs (hide O H) → D.nx σ H, fun d => ∀ v H, Ext b H0 H → Rep K b H d v → D.rt v H, fun σd => ∀ σ H O, Rst K b H0 σd σ H O → Ext b Hs (hide O H) → D.bk σ H, fun σd => ∀ σ H O, Rst K b H0 σd σ H O → Ext b Hs (hide O H) → D.ct σ H⟩
def LS (g : GSt) : TS := fun D σ H => ∃ σd O, Rst K b H0 σd σ H O ∧ g (dn K b H0 (hide O H) D) σd
end
structure DS (b : Option Addr) (H0 : Hp) (X : Cx) (st : Stmt) (g : GSt) : Prop where
  ps : PS X st (LS X.K b H0 g)
  mn : MnD g
structure DSs (b : Option Addr) (H0 : Hp) (X : Cx) (st : List Stmt) (g : GSt) : Prop where
  ps : PSs X st (LS X.K b H0 g)
  mn : MnD g
section
variable {X : Cx} {b : Option Addr} {H0 : Hp} {pos : Pos} {st : Stmt} {sts : List Stmt} {g u : GSt} {e : Expr} {ge : GE} {gt : GT}
theorem ps_imp {t t' : TS} (h : PS X st t) (i : ∀ D σ H, t' D σ H → t D σ H) : PS X st t' := ⟨fun pins s σ H D I q => h.run pins s σ H D I (i D σ H q)⟩
theorem pss_imp {t t' : TS} (h : PSs X sts t) (i : ∀ D σ H, t' D σ H → t D σ H) : PSs X sts t' := ⟨fun pins s σ H D I q => h.run pins s σ H D I (i D σ H q)⟩
/-- what is handed back from a state -/
theorem Rst.ret {K : Fg} {σd : StD} {σ : L2.St} {H H' : Hp} {O : List Addr} (R : Rst K b H0 σd σ H O) (x : Ext b H H') : Ext b H0 H' := by
  have h1 : Ext b (hide O H) H := ⟨hide_le, fun a e c i j m h h0 => ⟨i, j, h0, (of_hide h).2⟩, fun t => tabs_unhide t⟩
  exact (R.le.trans h1).trans x
def gNext : GSt := fun D σ => D.nx σ
def gSeq (g u : GSt) : GSt := fun D σ => g { D with nx := u D } σ
def gBreak : GSt := fun D σ => D.bk σ
def gCont : GSt := fun D σ => D.ct σ
def gDrop (ge : GE) : GSt := fun D σ => ge σ fun _ => D.nx σ
def gRet (ge : GE) : GSt := fun D σ => ge σ D.rt
def gRetN : GSt := fun D _ => D.rt .non
def gIfS (c : GT) (g u : GSt) : GSt := fun D σ => c σ fun x => match x with | true => g D σ | false => u D σ
def gNever : GSt := fun _ _ => False
def gAsg (i : Nat) (ge : GE) : GSt := fun D σ => ge σ fun d => D.nx (put σ i (.sh d))
theorem gSeq_mn (A : MnD g) (B : MnD u) : MnD (gSeq g u) := fun D D' σ h1 h2 h3 h4 q => A { D with nx := u D } { D' with nx := u D' } σ (fun σ' q' => B D D' σ' h1 h2 h3 h4 q') h2 h3 h4 q
theorem gRet_mn (A : Mn ge) : MnD (gRet ge) := fun D D' σ h1 h2 h3 h4 q => A _ _ _ (fun d z => h2 d z) q
theorem gIfS_mn (C : Mn gt) (A : MnD g) (B : MnD u) : MnD (gIfS gt g u) := fun D D' σ h1 h2 h3 h4 q => C _ _ _ (fun x z => by
  cases x
  · exact B D D' σ h1 h2 h3 h4 z
  · exact A D D' σ h1 h2 h3 h4 z) q
theorem gAsg_mn {i : Nat} (A : Mn ge) : MnD (gAsg i ge) := fun D D' σ h1 h2 h3 h4 q => A _ _ _ (fun d z => h1 _ z) q
theorem gNever_mn : MnD gNever := fun _ _ _ _ _ _ _ q => q.elim
theorem gNext_mn : MnD gNext := fun D D' σ h1 _ _ _ q => h1 _ q
theorem dss_nil : DSs b H0 X [] gNext := ⟨pss_imp pss_nil fun D σ H ⟨σd, O, R, q⟩ => q σ H O R (.refl _), gNext_mn⟩
theorem dss_cons (h1 : DS b H0 X st g) (h2 : DSs b H0 X sts u) : DSs b H0 X (st :: sts) (gSeq g u) :=
  ⟨pss_imp (pss_cons h1.ps h2.ps) fun D σ H ⟨σd, O, R, q⟩ => ⟨σd, O, R, h1.mn { dn X.K b H0 (hide O H) D with nx := u (dn X.K b H0 (hide O H) D) } _ _ (fun σ' z σ2 H2 O2 R2 x2 => ⟨σ', O2, R2, h2.mn (dn X.K b H0 (hide O H) D) _ _ (fun _ w _ _ _ R3 x3 => w _ _ _ R3 (x2.trans x3)) (fun _ w => w) (fun _ w _ _ _ R3 x3 => w _ _ _ R3 (x2.trans x3)) (fun _ w _ _ _ R3 x3 => w _ _ _ R3 (x2.trans x3)) z⟩) (fun d z => z) (fun σ z => z) (fun σ z => z) q⟩, gSeq_mn h1.mn h2.mn⟩
theorem dss_one (h1 : DS b H0 X st g) : DSs b H0 X [st] g := ⟨pss_one h1.ps, h1.mn⟩
theorem dss_never : DSs b H0 X sts gNever := ⟨pss_imp pss_never fun D σ H ⟨σd, O, R, q⟩ => q, gNever_mn⟩
theorem ds_ret (A : DT b H0 X e ge) : DS b H0 X (.Return (some e) pos) (gRet ge) :=
  ⟨ps_imp (ps_ret A.pe) fun D σ H ⟨σd, O, R, q⟩ => ⟨σd, O, R, A.mn _ _ _ (fun d z v H' x r => z v H' (R.ret x) r) q⟩, gRet_mn A.mn⟩
theorem ds_if {c : Expr} {a a2 : List Stmt} (C : DB b H0 X c gt) (A : DSs b H0 X a g) (B : DSs b H0 X a2 u) : DS b H0 X (.If c a a2 pos) (gIfS gt g u) :=
  ⟨ps_imp (ps_if C.pt A.ps B.ps) fun D σ H ⟨σd, O, R, q⟩ => ⟨σd, O, R, C.mn _ _ _ (fun x z H' x1 => by
    have st : ∀ (g : GSt), MnD g → g (dn X.K b H0 (hide O H) D) σd → LS X.K b H0 g D σ H' := fun g m z => ⟨σd, O, R.mono x1, m (dn X.K b H0 (hide O H) D) _ _ (fun _ w _ _ _ R3 x3 => w _ _ _ R3 ((R.hx x1).trans x3)) (fun _ w => w) (fun _ w _ _ _ R3 x3 => w _ _ _ R3 ((R.hx x1).trans x3)) (fun _ w _ _ _ R3 x3 => w _ _ _ R3 ((R.hx x1).trans x3)) z⟩
    cases x
    · exact st u B.mn z
    · exact st g A.mn z) q⟩, gIfS_mn C.mn A.mn B.mn⟩
/-! ### a slot is set -/
theorem look_put2 {σ : StD} {i : Nat} {x : SD} (j : Nat) : look (put σ i x) j = if j = i ∧ i < σ.length then x else look σ j := by
  by_cases h : i < σ.length
  · rw [look_put j h]; simp [h]
  · rw [if_neg (fun z => h z.2)]
    have e : put σ i x = σ := by
      clear j
      induction σ generalizing i with
      | nil => rfl
      | cons y r ih =>
        cases i with
        | zero => simp at h
        | succ n => simp only [put]; rw [ih (by simpa using h)]
    rw [e]
theorem getD_set {σ : L2.St} {i j : Nat} {v : V} : (σ.set i (some v)).getD j none = if j = i ∧ i < σ.length then some v else σ.getD j none := by
  rw [List.getD_eq_getElem?_getD, List.getD_eq_getElem?_getD]
  by_cases h : i = j
  · subst h
    by_cases hl : i < σ.length
    · rw [List.getElem?_set_self hl]; simp [hl]
    · rw [if_neg (fun z => hl z.2), List.getElem?_eq_none (by simpa using hl), List.getElem?_eq_none (by simpa using hl)]
  · rw [List.getElem?_set_ne h, if_neg (fun z => h z.1.symm)]
theorem Rst.set {K : Fg} {σd : StD} {σ : L2.St} {H : Hp} {O : List Addr} (R : Rst K b H0 σd σ H O) {d : D} {v : V} (i : Nat) (r : Rep K b (hide O H) d v) : Rst K b H0 (put σd i (.sh d)) (σ.set i (some v)) H O where
  len := by rw [put_length, List.length_set]; exact R.len
  slot := fun j => by
    rw [look_put2, getD_set, R.len]
    by_cases h : j = i ∧ i < σ.length
    · rw [if_pos h, if_pos h]; exact ⟨v, rfl, r⟩
    · rw [if_neg h, if_neg h]; exact R.slot j
  uniq := fun j k a h1 h2 => by
    rw [look_put2, getD_set, R.len] at h1 h2
    by_cases hj : j = i ∧ i < σ.length
    · rw [if_pos hj, if_pos hj] at h1; exact h1.elim
    · by_cases hk : k = i ∧ i < σ.length
      · rw [if_pos hk, if_pos hk] at h2; exact h2.elim
      · rw [if_neg hj, if_neg hj] at h1
        rw [if_neg hk, if_neg hk] at h2
        exact R.uniq j k a h1 h2
  nb := R.nb
  le := R.le
  bg := R.bg
theorem ds_asg {i : Nat} {x : Str} {pos' : Pos} (hN : X.N.Nodup) (hi : X.N[i]? = some x) (hx : Loc X.env.scope x) (A : DE b H0 X e ge) (hs : swapsWith e (some (.Name x pos')) pos.line X.env = pure false := by rfl) (hf : X.fn x = true ∨ X.env.scope.names.lookup x = some .local := by first | exact .inl rfl | exact .inr rfl | assumption) :
    DS b H0 X (.Assign [.Name x pos'] e pos) (gAsg i ge) :=
  ⟨ps_imp (ps_set hN hi hx A.pe hs hf) fun D σ H ⟨σd, O, R, q⟩ => ⟨σd, O, R, A.mn _ _ _ (fun d z v H' x1 r => z _ H' O ((R.mono x1).set i r) (R.hx x1)) q⟩, gAsg_mn A.mn⟩
/-! ### targets -/
inductive Tgt where
  | nm (i : Nat)
  | tp (l : List Tgt)
mutual
def asg : Tgt → D → StD → (StD → Prop) → Prop
  | .nm i, d, σ, k => k (put σ i (.sh d))
  | .tp l, d, σ, k => match d with | .tup ds => asgs l ds σ k | .lst ds => asgs l ds σ k | _ => False
def asgs : List Tgt → List D → StD → (StD → Prop) → Prop
  | [], [], σ, k => k σ
  | t :: l, d :: ds, σ, k => asg t d σ fun σ' => asgs l ds σ' k
  | _, _, _, _ => False
end
mutual
def slots : Tgt → List Nat
  | .nm i => [i]
  | .tp l => slotsL l
def slotsL : List Tgt → List Nat
  | [] => []
  | t :: l => slots t ++ slotsL l
end
mutual
theorem asg_mn : ∀ (t : Tgt) (d : D) (σ : StD) (k k' : StD → Prop), (∀ s, k s → k' s) → asg t d σ k → asg t d σ k'
  | .nm i, d, σ, k, k', h, q => h _ q
  | .tp l, d, σ, k, k', h, q => by
    simp only [asg] at q ⊢
    cases d <;> first | exact asgs_mn l _ _ _ _ h q | exact q.elim
theorem asgs_mn : ∀ (l : List Tgt) (ds : List D) (σ : StD) (k k' : StD → Prop), (∀ s, k s → k' s) → asgs l ds σ k → asgs l ds σ k'
  | [], [], σ, k, k', h, q => h _ q
  | t :: l, d :: ds, σ, k, k', h, q => by
    simp only [asgs] at q ⊢
    exact asg_mn t d σ _ _ (fun s z => asgs_mn l ds s k k' h z) q
  | [], _ :: _, _, _, _, _, q => q.elim
  | _ :: _, [], _, _, _, _, q => q.elim
end
mutual
theorem asg_ex : ∀ (t : Tgt) (d : D) (σ : StD) (k : StD → Prop), asg t d σ k → ∃ s, k s
  | .nm i, d, σ, k, q => ⟨_, q⟩
  | .tp l, d, σ, k, q => by
    simp only [asg] at q
    cases d <;> first | exact (asgs_ex l _ _ _ q).2 | exact q.elim
theorem asgs_ex : ∀ (l : List Tgt) (ds : List D) (σ : StD) (k : StD → Prop), asgs l ds σ k → l.length = ds.length ∧ ∃ s, k s
  | [], [], σ, k, q => ⟨rfl, _, q⟩
  | t :: l, d :: ds, σ, k, q => by
    simp only [asgs] at q
    obtain ⟨s, z⟩ := asg_ex t d σ _ q
    obtain ⟨e, w⟩ := asgs_ex l ds s k z
    exact ⟨by simp [e], w⟩
  | [], _ :: _, _, _, q => q.elim
  | _ :: _, [], _, _, q => q.elim
end
def Agree (σ σ' : L2.St) (l : List Nat) : Prop := σ'.length = σ.length ∧ ∀ j, j ∉ l → σ'[j]? = σ[j]?
theorem Agree.refl (σ : L2.St) (l : List Nat) : Agree σ σ l := ⟨rfl, fun _ _ => rfl⟩
theorem Agree.trans {σ σ' σ2 : L2.St} {l l' m : List Nat} (a : Agree σ σ' l) (c : Agree σ' σ2 l') (h : ∀ j, j ∈ l ∨ j ∈ l' → j ∈ m) : Agree σ σ2 m := ⟨c.1.trans a.1, fun j n => (c.2 j fun z => n (h j (.inr z))).trans (a.2 j fun z => n (h j (.inl z)))⟩
def LG (K : Fg) (b : Option Addr) (H0 : Hp) (t : Tgt) : TG := fun v σ H Q => ∃ σd O d, Rst K b H0 σd σ H O ∧ Rep K b (hide O H) d v ∧ asg t d σd fun σd' => ∀ σ', Agree σ σ' (slots t) → Rst K b H0 σd' σ' H O → Q σ' H
def LGs (K : Fg) (b : Option Addr) (H0 : Hp) (l : List Tgt) : TGs := fun vs σ H Q => ∃ σd O ds, Rst K b H0 σd σ H O ∧ Reps K b (hide O H) ds vs ∧ asgs l ds σd fun σd' => ∀ σ', Agree σ σ' (slotsL l) → Rst K b H0 σd' σ' H O → Q σ' H
structure DG (b : Option Addr) (H0 : Hp) (X : Cx) (tg : Expr) (t : Tgt) : Prop where
  pg : PG X tg (LG X.K b H0 t)
structure DGs (b : Option Addr) (H0 : Hp) (X : Cx) (tg : List Expr) (t : List Tgt) : Prop where
  pg : PGs X tg (LGs X.K b H0 t)
theorem pg_imp {tg : Expr} {t t' : TG} (h : PG X tg t) (i : ∀ v σ H Q, t' v σ H Q → t v σ H Q) : PG X tg t' := ⟨fun pins s σ H v u Q I r q => h.run pins s σ H v u Q I r (i v σ H Q q)⟩
theorem pgs_imp {tg : List Expr} {t t' : TGs} (h : PGs X tg t) (i : ∀ v σ H Q, t' v σ H Q → t v σ H Q) : PGs X tg t' := ⟨fun pins s σ H v u Q I r q => h.run pins s σ H v u Q I r (i v σ H Q q)⟩
theorem dg_name {i : Nat} {x : Str} (hN : X.N.Nodup) (hi : X.N[i]? = some x) (hx : Loc X.env.scope x) (hf : X.fn x = true ∨ X.env.scope.names.lookup x = some .local := by first | exact .inl rfl | exact .inr rfl | assumption) : DG b H0 X (.Name x pos) (.nm i) :=
  ⟨pg_imp (pg_name hN hi hx hf) fun v σ H Q ⟨σd, O, d, R, r, q⟩ => by
    simp only [asg] at q
    exact q _ ⟨List.length_set, fun j n => List.getElem?_set_ne (fun z => n (by simp [slots, z]))⟩ (R.set i r)⟩
theorem dgs_nil : DGs b H0 X [] [] := ⟨pgs_imp pgs_nil fun v σ H Q ⟨σd, O, ds, R, r, q⟩ => by
  cases ds with
  | nil => exact ⟨r.of_nil, q σ (.refl _ _) R⟩
  | cons d ds => exact q.elim⟩
theorem dgs_cons {es : List Expr} {t : Tgt} {l : List Tgt} (h1 : DG b H0 X e t) (h2 : DGs b H0 X es l) (hs : (assignEach (e :: es) X.env).map (·.2) = assign e X.env :: (assignEach es X.env).map (·.2) := by rfl) : DGs b H0 X (e :: es) (t :: l) :=
  ⟨pgs_imp (pgs_cons h1.pg h2.pg hs) fun v σ H Q ⟨σd, O, ds, R, r, q⟩ => by
    cases ds with
    | nil => exact q.elim
    | cons d ds =>
      obtain ⟨w, vr, rfl, r1, r2⟩ := r.of_cons
      simp only [asgs] at q
      refine ⟨w, vr, rfl, σd, O, d, R, r1, asg_mn _ _ _ _ _ (fun s z σ' ag R' => ?_) q⟩
      refine ⟨s, O, ds, R', r2, asgs_mn _ _ _ _ _ (fun s2 z2 σ2 ag2 R2 => ?_) z⟩
      exact z2 σ2 (ag.trans ag2 fun j => by simp only [slotsL, List.mem_append]; exact id) R2⟩
theorem dg_tup {es : List Expr} {k : Nat} {l : List Tgt} {n : Nat} (hc : X.calm = true) (h : DGs b H0 X es l) (hl : l.length = n := by rfl)
    (hn : (assignEach es X.env).length = n := by rfl) (hst : (assignEach es X.env).findIdx? (·.1) = none := by rfl) : DG b H0 X (.Tuple es k pos) (.tp l) :=
  ⟨⟨fun pins s σ H v u Q I rv ⟨σd, O, d, R, r, q⟩ => by
    simp only [asg] at q
    cases d with
    | tup ds =>
      obtain ⟨a, vs, rfl, nb, hs, rs⟩ := r.tup
      obtain ⟨e, _⟩ := asgs_ex _ _ _ _ q
      exact (pg_tup (k := k) hc h.pg hn hst).run pins s σ H _ u Q I rv ⟨a, vs, rfl, sqT_mono hide_le nb hs, by rw [← rs.length, ← e, hl], σd, O, ds, R, rs, asgs_mn _ _ _ _ _ (fun s z σ' ag R' => z σ' (by simpa only [slots] using ag) R') q⟩
    | lst ds =>
      obtain ⟨a, vs, rfl, nb, hs, rs⟩ := r.lst
      obtain ⟨e, _⟩ := asgs_ex _ _ _ _ q
      exact (pg_lst (k := k) hc h.pg hn hst).run pins s σ H _ u Q I rv ⟨a, vs, rfl, sqL_mono hide_le nb hs, by rw [← rs.length, ← e, hl], σd, O, ds, R, rs, asgs_mn _ _ _ _ _ (fun s z σ' ag R' => z σ' (by simpa only [slots] using ag) R') q⟩
    | _ => exact q.elim⟩⟩
end
end DL
/-! DE2 -/
set_option Elab.async false
set_option linter.all false
set_option maxRecDepth 100000
set_option maxHeartbeats 4000000
/-! What is walked; for, while; list comprehensions. -/
namespace DL
open PySem PySem.Spec PyProof.Rows L2
variable [TabC]
abbrev GI := StD → (List D → Prop) → Prop
/-- J hands out these items, whatever is laid meanwhile -/
def Wlk (K : Fg) (b : Option Addr) (O : List Addr) (ds : List D) (J : It) (H1 : Hp) : Prop := ∀ (i : Nat) (H2 : Hp) (O2 : List Addr), Ext b (hide O H1) (hide O2 H2) → Fresh b O2 H2 →
  (∀ d, ds[i]? = some d → J.go i H2 ∧ ∀ x H3, J.yld i H2 x H3 → Ext b H2 H3 ∧ Rep K b (hide O2 H3) d x) ∧ (i = ds.length → J.stop i H2)
def LI (K : Fg) (b : Option Addr) (H0 : Hp) (g : GI) : TI := fun σ H Rr => ∃ σd O, Rst K b H0 σd σ H O ∧ g σd fun ds => ∀ J H', Ext b H H' → Wlk K b O ds J H' → Rr J H'
structure DI (b : Option Addr) (H0 : Hp) (X : Cx) (tg iter : Expr) (g : GI) : Prop where
  pi : PI X tg iter (LI X.K b H0 g)
  mn : Mn g
section
variable {X : Cx} {b : Option Addr} {H0 : Hp} {pos p : Pos} {tg l e : Expr} {ge ga : GE}
theorem pi_imp {t t' : TI} (h : PI X tg e t) (i : ∀ σ H Q, t' σ H Q → t σ H Q) : PI X tg e t' := ⟨fun pins s σ H R I q => h.run pins s σ H R I (i σ H R q)⟩
def gIt (ge : GE) : GI := fun σ k => ge σ fun d => match d with | .lst ds => k ds | .tup ds => k ds | .frl _ ds => k ds | _ => False
theorem gIt_mn (A : Mn ge) : Mn (gIt ge) := fun σ k k' i q => A _ _ _ (fun x hx => by cases x <;> first | exact i _ hx | exact hx.elim) q
def gItL (ge : GE) : GI := fun σ k => ge σ fun d => match d with | .lst ds => k ds | _ => False
def gItT (ge : GE) : GI := fun σ k => ge σ fun d => match d with | .tup ds => k ds | _ => False
theorem wlk_list {K : Fg} {O : List Addr} {H1 : Hp} {ds : List D} {a : Addr} {vs : List V} (n : some a ≠ b) (h : SqL K (hide O H1) a vs) (r : Reps K b (hide O H1) ds vs) : Wlk K b O ds (Itl K a) H1 := fun i H2 O2 x F => by
  have h2 : SqL K H2 a vs := sqL_mono hide_le n (sqL_mono x.1 n h)
  refine ⟨fun d e => ?_, fun hi0 => ⟨vs, h2, by have hi := Nat.le_of_eq hi0.symm; rw [← r.length]; exact hi⟩⟩
  obtain ⟨v, e2, rv⟩ := r.get e
  refine ⟨⟨vs, v, h2, e2⟩, fun y H3 yl => ?_⟩
  obtain ⟨e3, yl⟩ := yl
  subst e3
  have e4 := yl vs h2
  rw [e2] at e4; cases e4
  exact ⟨.refl _, rv.mono x.1⟩
theorem wlk_tup {K : Fg} {O : List Addr} {H1 : Hp} {ds : List D} {a : Addr} {vs : List V} (n : some a ≠ b) (h : SqT K (hide O H1) a vs) (r : Reps K b (hide O H1) ds vs) : Wlk K b O ds (Itt K a) H1 := fun i H2 O2 x F => by
  have h2 : SqT K H2 a vs := sqT_mono hide_le n (sqT_mono x.1 n h)
  refine ⟨fun d e => ?_, fun hi0 => ⟨vs, h2, by have hi := Nat.le_of_eq hi0.symm; rw [← r.length]; exact hi⟩⟩
  obtain ⟨v, e2, rv⟩ := r.get e
  refine ⟨⟨vs, v, h2, e2⟩, fun y H3 yl => ?_⟩
  obtain ⟨e3, yl⟩ := yl
  subst e3
  have e4 := yl vs h2
  rw [e2] at e4; cases e4
  exact ⟨.refl _, rv.mono x.1⟩
/-- a list or a tuple -/
theorem di_seq (A : DE b H0 X l ge) : DI b H0 X tg l (gIt ge) := by
  refine ⟨⟨fun pins s σ H R I ⟨σd, O, Rs, q⟩ => ?_⟩, gIt_mn A.mn⟩
  refine thn (A.pe.run pins s σ H _ I ⟨σd, O, Rs, A.mn _ _ (fun d => ∀ v H', Ext b H H' → Rep X.K b (hide O H') d v → (∃ a vs, v = .ref a ∧ (SqL X.K H' a vs ∧ R (Itl X.K a) H' ∨ SqT X.K H' a vs ∧ R (Itt X.K a) H'))) (fun d hd v H' x r => ?_) q⟩) fun v s1 ⟨x, H1, I1, r1, q1⟩ => ?_
  · cases d with
    | lst ds =>
      obtain ⟨a, vs, rfl, n, h, s⟩ := r.lst
      exact ⟨a, vs, rfl, .inl ⟨sqL_mono hide_le n h, hd _ _ x (wlk_list n h s)⟩⟩
    | tup ds =>
      obtain ⟨a, vs, rfl, n, h, s⟩ := r.tup
      exact ⟨a, vs, rfl, .inr ⟨sqT_mono hide_le n h, hd _ _ x (wlk_tup n h s)⟩⟩
    | frl a0 ds =>
      obtain ⟨o, vs, rfl, n, h, s⟩ := r.frl
      have h : SqL X.K (hide O H') a0 vs := .inl (.inr ⟨o, h⟩)
      exact ⟨a0, vs, rfl, .inl ⟨sqL_mono hide_le n h, hd _ _ x (wlk_list n h s)⟩⟩
    | _ => exact hd.elim
  · obtain ⟨a, xs, e, q1⟩ := q1
    subst e
    cases r1
    rcases q1 with ⟨hq, q⟩ | ⟨hq, q⟩
    · obtain ⟨its, rv, p, hz⟩ := I1.list hq
      refine wpAny_pyIter_list p.isList ?_
      refine ⟨s1.heap.objs.size, [s1.heap.objs.size], _, _, H1, rfl, I1.kept (t' := s1.toks) fun b o e => Heap.get?_push_of_some _ e, turn_list a _, ⟨_, Heap.get?_push_size _ rfl, rfl, rfl⟩, fun b hb => ?_, q⟩
      have e : b = s1.heap.objs.size := by simpa using hb
      subst e
      exact I1.fpOk (Nat.le_refl _) (I1.hok.fresh (Nat.le_refl _))
    · obtain ⟨its, rv, p, hz⟩ := I1.tuple hq
      refine wpAny_pyIter_tuple (show s1.heap.IsTuple a its.toArray from p) ?_
      refine ⟨s1.heap.objs.size, [s1.heap.objs.size], _, _, H1, rfl, I1.kept (t' := s1.toks) fun b o e => Heap.get?_push_of_some _ e, turn_tuple a _, ⟨_, Heap.get?_push_size _ rfl, rfl, rfl⟩, fun b hb => ?_, q⟩
      have e : b = s1.heap.objs.size := by simpa using hb
      subst e
      exact I1.fpOk (Nat.le_refl _) (I1.hok.fresh (Nat.le_refl _))
/-- range(n), range(a, b) -/
def rngD (lo : Int) (n : Nat) : List D := (List.range n).map fun (i : Nat) => .int (lo + (i : Int))
theorem rngD_get {lo : Int} {n i : Nat} {d : D} (h : (rngD lo n)[i]? = some d) : i < n ∧ d = .int (lo + i) := by
  unfold rngD at h
  rw [List.getElem?_map] at h
  cases e : (List.range n)[i]? with
  | none => rw [e] at h; cases h
  | some j =>
    obtain ⟨h1, h2⟩ := List.getElem?_eq_some_iff.mp e
    rw [e] at h; cases h
    simp at h1 h2
    exact ⟨h1, by rw [h2]⟩
theorem rngD_len {lo : Int} {n : Nat} : (rngD lo n).length = n := by unfold rngD; simp
theorem wlk_rng {K : Fg} {O : List Addr} {H1 : Hp} {lo : Int} {n : Nat} : Wlk K b O (rngD lo n) (Itr lo n) H1 := fun i H2 O2 x F => by
  refine ⟨fun d e => ?_, fun hi0 => by have hi := Nat.le_of_eq hi0.symm; rw [rngD_len] at hi; exact hi⟩
  obtain ⟨h1, rfl⟩ := rngD_get e
  refine ⟨h1, fun y H3 yl => ?_⟩
  obtain ⟨e1, e2⟩ := yl
  subst e1 e2
  exact ⟨.refl _, rfl⟩
def gRng1 (ge : GE) : GI := fun σ k => ge σ fun d => match d with | .int j => (-(2 ^ 62) ≤ j ∧ j < 2 ^ 62) ∧ k (rngD 0 j.toNat) | _ => False
theorem di_rng1 (hg : Gl X "range") (hm : X.mg "range" = none) (A : DT b H0 X e ge) (hs : starEach [e] X.env = [(false, eval e X.env)] := by rfl) (hs2 : starEach [e] X.env = (false, eval e X.env) :: starEach [] X.env := by rfl) : DI b H0 X tg (.Call (.Name "range" p) [e] [] pos) (gRng1 ge) :=
  ⟨pi_imp (pi_range1 hg hm (pa_cons A.pe pa_nil hs2) hs) fun σ H Q ⟨σd, O, R, q⟩ => ⟨σd, O, R, A.mn _ _ _ (fun d hd v H' x r => by
    cases d with
    | int j => exact ⟨j, by rw [r.int], hd.1.1, hd.1.2, hd.2 _ _ x wlk_rng⟩
    | _ => exact hd.elim) q⟩, fun σ k k' i q => A.mn _ _ _ (fun x hx => by cases x <;> first | exact ⟨hx.1, i _ hx.2⟩ | exact hx.elim) q⟩
def gRng2 (ga ge : GE) : GI := fun σ k => ga σ fun a => ge σ fun d => match a, d with | .int i, .int j => (-(2 ^ 62) ≤ i ∧ i < 2 ^ 62 ∧ -(2 ^ 62) ≤ j ∧ j < 2 ^ 62) ∧ k (rngD i (j - i).toNat) | _, _ => False
/-! ### for -/
def forD (t : Tgt) (gb : GSt) : List D → EndD → StD → Prop
  | [], D, σ => D.nx σ
  | d :: r, D, σ => asg t d σ fun σ2 => gb { nx := fun σ' => forD t gb r D σ', rt := D.rt, bk := D.nx, ct := fun σ' => forD t gb r D σ' } σ2
def gFor (gi : GI) (t : Tgt) (gb : GSt) : GSt := fun D σ => gi σ fun ds => forD t gb ds D σ
theorem forD_mn {t : Tgt} {gb : GSt} (B : MnD gb) : ∀ (ds : List D) (D D' : EndD) (σ : StD), (∀ σ, D.nx σ → D'.nx σ) → (∀ d, D.rt d → D'.rt d) → forD t gb ds D σ → forD t gb ds D' σ
  | [], D, D', σ, h1, h2, q => h1 σ q
  | d :: r, D, D', σ, h1, h2, q => asg_mn _ _ _ _ _ (fun s z => B { nx := fun σ' => forD t gb r D σ', rt := D.rt, bk := D.nx, ct := fun σ' => forD t gb r D σ' } _ _ (fun σ' q' => forD_mn B r D D' σ' h1 h2 q') h2 h1 (fun σ' q' => forD_mn B r D D' σ' h1 h2 q') z) q
theorem gFor_mn {gi : GI} {t : Tgt} {gb : GSt} (I : Mn gi) (B : MnD gb) : MnD (gFor gi t gb) := fun D D' σ h1 h2 h3 h4 q => I _ _ _ (fun ds z => forD_mn B ds D D' σ h1 h2 z) q
theorem ds_for {iter : Expr} {body : List Stmt} {gi : GI} {t : Tgt} {gb : GSt} (hp : PassesOwn (model X.prog X.w) X.A X.env X.xe) (hc : X.calm = true) (I : DI b H0 X tg iter gi) (G : DG b H0 X tg t) (B : DSs b H0 X body gb)
    (hs : ∀ x, foldedSetIterable iter X.env x = pure x := by intro _; rfl) : DS b H0 X (.For tg iter body [] pos) (gFor gi t gb) := by
  refine ⟨ps_imp (ps_for hp hc I.pi G.pg B.ps hs) fun D σ H ⟨σd, O, R, q⟩ => ?_, gFor_mn I.mn B.mn⟩
  refine ⟨σd, O, R, I.mn _ _ _ (fun ds hd J H1 x wk => ?_) q⟩
  have xO : Ext b (hide O H) (hide O H1) := R.hx x
  refine ⟨fun i m σ2 H2 => m = ds.length - i ∧ i ≤ ds.length ∧ ∃ σd2 O2, Rst X.K b H0 σd2 σ2 H2 O2 ∧ Ext b (hide O H1) (hide O2 H2) ∧ forD t gb (ds.drop i) (dn X.K b H0 (hide O H) D) σd2, ⟨ds.length, by simp, Nat.zero_le _, σd, O, R.mono x, .refl _, hd⟩, ?_⟩
  rintro i m σ2 H2 ⟨rfl, hi, σd2, O2, R2, x2, q2⟩
  have w := wk i H2 O2 x2 (fun p hp => R2.free hp)
  by_cases hlt : i < ds.length
  · have e : ds[i]? = some ds[i] := List.getElem?_eq_getElem hlt
    obtain ⟨go, yl⟩ := w.1 _ e
    refine .inr ⟨go, fun σ' H' => i + 1 ≤ ds.length ∧ ∃ σd2 O3, Rst X.K b H0 σd2 σ' H' O3 ∧ Ext b (hide O H1) (hide O3 H') ∧ forD t gb (ds.drop (i + 1)) (dn X.K b H0 (hide O H) D) σd2, fun σ' H' hN => ⟨ds.length - (i + 1), by omega, rfl, hN.1, hN.2⟩, fun y H3 hy => ?_⟩
    obtain ⟨x3, rv⟩ := yl y H3 hy
    have x4 : Ext b (hide O H1) (hide O2 H3) := x2.trans (R2.hx x3)
    rw [List.drop_eq_getElem_cons hlt] at q2
    refine ⟨σd2, O2, ds[i], R2.mono x3, rv, asg_mn _ _ _ _ _ (fun s z σ' ag R' => ?_) q2⟩
    refine ⟨s, O2, R', B.mn { nx := fun σ' => forD t gb (ds.drop (i + 1)) (dn X.K b H0 (hide O H) D) σ', rt := (dn X.K b H0 (hide O H) D).rt, bk := (dn X.K b H0 (hide O H) D).nx, ct := fun σ' => forD t gb (ds.drop (i + 1)) (dn X.K b H0 (hide O H) D) σ' } _ _ (fun σ5 w5 σ6 H6 O6 R6 x6 => ⟨hlt, σ5, O6, R6, x4.trans x6, w5⟩) (fun d w5 => w5) (fun σ5 w5 σ6 H6 O6 R6 x6 => w5 σ6 H6 O6 R6 (xO.trans (x4.trans x6))) (fun σ5 w5 σ6 H6 O6 R6 x6 => ⟨hlt, σ5, O6, R6, x4.trans x6, w5⟩) z⟩
  · have e : i = ds.length := by omega
    subst e
    rw [List.drop_length] at q2
    exact .inl ⟨w.2 rfl, q2 σ2 H2 O2 R2 (xO.trans x2)⟩
end
end DL
/-! DE3 -/
set_option Elab.async false
set_option linter.all false
set_option maxRecDepth 100000
set_option maxHeartbeats 4000000
/-! while; list comprehensions. -/
namespace DL
open PySem PySem.Spec PyProof.Rows L2
variable [TabC]
section
variable {X : Cx} {b : Option Addr} {H0 : Hp} {pos p : Pos} {tg l e : Expr} {ge ga : GE}
/-- W: the invariant with its measure -/
def gWhile (gc : GT) (gb : GSt) : GSt := fun D σ => ∃ W : Nat → StD → Prop, (∃ m, W m σ) ∧ ∀ m σ, W m σ → gc σ fun c => match c with
  | true => gb { nx := fun σ' => ∃ m', m' < m ∧ W m' σ', rt := D.rt, bk := D.nx, ct := fun σ' => ∃ m', m' < m ∧ W m' σ' } σ
  | false => D.nx σ
theorem gWhile_mn {gc : GT} {gb : GSt} (C : Mn gc) (B : MnD gb) : MnD (gWhile gc gb) := fun D D' σ h1 h2 h3 h4 ⟨W, w0, q⟩ => ⟨W, w0, fun m σ w => C _ _ _ (fun c z => by
  cases c
  · exact h1 _ z
  · exact B { nx := fun σ' => ∃ m', m' < m ∧ W m' σ', rt := D.rt, bk := D.nx, ct := fun σ' => ∃ m', m' < m ∧ W m' σ' } _ _ (fun _ w => w) h2 h1 (fun _ w => w) z) (q m σ w)⟩
theorem ds_while {c : Expr} {body : List Stmt} {gc : GT} {gb : GSt} (hp : PassesOwn (model X.prog X.w) X.A X.env X.xe) (C : DB b H0 X c gc) (B : DSs b H0 X body gb) : DS b H0 X (.While c body [] pos) (gWhile gc gb) := by
  refine ⟨ps_imp (ps_while hp C.pt B.ps) fun D σ H ⟨σd, O, R, W, ⟨m0, w0⟩, q⟩ => ?_, gWhile_mn C.mn B.mn⟩
  refine ⟨fun m σ2 H2 => ∃ σd2 O2, Rst X.K b H0 σd2 σ2 H2 O2 ∧ Ext b (hide O H) (hide O2 H2) ∧ W m σd2, ⟨m0, σd, O, R, .refl _, w0⟩, ?_⟩
  rintro m σ2 H2 ⟨σd2, O2, R2, x2, w⟩
  refine ⟨σd2, O2, R2, C.mn _ _ _ (fun c z H3 x3 => ?_) (q m σd2 w)⟩
  have x4 : Ext b (hide O H) (hide O2 H3) := x2.trans (R2.hx x3)
  cases c with
  | true =>
    refine iteT ?_
    refine ⟨fun σ' H' => ∃ m', m' < m ∧ ∃ σd5 O5, Rst X.K b H0 σd5 σ' H' O5 ∧ Ext b (hide O H) (hide O5 H') ∧ W m' σd5, fun σ' H' ⟨m', hm, w5⟩ => ⟨m', hm, w5⟩, σd2, O2, R2.mono x3, ?_⟩
    exact B.mn { nx := fun σ' => ∃ m', m' < m ∧ W m' σ', rt := (dn X.K b H0 (hide O H) D).rt, bk := (dn X.K b H0 (hide O H) D).nx, ct := fun σ' => ∃ m', m' < m ∧ W m' σ' } _ _ (fun σ5 ⟨m', hm, w5⟩ σ6 H6 O6 R6 x6 => ⟨m', hm, σ5, O6, R6, x4.trans x6, w5⟩) (fun d w5 => w5) (fun σ5 w5 σ6 H6 O6 R6 x6 => w5 σ6 H6 O6 R6 (x4.trans x6)) (fun σ5 ⟨m', hm, w5⟩ σ6 H6 O6 R6 x6 => ⟨m', hm, σ5, O6, R6, x4.trans x6, w5⟩) z
  | false =>
    refine iteF ?_
    exact z σ2 H3 O2 (R2.mono x3) x4
/-! ### list comprehensions -/
def wipeD (σ : StD) : List Nat → StD
  | [] => σ
  | v :: vs => put (wipeD σ vs) v .unset
theorem getD_setN {σ : L2.St} {i j : Nat} : (σ.set i none).getD j none = if j = i then none else σ.getD j none := by
  rw [List.getD_eq_getElem?_getD, List.getD_eq_getElem?_getD]
  by_cases h : i = j
  · subst h
    rw [if_pos rfl]
    by_cases hl : i < σ.length
    · rw [List.getElem?_set_self hl]; rfl
    · rw [List.getElem?_eq_none (by simpa using hl)]; rfl
  · rw [List.getElem?_set_ne h, if_neg (fun z => h z.symm)]
theorem owns_none {s : SD} {a : Addr} (h : Owns s none a) : False := by cases s <;> exact h
theorem tab_upd {H : Hp} {p : Addr} {o o' : HO} {P : Addr} {q : Str} (hq : H p = some o') (n1 : nt o' = true) (n2 : ∀ c q, o' ≠ LamX.CodeO c q) (t : LamX.TabS H P q) : LamX.TabS (upd H p o) P q := by
  obtain ⟨ps, h1, h2, h3⟩ := t
  refine ⟨ps, ?_, h2, fun pos cv hc => ?_⟩
  · rw [upd_ne (fun z => by rw [z, hq] at h1; cases h1; cases n1)]; exact h1
  · obtain ⟨c, e1, e2⟩ := h3 pos cv hc
    exact ⟨c, e1, by rw [upd_ne (fun z => by rw [z, hq] at e2; cases e2; exact n2 _ _ rfl)]; exact e2⟩
theorem ext_upd_new {H1 H : Hp} {p : Addr} {o : HO} (x : Ext b H1 H) (hp : H1 p = none) (hq : ∃ xs, H p = some (.lst xs)) : Ext b H1 (upd H p o) := ⟨fun a u n h t => by rw [upd_ne (ne_of_none h hp)]; exact x.1 a u n h t, fun a e c i j m h h0 => by rw [upd_ne (ne_of_none h hp)]; exact x.2.1 a e c i j m h h0,
  fun t => by
    obtain ⟨xs, hq⟩ := hq
    exact fun p hp => tab_upd hq rfl (fun c q z => by unfold LamX.CodeO at z; cases z) (x.2.2 t p hp)⟩
theorem Rst.wipe1 {K : Fg} {σd : StD} {σ : L2.St} {H : Hp} {O : List Addr} (R : Rst K b H0 σd σ H O) (i : Nat) : Rst K b H0 (put σd i .unset) (σ.set i none) H O where
  len := by rw [put_length, List.length_set]; exact R.len
  slot := fun j => by
    rw [look_put2]
    by_cases h : j = i ∧ i < σd.length
    · rw [if_pos h]; trivial
    · rw [if_neg h, getD_setN]
      by_cases e : j = i
      · have o : σd.length ≤ j := by omega
        rw [look_out o]; trivial
      · rw [if_neg e]; exact R.slot j
  uniq := fun j k a h1 h2 => by
    rw [look_put2] at h1 h2
    rw [getD_setN] at h1 h2
    by_cases ej : j = i
    · rw [if_pos ej] at h1
      split at h1 <;> first | exact h1.elim | exact (owns_none h1).elim
    · by_cases ek : k = i
      · rw [if_pos ek] at h2
        split at h2 <;> first | exact h2.elim | exact (owns_none h2).elim
      · rw [if_neg ej, if_neg (fun z => ej z.1)] at h1
        rw [if_neg ek, if_neg (fun z => ek z.1)] at h2
        exact R.uniq j k a h1 h2
  nb := R.nb
  le := R.le
  bg := R.bg
theorem Rst.wipe {K : Fg} {σd : StD} {σ : L2.St} {H : Hp} {O : List Addr} (R : Rst K b H0 σd σ H O) : ∀ vs : List Nat, Rst K b H0 (wipeD σd vs) (L2.wipe σ vs) H O
  | [] => R
  | v :: vs => (Rst.wipe R vs).wipe1 v
theorem wipe_get {σ : L2.St} (j : Nat) : ∀ vs : List Nat, (L2.wipe σ vs)[j]? = if j ∈ vs then (if j < σ.length then some none else none) else σ[j]?
  | [] => by simp [L2.wipe]
  | v :: vs => by
    unfold L2.wipe
    by_cases e : v = j
    · subst e
      by_cases hl : v < σ.length
      · rw [List.getElem?_set_self (by rw [wipe_length]; exact hl)]; simp [hl]
      · rw [List.getElem?_eq_none (by simp [wipe_length]; omega)]; simp [hl]
    · rw [List.getElem?_set_ne e, wipe_get j vs]
      have e' : ¬ j = v := fun z => e z.symm
      simp [e']
theorem wipe_agree {σ σ' : L2.St} {vs l : List Nat} (h : Agree (L2.wipe σ vs) σ' l) (hl : ∀ j ∈ l, j ∈ vs) : L2.wipe σ' vs = L2.wipe σ vs := by
  apply List.ext_getElem?
  intro j
  rw [wipe_get, wipe_get]
  have e : σ'.length = σ.length := by rw [h.1, wipe_length]
  by_cases m : j ∈ vs
  · rw [if_pos m, if_pos m, e]
  · rw [if_neg m, if_neg m]
    have z := h.2 j (fun z => m (hl j z))
    rw [wipe_get, if_neg m] at z
    exact z
def gYes : GT := fun _ k => k true
structure DTs (b : Option Addr) (H0 : Hp) (X : Cx) (ifs : List Expr) (g : GT) : Prop where
  pts : PTs X ifs (LB X.K b H0 g)
  mn : Mn g
theorem pts_imp {ifs : List Expr} {t t' : TT} (h : PTs X ifs t) (i : ∀ σ H Q, t' σ H Q → t σ H Q) : PTs X ifs t' := ⟨fun pins s σ H Q I q => h.run pins s σ H Q I (i σ H Q q)⟩
theorem dts_nil : DTs b H0 X [] gYes := ⟨pts_imp pts_nil fun σ H Q ⟨σd, O, R, q⟩ => q H (.refl H), fun σ k k' i q => i _ q⟩
theorem dts_one {c : Expr} {g : GT} (h : DB b H0 X c g) : DTs b H0 X [c] g := ⟨pts_one h.pt, h.mn⟩
def lcD (t : Tgt) (gt : GT) (ge : GE) (σ : StD) : List D → List D → (D → Prop) → Prop
  | [], acc, k => k (.lst acc)
  | d :: r, acc, k => asg t d σ fun σ2 => gt σ2 fun c => match c with
    | true => ge σ2 fun y => acc.length < 1000000 ∧ lcD t gt ge σ r (acc ++ [y]) k
    | false => lcD t gt ge σ r acc k
def gLc (gi : GI) (t : Tgt) (gt : GT) (ge : GE) (vs : List Nat) : GE := fun σ k => gi σ fun ds => lcD t gt ge (wipeD σ vs) ds [] k
theorem lcD_mn {t : Tgt} {gt : GT} {ge : GE} {σ : StD} (T : Mn gt) (E : Mn ge) : ∀ (ds acc : List D) (k k' : D → Prop), (∀ d, k d → k' d) → lcD t gt ge σ ds acc k → lcD t gt ge σ ds acc k'
  | [], acc, k, k', h, q => h _ q
  | d :: r, acc, k, k', h, q => asg_mn _ _ _ _ _ (fun s z => T _ _ _ (fun c w => by
    cases c
    · exact lcD_mn T E r acc k k' h w
    · exact E _ _ _ (fun y v => ⟨v.1, lcD_mn T E r _ k k' h v.2⟩) w) z) q
theorem gLc_mn {gi : GI} {t : Tgt} {gt : GT} {ge : GE} {vs : List Nat} (I : Mn gi) (T : Mn gt) (E : Mn ge) : Mn (gLc gi t gt ge vs) := fun σ k k' i q => I _ _ _ (fun ds z => lcD_mn T E ds [] k k' i z) q
theorem ext_hide_new {O : List Addr} {H1 H : Hp} {p : Addr} (x : Ext b H1 H) (hp : H1 p = none) (hO : ∀ a ∈ O, some a ≠ b ∧ Hid O H1 a) (hh : Hid (p :: O) H p) : Ext b (hide O H1) (hide (p :: O) H) := by
  refine ⟨fun a o n e t => ?_, fun a e c i j m h h0 => ?_, fun t => ?_⟩
  · obtain ⟨h1, h2⟩ := of_hide e
    rw [hide_out (by simp only [List.mem_cons, not_or]; exact ⟨ne_of_none h2 hp, h1⟩)]
    exact x.1 a o n h2 t
  · obtain ⟨h1, h2⟩ := of_hide h
    rw [hide_out (by simp only [List.mem_cons, not_or]; exact ⟨ne_of_none h2 hp, h1⟩)]
    exact x.2.1 a e c i j m h2 h0
  · refine tabs_hide (fun a m => ?_) (x.2.2 (tabs_unhide t))
    rcases List.mem_cons.mp m with rfl | m
    · exact hh.nt
    · obtain ⟨n, h⟩ := hO a m
      obtain ⟨o, e, t1, t2⟩ := h.nt
      exact ⟨o, x.1 a o n e t1, t1, t2⟩
theorem Rst.addO {K : Fg} {σd : StD} {σ : L2.St} {H1 H : Hp} {O : List Addr} {p : Addr} (R : Rst K b H0 σd σ H1 O) (x : Ext b H1 H) (hp : H1 p = none) (h : Hid (p :: O) H p) : Rst K b H0 σd σ H (p :: O) := by
  have R2 := R.mono x
  have hpO := (R.free hp).1
  have hpb := (R.free hp).2
  have xn : Ext b (hide O H1) (hide (p :: O) H) := ext_hide_new x hp (fun a m => ⟨(R.nb a m).1, (R.nb a m).2.2⟩) h
  refine ⟨R.len, fun i => ?_, R.uniq, fun a m => ?_, R.le.trans xn, R.bg.ext xn⟩
  · have s := R.slot i
    have l : Le b (hide O H1) (hide (p :: O) H) := xn.1
    cases e : look σd i with
    | unset => trivial
    | sh d => rw [e] at s; obtain ⟨v, e1, r⟩ := s; exact ⟨v, e1, r.mono l⟩
    | own ds => rw [e] at s; obtain ⟨a, vs, e1, m, h1, r⟩ := s; exact ⟨a, vs, e1, List.mem_cons_of_mem _ m, x.1 _ _ (R.nb a m).1 h1 rfl, r.mono l⟩
    | owd kx ds => rw [e] at s; obtain ⟨a, vs, e1, m, h1, r⟩ := s; exact ⟨a, vs, e1, List.mem_cons_of_mem _ m, x.1 _ _ (R.nb a m).1 h1 rfl, r.mono l⟩
    | obj a dx c ns ds => rw [e] at s; obtain ⟨vs, e1, m, md, h1, h2, l2, r⟩ := s; exact ⟨vs, e1, List.mem_cons_of_mem _ m, List.mem_cons_of_mem _ md, x.1 _ _ (R.nb a m).1 h1 rfl, x.1 _ _ (R.nb dx md).1 h2 rfl, l2, r.mono l⟩
  · rcases List.mem_cons.mp m with rfl | m
    · exact ⟨hpb, trivial, h⟩
    · obtain ⟨n1, n2, n3⟩ := R2.nb a m
      refine ⟨n1, n2, ?_⟩
      obtain ⟨o, e, n3⟩ := n3
      refine ⟨o, e, ?_⟩
      cases o <;> first | exact n3.elim | exact List.mem_cons_of_mem _ n3 | exact ⟨List.mem_cons_of_mem _ n3.1, n3.2⟩ | trivial
/-- the owned list at p grows: what else is read stands -/
theorem Rst.updO {K : Fg} {σd : StD} {σ : L2.St} {H : Hp} {O : List Addr} {p : Addr} {xs : List V} (R : Rst K b H0 σd σ H O) (hp : p ∈ O) (ne : ∀ i a, Owns (look σd i) (σ.getD i none) a → a ≠ p) (ex : ∃ ys, H p = some (.lst ys)) : Rst K b H0 σd σ (upd H p (.lst xs)) O := by
  obtain ⟨ys, ex⟩ := ex
  refine ⟨R.len, fun i => ?_, R.uniq, fun a m => ?_, by rw [hide_upd hp]; exact R.le, by rw [hide_upd hp]; exact R.bg⟩
  · have s := R.slot i
    have w := ne i
    cases e : look σd i with
    | unset => trivial
    | sh d => rw [e] at s; obtain ⟨v, e1, r⟩ := s; exact ⟨v, e1, by rw [hide_upd hp]; exact r⟩
    | own ds =>
      rw [e] at s w
      obtain ⟨a, vs, e1, m, h1, r⟩ := s
      exact ⟨a, vs, e1, m, by rw [upd_ne (w a (by rw [e1]; rfl))]; exact h1, by rw [hide_upd hp]; exact r⟩
    | owd kx ds =>
      rw [e] at s w
      obtain ⟨a, vs, e1, m, h1, r⟩ := s
      exact ⟨a, vs, e1, m, by rw [upd_ne (w a (by rw [e1]; rfl))]; exact h1, by rw [hide_upd hp]; exact r⟩
    | obj a dx c ns ds =>
      rw [e] at s w
      obtain ⟨vs, e1, m, md, h1, h2, l2, r⟩ := s
      have hdx : dx ≠ p := fun z => by rw [z, ex] at h2; cases h2
      exact ⟨vs, e1, m, md, by rw [upd_ne (w a (by rw [e1]; rfl))]; exact h1, by rw [upd_ne hdx]; exact h2, l2, by rw [hide_upd hp]; exact r⟩
  · obtain ⟨n1, n2, n3⟩ := R.nb a m
    refine ⟨n1, n2, ?_⟩
    by_cases e : a = p
    · subst e; exact ⟨_, upd_same, trivial⟩
    · obtain ⟨o, e2, n3⟩ := n3
      refine ⟨o, by rw [upd_ne e]; exact e2, ?_⟩
      cases o <;> first | exact n3 | (obtain ⟨q1, C, fs, q2⟩ := n3; exact ⟨q1, C, fs, by rw [upd_ne (fun z => by rw [z, ex] at q2; cases q2)]; exact q2⟩)
end
section
variable {X : Cx} {b : Option Addr} {H0 : Hp} {elt tg iter : Expr} {ifs : List Expr} {scope : Scope} {own : List (Str × Nat)} {pos : Pos} {gi : GI} {t : Tgt} {gt : GT} {ge : GE}
theorem lc_run {σ : L2.St} {H : Hp} {Q : VK} (I : Mn gi) (T : Mn gt) (E : Mn ge) (hsl : ∀ j ∈ slots t, j ∈ own.map (·.2)) (h : LE X.K b H0 (gLc gi t gt ge (own.map (·.2))) σ H Q) :
    tLc (LI X.K b H0 gi) (LG X.K b H0 t) (LB X.K b H0 gt) (LE X.K b H0 ge) (own.map (·.2)) σ H Q := by
  obtain ⟨σd, O, R, q⟩ := h
  refine ⟨σd, O, R, I _ _ _ (fun ds hd J H1 x1 wk => ?_) q⟩
  intro Dd hD
  have R1 := R.mono x1
  have hDO := (R1.free hD).1
  have hDb := (R1.free hD).2
  -- the invariant
  refine ⟨fun i m H2 => m = ds.length - i ∧ i ≤ ds.length ∧ ∃ acc accv, H2 Dd = some (.lst accv) ∧ Reps X.K b (hide (Dd :: O) H2) acc accv ∧ Rst X.K b H0 (wipeD σd (own.map (·.2))) (L2.wipe σ (own.map (·.2))) H2 (Dd :: O) ∧ Ext b H1 H2 ∧
    lcD t gt ge (wipeD σd (own.map (·.2))) (ds.drop i) acc (fun d => ∀ v H', Ext b H H' → Rep X.K b (hide O H') d v → Q v H'), ⟨ds.length, by simp, Nat.zero_le _, [], [], upd_same, Reps.nil, ?_, .new hD, hd⟩, ?_⟩
  · exact ((R1.addO (.new hD) hD ⟨_, upd_same, trivial⟩).wipe _)
  rintro i m H2 ⟨rfl, hi, acc, accv, hacc, racc, R2, x2, q2⟩
  have x3 : Ext b (hide O H1) (hide (Dd :: O) H2) := ext_hide_new x2 hD (fun a m => ⟨(R1.nb a m).1, (R1.nb a m).2.2⟩) ⟨_, hacc, trivial⟩
  have w := wk i H2 (Dd :: O) x3 (fun p hp => R2.free hp)
  by_cases hlt : i < ds.length
  · have e : ds[i]? = some ds[i] := List.getElem?_eq_getElem hlt
    obtain ⟨go, yl⟩ := w.1 _ e
    refine .inr ⟨go, fun H' => i + 1 ≤ ds.length ∧ ∃ acc accv, H' Dd = some (.lst accv) ∧ Reps X.K b (hide (Dd :: O) H') acc accv ∧ Rst X.K b H0 (wipeD σd (own.map (·.2))) (L2.wipe σ (own.map (·.2))) H' (Dd :: O) ∧ Ext b H1 H' ∧
      lcD t gt ge (wipeD σd (own.map (·.2))) (ds.drop (i + 1)) acc (fun d => ∀ v H', Ext b H H' → Rep X.K b (hide O H') d v → Q v H'), fun H' hN => ⟨ds.length - (i + 1), by omega, rfl, hN.1, hN.2⟩, fun y H3 hy => ?_⟩
    obtain ⟨x4, rv⟩ := yl y H3 hy
    rw [List.drop_eq_getElem_cons hlt] at q2
    refine ⟨_, Dd :: O, ds[i], R2.mono x4, rv, asg_mn _ _ _ _ _ (fun s z σ' ag R' => ?_) q2⟩
    refine ⟨wipe_agree ag hsl, s, Dd :: O, R', T _ _ _ (fun c hc H5 x5 => ?_) z⟩
    have R5 := R'.mono x5
    have x45 := x4.trans x5
    have hacc5 : H5 Dd = some (.lst accv) := x45.1 _ _ hDb hacc rfl
    have racc5 : Reps X.K b (hide (Dd :: O) H5) acc accv := racc.mono (x45.1.hide _)
    cases c with
    | true =>
      refine iteT ?_
      refine ⟨s, Dd :: O, R5, E _ _ _ (fun d hd v H6 x6 r6 => ?_) hc⟩
      have hacc6 : H6 Dd = some (.lst accv) := x6.1 _ _ hDb hacc5 rfl
      refine ⟨accv, hacc6, by rw [← racc.length]; exact Nat.lt_of_lt_of_le hd.1 (by decide), hlt, acc ++ [d], accv ++ [v], upd_same, ?_, ?_, ?_, hd.2⟩
      · rw [hide_upd List.mem_cons_self]
        exact (racc5.mono (x6.1.hide _)).append (Reps.cons r6 Reps.nil)
      · refine ((R2.mono (x45.trans x6)).updO List.mem_cons_self (fun i a ow z => ?_) ⟨_, hacc6⟩)
        subst z
        -- a slot owns Dd: no slot's list was Dd, for Dd came later
        have sl := ((R1.wipe (own.map (·.2))).slot i)
        cases e1 : look (wipeD σd (own.map (·.2))) i with
        | unset => rw [e1] at ow; exact ow.elim
        | sh d => rw [e1] at ow; exact ow.elim
        | own ds =>
          rw [e1] at ow sl
          obtain ⟨a', vs, e2, m, _⟩ := sl
          rw [e2] at ow
          have : a = a' := ow
          exact hDO (this ▸ m)
        | owd kx ds =>
          rw [e1] at ow sl
          obtain ⟨a', vs, e2, m, _⟩ := sl
          rw [e2] at ow
          have : a = a' := ow
          exact hDO (this ▸ m)
        | obj a' dx c ns ds =>
          rw [e1] at ow sl
          obtain ⟨vs, e2, m, _⟩ := sl
          rw [e2] at ow
          have : a = a' := ow
          exact hDO (this ▸ m)
      · exact ext_upd_new (x2.trans (x45.trans x6)) hD ⟨_, hacc6⟩
    | false =>
      refine iteF ?_
      exact ⟨hlt, acc, accv, hacc5, racc5, R2.mono x45, x2.trans x45, hc⟩
  · have e : i = ds.length := by omega
    subst e
    rw [List.drop_length] at q2
    refine .inl ⟨w.2 rfl, q2 _ H2 (x1.trans x2) ?_⟩
    exact Rep.mkLst hDb (.inl (.inl (by rw [hide_out hDO]; exact hacc))) (racc.mono (hide_mono fun a m => List.mem_cons_of_mem _ m))
end
end DL
/-! DE4 -/
set_option Elab.async false
set_option linter.all false
set_option maxRecDepth 100000
set_option maxHeartbeats 4000000
/-! Comprehensions as expressions; calls; a def by its body. -/
namespace DL
open PySem PySem.Spec PyProof.Rows L2
variable [TabC]
noncomputable def sh0 : Shared := ⟨default, #[], PySem.W.boot_drawn, 0, default⟩
section
variable {X : Cx} {b : Option Addr} {H0 : Hp} {elt tg iter : Expr} {ifs : List Expr} {scope : Scope} {own : List (Str × Nat)} {pos : Pos} {gi : GI} {t : Tgt} {gt : GT} {ge : GE}
theorem de_lc (hc : X.calm = true) (hN : X.N.Nodup) (I : DI b H0 X tg iter gi) (ok : BlkOk X.N X.env.scope scope own)
    (G : ∀ (s : Shared) (H : Hp) (C : Addr) (cl : List (Str × Addr)) (fp : List Addr), DG b H0 (X.blk s H scope (compEnvC scope cl C X.env) fp) tg t) (T : ∀ (s : Shared) (H : Hp) (C : Addr) (cl : List (Str × Addr)) (fp : List Addr), DTs b H0 (X.blk s H scope (compEnvC scope cl C X.env) fp) ifs gt)
    (E : ∀ (s : Shared) (H : Hp) (C : Addr) (cl : List (Str × Addr)) (fp : List Addr), DE b H0 (X.blk s H scope (compEnvC scope cl C X.env) fp) elt ge) (hsl : ∀ j ∈ slots t, j ∈ own.map (·.2) := by decide) (hs : ∀ x, foldedSetIterable iter X.env x = pure x := by intro _; rfl) :
    DE b H0 X (.ListComp elt [⟨tg, iter, ifs, 0⟩] scope pos) (gLc gi t gt ge (own.map (·.2))) :=
  ⟨pe_imp (pe_lc (g := LG X.K b H0 t) (tt := LB X.K b H0 gt) (te := LE X.K b H0 ge) hc hN I.pi ok (fun s H C cl fp => (G s H C cl fp).pg) (fun s H C cl fp => (T s H C cl fp).pts) (fun s H C cl fp => (E s H C cl fp).pe) hs) fun σ H Q h =>
    lc_run I.mn (T sh0 (fun _ => none) 0 [] []).mn (E sh0 (fun _ => none) 0 [] []).mn hsl h,
    gLc_mn I.mn (T sh0 (fun _ => none) 0 [] []).mn (E sh0 (fun _ => none) 0 [] []).mn⟩
end
/-! ### calls of the program's own -/
section
variable {X : Cx} {b : Option Addr} {H0 : Hp} {E : XK} {eo : XD → Prop} {s : GS} {k : Nat} {f C : Addr} {fd : FuncData} {ps : List Str} {dd : List D} {dvs : List V} {dus : List Value} {x m : Str} {p pos apos : Pos} {e o : Expr} {es : List Expr} {ga : GA} {go : GE}
/-- s: the callee's promise; dd: the defaults that fill up -/
def gCall (s : GS) (dd : List D) (eo : XD → Prop) (ga : GA) : GE := fun σ k => ga σ fun ds => s (ds ++ dd) k eo
/-- o.m(..), o an instance of the class c -/
def gMeth (c : Str) (m : Str) (s : GS) (dd : List D) (eo : XD → Prop) (go : GE) (ga : GA) : GE := fun σ k => go σ fun d => match d with
  | .ins c' ns ds => c' = c ∧ m ∉ ns ∧ ga σ fun es => s (.ins c' ns ds :: (es ++ dd)) k eo
  | _ => False
theorem lookup_zip_none {m : Str} : ∀ {ns : List Str} {vs : List V}, m ∉ ns → (ns.zip vs).lookup m = none
  | [], _, _ => rfl
  | _ :: _, [], _ => rfl
  | n :: ns, v :: vs, h => by
    have h1 : ¬ m = n := fun z => h (by simp [z])
    have h2 : m ∉ ns := fun z => h (List.mem_cons_of_mem _ z)
    simp only [List.zip_cons_cons, List.lookup]
    rw [show (m == n) = false by simpa using h1]
    exact lookup_zip_none h2
end
/-! ### a def keeps its promise, by its body -/
def startD (N : List Str) (ds : List D) : StD := ds.map SD.sh ++ List.replicate (N.length - ds.length) SD.unset
theorem hide_nil (H : Hp) : hide [] H = H := by
  funext a
  exact if_neg (by simp)
theorem look_app : ∀ (l r : StD) (i : Nat), look (l ++ r) i = if i < l.length then look l i else look r (i - l.length)
  | [], r, i => by simp
  | x :: l, r, 0 => by simp [look]
  | x :: l, r, i + 1 => by
    simp only [List.cons_append, look, List.length_cons]
    rw [look_app l r i]
    by_cases h : i < l.length
    · rw [if_pos h, if_pos (by omega)]
    · rw [if_neg h, if_neg (by omega)]
      congr 1
      omega
theorem look_rep : ∀ (n i : Nat), look (List.replicate n SD.unset) i = .unset
  | 0, _ => rfl
  | n + 1, 0 => rfl
  | n + 1, i + 1 => look_rep n i
theorem look_sh : ∀ {ds : List D} {i : Nat}, i < ds.length → ∃ d, ds[i]? = some d ∧ look (ds.map SD.sh) i = .sh d
  | [], _, h => by simp at h
  | d :: r, 0, _ => ⟨d, rfl, rfl⟩
  | d :: r, i + 1, h => by
    obtain ⟨d', e1, e2⟩ := look_sh (ds := r) (i := i) (by simpa using h)
    exact ⟨d', by simpa using e1, e2⟩
theorem rst_start {K : Fg} {b : Option Addr} {H : Hp} {N : List Str} {ds : List D} {vs : List V} (bg : Bg b H) (r : Reps K b H ds vs) : Rst K b H (startD N ds) (L2.start N vs) H [] where
  len := by simp [startD, L2.start, r.length]
  slot := fun i => by
    unfold startD
    rw [look_app, List.length_map]
    by_cases h : i < ds.length
    · rw [if_pos h]
      obtain ⟨d, e1, e2⟩ := look_sh h
      rw [e2]
      obtain ⟨v, e3, rv⟩ := r.get e1
      refine ⟨v, ?_, by rw [hide_nil]; exact rv⟩
      unfold L2.start
      rw [List.getD_eq_getElem?_getD, List.getElem?_append_left (by rw [List.length_map, ← r.length]; exact h), List.getElem?_map, e3]
      rfl
    · rw [if_neg h, look_rep]; trivial
  uniq := fun i j a h1 _ => by
    unfold startD at h1
    rw [look_app, List.length_map] at h1
    by_cases h : i < ds.length
    · rw [if_pos h] at h1
      obtain ⟨d, e1, e2⟩ := look_sh h
      rw [e2] at h1; exact h1.elim
    · rw [if_neg h, look_rep] at h1; exact h1.elim
  nb := fun a m => by cases m
  le := by rw [hide_nil]; exact .refl H
  bg := by rw [hide_nil]; exact bg
/-- what a body is handed: its ends -/
abbrev fin (k : D → Prop) : EndD := { nx := fun _ => k .non, rt := k }
section
variable {P : Program} {w : World} {K : Fg} {mg : Str → Option Value} {base : Heap} {x qual : Str} {params : Arguments} {body : List Stmt} {scope : Scope} {dvs : List V} {kws : List (Str × V)} {f : Addr} {fd : FuncData}
theorem okD {N ps : List Str} {k : Nat} {s : GS} (F : FunD K x qual params body scope dvs kws f fd) (S : FnScope N ps scope) (hl : ∀ ds k e, s ds k e → ds.length = ps.length)
    (hbody : ∀ (cdv : Value) (A : Around) (outer : List Env) (s0 : Shared) (H : Hp) (E : XK) (b : Option Addr) (eo : XD → Prop), Room k (A.deeper (envOfC qual scope s0.heap.objs.size f cdv)) → Cz (cxOf (L2.CX P w) P w K mg base N qual scope f cdv A outer s0 H E) b H E eo →
      ∃ g, DSs b H (cxOf (L2.CX P w) P w K mg base N qual scope f cdv A outer s0 H E) body g ∧ ∀ ds k, s ds k eo → g (fin k) (startD N ds)) : FnOk P w K mg base (L2.CX P w) (k + 1) f fd ps (lift K s) := by
  refine F.ok S (fun vs H Q E ⟨b, ds, _, r, h⟩ => by rw [← r.length]; exact hl _ _ _ h) fun cdv A outer s0 H vs Q E hr ⟨b, ds, bg, r, h⟩ => ?_
  obtain ⟨g, dg, rd⟩ := hbody cdv A outer s0 H E b (fun x => ∀ cls d H', Ext b H H' → XAt K b H' x cls d → E cls d H') hr ⟨passes_call (takes_of rfl rfl rfl rfl) fun _ _ _ _ z => z, fun x cls d H' z x1 xa => z cls d H' x1 xa⟩
  refine ⟨_, dg.ps, startD N ds, [], rst_start bg r, dg.mn (fin _) _ _ (fun σ q σ' H' O R x1 => ?_) (fun d q v H' x1 r1 => q v H' x1 r1) (fun σ q => q.elim) (fun σ q => q.elim) (rd ds _ h)⟩
  have z : ∀ v H', Ext b H H' → Rep K b H' .non v → Q v H' := q
  exact z .non H' (R.ret (.refl H')) rfl
end
end DL
/-! DE5 -/
set_option Elab.async false
set_option linter.all false
set_option maxRecDepth 100000
set_option maxHeartbeats 4000000
/-! What is owned, pinned while something else runs; new instances; fields. -/
namespace DL
open PySem PySem.Spec PyProof.Rows L2
variable [TabC]
section
variable {X : Cx} {b : Option Addr} {H0 : Hp} {pins : List (Addr × Obj)} {σ σ2 : L2.St} {σd : StD} {H : Hp} {s0 s' : Shared} {O : List Addr}
theorem hid_obj (I : Inv X pins σ H s0) (hO : ∀ a ∈ O, Hid O H a) {a : Addr} (m : a ∈ O) : ∃ ob, s0.heap.get? a = some ob ∧ ∀ v, ob.data ≠ .cell v := by
  obtain ⟨o, e, q⟩ := hO a m
  have z := I.hok a o e
  cases o with
  | lst xs => obtain ⟨_, its, n, _, h⟩ := z; exact ⟨_, h, fun v w => by cases w⟩
  | dK kvs => obtain ⟨_, _, _, _, ob, es, ep, h, _, hd, _⟩ := z; exact ⟨_, h, fun v w => by rw [hd] at w; cases w⟩
  | ins C dx fs => obtain ⟨_, _, _, h, _⟩ := z; exact ⟨_, h, fun v w => by cases w⟩
  | own y =>
    obtain ⟨_, C, fs, hy⟩ := q
    obtain ⟨_, _, _, _, mA, ⟨od, es, ep, h, hd, _⟩, _⟩ := I.hok y _ hy
    exact ⟨od, h, fun v w => by rw [hd] at w; cases w⟩
  | _ => exact q.elim
theorem fs_none (I : Inv X pins σ H s0) {a : Addr} (h : a ∈ X.fs) : H a = none := by
  obtain ⟨_, o, ho, _⟩ := I.ok.funs.mem h
  exact I.base.free a o ho (I.ok.frf a h) fun z => I.ok.exfs a z h
theorem inv_pinO (I : Inv X pins σ H s0) (hO : ∀ a ∈ O, Hid O H a) : Inv X (pins ++ pinsAt O s0.heap) σ (hide O H) s0 := by
  have I1 := inv_hide I hO
  refine I1.pins_of fun p hp => (List.mem_append.mp hp).elim (fun z => I1.pin p (List.mem_append_right _ z)) fun z => ?_
  obtain ⟨hb, e⟩ := of_pinsAt z
  obtain ⟨ob, e2, d⟩ := hid_obj I hO hb
  rw [e] at e2; cases e2
  exact ⟨e, hide_in hb, fun w => (hO _ hb).ne (by rw [w]; exact I.free), fun w => (hO _ hb).ne (fs_none I w), d⟩
theorem inv_unO (I : Inv X pins σ H s0) (hO : ∀ a ∈ O, Hid O H a) (I2 : Inv X (pins ++ pinsAt O s0.heap) σ2 H2 s') : (∀ a ∈ O, H2 a = none) ∧ Inv X pins σ2 (back O H H2) s' := by
  have thr : ∀ a ∈ O, ∃ ob, s0.heap.get? a = some ob ∧ s'.heap.get? a = some ob ∧ H2 a = none := fun a m => by
    obtain ⟨ob, e, _⟩ := hid_obj I hO m
    obtain ⟨h1, h2, _⟩ := I2.pin (a, ob) (List.mem_append_right _ (List.mem_append_right _ (mem_pinsAt m e)))
    exact ⟨ob, e, h1, h2⟩
  have fr : ∀ a ∈ O, H2 a = none := fun a m => by
    obtain ⟨_, _, _, h⟩ := thr a m
    exact h
  have out : ∀ {a : Addr}, H a = none → a ∉ O := fun h m => (hO _ m).ne h
  refine ⟨fr, ⟨I2.ok, I2.os, I2.bare, ⟨fun c o e n h1 h2 => I2.base.keep c o e n h1 h2, fun c o e n h1 h2 => I2.base.slot c o e n h1 h2, fun c o e n h => ?_, fun c o e h => I2.base.there c o e h, fun c xs e => ?_, fun c o u e => ?_, fun c ps e => ?_⟩, I2.loc, I2.cell, ?_, fun x c e => ?_, fun p hp => ?_, ?_, I2.len⟩⟩
  · rw [back_out (out (I.base.free c o e n h))]; exact I2.base.free c o e n h
  · have q := hide_keep hO (I.base.tups c xs e) (.inl ⟨xs, rfl⟩)
    rw [back_out (of_hide q).1]; exact I2.base.tups c xs e
  · have q := hide_keep hO (I.base.frzs c o u e) (.inr (.inl ⟨o, u, rfl⟩))
    rw [back_out (of_hide q).1]; exact I2.base.frzs c o u e
  · obtain ⟨m, e2⟩ := I.base.tbls c ps e
    have q := hide_keep hO e2 (.inr (.inr ⟨_, rfl⟩))
    rw [back_out (of_hide q).1]; exact I2.base.tbls c ps e
  · rw [back_out (out I.free)]; exact I2.free
  · rw [back_out (out (I.freeC x c e))]; exact I2.freeC x c e
  · obtain ⟨h1, h2, h3, h4, h5⟩ := I2.pin p ((List.mem_append.mp hp).elim (fun z => List.mem_append_left _ z) fun z => List.mem_append_right _ (List.mem_append_left _ z))
    obtain ⟨_, g2, _⟩ := I.pin p hp
    exact ⟨h1, by rw [back_out (out g2)]; exact h2, h3, h4, h5⟩
  · intro a o e
    by_cases m : a ∈ O
    · rw [back_in m] at e
      obtain ⟨ob, q1, q2, _⟩ := thr a m
      obtain ⟨o2, e2, hid⟩ := hO a m
      rw [e] at e2; cases e2
      have z := I.hok a o e
      cases o with
      | lst xs =>
        obtain ⟨z1, its, n, r, h⟩ := z
        rw [q1] at h; cases h
        exact ⟨z1, its, n, r, q2⟩
      | dK kvs =>
        obtain ⟨z1, y, vs, r, ob', es, ep, h, c⟩ := z
        rw [q1] at h; cases h
        exact ⟨z1, y, vs, r, ob, es, ep, q2, c⟩
      | ins C dx fs =>
        obtain ⟨d, z1, ne, h, mA, ⟨od, es, ep, h2, c⟩, r⟩ := z
        rw [q1] at h; cases h
        obtain ⟨ob2, q3, q4, _⟩ := thr dx hid
        rw [h2] at q3; cases q3
        exact ⟨by rw [back_in hid]; exact d, z1, ne, q2, mA, ⟨od, es, ep, q4, c⟩, r⟩
      | own y => exact ⟨ob, q2⟩
      | _ => exact hid.elim
    · rw [back_out m] at e
      exact (I2.hok a o e).stay (fun _ _ _ q => q) (fun c q => by
        rw [back_out (fun w => by rw [fr c w] at q; cases q)]; exact q) fun c xs q => by
        rw [back_out (fun w => by rw [fr c w] at q; cases q)]; exact q
/-! ### a new instance -/
/-- an __init__ over data: the class, what stands so far, the arguments; what stands behind -/
abbrev GSI := Str → List Str → List D → List D → (List Str → List D → Prop) → (XD → Prop) → Prop
def MnSI (s : GSI) : Prop := ∀ c ns fs ds k k' e e', (∀ a d, k a d → k' a d) → (∀ x, e x → e' x) → s c ns fs ds k e → s c ns fs ds k' e'
def liftI (K : Fg) (s : GSI) : Sp := fun vs H Q E => ∃ (b : Option Addr) (c : Str) (ns : List Str) (fs ds : List D) (x dx : Addr) (vfs vs' : List V), vs = .ref x :: vs' ∧ some x ≠ b ∧ some dx ≠ b ∧ H x = some (.ins (He.ga K c) dx (ns.zip vfs)) ∧ H dx = some (.own x) ∧ dx ≠ x ∧ ns.length = vfs.length ∧
  Reps K b (hide [x, dx] H) fs vfs ∧ Bg b (hide [x, dx] H) ∧ Reps K b (hide [x, dx] H) ds vs' ∧
  s c ns fs ds (fun ns' fs' => ∀ H' vfs', Ext b (hide [x, dx] H) (hide [x, dx] H') → H' x = some (.ins (He.ga K c) dx (ns'.zip vfs')) → H' dx = some (.own x) → ns'.length = vfs'.length → Reps K b (hide [x, dx] H') fs' vfs' → Q .non H')
    (fun xd => ∀ cls d H', Ext b (hide [x, dx] H) H' → XAt K b H' xd cls d → E cls d H')
theorem le_upd2 {H1 H : Hp} {O : List Addr} {x dx : Addr} {o o' : HO} (hx : H x = none) (hd : H dx = none) : hide [x, dx] (upd (upd H dx o) x o') = H := by
  funext a
  by_cases e1 : a = x
  · subst e1; rw [hide_in (by simp), hx]
  · by_cases e2 : a = dx
    · subst e2; rw [hide_in (by simp), hd]
    · rw [hide_out (by simp [e1, e2]), upd_ne e1, upd_ne e2]
variable {E : XK} {eo : XD → Prop} {s : GSI} {k : Nat} {f : Addr} {fd : FuncData} {ps : List Str} {ds dd : List D} {vs dvs : List V} {us dus : List Value} {Q : VK} {c : Str}
end
section
variable {X : Cx} {b : Option Addr} {H0 : Hp} {E : XK} {eo : XD → Prop} {s : GSI} {k : Nat} {f : Addr} {fd : FuncData} {ps : List Str} {dd : List D} {dvs : List V} {dus : List Value} {x c : Str} {p pos apos : Pos} {e o : Expr} {es : List Expr} {ga : GA} {ge go : GE}
def gMake (c : Str) (s : GSI) (dd : List D) (eo : XD → Prop) (ga : GA) : GE := fun σ k => ga σ fun ds => s c [] [] (ds ++ dd) (fun ns fs => k (.ins c ns fs)) eo
/-! ### fields -/
def gFld (c : Str) (NS : List Str) (i : Nat) (ge : GE) : GE := fun σ k => ge σ fun d => match d with
  | .ins c' ns ds => c' = c ∧ ns = NS ∧ (match ds[i]? with | some d => k d | none => False)
  | _ => False
theorem gFld_mn {NS : List Str} {i : Nat} (A : Mn ge) : Mn (gFld c NS i ge) := fun σ k k' h q => A _ _ _ (fun d z => by
  cases d with
  | ins c' ns ds =>
    refine ⟨z.1, z.2.1, ?_⟩
    have w := z.2.2
    cases e : ds[i]? <;> rw [e] at w <;> first | exact h _ w | exact w.elim
  | _ => exact z.elim) q
theorem lookup_zip {m : Str} : ∀ {ns : List Str} {vs : List V} {i : Nat} {v : V}, ns.Nodup → ns[i]? = some m → vs[i]? = some v → (ns.zip vs).lookup m = some v
  | [], _, _, _, _, h, _ => by simp at h
  | _ :: _, [], _, _, _, _, h => by simp at h
  | n :: ns, v :: vs, 0, _, _, h1, h2 => by
    simp at h1 h2
    subst h1 h2
    simp [List.lookup]
  | n :: ns, v :: vs, i + 1, _, nd, h1, h2 => by
    have h1' : ns[i]? = some m := by simpa using h1
    have hne : ¬ m = n := fun z => (List.nodup_cons.mp nd).1 (z ▸ List.mem_of_getElem? h1')
    simp only [List.zip_cons_cons, List.lookup]
    rw [show (m == n) = false by simpa using hne]
    exact lookup_zip (List.nodup_cons.mp nd).2 h1' (by simpa using h2)
theorem fld_ok {K : Fg} {Hh H : Hp} {d : D} {v : V} {NS : List Str} {i : Nat} {f : Str} {Q : VK} (le : Le b Hh H) (cl : Cls K (He.ga K c)) (na : NoAttr K (He.ga K c) f) (nd : NS.Nodup) (hi : NS[i]? = some f) (r : Rep K b Hh d v)
    (q : match d with | .ins c' ns ds => c' = c ∧ ns = NS ∧ (match ds[i]? with | some d => (∀ v, Rep K b Hh d v → Q v H) | none => False) | _ => False) : ∃ a C dx fs w, v = .ref a ∧ H a = some (.ins C dx fs) ∧ Cls K C ∧ NoAttr K C f ∧ fs.lookup f = some w ∧ Q w H := by
  cases d with
  | ins c' ns ds =>
    obtain ⟨e1, e2, q⟩ := q
    subst e1 e2
    obtain ⟨a, dx, vs, rfl, n, h, l, rs⟩ := r.ins
    cases e : ds[i]? with
    | none => rw [e] at q; exact q.elim
    | some d =>
      rw [e] at q
      obtain ⟨w, e2, rw'⟩ := rs.get e
      exact ⟨a, _, dx, _, w, rfl, le _ _ n h rfl, cl, na, lookup_zip nd hi e2, q w rw'⟩
  | _ => exact q.elim
theorem de_fld {NS : List Str} {i : Nat} {fl : Str} (A : DE b H0 X e ge) (cl : Cls X.K (He.ga X.K c)) (na : NoAttr X.K (He.ga X.K c) fl) (nd : NS.Nodup) (hi : NS[i]? = some fl := by rfl) (hb : attributeBase e fl X.env (eval e X.env) = eval e X.env := by rfl) : DE b H0 X (.Attribute e fl pos) (gFld c NS i ge) :=
  ⟨pe_imp (pe_fld A.pe hb) fun σ H Q ⟨σd, O, R, q⟩ => ⟨σd, O, R, A.mn _ _ _ (fun d z v H' x r => fld_ok (b := b) (c := c) (NS := NS) (i := i) hide_le cl na nd hi r (by
    cases d with
    | ins c' ns ds =>
      refine ⟨z.1, z.2.1, ?_⟩
      have w := z.2.2
      cases e : ds[i]? <;> rw [e] at w <;> first | exact fun v r => w v H' x r | exact w.elim
    | _ => exact z.elim)) q⟩, gFld_mn A.mn⟩
end
end DL
/-! DE6 -/
set_option Elab.async false
set_option linter.all false
set_option maxRecDepth 100000
set_option maxHeartbeats 4000000
/-! __init__: the instance under construction. -/
namespace DL
open PySem PySem.Spec PyProof.Rows L2
variable [TabC]
theorem putF_zip {f : Str} {y : V} : ∀ {ns : List Str} {vs : List V}, f ∉ ns → ns.length = vs.length → putF f y (ns.zip vs) = (ns ++ [f]).zip (vs ++ [y])
  | [], [], _, _ => rfl
  | [], _ :: _, _, h => by simp at h
  | _ :: _, [], _, h => by simp at h
  | n :: ns, v :: vs, h, l => by
    have h1 : ¬ n = f := fun z => h (by simp [z])
    show (if n = f then (n, y) :: ns.zip vs else (n, v) :: putF f y (ns.zip vs)) = _
    rw [if_neg h1, putF_zip (fun z => h (List.mem_cons_of_mem _ z)) (by simpa using l)]
    rfl
section
variable {X : Cx} {b : Option Addr} {H0 : Hp} {ge : GE} {pos pos' : Pos} {e o : Expr} {c : Str}
def gSelf (i : Nat) (c : Str) (ns0 : List Str) (f : Str) (ge : GE) : GSt := fun D σ => ge σ fun d => match look σ i with
  | .obj a dx c' ns ds => c' = c ∧ ns = ns0 ∧ D.nx (put σ i (.obj a dx c' (ns ++ [f]) (ds ++ [d])))
  | _ => False
theorem gSelf_mn {i : Nat} {ns0 : List Str} {f : Str} (A : Mn ge) : MnD (gSelf i c ns0 f ge) := fun D D' σ h1 h2 h3 h4 q => A _ _ _ (fun d z => by
  cases e : look σ i <;> rw [e] at z <;> first | exact ⟨z.1, z.2.1, h1 _ z.2.2⟩ | exact z.elim) q
theorem Rst.updObj {K : Fg} {σd : StD} {σ : L2.St} {H : Hp} {O : List Addr} {i : Nat} {a dx : Addr} {ns : List Str} {ds : List D} {d : D} {y : V} {f : Str} {vs : List V} (R : Rst K b H0 σd σ H O) (e : look σd i = .obj a dx c ns ds) (ha : σ.getD i none = some (.ref a)) (m : a ∈ O) (md : dx ∈ O)
    (h1 : H a = some (.ins (He.ga K c) dx (ns.zip vs))) (h2 : H dx = some (.own a)) (l : ns.length = vs.length) (rs : Reps K b (hide O H) ds vs) (r : Rep K b (hide O H) d y) :
    Rst K b H0 (put σd i (.obj a dx c (ns ++ [f]) (ds ++ [d]))) σ (upd H a (.ins (He.ga K c) dx ((ns ++ [f]).zip (vs ++ [y])))) O := by
  have hi : i < σd.length := by
    refine Nat.lt_of_not_le fun z => ?_
    rw [look_out z] at e; cases e
  have nda : dx ≠ a := fun z => by rw [z, h1] at h2; cases h2
  refine ⟨by rw [put_length]; exact R.len, fun j => ?_, fun j k a' g1 g2 => ?_, fun x mx => ?_, by rw [hide_upd m]; exact R.le, by rw [hide_upd m]; exact R.bg⟩
  · rw [look_put j hi]
    by_cases ej : j = i
    · subst ej
      rw [if_pos rfl]
      exact ⟨vs ++ [y], ha, m, md, upd_same, by rw [upd_ne nda]; exact h2, by simp [l], by rw [hide_upd m]; exact rs.append (Reps.cons r Reps.nil)⟩
    · rw [if_neg ej]
      have s := R.slot j
      have un : ∀ a', Owns (look σd j) (σ.getD j none) a' → a' ≠ a := fun a' ow z => ej (R.uniq j i a (z ▸ ow) (by rw [e, ha]; rfl))
      cases ej2 : look σd j with
      | unset => trivial
      | sh d => rw [ej2] at s; obtain ⟨v, e1, r⟩ := s; exact ⟨v, e1, by rw [hide_upd m]; exact r⟩
      | own ds =>
        rw [ej2] at s un
        obtain ⟨a2, vs, e1, m2, h3, r⟩ := s
        exact ⟨a2, vs, e1, m2, by rw [upd_ne (un a2 (by rw [e1]; rfl))]; exact h3, by rw [hide_upd m]; exact r⟩
      | owd kx ds =>
        rw [ej2] at s un
        obtain ⟨a2, vs, e1, m2, h3, r⟩ := s
        exact ⟨a2, vs, e1, m2, by rw [upd_ne (un a2 (by rw [e1]; rfl))]; exact h3, by rw [hide_upd m]; exact r⟩
      | obj a2 dx2 c2 ns2 ds2 =>
        rw [ej2] at s un
        obtain ⟨vs, e1, m2, md2, h3, h4, l2, r⟩ := s
        have hne : a2 ≠ a := un a2 (by rw [e1]; rfl)
        exact ⟨vs, e1, m2, md2, by rw [upd_ne hne]; exact h3, by rw [upd_ne (fun z => by rw [z, h1] at h4; cases h4)]; exact h4, l2, by rw [hide_upd m]; exact r⟩
  · have key : ∀ j a', Owns (look (put σd i (.obj a dx c (ns ++ [f]) (ds ++ [d]))) j) (σ.getD j none) a' → Owns (look σd j) (σ.getD j none) a' := fun j a' g => by
      rw [look_put j hi] at g
      by_cases ej : j = i
      · subst ej
        rw [if_pos rfl] at g
        rw [e]
        rw [ha] at g ⊢
        exact g
      · rw [if_neg ej] at g; exact g
    exact R.uniq j k a' (key j a' g1) (key k a' g2)
  · obtain ⟨n1, n2, o, eo, n3⟩ := R.nb x mx
    refine ⟨n1, n2, ?_⟩
    by_cases ex : x = a
    · subst ex
      exact ⟨_, upd_same, md⟩
    · refine ⟨o, by rw [upd_ne ex]; exact eo, ?_⟩
      cases o with
      | own y2 =>
        obtain ⟨q1, C, fs, q2⟩ := n3
        refine ⟨q1, ?_⟩
        by_cases ey : y2 = a
        · subst ey
          rw [h1] at q2; cases q2
          exact ⟨_, _, upd_same⟩
        · exact ⟨C, fs, by rw [upd_ne ey]; exact q2⟩
      | _ => exact n3
theorem ds_self {i : Nat} {x fl : Str} {ns0 : List Str} {p : Pos} (A : DE b H0 X e ge) (cl : Cls X.K (He.ga X.K c)) (na : NoAttr X.K (He.ga X.K c) fl) (nf : fl ∉ ns0) (nl : ns0.length < 900) (hs : swapsWith e (some (.Attribute (.Name x p) fl pos')) pos.line X.env = pure false := by rfl)
    (hN : X.N[i]? = some x := by rfl) (hv : Vis X.env.scope x := by first | exact Or.inl rfl | exact Or.inr (Or.inl rfl) | exact Or.inr (Or.inr rfl)) (hd : (x == ("__debug__" : Str)) = false := by decide) (hcd : (x == ("__classdict__" : Str)) = false := by decide) :
    DS b H0 X (.Assign [.Attribute (.Name x p) fl pos'] e pos) (gSelf i c ns0 fl ge) := by
  refine ⟨ps_imp (ps_fld (pe_var hN hv hd hcd) A.pe hs) fun D σ H ⟨σd, O, R, q⟩ => ⟨σd, O, R, A.mn _ _ _ (fun d z v H' x1 r => ?_) q⟩, gSelf_mn A.mn⟩
  cases e1 : look σd i with
  | obj a dx c' ns ds =>
    rw [e1] at z
    obtain ⟨e2, e3, z⟩ := z
    subst e2 e3
    have R1 := R.mono x1
    have s := R1.slot i
    rw [e1] at s
    obtain ⟨vs, e2, m, md, h1, h2, l, rs⟩ := s
    refine ⟨.ref a, getD_some e2, a, _, dx, _, rfl, h1, cl, na, ?_, ?_⟩
    · rw [List.length_zip]; omega
    · rw [putF_zip nf l]
      have R2 := R1.updObj (f := fl) e1 e2 m md h1 h2 l rs r
      refine z σ _ O R2 ?_
      rw [hide_upd m]
      exact R.hx x1
  | _ => rw [e1] at z; exact z.elim
end
/-! ### __init__ keeps its promise, by its body -/
def initD (N : List Str) (a dx : Addr) (c : Str) (ns : List Str) (fs ds : List D) : StD := .obj a dx c ns fs :: (ds.map SD.sh ++ List.replicate (N.length - (ds.length + 1)) SD.unset)
theorem rst_init {K : Fg} {b : Option Addr} {H : Hp} {N : List Str} {x dx : Addr} {c : Str} {ns : List Str} {fs ds : List D} {vfs vs : List V} (nx : some x ≠ b) (ndx : some dx ≠ b) (hx : H x = some (.ins (He.ga K c) dx (ns.zip vfs))) (hd : H dx = some (.own x)) (ne : dx ≠ x) (l : ns.length = vfs.length)
    (rf : Reps K b (hide [x, dx] H) fs vfs) (bg : Bg b (hide [x, dx] H)) (r : Reps K b (hide [x, dx] H) ds vs) : Rst K b (hide [x, dx] H) (initD N x dx c ns fs ds) (L2.start N (.ref x :: vs)) H [x, dx] where
  len := by simp [initD, L2.start, r.length]
  slot := fun i => by
    cases i with
    | zero => exact ⟨vfs, rfl, by simp, by simp, hx, hd, l, rf⟩
    | succ i =>
      show SlotOk K b [x, dx] H (look (ds.map SD.sh ++ List.replicate (N.length - (ds.length + 1)) SD.unset) i) _
      rw [look_app, List.length_map]
      by_cases h : i < ds.length
      · rw [if_pos h]
        obtain ⟨d, e1, e2⟩ := look_sh h
        rw [e2]
        obtain ⟨v, e3, rv⟩ := r.get e1
        refine ⟨v, ?_, rv⟩
        unfold L2.start
        rw [List.map_cons, List.cons_append, List.getD_eq_getElem?_getD, List.getElem?_cons_succ, List.getElem?_append_left (by rw [List.length_map, ← r.length]; exact h), List.getElem?_map, e3]
        rfl
      · rw [if_neg h, look_rep]; trivial
  uniq := fun i j a h1 h2 => by
    have key : ∀ i a, Owns (look (initD N x dx c ns fs ds) i) ((L2.start N (.ref x :: vs)).getD i none) a → i = 0 := fun i a h => by
      cases i with
      | zero => rfl
      | succ i =>
        have h : Owns (look (ds.map SD.sh ++ List.replicate (N.length - (ds.length + 1)) SD.unset) i) _ a := h
        rw [look_app, List.length_map] at h
        by_cases hl : i < ds.length
        · rw [if_pos hl] at h
          obtain ⟨d, e1, e2⟩ := look_sh hl
          rw [e2] at h; exact h.elim
        · rw [if_neg hl, look_rep] at h; exact h.elim
    rw [key i a h1, key j a h2]
  nb := fun a m => by
    rcases List.mem_cons.mp m with rfl | m
    · exact ⟨nx, trivial, _, hx, by simp⟩
    · have e : a = dx := by simpa using m
      subst e
      exact ⟨ndx, trivial, _, hd, by simp, _, _, hx⟩
  le := .refl _
  bg := bg
/-- what an __init__'s body is handed: its end -/
abbrev finI (x dx : Addr) (c : Str) (k : List Str → List D → Prop) : EndD := { nx := fun σ => match look σ 0 with | .obj a d c' ns fs => a = x ∧ d = dx ∧ c' = c ∧ k ns fs | _ => False, rt := fun _ => False }
section
variable {P : Program} {w : World} {K : Fg} {mg : Str → Option Value} {base : Heap} {x qual : Str} {params : Arguments} {body : List Stmt} {scope : Scope} {dvs : List V} {kws : List (Str × V)} {f : Addr} {fd : FuncData}
theorem okI {N ps : List Str} {k : Nat} {s : GSI} (F : FunD K x qual params body scope dvs kws f fd) (S : FnScope N ps scope) (hl : ∀ c ns fs ds k e, s c ns fs ds k e → ds.length + 1 = ps.length)
    (hbody : ∀ (cdv : Value) (A : Around) (outer : List Env) (s0 : Shared) (Hc H : Hp) (E : XK) (b : Option Addr) (eo : XD → Prop), Room k (A.deeper (envOfC qual scope s0.heap.objs.size f cdv)) → Cz (cxOf (L2.CX P w) P w K mg base N qual scope f cdv A outer s0 Hc E) b H E eo →
      ∀ c ns fs ds k, s c ns fs ds k eo → ∃ g, DSs b H (cxOf (L2.CX P w) P w K mg base N qual scope f cdv A outer s0 Hc E) body g ∧ ∀ a dx, g (finI a dx c k) (initD N a dx c ns fs ds)) : FnOk P w K mg base (L2.CX P w) (k + 1) f fd ps (liftI K s) := by
  refine F.ok S (fun vs H Q E ⟨b, c, ns, fs, ds, x, dx, vfs, vs', e, _, _, _, _, _, _, _, _, r, h⟩ => by rw [e, List.length_cons, ← r.length]; exact hl _ _ _ _ _ _ h) fun cdv A outer s0 H vs Q E hr ⟨b, c, ns, fs, ds, x, dx, vfs, vs', e, nx, ndx, hx, hd, ne, l, rf, bg, r, h⟩ => ?_
  subst e
  obtain ⟨g, dg, rd⟩ := hbody cdv A outer s0 H (hide [x, dx] H) E b (fun xd => ∀ cls d H', Ext b (hide [x, dx] H) H' → XAt K b H' xd cls d → E cls d H') hr ⟨passes_call (takes_of rfl rfl rfl rfl) fun _ _ _ _ z => z, fun xd cls d H' z x1 xa => z cls d H' x1 xa⟩ _ _ _ _ _ h
  refine ⟨_, dg.ps, _, [x, dx], rst_init nx ndx hx hd ne l rf bg r, dg.mn (finI x dx c _) _ _ (fun σ q σ' H' O R x1 => ?_) (fun d q => q.elim) (fun σ q => q.elim) (fun σ q => q.elim) (rd x dx)⟩
  have s := R.slot 0
  have q : (match look σ 0 with | .obj a d c' ns fs => a = x ∧ d = dx ∧ c' = c ∧ _ | _ => False) := q
  cases e : look σ 0 with
  | obj a d c' ns' fs' =>
    rw [e] at q s
    obtain ⟨e1, e2, e3, q⟩ := q
    subst e1 e2 e3
    obtain ⟨vs2, e4, m, md, h1, h2, l2, rs⟩ := s
    have sub : ∀ y ∈ ([a, d] : List Addr), y ∈ O := fun y my => by
      rcases List.mem_cons.mp my with rfl | my
      · exact m
      · have ey : y = d := by simpa using my
        rw [ey]; exact md
    have xs : Ext b (hide O H') (hide [a, d] H') := ⟨hide_mono sub, fun y ey c i j mm h h0 => by
      obtain ⟨n1, n2⟩ := of_hide h
      exact ⟨i, j, h0, by rw [hide_out (fun z => n1 (sub y z))]; exact n2⟩, fun t => tabs_hide (fun y my => (R.nb y (sub y my)).2.2.nt) (tabs_unhide t)⟩
    exact q H' vs2 (R.le.trans xs) h1 h2 l2 (rs.mono (hide_mono sub))
  | _ => rw [e] at q; exact q.elim
end
end DL
/-! DE7 -/
set_option Elab.async false
set_option linter.all false
set_option maxRecDepth 100000
set_option maxHeartbeats 4000000
/-! More operations: == of any data, in, isinstance, slices, join, chains, constants of classes. -/
namespace DL
open PySem PySem.Spec PyProof.Rows L2
variable [TabC]
/-! ### == -/
/-- flat values -/
def flatD : D → Bool
  | .non => true | .bl _ => true | .int _ => true | .str _ => true | _ => false
def eqF : D → D → Bool
  | .non, .non => true
  | .bl a, .bl b => a == b
  | .bl a, .int b => (if a then 1 else 0) == b
  | .int a, .bl b => a == (if b then 1 else 0)
  | .int a, .int b => a == b
  | .str a, .str b => a == b
  | _, _ => false
def isBl : D → Bool | .bl _ => true | _ => false
def isIn : D → Bool | .int _ => true | _ => false
def sclD (x y : D) : Bool := flatD x && flatD y && !(isBl x && isIn y) && !(isIn x && isBl y)
def dEqA (neg : Bool) : D → D → (D → Prop) → Prop := fun x y k => bif sclD x y then k (.bl (if neg then !eqF x y else eqF x y)) else dEq neg x y k
section
variable {X : Cx} {b : Option Addr} {H0 : Hp} {a c e : Expr} {ga gb gc : GE} {pos : Pos}
theorem dEqA_mn (neg : Bool) : ∀ x y (k k' : D → Prop), (∀ d, k d → k' d) → dEqA neg x y k → dEqA neg x y k' := by
  intro x y k k' i q
  unfold dEqA at q ⊢
  cases s : sclD x y
  · rw [s] at q
    have q : dEq neg x y k := q
    show dEq neg x y k'
    unfold dEq at q ⊢
    cases e1 : toPy x <;> cases e2 : toPy y <;> rw [e1, e2] at q <;> first | exact ⟨q.1, q.2.1, i _ q.2.2⟩ | exact q.elim
  · rw [s] at q
    exact i _ q
theorem scl_rep {K : Fg} {H : Hp} {d e : D} {v u : V} (r : Rep K b H d v) (s : Rep K b H e u) (h : sclD d e = true) : scal v u = true ∧ decide (v = u) = eqF d e := by
  cases d <;> first | cases h | skip
  all_goals cases e <;> first | cases h | skip
  all_goals (first | cases r.non | cases r.bl | cases r.int | cases r.str)
  all_goals (first | cases s.non | cases s.bl | cases s.int | cases s.str)
  all_goals refine ⟨rfl, ?_⟩
  all_goals simp only [eqF, decide_eq_true_eq, reduceCtorEq, decide_false, decide_true]
  all_goals rw [Bool.eq_iff_iff]; simp
theorem op2_eqA : Op2 X.K b (fun x y H Q => rEq x y H Q ∨ rEqD X.K x y H Q) (dEqA false) := by
  refine ⟨dEqA_mn false, fun O H dx dy x y Q F r1 r2 q => ?_⟩
  unfold dEqA at q
  cases s : sclD dx dy <;> rw [s] at q
  · exact .inr (op2_eq.ok O H dx dy x y Q F r1 r2 q)
  · obtain ⟨h1, h2⟩ := scl_rep r1 r2 s
    exact .inl ⟨h1, by rw [h2]; exact q _ H (.refl H) rfl⟩
theorem op2_neA : Op2 X.K b (fun x y H Q => rNe x y H Q ∨ rNeD X.K x y H Q) (dEqA true) := by
  refine ⟨dEqA_mn true, fun O H dx dy x y Q F r1 r2 q => ?_⟩
  unfold dEqA at q
  cases s : sclD dx dy <;> rw [s] at q
  · exact .inr (op2_ne.ok O H dx dy x y Q F r1 r2 q)
  · obtain ⟨h1, h2⟩ := scl_rep r1 r2 s
    exact .inl ⟨h1, by rw [h2]; exact q _ H (.refl H) rfl⟩
theorem op_eqG {k : Nat} (hr : Room k X.A) : OpR X (compareOp .Eq) (fun x y H Q => rEq x y H Q ∨ rEqD X.K x y H Q) := op_eq.or (op_eqD hr.units)
theorem op_neG {k : Nat} (hr : Room k X.A) : OpR X (compareOp .NotEq) (fun x y H Q => rNe x y H Q ∨ rNeD X.K x y H Q) := op_ne.or (op_neD hr.units)
theorem de_eqA {k : Nat} (hr : Room k X.A) (A : DT b H0 X a ga) (B : DT b H0 X c gb) : DE b H0 X (.Compare a [.Eq] [c] pos) (g2 (dEqA false) ga gb) := de_cmp (op_eqG hr) op2_eqA A B
theorem db_eqA {k : Nat} (hr : Room k X.A) (A : DT b H0 X a ga) (B : DT b H0 X c gb) : DB b H0 X (.Compare a [.Eq] [c] pos) (gB (g2 (dEqA false) ga gb)) := db_cmp (op_eqG hr) op2_eqA A B
theorem db_neA {k : Nat} (hr : Room k X.A) (A : DT b H0 X a ga) (B : DT b H0 X c gb) : DB b H0 X (.Compare a [.NotEq] [c] pos) (gB (g2 (dEqA true) ga gb)) := db_cmp (op_neG hr) op2_neA A B
/-! ### in -/
/-- x in a list or tuple of flat values -/
def dIn (neg : Bool) : D → D → (D → Prop) → Prop := fun x y k => match y with
  | .lst ds => flatD x = true ∧ ds.all flatD = true ∧ k (.bl (if neg then !(ds.any fun z => eqF z x) else ds.any fun z => eqF z x))
  | .tup ds => flatD x = true ∧ ds.all flatD = true ∧ k (.bl (if neg then !(ds.any fun z => eqF z x) else ds.any fun z => eqF z x))
  | _ => False
theorem flat_rep {K : Fg} {H : Hp} {d : D} {v : V} (r : Rep K b H d v) (f : flatD d = true) : flatV v = true := by
  cases d <;> first | (cases r.non; rfl) | (cases r.bl; rfl) | (cases r.int; rfl) | (cases r.str; rfl) | cases f
theorem eqF_rep {K : Fg} {H : Hp} {d e : D} {v u : V} (r : Rep K b H d v) (s : Rep K b H e u) (f : flatD d = true) (g : flatD e = true) : eqV v u = eqF d e := by
  cases d <;> first | cases f | skip
  all_goals cases e <;> first | cases g | skip
  all_goals (first | cases r.non | cases r.bl | cases r.int | cases r.str)
  all_goals (first | cases s.non | cases s.bl | cases s.int | cases s.str)
  all_goals rfl
theorem flats_rep {K : Fg} {H : Hp} {e : D} {u : V} (s : Rep K b H e u) (g : flatD e = true) : ∀ {ds : List D} {vs : List V}, Reps K b H ds vs → ds.all flatD = true → vs.all flatV = true ∧ inV u vs = ds.any fun z => eqF z e
  | [], _, r, _ => by rw [r.of_nil]; exact ⟨rfl, rfl⟩
  | d :: ds, vs, r, f => by
    obtain ⟨v, q, rfl, h1, h2⟩ := r.of_cons
    rw [List.all_cons, Bool.and_eq_true] at f
    obtain ⟨i1, i2⟩ := flats_rep s g h2 f.2
    refine ⟨by rw [List.all_cons, flat_rep h1 f.1, i1]; rfl, ?_⟩
    have i2' : q.any (fun y => eqV y u) = ds.any fun z => eqF z e := i2
    show (v :: q).any (fun y => eqV y u) = _
    rw [List.any_cons, List.any_cons, i2', eqF_rep h1 s f.1 g]
theorem dIn_mn (neg : Bool) : ∀ x y (k k' : D → Prop), (∀ d, k d → k' d) → dIn neg x y k → dIn neg x y k' := by
  intro x y k k' i q
  cases y <;> first | exact ⟨q.1, q.2.1, i _ q.2.2⟩ | exact q.elim
theorem op2_in (neg : Bool) : Op2 X.K b (rIn X.K neg) (dIn neg) := by
  refine ⟨dIn_mn neg, fun O H dx dy x y Q F r1 r2 q => ?_⟩
  cases dy with
  | lst ds =>
    obtain ⟨p, vs, rfl, n, h, s⟩ := r2.lst
    obtain ⟨h1, h2⟩ := flats_rep r1 q.1 s q.2.1
    exact ⟨p, vs, rfl, .inl h, flat_rep r1 q.1, h1, by rw [h2]; exact q.2.2 _ H (.refl H) rfl⟩
  | tup ds =>
    obtain ⟨p, vs, rfl, n, h, s⟩ := r2.tup
    obtain ⟨h1, h2⟩ := flats_rep r1 q.1 s q.2.1
    exact ⟨p, vs, rfl, .inr h, flat_rep r1 q.1, h1, by rw [h2]; exact q.2.2 _ H (.refl H) rfl⟩
  | _ => exact q.elim
/-- x in a list of any data -/
def dInD (neg : Bool) : D → D → (D → Prop) → Prop := fun x y k => match toPy x, y with
  | some d, .lst es => (match toPys es with
    | some ds => SeqAt.shaped d = true ∧ SeqAt.shaped (.list ds) = true ∧ k (.bl (if neg then !(ds.any fun z => PyData.eqv z d) else ds.any fun z => PyData.eqv z d))
    | none => False)
  | _, _ => False
theorem dInD_mn (neg : Bool) : ∀ x y (k k' : D → Prop), (∀ d, k d → k' d) → dInD neg x y k → dInD neg x y k' := by
  intro x y k k' i q
  unfold dInD at q ⊢
  cases e : toPy x with
  | none => rw [e] at q; exact q.elim
  | some d =>
    rw [e] at q
    cases y with
    | lst es =>
      simp only at q ⊢
      cases e2 : toPys es <;> rw [e2] at q <;> first | exact ⟨q.1, q.2.1, i _ q.2.2⟩ | exact q.elim
    | _ => exact q.elim
theorem inD_ok {K : Fg} {neg : Bool} {O : List Addr} {H : Hp} {dx dy : D} {x y : V} {Q : VK} (r1 : Rep K b H dx x) (r2 : Rep K b H dy y) (q : dInD neg dx dy (fun d => ∀ v H', Ext b H H' → Rep K b (hide O H') d v → Q v H')) :
    ∃ d ds, Dp K H x d ∧ Dp K H y (.list ds) ∧ SeqAt.shaped d = true ∧ SeqAt.shaped (.list ds) = true ∧ Q (.bl (if neg then !(ds.any fun z => PyData.eqv z d) else ds.any fun z => PyData.eqv z d)) H := by
  unfold dInD at q
  cases e : toPy dx with
  | none => rw [e] at q; exact q.elim
  | some d =>
    rw [e] at q
    cases dy with
    | lst es =>
      simp only at q
      cases e2 : toPys es with
      | none => rw [e2] at q; exact q.elim
      | some ds =>
        rw [e2] at q
        exact ⟨d, ds, r1.dp e, r2.dp (by simp only [toPy, e2]; rfl), q.1, q.2.1, q.2.2 _ H (.refl H) rfl⟩
    | _ => exact q.elim
theorem un65 {k : Nat} (hr : Room (k + 1) X.A) : X.A.units + 65 < cLine := by have := hr.un; omega
/-! ### chains -/
def gChain (rd rd' : D → D → (D → Prop) → Prop) (ga gb gc : GE) : GE := fun σ k => ga σ fun x => gb σ fun y => rd x y fun z => match z with
  | .bl true => gc σ fun w => rd' y w k
  | .bl false => k (.bl false)
  | _ => False
theorem gChain_mn {rd rd' : D → D → (D → Prop) → Prop} (h : ∀ x y (k k' : D → Prop), (∀ d, k d → k' d) → rd x y k → rd x y k') (h' : ∀ x y (k k' : D → Prop), (∀ d, k d → k' d) → rd' x y k → rd' x y k') (A : Mn ga) (B : Mn gb) (C : Mn gc) : Mn (gChain rd rd' ga gb gc) := fun σ k k' i q =>
  A _ _ _ (fun x hx => B _ _ _ (fun y hy => h _ _ _ _ (fun z hz => by
    cases z with
    | bl t => cases t; exact i _ hz; exact C _ _ _ (fun w hw => h' _ _ _ _ i hw) hz
    | _ => exact hz.elim) hy) hx) q
theorem chain_ok {r r' : R2} {rd rd' : D → D → (D → Prop) → Prop} (o : Op2 X.K b r rd) (o' : Op2 X.K b r' rd') (A : Mn ga) (B : Mn gb) (C : Mn gc) {σ : L2.St} {H : Hp} {Q : VK} (h : LE X.K b H0 (gChain rd rd' ga gb gc) σ H Q) : tChain r r' (LT X.K b H0 ga) (LT X.K b H0 gb) (LT X.K b H0 gc) σ H Q := by
  obtain ⟨σd, O, R, q⟩ := h
  refine ⟨σd, O, R, A _ _ _ (fun x hx v1 H1 x1 r1 => ?_) q⟩
  refine ⟨σd, O, R.mono x1, B _ _ _ (fun y hy v2 H2 x2 r2 => ?_) hx⟩
  have F2 : Fresh b O H2 := fun p hp => (R.mono (x1.trans x2)).free hp
  refine o.ok O H2 x y v1 v2 _ F2 (r1.mono x2.1) r2 (o.mn _ _ _ _ (fun z hz v H' x3 r3 => ?_) hy)
  cases z with
  | bl t =>
    refine ⟨t, r3, ?_⟩
    cases t with
    | true =>
      refine iteT ?_
      refine ⟨σd, O, R.mono (x1.trans (x2.trans x3)), C _ _ _ (fun w hw v4 H4 x4 r4 => ?_) hz⟩
      exact o'.ok O H4 y w v2 v4 Q (fun p hp => (R.mono (x1.trans (x2.trans (x3.trans x4)))).free hp) ((r2.mono x3.1).mono x4.1) r4 (o'.mn _ _ _ _ (fun d kd v H' x5 r5 => kd v H' (x1.trans (x2.trans (x3.trans (x4.trans x5)))) r5) hw)
    | false => exact iteF (hz (.bl false) H' (x1.trans (x2.trans x3)) rfl)
  | _ => exact hz.elim
theorem de_chain {op op' : CmpOp} {r r' : R2} {rd rd' : D → D → (D → Prop) → Prop} (ho : OpR X (compareOp op) r) (ho' : OpR X (compareOp op') r') (o : Op2 X.K b r rd) (o' : Op2 X.K b r' rd') (A : DT b H0 X a ga) (B : DT b H0 X c gb) (C : DT b H0 X e gc)
    (hm : lastMarks [op, op'] [c, e] = false := by with_unfolding_all rfl) : DE b H0 X (.Compare a [op, op'] [c, e] pos) (gChain rd rd' ga gb gc) :=
  ⟨pe_imp (pe_chain ho ho' A.pe B.pe C.pe hm) fun σ H Q h => chain_ok o o' A.mn B.mn C.mn h, gChain_mn o.mn o'.mn A.mn B.mn C.mn⟩
theorem de_lele (A : DT b H0 X a ga) (B : DT b H0 X c gb) (C : DT b H0 X e gc) (hm : lastMarks [.LtE, .LtE] [c, e] = false := by with_unfolding_all rfl) : DE b H0 X (.Compare a [.LtE, .LtE] [c, e] pos) (gChain dLe dLe ga gb gc) := de_chain op_le op_le (op2I0 fun _ _ _ => rfl) (op2I0 fun _ _ _ => rfl) A B C hm
end
end DL
/-! DE8 -/
set_option Elab.async false
set_option linter.all false
set_option maxRecDepth 100000
set_option maxHeartbeats 4000000
/-! isinstance, slices, texts, walks over texts and pairs, two names at once. -/
namespace DL
open PySem PySem.Spec PyProof.Rows L2
variable [TabC]
/-! ### isinstance -/
inductive Tg | non | bl | int | str | tup | lst | dic
deriving DecidableEq
def Tg.nm : Tg → String
  | .non => "NoneType" | .bl => "bool" | .int => "int" | .str => "str" | .tup => "tuple" | .lst => "list" | .dic => "dict"
def subT (t T : Tg) : Bool := match t, T with
  | .non, .non => true | .bl, .bl => true | .bl, .int => true | .int, .int => true | .str, .str => true | .tup, .tup => true | .lst, .lst => true | .dic, .dic => true | _, _ => false
theorem kit_tag (K : Fg) (t T : Tg) : PySem.W.kitOne K (.type t.nm) (.type T.nm) = some (subT t T) := by
  cases t <;> cases T <;> exact kit_ty (by decide +kernel)
inductive KC | ty (T : Tg) | own (c : Str)
structure OwnOk (K : Fg) (c : Str) : Prop where
  cl : Cls K (He.ga K c)
  ha : PySem.W.findIn K (.ref (He.ga K c)) "__class__" = some (some (.builtin "object.__class__"))
  hn : PySem.W.specialIn K (.builtin "object.__class__") "__get__" = some (some (.builtin "getset_descriptor.__get__"))
  htk : PySem.W.takesIn K (.builtin "object.__class__") = some true
  hm : PySem.W.mroIn K (He.ga K c) (.type "object") = some true
structure ClsOk (K : Fg) (cls : List Str) (sub : Str → Str → Bool) : Prop where
  own : ∀ c ∈ cls, OwnOk K c
  oo : ∀ c ∈ cls, ∀ C ∈ cls, PySem.W.kitOne K (.ref (He.ga K c)) (.ref (He.ga K C)) = some (sub c C)
  ob : ∀ c ∈ cls, ∀ T : Tg, PySem.W.kitOne K (.ref (He.ga K c)) (.type T.nm) = some false
  bo : ∀ T : Tg, ∀ C ∈ cls, PySem.W.kitOne K (.type T.nm) (.ref (He.ga K C)) = some false
def KC.v (K : Fg) : KC → V
  | .ty T => .ty T.nm | .own c => .ref (He.ga K c)
def KC.u (K : Fg) : KC → Value
  | .ty T => .type T.nm | .own c => .ref (He.ga K c)
theorem KC.cv (K : Fg) (k : KC) : ClsV (k.v K) (k.u K) := by
  cases k
  · exact .ty _
  · exact .own _
def KC.ok (cls : List Str) : KC → Prop
  | .ty _ => True | .own c => c ∈ cls
def tagOf : D → Option Tg
  | .non => some .non | .bl _ => some .bl | .int _ => some .int | .str _ => some .str | .tup _ => some .tup | .lst _ => some .lst | .dic _ _ => some .dic | .frl _ _ => some .lst | .frd _ _ => some .dic | _ => none
def isA (sub : Str → Str → Bool) (k : KC) (d : D) : Bool := match k with
  | .ty T => (match tagOf d with | some t => subT t T | none => false)
  | .own C => (match d with | .ins c _ _ => sub c C | _ => false)
def askD (cls : List Str) : D → Bool
  | .ins c _ _ => cls.contains c
  | .bag => false | .clo _ => false | .exc _ _ _ => false | _ => true
def isAny (sub : Str → Str → Bool) (ks : List KC) (d : D) : Bool := ks.any fun k => isA sub k d
theorem askTag {K : Fg} {b : Option Addr} {H : Hp} {cls : List Str} {sub : Str → Str → Bool} (W : ClsOk K cls sub) {d : D} {v : V} (r : Rep K b H d v) (h : askD cls d = true) : ∃ t, TyX K H v t ∧ ∀ k : KC, k.ok cls → PySem.W.kitOne K t (k.u K) = some (isA sub k d) := by
  have key : ∀ T : Tg, tagOf d = some T → (∀ c ns xs, d ≠ .ins c ns xs) → ∀ k : KC, k.ok cls → PySem.W.kitOne K (.type T.nm) (k.u K) = some (isA sub k d) := fun T e ni k ok => by
    cases k with
    | ty S =>
      show _ = some (match tagOf d with | some t => subT t S | none => false)
      rw [e]
      exact kit_tag K T S
    | own C =>
      have e2 : isA sub (.own C) d = false := by
        cases d <;> first | rfl | exact absurd rfl (ni _ _ _)
      rw [e2]
      exact W.bo T C ok
  cases d with
  | non => rw [r.non]; exact ⟨_, .base .non, key .non rfl (by simp)⟩
  | bl x => rw [r.bl]; exact ⟨_, .base (.bl _), key .bl rfl (by simp)⟩
  | int x => rw [r.int]; exact ⟨_, .base (.int _), key .int rfl (by simp)⟩
  | str x => rw [r.str]; exact ⟨_, .base (.str _), key .str rfl (by simp)⟩
  | tup ds =>
    obtain ⟨a, vs, rfl, n, hs, s⟩ := r.tup
    refine ⟨_, ?_, key .tup rfl (by simp)⟩
    rcases hs with (h | ⟨o, h⟩) | ⟨o, its, n, h, c, _⟩
    · exact .base (.tup h)
    · exact .fTuple h
    · exact .kTuple h c
  | lst ds =>
    obtain ⟨a, vs, rfl, n, hs, s⟩ := r.lst
    refine ⟨_, ?_, key .lst rfl (by simp)⟩
    rcases hs with (h | ⟨o, h⟩) | ⟨o, its, n, h, c, _⟩
    · exact .base (.lst h)
    · exact .base (.frz h)
    · exact .kList h c
  | dic ks ds =>
    simp only [Rep] at r
    obtain ⟨a, o, vs, rfl, n, h, l, s⟩ := r
    exact ⟨_, .fDict h, key .dic rfl (by simp)⟩
  | ins c ns ds =>
    obtain ⟨a, dx, vs, rfl, n, h1, l, s⟩ := r.ins
    have hc : c ∈ cls := by simpa [askD] using h
    have o := W.own c hc
    refine ⟨_, .base (.ins h1 o.cl o.ha o.hn o.htk o.hm), fun k ok => ?_⟩
    cases k with
    | ty S => exact W.ob c hc S
    | own C => exact W.oo c hc C ok
  | bag => cases h
  | clo j => cases h
  | frl a ds =>
    obtain ⟨o, vs, rfl, n, h, s⟩ := r.frl
    exact ⟨_, .base (.frz h), key .lst rfl (by simp)⟩
  | frd ks ds =>
    obtain ⟨a, vs, rfl, n, h, l, s⟩ := r.frd
    exact ⟨_, .base (.dK h), key .dic rfl (by simp)⟩
  | exc c ns ds => cases h
theorem askAny {K : Fg} {sub : Str → Str → Bool} {cls : List Str} {d : D} {t : Value} (h : ∀ k : KC, k.ok cls → PySem.W.kitOne K t (k.u K) = some (isA sub k d)) : ∀ ks : List KC, (∀ k ∈ ks, k.ok cls) → PySem.W.kitAny K t (ks.map (KC.u K)) = some (isAny sub ks d)
  | [], _ => kitAny_nil
  | k :: ks, ok => by
    refine kitAny_cons (h k (ok k List.mem_cons_self)) (fun e => ?_) (fun e => ?_)
    · rw [askAny h ks (fun k' m => ok k' (List.mem_cons_of_mem _ m))]
      show some (isAny sub ks d) = some ((k :: ks).any _)
      rw [List.any_cons, e]; rfl
    · show (k :: ks).any _ = true
      rw [List.any_cons, e]; rfl
theorem kcs_paired (K : Fg) : ∀ ks : List KC, Paired ClsV (ks.map (KC.v K)) (ks.map (KC.u K))
  | [] => .nil
  | k :: ks => .cons (k.cv K) (kcs_paired K ks)
def gIsi (cls : List Str) (sub : Str → Str → Bool) (ks : List KC) (ge : GE) : GE := fun σ k => ge σ fun d => askD cls d = true ∧ k (.bl (isAny sub ks d))
theorem gIsi_mn {cls : List Str} {sub : Str → Str → Bool} {ks : List KC} {ge : GE} (A : Mn ge) : Mn (gIsi cls sub ks ge) := fun σ k k' i q => A _ _ _ (fun d z => ⟨z.1, i _ z.2⟩) q
section
variable {X : Cx} {b : Option Addr} {H0 : Hp} {a c e : Expr} {cs : List Expr} {ga gb gc ge : GE} {pos p p2 : Pos} {cls : List Str} {sub : Str → Str → Bool}
theorem pe_kty {x : Str} {T : Tg} (hg : Gl X x) (hm : X.mg x = none) (hv : bootBuiltins x = some (.type T.nm)) (hn : x ≠ "__name__" := by decide) (hd : (x == ("__debug__" : Str)) = false := by decide) : PE X (.Name x p) (tC ((KC.ty T).v X.K)) := pe_bltn hg hm hv rfl hn hd
theorem pe_kown {x c : Str} (hg : Gl X x) (hm : X.mg x = some (.ref (He.ga X.K c))) (hd : (x == ("__debug__" : Str)) = false := by decide) : PE X (.Name x p) (tC ((KC.own c).v X.K)) := pe_glob hg hm rfl hd
def PKs (X : Cx) (cs : List Expr) (ks : List KC) : Prop := PA X cs fun _ H Q => Q (ks.map (KC.v X.K)) H
theorem pks_nil : PKs X [] [] := pa_nil
theorem pks_cons {k : KC} {ks : List KC} (h : PE X c (tC (k.v X.K))) (r : PKs X cs ks) (hs : starEach (c :: cs) X.env = (false, eval c X.env) :: starEach cs X.env := by rfl) : PKs X (c :: cs) (k :: ks) := pa_cons h r hs
theorem de_isi {k : KC} (W : ClsOk X.K cls sub) (ok : k.ok cls) (A : DT b H0 X a ga) (hc : PE X c (tC (k.v X.K))) (hg : Gl X "isinstance") (hm : X.mg "isinstance" = none)
    (he : starEach [a, c] X.env = (false, eval a X.env) :: starEach [c] X.env := by rfl) (he2 : starEach [c] X.env = (false, eval c X.env) :: starEach [] X.env := by rfl)
    (hpl : (backTo pos (starEach [c] X.env)).any (·.1) = false := by rfl) : DE b H0 X (.Call (.Name "isinstance" p) [a, c] [] pos) (gIsi cls sub [k] ga) := by
  refine ⟨pe_imp (pe_callB call_isi hg hm rfl (pa_cons A.pe (pa_cons hc pa_nil he2) he) (by decide) (by decide) he hpl) fun σ H Q ⟨σd, O, R, q⟩ => ?_, gIsi_mn A.mn⟩
  refine ⟨σd, O, R, A.mn _ _ _ (fun d z v H' x r => ?_) q⟩
  obtain ⟨t, ty, h⟩ := askTag W r z.1
  refine ⟨v, k.v X.K, t, k.u X.K, isA sub k d, rfl, k.cv X.K, ty, h k ok, ?_⟩
  have w := z.2 (.bl (isAny sub [k] d)) H' x rfl
  have e : isAny sub [k] d = isA sub k d := by unfold isAny; simp
  rw [e] at w; exact w
theorem de_isiT {ks : List KC} {n1 : Nat} (W : ClsOk X.K cls sub) (ok : ∀ k ∈ ks, k.ok cls) (A : DT b H0 X a ga) (hc : PKs X cs ks) (hl : ks.length ≤ 1000) (hg : Gl X "isinstance") (hm : X.mg "isinstance" = none)
    (he : starEach [a, .Tuple cs n1 p2] X.env = (false, eval a X.env) :: starEach [.Tuple cs n1 p2] X.env := by rfl) (he2 : starEach [.Tuple cs n1 p2] X.env = (false, eval (.Tuple cs n1 p2) X.env) :: starEach [] X.env := by rfl)
    (hpl : (backTo pos (starEach [.Tuple cs n1 p2] X.env)).any (·.1) = false := by rfl) : DE b H0 X (.Call (.Name "isinstance" p) [a, .Tuple cs n1 p2] [] pos) (gIsi cls sub ks ga) := by
  refine ⟨pe_imp (pe_callB call_isiT hg hm rfl (pa_cons A.pe (pa_cons (pe_tup hc) pa_nil he2) he) (by decide) (by decide) he hpl) fun σ H Q ⟨σd, O, R, q⟩ => ?_, gIsi_mn A.mn⟩
  refine ⟨σd, O, R, A.mn _ _ _ (fun d z v H' x r => ?_) q⟩
  refine ⟨by rw [List.length_map]; exact le_line hl, fun tp htp => ?_⟩
  obtain ⟨t, ty, h⟩ := askTag (H := upd H' tp (.tup (ks.map (KC.v X.K)))) W (r.mono (Le.new htp)) z.1
  refine ⟨v, tp, ks.map (KC.v X.K), t, ks.map (KC.u X.K), isAny sub ks d, rfl, upd_same, kcs_paired X.K ks, ty, askAny h ks ok, z.2 (.bl (isAny sub ks d)) _ (x.trans (.new htp)) rfl⟩
/-! ### slices -/
def gNoP : StD → (Option Int → Prop) → Prop := fun _ k => k none
def gPart (ge : GE) : StD → (Option Int → Prop) → Prop := fun σ k => ge σ fun d => match d with | .int i => k (some i) | _ => False
def LP (K : Fg) (b : Option Addr) (H0 : Hp) (g : StD → (Option Int → Prop) → Prop) : TO := fun σ H Q => ∃ σd O, Rst K b H0 σd σ H O ∧ g σd fun o => ∀ H', Ext b H H' → Q o H'
structure DP (b : Option Addr) (H0 : Hp) (X : Cx) (e : Option Expr) (g : StD → (Option Int → Prop) → Prop) : Prop where
  po : PO X e (LP X.K b H0 g)
  mn : Mn g
theorem po_imp {e : Option Expr} {t t' : TO} (h : PO X e t) (i : ∀ σ H Q, t' σ H Q → t σ H Q) : PO X e t' := ⟨fun pins s σ H Q I q => h.run pins s σ H Q I (i σ H Q q)⟩
theorem dp_none : DP b H0 X none gNoP := ⟨po_imp po_none fun σ H Q ⟨σd, O, R, q⟩ => q H (.refl H), fun σ k k' i q => i _ q⟩
theorem dp_some (A : DT b H0 X e ge) : DP b H0 X (some e) (gPart ge) := ⟨po_imp (po_some A.pe) fun σ H Q ⟨σd, O, R, q⟩ => ⟨σd, O, R, A.mn _ _ _ (fun d z v H' x r => by
  cases d with
  | int i => exact ⟨i, r.int, z H' x⟩
  | _ => exact z.elim) q⟩, fun σ k k' i q => A.mn _ _ _ (fun d z => by cases d <;> first | exact i _ z | exact z.elim) q⟩
theorem reps_cut {K : Fg} {H : Hp} {ds : List D} {vs : List V} (r : Reps K b H ds vs) (lo hi : Option Int) : Reps K b H ((ds.drop (HT.sIx ds.length 0 lo)).take (HT.sIx ds.length ds.length hi - HT.sIx ds.length 0 lo)) (cutV vs lo hi) := by
  unfold cutV
  rw [r.length]
  exact (r.drop _).take _
/-- of a text or a list -/
def gSl2 (ge : GE) (gl gh : StD → (Option Int → Prop) → Prop) : GE := fun σ k => ge σ fun d => gl σ fun lo => gh σ fun hi => match d with
  | .str z => z.length ≤ 1000000 ∧ k (.str (cutS z lo hi))
  | .lst ds => k (.lst ((ds.drop (HT.sIx ds.length 0 lo)).take (HT.sIx ds.length ds.length hi - HT.sIx ds.length 0 lo)))
  | .tup ds => ¬ (HT.sIx ds.length 0 lo = 0 ∧ HT.sIx ds.length ds.length hi = ds.length) ∧ k (.tup ((ds.drop (HT.sIx ds.length 0 lo)).take (HT.sIx ds.length ds.length hi - HT.sIx ds.length 0 lo)))
  | _ => False
/-! ### walks over texts and pairs -/
def signs (x : Str) : List D := x.cps.toList.map fun c => .str ⟨#[c]⟩
def gItS (ge : GE) : GI := fun σ k => ge σ fun d => match d with | .str x => k (signs x) | _ => False
theorem wlk_str {K : Fg} {O : List Addr} {H1 : Hp} {x : Str} : Wlk K b O (signs x) (Its x) H1 := fun i H2 O2 _ F => by
  refine ⟨fun d e => ?_, fun hi0 => by have hi := Nat.le_of_eq hi0.symm; show x.cps.size ≤ i; simpa [signs] using hi⟩
  unfold signs at e
  rw [List.getElem?_map] at e
  have hi : i < x.cps.size := by
    refine Nat.lt_of_not_le fun h => ?_
    rw [List.getElem?_eq_none (by simpa using h)] at e; cases e
  refine ⟨hi, fun y H3 yl => ?_⟩
  obtain ⟨rfl, c, hc, rfl⟩ := yl
  rw [Array.getElem?_toList, hc] at e
  cases e
  exact ⟨.refl _, rfl⟩
theorem di_str {tg : Expr} (A : DT b H0 X e ge) : DI b H0 X tg e (gItS ge) :=
  ⟨pi_imp (pi_str A.pe) fun σ H Q ⟨σd, O, R, q⟩ => ⟨σd, O, R, A.mn _ _ _ (fun d hd v H' x r => by
    cases d with
    | str s => exact ⟨s, r.str, hd _ _ x wlk_str⟩
    | _ => exact hd.elim) q⟩, fun σ k k' i q => A.mn _ _ _ (fun x hx => by cases x <;> first | exact i _ hx | exact hx.elim) q⟩
def pairsD : List D → List D → List D
  | x :: xs, y :: ys => .tup [x, y] :: pairsD xs ys
  | _, _ => []
theorem pairsD_get : ∀ {xs ys : List D} {i : Nat}, (pairsD xs ys)[i]? = match xs[i]?, ys[i]? with | some x, some y => some (.tup [x, y]) | _, _ => none
  | [], ys, i => by simp [pairsD]
  | x :: xs, [], i => by simp [pairsD]
  | x :: xs, y :: ys, 0 => rfl
  | x :: xs, y :: ys, i + 1 => by
    simp only [pairsD, List.getElem?_cons_succ]
    exact pairsD_get
def gZip (ga gb : GE) : GI := fun σ k => ga σ fun x => gb σ fun y => match x, y with
  | .lst xs, .lst ys => k (pairsD xs ys)
  | .tup xs, .tup ys => k (pairsD xs ys)
  | _, _ => False
theorem zip_item {K : Fg} {O2 : List Addr} {H2 : Hp} {ds es : List D} {vs us : List V} {i : Nat} {d : D} {T : Addr} {x y : V} (F : Fresh b O2 H2) (hT : H2 T = none) (r1 : Reps K b (hide O2 H2) ds vs) (r2 : Reps K b (hide O2 H2) es us) (e : (pairsD ds es)[i]? = some d) (ex : vs[i]? = some x) (ey : us[i]? = some y) : Ext b H2 (upd H2 T (.tup [x, y])) ∧ Rep K b (hide O2 (upd H2 T (.tup [x, y]))) d (.ref T) := by
  rw [pairsD_get] at e
  cases e1 : ds[i]? with
  | none => rw [e1] at e; cases e
  | some d1 =>
    cases e2 : es[i]? with
    | none => rw [e1, e2] at e; cases e
    | some d2 =>
      rw [e1, e2] at e; cases e
      obtain ⟨v1, q1, w1⟩ := r1.get e1
      obtain ⟨v2, q2, w2⟩ := r2.get e2
      rw [ex] at q1; cases q1
      rw [ey] at q2; cases q2
      exact ⟨.new hT, rep_newT F hT (Reps.cons w1 (Reps.cons w2 Reps.nil))⟩
theorem pairs_at {ds es : List D} {i : Nat} {d : D} {K : Fg} {H : Hp} {vs us : List V} (r1 : Reps K b H ds vs) (r2 : Reps K b H es us) (e : (pairsD ds es)[i]? = some d) : ∃ x y, vs[i]? = some x ∧ us[i]? = some y := by
  rw [pairsD_get] at e
  cases e1 : ds[i]? with
  | none => rw [e1] at e; cases e
  | some d1 =>
    cases e2 : es[i]? with
    | none => rw [e1, e2] at e; cases e
    | some d2 =>
      obtain ⟨v1, q1, w1⟩ := r1.get e1
      obtain ⟨v2, q2, w2⟩ := r2.get e2
      exact ⟨v1, v2, q1, q2⟩
/-! ### two names at once -/
def gPar (i j : Nat) (ga gb : GE) : GSt := fun D σ => ga σ fun x => gb σ fun y => D.nx (put (put σ i (.sh x)) j (.sh y))
theorem ds_par {i j : Nat} {x y : Str} {px py pt pt2 : Pos} {kt k2 : Nat} (hc : X.calm = true) (hN : X.N.Nodup) (hi : X.N[i]? = some x) (hj : X.N[j]? = some y) (hij : i ≠ j)
    (hx : X.env.scope.names.lookup x = some .local) (hy : X.env.scope.names.lookup y = some .local) (A : DE b H0 X a ga) (B : DE b H0 X c gb)
    (hw : swappedStores [.Tuple [.Name x px, .Name y py] kt pt] (.Tuple [a, c] k2 pt2) X.env = pure (some [x, y]))
    (hs : swapsWithSole [.Tuple [.Name x px, .Name y py] kt pt] (.Tuple [a, c] k2 pt2) pos.line X.env = pure false := by rfl)
    (hs1 : starEach [a, c] X.env = (false, eval a X.env) :: starEach [c] X.env := by rfl) (hs2 : starEach [c] X.env = (false, eval c X.env) :: starEach [] X.env := by rfl) :
    DS b H0 X (.Assign [.Tuple [.Name x px, .Name y py] kt pt] (.Tuple [a, c] k2 pt2) pos) (gPar i j ga gb) := by
  refine ⟨ps_imp (ps_par hc hN hi hj hij hx hy (pa_cons A.pe (pa_cons B.pe pa_nil hs2) hs1) hw hs) fun D σ H ⟨σd, O, R, q⟩ => ?_, fun D D' σ h1 h2 h3 h4 q => A.mn _ _ _ (fun x z => B.mn _ _ _ (fun y z => h1 _ z) z) q⟩
  refine ⟨σd, O, R, A.mn _ _ _ (fun d z v H1 x1 r1 => ⟨σd, O, R.mono x1, B.mn _ _ _ (fun d2 z v2 H2 x2 r2 => ?_) z⟩) q⟩
  exact ⟨v, v2, rfl, z _ H2 O (((R.mono (x1.trans x2)).set i (r1.mono (x2.1.hide O))).set j r2) (R.hx (x1.trans x2))⟩
/-- targets = value -/
def gTgt (t : Tgt) (ge : GE) : GSt := fun D σ => ge σ fun d => asg t d σ D.nx
theorem ds_tgt {tg : Expr} {t : Tgt} (A : DE b H0 X e ge) (G : DG b H0 X tg t) (hs : swapsWithSole [tg] e pos.line X.env = pure false := by rfl) (hw : swappedStores [tg] e X.env = pure none := by rfl)
    (h1 : (assignEach [tg] X.env).map (·.2) = [assign tg X.env] := by rfl) : DS b H0 X (.Assign [tg] e pos) (gTgt t ge) := by
  refine ⟨ps_imp (ps_asg A.pe G.pg hs hw h1) fun D σ H ⟨σd, O, R, q⟩ => ?_, fun D D' σ h1 h2 h3 h4 q => A.mn _ _ _ (fun x z => asg_mn _ _ _ _ _ h1 z) q⟩
  exact ⟨σd, O, R, A.mn _ _ _ (fun d z v H1 x1 r1 => ⟨σd, O, d, R.mono x1, r1, asg_mn _ _ _ _ _ (fun s z σ' ag R' => z σ' H1 O R' (R.hx x1)) z⟩) q⟩
/-! ### texts -/
def strsOf : List D → Option (List Str)
  | [] => some []
  | .str s :: r => (match strsOf r with | some q => some (s :: q) | none => none)
  | _ :: _ => none
theorem reps_strs {K : Fg} {H : Hp} : ∀ {ds : List D} {vs : List V} {ns : List Str}, Reps K b H ds vs → strsOf ds = some ns → vs = ns.map V.str
  | [], _, _, h, e => by cases e; rw [h.of_nil]; rfl
  | d :: r, vs, ns, h, e => by
    obtain ⟨v, q, rfl, h1, h2⟩ := h.of_cons
    cases d with
    | str i =>
      simp only [strsOf] at e
      cases q2 : strsOf r with
      | none => rw [q2] at e; cases e
      | some ms => rw [q2] at e; cases e; rw [h1.str, reps_strs h2 q2]; rfl
    | _ => simp only [strsOf] at e; cases e
/-- t.join(xs) -/
def gJoin (ga gb : GE) : GE := fun σ k => ga σ fun x => match x with
  | .str s => gb σ fun y => (match y with
    | .lst ds => (match strsOf ds with | some ys => (ys.map (·.length)).sum + ys.length * s.length ≤ 1000000 ∧ k (.str (Txt.join s ys)) | none => False)
    | _ => False)
  | _ => False
theorem gJoin_mn (A : Mn ga) (B : Mn gb) : Mn (gJoin ga gb) := fun σ k k' i q => A _ _ _ (fun x z => by
  cases x with
  | str s =>
    refine B _ _ _ (fun y z => ?_) z
    cases y with
    | lst ds =>
      simp only at z ⊢
      cases e : strsOf ds <;> rw [e] at z <;> first | exact ⟨z.1, i _ z.2⟩ | exact z.elim
    | _ => exact z.elim
  | _ => exact z.elim) q
theorem de_join {apos : Pos} (A : DT b H0 X a ga) (B : DT b H0 X c gb) (hs : starEach [c] X.env = [(false, eval c X.env)] := by rfl) (hbase : attributeBase a "join" X.env (eval a X.env) = eval a X.env := by rfl) (hline : (apos.endLine == pos.line) = true := by rfl) :
    DE b H0 X (.Call (.Attribute a "join" apos) [c] [] pos) (gJoin ga gb) := by
  refine ⟨pe_imp (pe_join A.pe B.pe hs hbase hline) fun σ H Q ⟨σd, O, R, q⟩ => ?_, gJoin_mn A.mn B.mn⟩
  refine ⟨σd, O, R, A.mn _ _ _ (fun d z v H1 x1 r1 => ?_) q⟩
  cases d with
  | str s =>
    refine ⟨⟨s, r1.str⟩, σd, O, R.mono x1, B.mn _ _ _ (fun d2 z v2 H2 x2 r2 => ?_) z⟩
    cases d2 with
    | lst ds =>
      simp only at z
      cases e : strsOf ds with
      | none => rw [e] at z; exact z.elim
      | some ys =>
        rw [e] at z
        obtain ⟨a1, vs, rfl, n1, h1, s1⟩ := r2.lst
        have ev := reps_strs s1 e
        subst ev
        exact ⟨s, a1, ys, r1.str, rfl, .inl h1, Nat.le_trans z.1 (by decide), z.2 _ H2 (x1.trans x2) rfl⟩
    | _ => exact z.elim
  | _ => exact z.elim
end
end DL
/-! DF1 -/
set_option Elab.async false
set_option linter.all false
set_option maxRecDepth 100000
set_option maxHeartbeats 4000000
/-! The bag that a law draws from: its making, a draw. -/
namespace DL
open PySem PySem.Spec PyProof.Rows L2
variable [TabC]
/-! ### the making -/
abbrev rMulK : R2 := rI MulOk fun i j => .int (i * j)
abbrev rAddK : R2 := rI0 fun i j => .int (i + j)
abbrev rModK : R2 := rI (fun _ j => j ≠ 0) fun i j => .int (i.fmod j)
abbrev rInt1 : List V → Hp → VK → Prop := fun xs H Q => (∃ i, xs = [.int i] ∧ Q (.int i) H) ∨ ∃ k, xs = [.bl k] ∧ Q (.int (if k then 1 else 0)) H
def tBag (K : Fg) : TS :=
  tSeq (tAsg (tLc (iList K (tSl (rSlL K) (tVar 0) tNoPart (tPart (tC (.int 63))))) (gName 3) tYes (tCB rInt1 (tCons (tVar 3) tNil)) [3]) (gName 1))
  (tSeq (tAsg (tOp rAddK (tC (.int 12003)) (tOp rMulK (tC (.int 211)) (tCB (rLen3 K) (tCons (tVar 1) tNil)))) (gName 2))
  (tSeq (tFor (iList K (tVar 1)) (gName 3) (tAsg (tOp rModK (tCB rInt1 (tCons (tOp rAddK (tOp rMulK (tVar 2) (tC (.int 8191))) (tVar 3)) tNil)) (tC (.int 2147483549))) (gName 2)))
  (tRet (tLst (tCons (tVar 1) (tCons (tC (.int 0)) (tCons (tC (.int 0)) (tCons (tVar 2) tNil))))))))
def spBag (K : Fg) : Sp := fun vs H Q _ => ∃ (a : Addr) (ns : List Int), vs = [.ref a] ∧ SqL K H a (ns.map V.int) ∧ ns.length ≤ 1000000 ∧
  ∀ (c p : Addr) (H' : Hp) (ms : List Int) (m : Int), (∀ a o, H a = some o → H' a = some o) → H c = none → H p = none → c ≠ p → H' c = some (.lst (ms.map V.int)) → H' p = some (.lst [.ref c, .int 0, .int 0, .int m]) → Q (.ref p) H'
theorem sqL_up {K : Fg} {H : Hp} {a D : Addr} {o : HO} {xs : List V} (h : SqL K H a xs) (n : H D = none) : SqL K (upd H D o) a xs := by
  have e : ∀ u, H a = some u → upd H D o a = some u := fun u e => by rw [upd_ne (ne_of_none e n)]; exact e
  rcases h with (h | ⟨ob, h⟩) | h
  · exact .inl (.inl (e _ h))
  · exact .inl (.inr ⟨ob, e _ h⟩)
  · exact .inr h
theorem iteQ {c : Bool} {A B : Prop} (h1 : c = true → A) (h2 : c = false → B) : (if c = true then A else B) := by
  cases c
  · exact h2 rfl
  · exact h1 rfl
theorem mul_k {i j : Int} (h : -(2 ^ 64) < i ∧ i < 2 ^ 64 ∨ -(2 ^ 64) < j ∧ j < 2 ^ 64) : MulOk i j := CMul.ok h
theorem bag_read {K : Fg} {vs : List V} {H : Hp} {Q : VK} {E : XK} (h : spBag K vs H Q E) {N : List Str} (hN : N.length = 4) : tBag K { nx := fun _ H' => Q .non H', rt := Q } (L2.start N vs) H := by
  obtain ⟨a, ns, rfl, hs, hl, q⟩ := h
  have es : L2.start N [V.ref a] = [some (.ref a), none, none, none] := by
    unfold L2.start
    have : N.length - [V.ref a].length = 3 := by simp [hN]
    rw [this]; rfl
  rw [es]
  refine ⟨.ref a, rfl, 63, rfl, a, ns.map V.int, rfl, hs, fun p0 hp0 => ⟨p0, rfl, ⟨_, .inl (.inl upd_same)⟩, fun D hD => ?_⟩⟩
  have hDp : D ≠ p0 := fun e => by rw [e, upd_same] at hD; cases hD
  have hD0 : H D = none := by rw [upd_ne hDp] at hD; exact hD
  generalize hms : (ns.drop (HT.sIx (ns.map V.int).length 0 none)).take (HT.sIx (ns.map V.int).length (ns.map V.int).length (some 63) - HT.sIx (ns.map V.int).length 0 none) = ms
  have ecut : cutV (ns.map V.int) none (some 63) = ms.map V.int := by
    unfold cutV
    rw [← hms, List.map_take, List.map_drop]
  have hml : ms.length ≤ 1000000 := by
    have := cutV_length (ns.map V.int) none (some 63)
    rw [ecut] at this
    simp at this
    omega
  rw [ecut]
  refine lc_list (xs := ms.map V.int) (fun i H2 => ∃ H3 : Hp, H2 = upd H3 D (.lst ((ms.take i).map V.int)) ∧ (∀ x o, upd H p0 (.lst (ms.map V.int)) x = some o → H3 x = some o) ∧ H3 D = none)
    ⟨upd H p0 (.lst (ms.map V.int)), rfl, fun _ _ e => e, by rw [ecut] at hD; exact hD⟩ (fun i H2 hi ⟨H3, e, k, n⟩ => by rw [e]; exact sqL_up (.inl (.inl (k p0 _ upd_same))) n) (fun i x H2 hx ⟨H3, e, k, n⟩ => ?_) (fun H2 ⟨H3, e, k, n⟩ => ?_)
  · obtain ⟨z, hz, rfl⟩ : ∃ z, ms[i]? = some z ∧ x = .int z := by
      rw [List.getElem?_map] at hx
      cases e2 : ms[i]? with
      | none => rw [e2] at hx; cases hx
      | some z => rw [e2] at hx; cases hx; exact ⟨z, rfl, rfl⟩
    refine ⟨rfl, ?_⟩
    simp only [tYes, if_true]
    refine ⟨.int z, rfl, .inl ⟨z, rfl, (ms.take i).map V.int, by rw [e]; exact upd_same, ?_, H3, ?_, k, n⟩⟩
    · rw [List.length_map, List.length_take]
      exact Nat.lt_of_le_of_lt (Nat.min_le_right _ _) (Nat.lt_of_le_of_lt hml (by decide))
    · rw [e, upd_upd, List.take_add_one, hz]
      simp
  · have e2 : (ms.take (ms.map V.int).length).map V.int = ms.map V.int := by simp
    rw [e2] at e
    have hDD : H2 D = some (.lst (ms.map V.int)) := by rw [e]; exact upd_same
    have kH : ∀ x o, H x = some o → H2 x = some o := fun x o hx => by
      rw [e, upd_ne (fun z => by rw [z, hD0] at hx; cases hx)]
      exact k x o (by rw [upd_ne (fun z => by rw [z, hp0] at hx; cases hx)]; exact hx)
    refine ⟨.ref D, rfl, .inl ⟨D, ms.map V.int, rfl, .inl (.inl (.inl hDD)), 211, _, rfl, rfl, mul_k (.inl ⟨by decide, by decide⟩), 12003, _, rfl, rfl, ?_⟩⟩
    refine ⟨.ref D, rfl, D, rfl, ⟨_, .inl (.inl hDD)⟩, ?_⟩
    refine for_list (xs := ms.map V.int) (fun i σ H3 => H3 = H2 ∧ ∃ (m : Int) (o : Option V), σ = [some (.ref a), some (.ref D), some (.int m), o]) ⟨rfl, _, _, rfl⟩ (fun i σ H3 hi ⟨e3, _⟩ => by rw [e3]; exact .inl (.inl hDD)) (fun i x σ H3 hx ⟨e3, m, o, es⟩ => ?_) (fun σ H3 ⟨e3, m, o, es⟩ => ?_)
    · obtain ⟨z, hz, rfl⟩ : ∃ z, ms[i]? = some z ∧ x = .int z := by
        rw [List.getElem?_map] at hx
        cases e2 : ms[i]? with
        | none => rw [e2] at hx; cases hx
        | some z => rw [e2] at hx; cases hx; exact ⟨z, rfl, rfl⟩
      subst e3 es
      exact ⟨.int m, rfl, m, _, rfl, rfl, mul_k (.inr ⟨by decide, by decide⟩), .int z, rfl, _, _, rfl, rfl, .inl ⟨_, rfl, _, _, rfl, rfl, (show (2147483549 : Int) ≠ 0 by decide), rfl, _, _, rfl⟩⟩
    · subst e3 es
      refine ⟨.ref D, rfl, .int m, rfl, by show 4 ≤ sizeLine; decide, fun p hp => ?_⟩
      have hDp2 : D ≠ p := fun z => by rw [← z, hDD] at hp; cases hp
      refine q D p _ ms m (fun x o hx => ?_) hD0 ?_ hDp2 ?_ upd_same
      · rw [upd_ne (fun z => by rw [z] at hx; have := kH _ _ hx; rw [hp] at this; cases this)]
        exact kH _ _ hx
      · cases e4 : H p with
        | none => rfl
        | some o => rw [kH _ _ e4] at hp; cases hp
      · rw [upd_ne hDp2]; exact hDD
/-! ### a draw -/
abbrev rDivK : R2 := rI (fun _ j => DivOk j) fun i j => .int (i.fdiv j)
abbrev tBx (K : Fg) (i : Int) : TE := tOp (rIx K) (tVar 0) (tC (.int i))
def tHot (K : Fg) : TS :=
  tSeq (tAsg (tOp rModK (tCB rInt1 (tCons (tOp rAddK (tOp rAddK (tOp rMulK (tVar 2) (tC (.int 48619))) (tOp rMulK (tBx K 1) (tC (.int 37501)))) (tBx K 3)) tNil)) (tC (.int 2147483647))) (gName 3))
  (tSeq (tAsg (tOp rModK (tCB rInt1 (tCons (tOp rAddK (tOp rMulK (tVar 3) (tVar 3)) (tOp rMulK (tBx K 1) (tC (.int 52009)))) tNil)) (tC (.int 1000000009))) (gName 4))
  (tRet (tOp rModK (tOp rDivK (tOp rModK (tCB rInt1 (tCons (tOp rAddK (tOp rMulK (tVar 4) (tC (.int 29009))) (tVar 3)) tNil)) (tC (.int 2147483587))) (tC (.int 19))) (tVar 1))))
def tRest (K : Fg) : TS :=
  tSeq (tIfS (tOr (tB (tGt (tBx K 1) (tCB (rLen3 K) (tCons (tBx K 0) tNil)))) (tB (tLt (tVar 2) (tOp (rI CPow fun i j => .int (i ^ j.toNat)) (tC (.int 10)) (tC (.int 18)))))) (tHot K) tNext)
  (tAsg (tVar 2) (gSub (tVar 0) (tC (.int 2)) rSetL))
def tTail (K : Fg) : TS :=
  tSeq (tAsg (tOp rModK (tCB rInt1 (tCons (tBx K 2) tNil)) (tVar 1)) (gName 5))
  (tSeq (tAsg (tOp rDivK (tCB rInt1 (tCons (tBx K 2) tNil)) (tVar 1)) (gSub (tVar 0) (tC (.int 2)) rSetL))
  (tRet (tVar 5)))
def tDraw (K : Fg) : TS :=
  tSeq (tIfS (tB (tLt (tBx K 2) (tC (.int 2))))
    (tSeq (tAsg (tOp rAddK (tBx K 1) (tC (.int 1))) (gSub (tVar 0) (tC (.int 1)) rSetL))
    (tSeq (tAsg (tOp rAddK (tBx K 3) (tOp rMulK (tBx K 1) (tC (.int 10007)))) (gName 2))
    (tSeq (tIfS (tB (tLe (tBx K 1) (tCB (rLen3 K) (tCons (tBx K 0) tNil)))) (tAsg (tOp (rIx K) (tBx K 0) (tOp (rI0 fun i j => .int (i - j)) (tBx K 1) (tC (.int 1)))) (gName 2)) tNext)
    (tRest K)))) tNext)
  (tTail K)
def spDraw (K : Fg) : Sp := fun vs H Q _ => ∃ (p c : Addr) (m i j x : Int) (ns : List Int), vs = [.ref p, .int m] ∧ H p = some (.lst [.ref c, .int i, .int j, .int x]) ∧ c ≠ p ∧ H c = some (.lst (ns.map V.int)) ∧ 0 ≤ i ∧ 0 < m ∧ DivOk m ∧
  ∀ d i' j' : Int, 0 ≤ i' → 0 ≤ d → d < m → Q (.int d) (upd H p (.lst [.ref c, .int i', .int j', .int x]))
theorem bIx {K : Fg} {σ : L2.St} {H : Hp} {Q : VK} {p : Addr} {xs : List V} {k : Int} {v : V} (h0 : σ[0]? = some (some (.ref p))) (hp : H p = some (.lst xs)) (hv : atI xs k = some v) (q : Q v H) : tBx K k σ H Q :=
  ⟨.ref p, h0, .inl ⟨p, xs, k, v, rfl, rfl, .inl (.inl hp), hv, q⟩⟩
theorem bSet {σ : L2.St} {H : Hp} {Q : L2.St → Hp → Prop} {p : Addr} {xs : List V} {k : Int} {j : Nat} {v : V} (h0 : σ[0]? = some (some (.ref p))) (hp : H p = some (.lst xs)) (hk : ixN xs.length k = some j) (q : Q σ (upd H p (.lst (xs.set j v)))) : gSub (tVar 0) (tC (.int k)) rSetL v σ H Q :=
  ⟨.ref p, h0, p, xs, k, j, rfl, rfl, hp, hk, q⟩
theorem fmod_in {d m : Int} (h : 0 < m) : 0 ≤ d.fmod m ∧ d.fmod m < m := ⟨Int.fmod_nonneg_of_pos d h, Int.fmod_lt_of_pos d h⟩
theorem bLen {K : Fg} {σ : L2.St} {H : Hp} {Q : VK} {p c : Addr} {i j x : Int} {ns : List Int} (h0 : σ[0]? = some (some (.ref p))) (hp : H p = some (.lst [.ref c, .int i, .int j, .int x])) (hc : H c = some (.lst (ns.map V.int))) (q : Q (.int ns.length) H) :
    tCB (rLen3 K) (tCons (tBx K 0) tNil) σ H Q := by
  refine bIx (k := 0) (v := .ref c) h0 hp rfl ?_
  exact .inl ⟨c, ns.map V.int, rfl, .inl (.inl (.inl hc)), by rw [List.length_map]; exact q⟩
section
variable {K : Fg} {H : Hp} {Q : VK} {p c : Addr} {m x : Int} {D : Ends}
theorem tail_read {i' j' : Int} {o2 o3 o4 : Option V} (hm : 0 < m) (hdm : DivOk m) (hi' : 0 ≤ i') (q : ∀ d i' j' : Int, 0 ≤ i' → 0 ≤ d → d < m → D.rt (.int d) (upd H p (.lst [.ref c, .int i', .int j', .int x]))) :
    tTail K D [some (.ref p), some (.int m), o2, o3, o4, none] (upd H p (.lst [.ref c, .int i', .int j', .int x])) := by
  refine bIx (k := 2) (v := .int j') rfl upd_same rfl (.inl ⟨_, rfl, .int m, rfl, _, _, rfl, rfl, (show m ≠ 0 by omega), ?_⟩)
  refine bIx (k := 2) (v := .int j') rfl upd_same rfl (.inl ⟨_, rfl, .int m, rfl, _, _, rfl, rfl, hdm, ?_⟩)
  refine bSet (j := 2) rfl upd_same rfl ?_
  refine ⟨_, rfl, ?_⟩
  rw [upd_upd]
  exact q _ i' _ hi' (fmod_in hm).1 (fmod_in hm).2
theorem hot_read {i j z : Int} (hm : 0 < m) (hi : 0 ≤ i) (q : ∀ d i' j' : Int, 0 ≤ i' → 0 ≤ d → d < m → D.rt (.int d) (upd H p (.lst [.ref c, .int i', .int j', .int x]))) :
    tHot K D [some (.ref p), some (.int m), some (.int z), none, none, none] (upd H p (.lst [.ref c, .int i, .int j, .int x])) := by
  refine ⟨.int z, rfl, _, _, rfl, rfl, mul_k (.inr ⟨by decide, by decide⟩), ?_⟩
  refine bIx (k := 1) (v := .int i) rfl upd_same rfl ⟨_, _, rfl, rfl, mul_k (.inr ⟨by decide, by decide⟩), _, _, rfl, rfl, ?_⟩
  refine bIx (k := 3) (v := .int x) rfl upd_same rfl ⟨_, _, rfl, rfl, .inl ⟨_, rfl, _, _, rfl, rfl, (show (2147483647 : Int) ≠ 0 by decide), ?_⟩⟩
  dsimp only
  generalize he : (z * 48619 + i * 37501 + x).fmod 2147483647 = e
  have hb : 0 ≤ e ∧ e < 2147483647 := he ▸ fmod_in (by decide)
  refine ⟨.int e, rfl, .int e, rfl, _, _, rfl, rfl, mul_k (.inl ⟨by omega, by omega⟩), ?_⟩
  refine bIx (k := 1) (v := .int i) rfl upd_same rfl ⟨_, _, rfl, rfl, mul_k (.inr ⟨by decide, by decide⟩), _, _, rfl, rfl, .inl ⟨_, rfl, _, _, rfl, rfl, (show (1000000009 : Int) ≠ 0 by decide), ?_⟩⟩
  refine ⟨_, rfl, _, _, rfl, rfl, mul_k (.inr ⟨by decide, by decide⟩), .int e, rfl, _, _, rfl, rfl, .inl ⟨_, rfl, _, _, rfl, rfl, (show (2147483587 : Int) ≠ 0 by decide), _, _, rfl, rfl, ⟨by decide, by decide +kernel⟩, .int m, rfl, _, _, rfl, rfl, (show m ≠ 0 by omega), ?_⟩⟩
  exact q _ i j hi (fmod_in hm).1 (fmod_in hm).2
theorem rest_read {i j z : Int} {ns : List Int} (hm : 0 < m) (hi : 0 ≤ i) (hc : upd H p (.lst [.ref c, .int i, .int j, .int x]) c = some (.lst (ns.map V.int))) (q : ∀ d i' j' : Int, 0 ≤ i' → 0 ≤ d → d < m → D.rt (.int d) (upd H p (.lst [.ref c, .int i', .int j', .int x])))
    (t : ∀ i' j' : Int, 0 ≤ i' → D.nx [some (.ref p), some (.int m), some (.int z), none, none, none] (upd H p (.lst [.ref c, .int i', .int j', .int x]))) :
    tRest K D [some (.ref p), some (.int m), some (.int z), none, none, none] (upd H p (.lst [.ref c, .int i, .int j, .int x])) := by
  refine bIx (k := 1) (v := .int i) rfl upd_same rfl ?_
  refine bLen rfl upd_same hc ⟨_, _, rfl, rfl, _, rfl, ?_⟩
  refine iteQ (fun hg => ?_) (fun hg => ?_)
  · exact iteT (hot_read hm hi q)
  · refine ⟨.int z, rfl, _, _, rfl, rfl, ⟨by decide, by decide, by decide⟩, _, _, rfl, rfl, _, rfl, ?_⟩
    refine iteQ (fun hz => hot_read hm hi q) (fun hz => ?_)
    refine ⟨_, rfl, ?_⟩
    refine bSet (j := 2) rfl upd_same rfl ?_
    rw [upd_upd]
    exact t i z hi
end
theorem draw_read {K : Fg} {vs : List V} {H : Hp} {Q : VK} {E : XK} (h : spDraw K vs H Q E) {N : List Str} (hN : N.length = 6) : tDraw K { nx := fun _ H' => Q .non H', rt := Q } (L2.start N vs) H := by
  obtain ⟨p, c, m, i, j, x, ns, rfl, hp, ne, hc, hi, hm, hdm, q⟩ := h
  have es : L2.start N [V.ref p, V.int m] = [some (.ref p), some (.int m), none, none, none, none] := by
    unfold L2.start
    have : N.length - [V.ref p, V.int m].length = 4 := by simp [hN]
    rw [this]; rfl
  rw [es]
  refine bIx (k := 2) (v := .int j) rfl hp rfl ⟨j, 2, rfl, rfl, _, rfl, ?_⟩
  refine iteQ (fun hj => ?_) (fun hj => ?_)
  · refine bIx (k := 1) (v := .int i) rfl hp rfl ⟨_, _, rfl, rfl, ?_⟩
    refine bSet (j := 1) rfl hp rfl ?_
    have hc1 : upd H p (.lst [.ref c, .int (i + 1), .int j, .int x]) c = some (.lst (ns.map V.int)) := by rw [upd_ne ne]; exact hc
    refine bIx (k := 3) (v := .int x) rfl upd_same rfl ?_
    refine bIx (k := 1) (v := .int (i + 1)) rfl upd_same rfl ⟨_, _, rfl, rfl, mul_k (.inr ⟨by decide, by decide⟩), _, _, rfl, rfl, ?_⟩
    refine bIx (k := 1) (v := .int (i + 1)) rfl upd_same rfl ?_
    refine bLen rfl upd_same hc1 ⟨_, _, rfl, rfl, _, rfl, ?_⟩
    refine iteQ (fun hn => ?_) (fun hn => ?_)
    · have hn := of_decide_eq_true hn
      refine bIx (k := 0) (v := .ref c) rfl upd_same rfl ?_
      refine bIx (k := 1) (v := .int (i + 1)) rfl upd_same rfl ⟨_, _, rfl, rfl, ?_⟩
      have hlt : i.toNat < ns.length := by omega
      refine .inl ⟨c, ns.map V.int, _, .int ns[i.toNat], rfl, rfl, .inl (.inl hc1), ?_, rest_read hm (by omega) hc1 q fun i' j' hi' => tail_read hm hdm hi' q⟩
      have e1 : i + 1 - 1 = (i.toNat : Int) := by omega
      rw [e1]
      have e2 : ixN (ns.map V.int).length (i.toNat : Int) = some i.toNat := by
        unfold ixN
        rw [List.length_map, if_pos (by omega), if_pos (by omega)]
        rfl
      unfold atI
      rw [e2]
      show (ns.map V.int)[i.toNat]? = _
      rw [List.getElem?_map, List.getElem?_eq_getElem hlt]
      rfl
    · exact rest_read hm (by omega) hc1 q fun i' j' hi' => tail_read hm hdm hi' q
  · have e : upd H p (.lst [.ref c, .int i, .int j, .int x]) = H := by
      funext a
      unfold upd
      by_cases ea : a = p
      · rw [if_pos ea, ea, hp]
      · rw [if_neg ea]
    have t := tail_read (K := K) (H := H) (p := p) (c := c) (x := x) (o2 := none) (o3 := none) (o4 := none) (D := { nx := fun _ H' => Q .non H', rt := Q }) (j' := j) hm hdm hi q
    rw [e] at t
    exact t
/-! ### as promises over data -/
/-- what a draw hands out: any number under m -/
def sDraw : GS := fun ds k _ => ∃ m : Int, ds = [.bag, .int m] ∧ 0 < m ∧ DivOk m ∧ ∀ d : Int, 0 ≤ d → d < m → k (.int d)
theorem sDraw_mn : MnS sDraw := fun ds k k' e e' h1 _ ⟨m, h, h2, h3, q⟩ => ⟨m, h, h2, h3, fun d a c => h1 _ (q d a c)⟩
theorem draw_lift {K : Fg} {vs : List V} {H : Hp} {Q : VK} {E : XK} (h : lift K sDraw vs H Q E) : spDraw K vs H Q E := by
  obtain ⟨b, ds, bg, r, m, rfl, h2, h3, q⟩ := h
  obtain ⟨v, w, rfl, r1, r2⟩ := r.of_cons
  obtain ⟨v2, w2, rfl, r3, r4⟩ := r2.of_cons
  rw [r4.of_nil]
  have r3 := r3.int
  subst r3
  simp only [Rep] at r1
  obtain ⟨p, rfl, eb⟩ := r1
  obtain ⟨c, i, j, x, ns, h4, h5, h6, h7⟩ := bg p eb
  refine ⟨p, c, m, i, j, x, ns, rfl, h4, h5, h6, h7, h2, h3, fun d i' j' hi' hd hdm => q d hd hdm _ _ ⟨fun a o n e _ => ?_, fun a e c2 i2 j2 m2 g g0 => ?_, fun t p hp => tab_upd h4 rfl (fun c q z => by unfold LamX.CodeO at z; cases z) (t p hp)⟩ rfl⟩
  · rw [upd_ne (fun z => n (by rw [z, eb]))]; exact e
  · have ea : a = p := Option.some.inj (e.symm.trans eb)
    subst ea
    rw [h4] at g; cases g
    exact ⟨i', j', hi', upd_same⟩
end DL
/-! DF0 -/
set_option Elab.async false
set_option linter.all false
set_option maxRecDepth 100000
set_option maxHeartbeats 4000000
/-! Own errors over ValueError, LookupError or IndexError: their making. -/
namespace DL
open PySem PySem.Spec PyProof.Rows L2
variable [TabC]
/-- the built-in class above -/
inductive EB where
  | ve | le | ie
deriving DecidableEq
def EB.nm : EB → String
  | .ve => "ValueError" | .le => "LookupError" | .ie => "IndexError"
def EB.new : EB → String
  | .ve => "ValueError.__new__" | .le => "LookupError.__new__" | .ie => "IndexError.__new__"
def EB.init : EB → String
  | .ve => "ValueError.__init__" | .le => "LookupError.__init__" | .ie => "IndexError.__init__"
def EB.tail : EB → List Value
  | .ve => [.type "ValueError", .type "Exception", .type "BaseException", .type "object"]
  | .le => [.type "LookupError", .type "Exception", .type "BaseException", .type "object"]
  | .ie => [.type "IndexError", .type "LookupError", .type "Exception", .type "BaseException", .type "object"]
theorem EB.facts : ∀ b : EB, ExcBaseFacts b.nm b.new b.init b.tail
  | .ve => PySem.F.excBase_ValueError
  | .le => PySem.F.excBase_LookupError
  | .ie => PySem.F.excBase_IndexError
theorem EB.store : ∀ b : EB, StoreFacts b.nm b.tail "object.__setattr__" "object"
  | .ve => PySem.F.store_ValueError
  | .le => PySem.F.store_LookupError
  | .ie => PySem.F.store_IndexError
/-- what the written part says of an own error's class -/
structure OexE (K : Fg) (b : EB) (C : Addr) : Prop where
  cls : ∃ nm q N bs bm sn sub ab col dd k0 k1 k2 k3 k5, K.lookup C = some (excClassObj nm q C N bs bm true sn sub ab col dd k0 k1 k2 k3 k5 b.new) ∧ PySem.W.excTail b.tail bm = true
  sa : PySem.W.findIn K (.ref C) "__setattr__" = some (some (.builtin "object.__setattr__"))
  exC : PySem.W.subIn K (.ref C) (.type "BaseException") = some true
  tyC : PySem.W.typeIn K (.ref C) = some (.type "type")
  kC : PySem.W.keepIn K (.ref C) = true
theorem over_of {K : Fg} {b : EB} {C : Addr} (T : OexE K b C) : PySem.W.excOver K C b.tail = true := by
  obtain ⟨nm, q, N, bs, bm, sn, sub, ab, col, dd, k0, k1, k2, k3, k5, hC, hbm⟩ := T.cls
  have hcl : PySem.W.clsIn K C = some { name := nm, bases := bs, mro := .ref C :: bm, ns := N, qualname := q, hasDict := true, slotNames := sn, subclasses := sub, abstract := ab, collection := col, hasDel := false } := by unfold PySem.W.clsIn; rw [hC] <;> rfl
  unfold PySem.W.excOver
  rw [hcl]
  simp [hbm]
theorem taker_none {K : Fg} {C : Addr} {f : Str} (h : PySem.W.findIn K (.ref C) f = some none) : PySem.W.takerIn K C f = some none := by
  unfold PySem.W.takerIn
  rw [h]; rfl
section
open Builtin Builtin.ObjectAttr
variable {prog : Program} {w : World} {A : Around} {E : Value → Shared → Prop} {R : Result → Shared → Prop} {hp : Heap} {g : Array GenState} {d : Drawn} {t : Nat} {os : OsState}
theorem osaE_new {K : Fg} {b : EB} {name : Str} {tk : Tok} {v : Value} {x C : Addr} {fv : Array Value} (T : OexE K b C) (X : K.In hp) (hx : hp.get? x = some { cls := .ref C, data := .fields fv }) (ha : PySem.W.findIn K (.ref C) name = some none)
    (hq : ∀ h' tk' dx, (∀ b o, b ≠ x → hp.get? b = some o → h'.get? b = some o) → hp.objs.size ≤ dx → dx ≠ x → h'.get? x = some { cls := .ref C, dict := some dx, data := .fields fv } →
      h'.Ns1 dx (fun y => if y = name then some v else none) → R (.ok (.ret .none)) ⟨h', g, d, tk', os⟩) :
    codeAny (model prog w) A (.call (.builtin "object.__setattr__") ⟨[.ref x, .str name tk, v], []⟩) R ⟨hp, g, d, t, os⟩ := by
  have I : PySem.W.InstAt hp x { cls := .ref C, data := .fields fv } C none := ⟨hx, rfl, rfl, trivial⟩
  have hxs : x ≠ hp.objs.size := Nat.ne_of_lt (Heap.lt_size hx)
  refine PySem.W.osa_openX (s := ⟨hp, g, d, t, os⟩) b.store X I (over_of T) (taker_none ha) fun ib => ?_
  obtain ⟨nm, q, N, bs, bm, sn, sub, ab, col, dd, k0, k1, k2, k3, k5, hC, hbm⟩ := T.cls
  have hcls : PySem.W.Looks (model prog w) hp (classData C) { name := nm, bases := bs, mro := .ref C :: bm, ns := N, qualname := q, hasDict := true, slotNames := sn, subclasses := sub, abstract := ab, collection := col, hasDel := false } := PySem.W.looks_clsIn X (by unfold PySem.W.clsIn; rw [hC] <;> rfl)
  show wpAny _ _ (storeInOwnDict (.ref x) (.ref C) (.str name tk) name v ib) _ _ _
  unfold storeInOwnDict ownDictForStores
  repeat (first | with_reducible refine HandSPX.store_in_new ?_ ?_ | with_reducible refine wpAny_loadPart_at hx ?_ | with_reducible refine hcls.at ?_ | wp_step)
  · exact ⟨_, #[], _, (Heap.get?_update_ne _ _ _ _ hxs.symm).trans (Heap.get?_push_at rfl rfl), rfl, fun e he => absurd he (by simp), fun _ => rfl⟩
  · intro h' tk' hn' hs
    have hx₁ : (hp.push { cls := .type "dict", data := .dict #[] }).get? x = some { cls := .ref C, data := .fields fv } := Heap.get?_push_of_some _ hx
    refine hq h' tk' hp.objs.size (fun b o hb ho => ?_) (Nat.le_refl _) hxs.symm ?_ hn'
    · exact (hs.2 b (Nat.ne_of_lt (Heap.lt_size ho))).trans ((Heap.get?_update_ne _ _ _ _ hb).trans (Heap.get?_push_of_some _ ho))
    · exact (hs.2 x hxs).trans (Heap.get?_update_self _ hx₁ rfl)
theorem osaE_old {K : Fg} {b : EB} {name : Str} {tk : Tok} {v : Value} {x C dx : Addr} {fv : Array Value} {m0 : Str → Option Value} {nl : List Str} (T : OexE K b C)
    (X : K.In hp) (hx : hp.get? x = some { cls := .ref C, dict := some dx, data := .fields fv }) (hns : hp.Ns1 dx m0) (hw : Within m0 nl) (hz : nl.length ≤ 1000) (ha : PySem.W.findIn K (.ref C) name = some none)
    (hq : ∀ h' tk', (∀ b o, b ≠ dx → hp.get? b = some o → h'.get? b = some o) → h'.Ns1 dx (fun y => if y = name then some v else m0 y) → R (.ok (.ret .none)) ⟨h', g, d, tk', os⟩) :
    codeAny (model prog w) A (.call (.builtin "object.__setattr__") ⟨[.ref x, .str name tk, v], []⟩) R ⟨hp, g, d, t, os⟩ := by
  obtain ⟨oD, esD, epD, hoD, hdD, _⟩ := hns.count hw
  have I : PySem.W.InstAt hp x { cls := .ref C, dict := some dx, data := .fields fv } C (some oD) := ⟨hx, rfl, rfl, hoD⟩
  refine PySem.W.osa_openX (s := ⟨hp, g, d, t, os⟩) b.store X I (over_of T) (taker_none ha) fun ib => ?_
  obtain ⟨nm, q, N, bs, bm, sn, sub, ab, col, dd, k0, k1, k2, k3, k5, hC, hbm⟩ := T.cls
  have hcls : PySem.W.Looks (model prog w) hp (classData C) { name := nm, bases := bs, mro := .ref C :: bm, ns := N, qualname := q, hasDict := true, slotNames := sn, subclasses := sub, abstract := ab, collection := col, hasDel := false } := PySem.W.looks_clsIn X (by unfold PySem.W.clsIn; rw [hC] <;> rfl)
  show wpAny _ _ (storeInOwnDict (.ref x) (.ref C) (.str name tk) name v ib) _ _ _
  unfold storeInOwnDict ownDictForStores
  repeat (first | with_reducible refine PySem.OEX.store_in_old hns hw hz ?_ | with_reducible refine wpAny_loadPart_at hx ?_ | with_reducible refine hcls.at ?_ | wp_step)
  intro h' tk' hn' hs
  exact hq h' tk' (fun b o hb ho => (hs.2 b hb).trans ho) hn'
end
section
variable {X : Cx} {pins : List (Addr × Obj)} {σ : L2.St} {H : Hp} {s : Shared} {b : EB} {a C dx : Addr} {f : Str} {y : V} {u : Value} {fs : List (Str × V)} {Q : Unit → Shared → Prop} {E : Value → Shared → Prop} {A : Around}
/-- self.f = y, the first one -/
theorem ostE_new (T : OexE X.K b C) (I : Inv X pins σ H s) (e : H a = some (exo a C none)) (hno : PySem.W.findIn X.K (.ref C) f = some none) (ry : RelV y u)
    (h : ∀ dx s', H dx = none → dx ≠ a → Inv X pins σ (upd (upd H dx (exd dx [(f, y)])) a (exo a C (some dx))) s' → Q () s') : wpAny (model X.prog X.w) A (setAttr (.ref a) f u) Q E s := by
  obtain ⟨t1, ho⟩ := exo_at I.hok e
  obtain ⟨hp, g, d, t, os⟩ := s
  refine PySem.W.set_plain I.kIn (ox := { cls := .ref C, dict := none, data := .fields #[.ref t1, .none, .none, .none, .bool false, .none] }) (od := none) ⟨ho, rfl, rfl, trivial⟩ T.sa ?_
  refine osaE_new T I.kIn ho hno (fun h' tk' dx k dn dne hx hn => ?_)
  have hnd : H dx = none := I.hok.fresh dn
  have nd : ∀ {b : Addr} {o : Obj}, hp.get? b = some o → b ≠ dx := fun {b o} q => Nat.ne_of_lt (Nat.lt_of_lt_of_le (Heap.lt_size q) dn)
  have na : ∀ {b : Addr}, H b = none → b ≠ a := fun {b} n z => by
    rw [z, e] at n
    cases n
  have Un1 : Un X.fs [] H (upd (upd H dx (exd dx [(f, y)])) a (exo a C (some dx))) hp h' := {
    keep := fun b o q n _ _ => k b o (na n) q
    slot := fun b o q n _ _ => ⟨o.slots, k b o (na n) q⟩
    free := fun b o q n _ => by rw [upd_ne (na n), upd_ne (nd q)]; exact n
    there := fun b o q _ => by
      by_cases hb : b = a
      · exact ⟨_, by rw [hb]; exact hx⟩
      · exact ⟨o, k b o hb q⟩
    tups := fun b xs q => by rw [upd_ne (at_ne e q exo_tup), upd_ne (ne_of_none q hnd)]; exact q
    frzs := fun b o v q => by rw [upd_ne (at_ne e q exo_frz), upd_ne (ne_of_none q hnd)]; exact q
    tbls := fun b ps q => ⟨#[], by rw [upd_ne (at_ne e q exo_tbl), upd_ne (ne_of_none q hnd), q]; simp⟩ }
  refine h dx _ hnd dne (I.un (t' := tk') Un1 fun b o q => ?_)
  by_cases hb : b = a
  · subst hb
    rw [upd_same] at q
    cases q
    exact exo_ok hx
  · rw [upd_ne hb] at q
    by_cases hd : b = dx
    · subst hd
      rw [upd_same] at q
      cases q
      exact exd_ok hn (relO_put (fs := []) ry fun g => True.intro)
    · rw [upd_ne hd] at q
      exact (I.hok b o q).stay (fun c v hc z => k c v (by
          rcases hc with hc | hc
          · rw [hc]
            exact hb
          · exact at_ne e hc exo_own) z)
        (fun c hc => by rw [upd_ne (at_ne e hc exo_own), upd_ne (ne_of_none hc hnd)]; exact hc) (fun c xs hc => by rw [upd_ne (at_ne e hc exo_tup), upd_ne (ne_of_none hc hnd)]; exact hc)
/-- self.f = y, a further one -/
theorem ostE_old (T : OexE X.K b C) (I : Inv X pins σ H s) (e : H a = some (exo a C (some dx))) (ed : H dx = some (exd dx fs)) (hl : fs.length ≤ 900) (hno : PySem.W.findIn X.K (.ref C) f = some none) (ry : RelV y u)
    (h : ∀ s', Inv X pins σ (upd H dx (exd dx ((f, y) :: fs))) s' → Q () s') : wpAny (model X.prog X.w) A (setAttr (.ref a) f u) Q E s := by
  obtain ⟨t1, ho⟩ := exo_at I.hok e
  obtain ⟨mA, hns, rel⟩ := exd_at I.hok ed
  have hw := within_of rel
  obtain ⟨hp, g, d, t, os⟩ := s
  obtain ⟨oD, _, _, hoD, _, _⟩ := hns.count hw
  refine PySem.W.set_plain I.kIn (ox := { cls := .ref C, dict := some dx, data := .fields #[.ref t1, .none, .none, .none, .bool false, .none] }) (od := some oD) ⟨ho, rfl, rfl, hoD⟩ T.sa ?_
  refine osaE_old T I.kIn ho hns hw (by rw [List.length_map]; omega) hno (fun h' tk' k hn => ?_)
  have hd : ∃ o, h'.get? dx = some o := by
    obtain ⟨o, _, _, e', _⟩ := hn
    exact ⟨o, e'⟩
  exact h _ (I.write (t' := tk') (x := dx) (e := dx) (o := exd dx ((f, y) :: fs)) (by rw [ed]; exact True.intro) (.inl rfl) k hd (exd_ok hn (relO_put ry rel)))
/-- Base.__init__(self, ..) -/
theorem oinitE_ok {us : List Value} {Q : Value → Shared → Prop} (T : OexE X.K b C) (I : Inv X pins σ H s) (e : H a = some (exo a C none)) (hl : us.length ≤ sizeLine) (h : ∀ s', Inv X pins σ H s' → Q .none s') :
    wpAny (model X.prog X.w) A (call (.builtin b.init) (.ref a :: us)) Q E s := by
  obtain ⟨nm, q, N, bs, bm, sn, sub, ab, col, dd, k0, k1, k2, k3, k5, hC, hbm⟩ := T.cls
  obtain ⟨t1, ho⟩ := exo_at I.hok e
  obtain ⟨hp, g, d, t, os⟩ := s
  refine wpAny_call (PySem.HandSPX.init_base b.facts (fun Y => PySem.W.excTail_contains Y bm hbm) (I.kIn _ _ hC) ho hl fun h' t2 k hx => ?_)
  have J := I.write (t' := t) (x := a) (e := a) (o := exo a C none) (by rw [e]; exact True.intro) (.inl rfl) k ⟨_, hx⟩ (exo_ok hx)
  have eu : upd H a (exo a C none) = H := by
    funext b
    by_cases hb : b = a
    · rw [hb, upd_same, e]
    · rw [upd_ne hb]
  rw [eu] at J
  exact h _ J
end
/-! ### readings and rules -/
def tVeE (K : Fg) (b : EB) (ta : TA) : TE := fun σ H Q => ta σ H fun vs H1 => ∃ (a C : Addr) (ws : List V), vs = .ref a :: ws ∧ ws.length ≤ 1000 ∧ OexE K b C ∧ H1 a = some (exo a C none) ∧ Q .non H1
def tOsE (K : Fg) (b : EB) (f : Str) (to te : TE) : TS := fun D σ H => te σ H fun y H1 => to σ H1 fun x H2 => ∃ a C : Addr, x = .ref a ∧ OexE K b C ∧ PySem.W.findIn K (.ref C) f = some none ∧
  ((H2 a = some (exo a C none) ∧ ∀ dx, H2 dx = none → dx ≠ a → D.nx σ (upd (upd H2 dx (exd dx [(f, y)])) a (exo a C (some dx)))) ∨
    ∃ (dx : Addr) (fs : List (Str × V)), H2 a = some (exo a C (some dx)) ∧ H2 dx = some (exd dx fs) ∧ fs.length ≤ 900 ∧ D.nx σ (upd H2 dx (exd dx ((f, y) :: fs))))
theorem ps_osE {X : Cx} (b : EB) {o e : Expr} {to te : TE} {f : Str} {p' pos : Pos} (ho : PE X o to) (he : PE X e te) (hs : swapsWith e (some (.Attribute o f p')) pos.line X.env = pure false := by rfl) : PS X (.Assign [.Attribute o f p'] e pos) (tOsE X.K b f to te) := by
  refine ⟨fun pins s σ H D I h => ?_⟩
  refine plainObj_wpAny_Assign_Attribute (thn (he.run pins s σ H _ I h) fun v s1 ⟨y, H1, I1, r1, q1⟩ => thn (ho.run pins s1 σ H1 _ I1 q1) fun u s2 ⟨x, H2, I2, r2, a, C, ex, T, hno, q⟩ => ?_) hs
  subst ex
  obtain rfl : u = Value.ref a := r2
  rcases q with ⟨ea, q⟩ | ⟨dx, fs, ea, ed, hl, q⟩
  · exact ostE_new T I2 ea hno r1 fun dx s' n ne J => ⟨σ, _, J, q dx n ne⟩
  · exact ostE_old T I2 ea ed hl hno r1 fun s' J => ⟨σ, _, J, q⟩
end DL
/-! DF2 -/
set_option Elab.async false
set_option linter.all false
set_option maxRecDepth 100000
set_option maxHeartbeats 4000000
/-! The program's own errors: their making, raise. -/
namespace DL
open PySem PySem.Spec PyProof.Rows L2
variable [TabC]
/-! ### Base.__init__(self, ..) by the base's own name -/
section
variable {X : Cx} {o e : Expr} {es : List Expr} {to te : TE} {ta : TA} {f : Str} {p p' p1 p2 pos : Pos} {x : Str} {S C : Addr}
structure BaseOk (K : Fg) (b : EB) (S : Addr) : Prop where
  ga : PySem.W.specialIn K (.ref S) "__getattribute__" = some (some (.builtin "type.__getattribute__"))
  rd : PySem.W.readsIn K S (.type "type") = true
  fc : PySem.W.findCls K (.ref S) (.type "type") "__init__" = some (.val (.builtin b.init))
theorem pe_bsinit {b : EB} {pl : Sem Bool} (hg : Gl X x) (hm : X.mg x = some (.ref S)) (B : BaseOk X.K b S) (ha : PA X (e :: es) ta) (hdb : (x == ("__debug__" : Str)) = false := by decide)
    (hc : eval (.Call (.Attribute (.Name x p1) "__init__" p2) (e :: es) [] pos) X.env = (do
      let ov ← eval (.Name x p1) X.env
      standAt p2.atName
      let (f, first) ← holding [ov] (getMethod ov "__init__" pl)
      callWith pos f first (backTo pos (starEach (e :: es) X.env)) (backToKw pos (keywordEach [] X.env))) := by rfl)
    (he : starEach (e :: es) X.env = (false, eval e X.env) :: starEach es X.env := by rfl) (hpl : (backTo pos (starEach es X.env)).any (·.1) = false := by rfl) :
    PE X (.Call (.Attribute (.Name x p1) "__init__" p2) (e :: es) [] pos) (tVeE X.K b ta) := by
  refine ⟨fun pins s σ H Q I h => ?_⟩
  refine PySem.W.methodCall_KW (ld_glob I hg hm ?_ hdb) hc
  refine PySem.W.method_cls I.kIn B.ga (PySem.W.cls_value I.kIn B.rd B.fc (by cases b <;> decide +kernel) ?_)
  show wpAny _ _ (callWith pos (Value.builtin b.init) [] (backTo pos (starEach (e :: es) X.env)) []) _ _ _
  refine PyProof.Rows.callWith_method1 (thn (ha.run pos pins _ σ H _ (I.tok _) h) fun us s1 ⟨vs, H1, I1, r1, a, C, ws, ev, hl, T, ea, q⟩ => ?_) he hpl
  subst ev
  cases r1 with
  | @cons _ u0 _ ur ra rw' =>
    obtain rfl : u0 = Value.ref a := ra
    have hlen : ur.length ≤ sizeLine := by
      rw [← Paired.length rw', sizeLine_eq]
      omega
    exact oinitE_ok T I1 ea hlen fun s' J => ⟨.non, H1, J, rfl, q⟩
end
/-! ### what an error's __init__ promises -/
abbrev cdS : Str := "code"
def errFs (code : Str) (flds : List Str) (ws : List V) : List (Str × V) := (flds.zip ws).reverse ++ [(cdS, V.str code)]
def spErr (C : Addr) (code : Str) (flds : List Str) : Sp := fun vs H Q _ => ∃ (a : Addr) (ws : List V), vs = V.ref a :: ws ∧ ws.length = flds.length ∧ H a = some (exo a C none) ∧
  ∀ dx H2, H dx = none → dx ≠ a → H2 a = some (exo a C (some dx)) → H2 dx = some (exd dx (errFs code flds ws)) → (∀ b, b ≠ a → b ≠ dx → H2 b = H b) → Q .non H2
abbrev tBase (K : Fg) (b : EB) (txt : Str) : TS := tDrop (tVeE K b (tCons (tVar 0) (tCons (tC (.str txt)) tNil)))
def tErr0 (K : Fg) (b : EB) (txt code : Str) : TS := tSeq (tBase K b txt) (tOsE K b cdS (tVar 0) (tC (.str code)))
def tErr1 (K : Fg) (b : EB) (txt code f1 : Str) : TS := tSeq (tBase K b txt) (tSeq (tOsE K b cdS (tVar 0) (tC (.str code))) (tOsE K b f1 (tVar 0) (tVar 1)))
structure ErrC (K : Fg) (b : EB) (C : Addr) (flds : List Str) : Prop where
  T : OexE K b C
  no : ∀ f ∈ cdS :: flds, PySem.W.findIn K (.ref C) f = some none
section
variable {K : Fg} {b : EB} {C : Addr} {txt code f1 f2 : Str} {N : List Str} {vs : List V} {H : Hp} {Q : VK} {E : XK}
theorem err_read0 (T : ErrC K b C []) (h : spErr C code [] vs H Q E) (hN : N.length = 1) : tErr0 K b txt code { nx := fun _ H' => Q .non H', rt := Q } (L2.start N vs) H := by
  obtain ⟨a, ws, rfl, hl, ha, q⟩ := h
  cases ws with
  | cons _ _ => simp at hl
  | nil =>
    refine ⟨.ref a, rfl, a, C, [.str txt], rfl, (by simp), T.T, ha, ?_⟩
    refine ⟨.ref a, rfl, a, C, rfl, T.T, T.no _ (by simp), .inl ⟨ha, fun dx hd ne => ?_⟩⟩
    exact q dx _ hd ne upd_same (by rw [upd_ne ne, upd_same]; rfl) fun b h1 h2 => by rw [upd_ne h1, upd_ne h2]
theorem err_read1 (T : ErrC K b C [f1]) (h : spErr C code [f1] vs H Q E) (hN : N.length = 2) : tErr1 K b txt code f1 { nx := fun _ H' => Q .non H', rt := Q } (L2.start N vs) H := by
  obtain ⟨a, ws, rfl, hl, ha, q⟩ := h
  cases ws with
  | nil => simp at hl
  | cons w ws =>
    cases ws with
    | cons _ _ => simp at hl
    | nil =>
      refine ⟨.ref a, rfl, a, C, [.str txt], rfl, (by simp), T.T, ha, ?_⟩
      refine ⟨.ref a, rfl, a, C, rfl, T.T, T.no _ (by simp), .inl ⟨ha, fun dx hd ne => ?_⟩⟩
      refine ⟨w, rfl, .ref a, rfl, a, C, rfl, T.T, T.no _ (by simp), .inr ⟨dx, [(cdS, .str code)], upd_same, by rw [upd_ne ne, upd_same], (by simp), ?_⟩⟩
      exact q dx _ hd ne (by rw [upd_ne (Ne.symm ne), upd_same]) (by rw [upd_same]; rfl) fun b h1 h2 => by rw [upd_ne h2, upd_ne h1, upd_ne h2]
end
/-! ### raise C(..) -/
def errNs (flds : List Str) : List Str := flds.reverse ++ [cdS]
def errX (c code : Str) (flds : List Str) (ds : List D) : XD := ⟨c, errNs flds, ds.reverse ++ [D.str code]⟩
theorem zip_rev_app {α β : Type} (x : α) (y : β) : ∀ (l : List α) (m : List β), l.length = m.length → (l.zip m).reverse ++ [(x, y)] = (l.reverse ++ [x]).zip (m.reverse ++ [y]) := by
  intro l m h
  rw [List.zip_append (by simpa using h)]
  congr 1
  show (List.zipWith Prod.mk l m).reverse = List.zipWith Prod.mk l.reverse m.reverse
  exact List.reverse_zipWith h
theorem errFs_zip {code : Str} {flds : List Str} {ws : List V} (h : ws.length = flds.length) : errFs code flds ws = (errNs flds).zip (ws.reverse ++ [V.str code]) := zip_rev_app _ _ _ _ h.symm
theorem Reps.reverse {K : Fg} {b : Option Addr} {H : Hp} : ∀ {ds : List D} {vs : List V}, Reps K b H ds vs → Reps K b H ds.reverse vs.reverse
  | [], _, h => by rw [h.of_nil]; exact Reps.nil
  | d :: r, vs, h => by
    obtain ⟨v, q, rfl, h1, h2⟩ := h.of_cons
    rw [List.reverse_cons, List.reverse_cons]
    exact (Reps.reverse h2).append (Reps.cons h1 Reps.nil)
def gRaise (c code : Str) (flds : List Str) (dd : List D) (eo : XD → Prop) (ga : GA) : GSt := fun _ σ => ga σ fun ds => (ds ++ dd).length = flds.length ∧ ds.length ≤ 900 ∧ eo (errX c code flds (ds ++ dd))
section
variable {X : Cx} {eb : EB} {b : Option Addr} {H0 : Hp} {E : XK} {eo : XD → Prop} {c code : Str} {flds : List Str} {ga : GA} {e : Expr} {es : List Expr} {p pos pos' : Pos} {x : Str} {k : Nat} {fI : Addr} {fd : FuncData} {ps : List Str} {dd : List D} {dvs : List V} {dus : List Value}
/-- what stands of the class and its __init__ -/
structure ErrK (K : Fg) (eb : EB) (c : Str) (fI : Addr) (flds : List Str) : Prop where
  C : ErrC K eb (He.ga K c) flds
  iC : PySem.W.findIn K (.ref (He.ga K c)) "__init__" = some (some (.ref fI))
  tI : PySem.W.typeIn K (.ref fI) = some (.type "function")
theorem xd_new {O : List Addr} {H1 H2 : Hp} {a d : Addr} {fs : List (Str × V)} (hO : ∀ x ∈ O, some x ≠ b ∧ Hid O H1 x) (ha : H1 a = none) (hd : H1 d = none) (kp : ∀ x, x ≠ a → x ≠ d → H2 x = H1 x) : Ext b (hide O H1) (hide O (upd (del H2 a) d (.xd fs))) := by
  have ey : ∀ y o, H1 y = some o → upd (del H2 a) d (.xd fs) y = some o := fun y o h => by
    have n1 : y ≠ a := ne_of_none h ha
    have n2 : y ≠ d := ne_of_none h hd
    rw [upd_ne n2, del_ne n1, kp y n1 n2]; exact h
  exact (Ext.all ey).hide hO
theorem raise_read (Z : Cz X b H0 E eo) (T : ErrK X.K eb c fI flds) {σd : StD} {σ : L2.St} {H H1 : Hp} {O : List Addr} {ds : List D} {vs : List V} (x1 : Ext b H H1) (R : Rst X.K b H0 σd σ H O) (r1 : Reps X.K b (hide O H1) ds vs) (hdd : ∀ b H, Reps X.K b H dd dvs)
    (z1 : (ds ++ dd).length = flds.length) (z2 : ds.length ≤ 900) (z3 : eo (errX c code flds (ds ++ dd))) : vs.length ≤ 1000 ∧ ∀ a, H1 a = none → spErr (He.ga X.K c) code flds (.ref a :: (vs ++ dvs)) (upd H1 a (exo a (He.ga X.K c) none))
      (fun v H2 => v = .non ∧ ∃ (d : Addr) (fs : List (Str × V)), H2 a = some (exo a (He.ga X.K c) (some d)) ∧ H2 d = some (exd d fs) ∧ H1 d = none ∧ E (.ref (He.ga X.K c)) (some d) (upd (del H2 a) d (.xd fs))) (fun _ _ _ => False) := by
  have rr : Reps X.K b (hide O H1) (ds ++ dd) (vs ++ dvs) := r1.append (hdd _ _)
  have hl : (vs ++ dvs).length = flds.length := by rw [← rr.length]; exact z1
  refine ⟨by rw [← r1.length]; omega, fun a ha => ?_⟩
  refine ⟨a, vs ++ dvs, rfl, hl, upd_same, fun dx H2 hdx ne h2a h2d kp => ⟨rfl, dx, _, h2a, h2d, by rw [← hdx, upd_ne ne], ?_⟩⟩
  have hdx1 : H1 dx = none := by rw [← hdx, upd_ne ne]
  have R1 := R.mono x1
  have kp' : ∀ x, x ≠ a → x ≠ dx → H2 x = H1 x := fun x n1 n2 => by rw [kp x n1 n2, upd_ne n1]
  have hO : ∀ x ∈ O, some x ≠ b ∧ Hid O H1 x := fun x m => ⟨(R1.nb x m).1, (R1.nb x m).2.2⟩
  have xx := xd_new (fs := errFs code flds (vs ++ dvs)) hO ha hdx1 kp'
  have ey : Ext b (hide O (upd (del H2 a) dx (.xd (errFs code flds (vs ++ dvs))))) (upd (del H2 a) dx (.xd (errFs code flds (vs ++ dvs)))) := ⟨hide_le, fun a e c i j m h h0 => ⟨i, j, h0, (of_hide h).2⟩, fun t => tabs_unhide t⟩
  refine Z.ex _ _ _ _ z3 (R1.le.trans (xx.trans ey)) ⟨rfl, dx, (vs ++ dvs).reverse ++ [V.str code], rfl, ?_, ?_, ?_⟩
  · rw [upd_same, errFs_zip hl]; rfl
  · have hl2 := hl
    rw [List.length_append] at hl2
    simp only [errX, errNs, List.length_append, List.length_reverse, List.length_cons, List.length_nil]
    omega
  · exact ((rr.mono (xx.1.trans hide_le)).reverse).append (Reps.cons rfl Reps.nil)
theorem pmk_oexE {CX : CXT} {C : Addr} {sp : Sp} {ds : List Value} (T : OexE X.K eb C) (iC : PySem.W.findIn X.K (.ref C) "__init__" = some (some (.ref fI))) (tI : PySem.W.typeIn X.K (.ref fI) = some (.type "function"))
    (F1 : FnOk X.prog X.w X.K X.mg X.base CX k fI fd ps sp) (hr : Room (k + 1) X.A) (hb : Binds X.K fd ps ds) (hd : Vals dvs ds) (hx : Passes CX X (fun _ _ _ => False)) (hg : Gl X x) (hm : X.mg x = some (.ref C)) {ta : TA} (ha : PA X (e :: es) ta)
    (hdb : (x == ("__debug__" : Str)) = false := by decide) (he : starEach (e :: es) X.env = (false, eval e X.env) :: starEach es X.env := by rfl) (hpl : (backTo pos (starEach es X.env)).any (·.1) = false := by rfl) :
    PMk X (.Call (.Name x p) (e :: es) [] pos) (tMkO C sp dvs ta) := by
  intro pins s σ H Q I h
  obtain ⟨nm, q, N, bs, bm, sn, sub, ab, col, dd, k0, k1, k2, k3, k5, hC, hbm⟩ := T.cls
  refine wpAny_Call_Name_kw (ld_glob I hg hm ?_ hdb)
  refine PySem.W.callWith_K (h₀ := X.base) I.ok.mod.kin T.kC (thn (ha.run pos pins s σ H _ I h) fun us s1 ⟨vs, H1, I1, r1, hz, q1⟩ => ⟨I1.kIn, ?_⟩) he hpl
  show wpAny _ _ (call (.ref C) us) _ _ _
  obtain ⟨hp, g, dr, tk, os⟩ := s1
  have hsz : hp.objs.size ≤ hp.objs.size + 1 := Nat.le_succ _
  have hn : H1 (hp.objs.size + 1) = none := I1.hok.fresh hsz
  have hq := q1 (hp.objs.size + 1) hn
  have kk : ∀ b o, hp.get? b = some o → ((hp.push (PySem.W.kdv_tup us)).push (PySem.HandSPX.excO C hp.objs.size)).get? b = some o := fun b o e => Heap.get?_push_of_some _ (Heap.get?_push_of_some _ e)
  have hget : ((hp.push (PySem.W.kdv_tup us)).push (PySem.HandSPX.excO C hp.objs.size)).get? (hp.objs.size + 1) = some (PySem.HandSPX.excO C hp.objs.size) := by heap_get
  have I2 : Inv X pins σ (upd H1 (hp.objs.size + 1) (exo (hp.objs.size + 1) C none)) ⟨(hp.push (PySem.W.kdv_tup us)).push (PySem.HandSPX.excO C hp.objs.size), g, dr, tk, os⟩ :=
    I1.laid (t' := tk) (a := hp.objs.size + 1) (o := exo (hp.objs.size + 1) C none) (h' := (hp.push (PySem.W.kdv_tup us)).push (PySem.HandSPX.excO C hp.objs.size)) kk hsz (exo_ok hget)
  have r2 : Vals (V.ref (hp.objs.size + 1) :: (vs ++ dvs)) (Value.ref (hp.objs.size + 1) :: (us ++ ds)) := .cons rfl (r1.append hd)
  have hl : (Value.ref (hp.objs.size + 1) :: us ++ ds).length = ps.length := by
    have e := r2.length
    rw [F1.len _ _ _ _ hq] at e
    exact e.symm
  have hus : us.length ≤ sizeLine := by
    rw [← Paired.length r1, sizeLine_eq]
    omega
  refine wpAny_call (PySem.HandSPX.call_own eb.facts (fun Y => PySem.W.excTail_contains Y bm hbm) (I1.kIn _ _ hC) (PySem.W.looks_findIn I1.kIn iC) (fun self => PySem.W.bind_fn I1.kIn self tI) hus
    (codeAny_mono (F1.run _ X.stack _ _ ⟨Value.ref (hp.objs.size + 1) :: us, []⟩ (Value.ref (hp.objs.size + 1) :: (us ++ ds)) _ _ (fun _ _ _ => False) (hr.make C us []) (I2.env0.make C us []) (hb _ (Value.ref (hp.objs.size + 1) :: us) I2.kIn hl) r2 hq) fun r s' hq' => ?_))
  cases r with
  | error er => exact hx pins σ _ _ er s' I2 hq'
  | ok fl =>
    cases fl with
    | ret u =>
      obtain ⟨v, H2, os2, bare2, un2, hok2, rv, ev, d, fs, ea, ed, hd1, q2⟩ := hq'
      subst ev
      obtain ⟨h2, g2, d2, t2, os'⟩ := s'
      exact ⟨rv, mk_end (raises_own T.exC T.tyC) I1 hsz kk un2 hok2 os2 bare2 ea ed hd1 q2⟩
    | next => exact False.elim hq'
    | brk => exact False.elim hq'
    | cont => exact False.elim hq'
theorem ds_raise (tk : Takes X (fun cls d _ H' => E cls d H')) (Z : Cz X b H0 E eo) (hc : X.calm = true) (T : ErrK X.K eb c fI flds) (F1 : FnOk X.prog X.w X.K X.mg X.base (L2.CX X.prog X.w) k fI fd ps (spErr (He.ga X.K c) code flds)) (hr : Room (k + 1) X.A) (hb : Binds X.K fd ps dus) (hd : Vals dvs dus) (hdd : ∀ b H, Reps X.K b H dd dvs)
    (hx : Passes (L2.CX X.prog X.w) X (fun _ _ _ => False)) (hg : Gl X x) (hm : X.mg x = some (.ref (He.ga X.K c))) (A : DAr b H0 X (e :: es) ga)
    (hdb : (x == ("__debug__" : Str)) = false := by decide) (he : starEach (e :: es) X.env = (false, eval e X.env) :: starEach es X.env := by rfl) (hpl : (backTo pos (starEach es X.env)).any (·.1) = false := by rfl) :
    DS b H0 X (.Raise (some (.Call (.Name x p) (e :: es) [] pos)) none pos') (gRaise c code flds dd eo ga) := by
  refine ⟨ps_imp (ps_raise hc tk (pmk_oexE T.C.T T.iC T.tI F1 hr hb hd hx hg hm A.pa hdb he hpl)) fun D σ H ⟨σd, O, R, q⟩ => ?_, fun D D' σ h1 h2 h3 h4 q => A.mn _ _ _ (fun x z => z) q⟩
  refine ⟨σd, O, R, A.mn _ _ _ (fun ds z vs H1 x1 r1 => ?_) q⟩
  exact raise_read Z T x1 R r1 hdd z.1 z.2.1 z.2.2
theorem pmk_oex0 {CX : CXT} {C : Addr} {sp : Sp} {ds : List Value} (T : OexE X.K eb C) (iC : PySem.W.findIn X.K (.ref C) "__init__" = some (some (.ref fI))) (tI : PySem.W.typeIn X.K (.ref fI) = some (.type "function"))
    (F1 : FnOk X.prog X.w X.K X.mg X.base CX k fI fd ps sp) (hr : Room (k + 1) X.A) (hb : Binds X.K fd ps ds) (hd : Vals dvs ds) (hx : Passes CX X (fun _ _ _ => False)) (hg : Gl X x) (hm : X.mg x = some (.ref C))
    (hdb : (x == ("__debug__" : Str)) = false := by decide) :
    PMk X (.Call (.Name x p) [] [] pos) (tMkO C sp dvs tNil) := by
  intro pins s σ H Q I h
  obtain ⟨nm, q, N, bs, bm, sn, sub, ab, col, dd, k0, k1, k2, k3, k5, hC, hbm⟩ := T.cls
  refine wpAny_Call_Name_kw (ld_glob I hg hm ?_ hdb)
  refine PySem.W.callWith_K0 I.kIn T.kC ?_
  obtain ⟨us, eus⟩ : ∃ us : List Value, us = [] := ⟨_, rfl⟩
  obtain ⟨vs, evs⟩ : ∃ vs : List V, vs = [] := ⟨_, rfl⟩
  show wpAny _ _ (call (.ref C) []) _ _ _
  rw [← eus]
  have I1 := I
  have r1 : Vals vs us := by rw [eus, evs]; exact .nil
  obtain ⟨hz, q1⟩ := h
  rw [← evs] at q1 hz
  obtain ⟨hp, g, dr, tk, os⟩ := s
  have hsz : hp.objs.size ≤ hp.objs.size + 1 := Nat.le_succ _
  have hn : H (hp.objs.size + 1) = none := I1.hok.fresh hsz
  have hq := q1 (hp.objs.size + 1) hn
  have kk : ∀ b o, hp.get? b = some o → ((hp.push (PySem.W.kdv_tup us)).push (PySem.HandSPX.excO C hp.objs.size)).get? b = some o := fun b o e => Heap.get?_push_of_some _ (Heap.get?_push_of_some _ e)
  have hget : ((hp.push (PySem.W.kdv_tup us)).push (PySem.HandSPX.excO C hp.objs.size)).get? (hp.objs.size + 1) = some (PySem.HandSPX.excO C hp.objs.size) := by heap_get
  have I2 : Inv X pins σ (upd H (hp.objs.size + 1) (exo (hp.objs.size + 1) C none)) ⟨(hp.push (PySem.W.kdv_tup us)).push (PySem.HandSPX.excO C hp.objs.size), g, dr, tk, os⟩ :=
    I1.laid (t' := tk) (a := hp.objs.size + 1) (o := exo (hp.objs.size + 1) C none) (h' := (hp.push (PySem.W.kdv_tup us)).push (PySem.HandSPX.excO C hp.objs.size)) kk hsz (exo_ok hget)
  have r2 : Vals (V.ref (hp.objs.size + 1) :: (vs ++ dvs)) (Value.ref (hp.objs.size + 1) :: (us ++ ds)) := .cons rfl (r1.append hd)
  have hl : (Value.ref (hp.objs.size + 1) :: us ++ ds).length = ps.length := by
    have e := r2.length
    rw [F1.len _ _ _ _ hq] at e
    exact e.symm
  have hus : us.length ≤ sizeLine := by
    rw [← Paired.length r1, sizeLine_eq]
    omega
  refine wpAny_call (PySem.HandSPX.call_own eb.facts (fun Y => PySem.W.excTail_contains Y bm hbm) (I1.kIn _ _ hC) (PySem.W.looks_findIn I1.kIn iC) (fun self => PySem.W.bind_fn I1.kIn self tI) hus
    (codeAny_mono (F1.run _ X.stack _ _ ⟨Value.ref (hp.objs.size + 1) :: us, []⟩ (Value.ref (hp.objs.size + 1) :: (us ++ ds)) _ _ (fun _ _ _ => False) (hr.make C us []) (I2.env0.make C us []) (hb _ (Value.ref (hp.objs.size + 1) :: us) I2.kIn hl) r2 hq) fun r s' hq' => ?_))
  cases r with
  | error er => exact hx pins σ _ _ er s' I2 hq'
  | ok fl =>
    cases fl with
    | ret u =>
      obtain ⟨v, H2, os2, bare2, un2, hok2, rv, ev, d, fs, ea, ed, hd1, q2⟩ := hq'
      subst ev
      obtain ⟨h2, g2, d2, t2, os'⟩ := s'
      exact ⟨rv, mk_end (raises_own T.exC T.tyC) I1 hsz kk un2 hok2 os2 bare2 ea ed hd1 q2⟩
    | next => exact False.elim hq'
    | brk => exact False.elim hq'
    | cont => exact False.elim hq'
theorem ds_raise0 (tk : Takes X (fun cls d _ H' => E cls d H')) (Z : Cz X b H0 E eo) (hc : X.calm = true) (T : ErrK X.K eb c fI flds) (F1 : FnOk X.prog X.w X.K X.mg X.base (L2.CX X.prog X.w) k fI fd ps (spErr (He.ga X.K c) code flds)) (hr : Room (k + 1) X.A) (hb : Binds X.K fd ps dus) (hd : Vals dvs dus) (hdd : ∀ b H, Reps X.K b H dd dvs)
    (hx : Passes (L2.CX X.prog X.w) X (fun _ _ _ => False)) (hg : Gl X x) (hm : X.mg x = some (.ref (He.ga X.K c)))
    (hdb : (x == ("__debug__" : Str)) = false := by decide) :
    DS b H0 X (.Raise (some (.Call (.Name x p) [] [] pos)) none pos') (gRaise c code flds dd eo gNil) := by
  refine ⟨ps_imp (ps_raise hc tk (pmk_oex0 T.C.T T.iC T.tI F1 hr hb hd hx hg hm hdb)) fun D σ H ⟨σd, O, R, q⟩ => ?_, fun D D' σ h1 h2 h3 h4 q => q⟩
  obtain ⟨z1, z2, z3⟩ := q
  exact raise_read Z T (x1 := .refl H) (vs := []) R Reps.nil hdd z1 z2 z3
end
end DL
/-! DF3 -/
set_option Elab.async false
set_option linter.all false
set_option maxRecDepth 100000
set_option maxHeartbeats 4000000
/-! A question told or refused: try .. except (A, B, C) as e, the error's fields, a lambda handed in. -/
namespace DL
open PySem PySem.Spec PyProof.Rows L2
variable [TabC]
/-! ### except (A, B, C) as e -/
theorem flyingZ_keeps {B h h' : Heap} {l : List Env} {e : Addr} {Z : Obj → Prop} (R : HandSPX.FlyingZ B l e Z h) (k : ∀ b o, h.get? b = some o → h'.get? b = some o) : HandSPX.FlyingZ B l e Z h' := by
  obtain ⟨f1, f2, f3, oe, ws, T, oT, ts, he, hc, hd, h1, hn, hne, hT, hdT, h3⟩ := R
  exact ⟨fun b o q => k b o (f1 b o q), f2, f3.of_keeps fun b o q _ => ⟨o, k b o q, rfl⟩, oe, ws, T, oT, ts, k _ _ he, hc, hd, h1, hn, hne, k _ _ hT, hdT, h3⟩
def wAs3 (K : Fg) (c1 c2 c3 : Value) (i L : Nat) (ts : Addr → Value → Option Addr → TS) (Wout : WX) (D : Ends) : WX := fun cls d σ H =>
  ∃ b, PySem.W.exmAny K cls [c1, c2, c3] = some b ∧ (b = true → ∀ a, H a = none → σ.length = L → ts a cls d { nx := fun σ' H' => D.nx (σ'.set i none) H', rt := D.rt, bk := fun σ' H' => D.bk (σ'.set i none) H', ct := fun σ' H' => D.ct (σ'.set i none) H' } (σ.set i (some (.ref a))) H) ∧
    (b = false → Wout cls d σ H)
section
variable {X : Cx} {x1 x2 x3 n : Str} {c1 c2 c3 : Value} {i kk : Nat} {body suite : List Stmt} {b₀ : Stmt} {np np1 np2 np3 pos pos' : Pos} {tb : WX → TS} {ts : Addr → Value → Option Addr → TS} {Wout : WX}
theorem ps_try_as3 (hs : X.stack = X.env :: X.outer) (hf : X.env.frame = some X.env.locals) (hN : X.N.Nodup) (hi : X.N[i]? = some n) (hln : X.env.kindOf n = some .local) (hc1 : Names X x1 c1) (hc2 : Names X x2 c2) (hc3 : Names X x3 c3) (tk : Takes X Wout)
    (hb : ∀ (W : WX) (pn : List (Addr × Obj)) (xe : Value → Shared → Prop), Takes (X.tr pn xe) W → PassesOwn (model X.prog X.w) X.A X.env xe → PSs (X.tr pn xe) body (tb W))
    (hsu : ∀ (a : Addr) (oe : Obj) (cls : Value) (d : Option Addr) (pn : List (Addr × Obj)), Zc cls d oe → (∃ vs, oe.data = .fields vs) → PSs (X.suite a ((a, oe) :: pn)) (b₀ :: suite) (ts a cls d)) :
    PS X (.Try body [.ExceptHandler (some (.Tuple [.Name x1 np1, .Name x2 np2, .Name x3 np3] kk np)) (some n) (b₀ :: suite) pos'] [] [] pos) (fun D σ H => tb (wAs3 X.K c1 c2 c3 i X.N.length ts Wout D) D σ H) := by
  refine ⟨fun pins s σ H D I h => ?_⟩
  have ok := I.ok
  have hfr : X.A.frames = some (X.env :: X.outer) := by rw [ok.frames, hs]
  have hloc : Loc X.env.scope n := .inl hln
  refine wpAny_Try_except ?_
  refine wpAny_mono ((hb (wAs3 X.K c1 c2 c3 i X.N.length ts Wout D) (X.pn ++ pins) (fun e s₁ => wpAny (model X.prog X.w) X.A (noteFrame e X.env) (fun _ s₂ => wpAny (model X.prog X.w) X.A (setFlight e none) (fun _ s₃ =>
    wpAny (model X.prog X.w) X.A (handleBy e X.env [.ExceptHandler (some (.Tuple [.Name x1 np1, .Name x2 np2, .Name x3 np3] kk np)) (some n) (b₀ :: suite) pos']) (SP X pins D) X.xe s₃) X.xe s₂) X.xe s₁) (fun u s' xx => ?_) PassesOwn.looking).run [] s σ H D (I.toTry _) h) (fun f s1 hsp => ?_) (fun e s1 he => he)
  · -- the catch
    obtain ⟨a, B, sI, pins', σ', H', cls, d, rfl, J', nb, up, sky, na, os, ag, b, hb1, hyes, hno⟩ := xx
    have J : Inv X pins σ' H' sI := J'.ofTry ok
    have sky' : Sky B (X.env :: X.outer) a (Zc cls d) X.env.locals s'.heap := by rw [← hs]; exact sky
    show wpAny (model X.prog X.w) X.A (noteFrame (.ref a) X.env) _ _ _
    refine Sky.land Zc.steady hfr hf sky' fun h3 fl3 up3 => ?_
    have J3 : Inv X pins σ' H' { s' with heap := h3 } := J.landed nb fl3.1 (up.trans up3) os ag
    obtain ⟨oe3, vs3, he3, hz3, hd3⟩ := fl3.there
    have notFr : ∀ {h : Heap} {o : Obj} {vs : Array Value}, h.FunFrames B (X.env :: X.outer) → h.get? a = some o → o.data = .fields vs → a ∉ frs (X.env :: X.outer) := fun {h o vs} ff e dd hm => by
      obtain ⟨_, o', e', hnf⟩ := ff.mem hm
      rw [e] at e'; cases e'
      exact hnf _ dd
    have nfr := notFr fl3.2.2.1 he3 hd3
    have nL : a ≠ X.env.locals := fun z => nfr (List.mem_filterMap.mpr ⟨X.env, List.mem_cons_self, by rw [hf, z]⟩)
    have nF : a ∉ X.fs := fun hm => by
      obtain ⟨e, he, q⟩ := List.mem_filterMap.mp hm
      exact nfr (List.mem_filterMap.mpr ⟨e, List.mem_cons_of_mem _ he, q⟩)
    have S3 := J3.suite he3 hd3 na nL nF
    refine wpAny_handleBy_cons (codeAny_handlers_test ?_) (by intro q; cases q)
    have LT : PySem.W.Looks (model X.prog X.w) h3 (typeOf (.ref a)) cls := fun A Q E s k q => wpAny_typeOf_ref (k _ _ he3) (by rw [hz3.1]; exact q)
    have test : ∀ {x : Str} {c : Value} {p : Pos} {Q : Value → Shared → Prop} {E : Value → Shared → Prop}, Names X x c → Q c { s' with heap := h3 } → wpAny (model X.prog X.w) (X.A.mark (some (.ref a))) (eval (.Name x p) X.env) Q E { s' with heap := h3 } := fun {x c p Q E} hc q => by
      obtain ⟨hg, hdbg, hm | ⟨hm, hv, hnn⟩⟩ := hc
      · exact ld_glob (X := X.suite a ((a, oe3) :: (X.pn ++ pins))) S3 hg hm q hdbg
      · exact ld_blt (X := X.suite a ((a, oe3) :: (X.pn ++ pins))) S3 hg hm hv q hnn hdbg
    refine wpAny_Tuple ?_
    refine wpAny_items_cons (test hc1 ?_)
    refine wpAny_items_cons (test hc2 ?_)
    refine wpAny_items_cons (test hc3 ?_)
    refine wpAny_items_nil ⟨by show 3 ≤ sizeLine; decide, ?_⟩
    have kp : ∀ q o, h3.get? q = some o → (h3.push { cls := .type "tuple", data := .seq [c1, c2, c3].toArray }).get? q = some o := fun _ _ z => Heap.get?_push_of_some _ z
    have LM := PySem.W.exm_tup3 (M := model X.prog X.w) (tp := h3.objs.size) (b := b) ((J3.kIn).keeps kp) (LT.keeps kp) (Heap.get?_push_size h3 rfl) hb1
    have flp := flyingZ_keeps fl3 kp
    have upp : s'.heap.UpToSlots (h3.push { cls := .type "tuple", data := .seq [c1, c2, c3].toArray }) := up3.trans (Heap.UpToSlots.of_keeps kp)
    refine LM.here ?_
    cases b with
    | true =>
      refine codeAny_handlers_suite_as ?_
      refine HandSPX.lands_againZ flp fun h4 fl4 up4 => ?_
      have J4 : Inv X pins σ' H' { s' with heap := h4 } := J.landed nb fl4.1 ((up.trans upp).trans up4) os ag
      obtain ⟨oe4, vs4, he4, hz4, hd4⟩ := fl4.there
      have S4 := J4.suite he4 hd4 na nL nF
      refine store_ok (X := X.suite a ((a, oe4) :: (X.pn ++ pins))) (v := .ref a) S4 hN hi hloc rfl (fun s5 S5 => ?_) (.inr hln)
      refine wpAny_mono ((hsu a oe4 cls d (X.pn ++ pins) hz4 ⟨_, hd4⟩).run [] s5 _ H' _ S5 (hyes rfl a na J.len)) (fun f s6 hsp => ?_) (fun _ _ z => False.elim z)
      have end_ : ∀ {σ6 : L2.St} {H6 : Hp} {Q : Shared → Prop}, Inv (X.suite a ((a, oe4) :: (X.pn ++ pins))) [] σ6 H6 s6 → (∀ s7, Inv X pins (σ6.set i none) H6 s7 → Q s7) →
          wpAny (model X.prog X.w) X.A (do bindName X.env n .none; unbindBehindTheSuite X.env n pos') (fun _ s7 => Q s7) X.xe s6 := fun {σ6 H6 Q} S6 hq => gone_ok (S6.unsuite ok) hN hi hln hq
      cases f with
      | next =>
        obtain ⟨σ6, H6, S6, q6⟩ := hsp
        exact end_ S6 fun s7 J7 => ⟨_, _, J7, q6⟩
      | brk =>
        obtain ⟨σ6, H6, S6, q6⟩ := hsp
        exact end_ S6 fun s7 J7 => ⟨_, _, J7, q6⟩
      | cont =>
        obtain ⟨σ6, H6, S6, q6⟩ := hsp
        exact end_ S6 fun s7 J7 => ⟨_, _, J7, q6⟩
      | ret u =>
        obtain ⟨v6, σ6, H6, S6, r6, q6⟩ := hsp
        exact end_ S6 fun s7 J7 => ⟨_, _, _, J7, r6, q6⟩
    | false =>
      show wpAny _ X.A (handleBy (.ref a) X.env []) _ _ _
      refine wpAny_handleBy_nil ?_
      obtain ⟨k1, k2, k3, oe, vs, T, oT, ts', he, hz, hd, h1, hr⟩ := id flp
      unfold PySem.passOn
      refine wpAny_bind (wpAny_field he hd h1 ?_)
      rw [if_neg (show ¬ ((Value.ref T == Value.none) = true) from by simp)]
      have fin : wpAny (model X.prog X.w) X.A (setFlight (.ref a) X.env.frame) (fun _ s4 => wpAny (model X.prog X.w) X.A (throw (.ref a) : Sem Flow) (SP X pins D) X.xe s4) X.xe { s' with heap := h3.push { cls := .type "tuple", data := .seq [c1, c2, c3].toArray } } := by
        rw [hf]
        refine HandSPX.setFlight_upZ flp fun h4 hh4 up4 => wpAny_throw (tk _ _ ?_)
        exact ⟨a, B, sI, pins, σ', H', cls, d, rfl, J, nb, (up.trans upp).trans up4, .inr (.inr (by rw [hs]; exact hh4)), na, os, ag, hno rfl⟩
      first
        | exact wpAny_bind (wpAny_pure (wpAny_bind fin))
        | exact wpAny_bind fin
  · cases f with
    | next =>
      obtain ⟨σ', H', J', q⟩ := hsp
      exact wpAny_execs_nil ⟨σ', H', J'.ofTry ok, q⟩
    | brk =>
      obtain ⟨σ', H', J', q⟩ := hsp
      exact ⟨σ', H', J'.ofTry ok, q⟩
    | cont =>
      obtain ⟨σ', H', J', q⟩ := hsp
      exact ⟨σ', H', J'.ofTry ok, q⟩
    | ret u =>
      obtain ⟨v, σ', H', J', r, q⟩ := hsp
      exact ⟨v, σ', H', J'.ofTry ok, r, q⟩
end
/-! ### a field of the error that is caught -/
def tXfA (K : Fg) (a : Addr) (cls : Value) (d : Option Addr) (n : Str) (te : TE) : TE := fun σ H Q => te σ H fun x H1 => x = .ref a ∧ ∃ C, cls = .ref C ∧ XfC K C ∧ PySem.W.findIn K (.ref C) n = some none ∧ ∃ (dd : Addr) (fs : List (Str × V)) (v : V), d = some dd ∧ H1 dd = some (.xd fs) ∧ fs.lookup n = some v ∧ Q v H1
theorem pe_xfA {X : Cx} {a : Addr} {oe : Obj} {cls : Value} {d : Option Addr} {e : Expr} {te : TE} {pos : Pos} {n : Str} (hp : (a, oe) ∈ X.pn) (hz : Zc cls d oe) (hf : ∃ vs, oe.data = .fields vs) (he : PE X e te) (hb : attributeBase e n X.env (eval e X.env) = eval e X.env := by rfl) :
    PE X (.Attribute e n pos) (tXfA X.K a cls d n te) := by
  refine ⟨fun pins s σ H Q I h => ?_⟩
  refine attr_of hb (thn (he.run pins s σ H _ I h) fun u s1 hh => ?_)
  obtain ⟨x, H1, I1, rx, ex, C, ec, T, hno, dd, fs, v, ed, ea, l, q⟩ := hh
  subst ex
  obtain rfl : u = Value.ref a := rx
  subst ec
  subst ed
  obtain ⟨ha, _⟩ := I1.pin (a, oe) (List.mem_append_left _ hp)
  obtain ⟨vs, hd⟩ := hf
  have hx : ObjOk X.prog X.w H1 s1.heap dd (.xd fs) := I1.hok dd _ ea
  obtain ⟨mA, hns, hr⟩ := hx
  obtain ⟨od, ho, hl⟩ := lookIn_ns hns
  obtain ⟨u, hu, ru⟩ := RelO.some_of (v := v) (o := mA n) (by rw [← l]; exact hr n)
  have J : PySem.W.InstAt s1.heap a oe C (some od) := ⟨ha, hz.1, by unfold PySem.W.notCls; rw [hd] <;> rfl, by rw [hz.2]; exact ho⟩
  exact HandSPX.exc_get I1.kIn J T.ga T.gg T.exC (PySem.W.findObj_own T.hdC hno rfl (by rw [hl, hu])) (handed_of ru) ⟨v, H1, I1.tok _, ru, q⟩
/-! ### a def called there: the error stands pinned -/
theorem fn_runP {CX : CXT} {P : Program} {w : World} {K : Fg} {mg : Str → Option Value} {base : Heap} {k : Nat} {f : Addr} {x qual : Str} {params : Arguments} {body : List Stmt} {scope : Scope} {dvs : List V} {kws : List (Str × V)} {fd : FuncData} {N ps : List Str} {p : Addr × Obj} {A : Around} {outer : List Env} {s : Shared} {H : Hp} {args : Args} {us : List Value} {vs : List V} {Q : VK} {E : XK}
    (F : FunD K x qual params body scope dvs kws f fd) (S : FnScope N ps scope) (hr : L2H.RoomH (k + 1) A) (hpin : L2H.PinOk outer H s p) (e0 : Env0 P w K mg base A outer s H) (hb : BindsTo s fd args (ps.zip us)) (r : Vals vs us) (hl : vs.length = ps.length)
    (hbody : ∀ cdv : Value, L2H.RoomH k (A.deeper (envOfC qual scope s.heap.objs.size f cdv)) → ∃ t, PSs (L2H.cxH CX P w K mg base N qual scope f cdv A outer s H E p) body t ∧ t { nx := fun _ H' => Q .non H', rt := Q } (L2.start N vs) H) :
    codeAny (model P w) A (.call (.ref f) args) (CR CX outer P w H s Q E) s := by
  obtain ⟨oc, od, dV, kV, doc, pm, an, cdv, ct, osl, rfl, lk, hcd, _, _⟩ := F.ex
  have KX : K.In s.heap := e0.mod.kin.keeps fun b o e => (e0.bs b o e).1
  have lim : s.heap.NoLimit := e0.mod.nolimit.keeps fun b o e => (e0.bs b o e).1
  have hkind : ∀ y ∈ ps.zip us, scope.names.lookup y.1 = some .local ∨ (scope.names.lookup y.1 = some .cell ∧ ((cellsFrom (s.heap.objs.size + 1) scope.names []).lookup y.1).isSome = true) := fun ⟨n, v⟩ hy => by
    rcases S.par n (List.of_mem_zip hy).1 with q | q
    · exact .inl q
    · exact .inr ⟨q, PySem.W.cellsFrom_some _ _ _ (.inl q)⟩
  refine codeAny_call_function hr.depth (KX _ _ lk) rfl S.co S.gen rfl (PySem.W.codeRec_of KX hcd) (hb _ _ _ _ ?_)
  refine wpAny_newFunctionEnv_cells S.kind hkind fun env he s1 x => ?_
  subst he
  refine ⟨lim.keeps x.toInCall.keep, codeAny_func ?_⟩
  obtain ⟨t, ht, hq⟩ := hbody cdv (hr.deeper _)
  have I : Inv (L2H.cxH CX P w K mg base N qual scope f cdv A outer s H E p) [] (L2.start N vs) H s1 := L2H.inv_startH S hpin e0 hl r x
  refine wpAny_mono (ht.run [] s1 (L2.start N vs) H _ I hq) (fun fl s' hs => ?_) fun e s' hs => hs
  have fin : ∀ {σ' : L2.St} {H' : Hp} {v : V} {u : Value}, Inv (L2H.cxH CX P w K mg base N qual scope f cdv A outer s H E p) [] σ' H' s' → RelV v u → Q v H' → CE outer P w H s Q u s' :=
    fun {σ' H' v u} J rv q => ⟨v, H', J.os, J.bare, J.base, J.hok, rv, q⟩
  cases fl with
  | ret u =>
    obtain ⟨v, σ', H', J, rv, q⟩ := hs
    exact fin J rv q
  | next =>
    obtain ⟨σ', H', J, q⟩ := hs
    exact fin (v := V.non) (u := Value.none) J rfl q
  | brk =>
    obtain ⟨_, _, _, q⟩ := hs
    exact False.elim q
  | cont =>
    obtain ⟨_, _, _, q⟩ := hs
    exact False.elim q
def tCallP (n : Nat) (N : List Str) (tbody : TS) (ta : TA) : TE := fun σ H Q => ta σ H fun vs H1 => vs.length = n ∧ tbody { nx := fun _ H' => Q .non H', rt := Q } (L2.start N vs) H1
section
variable {X : Cx} {f : Addr} {fd : FuncData} {x qual : Str} {params : Arguments} {body : List Stmt} {scope : Scope} {dvs : List V} {kws : List (Str × V)} {N ps : List Str} {p : Addr × Obj} {q pos : Pos} {e : Expr} {es : List Expr} {t : TA} {k : Nat} {tbody : TS}
theorem pe_callP (F : FunD X.K x qual params body scope dvs kws f fd) (S : FnScope N ps scope) (hr : L2H.RoomH (k + 1) X.A) (hp : p ∈ X.pn) (hg : Gl X x) (hm : X.mg x = some (.ref f)) (hb : Binds X.K fd ps [])
    (hB : ∀ (cdv : Value) (A : Around) (outer : List Env) (s : Shared) (H : Hp) (E : XK), PSs (L2H.cxH C8.CX0 X.prog X.w X.K X.mg X.base N qual scope f cdv A outer s H E p) body tbody)
    (ha : PA X (e :: es) t) (hdb : (x == ("__debug__" : Str)) = false := by decide) (he : starEach (e :: es) X.env = (false, eval e X.env) :: starEach es X.env := by rfl) (hpl : (backTo pos (starEach es X.env)).any (·.1) = false := by rfl) :
    PE X (.Call (.Name x q) (e :: es) [] pos) (tCallP ps.length N tbody t) := by
  refine ⟨fun pins s σ H Q I h => ?_⟩
  refine wpAny_Call_Name_kw (ld_glob I hg hm ?_ hdb)
  refine PySem.W.callWith_K (h₀ := X.base) I.ok.mod.kin F.kp (thn (ha.run pos pins s σ H _ I h) fun us s1 ⟨vs, H1, I1, r, hl, q⟩ => ⟨I1.kIn, ?_⟩) he hpl
  have hlu : us.length = ps.length := by rw [← r.length]; exact hl
  have b := hb s1 us I1.kIn (by rw [List.append_nil]; exact hlu)
  rw [List.append_nil] at b
  have P1 := I1.pin p (List.mem_append_left _ hp)
  have hpin : L2H.PinOk X.stack H1 s1 p := ⟨P1.1, P1.2.1, fun hm => (List.mem_cons.mp (I1.stkSub p.1 hm)).elim P1.2.2.1 P1.2.2.2.1, P1.2.2.2.2⟩
  refine wpAny_call (codeAny_mono (fn_runP (CX := C8.CX0) (E := C8.E0) (p := p) F S hr hpin I1.env0 b r hl fun cdv hr' => ⟨tbody, hB cdv _ _ _ _ _, q⟩) fun r s' hq => ?_)
  cases r with
  | error e => exact (show False from hq).elim
  | ok fl =>
    cases fl with
    | ret u => exact I1.after hq
    | next => exact False.elim hq
    | brk => exact False.elim hq
    | cont => exact False.elim hq
end
end DL
/-! DF4 -/
set_option Elab.async false
set_option linter.all false
set_option maxRecDepth 100000
set_option maxHeartbeats 4000000
/-! _law_field, _law_why, a lambda handed to it. -/
namespace DL
open PySem PySem.Spec PyProof.Rows L2
variable [TabC]
/-! ### _law_field -/
def inAny (c : Str) (l : List Str) : Bool := l.any fun z => decide (z = c)
abbrev l1 : List Str := ["InvalidPlaces", "InvalidTurns", "InvalidRows", "InvalidCommand"]
abbrev l2 : List Str := ["InvalidNumber", "InvalidTable", "InvalidKind", "InvalidText", "InvalidSign", "InvalidLimit"]
abbrev l3 : List Str := ["InvalidName", "DuplicateName", "UnknownName", "WrongSort"]
abbrev l4 : List Str := ["InvalidLine", "InvalidPage"]
abbrev sTM : Str := "TooMany"
abbrev sIU : Str := "InUse"
abbrev sFu : Str := "Full"
abbrev sWK : Str := "WrongKind"
abbrev n_at : Str := "at"
abbrev n_gi : Str := "given"
abbrev n_na : Str := "name"
abbrev n_li : Str := "line"
abbrev n_mo : Str := "most"
abbrev n_su : Str := "subject"
abbrev n_us : Str := "users"
abbrev n_lm : Str := "limit"
abbrev n_wo : Str := "word"
def fieldNames (c : Str) : List Str :=
  if inAny c l1 = true then [n_at] else if inAny c l2 = true then [n_gi] else if inAny c l3 = true then [n_na] else if inAny c l4 = true then [n_li]
  else if decide (c = sTM) = true then [n_mo, n_su] else if decide (c = sIU) = true then [n_na, n_us] else if decide (c = sFu) = true then [n_lm] else if decide (c = sWK) = true then [n_wo] else []
def tStrs : List Str → TA
  | [] => tNil
  | s :: r => tCons (tC (.str s)) (tStrs r)
section
variable (K : Fg) (a : Addr) (cls : Value) (d : Option Addr)
abbrev tF (n : Str) : TE := tXfA K a cls d n (tVar 0)
abbrev tIn1 (l : List Str) : TT := tB (tOp (rIn K false) (tF K a cls d cdS) (tTup (tStrs l)))
abbrev tEq1 (c : Str) : TT := tB (tOp rEq (tF K a cls d cdS) (tC (.str c)))
abbrev tR1 (n : Str) : TS := tRet (tTup (tCons (tF K a cls d n) tNil))
abbrev tR2 (n m : Str) : TS := tRet (tTup (tCons (tF K a cls d n) (tCons (tF K a cls d m) tNil)))
def tField : TS :=
  tSeq (tIfS (tIn1 K a cls d l1) (tR1 K a cls d n_at) tNext)
  (tSeq (tIfS (tIn1 K a cls d l2) (tR1 K a cls d n_gi) tNext)
  (tSeq (tIfS (tIn1 K a cls d l3) (tR1 K a cls d n_na) tNext)
  (tSeq (tIfS (tIn1 K a cls d l4) (tR1 K a cls d n_li) tNext)
  (tSeq (tIfS (tEq1 K a cls d sTM) (tR2 K a cls d n_mo n_su) tNext)
  (tSeq (tIfS (tEq1 K a cls d sIU) (tR2 K a cls d n_na n_us) tNext)
  (tSeq (tIfS (tEq1 K a cls d sFu) (tR1 K a cls d n_lm) tNext)
  (tRet (tIf (tEq1 K a cls d sWK) (tTup (tCons (tF K a cls d n_wo) tNil)) (tTup tNil)))))))))
end
theorem strs_read {σ : L2.St} {H : Hp} : ∀ {l : List Str} {Q : List V → Hp → Prop}, Q (l.map V.str) H → tStrs l σ H Q
  | [], Q, q => q
  | s :: r, Q, q => strs_read (l := r) (Q := fun vs H' => Q (V.str s :: vs) H') q
theorem inV_strs (c : Str) : ∀ l : List Str, (l.map V.str).all flatV = true ∧ inV (.str c) (l.map V.str) = inAny c l
  | [] => ⟨rfl, rfl⟩
  | s :: r => by
    obtain ⟨h1, h2⟩ := inV_strs c r
    refine ⟨by rw [List.map_cons, List.all_cons, h1]; rfl, ?_⟩
    have h2' : (r.map V.str).any (fun y => eqV y (.str c)) = inAny c r := h2
    show ((s :: r).map V.str).any (fun y => eqV y (.str c)) = _
    unfold inAny at h2' ⊢
    rw [List.map_cons, List.any_cons, List.any_cons, h2']
    rfl
section
variable {K : Fg} {a C dd : Addr} {fs : List (Str × V)} {H : Hp} {code : Str} {D : Ends}
structure Cau (K : Fg) (C dd : Addr) (fs : List (Str × V)) (code : Str) (H : Hp) : Prop where
  T : XfC K C
  no : ∀ n ∈ cdS :: fieldNames code, PySem.W.findIn K (.ref C) n = some none
  at_ : H dd = some (.xd fs)
  co : fs.lookup cdS = some (.str code)
theorem Cau.ext {H' : Hp} (c : Cau K C dd fs code H) (e : ∀ a o, H a = some o → H' a = some o) : Cau K C dd fs code H' := ⟨c.T, c.no, e _ _ c.at_, c.co⟩
theorem f_read {n : Str} {v : V} {Q : VK} (c : Cau K C dd fs code H) (hn : n ∈ cdS :: fieldNames code) (hv : fs.lookup n = some v) (q : Q v H) : tF K a (.ref C) (some dd) n [some (.ref a)] H Q :=
  ⟨.ref a, rfl, rfl, C, rfl, c.T, c.no n hn, dd, fs, v, rfl, c.at_, hv, q⟩
theorem in_read {l : List Str} {Q : Bool → Hp → Prop} (c : Cau K C dd fs code H) (hl : l.length ≤ 1000) (q : ∀ H', (∀ a o, H a = some o → H' a = some o) → Q (inAny code l) H') : tIn1 K a (.ref C) (some dd) l [some (.ref a)] H Q := by
  refine f_read (a := a) (Q := fun x H1 => tTup (tStrs l) [some (.ref a)] H1 fun y H2 => rIn K false x y H2 fun x H1 => ∃ c, x = .bl c ∧ Q c H1) c List.mem_cons_self c.co ?_
  refine strs_read ⟨by rw [List.length_map]; exact le_line hl, fun p hp => ?_⟩
  obtain ⟨h1, h2⟩ := inV_strs code l
  refine ⟨p, l.map V.str, rfl, .inr (.inl (.inl upd_same)), rfl, h1, _, rfl, ?_⟩
  show Q (inV (.str code) (l.map V.str)) _
  rw [h2]
  exact q _ fun a o h => by rw [upd_ne (ne_of_none h hp)]; exact h
theorem eq_read {s : Str} {Q : Bool → Hp → Prop} (c : Cau K C dd fs code H) (q : Q (decide (code = s)) H) : tEq1 K a (.ref C) (some dd) s [some (.ref a)] H Q := by
  refine f_read (a := a) (Q := fun x H1 => rEq x (.str s) H1 fun x H1 => ∃ c, x = .bl c ∧ Q c H1) c List.mem_cons_self c.co ?_
  refine ⟨rfl, _, rfl, ?_⟩
  have e : decide (V.str code = V.str s) = decide (code = s) := by simp
  rw [e]; exact q
def lk {α : Type} (fs : List (Str × α)) (n : Str) : Option α := fs.lookup n
/-- the fields told, in a new tuple -/
def Told (fs : List (Str × V)) (ns : List Str) (H : Hp) (Q : VK) : Prop := ∃ vs, ns.mapM (lk fs) = some vs ∧ ∀ H' p, (∀ a o, H a = some o → H' a = some o) → H' p = none → Q (.ref p) (upd H' p (.tup vs))
theorem mapM1 {n : Str} {vs : List V} (h : [n].mapM (lk fs) = some vs) : ∃ v, fs.lookup n = some v ∧ vs = [v] := by
  cases e : fs.lookup n with
  | none => simp [List.mapM_cons, lk, e] at h
  | some v => simp [List.mapM_cons, lk, e] at h; exact ⟨v, rfl, h.symm⟩
theorem mapM2 {n m : Str} {vs : List V} (h : [n, m].mapM (lk fs) = some vs) : ∃ v w, fs.lookup n = some v ∧ fs.lookup m = some w ∧ vs = [v, w] := by
  cases e : fs.lookup n with
  | none => simp [List.mapM_cons, lk, e] at h
  | some v =>
    cases e2 : fs.lookup m with
    | none => simp [List.mapM_cons, lk, e, e2] at h
    | some w => simp [List.mapM_cons, lk, e, e2] at h; exact ⟨v, w, rfl, rfl, h.symm⟩
theorem r1_read {n : Str} (c : Cau K C dd fs code H) (e : fieldNames code = [n]) (t : Told fs [n] H D.rt) : tR1 K a (.ref C) (some dd) n D [some (.ref a)] H := by
  obtain ⟨vs, hv, q⟩ := t
  obtain ⟨v, h, rfl⟩ := mapM1 hv
  show tF K a (.ref C) (some dd) n [some (.ref a)] H _
  refine f_read c (by rw [e]; simp) h ?_
  exact ⟨by show 1 ≤ sizeLine; decide, fun p hp => q H p (fun _ _ z => z) hp⟩
theorem r2_read {n m : Str} (c : Cau K C dd fs code H) (e : fieldNames code = [n, m]) (t : Told fs [n, m] H D.rt) : tR2 K a (.ref C) (some dd) n m D [some (.ref a)] H := by
  obtain ⟨vs, hv, q⟩ := t
  obtain ⟨v, w, h, h2, rfl⟩ := mapM2 hv
  refine f_read (a := a) (n := n) (Q := fun v H1 => tF K a (.ref C) (some dd) m [some (.ref a)] H1 fun w H2 => [v, w].length ≤ sizeLine ∧ ∀ p, H2 p = none → D.rt (.ref p) (upd H2 p (.tup [v, w]))) c (by rw [e]; simp) h ?_
  refine f_read c (by rw [e]; simp) h2 ?_
  exact ⟨by show 2 ≤ sizeLine; decide, fun p hp => q H p (fun _ _ z => z) hp⟩
theorem Told.ext {ns : List Str} {H' : Hp} {Q : VK} (t : Told fs ns H Q) (e : ∀ a o, H a = some o → H' a = some o) : Told fs ns H' Q := by
  obtain ⟨vs, h, q⟩ := t
  exact ⟨vs, h, fun H2 p k hp => q H2 p (fun a o z => k a o (e a o z)) hp⟩
theorem field_read (c : Cau K C dd fs code H) (t : Told fs (fieldNames code) H D.rt) : tField K a (.ref C) (some dd) D [some (.ref a)] H := by
  refine in_read c (by decide) fun H1 e1 => iteQ (fun h => ?_) (fun n1 => ?_)
  · have e : fieldNames code = [n_at] := by unfold fieldNames; rw [if_pos h]
    exact r1_read (c.ext e1) e (by rw [e] at t; exact t.ext e1)
  have c := c.ext e1
  have t := t.ext e1
  refine in_read c (by decide) fun H1 e1 => iteQ (fun h => ?_) (fun n2 => ?_)
  · have e : fieldNames code = [n_gi] := by unfold fieldNames; rw [if_neg (by rw [n1]; decide), if_pos h]
    exact r1_read (c.ext e1) e (by rw [e] at t; exact t.ext e1)
  have c := c.ext e1
  have t := t.ext e1
  refine in_read c (by decide) fun H1 e1 => iteQ (fun h => ?_) (fun n3 => ?_)
  · have e : fieldNames code = [n_na] := by unfold fieldNames; rw [if_neg (by rw [n1]; decide), if_neg (by rw [n2]; decide), if_pos h]
    exact r1_read (c.ext e1) e (by rw [e] at t; exact t.ext e1)
  have c := c.ext e1
  have t := t.ext e1
  refine in_read c (by decide) fun H1 e1 => iteQ (fun h => ?_) (fun n4 => ?_)
  · have e : fieldNames code = [n_li] := by unfold fieldNames; rw [if_neg (by rw [n1]; decide), if_neg (by rw [n2]; decide), if_neg (by rw [n3]; decide), if_pos h]
    exact r1_read (c.ext e1) e (by rw [e] at t; exact t.ext e1)
  have c := c.ext e1
  have t := t.ext e1
  have base : fieldNames code = if decide (code = sTM) = true then [n_mo, n_su] else if decide (code = sIU) = true then [n_na, n_us] else if decide (code = sFu) = true then [n_lm] else if decide (code = sWK) = true then [n_wo] else [] := by
    unfold fieldNames; rw [if_neg (by rw [n1]; decide), if_neg (by rw [n2]; decide), if_neg (by rw [n3]; decide), if_neg (by rw [n4]; decide)]
  refine eq_read c (iteQ (fun h => ?_) (fun n5 => ?_))
  · have e : fieldNames code = [n_mo, n_su] := by rw [base, if_pos h]
    exact r2_read c e (by rw [e] at t; exact t)
  refine eq_read c (iteQ (fun h => ?_) (fun n6 => ?_))
  · have e : fieldNames code = [n_na, n_us] := by rw [base, if_neg (by rw [n5]; decide), if_pos h]
    exact r2_read c e (by rw [e] at t; exact t)
  refine eq_read c (iteQ (fun h => ?_) (fun n7 => ?_))
  · have e : fieldNames code = [n_lm] := by rw [base, if_neg (by rw [n5]; decide), if_neg (by rw [n6]; decide), if_pos h]
    exact r1_read c e (by rw [e] at t; exact t)
  refine eq_read c (iteQ (fun h => ?_) (fun n8 => ?_))
  · have e : fieldNames code = [n_wo] := by rw [base, if_neg (by rw [n5]; decide), if_neg (by rw [n6]; decide), if_neg (by rw [n7]; decide), if_pos h]
    exact r1_read c e (by rw [e] at t; exact t)
  · have e : fieldNames code = [] := by rw [base, if_neg (by rw [n5]; decide), if_neg (by rw [n6]; decide), if_neg (by rw [n7]; decide), if_neg (by rw [n8]; decide)]
    rw [e] at t
    obtain ⟨vs, hv, q⟩ := t
    simp at hv
    subst hv
    exact ⟨by show 0 ≤ sizeLine; decide, fun p hp => q H1 p (fun _ _ z => z) hp⟩
end
end DL
/-! DF5 -/
set_option Elab.async false
set_option linter.all false
set_option maxRecDepth 100000
set_option maxHeartbeats 4000000
/-! _law_why(lambda: ..), as data. -/
namespace DL
open PySem PySem.Spec PyProof.Rows L2
variable [TabC]
/-! ### the error as data -/
theorem lk_zip {K : Fg} {b : Option Addr} {H : Hp} {n : Str} {d : D} : ∀ {ns : List Str} {ds : List D} {vs : List V}, Reps K b H ds vs → lk (ns.zip ds) n = some d → ∃ v, lk (ns.zip vs) n = some v ∧ Rep K b H d v
  | [], _, _, _, h => by simp [lk] at h
  | m :: ns, [], _, r, h => by simp [lk] at h
  | m :: ns, d' :: ds, vs, r, h => by
    obtain ⟨v, q, rfl, h1, h2⟩ := r.of_cons
    unfold lk at h ⊢
    rw [List.zip_cons_cons, lookup_cons'] at h ⊢
    by_cases e : n = m
    · rw [if_pos e] at h ⊢
      cases h
      exact ⟨v, rfl, h1⟩
    · rw [if_neg e] at h ⊢
      exact lk_zip h2 h
where
  lookup_cons' {α : Type} {n m : Str} {x : α} {l : List (Str × α)} : ((m, x) :: l).lookup n = if n = m then some x else l.lookup n := by
    by_cases e : n = m
    · subst e; simp [List.lookup]
    · have : (n == m) = false := by simpa using e
      simp [List.lookup, this, e]
theorem lks_zip {K : Fg} {b : Option Addr} {H : Hp} {ns : List Str} {ds : List D} {vs : List V} (r : Reps K b H ds vs) : ∀ {ms : List Str} {es : List D}, ms.mapM (lk (ns.zip ds)) = some es → ∃ us, ms.mapM (lk (ns.zip vs)) = some us ∧ Reps K b H es us
  | [], es, h => by
    simp at h
    subst h
    exact ⟨[], by simp, Reps.nil⟩
  | m :: ms, es, h => by
    cases e : lk (ns.zip ds) m with
    | none => simp [List.mapM_cons, e] at h
    | some d =>
      cases e2 : ms.mapM (lk (ns.zip ds)) with
      | none => simp [List.mapM_cons, e, e2] at h
      | some es2 =>
        simp [List.mapM_cons, e, e2] at h
        subst h
        obtain ⟨v, h1, h2⟩ := lk_zip r e
        obtain ⟨us, h3, h4⟩ := lks_zip r e2
        exact ⟨v :: us, by simp [List.mapM_cons, h1, h3], Reps.cons h2 h4⟩
/-- the code and the fields that are told of an error -/
def whyX (x : XD) : Option (Str × List D) := match lk (x.ns.zip x.ds) cdS with
  | some (.str code) => (match (fieldNames code).mapM (lk (x.ns.zip x.ds)) with | some es => some (code, es) | none => none)
  | _ => none
def whyOk (errs : List Str) (x : XD) (k : D → Prop) : Prop := x.c ∈ errs ∧ match whyX x with
  | some (code, es) => k (.tup [.str code, .tup es])
  | none => False
def shO : SD → SD
  | .sh d => .sh d
  | _ => .unset
def shOnly : StD → StD
  | [] => []
  | s :: r => shO s :: shOnly r
theorem shOnly_len : ∀ σ : StD, (shOnly σ).length = σ.length
  | [] => rfl
  | s :: r => by simp [shOnly, shOnly_len r]
theorem shOnly_look : ∀ (σ : StD) (i : Nat), look (shOnly σ) i = match look σ i with | .sh d => .sh d | _ => .unset
  | [], _ => rfl
  | s :: r, 0 => by cases s <;> rfl
  | s :: r, i + 1 => by cases s <;> exact shOnly_look r i
/-- what the written part says of the errors' classes -/
structure ErrsOk (K : Fg) (errs : List Str) (c1 c2 c3 : Value) : Prop where
  xf : ∀ c ∈ errs, XfC K (He.ga K c)
  ex : ∀ c ∈ errs, PySem.W.exmAny K (.ref (He.ga K c)) [c1, c2, c3] = some true
  no : ∀ c ∈ errs, ∀ n ∈ [cdS, n_at, n_gi, n_na, n_li, n_mo, n_su, n_us, n_lm, n_wo], PySem.W.findIn K (.ref (He.ga K c)) n = some none
theorem fieldNames_in (c : Str) : ∀ n ∈ cdS :: fieldNames c, n ∈ [cdS, n_at, n_gi, n_na, n_li, n_mo, n_su, n_us, n_lm, n_wo] := by
  intro n hn
  rcases List.mem_cons.mp hn with rfl | hn
  · simp
  · unfold fieldNames at hn
    split at hn
    · simp at hn; subst hn; simp
    split at hn
    · simp at hn; subst hn; simp
    split at hn
    · simp at hn; subst hn; simp
    split at hn
    · simp at hn; subst hn; simp
    split at hn
    · simp at hn; rcases hn with rfl | rfl <;> simp
    split at hn
    · simp at hn; rcases hn with rfl | rfl <;> simp
    split at hn
    · simp at hn; subst hn; simp
    split at hn
    · simp at hn; subst hn; simp
    · simp at hn
/-! ### the body of _law_why -/
abbrev whyB (a n fl x1 x2 x3 : Str) (j k1 k2 k3 : Nat) (p1 p2 p3 p4 p5 q1 q2 q3 q4 r1 r2 r3 r4 r5 r6 r7 r8 p8 : Pos) : List Stmt :=
  [.Try [.Return (some (.Tuple [.Constant (.str "told") j p1, .Call (.Name a p2) [] [] p3] k1 p4)) p5]
    [.ExceptHandler (some (.Tuple [.Name x1 q1, .Name x2 q2, .Name x3 q3] k2 q4)) (some n) [.Return (some (.Tuple [.Attribute (.Name n r1) "code" r2, .Call (.Name fl r3) [.Name n r4] [] r5] k3 r6)) r7] r8] [] [] p8]
abbrev tellS : Str := "told"
/-- what is wished of an error that the question lets out -/
def CauW (K : Fg) (c1 c2 c3 : Value) (Q : VK) : XK := fun cls d H => PySem.W.exmAny K cls [c1, c2, c3] = some true ∧ ∃ (C dd : Addr) (fs : List (Str × V)) (code : Str), cls = .ref C ∧ d = some dd ∧ Cau K C dd fs code H ∧
  Told fs (fieldNames code) H fun v H' => ∀ p, H' p = none → Q (.ref p) (upd H' p (.tup [.str code, v]))
def TTwhy (K : Fg) (c1 c2 c3 : Value) : (XK → Hp → VK → Prop) → Hp → VK → Prop := fun tl H Q => tl (CauW K c1 c2 c3 Q) H fun v H' => 2 ≤ sizeLine ∧ ∀ p, H' p = none → Q (.ref p) (upd H' p (.tup [.str tellS, v]))
section
variable {X : Cx} {H : Hp} {s : Shared} {f c' g : Addr} {q x : Str} {cdg : Value} {sg : Scope}
theorem why_run {a n fl x1 x2 x3 : Str} {j k1 k2 k3 : Nat} {p1 p2 p3 p4 p5 q1 q2 q3 q4 r1 r2 r3 r4 r5 r6 r7 r8 p8 : Pos} {c1 c2 c3 : Value} {k : Nat} {fF : Addr} {fdF : FuncData} {pf : Arguments} {bf : List Stmt} {sf : Scope} {pe : Str} {Q : VK} {tl : XK → Hp → VK → Prop}
    (hN : ([a, n] : List Str).Nodup) (hln : sg.names.lookup n = some .local) (n1 : Names (cxOf C8.CX0 X.prog X.w X.K X.mg X.base [a, n] x sg g cdg X.A X.stack s H C8.E0) x1 c1) (n2 : Names (cxOf C8.CX0 X.prog X.w X.K X.mg X.base [a, n] x sg g cdg X.A X.stack s H C8.E0) x2 c2) (n3 : Names (cxOf C8.CX0 X.prog X.w X.K X.mg X.base [a, n] x sg g cdg X.A X.stack s H C8.E0) x3 c3)
    (hr : Room (k + 1) (X.A.deeper (envOfC x sg s.heap.objs.size g cdg))) (FF : FunD X.K fl fl pf bf sf [] [] fF fdF) (SF : FnScope [pe] [pe] sf) (hgf : sg.names.lookup fl = some .globalImplicit) (hmf : X.mg fl = some (.ref fF)) (hbf : Binds X.K fdF [pe] [])
    (hB : ∀ (a : Addr) (oe : Obj) (cls : Value) (d : Option Addr), Zc cls d oe → (∃ vs, oe.data = .fields vs) → ∀ (cdv : Value) (A : Around) (outer : List Env) (s : Shared) (H : Hp) (E : XK), PSs (L2H.cxH C8.CX0 X.prog X.w X.K X.mg X.base [pe] fl sf fF cdv A outer s H E (a, oe)) bf (tField X.K a cls d))
    (act : ∀ (W : WX) (pn : List (Addr × Obj)) (xe : Value → Shared → Prop) (E : XK) (p1 p2 : Pos), Takes ((cxOf C8.CX0 X.prog X.w X.K X.mg X.base [a, n] x sg g cdg X.A X.stack s H C8.E0).tr pn xe) W → (∀ cls d σ' H', E cls d H' → W cls d σ' H') →
      PE ((cxOf C8.CX0 X.prog X.w X.K X.mg X.base [a, n] x sg g cdg X.A X.stack s H C8.E0).tr pn xe) (.Call (.Name a p1) [] [] p2) (fun σZ HZ Q => σZ[0]? = some (some (.ref f)) ∧ HZ c' = some (LamX.CodeO c' q) ∧ tl E HZ Q))
    (hc : H c' = some (LamX.CodeO c' q)) (h : TTwhy X.K c1 c2 c3 tl H Q) (hdf : (fl == ("__debug__" : Str)) = false := by decide) (hd : (n == ("__debug__" : Str)) = false := by decide) (hcd : (n == ("__classdict__" : Str)) = false := by decide) :
    ∃ t, PSs (cxOf C8.CX0 X.prog X.w X.K X.mg X.base [a, n] x sg g cdg X.A X.stack s H C8.E0).nox (whyB a n fl x1 x2 x3 j k1 k2 k3 p1 p2 p3 p4 p5 q1 q2 q3 q4 r1 r2 r3 r4 r5 r6 r7 r8 p8) t ∧ t { nx := fun _ H' => Q .non H', rt := Q } (L2.start [a, n] [.ref f]) H := by
  have hv : Vis sg n := .inl hln
  refine ⟨_, pss_one (ps_try_as3 (X := (cxOf C8.CX0 X.prog X.w X.K X.mg X.base [a, n] x sg g cdg X.A X.stack s H C8.E0).nox) (i := 1)
      (tb := fun W D σ H => ∃ Ech : XK, (∀ cls d σ' H', Ech cls d H' → W cls d σ' H') ∧ σ[0]? = some (some (.ref f)) ∧ H c' = some (LamX.CodeO c' q) ∧ tl Ech H fun v H' => 2 ≤ sizeLine ∧ ∀ p, H' p = none → D.rt (.ref p) (upd H' p (.tup [.str tellS, v])))
      (ts := fun a' cls d => tRet (tTup (tCons (tXfA X.K a' cls d cdS (tVar 1)) (tCons (tCallP 1 [pe] (tField X.K a' cls d) (tCons (tVar 1) tNil)) tNil))))
      rfl rfl hN rfl hln n1 n2 n3 LamX.takes0 (fun W pn xe tk _ => ?_) (fun a' oe cls d pn hz hf => ?_)), ?_⟩
  · refine ⟨fun pins s' σ H' D I h' => ?_⟩
    obtain ⟨Ech, hW, h1, h2, h3⟩ := h'
    have hp := act W pn xe Ech p2 p3 tk hW
    have hq := pss_one (ps_ret (pos := p5) (pe_tup (x1 := k1) (pos := p4) (pa_cons (pe_str (x := tellS) (j := j) (pos := p1)) (pa_cons hp pa_nil rfl) rfl)))
    exact hq.run pins s' σ H' D I ⟨h1, h2, h3⟩
  · refine pss_one (ps_ret (pe_tup (pa_cons ?_ (pa_cons ?_ pa_nil rfl) rfl)))
    · exact pe_xfA (a := a') (oe := oe) List.mem_cons_self hz hf (pe_var (i := 1) rfl hv hd hcd)
    · exact pe_callP (X := (cxOf C8.CX0 X.prog X.w X.K X.mg X.base [a, n] x sg g cdg X.A X.stack s H C8.E0).nox.suite a' ((a', oe) :: pn)) (p := (a', oe)) FF SF ⟨hr.dp, hr.un⟩ List.mem_cons_self hgf hmf hbf (fun cdv A outer s H E => hB a' oe cls d hz hf cdv A outer s H E) (pa_cons (pe_var (i := 1) rfl hv hd hcd) pa_nil rfl) hdf rfl rfl
  · refine ⟨CauW X.K c1 c2 c3 Q, fun cls d σ' H' hE => ?_, rfl, hc, h⟩
    obtain ⟨he, C, dd, fs, code, rfl, rfl, cau, t⟩ := hE
    refine ⟨true, he, fun _ a' na hlen => ?_, fun z => by cases z⟩
    have hlen : σ'.length = 2 := hlen
    have g1 : (σ'.set 1 (some (V.ref a')))[1]? = some (some (V.ref a')) := List.getElem?_set_self (by omega)
    refine ⟨.ref a', g1, rfl, C, rfl, cau.T, cau.no _ List.mem_cons_self, dd, fs, .str code, rfl, cau.at_, cau.co, ?_⟩
    refine ⟨.ref a', g1, rfl, ?_⟩
    refine field_read cau ?_
    obtain ⟨vs, h1, h2⟩ := t
    exact ⟨vs, h1, fun H2 p2 e2 hp2 => ⟨by show 2 ≤ sizeLine; decide, fun p hp => h2 H2 p2 e2 hp2 p hp⟩⟩
end
/-! ### _law_why(lambda: body) -/
theorem Rst.shOnly {K : Fg} {b : Option Addr} {H0 H : Hp} {σd : StD} {σ : L2.St} {O : List Addr} (R : Rst K b H0 σd σ H O) : Rst K b (hide O H) (DL.shOnly σd) σ (hide O H) [] where
  len := by rw [shOnly_len]; exact R.len
  slot := fun i => by
    have s := R.slot i
    rw [shOnly_look]
    cases e : look σd i with
    | sh d =>
      rw [e] at s
      obtain ⟨v, e1, r⟩ := s
      exact ⟨v, e1, by rw [hide_nil]; exact r⟩
    | _ => trivial
  uniq := fun i j a h _ => by
    rw [shOnly_look] at h
    cases e : look σd i <;> rw [e] at h <;> exact h.elim
  nb := fun a m => by cases m
  le := by rw [hide_nil]; exact .refl _
  bg := by rw [hide_nil]; exact R.bg
end DL
/-! DF6 -/
set_option Elab.async false
set_option linter.all false
set_option maxRecDepth 100000
set_option maxHeartbeats 4000000
/-! Keyword calls, built-ins of more operands, the law's start and end. -/
namespace DL
open PySem PySem.Spec PyProof.Rows L2
variable [TabC]
theorem cz_none {X : Cx} {b : Option Addr} {H0 : Hp} : Cz X b H0 (fun _ _ _ => False) (fun _ => False) := ⟨fun pins σ H s e s' I c => by
  obtain ⟨_, _, _, _, _, _, _, _, _, _, _, _, q⟩ := c
  exact q.elim, fun x cls d H' h => h.elim⟩
/-! ### f(k = e, ..) -/
structure DK (b : Option Addr) (H0 : Hp) (X : Cx) (kws : List Keyword) (g : GA) : Prop where
  pk : PK X kws (LA X.K b H0 g)
  mn : Mn g
section
variable {X : Cx} {b : Option Addr} {H0 : Hp} {e : Expr} {ge : GE} {g ga : GA} {kws : List Keyword} {nm : Option Str} {kpos p pos : Pos}
theorem dk_nil : DK b H0 X [] gNil := ⟨⟨fun pos pins s σ H Q I ⟨σd, O, R, q⟩ => pk_nil.run pos pins s σ H Q I (q [] H (.refl H) Reps.nil)⟩, fun σ k k' i q => i _ q⟩
theorem dk_cons (A : DE b H0 X e ge) (B : DK b H0 X kws g) : DK b H0 X (⟨nm, e, kpos⟩ :: kws) (gCons ge g) := by
  refine ⟨⟨fun pos pins s σ H Q I ⟨σd, O, R, q⟩ => (pk_cons A.pe B.pk).run pos pins s σ H Q I ?_⟩, gCons_mn A.mn B.mn⟩
  refine ⟨σd, O, R, A.mn _ _ _ (fun x hx v H1 x1 r1 => ?_) q⟩
  exact ⟨σd, O, R.mono x1, B.mn _ _ _ (fun y hy vs H2 x2 r2 => hy (v :: vs) H2 (x1.trans x2) (Reps.cons (r1.mono (x2.1.hide O)) r2)) hx⟩
/-- only keywords, each parameter named once: perm puts the values in the parameters' order -/
def gCallK (s : GS) (perm : {α : Type} → List α → List α) (eo : XD → Prop) (ga : GA) : GE := fun σ k => ga σ fun ds => s (perm ds) k eo
/-! ### built-ins of more operands -/
structure ClN (K : Fg) (b : Option Addr) (r : List V → Hp → VK → Prop) (rd : List D → (D → Prop) → Prop) : Prop where
  mn : ∀ x (k k' : D → Prop), (∀ d, k d → k' d) → rd x k → rd x k'
  ok : ∀ (O : List Addr) (H : Hp) (dx : List D) (x : List V) (Q : VK), Fresh b O H → Reps K b H dx x → rd dx (fun d => ∀ v H', Ext b H H' → Rep K b (hide O H') d v → Q v H') → r x H Q
def gCl (rd : List D → (D → Prop) → Prop) (ga : GA) : GE := fun σ k => ga σ fun ds => rd ds k
theorem clN_run {r : List V → Hp → VK → Prop} {rd : List D → (D → Prop) → Prop} {es : List Expr} (o : ClN X.K b r rd) (A : DAT b H0 X es ga) {σ : L2.St} {H : Hp} {Q : VK} (h : LE X.K b H0 (gCl rd ga) σ H Q) : tCB r (LAT X.K b H0 ga) σ H Q := by
  obtain ⟨σd, O, R, q⟩ := h
  refine ⟨σd, O, R, A.mn _ _ _ (fun x hx v1 H1 x1 r1 => ?_) q⟩
  exact o.ok O H1 x v1 Q (fun p hp => (R.mono x1).free hp) r1 (o.mn _ _ _ (fun d kd v H' x3 r3 => kd v H' (x1.trans x3) r3) hx)
theorem de_callBN {id : String} {r : List V → Hp → VK → Prop} {rd : List D → (D → Prop) → Prop} {es : List Expr} {x : Str} (hc : CallR X (.builtin id) r) (o : ClN X.K b r rd) (hg : Gl X x) (hm : X.mg x = some (.builtin id)) (A : DAT b H0 X (e :: es) ga) (hdb : (x == ("__debug__" : Str)) = false := by decide)
    (he : starEach (e :: es) X.env = (false, eval e X.env) :: starEach es X.env := by rfl) (hpl : (backTo pos (starEach es X.env)).any (·.1) = false := by rfl) : DE b H0 X (.Call (.Name x p) (e :: es) [] pos) (gCl rd ga) :=
  ⟨pe_imp (pe_callBfun hc hg hm A.pa hdb he hpl) fun σ H Q h => clN_run o A h, fun σ k k' i q => A.mn _ _ _ (fun ds z => o.mn _ _ _ i z) q⟩
def dGcd : List D → (D → Prop) → Prop := fun ds k => match ds with
  | [.int i, .int j] => k (.int ((Nat.gcd i.natAbs j.natAbs : Nat) : Int))
  | _ => False
theorem cl_gcd {K : Fg} : ClN K b rGcd dGcd := by
  refine ⟨fun x k k' i q => ?_, fun O H dx x Q F r q => ?_⟩
  · unfold dGcd at q ⊢
    split at q
    · exact i _ q
    · exact q.elim
  · unfold dGcd at q
    split at q
    · obtain ⟨v, w, rfl, r1, r2⟩ := r.of_cons
      obtain ⟨v2, w2, rfl, r3, r4⟩ := r2.of_cons
      rw [r4.of_nil]
      cases r1.int; cases r3.int
      exact ⟨_, _, rfl, q _ H (.refl H) rfl⟩
    · exact q.elim
end
/-! ### the law: the bag is made, the rest is read as data -/
section
variable {X : Cx} {st : Stmt} {sts : List Stmt}
def tBagged (K : Fg) (g : GSt) : TS := fun D σ H => ∃ (b : Option Addr) (H0 : Hp), LamX.Tabs TabC.T H0 ∧ LS K b H0 g D σ H
theorem pss_bagged {g : GSt} (h : ∀ (b : Option Addr) (H0 : Hp), LamX.Tabs TabC.T H0 → DSs b H0 X sts g) : PSs X sts (tBagged X.K g) := ⟨fun pins s σ H D I ⟨b, H0, hT, q⟩ => (h b H0 hT).ps.run pins s σ H D I q⟩
/-- the state behind the making of the bag: slot 1 holds it -/
theorem rst_bag {K : Fg} {a c p : Addr} {H : Hp} {ms : List Int} {m : Int} {n : Nat} (hc : c ≠ p) (h1 : H c = some (.lst (ms.map V.int))) (h2 : H p = some (.lst [.ref c, .int 0, .int 0, .int m])) :
    Rst K (some p) H (.unset :: .sh .bag :: List.replicate n .unset) ((L2.start ([] : List Str) [V.ref a]) ++ [some (V.ref p)] ++ List.replicate n none) H [] where
  len := by simp [L2.start]
  slot := fun i => by
    cases i with
    | zero => trivial
    | succ i =>
      cases i with
      | zero => exact ⟨.ref p, rfl, by simp only [Rep]; exact ⟨p, rfl, rfl⟩⟩
      | succ i =>
        show SlotOk K (some p) [] H (look (List.replicate n SD.unset) i) _
        rw [look_rep]; trivial
  uniq := fun i j a' g _ => by
    cases i with
    | zero => exact g.elim
    | succ i =>
      cases i with
      | zero => exact g.elim
      | succ i =>
        have g : Owns (look (List.replicate n SD.unset) i) _ a' := g
        rw [look_rep] at g; exact g.elim
  nb := fun a m => by cases m
  le := by rw [hide_nil]; exact .refl H
  bg := by
    rw [hide_nil]
    intro p' e
    cases e
    exact ⟨c, 0, 0, m, ms, h2, hc, h1, by decide⟩
/-- what the law is asked: any list of ints -/
def spLaw (K : Fg) : Sp := fun vs H Q _ => ∃ (a : Addr) (ns : List Int), vs = [.ref a] ∧ SqL K H a (ns.map V.int) ∧ ns.length ≤ 1000000 ∧ LamX.Tabs TabC.T H ∧ ∀ H', Q (.bl true) H'
abbrev tBagCall (K : Fg) : TS := tAsg (tCall (spBag K) [] C8.E0 (tCons (tVar 0) tNil)) (gName 1)
theorem law_read {K : Fg} {vs : List V} {H : Hp} {Q : VK} {E : XK} {g : GSt} {N : List Str} (hN : 2 ≤ N.length) (h : spLaw K vs H Q E) (m : MnD g) (r : g (fin fun d => d = .bl true) (.unset :: .sh .bag :: List.replicate (N.length - 2) .unset)) :
    tSeq (tBagCall K) (tBagged K g) { nx := fun _ H' => Q .non H', rt := Q } (L2.start N vs) H := by
  obtain ⟨a, ns, rfl, hs, hl, hT, q⟩ := h
  have es : ∀ x : Option V, (L2.start N [V.ref a]).set 1 x = (L2.start ([] : List Str) [V.ref a]) ++ [x] ++ List.replicate (N.length - 2) none := fun x => by
    obtain ⟨n, hn⟩ : ∃ n, N.length = n + 2 := ⟨N.length - 2, by omega⟩
    have e1 : L2.start N [V.ref a] = some (V.ref a) :: none :: List.replicate n none := by
      unfold L2.start
      rw [show N.length - [V.ref a].length = n + 1 by simp [hn]]
      rfl
    rw [e1, hn]
    rfl
  refine ⟨.ref a, rfl, a, ns, rfl, hs, hl, fun c p H' ms m' kp hc hp ne h1 h2 => ?_⟩
  show tBagged K g _ ((L2.start N [V.ref a]).set 1 (some (.ref p))) H'
  rw [es]
  refine ⟨some p, H', hT.ext kp, _, [], rst_bag ne h1 h2, m (fin _) _ _ (fun σ z => ?_) (fun d z v H2 x2 r2 => ?_) (fun σ z => z.elim) (fun σ z => z.elim) r⟩
  · cases z
  · subst z
    cases r2.bl
    exact q H2
end
/-! ### the end -/
theorem walk_ofX {l : PySem.W.OpenLaw} {n k : Nat} {q : Program} {loose : List Str} {XP : (Str → Option Value) → Heap → Prop} {YP : World → Heap → Prop} {d : DefRec} {CX : World → CXT} {x : Str}
    (hn : l.most = some n) (hn2 : n ≤ sizeLine) (hdf : d.params.defaults = []) (hr : Room k callerA)
    (F : ∀ (w : World) (mg : Str → Option Value) (fa : Addr) (h : Heap), YP w h → h.Ns mainGlobals mg → mg d.name = some (.ref fa) → ∃ K : Fg, K.In h ∧ LamX.LawAtS l w K (CX w) k n x mg fa h)
    (hCX : ∀ (w : World) (H : Hp) (s : Shared) (e : Value) (s' : Shared), CX w [] H s (fun _ _ _ => False) e s' → False) :
    PySem.W.WalkO q loose XP YP l.row.toRowW d [] (fun f vs => PySem.call f vs) := by
  refine Att.attach_callB hn hdf fun w s₀ s₁ mg mb fa o pm cd doc a vs ns G Y ho hd hcd hmg hobj hints hlen hbits hg => ?_
  obtain ⟨K, KX, fd, cs, sp, hT, nT, C, hb, hsp, hF⟩ := F w mg fa _ Y G.T.g hmg
  exact LamX.law_callTs KX G.T.g G.T.b G.T.builtins G.T.nolimit hg hT nT C G.T.bmain hobj hints (Nat.le_trans hlen hn2) hr hF hb (fun H hH hS => hsp H a ns hlen hbits hH hS) fun H e s' => hCX w H s₁ e s'
end DL
/-! DF7 -/
set_option Elab.async false
set_option linter.all false
set_option maxRecDepth 100000
set_option maxHeartbeats 4000000
/-! Operations of several kinds at once; what is told of the written part. -/
namespace DL
open PySem PySem.Spec PyProof.Rows L2
variable [TabC]
/-! ### + of ints, texts, lists -/
def dAddA : D → D → (D → Prop) → Prop := fun x y k => match x, y with
  | .int i, .int j => k (.int (i + j))
  | .str i, .str j => i.length + j.length ≤ 1000000 ∧ k (.str (i ++ j))
  | .lst i, .lst j => i.length + j.length ≤ 1000000 ∧ k (.lst (i ++ j))
  | _, _ => False
section
variable {X : Cx} {b : Option Addr} {H0 : Hp} {a c e : Expr} {ga gb ge : GE} {pos : Pos}
/-! ### in -/
def dInA (neg : Bool) : D → D → (D → Prop) → Prop := fun x y k => match y with
  | .str z => (match x with | .str s => ∃ c, s = ⟨#[c]⟩ ∧ k (.bl (if neg then !decide (c ∈ z.cps.toList) else decide (c ∈ z.cps.toList))) | _ => False)
  | .lst ds => bif flatD x && ds.all flatD then k (.bl (if neg then !(ds.any fun z => eqF z x) else ds.any fun z => eqF z x)) else dInD neg x (.lst ds) k
  | .tup ds => (flatD x && ds.all flatD) = true ∧ k (.bl (if neg then !(ds.any fun z => eqF z x) else ds.any fun z => eqF z x))
  | _ => False
theorem dInA_mn (neg : Bool) : ∀ x y (k k' : D → Prop), (∀ d, k d → k' d) → dInA neg x y k → dInA neg x y k' := by
  intro x y k k' i q
  cases y with
  | str z => cases x <;> first | (obtain ⟨c, e, q⟩ := q; exact ⟨c, e, i _ q⟩) | exact q.elim
  | lst ds =>
    simp only [dInA] at q ⊢
    cases h : (flatD x && ds.all flatD) <;> rw [h] at q
    · exact dInD_mn neg _ _ _ _ i q
    · exact i _ q
  | tup ds => exact ⟨q.1, i _ q.2⟩
  | _ => exact q.elim
theorem op2_inA : Op2 X.K b (fun x y H Q => (rIn X.K false x y H Q ∨ rInD X.K x y H Q) ∨ ∃ (c : Nat) (z : Str), x = .str ⟨#[c]⟩ ∧ y = .str z ∧ Q (.bl (decide (c ∈ z.cps.toList))) H) (dInA false) := by
  refine ⟨dInA_mn false, fun O H dx dy x y Q F r1 r2 q => ?_⟩
  cases dy with
  | str z => cases dx <;> first | (obtain ⟨c, e, q⟩ := q; subst e; exact .inr ⟨c, _, r1.str, r2.str, q _ H (.refl H) rfl⟩) | exact q.elim
  | lst ds =>
    simp only [dInA] at q
    cases h : (flatD dx && ds.all flatD) <;> rw [h] at q
    · exact .inl (.inr (inD_ok r1 r2 q))
    · obtain ⟨h1, h2⟩ := Bool.and_eq_true_iff.mp h
      exact .inl (.inl ((op2_in (X := X) (b := b) false).ok O H _ (.lst ds) x y Q F r1 r2 ⟨h1, h2, q⟩))
  | tup ds =>
    obtain ⟨h1, h2⟩ := Bool.and_eq_true_iff.mp q.1
    exact .inl (.inl ((op2_in (X := X) (b := b) false).ok O H _ (.tup ds) x y Q F r1 r2 ⟨h1, h2, q.2⟩))
  | _ => exact q.elim
theorem de_inA {k : Nat} (hr : Room (k + 1) X.A) (A : DT b H0 X a ga) (B : DT b H0 X c gb) (hm : behindInMarks .In c = false := by rfl) : DE b H0 X (.Compare a [.In] [c] pos) (g2 (dInA false) ga gb) := de_cmp ((op_in_seq.or (op_inD (un65 hr))).or op_in_sign) op2_inA A B hm
/-! ### the written part -/
def fdOf (K : Fg) (a : Addr) : FuncData := match K.lookup a with
  | some ⟨_, _, .func fd, _⟩ => fd
  | _ => default
theorem funD_of {K : Fg} {x qual : Str} {params : Arguments} {body : List Stmt} {scope : Scope} {dvs : List V} {kws : List (Str × V)} {f : Addr} (h : ∃ fd, FunD K x qual params body scope dvs kws f fd) : FunD K x qual params body scope dvs kws f (fdOf K f) := by
  obtain ⟨fd, F⟩ := h
  have e : fdOf K f = fd := by
    obtain ⟨oc, od, dV, kV, doc, pm, an, cdv, ct, osl, _, lk, _⟩ := F.ex
    unfold fdOf
    rw [lk]
  rw [e]; exact F
def oexB (K : Fg) (b : EB) (C : Addr) : Bool := (match K.lookup C with
  | some ⟨.type "type", _, .cls cd, sl⟩ => (match cd.mro, sl.toList with
    | .ref C' :: bm, [_, _, _, _, some (.builtin n), _] => C' == C && (n == b.new && (!cd.hasDel && (cd.hasDict && PySem.W.excTail b.tail bm)))
    | _, _ => false)
  | _ => false) && (decide (PySem.W.findIn K (.ref C) "__setattr__" = some (some (.builtin "object.__setattr__"))) && (decide (PySem.W.subIn K (.ref C) (.type "BaseException") = some true) && (decide (PySem.W.typeIn K (.ref C) = some (.type "type")) && PySem.W.keepIn K (.ref C))))
theorem oexB_ok {K : Fg} {b : EB} {C : Addr} (h : oexB K b C = true) : OexE K b C := by
  unfold oexB at h
  obtain ⟨h1, h⟩ := Bool.and_eq_true_iff.mp h
  obtain ⟨h2, h⟩ := Bool.and_eq_true_iff.mp h
  obtain ⟨h3, h⟩ := Bool.and_eq_true_iff.mp h
  obtain ⟨h4, h5⟩ := Bool.and_eq_true_iff.mp h
  refine ⟨?_, of_decide_eq_true h2, of_decide_eq_true h3, of_decide_eq_true h4, h5⟩
  clear h2 h3 h4 h5
  split at h1
  · rename_i dd cd sl ho
    split at h1
    · rename_i C' bm k0 k1 k2 k3 n k5 hm hs
      simp only [Bool.and_eq_true, beq_iff_eq, Bool.not_eq_true'] at h1
      obtain ⟨e1, e2, e3, e4, e5⟩ := h1
      subst e1 e2
      obtain ⟨nm, bs, mro, ns, qn, hd, sn, sb, ab, col, del⟩ := cd
      simp only at hm e3 e4
      subst hm e3 e4
      obtain ⟨sl⟩ := sl
      simp only at hs
      subst hs
      exact ⟨nm, qn, ns, bs, bm, sn, sb, ab, col, dd, k0, k1, k2, k3, k5, ho, e5⟩
    · cases h1
  · cases h1
def baseB (K : Fg) (b : EB) (S : Addr) : Bool := decide (PySem.W.specialIn K (.ref S) "__getattribute__" = some (some (.builtin "type.__getattribute__"))) && (PySem.W.readsIn K S (.type "type") && (match PySem.W.findCls K (.ref S) (.type "type") "__init__" with | some (.val (.builtin n)) => n == b.init | _ => false))
theorem baseB_ok {K : Fg} {b : EB} {S : Addr} (h : baseB K b S = true) : BaseOk K b S := by
  obtain ⟨h1, h⟩ := Bool.and_eq_true_iff.mp h
  obtain ⟨h2, h3⟩ := Bool.and_eq_true_iff.mp h
  refine ⟨of_decide_eq_true h1, h2, ?_⟩
  split at h3
  · rename_i n e
    rw [e, beq_iff_eq.mp h3]
  · cases h3
def ownB (K : Fg) (c : Str) : Bool := decide (PySem.W.findIn K (.ref (He.ga K c)) "__class__" = some (some (.builtin "object.__class__"))) && (decide (PySem.W.specialIn K (.builtin "object.__class__") "__get__" = some (some (.builtin "getset_descriptor.__get__"))) && (decide (PySem.W.takesIn K (.builtin "object.__class__") = some true) && (decide (PySem.W.mroIn K (He.ga K c) (.type "object") = some true) && (He.Fa.cls c).ok K)))
theorem ownB_ok {K : Fg} {c : Str} (h : ownB K c = true) : OwnOk K c := by
  obtain ⟨h1, h⟩ := Bool.and_eq_true_iff.mp h
  obtain ⟨h2, h⟩ := Bool.and_eq_true_iff.mp h
  obtain ⟨h3, h⟩ := Bool.and_eq_true_iff.mp h
  obtain ⟨h4, h5⟩ := Bool.and_eq_true_iff.mp h
  exact ⟨He.cls_ok h5, of_decide_eq_true h1, of_decide_eq_true h2, of_decide_eq_true h3, of_decide_eq_true h4⟩
def tgs : List Tg := [.non, .bl, .int, .str, .tup, .lst, .dic]
theorem tgs_all (T : Tg) : T ∈ tgs := by cases T <;> simp [tgs]
def clsB (K : Fg) (cls : List Str) (sub : Str → Str → Bool) : Bool := cls.all fun c => ownB K c && ((cls.all fun C => decide (PySem.W.kitOne K (.ref (He.ga K c)) (.ref (He.ga K C)) = some (sub c C))) && ((tgs.all fun T => decide (PySem.W.kitOne K (.ref (He.ga K c)) (.type T.nm) = some false)) && tgs.all fun T => decide (PySem.W.kitOne K (.type T.nm) (.ref (He.ga K c)) = some false)))
theorem clsB_ok {K : Fg} {cls : List Str} {sub : Str → Str → Bool} (h : clsB K cls sub = true) : ClsOk K cls sub := by
  have key := List.all_eq_true.mp h
  refine ⟨fun c hc => ownB_ok (Bool.and_eq_true_iff.mp (key c hc)).1, fun c hc C hC => ?_, fun c hc T => ?_, fun T c hc => ?_⟩
  · exact of_decide_eq_true (List.all_eq_true.mp (Bool.and_eq_true_iff.mp (Bool.and_eq_true_iff.mp (key c hc)).2).1 C hC)
  · exact of_decide_eq_true (List.all_eq_true.mp (Bool.and_eq_true_iff.mp (Bool.and_eq_true_iff.mp (Bool.and_eq_true_iff.mp (key c hc)).2).2).1 T (tgs_all T))
  · exact of_decide_eq_true (List.all_eq_true.mp (Bool.and_eq_true_iff.mp (Bool.and_eq_true_iff.mp (Bool.and_eq_true_iff.mp (key c hc)).2).2).2 T (tgs_all T))
abbrev errNames : List Str := [cdS, n_at, n_gi, n_na, n_li, n_mo, n_su, n_us, n_lm, n_wo]
def errsB (K : Fg) (errs : List Str) (c1 c2 c3 : Str) : Bool := errs.all fun c => xfB K (He.ga K c) && (decide (PySem.W.exmAny K (.ref (He.ga K c)) [.ref (He.ga K c1), .ref (He.ga K c2), .ref (He.ga K c3)] = some true) && errNames.all fun n => decide (PySem.W.findIn K (.ref (He.ga K c)) n = some none))
theorem errsB_ok {K : Fg} {errs : List Str} {c1 c2 c3 : Str} (h : errsB K errs c1 c2 c3 = true) : ErrsOk K errs (.ref (He.ga K c1)) (.ref (He.ga K c2)) (.ref (He.ga K c3)) := by
  have key := List.all_eq_true.mp h
  refine ⟨fun c hc => xfB_ok (Bool.and_eq_true_iff.mp (key c hc)).1, fun c hc => of_decide_eq_true (Bool.and_eq_true_iff.mp (Bool.and_eq_true_iff.mp (key c hc)).2).1, fun c hc n hn => ?_⟩
  exact of_decide_eq_true (List.all_eq_true.mp (Bool.and_eq_true_iff.mp (Bool.and_eq_true_iff.mp (key c hc)).2).2 n hn)
/-- an own error's class: its __init__ at the class's own -/
def errB (K : Fg) (b : EB) (c : Str) (flds : List Str) : Bool := oexB K b (He.ga K c) && ((cdS :: flds).all (fun f => decide (PySem.W.findIn K (.ref (He.ga K c)) f = some none)) && (decide (PySem.W.findIn K (.ref (He.ga K c)) "__init__" = some (some (.ref (He.ma K (He.ga K c) "__init__")))) && decide (PySem.W.typeIn K (.ref (He.ma K (He.ga K c) "__init__")) = some (.type "function"))))
theorem errB_ok {K : Fg} {b : EB} {c : Str} {flds : List Str} (h : errB K b c flds = true) : ErrK K b c (He.ma K (He.ga K c) "__init__") flds := by
  obtain ⟨h1, h⟩ := Bool.and_eq_true_iff.mp h
  obtain ⟨h2, h⟩ := Bool.and_eq_true_iff.mp h
  obtain ⟨h3, h4⟩ := Bool.and_eq_true_iff.mp h
  exact ⟨⟨oexB_ok h1, fun f hf => of_decide_eq_true (List.all_eq_true.mp h2 f hf)⟩, of_decide_eq_true h3, of_decide_eq_true h4⟩
/-- a name bound to a built-in of a module -/
def bltB (K : Fg) (x : Str) (id : String) : Bool := decide (PySem.W.nsIn K mainGlobals x = some (some (.builtin id)))
theorem bltB_ok {K : Fg} {h : Heap} {mg : Str → Option Value} {x : Str} {id : String} (X : K.In h) (G : h.Ns mainGlobals mg) (c : bltB K x id = true) : mg x = some (.builtin id) := PySem.W.mg_of X G (of_decide_eq_true c)
theorem all_at {l : List Bool} (h : l.all id = true) (i : Nat) {x : Bool} (e : l[i]? = some x) : x = true := List.all_eq_true.mp h x (List.mem_of_getElem? e)
end
end DL
/-! ### the Hook, the statics' dict in it -/
/-! DH1 -/
set_option Elab.async false
set_option linter.all false
set_option maxRecDepth 100000
set_option maxHeartbeats 4000000
/-! operators that an own class defines -/
namespace DL
open PySem PySem.Spec PyProof.Rows L2
variable [TabC]
/-- the special m of the class at C is the def at f -/
structure Own (K : Fg) (C : Addr) (m : Str) (f : Addr) : Prop where
  find : PySem.W.findIn K (.ref C) m = some (some (.ref f))
  fn : PySem.W.isFn K (.ref f) = true
def gOwn1 (c : Str) (s : GS) (eo : XD → Prop) (ga : GE) : GE := fun σ k => ga σ fun d => match d with
  | .ins c' ns ds => c' = c ∧ s [.ins c' ns ds] k eo
  | _ => False
section
variable {X : Cx} {b : Option Addr} {H0 : Hp} {E : XK} {eo : XD → Prop} {s : GS} {k : Nat} {f : Addr} {fd : FuncData} {ps : List Str} {c : Str} {pos : Pos} {a e : Expr} {ga gb : GE}
/-- what the written part says of an operator's def at f -/
structure OwnB (K : Fg) (C : Addr) (op : Operator) (f : Addr) : Prop where
  find : PySem.W.findIn K (.ref C) (PySem.dunder op.info.2) = some (some (.ref f))
  fn : PySem.W.isFn K (.ref f) = true
  first : PySem.W.selfFirst K C = true
  refl : ∃ rc, PySem.W.findIn K (.ref C) (PySem.dunderR op.info.2) = some rc ∧ (rc = none ∨ ∃ g : Addr, rc = some (.ref g))
  int : ∃ fo ro, PySem.W.findIn K (.type "int") (PySem.dunder op.info.2) = some fo ∧ PySem.W.findIn K (.type "int") (PySem.dunderR op.info.2) = some ro
  sub : PySem.W.subIn K (.type "int") (.ref C) = some false
theorem cmpBack_of {X : Cx} {pins : List (Addr × Obj)} {σ : L2.St} {Q : VK} {v : Value} {s' : Shared} (h : EP X pins σ Q v s') : PySem.W.CmpBack (EP X pins σ Q) v s' := by
  obtain ⟨x, H', I, r, q⟩ := id h
  cases v <;> first | exact h | (exfalso; cases x <;> simp [L2.RelV] at r)
/-- x op y, x of the class c, y of c too or an int -/
def gOwn2 (c : Str) (s : GS) (eo : XD → Prop) (ga gb : GE) : GE := fun σ k => ga σ fun x => gb σ fun y => match x, y with
  | .ins c' ns ds, .ins c2 ns2 ds2 => c' = c ∧ c2 = c ∧ s [.ins c' ns ds, .ins c2 ns2 ds2] k eo
  | .ins c' ns ds, .int i => c' = c ∧ s [.ins c' ns ds, .int i] k eo
  | _, _ => False
theorem gOwn2_mn (ms : MnS s) (A : Mn ga) (B : Mn gb) : Mn (gOwn2 c s eo ga gb) := fun σ k k' i q => A _ _ _ (fun x z => B _ _ _ (fun y w => by
  cases x with
  | ins c' ns ds => cases y with
    | ins c2 ns2 ds2 => exact ⟨w.1, w.2.1, ms _ _ _ _ _ i (fun _ w => w) w.2.2⟩
    | int j => exact ⟨w.1, ms _ _ _ _ _ i (fun _ w => w) w.2⟩
    | _ => exact w.elim
  | _ => exact w.elim) z) q
theorem de_binO {op : Operator} (A : DE b H0 X a ga) (B : DE b H0 X e gb) (o : OwnB X.K (He.ga X.K c) op f) (F : FnOk X.prog X.w X.K X.mg X.base (L2.CX X.prog X.w) k f fd ps (lift X.K s)) (ms : MnS s) (hr : Room k X.A) (hb : Binds X.K fd ps []) (Z : Cz X b H0 E eo) :
    DE b H0 X (.BinOp a op e pos) (gOwn2 c s eo ga gb) := by
  refine ⟨⟨fun pins s0 σ H Q I ⟨σd, O, R, q⟩ => ?_⟩, gOwn2_mn ms A.mn B.mn⟩
  refine wpAny_BinOp (binT (R := fun x y H2 => ∃ a dx fs d1 d2, x = .ref a ∧ H2 a = some (.ins (He.ga X.K c) dx fs) ∧ ((∃ i, y = .int i) ∨ ∃ a2 dx2 fs2, y = .ref a2 ∧ H2 a2 = some (.ins (He.ga X.K c) dx2 fs2)) ∧ Rst X.K b H0 σd σ H2 O ∧ Reps X.K b (hide O H2) [d1, d2] [x, y] ∧ s [d1, d2] (fun d => ∀ v H3, Ext b H2 H3 → Rep X.K b (hide O H3) d v → Q v H3) eo) A.pe B.pe I
    ⟨σd, O, R, A.mn _ _ _ (fun x hx v1 H1 x1 r1 => ⟨σd, O, R.mono x1, B.mn _ _ _ (fun y hy v2 H2 x2 r2 => ?_) hx⟩) q⟩ fun u1 u2 s2 x y H2 I2 rx ry ⟨a, dx, fs, d1, d2, ex, ea, ey, R2, rs, q2⟩ => ?_)
  · have rr : Reps X.K b (hide O H2) [x, y] [v1, v2] := Reps.cons (r1.mono (x2.1.hide O)) (Reps.cons r2 Reps.nil)
    have r1' := r1.mono (x2.1.hide O)
    cases x with
    | ins c' ns ds =>
      cases y with
      | ins c2 ns2 ds2 =>
        obtain ⟨e1, e2, z⟩ := hy
        subst e1 e2
        obtain ⟨a, dx, vs, rfl, n, h, l, _⟩ := r1'.ins
        obtain ⟨a2, dx2, vs2, rfl, n2, h2, l2, _⟩ := r2.ins
        exact ⟨a, dx, _, _, _, rfl, (of_hide h).2, .inr ⟨a2, dx2, _, rfl, (of_hide h2).2⟩, R.mono (x1.trans x2), rr, ms _ _ _ _ _ (fun d w v H3 x3 r3 => w v H3 (x1.trans (x2.trans x3)) r3) (fun _ w => w) z⟩
      | int i =>
        obtain ⟨e1, z⟩ := hy
        subst e1
        obtain ⟨a, dx, vs, rfl, n, h, l, _⟩ := r1'.ins
        exact ⟨a, dx, _, _, _, rfl, (of_hide h).2, .inl ⟨i, r2.int⟩, R.mono (x1.trans x2), rr, ms _ _ _ _ _ (fun d w v H3 x3 r3 => w v H3 (x1.trans (x2.trans x3)) r3) (fun _ w => w) z⟩
      | _ => exact hy.elim
    | _ => exact hy.elim
  · subst ex
    obtain rfl : u1 = Value.ref a := rx
    obtain ⟨mA, J, _⟩ := ins_get I2.hok ea
    obtain ⟨od, J, _⟩ := J.look
    obtain ⟨m, hF⟩ := I2.fr
    have run : wpAny (model X.prog X.w) X.A (call (.ref f) [.ref a, u2]) (EP X pins σ Q) X.xe s2 := run_fnD (us := [.ref a, u2]) (vs := [.ref a, y]) (dd := []) (dvs := []) (dus := []) F ms hr hb .nil (fun _ _ => Reps.nil) Z I2 (.cons rfl (.cons ry .nil)) R2 rs q2
    have run' := wpAny_mono run (fun v s' h => cmpBack_of h) fun _ _ h => h
    rcases ey with ⟨i, ey⟩ | ⟨a2, dx2, fs2, ey, ea2⟩
    · subst ey
      obtain ⟨t, rfl⟩ : ∃ t, u2 = Value.int i t := ry
      obtain ⟨rc, h1, h2⟩ := o.refl
      obtain ⟨fo, ro, h3, h4⟩ := o.int
      exact PySem.W.ksp_binT hF I2.ok.mod.kin J rfl o.first o.find o.fn h1 h2 h3 h4 o.sub run'
    · subst ey
      obtain rfl : u2 = Value.ref a2 := ry
      obtain ⟨mB, J2, _⟩ := ins_get I2.hok ea2
      obtain ⟨od2, J2, _⟩ := J2.look
      exact PySem.W.binop_K hF I2.ok.mod.kin J J2.type o.first o.find o.fn run'
/-- x == y by the own __eq__ of x's class; y of that class too -/
def gOwnQ (c : Str) (s : GS) (eo : XD → Prop) (ga gb : GE) : GE := fun σ k => ga σ fun x => gb σ fun y => match x, y with
  | .ins c' ns ds, .ins c2 ns2 ds2 => c' = c ∧ c2 = c ∧ s [.ins c' ns ds, .ins c2 ns2 ds2] k eo
  | _, _ => False
theorem gOwnQ_mn (ms : MnS s) (A : Mn ga) (B : Mn gb) : Mn (gOwnQ c s eo ga gb) := fun σ k k' i q => A _ _ _ (fun x z => B _ _ _ (fun y w => by
  cases x with
  | ins c' ns ds => cases y with
    | ins c2 ns2 ds2 => exact ⟨w.1, w.2.1, ms _ _ _ _ _ i (fun _ w => w) w.2.2⟩
    | _ => exact w.elim
  | _ => exact w.elim) z) q
/-- a comparison, as data -/
structure DCm (b : Option Addr) (H0 : Hp) (X : Cx) (op : CmpOp) (a e : Expr) (g : GE) : Prop where
  pc : PC X op a e (LE X.K b H0 g)
  mn : Mn g
theorem DCm.de {op : CmpOp} {g : GE} (h : DCm b H0 X op a e g) (hm : behindInMarks op e = false := by first | exact nomark _ (by decide) (by decide) | rfl) : DE b H0 X (.Compare a [op] [e] pos) g := ⟨pe_cmp h.pc hm, h.mn⟩
theorem DCm.db {op : CmpOp} {g : GE} (h : DCm b H0 X op a e g) (hm : behindInMarks op e = false := by first | exact nomark _ (by decide) (by decide) | rfl) : DB b H0 X (.Compare a [op] [e] pos) (gB g) :=
  ⟨pt_imp (pt_cmp h.pc hm) fun σ H Q ⟨σd, O, R, q⟩ => ⟨σd, O, R, h.mn _ _ _ (fun d hd v H' x r => by cases d <;> first | exact ⟨_, r, hd H' x⟩ | exact hd.elim) q⟩, gB_mn h.mn⟩
theorem dc_eqO (A : DE b H0 X a ga) (B : DE b H0 X e gb) (o : Own X.K (He.ga X.K c) "__eq__" f) (F : FnOk X.prog X.w X.K X.mg X.base (L2.CX X.prog X.w) k f fd ps (lift X.K s)) (ms : MnS s) (hr : Room k X.A) (hb : Binds X.K fd ps []) (Z : Cz X b H0 E eo) : DCm b H0 X .Eq a e (gOwnQ c s eo ga gb) := by
  refine ⟨⟨fun pins s0 σ H Q I ⟨σd, O, R, q⟩ => ?_⟩, gOwnQ_mn ms A.mn B.mn⟩
  refine (binT (R := fun x y H2 => ∃ a dx fs d1 d2, x = .ref a ∧ H2 a = some (.ins (He.ga X.K c) dx fs) ∧ (∃ a2 dx2 fs2, y = .ref a2 ∧ H2 a2 = some (.ins (He.ga X.K c) dx2 fs2)) ∧ Rst X.K b H0 σd σ H2 O ∧ Reps X.K b (hide O H2) [d1, d2] [x, y] ∧ s [d1, d2] (fun d => ∀ v H3, Ext b H2 H3 → Rep X.K b (hide O H3) d v → Q v H3) eo) A.pe B.pe I
    ⟨σd, O, R, A.mn _ _ _ (fun x hx v1 H1 x1 r1 => ⟨σd, O, R.mono x1, B.mn _ _ _ (fun y hy v2 H2 x2 r2 => ?_) hx⟩) q⟩ fun u1 u2 s2 x y H2 I2 rx ry ⟨a, dx, fs, d1, d2, ex, ea, ey, R2, rs, q2⟩ => ?_)
  · have rr : Reps X.K b (hide O H2) [x, y] [v1, v2] := Reps.cons (r1.mono (x2.1.hide O)) (Reps.cons r2 Reps.nil)
    have r1' := r1.mono (x2.1.hide O)
    cases x with
    | ins c' ns ds =>
      cases y with
      | ins c2 ns2 ds2 =>
        obtain ⟨e1, e2, z⟩ := hy
        subst e1 e2
        obtain ⟨a, dx, vs, rfl, n, h, l, _⟩ := r1'.ins
        obtain ⟨a2, dx2, vs2, rfl, n2, h2, l2, _⟩ := r2.ins
        exact ⟨a, dx, _, _, _, rfl, (of_hide h).2, ⟨a2, dx2, _, rfl, (of_hide h2).2⟩, R.mono (x1.trans x2), rr, ms _ _ _ _ _ (fun d w v H3 x3 r3 => w v H3 (x1.trans (x2.trans x3)) r3) (fun _ w => w) z⟩
      | _ => exact hy.elim
    | _ => exact hy.elim
  · subst ex
    obtain rfl : u1 = Value.ref a := rx
    obtain ⟨mA, J, _⟩ := ins_get I2.hok ea
    obtain ⟨od, J, _⟩ := J.look
    obtain ⟨m, hF⟩ := I2.fr
    have run : wpAny (model X.prog X.w) X.A (call (.ref f) [.ref a, u2]) (EP X pins σ Q) X.xe s2 := run_fnD (us := [.ref a, u2]) (vs := [.ref a, y]) (dd := []) (dvs := []) (dus := []) F ms hr hb .nil (fun _ _ => Reps.nil) Z I2 (.cons rfl (.cons ry .nil)) R2 rs q2
    have run' := wpAny_mono run (fun v s' h => cmpBack_of h) fun _ _ h => h
    obtain ⟨a2, dx2, fs2, ey, ea2⟩ := ey
    subst ey
    obtain rfl : u2 = Value.ref a2 := ry
    obtain ⟨mB, J2, _⟩ := ins_get I2.hok ea2
    obtain ⟨od2, J2, _⟩ := J2.look
    show wpAny _ _ (richCompare .Eq (.ref a) (.ref a2)) _ _ _
    exact PySem.W.cmp_K (op := .Eq) (tb := .ref (He.ga X.K c)) hr.units0 hF I2.ok.mod.kin J J2.type (by simp [PySem.W.notFirst]) o.find o.fn run'
end
end DL
/-! DH2 -/
set_option Elab.async false
set_option linter.all false
set_option maxRecDepth 100000
set_option maxHeartbeats 4000000
/-! != of own classes -/
namespace DL
open PySem PySem.Spec PyProof.Rows L2
section
variable {prog : Program} {w : World} {A : Around} {E : Value → Shared → Prop} {s : Shared} {K : PySem.W.Frag} {x C L f : Addr} {h₀ : Heap} {m : Str → Option Value} {ox : Obj} {od : Option Obj} {b tb : Value}
theorem neBody {Q : Fin → Shared → Prop} (hu : A.units < cLine) (X : K.In s.heap) (I : PySem.W.InstAt s.heap x ox C od) (he : PySem.W.findIn K (.ref C) "__eq__" = some (some (.ref f))) (hf : PySem.W.isFn K (.ref f) = true)
    (h : wpAny (model prog w) A (call (.ref f) [.ref x, b]) (fun v s' => ∃ c, v = .bool c ∧ Q (.done (.ret (.bool (!c)))) s') E s) : wpAny (model prog w) A (Builtin.«object.__ne__» ⟨[.ref x, b], []⟩) Q E s := by
  unfold Builtin.«object.__ne__»
  have one : wpAny (model prog w) A (callSpecialIfBound? (.ref x) "__eq__" [b]) (fun r s' => ∃ c, r = some (.bool c) ∧ Q (.done (.ret (.bool (!c)))) s') E s :=
    PySem.W.ifBound_K X I he hf (wpAny_mono h (fun v s' ⟨c, e, q⟩ => ⟨c, by rw [e], q⟩) fun _ _ e => e)
  obtain ⟨hp, g, d, t, os⟩ := s
  repeat (first | with_reducible refine wpAny_cRoomFor hu ?_ | with_reducible refine wpAny_bind (wpAny_mono one (fun r s' z => ?_) fun _ _ e => e) | wp_step)
  obtain ⟨c, rfl, hq⟩ := z
  dsimp only
  refine wpAny_bind (wpAny_truthy_bool ?_)
  exact wpAny_pure hq
theorem ne_K {Q : Value → Shared → Prop} (hu0 : A.units < cLine) (hu : A.in1.units < cLine) (F : PyProof.Rows.Fr h₀ L s.heap m) (X₀ : K.In h₀) (I : PySem.W.InstAt s.heap x ox C od) (hb : PySem.W.Looks (model prog w) s.heap (typeOf b) tb) (hn : PySem.W.notFirst K C tb = true)
    (he : PySem.W.findIn K (.ref C) "__eq__" = some (some (.ref f))) (hne : PySem.W.findIn K (.ref C) "__ne__" = some (some (.builtin "object.__ne__"))) (hf : PySem.W.isFn K (.ref f) = true) (hobj : PySem.W.subIn K (.ref C) (.type "object") = some true)
    (h : wpAny (model prog w) A.in1 (call (.ref f) [.ref x, b]) (fun v s' => ∃ c, v = .bool c ∧ Q (.bool (!c)) s') E s) : wpAny (model prog w) A (richCompare .NotEq (.ref x) b) Q E s := by
  have X := X₀.keeps F.keep
  have one : wpAny (model prog w) A (tryCompare (.ref x) (cmpInfo .NotEq).2.1 b) (fun r s' => ∃ v, r = some v ∧ Q v s') E s := by
    unfold tryCompare
    refine wpAny_bind ?_
    simp only [callSpecialIfBound?, bindSpecialIfBound?]
    refine wpAny_holding (wpAny_bind (wpAny_bind (wpAny_bind (I.type.here ((PySem.W.looks_findIn X hne).here ?_)))))
    simp only [PySem.F.cmp_object.ne.bind]
    have fin : wpAny (model prog w) A (call (.builtin "object.__ne__") ([.ref x] ++ [b]) >>= fun v => pure (some v)) (fun r s' => wpAny (model prog w) A (match r with | some .notImplemented | none => pure none | some v => pure (some v)) (fun r s' => ∃ v, r = some v ∧ Q v s') E s') E s := by
      refine wpAny_bind (wpAny_call (codeAny_call_builtin PySem.F.cmp_object.ne.plain PySem.F.cmpEntry_ne ?_))
      refine PySem.W.check_slot PySem.F.cmpKind_ne PySem.F.cmpSplit_ne (I.type.andThen (PySem.W.looks_subIn X hobj)) (PySem.F.cmpArgs_ne _ _) ?_
      refine neBody hu X I he hf (wpAny_mono h (fun v s' ⟨c, e, q⟩ => ⟨c, e, ?_⟩) fun _ _ e => e)
      exact wpAny_pure (wpAny_pure ⟨_, rfl, q⟩)
    refine wpAny_bind (wpAny_askSetting (wpAny_ite ?_))
    split
    · exact wpAny_bind (wpAny_pure (wpAny_pure fin))
    · exact wpAny_tryCatch (wpAny_bind (wpAny_pure (wpAny_pure fin)))
  unfold richCompare
  simp only [oneThing_ref]
  refine wpAny_holding (wpAny_bind (wpAny_cRoomFor hu0 ?_))
  refine wpAny_bind (I.type.here (wpAny_bind (hb.here ?_)))
  split
  · rename_i q
    have e : PySem.W.subIn K tb (.ref C) = some false := by
      rcases Bool.or_eq_true_iff.mp hn with e | e
      · rw [beq_iff_eq.mp e] at q; simp at q
      · exact beq_iff_eq.mp e
    refine wpAny_bind ((PySem.W.looks_subIn X e).here ?_)
    simp only [Bool.false_eq_true, if_false]
    refine wpAny_bind (wpAny_mono one (fun r s' z => ?_) fun _ _ e => e)
    obtain ⟨v, rfl, hq⟩ := z
    exact wpAny_pure hq
  · refine wpAny_bind (wpAny_pure ?_)
    simp only [Bool.false_eq_true, if_false]
    refine wpAny_bind (wpAny_mono one (fun r s' z => ?_) fun _ _ e => e)
    obtain ⟨v, rfl, hq⟩ := z
    exact wpAny_pure hq
end
end DL
/-! DH3 -/
set_option Elab.async false
set_option linter.all false
set_option maxRecDepth 100000
set_option maxHeartbeats 4000000
/-! a def called from within a builtin; != of own classes as data -/
namespace DL
open PySem PySem.Spec PyProof.Rows L2
variable [TabC]
section
variable {X : Cx} {pins : List (Addr × Obj)} {σ : L2.St} {σd : StD} {H H0 : Hp} {O : List Addr} {s0 : Shared} {b : Option Addr} {E : XK} {eo : XD → Prop} {s : GS} {k : Nat} {f : Addr} {fd : FuncData} {ps : List Str} {Q : VK}
theorem run_fnB {A : Around} {us2 : List Value} {vs2 : List V} {ds2 : List D} (F : FnOk X.prog X.w X.K X.mg X.base (L2.CX X.prog X.w) k f fd ps (lift X.K s)) (ms : MnS s) (hr : Room k A) (hA : A.frames = X.A.frames) (Z : Cz X b H0 E eo)
    (I : Inv X pins σ H s0) (hb : Binds X.K fd ps []) (r2 : Vals vs2 us2) (R : Rst X.K b H0 σd σ H O) (rp : Reps X.K b (hide O H) ds2 vs2) (h : s ds2 (fun d => ∀ v H', Ext b H H' → Rep X.K b (hide O H') d v → Q v H') eo) :
    wpAny (model X.prog X.w) A (call (.ref f) us2) (EP X pins σ Q) X.xe s0 := by
  have hO : ∀ a ∈ O, Hid O H a := fun a m => (R.nb a m).2.2
  have I1 := inv_hide I hO
  have e0 : Env0 X.prog X.w X.K X.mg X.base A X.stack s0 (hide O H) := by
    have e := I1.env0
    exact ⟨by rw [hA]; exact e.frames, e.mod, e.bs, e.bsz, e.funs, e.frf, e.hok, e.bare⟩
  have sp : lift X.K s vs2 (hide O H) (fun v H2 => (∀ a ∈ O, H2 a = none) → Q v (back O H H2)) E := by
    refine ⟨b, ds2, R.bg, rp, ms _ _ _ _ _ (fun d hd v H2 x r0 fr => ?_) (fun x hx cls d H2 x2 xa => ?_) h⟩
    · refine hd v _ (back_ext (fun a m => ⟨(R.nb a m).1, (R.nb a m).2.2⟩) fr x) ?_
      rw [back_hide fr]
      exact r0
    · exact Z.ex x cls d H2 hx (R.le.trans x2) xa
  have hl : us2.length = ps.length := by rw [← r2.length]; exact F.len _ _ _ _ sp
  refine wpAny_call (codeAny_mono (F.run A X.stack s0 (hide O H) ⟨us2, []⟩ us2 vs2 _ E hr e0 (by
    have := hb s0 us2 I1.kIn (by simpa using hl)
    simpa using this) r2 sp) fun r s' hq => ?_)
  cases r with
  | error e => exact Z.pass pins σ (hide O H) s0 e s' I1 hq
  | ok fl =>
    cases fl with
    | ret u =>
      obtain ⟨v, H2, os, bare, un, ok, rv, q⟩ := hq
      obtain ⟨fr, I2⟩ := inv_back I hO os bare un ok
      exact ⟨v, _, I2, rv, q fr⟩
    | next => exact False.elim hq
    | brk => exact False.elim hq
    | cont => exact False.elim hq
end
section
variable {X : Cx} {b : Option Addr} {H0 : Hp} {E : XK} {eo : XD → Prop} {s : GS} {k : Nat} {f : Addr} {fd : FuncData} {ps : List Str} {c : Str} {pos : Pos} {a e : Expr} {ga gb : GE}
/-- x != y: not the own == -/
def gOwnN (c : Str) (s : GS) (eo : XD → Prop) (ga gb : GE) : GE := fun σ k => gOwnQ c s eo ga gb σ fun d => match d with | .bl r => k (.bl (!r)) | _ => False
end
end DL
/-! DH4 -/
set_option Elab.async false
set_option linter.all false
set_option maxRecDepth 100000
set_option maxHeartbeats 4000000
/-! str(x) by the own __str__ -/
namespace DL
open PySem PySem.Spec PyProof.Rows L2
variable [TabC]
section
variable {X : Cx} {b : Option Addr} {H0 : Hp} {E : XK} {eo : XD → Prop} {s : GS} {k : Nat} {f : Addr} {fd : FuncData} {ps : List Str} {c x : Str} {p pos : Pos} {e : Expr} {ga : GE}
def gOwnS (c : Str) (s : GS) (eo : XD → Prop) (ga : GE) : GE := fun σ k => gOwn1 c s eo ga σ fun d => match d with | .str r => k (.str r) | _ => False
end
end DL
/-! DH5 -/
set_option Elab.async false
set_option linter.all false
set_option maxRecDepth 100000
set_option maxHeartbeats 4000000
/-! f-strings -/
namespace DL
open PySem PySem.Spec PyProof.Rows L2
variable [TabC]
def gJs : List GE → Str → GE
  | [], acc, _, k => k (.str acc)
  | g :: gs, acc, σ, k => g σ fun d => match d with
    | .str y => (acc ++ y).length ≤ 1000000 ∧ gJs gs (acc ++ y) σ k
    | _ => False
section
variable {X : Cx} {b : Option Addr} {H0 : Hp} {pos : Pos}
def gFmt (g : GE) : GE := fun σ k => g σ fun d => match d with
  | .str y => y.length ≤ 1000000 ∧ k (.str y)
  | .int i => i.natAbs.log2 < 1920 ∧ k (.str (toString i))
  | _ => False
end
end DL
/-! DH6 -/
set_option Elab.async false
set_option linter.all false
set_option maxRecDepth 100000
set_option maxHeartbeats 4000000
/-! properties of own classes -/
namespace DL
open PySem PySem.Spec PyProof.Rows L2
end DL
/-! DH7 -/
set_option Elab.async false
set_option linter.all false
set_option maxRecDepth 100000
set_option maxHeartbeats 4000000
/-! int * own -/
namespace DL
open PySem PySem.W PySem.Calls PyProof.Rows
end DL
/-! DH8 -/
set_option Elab.async false
set_option linter.all false
set_option maxRecDepth 100000
set_option maxHeartbeats 4000000
namespace DL
open PySem PySem.W PySem.Calls PyProof.Rows
end DL
/-! DI1 -/
set_option Elab.async false
set_option linter.all false
set_option maxRecDepth 100000
set_option maxHeartbeats 4000000
/-! Calls, one rule for each callee: a promise over the values as they are written (positions, stars, keywords, defaults). -/
namespace DL
open PySem PySem.Spec PyProof.Rows L2
variable [TabC]
/-- the items at some places -/
def pick {α : Type} (ix : List Nat) (l : List α) : List α := ix.filterMap fun i => l[i]?
theorem pick_cons {α : Type} (i : Nat) (ix : List Nat) (l : List α) : pick (i :: ix) l = match l[i]? with | some x => x :: pick ix l | none => pick ix l := by
  unfold pick
  rw [List.filterMap_cons]
  cases l[i]? <;> rfl
theorem reps_none {K : Fg} {b : Option Addr} {H : Hp} {ds : List D} {vs : List V} (r : Reps K b H ds vs) {i : Nat} (h : ds[i]? = none) : vs[i]? = none := by
  rw [List.getElem?_eq_none_iff] at h ⊢
  rw [← r.length]; exact h
theorem Reps.pick {K : Fg} {b : Option Addr} {H : Hp} {ds : List D} {vs : List V} (r : Reps K b H ds vs) : ∀ ix : List Nat, Reps K b H (DL.pick ix ds) (DL.pick ix vs)
  | [] => Reps.nil
  | i :: ix => by
    rw [pick_cons, pick_cons]
    cases e : ds[i]? with
    | none => rw [reps_none r e]; exact Reps.pick r ix
    | some d =>
      obtain ⟨v, e2, rv⟩ := r.get e
      rw [e2]
      exact Reps.cons rv (Reps.pick r ix)
theorem vals_get : ∀ {vs : List V} {us : List Value} {i : Nat} {v : V}, Vals vs us → vs[i]? = some v → ∃ u, us[i]? = some u ∧ RelV v u
  | [], _, _, _, .nil, e => by simp at e
  | _ :: _, _, 0, v, .cons a r, e => by
    simp at e; subst e
    exact ⟨_, rfl, a⟩
  | _ :: _, _, i + 1, v, .cons a r, e => by
    obtain ⟨u, e1, e2⟩ := vals_get r (i := i) (by simpa using e)
    exact ⟨u, by simpa using e1, e2⟩
theorem vals_pick {vs : List V} {us : List Value} (r : Vals vs us) : ∀ ix : List Nat, Vals (DL.pick ix vs) (DL.pick ix us)
  | [] => .nil
  | i :: ix => by
    rw [pick_cons, pick_cons]
    cases e : vs[i]? with
    | none =>
      have : us[i]? = none := by
        rw [List.getElem?_eq_none_iff] at e ⊢
        rw [← r.length]; exact e
      rw [this]; exact vals_pick r ix
    | some d =>
      obtain ⟨v, e2, rv⟩ := vals_get r e
      rw [e2]
      exact .cons rv (vals_pick r ix)
/-- f, called with values and the keywords ks: its promise over all values as they stand in the call -/
def FnC (P : Program) (w : World) (K : Fg) (mg : Str → Option Value) (base : Heap) (k : Nat) (f : Addr) (ks : List Str) (sp : Sp) : Prop :=
  ∀ (A : Around) (outer : List Env) (s : Shared) (H : Hp) (us kus : List Value) (vs : List V) (Q : VK) (E : XK), Room k A → Env0 P w K mg base A outer s H → kus.length = ks.length → Vals vs (us ++ kus) → sp vs H Q E →
    codeAny (model P w) A (.call (.ref f) ⟨us, ks.zip kus⟩) (CR (L2.CX P w) outer P w H s Q E) s
section
variable {P : Program} {w : World} {K : Fg} {mg : Str → Option Value} {base : Heap} {k j : Nat} {f : Addr} {fd : FuncData} {ps ks : List Str} {sp sp' : Sp} {s : GS} {dd : List D} {dvs : List V} {dus : List Value}
theorem FnC.mono (F : FnC P w K mg base j f ks sp) (h : j ≤ k) : FnC P w K mg base k f ks sp := fun A outer s H us kus vs Q E hr => F A outer s H us kus vs Q E (hr.mono h)
theorem FnC.imp (F : FnC P w K mg base k f ks sp) (h : ∀ vs H Q E, sp' vs H Q E → sp vs H Q E) : FnC P w K mg base k f ks sp' := fun A outer s H us kus vs Q E hr e0 hk r hs => F A outer s H us kus vs Q E hr e0 hk r (h _ _ _ _ hs)
theorem FnOk.c (F : FnOk P w K mg base (L2.CX P w) k f fd ps sp) (n : Nat) (ks : List Str) (ix : List Nat) (hd : Vals dvs dus)
    (hb : ∀ (s : Shared) (us kus : List Value), K.In s.heap → us.length = n → kus.length = ks.length → BindsTo s fd ⟨us, ks.zip kus⟩ (ps.zip (pick ix (us ++ kus ++ dus)))) :
    FnC P w K mg base k f ks (fun vs H Q E => vs.length = n + ks.length ∧ sp (pick ix (vs ++ dvs)) H Q E) := fun A outer s H us kus vs Q E hr e0 hk r ⟨hl, h⟩ => by
  refine F.run A outer s H ⟨us, ks.zip kus⟩ _ _ Q E hr e0 (hb s us kus (e0.mod.kin.keeps fun b o e => (e0.bs b o e).1) ?_ hk) (vals_pick (r.append hd) ix) h
  have := r.length
  rw [List.length_append] at this
  omega
/-- the shape of a call: n values, put in their places by ix, behind them the defaults -/
def shp (n : Nat) (ix : List Nat) (dd : List D) (s : GS) : GS := fun ds k e => ds.length = n ∧ s (pick ix (ds ++ dd)) k e
theorem shp_mn {n : Nat} {ix : List Nat} {dd : List D} (ms : MnS s) : MnS (shp n ix dd s) := fun ds k k' e e' h1 h2 ⟨h, q⟩ => ⟨h, ms _ _ _ _ _ h1 h2 q⟩
theorem FnC.shape {n : Nat} {ix : List Nat} (F : FnC P w K mg base k f ks (fun vs H Q E => vs.length = n ∧ lift K s (pick ix (vs ++ dvs)) H Q E)) (hdd : ∀ b H, Reps K b H dd dvs) : FnC P w K mg base k f ks (lift K (shp n ix dd s)) :=
  F.imp fun vs H Q E ⟨b, ds, bg, r, hl, h⟩ => ⟨by rw [← r.length]; exact hl, b, _, bg, (r.append (hdd b H)).pick ix, h⟩
/-- a def without stars -/
theorem FnOk.cs (F : FnOk P w K mg base (L2.CX P w) k f fd ps (lift K s)) (n : Nat) (ks : List Str) (ix : List Nat) (hd : Vals dvs dus) (hdd : ∀ b H, Reps K b H dd dvs)
    (hb : ∀ (s : Shared) (us kus : List Value), K.In s.heap → us.length = n → kus.length = ks.length → BindsTo s fd ⟨us, ks.zip kus⟩ (ps.zip (pick ix (us ++ kus ++ dus)))) :
    FnC P w K mg base k f ks (lift K (shp (n + ks.length) ix dd s)) := (FnOk.c F n ks ix hd hb).shape hdd
/-- an __init__ -/
def shpI (n : Nat) (ix : List Nat) (dd : List D) (s : GSI) : GSI := fun c ns fs ds k e => ds.length = n ∧ s c ns fs (pick ix (ds ++ dd)) k e
theorem shpI_mn {n : Nat} {ix : List Nat} {dd : List D} {s : GSI} (ms : MnSI s) : MnSI (shpI n ix dd s) := fun c ns fs ds k k' e e' h1 h2 ⟨h, q⟩ => ⟨h, ms _ _ _ _ _ _ _ _ h1 h2 q⟩
theorem pick_self {α : Type} (ix : List Nat) (x : α) (l : List α) : pick (0 :: ix.map (· + 1)) (x :: l) = x :: pick ix l := by
  rw [pick_cons]
  show x :: pick (ix.map (· + 1)) (x :: l) = _
  congr 1
  unfold pick
  rw [List.filterMap_map]
  rfl
theorem FnOk.cI {s : GSI} (F : FnOk P w K mg base (L2.CX P w) k f fd ps (liftI K s)) (n : Nat) (ks : List Str) (ix : List Nat) (hd : Vals dvs dus) (hdd : ∀ b H, Reps K b H dd dvs)
    (hb : ∀ (s : Shared) (us kus : List Value), K.In s.heap → us.length = n + 1 → kus.length = ks.length → BindsTo s fd ⟨us, ks.zip kus⟩ (ps.zip (pick (0 :: ix.map (· + 1)) (us ++ kus ++ dus)))) :
    FnC P w K mg base k f ks (liftI K (shpI (n + ks.length) ix dd s)) := (FnOk.c F (n + 1) ks _ hd hb).imp fun vs H Q E ⟨b, c, ns, fs, ds, x, dx, vfs, vs', e, h1, h2, h3, h4, h5, h6, h7, h8, h9, hl, h⟩ => by
  subst e
  refine ⟨by rw [List.length_cons, ← h9.length]; omega, b, c, ns, fs, _, x, dx, vfs, pick ix (vs' ++ dvs), ?_, h1, h2, h3, h4, h5, h6, h7, h8, (h9.append (hdd b _)).pick ix, h⟩
  rw [List.cons_append, pick_self]
end
/-! ### the values of a call -/
/-- two lists of arguments, strong: positions and keywords in the order in which they are written -/
structure DCA (b : Option Addr) (H0 : Hp) (X : Cx) (pos : Pos) (args : List Expr) (kws : List Keyword) (ks : List Str) (g : GA) : Prop where
  run : ∀ (pins : List (Addr × Obj)) (s : Shared) (σ : L2.St) (H : Hp) (f : Value) (first : List Value) (Q : Value → Shared → Prop), Inv X pins σ H s → PySem.W.keepIn X.K f = true →
    (∃ σd O, Rst X.K b H0 σd σ H O ∧ g σd fun ds => ∀ us kus vs H' s', Inv X pins σ H' s' → Ext b H H' → kus.length = ks.length → Vals vs (us ++ kus) → Reps X.K b (hide O H') ds vs → wpAny (model X.prog X.w) X.A (call f (first ++ us) (ks.zip kus)) Q X.xe s') →
    wpAny (model X.prog X.w) X.A (callWith pos f first (backTo pos (starEach args X.env)) (backToKw pos (keywordEach kws X.env))) Q X.xe s
  mn : Mn g
def gStar (ge : GE) (g : GA) : GA := fun σ k => ge σ fun d => match d with
  | .lst xs => g σ fun ds => k (xs ++ ds)
  | .tup xs => g σ fun ds => k (xs ++ ds)
  | _ => False
def gApp (g g' : GA) : GA := fun σ k => g σ fun ds => g' σ fun es => k (ds ++ es)
section
variable {X : Cx} {b : Option Addr} {H0 : Hp} {e o : Expr} {es : List Expr} {kws : List Keyword} {g ga gk : GA} {ge go : GE} {pos p sp_ apos : Pos} {ks : List Str}
theorem dca_nil : DCA b H0 X pos [] [] [] gNil := ⟨fun pins s σ H f first Q I hk ⟨σd, O, R, q⟩ => PySem.W.callWith_K0 I.kIn hk (by
  have := q [] [] [] H s I (.refl H) rfl .nil Reps.nil
  simpa using this), fun σ k k' i q => i _ q⟩
theorem dca_pos (A : DAr b H0 X (e :: es) g) (he : starEach (e :: es) X.env = (false, eval e X.env) :: starEach es X.env := by rfl) (hpl : (backTo pos (starEach es X.env)).any (·.1) = false := by rfl) : DCA b H0 X pos (e :: es) [] [] g :=
  ⟨fun pins s σ H f first Q I hk ⟨σd, O, R, q⟩ => by
    refine PySem.W.callWith_K (h₀ := X.base) I.ok.mod.kin hk (thn (A.pa.run pos pins s σ H (fun vs H' => ∃ ds, Ext b H H' ∧ Reps X.K b (hide O H') ds vs ∧ ∀ us kus vs H' s', Inv X pins σ H' s' → Ext b H H' → kus.length = 0 → Vals vs (us ++ kus) → Reps X.K b (hide O H') ds vs → wpAny (model X.prog X.w) X.A (call f (first ++ us) []) Q X.xe s') I
      ⟨σd, O, R, A.mn _ _ _ (fun ds z vs H' x1 r => ⟨ds, x1, r, z⟩) q⟩) fun us s1 ⟨vs, H1, I1, r, ds, x1, rp, q1⟩ => ⟨I1.kIn, ?_⟩) he hpl
    exact q1 us [] vs H1 s1 I1 x1 rfl (by rw [List.append_nil]; exact r) rp, A.mn⟩
/-- *x alone -/
def gStar1 (ge : GE) : GA := fun σ k => ge σ fun d => match d with
  | .lst xs => k xs
  | .tup xs => k xs
  | _ => False
/-- keywords alone -/
theorem dca_kw0 (B : DK b H0 X kws gk) (hall : (backToKw pos (keywordEach kws X.env)).all (·.1.isSome) = true := by rfl) (hks : (backToKw pos (keywordEach kws X.env)).filterMap (·.1) = ks := by rfl) (hl : kws.length = ks.length := by rfl)
    (hpl : ((backTo pos (starEach [] X.env)).any (·.1) || (backToKw pos (keywordEach kws X.env)).any (·.1.isNone)) = false := by rfl) (hn : ∀ σ k, gk σ k → gk σ fun ds => ds.length = ks.length ∧ k ds) : DCA b H0 X pos [] kws ks gk :=
  ⟨fun pins s σ H f first Q I hk ⟨σd, O, R, q⟩ => by
    refine PySem.W.callWith_KW0 (h₀ := X.base) I.ok.mod.kin hk hall (thn (B.pk.run pos pins s σ H (fun vs H' => ∃ ds, ds.length = ks.length ∧ Ext b H H' ∧ Reps X.K b (hide O H') ds vs ∧ ∀ us kus vs H' s', Inv X pins σ H' s' → Ext b H H' → kus.length = ks.length → Vals vs (us ++ kus) → Reps X.K b (hide O H') ds vs → wpAny (model X.prog X.w) X.A (call f (first ++ us) (ks.zip kus)) Q X.xe s') I
      ⟨σd, O, R, B.mn _ _ _ (fun ds z vs H' x1 r => ⟨ds, z.1, x1, r, z.2⟩) (hn _ _ q)⟩) fun us s1 ⟨vs, H1, I1, r, ds, hl, x1, rp, q1⟩ => ⟨I1.kIn, ?_⟩) hpl
    rw [hks]
    exact q1 [] us vs H1 s1 I1 x1 (by rw [← r.length, ← rp.length]; exact hl) r rp, B.mn⟩
theorem dca_kw (A : DAr b H0 X (e :: es) ga) (B : DK b H0 X kws gk) (hall : (backToKw pos (keywordEach kws X.env)).all (·.1.isSome) = true := by rfl) (hks : (backToKw pos (keywordEach kws X.env)).filterMap (·.1) = ks := by rfl)
    (hpl : ((backTo pos (starEach (e :: es) X.env)).any (·.1) || (backToKw pos (keywordEach kws X.env)).any (·.1.isNone)) = false := by rfl) (he : starEach (e :: es) X.env = (false, eval e X.env) :: starEach es X.env := by rfl) (hn : ∀ σ k, gk σ k → gk σ fun ds => ds.length = ks.length ∧ k ds) :
    DCA b H0 X pos (e :: es) kws ks (gApp ga gk) :=
  ⟨fun pins s σ H f first Q I hk ⟨σd, O, R, q⟩ => by
    refine PySem.W.callWith_KW (h₀ := X.base) I.ok.mod.kin hk hall (thn (A.pa.run pos pins s σ H (fun vs H' => ∃ ds, Ext b H H' ∧ Reps X.K b (hide O H') ds vs ∧ gk σd fun es => ∀ us kus vs H' s', Inv X pins σ H' s' → Ext b H H' → kus.length = ks.length → Vals vs (us ++ kus) → Reps X.K b (hide O H') (ds ++ es) vs → wpAny (model X.prog X.w) X.A (call f (first ++ us) (ks.zip kus)) Q X.xe s') I
      ⟨σd, O, R, A.mn _ _ _ (fun ds z vs H' x1 r => ⟨ds, x1, r, z⟩) q⟩) fun us s1 ⟨vs, H1, I1, r, ds, x1, rp, q1⟩ => ?_) hpl he
    refine thn (B.pk.run pos pins s1 σ H1 (fun ws H' => ∃ es, es.length = ks.length ∧ Ext b H1 H' ∧ Reps X.K b (hide O H') es ws ∧ ∀ us kus vs H' s', Inv X pins σ H' s' → Ext b H H' → kus.length = ks.length → Vals vs (us ++ kus) → Reps X.K b (hide O H') (ds ++ es) vs → wpAny (model X.prog X.w) X.A (call f (first ++ us) (ks.zip kus)) Q X.xe s') I1
      ⟨σd, O, R.mono x1, B.mn _ _ _ (fun es z ws H' x2 r => ⟨es, z.1, x2, r, z.2⟩) (hn _ _ q1)⟩) fun ku s2 ⟨ws, H2, I2, r2, es, hl, x2, rp2, q2⟩ => ⟨I2.kIn, ?_⟩
    rw [hks]
    exact q2 us ku (vs ++ ws) H2 s2 I2 (x1.trans x2) (by rw [← r2.length, ← rp2.length]; exact hl) (r.append r2) ((rp.mono (x2.1.hide O)).append rp2), fun σ k k' i q => A.mn _ _ _ (fun ds z => B.mn _ _ _ (fun es w => i _ w) z) q⟩
/-- how many keywords there are -/
theorem kn_nil : ∀ σ (k : List D → Prop), gNil σ k → gNil σ fun ds => ds.length = 0 ∧ k ds := fun σ k q => ⟨rfl, q⟩
theorem kn_cons {n : Nat} (A : Mn ge) (B : Mn gk) (h : ∀ σ k, gk σ k → gk σ fun ds => ds.length = n ∧ k ds) : ∀ σ k, gCons ge gk σ k → gCons ge gk σ fun ds => ds.length = n + 1 ∧ k ds := fun σ k q => A _ _ _ (fun d z => B _ _ _ (fun ds w => ⟨by rw [List.length_cons, w.1], w.2⟩) (h _ _ z)) q
/-! ### the callees -/
variable {E : XK} {eo : XD → Prop} {s : GS} {k : Nat} {f C : Addr} {x m c : Str} {args : List Expr}
theorem run_fnC {pins : List (Addr × Obj)} {σ : L2.St} {σd : StD} {H : Hp} {s0 : Shared} {O : List Addr} {us kus : List Value} {vs : List V} {ds : List D} {Q : VK} (F : FnC X.prog X.w X.K X.mg X.base k f ks (lift X.K s)) (ms : MnS s) (hr : Room k X.A) (Z : Cz X b H0 E eo)
    (I : Inv X pins σ H s0) (hk : kus.length = ks.length) (r2 : Vals vs (us ++ kus)) (R : Rst X.K b H0 σd σ H O) (rp : Reps X.K b (hide O H) ds vs) (h : s ds (fun d => ∀ v H', Ext b H H' → Rep X.K b (hide O H') d v → Q v H') eo) :
    wpAny (model X.prog X.w) X.A (call (.ref f) us (ks.zip kus)) (EP X pins σ Q) X.xe s0 := by
  have hO : ∀ a ∈ O, Hid O H a := fun a m => (R.nb a m).2.2
  have I1 := inv_hide I hO
  have sp : lift X.K s vs (hide O H) (fun v H2 => (∀ a ∈ O, H2 a = none) → Q v (back O H H2)) E := by
    refine ⟨b, ds, R.bg, rp, ms _ _ _ _ _ (fun d hd v H2 x r0 fr => ?_) (fun x hx cls d H2 x2 xa => ?_) h⟩
    · refine hd v _ (back_ext (fun a m => ⟨(R.nb a m).1, (R.nb a m).2.2⟩) fr x) ?_
      rw [back_hide fr]
      exact r0
    · exact Z.ex x cls d H2 hx (R.le.trans x2) xa
  refine wpAny_call (codeAny_mono (F X.A X.stack s0 (hide O H) us kus vs _ E hr I1.env0 hk r2 sp) fun r s' hq => ?_)
  cases r with
  | error e => exact Z.pass pins σ (hide O H) s0 e s' I1 hq
  | ok fl =>
    cases fl with
    | ret u =>
      obtain ⟨v, H2, os, bare, un, ok, rv, q⟩ := hq
      obtain ⟨fr, I2⟩ := inv_back I hO os bare un ok
      exact ⟨v, _, I2, rv, q fr⟩
    | next => exact False.elim hq
    | brk => exact False.elim hq
    | cont => exact False.elim hq
def gCa (s : GS) (eo : XD → Prop) (ga : GA) : GE := fun σ k => ga σ fun ds => s ds k eo
theorem gCa_mn (ms : MnS s) (A : Mn ga) : Mn (gCa s eo ga) := fun σ k k' i q => A _ _ _ (fun ds z => ms _ _ _ _ _ i (fun _ w => w) z) q
/-- x(..), x a def of the module -/
theorem de_ca (F : FnC X.prog X.w X.K X.mg X.base k f ks (lift X.K s)) (ms : MnS s) (hr : Room k X.A) (hm : X.mg x = some (.ref f)) (hk : PySem.W.keepIn X.K (.ref f) = true) (Z : Cz X b H0 E eo) (A : DCA b H0 X pos args kws ks ga)
    (hg : Gl X x := by rfl) (hdb : (x == ("__debug__" : Str)) = false := by decide) : DE b H0 X (.Call (.Name x p) args kws pos) (gCa s eo ga) := by
  refine ⟨⟨fun pins s0 σ H Q I ⟨σd, O, R, q⟩ => ?_⟩, gCa_mn ms A.mn⟩
  refine wpAny_Call_Name_kw (ld_glob I hg hm ?_ hdb)
  refine A.run pins s0 σ H (.ref f) [] _ I hk ⟨σd, O, R, A.mn _ _ _ (fun ds z us kus vs H' s' I' x1 hl r rp => ?_) q⟩
  exact run_fnC F ms hr Z I' hl r (R.mono x1) rp (ms _ _ _ _ _ (fun d w v H2 x2 r2 => w v H2 (x1.trans x2) r2) (fun _ w => w) z)
/-- o.m(..), o an instance of the class c -/
def gMc (c m : Str) (s : GS) (eo : XD → Prop) (go : GE) (ga : GA) : GE := fun σ k => go σ fun d => match d with
  | .ins c' ns ds => c' = c ∧ m ∉ ns ∧ ga σ fun es => s (.ins c' ns ds :: es) k eo
  | _ => False
theorem gMc_mn (ms : MnS s) (G : Mn go) (A : Mn ga) : Mn (gMc c m s eo go ga) := fun σ k k' i q => G _ _ _ (fun d z => by
  cases d <;> first | exact ⟨z.1, z.2.1, A _ _ _ (fun ds w => ms _ _ _ _ _ i (fun _ w => w) w) z.2.2⟩ | exact z.elim) q
theorem de_mc {pl : Sem Bool} (G : DE b H0 X o go) (cl : Cls X.K (He.ga X.K c)) (hm : Meth X.K (He.ga X.K c) m f) (F : FnC X.prog X.w X.K X.mg X.base k f ks (lift X.K s)) (ms : MnS s) (hr : Room k X.A) (Z : Cz X b H0 E eo) (A : DCA b H0 X pos args kws ks ga)
    (ht : eval (.Call (.Attribute o m apos) args kws pos) X.env = (do
      let ov ← eval o X.env
      standAt apos.atName
      let (f, first) ← holding [ov] (getMethod ov m pl)
      callWith pos f first (backTo pos (starEach args X.env)) (backToKw pos (keywordEach kws X.env))) := by rfl) :
    DE b H0 X (.Call (.Attribute o m apos) args kws pos) (gMc c m s eo go ga) := by
  refine ⟨⟨fun pins s0 σ H Q I ⟨σd, O, R, q⟩ => ?_⟩, gMc_mn ms G.mn A.mn⟩
  refine PySem.W.methodCall_KW (pl := pl) (thn (G.pe.run pins s0 σ H (fun v H' => ∃ a dx fs d, v = .ref a ∧ H' a = some (.ins (He.ga X.K c) dx fs) ∧ fs.lookup m = none ∧ Rst X.K b H0 σd σ H' O ∧ Rep X.K b (hide O H') d (.ref a) ∧ ga σd fun es => s (d :: es) (fun d => ∀ v H2, Ext b H' H2 → Rep X.K b (hide O H2) d v → Q v H2) eo) I
    ⟨σd, O, R, G.mn _ _ _ (fun d z v H' x1 r => ?_) q⟩) fun u s1 ⟨x, H1, I1, rx, a, dx, fs, d, ex, ea, l, R1, rd, q1⟩ => ?_) ht
  · cases d with
    | ins c' ns ds =>
      obtain ⟨e1, e2, z⟩ := z
      subst e1
      obtain ⟨a, dx, vs, rfl, n, h, l, rs⟩ := r.ins
      exact ⟨a, dx, _, _, rfl, (of_hide h).2, lookup_zip_none e2, R.mono x1, r, A.mn _ _ _ (fun es w => ms _ _ _ _ _ (fun d w v H2 x2 r2 => w v H2 (x1.trans x2) r2) (fun _ w => w) w) z⟩
    | _ => exact z.elim
  · subst ex
    obtain rfl : u = Value.ref a := rx
    refine getmeth_ok I1 ea cl hm l ?_
    refine A.run pins s1 σ H1 (.ref f) [.ref a] _ I1 hm.kp ⟨σd, O, R1, A.mn _ _ _ (fun ds z us kus vs H2 s2 I2 x2 hl r rp => ?_) q1⟩
    exact run_fnC (us := .ref a :: us) (vs := .ref a :: vs) F ms hr Z I2 hl (.cons rfl r) (R1.mono x2) (Reps.cons (rd.mono (x2.1.hide O)) rp) (ms _ _ _ _ _ (fun d w v H3 x3 r3 => w v H3 (x2.trans x3) r3) (fun _ w => w) z)
/-- C(..) -/
theorem run_makeC0 {sp : Sp} {pins : List (Addr × Obj)} {σ : L2.St} {H : Hp} {s : Shared} {us kus : List Value} {vs : List V} {Q : VK} (M : Mk X.K C f) (F : FnC X.prog X.w X.K X.mg X.base k f ks sp) (hr : Room (k + 1) X.A) (hx : Passes (L2.CX X.prog X.w) X E) (I : Inv X pins σ H s)
    (hk : kus.length = ks.length) (r : Vals vs (us ++ kus)) (h : ∀ x dx, H x = none → H dx = none → dx ≠ x → sp (V.ref x :: vs) (upd (upd H dx (.own x)) x (.ins C dx [])) (fun v H2 => v = .non ∧ Q (.ref x) H2) E) :
    wpAny (model X.prog X.w) X.A (call (.ref C) us (ks.zip kus)) (EP X pins σ Q) X.xe s := by
  have hq := h (s.heap.objs.size + 1) s.heap.objs.size (I.hok.fresh (Nat.le_succ _)) (I.hok.fresh (Nat.le_refl _)) (Nat.ne_of_lt (Nat.lt_succ_self _))
  have I2 := Inv.made (C := C) I
  have r2 : Vals (V.ref (s.heap.objs.size + 1) :: vs) ((Value.ref (s.heap.objs.size + 1) :: us) ++ kus) := .cons rfl r
  refine wpAny_call (make_map (f := f) I.kIn M.makes M.init (beq_iff_eq.mp M.fn) (codeAny_mono (F _ X.stack _ _ (Value.ref (s.heap.objs.size + 1) :: us) kus _ _ E (hr.make C us (ks.zip kus)) (I2.env0.make C us (ks.zip kus)) hk r2 hq) fun r s' hq' => ?_))
  cases r with
  | error e => exact hx pins σ _ _ e s' I2 hq'
  | ok fl =>
    cases fl with
    | ret u =>
      obtain ⟨v, H', I3, rv, ev, q3⟩ := I2.after hq'
      subst ev
      exact ⟨rv, ⟨V.ref (s.heap.objs.size + 1), H', I3, rfl, q3⟩⟩
    | next => exact False.elim hq'
    | brk => exact False.elim hq'
    | cont => exact False.elim hq'
theorem run_makeC {s : GSI} {pins : List (Addr × Obj)} {σ : L2.St} {σd : StD} {H : Hp} {s0 : Shared} {O : List Addr} {us kus : List Value} {vs : List V} {ds : List D} {Q : VK} (M : Mk X.K (He.ga X.K c) f) (F : FnC X.prog X.w X.K X.mg X.base k f ks (liftI X.K s)) (ms : MnSI s) (hr : Room (k + 1) X.A) (Z : Cz X b H0 E eo)
    (I : Inv X pins σ H s0) (hk : kus.length = ks.length) (r : Vals vs (us ++ kus)) (R : Rst X.K b H0 σd σ H O) (rp : Reps X.K b (hide O H) ds vs) (h : s c [] [] ds (fun ns fs => ∀ v H', Ext b H H' → Rep X.K b (hide O H') (.ins c ns fs) v → Q v H') eo) :
    wpAny (model X.prog X.w) X.A (call (.ref (He.ga X.K c)) us (ks.zip kus)) (EP X pins σ Q) X.xe s0 := by
  have hO : ∀ a ∈ O, Hid O H a := fun a m => (R.nb a m).2.2
  have I1 := inv_pinO I hO
  refine thn (run_makeC0 (Q := fun v H2 => (∀ a ∈ O, H2 a = none) → Q v (back O H H2)) M F hr Z.pass I1 hk r fun x dx hx hdx ne => ?_) fun u s' ⟨v, H2, I2, rv, q⟩ => ?_
  · have nx : some x ≠ b := R.bg.ne hx
    have ndx : some dx ≠ b := R.bg.ne hdx
    refine ⟨b, c, [], [], ds, x, dx, [], vs, rfl, nx, ndx, upd_same, by rw [upd_ne ne, upd_same], ne, rfl, Reps.nil, ?_, ?_, ?_⟩
    · rw [le_upd2 (H1 := H) (O := O) hx hdx]; exact R.bg
    · rw [le_upd2 (H1 := H) (O := O) hx hdx]; exact rp
    · rw [le_upd2 (H1 := H) (O := O) hx hdx]
      refine ms _ _ _ _ _ _ _ _ (fun ns fs w H' vfs x1 hx' hd' l rf => ⟨rfl, fun fr => ?_⟩) (fun xd w cls d H' x1 xa => Z.ex xd cls d H' w (R.le.trans x1) xa) h
      have x2 : Ext b (hide O H) H' := x1.trans ⟨hide_le, fun a e c i j m h h0 => ⟨i, j, h0, (of_hide h).2⟩, fun t => tabs_unhide t⟩
      refine w _ _ (back_ext (fun a m => ⟨(R.nb a m).1, (R.nb a m).2.2⟩) fr x2) ?_
      rw [back_hide fr]
      exact Rep.mkIns nx hx' l (rf.mono hide_le)
  · obtain ⟨fr, I3⟩ := inv_unO I hO I2
    exact ⟨v, _, I3, rv, q fr⟩
def gMk (c : Str) (s : GSI) (eo : XD → Prop) (ga : GA) : GE := fun σ k => ga σ fun ds => s c [] [] ds (fun ns fs => k (.ins c ns fs)) eo
theorem gMk_mn {s : GSI} (ms : MnSI s) (A : Mn ga) : Mn (gMk c s eo ga) := fun σ k k' i q => A _ _ _ (fun ds z => ms _ _ _ _ _ _ _ _ (fun ns fs w => i _ w) (fun _ w => w) z) q
theorem de_mk {s : GSI} (M : Mk X.K (He.ga X.K c) f) (F : FnC X.prog X.w X.K X.mg X.base k f ks (liftI X.K s)) (ms : MnSI s) (hr : Room (k + 1) X.A) (hm : X.mg x = some (.ref (He.ga X.K c))) (Z : Cz X b H0 E eo) (A : DCA b H0 X pos args kws ks ga)
    (hg : Gl X x := by rfl) (hdb : (x == ("__debug__" : Str)) = false := by decide) : DE b H0 X (.Call (.Name x p) args kws pos) (gMk c s eo ga) := by
  refine ⟨⟨fun pins s0 σ H Q I ⟨σd, O, R, q⟩ => ?_⟩, gMk_mn ms A.mn⟩
  refine wpAny_Call_Name_kw (ld_glob I hg hm ?_ hdb)
  refine A.run pins s0 σ H (.ref (He.ga X.K c)) [] _ I M.kp ⟨σd, O, R, A.mn _ _ _ (fun ds z us kus vs H' s' I' x1 hl r rp => ?_) q⟩
  exact run_makeC M F ms hr Z I' hl r (R.mono x1) rp (ms _ _ _ _ _ _ _ _ (fun ns fs w v H2 x2 r2 => w v H2 (x1.trans x2) r2) (fun _ w => w) z)
end
/-! ### defs with a star -/
end DL
/-! DI2 -/
set_option Elab.async false
set_option linter.all false
set_option maxRecDepth 100000
set_option maxHeartbeats 4000000
/-! enumerate and zip of lists and tuples, mixed. -/
namespace PySem
end PySem
namespace DL
open PySem PySem.Spec PyProof.Rows L2
variable [TabC]
/-- a list (false) or a tuple (true) -/
def SqB (t : Bool) (K : Fg) (H : Hp) (a : Addr) (xs : List V) : Prop := match t with | false => SqL K H a xs | true => SqT K H a xs
def SeqO (t : Bool) (h : Heap) (a : Addr) (its : Array Value) : Prop := match t with | false => h.IsList a its | true => h.IsTuple a its
def ItO (t : Bool) (h : Heap) (it a : Addr) (i : Nat) : Prop := match t with | false => h.IsListIter it a i | true => h.IsTupleIter it a i
def itObj (t : Bool) (a : Addr) : Obj := match t with | false => { cls := .type "list_iterator", data := .fields #[.ref a, .int 0 0] } | true => { cls := .type "tuple_iterator", data := .fields #[.ref a, .int 0 0] }
theorem begins_b (t : Bool) (a : Addr) (its : Array Value) : Begins (.ref a) (itObj t a) fun h => SeqO t h a its := by
  cases t
  · exact begins_list a its
  · exact begins_tuple a its
theorem draws_b {prog : Program} {w : World} {A : Around} (t : Bool) (hh : A.handled = none) (it a : Addr) (hne : a ≠ it) (items : Array Value) :
    Draws prog w A it [it, a] items.size (fun i v => items[i]? = some v) (fun i h => ItO t h it a i ∧ SeqO t h a items) := by
  cases t
  · exact Draws.list hh it a hne items
  · exact Draws.tuple hh it a hne items
theorem itO_new {t : Bool} {h : Heap} {it a : Addr} (e : h.get? it = some (itObj t a)) : ItO t h it a 0 := by
  cases t <;> exact ⟨_, e, rfl, rfl⟩
theorem itO_at {t : Bool} {h h' : Heap} {it a : Addr} {i : Nat} (x : ItO t h it a i) (k : ∀ o, h.get? it = some o → h'.get? it = some o) : ItO t h' it a i := by
  cases t <;> (obtain ⟨o, e, r⟩ := x; exact ⟨o, k _ e, r⟩)
theorem itO_obj {t : Bool} {h : Heap} {it a : Addr} {i : Nat} (x : ItO t h it a i) : ∃ o, h.get? it = some o ∧ ∀ v, o.data ≠ .cell v := by
  cases t <;> (obtain ⟨o, e, _, d⟩ := x; exact ⟨o, e, fun v q => by rw [d] at q; cases q⟩)
theorem seqO_lt {t : Bool} {h : Heap} {a : Addr} {its : Array Value} (x : SeqO t h a its) : a < h.objs.size := by
  cases t <;> (obtain ⟨o, e, _⟩ := x; exact Heap.lt_size e)
section
variable {X : Cx} {pins : List (Addr × Obj)} {σ : L2.St} {H : Hp} {s : Shared}
theorem Inv.seqB {t : Bool} {a : Addr} {xs : List V} (I : Inv X pins σ H s) (h : SqB t X.K H a xs) : ∃ its : List Value, Vals xs its ∧ SeqO t s.heap a its.toArray := by
  cases t
  · obtain ⟨its, r, p, _⟩ := I.list h
    exact ⟨its, r, p.isList⟩
  · obtain ⟨its, r, p, _⟩ := I.tuple h
    exact ⟨its, r, p⟩
theorem Inv.injB {t : Bool} {a : Addr} {xs ys : List V} (I : Inv X pins σ H s) (h : SqB t X.K H a xs) (g : SqB t X.K H a ys) : xs = ys := by
  cases t
  · exact I.list_inj h g
  · exact I.tuple_inj h g
end
/-- what an iterator over two yields -/
def ItzB (t u : Bool) (K : Fg) (a b : Addr) : It :=
  ⟨fun i H => ∃ (xs ys : List V) (x y : V), SqB t K H a xs ∧ SqB u K H b ys ∧ xs[i]? = some x ∧ ys[i]? = some y,
    fun i H v H' => ∃ T x y, v = .ref T ∧ H T = none ∧ H' = upd H T (.tup [x, y]) ∧ (∀ xs, SqB t K H a xs → xs[i]? = some x) ∧ ∀ ys, SqB u K H b ys → ys[i]? = some y,
    fun i H => ∃ xs ys : List V, SqB t K H a xs ∧ SqB u K H b ys ∧ i = min xs.length ys.length⟩
theorem turn_zipB {P : Program} {w : World} {K : Fg} {elts : List Expr} {kk : Nat} {tpos : Pos} (t u : Bool) {a b z TI TO i1 i2 : Addr} (S : ZipSep2 z TI TO i1 i2 [i1, a] [i2, b]) (n1 : a ≠ i1) (n2 : b ≠ i2) :
    Turn P w K (.Tuple elts kk tpos) (ItzB t u K a b) [z, TI, TO, i1, i2] z (fun i h => IsZip h z TI TO .none ∧ IsTupOf2 h TI (.ref i1) (.ref i2) ∧ (∃ x y, IsTupOf2 h TO x y) ∧ ItO t h i1 a i ∧ ItO u h i2 b i) where
  mem := by simp
  obj := fun i h st c hc => by
    obtain ⟨hz, hTI, ⟨x, y, hTO⟩, h1, h2⟩ := st
    have e' : c = z ∨ c = TI ∨ c = TO ∨ c = i1 ∨ c = i2 := by simpa using hc
    rcases e' with q | q | q | q | q
    · rw [q]; exact ⟨_, hz, fun v q => nomatch q⟩
    · rw [q]; exact ⟨_, hTI, fun v q => nomatch q⟩
    · rw [q]; exact ⟨_, hTO, fun v q => nomatch q⟩
    · rw [q]; exact itO_obj h1
    · rw [q]; exact itO_obj h2
  keep := fun i h h' st k => by
    obtain ⟨hz, hTI, ⟨x, y, hTO⟩, h1, h2⟩ := st
    exact ⟨k z (by simp) _ hz, k TI (by simp) _ hTI, ⟨x, y, k TO (by simp) _ hTO⟩, itO_at h1 fun o q => k i1 (by simp) o q, itO_at h2 fun o q => k i2 (by simp) o q⟩
  item := by
    intro X hP hw hK hc i pins s σ H E I hf st hg
    subst hP hw hK
    obtain ⟨hz, hTI, hTO, h1, h2⟩ := st
    obtain ⟨xs, ys, x, y, hqx, hqy, hx, hy⟩ := hg
    obtain ⟨its, rv, p⟩ := Inv.seqB I hqx
    obtain ⟨its2, rv2, p2⟩ := Inv.seqB I hqy
    have hin : (X.A.in1).handled = none := I.ok.hd hc
    have W := WalksT.zipD2 (A := X.A) S (draws_b (prog := X.prog) (w := X.w) t hin i1 a n1 its.toArray) (draws_b (prog := X.prog) (w := X.w) u hin i2 b n2 its2.toArray)
    have l1 := rv.length
    have l2 := rv2.length
    have hi : i < min its.toArray.size its2.toArray.size := by
      have g1 := (List.getElem?_eq_some_iff.mp hx).1
      have g2 := (List.getElem?_eq_some_iff.mp hy).1
      simp only [List.size_toArray]; omega
    refine W.item i s _ E hi ⟨hz, hTI, hTO, ⟨h1, p⟩, ⟨h2, p2⟩⟩ fun T vals h' tk hv hT hTup mid hk => ⟨_, rfl, W.go elts kk tpos i T _ _ E mid fun h'' st2 hk2 => ?_⟩
    obtain ⟨v1, v2, e1, e2, rfl⟩ := hv
    have hap := W.apart i T h' mid
    have k2 : ∀ c o, c ∉ [z, TO, i1, i2] → s.heap.get? c = some o → h''.get? c = some o := fun c o hc q => hk2 c o hc (hk c o hc q)
    have hT2 : h''.IsTuple T #[v1, v2] := by
      obtain ⟨o, q, r⟩ := hTup
      exact ⟨o, hk2 T o hap q, r⟩
    obtain ⟨u1, hu1, ru1⟩ := vals_get rv hx
    obtain ⟨u2, hu2, ru2⟩ := vals_get rv2 hy
    have f1 : v1 = u1 := by
      have : its[i]? = some v1 := by simpa using e1
      rw [hu1] at this; exact (Option.some.inj this).symm
    have f2 : v2 = u2 := by
      have : its2[i]? = some v2 := by simpa using e2
      rw [hu2] at this; exact (Option.some.inj this).symm
    subst f1 f2
    have new : ObjOk X.prog X.w (upd H T (.tup [x, y])) h'' T (.tup [x, y]) := ⟨by show 2 ≤ sizeLine; decide, [v1, v2], .cons ru1 (.cons ru2 .nil), hT2⟩
    have I1 : Inv X pins σ (upd H T (.tup [x, y])) { s with heap := h'', toks := tk } :=
      I.turnedNew (t' := tk) (ch := [z, TI, TO, i1, i2]) (fun c o hb q => k2 c o (fun m => hb (by
        have e' : c = z ∨ c = TO ∨ c = i1 ∨ c = i2 := by simpa using m
        rcases e' with r | r | r | r <;> simp [r])) q) hf hT new
    obtain ⟨hz', hTI', hTO', ⟨g1, _⟩, ⟨g2, _⟩⟩ := st2
    refine ⟨.ref T, _, I1, rfl, ⟨_, x, y, rfl, I.hok.fresh hT, rfl, fun l hl => by rw [Inv.injB I hl hqx]; exact hx, fun l hl => by rw [Inv.injB I hl hqy]; exact hy⟩, ⟨hz', hTI', hTO', g1, g2⟩, fun c hcm => ?_⟩
    have hlt : c < s.heap.objs.size := by
      have e' : c = z ∨ c = TI ∨ c = TO ∨ c = i1 ∨ c = i2 := by simpa using hcm
      obtain ⟨x0, y0, hTO⟩ := hTO
      rcases e' with q | q | q | q | q
      · rw [q]; exact Heap.lt_size hz
      · rw [q]; exact Heap.lt_size hTI
      · rw [q]; exact Heap.lt_size hTO
      · rw [q]; obtain ⟨_, e1, _⟩ := itO_obj h1; exact Heap.lt_size e1
      · rw [q]; obtain ⟨_, e2, _⟩ := itO_obj h2; exact Heap.lt_size e2
    rw [upd_ne (fun q => by rw [q] at hlt; exact Nat.lt_irrefl _ (Nat.lt_of_lt_of_le hlt hT))]
    exact (hf c hcm).1
  done := by
    intro X hP hw hK hc i pins s σ H E I hf st hg
    subst hP hw hK
    obtain ⟨hz, hTI, hTO, h1, h2⟩ := st
    obtain ⟨xs, ys, hqx, hqy, hend⟩ := hg
    obtain ⟨its, rv, p⟩ := Inv.seqB I hqx
    obtain ⟨its2, rv2, p2⟩ := Inv.seqB I hqy
    have hin : (X.A.in1).handled = none := I.ok.hd hc
    have W := WalksT.zipD2 (A := X.A) S (draws_b (prog := X.prog) (w := X.w) t hin i1 a n1 its.toArray) (draws_b (prog := X.prog) (w := X.w) u hin i2 b n2 its2.toArray)
    have l1 := rv.length
    have l2 := rv2.length
    have ei : i = min its.toArray.size its2.toArray.size := by simp only [List.size_toArray]; omega
    rw [ei] at h1 h2
    refine W.done s _ E ⟨hz, hTI, hTO, ⟨h1, p⟩, ⟨h2, p2⟩⟩ fun h' tk hk => ⟨rfl, I.turnedL (t' := tk) (ch := [z, TI, TO, i1, i2]) (fun c o hb q => hk c o (fun m => hb (by
        have e' : c = z ∨ c = TO ∨ c = i1 ∨ c = i2 := by simpa using m
        rcases e' with r | r | r | r <;> simp [r])) q) hf⟩
  self := fun A i s Q E st h => wpAny_pyIter_zip st.1 h
/-- zip(x, y) -/
def iZipB (K : Fg) (ta : TA) : TI := fun σ H R => ta σ H fun vs H1 => ∃ (t u : Bool) (a b : Addr) (xs ys : List V), vs = [.ref a, .ref b] ∧ SqB t K H1 a xs ∧ SqB u K H1 b ys ∧ R (ItzB t u K a b) H1
theorem pi_zipB {X : Cx} {e e2 : Expr} {ta : TA} {p pos tpos : Pos} {elts : List Expr} {kk : Nat} (hg : Gl X "zip") (hm : X.mg "zip" = none) (ha : PA X [e, e2] ta)
    (hs : starEach [e, e2] X.env = (false, eval e X.env) :: starEach [e2] X.env := by rfl) (hpl : (backTo pos (starEach [e2] X.env)).any (·.1) = false := by rfl) :
    PI X (.Tuple elts kk tpos) (.Call (.Name "zip" p) [e, e2] [] pos) (iZipB X.K ta) := by
  refine ⟨fun pins s σ H R I h => ?_⟩
  refine Call_ (ld_blt I hg hm PyProof.Rows.boot_zip (PyProof.Rows.callWith_type1 (thn (ha.run pos pins s σ H _ I h) fun us s1 ⟨vs, H1, I1, r1, q1⟩ => ?_) hs hpl))
  obtain ⟨t, u, a, b, xs, ys, ex, hqx, hqy, q⟩ := q1
  subst ex
  cases r1 with
  | cons r rr =>
    cases rr with
    | cons r' rr =>
      cases rr
      cases r
      cases r'
      have fresh5 : ∀ c, c ∈ [s1.heap.objs.size + 4, s1.heap.objs.size + 2, s1.heap.objs.size + 3, s1.heap.objs.size, s1.heap.objs.size + 1] → FpOk X pins H1 c := fun c hcm => by
        have e' : c = s1.heap.objs.size + 4 ∨ c = s1.heap.objs.size + 2 ∨ c = s1.heap.objs.size + 3 ∨ c = s1.heap.objs.size ∨ c = s1.heap.objs.size + 1 := by simpa using hcm
        have hle : s1.heap.objs.size ≤ c := by
          rcases e' with z | z | z | z | z
          · rw [z]; exact Nat.le_add_right _ _
          · rw [z]; exact Nat.le_add_right _ _
          · rw [z]; exact Nat.le_add_right _ _
          · rw [z]; exact Nat.le_refl _
          · rw [z]; exact Nat.le_add_right _ _
        exact I1.fpOk hle (I1.hok.fresh hle)
      obtain ⟨its, rv, p1⟩ := Inv.seqB I1 hqx
      obtain ⟨its2, rv2, p2⟩ := Inv.seqB I1 hqy
      have q1 := seqO_lt p1
      have q2 := seqO_lt p2
      refine zip_begins2 (begins_b t a its.toArray) (begins_b u b its2.toArray) p1 p2 fun h' hz hTI hTO h1 h2 hsz hk => wpAny_pyIter_zip hz ?_
      have I2 : Inv X pins σ H1 { s1 with heap := h' } := I1.kept (t' := s1.toks) hk
      exact ⟨s1.heap.objs.size + 4, [s1.heap.objs.size + 4, s1.heap.objs.size + 2, s1.heap.objs.size + 3, s1.heap.objs.size, s1.heap.objs.size + 1], _, _, H1, rfl, I2,
        turn_zipB t u (zip_sep2 (N := s1.heap.objs.size) (fp1 := [a]) (fp2 := [b]) (by simpa using q1) (by simpa using q2)) (Nat.ne_of_lt q1) (Nat.ne_of_lt (Nat.lt_succ_of_lt q2)), ⟨hz, hTI, ⟨_, _, hTO⟩, itO_new h1, itO_new h2⟩, fresh5, q⟩
/-! ### as data -/
def seqD : D → Option (Bool × List D)
  | .lst ds => some (false, ds)
  | .tup ds => some (true, ds)
  | _ => none
theorem Rep.seq {K : Fg} {b : Option Addr} {H : Hp} {d : D} {v : V} {t : Bool} {ds : List D} (r : Rep K b H d v) (e : seqD d = some (t, ds)) : ∃ a vs, v = .ref a ∧ some a ≠ b ∧ SqB t K H a vs ∧ Reps K b H ds vs := by
  cases d with
  | lst es => cases e; exact r.lst
  | tup es => cases e; exact r.tup
  | _ => cases e
theorem sqB_mono {K : Fg} {b : Option Addr} {H H' : Hp} {t : Bool} {a : Addr} {xs : List V} (x : Le b H H') (hb : some a ≠ b) (h : SqB t K H a xs) : SqB t K H' a xs := by
  cases t
  · exact sqL_mono x hb h
  · exact sqT_mono x hb h
section
variable {X : Cx} {b : Option Addr} {H0 : Hp} {a c : Expr} {ga gb : GE} {pos p : Pos}
def gZipA (ga gb : GE) : GI := fun σ k => ga σ fun x => gb σ fun y => match x, y with
  | .lst ds, .lst es => k (pairsD ds es)
  | .lst ds, .tup es => k (pairsD ds es)
  | .tup ds, .lst es => k (pairsD ds es)
  | .tup ds, .tup es => k (pairsD ds es)
  | _, _ => False
theorem gZipA_seq {x y : D} {k : List D → Prop} (h : match x, y with
  | .lst ds, .lst es => k (pairsD ds es)
  | .lst ds, .tup es => k (pairsD ds es)
  | .tup ds, .lst es => k (pairsD ds es)
  | .tup ds, .tup es => k (pairsD ds es)
  | _, _ => False) : ∃ t u ds es, seqD x = some (t, ds) ∧ seqD y = some (u, es) ∧ k (pairsD ds es) := by
  cases x <;> cases y <;> first | exact ⟨_, _, _, _, rfl, rfl, h⟩ | exact h.elim
theorem gZipA_mn (A : Mn ga) (B : Mn gb) : Mn (gZipA ga gb) := fun σ k k' i q => A _ _ _ (fun x z => B _ _ _ (fun y w => by
  cases x <;> cases y <;> first | exact i _ w | exact w.elim) z) q
theorem pairs_min : ∀ {ds es : List D}, (pairsD ds es).length = min ds.length es.length
  | [], es => by simp [pairsD]
  | d :: ds, [] => by simp [pairsD]
  | d :: ds, e :: es => by
    show (_ :: pairsD ds es).length = _
    rw [List.length_cons, pairs_min, List.length_cons, List.length_cons]; omega
theorem wlk_zipB {K : Fg} {O : List Addr} {H1 : Hp} {ds es : List D} {a a2 : Addr} {vs us : List V} {t u : Bool} (n : some a ≠ b) (n2 : some a2 ≠ b) (h : SqB t K (hide O H1) a vs) (h2 : SqB u K (hide O H1) a2 us) (r : Reps K b (hide O H1) ds vs) (r2 : Reps K b (hide O H1) es us) : Wlk K b O (pairsD ds es) (ItzB t u K a a2) H1 := fun i H2 O2 x F => by
  have g1 : SqB t K H2 a vs := sqB_mono hide_le n (sqB_mono x.1 n h)
  have g2 : SqB u K H2 a2 us := sqB_mono hide_le n2 (sqB_mono x.1 n2 h2)
  refine ⟨fun d e => ?_, fun hi => ⟨vs, us, g1, g2, ?_⟩⟩
  · obtain ⟨v1, v2, e1, e2⟩ := pairs_at r r2 e
    refine ⟨⟨vs, us, v1, v2, g1, g2, e1, e2⟩, fun y H3 yl => ?_⟩
    obtain ⟨T, x1, y1, rfl, hT, rfl, f1, f2⟩ := yl
    exact zip_item F hT (r.mono x.1) (r2.mono x.1) e (f1 _ g1) (f2 _ g2)
  · rw [hi, pairs_min, r.length, r2.length]
theorem di_zipA {elts : List Expr} {kk : Nat} {tpos : Pos} (A : DE b H0 X a ga) (B : DE b H0 X c gb) (hg : Gl X "zip") (hm : X.mg "zip" = none) (hs : starEach [a, c] X.env = (false, eval a X.env) :: starEach [c] X.env := by rfl) (hs2 : starEach [c] X.env = (false, eval c X.env) :: starEach [] X.env := by rfl)
    (hpl : (backTo pos (starEach [c] X.env)).any (·.1) = false := by rfl) : DI b H0 X (.Tuple elts kk tpos) (.Call (.Name "zip" p) [a, c] [] pos) (gZipA ga gb) := by
  refine ⟨pi_imp (pi_zipB hg hm (pa_cons A.pe (pa_cons B.pe pa_nil hs2) hs) hs hpl) fun σ H Q ⟨σd, O, R, q⟩ => ?_, gZipA_mn A.mn B.mn⟩
  refine ⟨σd, O, R, A.mn _ _ _ (fun d z v H1 x1 r1 => ⟨σd, O, R.mono x1, B.mn _ _ _ (fun d2 z v2 H2 x2 r2 => ?_) z⟩) q⟩
  have r1 := r1.mono (x2.1.hide O)
  obtain ⟨t, u, ds, es, e1, e2, z⟩ := gZipA_seq (x := d) (y := d2) (k := fun ds => ∀ (J : It) (H' : Hp), Ext b H H' → Wlk X.K b O ds J H' → Q J H') z
  obtain ⟨a1, vs, rfl, n1, h1, s1⟩ := r1.seq e1
  obtain ⟨a2, us, rfl, n2, h2, s2⟩ := r2.seq e2
  exact ⟨t, u, a1, a2, vs, us, rfl, sqB_mono hide_le n1 h1, sqB_mono hide_le n2 h2, z _ _ (x1.trans x2) (wlk_zipB n1 n2 h1 h2 s1 s2)⟩
def enumD : Nat → List D → List D
  | _, [] => []
  | i, d :: r => .tup [.int i, d] :: enumD (i + 1) r
def gEnum (ga : GE) : GI := fun σ k => ga σ fun x => match x with
  | .lst ds => k (enumD 0 ds)
  | .tup ds => k (enumD 0 ds)
  | .frl _ ds => k (enumD 0 ds)
  | _ => False
end
end DL
/-! DI3 -/
set_option Elab.async false
set_option linter.all false
set_option maxRecDepth 100000
set_option maxHeartbeats 4000000
/-! +, * and slices of any data; constants and static methods of classes. -/
namespace DL
open PySem PySem.Spec PyProof.Rows L2
variable [TabC]
/-- + of ints, texts, lists, tuples -/
def dAddB : D → D → (D → Prop) → Prop := fun x y k => match x, y with
  | .int i, .int j => k (.int (i + j))
  | .str i, .str j => i.length + j.length ≤ 1000000 ∧ k (.str (i ++ j))
  | .lst i, .lst j => i.length + j.length ≤ 1000000 ∧ k (.lst (i ++ j))
  | .tup i, .tup j => i.length + j.length ≤ 1000000 ∧ k (.tup (i ++ j))
  | _, _ => False
theorem reps_nil_iff {K : Fg} {b : Option Addr} {H : Hp} {ds : List D} {vs : List V} (r : Reps K b H ds vs) : vs = [] ↔ ds = [] := by
  rw [← List.length_eq_zero_iff, ← List.length_eq_zero_iff, r.length]
section
variable {X : Cx} {b : Option Addr} {H0 : Hp} {a c e : Expr} {ga gb ge : GE} {pos p p2 : Pos}
theorem de_addB (A : DE b H0 X a ga) (B : DE b H0 X c gb) : DE b H0 X (.BinOp a .Add c pos) (g2 dAddB ga gb) := by
  refine de_opS (((op_add.or op_add_str).or op_catL).or L2.op_catA) ⟨fun x y k k' i q => ?_, fun O H dx dy x y Q F r1 r2 q => ?_⟩ A B
  · cases x <;> cases y <;> first | exact i _ q | exact ⟨q.1, i _ q.2⟩ | exact q.elim
  · cases dx <;> cases dy <;> first
      | exact q.elim
      | (cases r1.int; cases r2.int; exact .inl (.inl (.inl ⟨_, _, rfl, rfl, q _ H (.refl H) rfl⟩)))
      | (cases r1.str; cases r2.str; exact .inl (.inl (.inr ⟨_, _, rfl, rfl, line_m q.1, q.2 _ H (.refl H) rfl⟩)))
      | (obtain ⟨a1, vs, rfl, n1, h1, s1⟩ := r1.lst
         obtain ⟨a2, us, rfl, n2, h2, s2⟩ := r2.lst
         exact .inl (.inr ⟨a1, a2, vs, us, rfl, rfl, sqL_mono hide_le n1 h1, sqL_mono hide_le n2 h2, by rw [← s1.length, ← s2.length]; exact line_m q.1, fun p hp => q.2 _ _ (.new hp) (rep_newL F hp (s1.append s2))⟩))
      | (obtain ⟨a1, vs, rfl, n1, h1, s1⟩ := r1.tup
         obtain ⟨a2, us, rfl, n2, h2, s2⟩ := r2.tup
         refine .inr ⟨a1, a2, vs, us, rfl, rfl, sqT_mono hide_le n1 h1, sqT_mono hide_le n2 h2, by rw [← s1.length, ← s2.length]; exact line_m q.1, fun e => ?_, fun e e2 => ?_, fun e e2 p hp => q.2 _ _ (.new hp) (rep_newT F hp (s1.append s2))⟩
         · have := (reps_nil_iff s1).mp e
           subst this
           exact q.2 _ _ (.refl H) (Rep.mkTup n2 h2 s2)
         · have := (reps_nil_iff s2).mp e2
           subst this
           refine q.2 _ _ (.refl H) ?_
           rw [List.append_nil]
           exact Rep.mkTup n1 h1 s1)
/-! ### * -/
def dMulA : D → D → (D → Prop) → Prop := fun x y k => match x, y with
  | .int i, .int j => MulOk i j ∧ k (.int (i * j))
  | .str z, .int n => (0 ≤ n ∧ n ≤ 1000 ∧ z.length ≤ 1000) ∧ k (.str (Txt.mul z n))
  | _, _ => False
theorem mulS_ok {x : Str} {n : Int} (h0 : 0 ≤ n) (h1 : n ≤ 1000) (h2 : x.length ≤ 1000) : PySem.MulOk x n := by
  refine ⟨by simp; omega, fun hn _ => ?_, fun hn _ => ?_⟩
  · have hz : (x.length : Int) ≤ 1000 := by omega
    have : (1000 : Int) ≤ (2 ^ 63 - 1) / n := by
      rw [Int.le_ediv_iff_mul_le (by omega)]
      have : 1000 * n ≤ 1000 * 1000 := Int.mul_le_mul_of_nonneg_left h1 (by decide)
      have e : (1000 * 1000 : Int) ≤ 2 ^ 63 - 1 := by decide
      omega
    omega
  · unfold Builtin.Str.tooLong
    have : x.length * n.toNat ≤ 1000 * 1000 := Nat.mul_le_mul h2 (by omega)
    have e : (1000 * 1000 : Nat) ≤ sizeLine := by decide
    simp only [gt_iff_lt, decide_eq_false_iff_not]
    omega
def rMulS : R2 := fun x y H Q => ∃ z n, x = .str z ∧ y = .int n ∧ PySem.MulOk z n ∧ Q (.str (Txt.mul z n)) H
theorem op_mulS : OpR X (binaryOp .Mult) rMulS := by
  intro pins s σ H x y v u Q I rx ry h
  obtain ⟨z, n, rfl, rfl, hok, q⟩ := h
  obtain ⟨t, rfl⟩ : ∃ t, v = Value.str z t := rx
  obtain ⟨t', rfl⟩ : ∃ t, u = Value.int n t := ry
  exact SB.mul hok fun t' k => ⟨.str _, H, I.tok k, ⟨t', rfl⟩, q⟩
theorem de_mulA (A : DT b H0 X a ga) (B : DT b H0 X c gb) : DE b H0 X (.BinOp a .Mult c pos) (g2 dMulA ga gb) := by
  refine de_op (op_mulOk.or op_mulS) ⟨fun x y k k' i q => ?_, fun O H dx dy x y Q F r1 r2 q => ?_⟩ A B
  · cases x <;> cases y <;> first | exact ⟨q.1, i _ q.2⟩ | exact q.elim
  · cases dx <;> cases dy <;> first
      | exact q.elim
      | (cases r1.int; cases r2.int; exact .inl ⟨_, _, rfl, rfl, q.1, q.2 _ H (.refl H) rfl⟩)
      | (cases r1.str; cases r2.int; exact .inr ⟨_, _, rfl, rfl, mulS_ok q.1.1 q.1.2.1 q.1.2.2, q.2 _ H (.refl H) rfl⟩)
/-! ### slices, the whole too -/
def cutD (ds : List D) (lo hi : Option Int) : List D := (ds.drop (HT.sIx ds.length 0 lo)).take (HT.sIx ds.length ds.length hi - HT.sIx ds.length 0 lo)
def gSlA (ge : GE) (gl gh : StD → (Option Int → Prop) → Prop) : GE := fun σ k => ge σ fun d => gl σ fun lo => gh σ fun hi => match d with
  | .str z => z.length ≤ 1000000 ∧ k (.str (cutS z lo hi))
  | .lst ds => k (.lst (cutD ds lo hi))
  | .tup ds => k (.tup (cutD ds lo hi))
  | _ => False
theorem gSlA_mn {gl gh : StD → (Option Int → Prop) → Prop} (A : Mn ge) (B : Mn gl) (C : Mn gh) : Mn (gSlA ge gl gh) := fun σ k k' i q => A _ _ _ (fun d z => B _ _ _ (fun lo z => C _ _ _ (fun hi z => by
  cases d <;> first | exact ⟨z.1, i _ z.2⟩ | exact i _ z | exact z.elim) z) z) q
theorem cutD_whole {ds : List D} {lo hi : Option Int} (h : HT.sIx ds.length 0 lo = 0 ∧ HT.sIx ds.length ds.length hi = ds.length) : cutD ds lo hi = ds := by
  unfold cutD
  rw [h.1, h.2]
  simp
theorem de_slA {lo hi : Option Expr} {gl gh : StD → (Option Int → Prop) → Prop} (A : DE b H0 X e ge) (B : DP b H0 X lo gl) (C : DP b H0 X hi gh) : DE b H0 X (.Subscript e (.Slice lo hi none p2) pos) (gSlA ge gl gh) := by
  refine ⟨pe_imp (pe_slice ((sl_str.or sl_list).or L2.sl_tupA) A.pe B.po C.po) fun σ H Q ⟨σd, O, R, q⟩ => ?_, gSlA_mn A.mn B.mn C.mn⟩
  refine ⟨σd, O, R, A.mn _ _ _ (fun d z v H1 x1 r => ⟨σd, O, R.mono x1, B.mn _ _ _ (fun l z H2 x2 => ⟨σd, O, R.mono (x1.trans x2), C.mn _ _ _ (fun h z H3 x3 => ?_) z⟩) z⟩) q⟩
  have x := x1.trans (x2.trans x3)
  have r3 := (r.mono (x2.1.hide O)).mono (x3.1.hide O)
  have F3 : Fresh b O H3 := fun p hp => (R.mono x).free hp
  cases d with
  | str s => exact .inl (.inl ⟨s, r.str, line_m z.1, z.2 _ H3 x rfl⟩)
  | lst ds =>
    obtain ⟨a, vs, rfl, n, hs, rs⟩ := r3.lst
    exact .inl (.inr ⟨a, vs, rfl, sqL_mono hide_le n hs, fun p hp => z _ _ (x.trans (.new hp)) (rep_newL F3 hp (reps_cut rs l h))⟩)
  | tup ds =>
    obtain ⟨a, vs, rfl, n, hs, rs⟩ := r3.tup
    refine .inr ⟨a, vs, rfl, sqT_mono hide_le n hs, fun hw => ?_, fun hw p hp => z _ _ (x.trans (.new hp)) (rep_newT F3 hp (reps_cut rs l h))⟩
    rw [← rs.length] at hw
    have z : ∀ v H', Ext b H H' → Rep X.K b (hide O H') (.tup (cutD ds l h)) v → Q v H' := z
    rw [cutD_whole hw] at z
    exact z _ _ x (Rep.mkTup n hs rs)
  | _ => exact z.elim
/-! ### constants of classes -/
theorem readsGa {K : Fg} {C : Addr} (h : PySem.W.readsIn K C (.type "type") = true) : PySem.W.specialIn K (.ref C) "__getattribute__" = some (some (.builtin "type.__getattribute__")) := by
  unfold PySem.W.readsIn at h
  simp only [Bool.and_eq_true, beq_iff_eq] at h
  obtain ⟨⟨⟨⟨_, h2⟩, h3⟩, _⟩, _⟩ := h
  unfold PySem.W.specialIn
  rw [h2, Option.bind_some]
  exact h3
end
end DL
/-! DI4 -/
set_option Elab.async false
set_option linter.all false
set_option maxRecDepth 100000
set_option maxHeartbeats 4000000
/-! Binding of a call's values, by its shape; what is asked of own operators, as tests. -/
namespace DL
open PySem PySem.Spec PyProof.Rows L2
variable [TabC]
/-- n values, then keywords ks: bound to the parameters ps by ix, over the values, the keywords' values and the defaults -/
def Bnds (K : Fg) (fd : FuncData) (ps : List Str) (n : Nat) (ks : List Str) (ix : List Nat) (dus : List Value) : Prop :=
  ∀ (s : Shared) (us kus : List Value), K.In s.heap → us.length = n → kus.length = ks.length → BindsTo s fd ⟨us, ks.zip kus⟩ (ps.zip (pick ix (us ++ kus ++ dus)))
section
variable {P : Program} {w : World} {K : Fg} {mg : Str → Option Value} {base : Heap} {x qual : Str} {params : Arguments} {body : List Stmt} {scope : Scope} {dvs : List V} {kws : List (Str × V)} {f : Addr} {fd : FuncData} {ps : List Str}
theorem bnd00 (F : FunD K x qual params body scope [] kws f fd) (n : Nat) (ks : List Str) (ix : List Nat)
    (h : ∀ (kV doc pm : Value) (an : Option Addr) (cdv ct : Value) (us ws : List Value), us.length = n → ws.length = ks.length →
      bindArgs (PySem.W.fnOf x qual params body scope .none kV doc pm an cdv ct) ⟨us, ks.zip ws⟩ = pure (ps.zip (pick ix (us ++ ws ++ [])))) : Bnds K fd ps n ks ix [] := by
  obtain ⟨oc, od, dV, kV, doc, pm, an, cdv, ct, osl, rfl, lk, hcd, hD, hK⟩ := F.ex
  rcases hD with ⟨_, rfl⟩ | ⟨e, _⟩
  · exact fun s us ws X l1 l2 => .of_eq (h kV doc pm an cdv ct us ws l1 l2)
  · exact absurd rfl e
theorem bnd10 (F : FunD K x qual params body scope dvs kws f fd) (n : Nat) (ks : List Str) (ix : List Nat) (hd : dvs ≠ [])
    (h : ∀ (T : Addr) (kV doc pm : Value) (an : Option Addr) (cdv ct : Value) (us its ws : List Value), us.length = n → its.length = dvs.length → ws.length = ks.length →
      ∃ k, bindArgs (PySem.W.fnOf x qual params body scope (.ref T) kV doc pm an cdv ct) ⟨us, ks.zip ws⟩ = seqItems? (.ref T) >>= k ∧ k (some its.toArray) = pure (ps.zip (pick ix (us ++ ws ++ its)))) :
    ∃ dus, Vals dvs dus ∧ Bnds K fd ps n ks ix dus := by
  obtain ⟨oc, od, dV, kV, doc, pm, an, cdv, ct, osl, rfl, lk, hcd, hD, hK⟩ := F.ex
  rcases hD with ⟨e, _⟩ | ⟨_, T, o, its, m, rfl, lT, oT, rT⟩
  · exact absurd e hd
  · refine ⟨its, rT, fun s us ws X l1 l2 => ?_⟩
    obtain ⟨k, e1, e2⟩ := h T kV doc pm an cdv ct us its ws l1 rT.length.symm l2
    refine BindsTo.of_looks fun M => ?_
    rw [e1]
    exact looks_items X lT oT (.of_pure e2)
theorem bnd11 (F : FunD K x qual params body scope dvs kws f fd) (n : Nat) (ks : List Str) (ix : List Nat) (ms : List (Str × V)) (hd : dvs ≠ []) (hk : kws ≠ []) (hms : ∀ q ∈ ms, q ∈ kws)
    (h : ∀ (T D : Addr) (doc pm : Value) (an : Option Addr) (cdv ct : Value) (us its mv ws : List Value), us.length = n → its.length = dvs.length → mv.length = ms.length → ws.length = ks.length →
      ∃ k, bindArgs (PySem.W.fnOf x qual params body scope (.ref T) (.ref D) doc pm an cdv ct) ⟨us, ks.zip ws⟩ = seqItems? (.ref T) >>= k ∧ KwChain D ((ms.map (·.1)).zip mv) (k (some its.toArray)) (ps.zip (pick ix (us ++ ws ++ (its ++ mv))))) :
    ∃ dus, Vals (dvs ++ ms.map (·.2)) dus ∧ Bnds K fd ps n ks ix dus := by
  obtain ⟨oc, od, dV, kV, doc, pm, an, cdv, ct, osl, rfl, lk, hcd, hD, hK⟩ := F.ex
  rcases hD with ⟨e, _⟩ | ⟨_, T, o, its, m, rfl, lT, oT, rT⟩
  · exact absurd e hd
  · rcases hK with e | ⟨D, rfl, hq⟩
    · exact absurd e hk
    · obtain ⟨mv, hl, rk, hks⟩ := kwd_vals (ms := ms) fun q hm => hq q (hms q hm)
      refine ⟨its ++ mv, rT.append rk, fun s us ws X l1 l2 => ?_⟩
      obtain ⟨k, e1, e2⟩ := h T D doc pm an cdv ct us its mv ws l1 rT.length.symm hl l2
      refine BindsTo.of_looks fun M => ?_
      rw [e1]
      exact looks_items X lT oT (KwChain.looks X hks e2)
theorem FnOk.cb {s : GS} {k : Nat} {dd : List D} {dvs : List V} {n : Nat} {ks : List Str} {ix : List Nat} (F : FnOk P w K mg base (L2.CX P w) k f fd ps (lift K s)) (hdd : ∀ b H, Reps K b H dd dvs) (hb : ∃ dus, Vals dvs dus ∧ Bnds K fd ps n ks ix dus) : FnC P w K mg base k f ks (lift K (shp (n + ks.length) ix dd s)) := by
  obtain ⟨dus, hd, hb⟩ := hb
  exact FnOk.cs F n ks ix hd hdd hb
theorem FnOk.cbI {s : GSI} {k : Nat} {dd : List D} {dvs : List V} {n : Nat} {ks : List Str} {ix : List Nat} (F : FnOk P w K mg base (L2.CX P w) k f fd ps (liftI K s)) (hdd : ∀ b H, Reps K b H dd dvs) (hb : ∃ dus, Vals dvs dus ∧ Bnds K fd ps (n + 1) ks (0 :: ix.map (· + 1)) dus) : FnC P w K mg base k f ks (liftI K (shpI (n + ks.length) ix dd s)) := by
  obtain ⟨dus, hd, hb⟩ := hb
  exact FnOk.cI F n ks ix hd hdd hb
/-- all parameters by position -/
theorem FnOk.c0 {sp : Sp} {k : Nat} (F : FnOk P w K mg base (L2.CX P w) k f fd ps sp) (hb : Binds K fd ps []) : FnC P w K mg base k f [] sp := fun A outer s H us kus vs Q E hr e0 hk r h => by
  have : kus = [] := List.length_eq_zero_iff.mp hk
  subst this
  rw [List.append_nil] at r
  have hl : us.length = ps.length := by rw [← r.length]; exact F.len _ _ _ _ h
  have := hb s us (e0.mod.kin.keeps fun b o e => (e0.bs b o e).1) (by simpa using hl)
  exact F.run A outer s H ⟨us, []⟩ us vs Q E hr e0 (by simpa using this) r h
end
/-! ### own operators, by a test -/
def isRefO (o : Option Value) : Bool := match o with
  | none => true
  | some (.ref _) => true
  | _ => false
def ownB2 (K : Fg) (C : Addr) (op : Operator) (f : Addr) : Bool :=
  decide (PySem.W.findIn K (.ref C) (PySem.dunder op.info.2) = some (some (.ref f))) && (PySem.W.isFn K (.ref f) && (PySem.W.selfFirst K C && ((match PySem.W.findIn K (.ref C) (PySem.dunderR op.info.2) with | some rc => isRefO rc | none => false) &&
    ((PySem.W.findIn K (.type "int") (PySem.dunder op.info.2)).isSome && ((PySem.W.findIn K (.type "int") (PySem.dunderR op.info.2)).isSome && decide (PySem.W.subIn K (.type "int") (.ref C) = some false))))))
theorem ownB2_ok {K : Fg} {C : Addr} {op : Operator} {f : Addr} (h : ownB2 K C op f = true) : OwnB K C op f := by
  unfold ownB2 at h
  simp only [Bool.and_eq_true, decide_eq_true_eq] at h
  obtain ⟨h1, h2, h3, h4, h5, h6, h7⟩ := h
  refine ⟨h1, h2, h3, ?_, ?_, h7⟩
  · split at h4
    · rename_i rc e
      refine ⟨rc, e, ?_⟩
      cases rc with
      | none => exact .inl rfl
      | some v =>
        cases v with
        | ref g => exact .inr ⟨g, rfl⟩
        | _ => cases h4
    · cases h4
  · obtain ⟨a, ha⟩ := Option.isSome_iff_exists.mp h5
    obtain ⟨c, hc⟩ := Option.isSome_iff_exists.mp h6
    exact ⟨a, c, ha, hc⟩
def ownB1 (K : Fg) (C : Addr) (m : Str) (f : Addr) : Bool := decide (PySem.W.findIn K (.ref C) m = some (some (.ref f))) && PySem.W.isFn K (.ref f)
theorem ownB1_ok {K : Fg} {C : Addr} {m : Str} {f : Addr} (h : ownB1 K C m f = true) : Own K C m f := by
  unfold ownB1 at h
  simp only [Bool.and_eq_true, decide_eq_true_eq] at h
  exact ⟨h.1, h.2⟩
/-- != by the own __eq__ -/
def ownNeB (K : Fg) (C : Addr) : Bool := decide (PySem.W.findIn K (.ref C) "__ne__" = some (some (.builtin "object.__ne__"))) && decide (PySem.W.subIn K (.ref C) (.type "object") = some true)
theorem ownNeB_ok {K : Fg} {C : Addr} (h : ownNeB K C = true) : PySem.W.findIn K (.ref C) "__ne__" = some (some (.builtin "object.__ne__")) ∧ PySem.W.subIn K (.ref C) (.type "object") = some true := by
  unfold ownNeB at h
  simp only [Bool.and_eq_true, decide_eq_true_eq] at h
  exact h
end DL
namespace DL
open PySem PySem.Spec PyProof.Rows L2
variable [TabC]
/-- keywords' values, their number known -/
structure DKN (b : Option Addr) (H0 : Hp) (X : Cx) (kws : List Keyword) (n : Nat) (g : GA) : Prop where
  dk : DK b H0 X kws g
  ln : ∀ σ (k : List D → Prop), g σ k → g σ fun ds => ds.length = n ∧ k ds
section
variable {X : Cx} {b : Option Addr} {H0 : Hp} {e : Expr} {es : List Expr} {kws : List Keyword} {g ga gk : GA} {ge : GE} {pos kpos : Pos} {ks : List Str} {n : Nat} {nm : Option Str}
theorem dkn_nil : DKN b H0 X [] 0 gNil := ⟨dk_nil, kn_nil⟩
theorem dkn_cons (A : DE b H0 X e ge) (B : DKN b H0 X kws n g) : DKN b H0 X (⟨nm, e, kpos⟩ :: kws) (n + 1) (gCons ge g) := ⟨dk_cons A B.dk, kn_cons A.mn B.dk.mn B.ln⟩
theorem dca_k0 (B : DKN b H0 X kws n gk) (hall : (backToKw pos (keywordEach kws X.env)).all (·.1.isSome) = true := by rfl) (hks : (backToKw pos (keywordEach kws X.env)).filterMap (·.1) = ks := by rfl) (hl : n = ks.length := by rfl) (hl2 : kws.length = ks.length := by rfl)
    (hpl : ((backTo pos (starEach [] X.env)).any (·.1) || (backToKw pos (keywordEach kws X.env)).any (·.1.isNone)) = false := by rfl) : DCA b H0 X pos [] kws ks gk := dca_kw0 B.dk hall hks hl2 hpl (by subst hl; exact B.ln)
theorem dca_k (A : DAr b H0 X (e :: es) ga) (B : DKN b H0 X kws n gk) (hall : (backToKw pos (keywordEach kws X.env)).all (·.1.isSome) = true := by rfl) (hks : (backToKw pos (keywordEach kws X.env)).filterMap (·.1) = ks := by rfl) (hl : n = ks.length := by rfl)
    (hpl : ((backTo pos (starEach (e :: es) X.env)).any (·.1) || (backToKw pos (keywordEach kws X.env)).any (·.1.isNone)) = false := by rfl) (he : starEach (e :: es) X.env = (false, eval e X.env) :: starEach es X.env := by rfl) :
    DCA b H0 X pos (e :: es) kws ks (gApp ga gk) := dca_kw A B.dk hall hks hpl he (by subst hl; exact B.ln)
end
end DL
/-! DJ1 -/
set_option Elab.async false
set_option linter.all false
set_option maxRecDepth 100000
set_option maxHeartbeats 4000000
/-! Lists that the frame owns: made, appended to, given away. -/
namespace DL
open PySem PySem.Spec PyProof.Rows L2
variable [TabC]
theorem hide_freshO {O : List Addr} {H : Hp} {p : Addr} (h : H p = none) : DL.hide (p :: O) H = DL.hide O H := by
  funext c
  by_cases e : c = p
  · subst e
    rw [hide_in List.mem_cons_self]
    unfold DL.hide
    split
    · rfl
    · exact h.symm
  · by_cases m : c ∈ O
    · rw [hide_in (List.mem_cons_of_mem _ m), hide_in m]
    · rw [hide_out m, hide_out (fun z => by rcases List.mem_cons.mp z with z | z; exact e z; exact m z)]
theorem hide_newO {O : List Addr} {H : Hp} {p : Addr} {o : HO} (h : H p = none) : DL.hide (p :: O) (upd H p o) = DL.hide O H := by
  rw [hide_upd List.mem_cons_self, hide_freshO h]
section
variable {K : Fg} {b : Option Addr} {H0 H : Hp} {σd : StD} {σ : L2.St} {O : List Addr}
theorem owns_in {s : SD} {v : Option V} {a : Addr} (h : Owns s v a) (q : SlotOk K b O H s v) : a ∈ O := by
  cases s with
  | own ds =>
    obtain ⟨c, vs, rfl, m, _⟩ := q
    have h : a = c := h
    rw [h]; exact m
  | owd kx ds =>
    obtain ⟨c, vs, rfl, m, _⟩ := q
    have h : a = c := h
    rw [h]; exact m
  | obj c dx n ns ds =>
    obtain ⟨vs, rfl, m, _⟩ := q
    have h : a = c := h
    rw [h]; exact m
  | _ => cases v <;> exact h.elim
theorem Rst.setO (R : Rst K b H0 σd σ H O) {ds : List D} {vs : List V} {p : Addr} (i : Nat) (hp : H p = none) (r : Reps K b (hide O H) ds vs) : Rst K b H0 (put σd i (.own ds)) (σ.set i (some (.ref p))) (upd H p (.lst vs)) (p :: O) where
  len := by rw [put_length, List.length_set]; exact R.len
  slot := fun j => by
    rw [look_put2, getD_set, R.len]
    by_cases h : j = i ∧ i < σ.length
    · rw [if_pos h, if_pos h]
      exact ⟨p, vs, rfl, List.mem_cons_self, upd_same, by rw [hide_newO hp]; exact r⟩
    · rw [if_neg h, if_neg h]
      have s := R.slot j
      cases e : look σd j with
      | unset => trivial
      | sh d =>
        rw [e] at s
        obtain ⟨v, e1, r1⟩ := s
        exact ⟨v, e1, by rw [hide_newO hp]; exact r1⟩
      | own es =>
        rw [e] at s
        obtain ⟨a, us, e1, m, h1, r1⟩ := s
        exact ⟨a, us, e1, List.mem_cons_of_mem _ m, by rw [upd_ne (ne_of_none h1 hp)]; exact h1, by rw [hide_newO hp]; exact r1⟩
      | owd kx es =>
        rw [e] at s
        obtain ⟨a, us, e1, m, h1, r1⟩ := s
        exact ⟨a, us, e1, List.mem_cons_of_mem _ m, by rw [upd_ne (ne_of_none h1 hp)]; exact h1, by rw [hide_newO hp]; exact r1⟩
      | obj a dx c ns es =>
        rw [e] at s
        obtain ⟨us, e1, m, md, h1, h2, l, r1⟩ := s
        exact ⟨us, e1, List.mem_cons_of_mem _ m, List.mem_cons_of_mem _ md, by rw [upd_ne (ne_of_none h1 hp)]; exact h1, by rw [upd_ne (ne_of_none h2 hp)]; exact h2, l, by rw [hide_newO hp]; exact r1⟩
  uniq := fun j k a h1 h2 => by
    rw [look_put2, getD_set, R.len] at h1 h2
    have np : ∀ {k}, Owns (look σd k) (σ.getD k none) p → False := fun {k} z => (R.free hp).1 (owns_in z (R.slot k))
    by_cases hj : j = i ∧ i < σ.length
    · rw [if_pos hj, if_pos hj] at h1
      have h1 : a = p := h1
      subst h1
      by_cases hk : k = i ∧ i < σ.length
      · rw [hj.1, hk.1]
      · rw [if_neg hk, if_neg hk] at h2
        exact (np h2).elim
    · rw [if_neg hj, if_neg hj] at h1
      by_cases hk : k = i ∧ i < σ.length
      · rw [if_pos hk, if_pos hk] at h2
        have h2 : a = p := h2
        subst h2
        exact (np h1).elim
      · rw [if_neg hk, if_neg hk] at h2
        exact R.uniq j k a h1 h2
  nb := fun a m => by
    rcases List.mem_cons.mp m with e | m
    · subst e
      exact ⟨(R.free hp).2, trivial, .lst vs, upd_same, trivial⟩
    · obtain ⟨n1, _, o, e, q⟩ := R.nb a m
      refine ⟨n1, trivial, o, by rw [upd_ne (ne_of_none e hp)]; exact e, ?_⟩
      cases o with
      | lst _ => trivial
      | dK _ => trivial
      | ins _ dx _ => exact List.mem_cons_of_mem _ q
      | own x =>
        obtain ⟨q1, C, fs, q2⟩ := q
        exact ⟨List.mem_cons_of_mem _ q1, C, fs, by rw [upd_ne (ne_of_none q2 hp)]; exact q2⟩
      | _ => exact q.elim
  le := by rw [hide_newO hp]; exact R.le
  bg := by rw [hide_newO hp]; exact R.bg
/-- the list of the slot i is written -/
theorem Rst.wrO (R : Rst K b H0 σd σ H O) {ds es : List D} {vs us : List V} {a : Addr} {i : Nat} (hi : look σd i = .own ds) (hs : σ.getD i none = some (.ref a)) (ha : H a = some (.lst vs)) (hm : a ∈ O) (r : Reps K b (hide O H) es us) : Rst K b H0 (put σd i (.own es)) σ (upd H a (.lst us)) O where
  len := by rw [put_length]; exact R.len
  slot := fun j => by
    rw [look_put2]
    by_cases h : j = i ∧ i < σd.length
    · rw [if_pos h, h.1, hs]
      exact ⟨a, us, rfl, hm, upd_same, by rw [hide_upd hm]; exact r⟩
    · rw [if_neg h]
      have s := R.slot j
      have oi : Owns (look σd i) (σ.getD i none) a := by rw [hi, hs]; exact rfl
      have li : i < σd.length := by
        rcases Nat.lt_or_ge i σd.length with z | z
        · exact z
        · rw [look_out z] at hi; cases hi
      have ne : ∀ c, Owns (look σd j) (σ.getD j none) c → c ≠ a := fun c z w => h ⟨R.uniq j i a (by rw [← w]; exact z) oi, li⟩
      cases e : look σd j with
      | unset => trivial
      | sh d =>
        rw [e] at s
        obtain ⟨v, e1, r1⟩ := s
        exact ⟨v, e1, by rw [hide_upd hm]; exact r1⟩
      | own fs =>
        rw [e] at s
        obtain ⟨c, ws, e1, m, h1, r1⟩ := s
        exact ⟨c, ws, e1, m, by rw [upd_ne (ne c (by rw [e, e1]; exact rfl))]; exact h1, by rw [hide_upd hm]; exact r1⟩
      | owd kx fs =>
        rw [e] at s
        obtain ⟨c, ws, e1, m, h1, r1⟩ := s
        exact ⟨c, ws, e1, m, by rw [upd_ne (ne c (by rw [e, e1]; exact rfl))]; exact h1, by rw [hide_upd hm]; exact r1⟩
      | obj c dx n ns fs =>
        rw [e] at s
        obtain ⟨ws, e1, m, md, h1, h2, l, r1⟩ := s
        exact ⟨ws, e1, m, md, by rw [upd_ne (ne_of h1 ha (by simp))]; exact h1, by rw [upd_ne (ne_of h2 ha (by simp))]; exact h2, l, by rw [hide_upd hm]; exact r1⟩
  uniq := fun j k c h1 h2 => by
    have key : ∀ {j}, Owns (look (put σd i (.own es)) j) (σ.getD j none) c → Owns (look σd j) (σ.getD j none) c := fun {j} z => by
      rw [look_put2] at z
      by_cases h : j = i ∧ i < σd.length
      · rw [if_pos h] at z
        rw [h.1, hs] at z
        rw [h.1, hi, hs]; exact z
      · rw [if_neg h] at z; exact z
    exact R.uniq j k c (key h1) (key h2)
  nb := fun c m => by
    obtain ⟨n1, _, o, e, q⟩ := R.nb c m
    by_cases hc : c = a
    · subst hc
      exact ⟨n1, trivial, .lst us, upd_same, trivial⟩
    · refine ⟨n1, trivial, o, by rw [upd_ne hc]; exact e, ?_⟩
      cases o with
      | lst _ => trivial
      | dK _ => trivial
      | ins _ dx _ => exact q
      | own x =>
        obtain ⟨q1, C, fs, q2⟩ := q
        exact ⟨q1, C, fs, by rw [upd_ne (ne_of q2 ha (by simp))]; exact q2⟩
      | _ => exact q.elim
  le := by rw [hide_upd hm]; exact R.le
  bg := by rw [hide_upd hm]; exact R.bg
end
section
variable {X : Cx} {b : Option Addr} {H0 : Hp} {pos pos' : Pos} {e : Expr} {es : List Expr} {ge : GE} {ga : GA} {x : Str} {i : Nat} {sts : List Stmt} {g : GSt}
/-- x = [..], the list the frame's own -/
def gAsgO (i : Nat) (ga : GA) : GSt := fun D σ => ga σ fun ds => ds.length ≤ 1000 ∧ D.nx (put σ i (.own ds))
theorem gAsgO_mn (A : Mn ga) : MnD (gAsgO i ga) := fun D D' σ h1 _ _ _ q => A _ _ _ (fun _ z => ⟨z.1, h1 _ z.2⟩) q
theorem ds_asgO {lp : Pos} (hN : X.N.Nodup) (hi : X.N[i]? = some x) (hx : Loc X.env.scope x) (A : DAr b H0 X es ga) (hs : swapsWith (.List es lp) (some (.Name x pos')) pos.line X.env = pure false := by rfl) (hf : X.fn x = true ∨ X.env.scope.names.lookup x = some .local := by first | exact .inl rfl | exact .inr rfl | assumption) :
    DS b H0 X (.Assign [.Name x pos'] (.List es lp) pos) (gAsgO i ga) :=
  ⟨ps_imp (ps_set hN hi hx (pe_lst A.pa) hs hf) fun D σ H ⟨σd, O, R, q⟩ => ⟨σd, O, R, A.mn _ _ _ (fun ds z vs H1 x1 r => ⟨by rw [← r.length]; exact Nat.le_trans z.1 (by decide), fun p hp => by
    have R1 := (R.mono x1).setO i hp r
    exact z.2 _ _ _ R1 (by rw [hide_newO hp]; exact R.hx x1)⟩) q⟩, gAsgO_mn A.mn⟩
/-- x.append(e) -/
def gPsh (i : Nat) (ge : GE) : GSt := fun D σ => match look σ i with | .own ds => ge σ fun d => ds.length < 100000 ∧ D.nx (put σ i (.own (ds ++ [d]))) | _ => False
theorem gPsh_mn (A : Mn ge) : MnD (gPsh i ge) := fun D D' σ h1 _ _ _ q => by
  unfold gPsh at q ⊢
  cases e : look σ i <;> rw [e] at q <;> first | exact A _ _ _ (fun d z => ⟨z.1, h1 _ z.2⟩) q | exact q.elim
theorem ds_app {apos cpos p : Pos} (hN : X.N[i]? = some x) (hv : Vis X.env.scope x) (A : DE b H0 X e ge) (hs : swapsWith (.Call (.Attribute (.Name x p) "append" apos) [e] [] cpos) none pos.line X.env = pure false := by rfl)
    (hfew : ((backTo cpos (starEach [e] X.env)).all (fun x => !x.1) && (backToKw cpos (keywordEach [] X.env)).all (fun x => x.1.isSome) && decide ([e].length + ([] : List Keyword).length + (if ([] : List Keyword).isEmpty then 0 else 1) < 30)) = true := by rfl)
    (hbase : attributeBase (.Name x p) "append" X.env (eval (.Name x p) X.env) = eval (.Name x p) X.env := by rfl) (hplain : (backTo cpos (starEach [] X.env)).any (·.1) = false := by rfl)
    (hline : (apos.endLine == cpos.line) = true := by rfl) (hst : starEach [e] X.env = (false, eval e X.env) :: starEach [] X.env := by rfl) (hd : (x == ("__debug__" : Str)) = false := by decide) (hcd : (x == ("__classdict__" : Str)) = false := by decide) :
    DS b H0 X (.Expr (.Call (.Attribute (.Name x p) "append" apos) [e] [] cpos) pos) (gPsh i ge) :=
  ⟨ps_imp (ps_expr (pe_bm PySem.F.plainAttrs_list PySem.F.slot_list_append PySem.F.type_list_append mt_append (pe_var hN hv hd hcd) (pa_cons A.pe pa_nil hst) hbase hfew hline hst hplain) hs) fun D σ H ⟨σd, O, R, q⟩ => by
    unfold gPsh at q
    cases hl : look σd i with
    | own ds =>
      rw [hl] at q
      have s := R.slot i
      rw [hl] at s
      obtain ⟨a, vs, e1, m, h1, _⟩ := s
      refine ⟨.ref a, getD_some e1, .inl ⟨rfl, vs, .inl (.inl h1)⟩, σd, O, R, A.mn _ _ _ (fun d z v H1 x1 r => ?_) q⟩
      have R1 := R.mono x1
      have s := R1.slot i
      rw [hl, e1] at s
      obtain ⟨a', vs', e2, m', h1', r'⟩ := s
      cases e2
      refine ⟨a, vs', v, rfl, rfl, h1', ?_, ?_⟩
      · rw [← r'.length]; exact Nat.lt_of_lt_of_le z.1 (by decide)
      · exact z.2 _ _ _ (R1.wrO hl e1 h1' m (r'.append (Reps.cons r Reps.nil))) (by rw [hide_upd m]; exact R.hx x1)
    | _ => rw [hl] at q; exact q.elim, gPsh_mn A.mn⟩
end
end DL
/-! DJ2 -/
set_option Elab.async false
set_option linter.all false
set_option maxRecDepth 100000
set_option maxHeartbeats 4000000
/-! Lambdas as data; a lambda called from a frame above the one that made it. -/
namespace DL
open PySem PySem.Spec PyProof.Rows L2
variable [TabC]
structure LamI (env : Env) (params : Arguments) (body : Expr) (scope : Scope) (o : LamO) : Prop where
  q : o.q = env.qual ++ "<lambda>"
  pr : o.params = params
  bd : o.body = body
  sc : o.scope = scope
  cl : o.cl = cloFrom env.cells scope.names []
section
variable {X : Cx} {pins : List (Addr × Obj)} {σ : L2.St} {H : Hp} {s : Shared}
theorem fnH_ok {P : Program} {w : World} {H : Hp} {h : Heap} {f : Addr} {o : LamO} (e : h.get? f = some o.obj) : ObjOk P w H h f (FnH f o) := ⟨e, ⟨_, e⟩, fun _ _ z st => st _ z⟩
/-- the lambda is made; its function object is tracked -/
theorem lam_mk {T : List (Addr × Str)} {ca tb : Addr} {prm : Arguments} {bd : Expr} {sc : Scope} {lp : Pos} {Ex Qx : Value → Shared → Prop} (J : Inv X pins σ H s) (tB : LamX.TabB X.base X.mg ca tb) (eC : X.env.code = .ref ca)
    (mT : (tb, X.env.qual ++ "<lambda>") ∈ T) (uT : ∀ p ∈ T, p.1 = tb → p.2 = X.env.qual ++ "<lambda>") (tT : LamX.Tabs T H) (nD : defaultsOf prm X.env = ([], [])) (fV : ∀ y ∈ sc.names, y.2 = .free → ∃ c, X.env.cells.lookup y.1 = some c)
    (k : ∀ (o : LamO) (f : Addr) (H1 : Hp) (s' : Shared), LamI X.env prm bd sc o → Inv X pins σ H1 s' → LamX.ExtN H H1 → LamX.Tabs T H1 → H f = none → H1 f = some (FnH f o) → H1 o.c' = some (LamX.CodeO o.c' o.q) → Qx (.ref f) s') :
    wpAny (model X.prog X.w) X.A (eval (.Lambda prm bd sc lp) X.env) Qx Ex s := by
  refine PySem.W.kla_eval nD ?_
  have ex := tT _ mT
  have eB : s.heap.BuiltinsAt X.mg tb := tB.bm.keeps J.bk
  have eG := J.mod.glob.keeps J.bk
  have eH := tB.code.keeps J.bk
  have eK := LamX.TabB.gP tB
  have eL := closure_ok fV
  have e0 := J.ok.glob
  obtain ⟨rows, atT, okT, amT⟩ := ex
  have ob : s.heap.get? tb = some { cls := .none, data := .fields rows } := J.hok tb _ atT
  cases hit : codeAmong lp rows.toList with
  | some cv =>
    obtain ⟨cc, ecc, atC⟩ := amT lp cv hit
    subst ecc
    refine PySem.W.kla_makeFunctionHit eL e0 eG eC eH ob okT hit eB fun ctv h2 tk keep sz => ?_
    let o : LamO := ⟨X.env.qual ++ "<lambda>", prm, bd, sc, cloFrom X.env.cells sc.names [], (X.mg "__name__").getD .none, cc, ctv⟩
    have eo : (h2.push o.obj).get? h2.objs.size = some o.obj := Heap.get?_push_size _ rfl
    have J2 : Inv X pins σ (upd H h2.objs.size (FnH h2.objs.size o)) { s with heap := h2.push o.obj, toks := tk } := J.laid (fun b u e => Heap.get?_push_of_some _ (keep b u e)) sz (fnH_ok eo)
    have nF : H h2.objs.size = none := J.hok.fresh sz
    have xx : ∀ b u, H b = some u → upd H h2.objs.size (FnH h2.objs.size o) b = some u := fun b u e => by rw [upd_ne (ne_of_none e nF)]; exact e
    exact k o h2.objs.size _ _ ⟨rfl, rfl, rfl, rfl, rfl⟩ J2 (LamX.ExtN.of xx) (tT.ext xx) nF upd_same (xx _ _ atC)
  | none =>
    refine PySem.W.kla_makeFunction eL e0 eG eC eH ob okT hit eK eB fun cc ctv h2 tk xb ge lt rec_ tbl => ?_
    obtain ⟨c2, oc, vs, t, ec, hoc, hd, hv⟩ := rec_
    cases ec
    let o : LamO := ⟨X.env.qual ++ "<lambda>", prm, bd, sc, cloFrom X.env.cells sc.names [], (X.mg "__name__").getD .none, cc, ctv⟩
    have sz : s.heap.objs.size ≤ h2.objs.size := Nat.le_trans ge (Nat.le_of_lt lt)
    have nC : H cc = none := J.hok.fresh ge
    have nF : H h2.objs.size = none := J.hok.fresh sz
    have J1 := LamX.inv_table (q := X.env.qual ++ "<lambda>") (t' := tk) (more := #[rawInt lp.line, rawInt lp.col, .ref cc]) (h' := h2) J atT (fun b u n e => xb b u n e) tbl ge ⟨oc, vs, t, hoc, hd, hv⟩
    have nF1 : upd (upd H tb (.tbl (rows ++ #[rawInt lp.line, rawInt lp.col, .ref cc]))) cc (LamX.CodeO cc (X.env.qual ++ "<lambda>")) h2.objs.size = none := J1.hok.fresh (Nat.le_refl _)
    have eo : (h2.push o.obj).get? h2.objs.size = some o.obj := Heap.get?_push_size _ rfl
    have J2 := J1.laid (a := h2.objs.size) (o := FnH h2.objs.size o) (t' := tk) (h' := h2.push o.obj) (fun b u e => Heap.get?_push_of_some _ e) (Nat.le_refl _) (fnH_ok eo)
    have x1 : LamX.ExtN H (upd (upd H tb (.tbl (rows ++ #[rawInt lp.line, rawInt lp.col, .ref cc]))) cc (LamX.CodeO cc (X.env.qual ++ "<lambda>"))) := fun b u e n => by
      rw [upd_ne (ne_of_none e nC), upd_ne (fun z => n rows (Option.some.inj ((z ▸ e).symm.trans atT)))]; exact e
    have x2 : ∀ b u, upd (upd H tb (.tbl (rows ++ #[rawInt lp.line, rawInt lp.col, .ref cc]))) cc (LamX.CodeO cc (X.env.qual ++ "<lambda>")) b = some u → upd (upd (upd H tb (.tbl (rows ++ #[rawInt lp.line, rawInt lp.col, .ref cc]))) cc (LamX.CodeO cc (X.env.qual ++ "<lambda>"))) h2.objs.size (FnH h2.objs.size o) b = some u := fun b u e => by rw [upd_ne (ne_of_none e nF1)]; exact e
    have tT1 : LamX.Tabs T (upd (upd H tb (.tbl (rows ++ #[rawInt lp.line, rawInt lp.col, .ref cc]))) cc (LamX.CodeO cc (X.env.qual ++ "<lambda>"))) := fun p hp => by
      by_cases e : p.1 = tb
      · rw [uT p hp e, e]
        have eT : (rows ++ #[rawInt lp.line, rawInt lp.col, .ref cc]).toList = rows.toList ++ [rawInt lp.line, rawInt lp.col, .ref cc] := by simp
        refine ⟨rows ++ #[rawInt lp.line, rawInt lp.col, .ref cc], by rw [upd_ne (ne_of_none atT nC), upd_same], by rw [eT]; exact PySem.TriplesOk_snoc _ _ _ _ okT, fun p' cv hcv => ?_⟩
        rw [eT] at hcv
        rcases LamX.among_app _ okT hcv with z | z
        · obtain ⟨c0, z1, z2⟩ := amT p' cv z
          exact ⟨c0, z1, x1 _ _ z2 LamX.codeO_ne⟩
        · exact ⟨cc, z, upd_same⟩
      · obtain ⟨rs, z1, z2, z3⟩ := tT p hp
        refine ⟨rs, by rw [upd_ne (ne_of_none z1 nC), upd_ne e]; exact z1, z2, fun p' cv hcv => ?_⟩
        obtain ⟨c0, y1, y2⟩ := z3 p' cv hcv
        exact ⟨c0, y1, x1 _ _ y2 LamX.codeO_ne⟩
    exact k o h2.objs.size _ _ ⟨rfl, rfl, rfl, rfl, rfl⟩ J2 (x1.trans (LamX.ExtN.of x2)) (tT1.ext x2) nF upd_same (x2 _ _ upd_same)
end
section
variable {X : Cx} {b : Option Addr} {H0 : Hp}
/-- lambda: body, as a value -/
def gLam (env : Env) (params : Arguments) (body : Expr) (scope : Scope) : GE := fun σ k => ∀ o : LamO, LamI env params body scope o → k (.clo o)
theorem gLam_mn {env : Env} {params : Arguments} {body : Expr} {scope : Scope} : Mn (gLam env params body scope) := fun σ k k' i q o h => i _ (q o h)
theorem de_lam {c P : Addr} {params : Arguments} {body : Expr} {scope : Scope} {lp : Pos} (TB : LamX.TabB X.base X.mg c P) (hcode : X.env.code = .ref c) (hmT : (P, X.env.qual ++ "<lambda>") ∈ TabC.T) (hu : ∀ p ∈ TabC.T, p.1 = P → p.2 = X.env.qual ++ "<lambda>") (hT0 : LamX.Tabs TabC.T H0)
    (L : LamX.LamS X.env.scope scope) (hdef : defaultsOf params X.env = ([], [])) : DE b H0 X (.Lambda params body scope lp) (gLam X.env params body scope) :=
  ⟨⟨fun pins s σ H Q I ⟨σd, O, R, q⟩ => lam_mk I TB hcode hmT hu (tabs_unhide (R.le.2.2 hT0)) hdef (L.has I.ok) fun o f H1 s' ho I1 eN T1 hf hf1 hc1 => by
    have nn : ∀ {u : HO}, nt u = true → ∀ ps, u ≠ .tbl ps := fun {u} h ps z => by subst z; cases h
    have xH : Ext b H H1 := ⟨fun a u _ e t => eN a u e (nn t), fun a e c i j m h h0 => ⟨i, j, h0, eN _ _ h (nn rfl)⟩, fun _ => T1⟩
    have Rm := R.mono xH
    have nO : o.c' ∉ O := fun m => by
      obtain ⟨u, e, _, n2⟩ := (Rm.nb _ m).2.2.nt
      rw [hc1] at e; cases e; exact n2 _ _ rfl
    have nF := R.free hf
    refine ⟨.ref f, H1, I1, rfl, q o ho _ _ xH ?_⟩
    simp only [Rep]
    refine ⟨f, rfl, nF.2, by rw [hide_out nF.1]; exact hf1, fun z => ?_, by rw [hide_out nO]; exact hc1⟩
    obtain ⟨cc, i, j, m, ns, h1, _⟩ := Rm.bg o.c' z.symm
    rw [hide_out nO, hc1] at h1
    unfold LamX.CodeO at h1
    cases h1⟩, gLam_mn⟩
end
/-! ### called -/
theorem Un.over {fs fs2 : List Addr} {H H1 H2 : Hp} {h h1 h2 : Heap} (u : Un fs [] H H1 h h1) (v : Un fs2 [] H1 H2 h1 h2) (hf : ∀ b ∈ fs2, b ∉ fs → h.objs.size ≤ b) : Un fs [] H H2 h h2 where
  keep := fun b o e n hb hx => by
    have e1 := u.keep b o e n hb hx
    have n1 := u.free b o e n hx
    exact v.keep b o e1 n1 (fun z => absurd (Nat.lt_of_lt_of_le (Heap.lt_size e) (hf b z hb)) (Nat.lt_irrefl _)) hx
  slot := fun b o e n hb hx => by
    obtain ⟨sl, e1⟩ := u.slot b o e n hb hx
    have n1 := u.free b o e n hx
    obtain ⟨sl2, e2⟩ := v.any e1 n1 hx
    exact ⟨sl2, e2⟩
  free := fun b o e n hx => by
    obtain ⟨o1, e1⟩ := u.there b o e hx
    exact v.free b o1 e1 (u.free b o e n hx) hx
  there := fun b o e hx => by
    obtain ⟨o1, e1⟩ := u.there b o e hx
    exact v.there b o1 e1 hx
  tups := fun b xs e => v.tups b xs (u.tups b xs e)
  frzs := fun b o x e => v.frzs b o x (u.frzs b o x e)
  tbls := fun b ps e => by
    obtain ⟨m1, e1⟩ := u.tbls b ps e
    obtain ⟨m2, e2⟩ := v.tbls b _ e1
    exact ⟨m1 ++ m2, by rw [e2, Array.append_assoc]⟩
section
variable {X : Cx} {pins : List (Addr × Obj)} {σ : L2.St} {H H2 : Hp} {s s2 : Shared}
/-- a(), a the lambda that a frame below made -/
theorem pe_actU {CXg : CXT} {Eg : XK} {Ng : List Str} {qg : Str} {sg : Scope} {g f : Addr} {cdg : Value} {o : LamO} {params : Arguments} {body : Expr} {scope : Scope} {k i : Nat} {a : Str} {pn : List (Addr × Obj)} {xe : Value → Shared → Prop} {W : WX} {E : XK} {tb : TE} {p1 p2 : Pos} {Az : Around} {outer : List Env}
    (J : Inv X pins σ H s) (L : LamX.LamS X.env.scope scope) (ho : LamI X.env params body scope o)
    (bnd : ∀ (q : Str) (cl : List (Str × Addr)) (pm cv ctv : Value), bindArgs (PySem.W.kla_fn "<lambda>" q params body scope cl pm cv ctv) ⟨[], []⟩ = pure [])
    (tk : Takes ((cxOf CXg X.prog X.w X.K X.mg X.base Ng qg sg g cdg Az outer s2 H2 Eg).tr pn xe) W) (hW : ∀ cls d σ' H', E cls d H' → W cls d σ' H') (rm : Room (k + 1) (Az.deeper (envOfC qg sg s2.heap.objs.size g cdg)))
    (un0 : Un (frs X.stack) [] H H2 s.heap s2.heap) (hf : ∀ b ∈ frs outer, b ∉ frs X.stack → s.heap.objs.size ≤ b)
    (hb : ∀ (A : Around) (outer : List Env) (s : Shared) (H : Hp) (f c' : Addr), Room k (A.deeper (LamX.lamEnv X scope s.heap.objs.size f c')) → PE (LamX.lamCx X A outer s H E scope f c') body tb)
    (hN : Ng[i]? = some a) (hv : Vis sg a) (hd : (a == ("__debug__" : Str)) = false) (hcd : (a == ("__classdict__" : Str)) = false) :
    PE ((cxOf CXg X.prog X.w X.K X.mg X.base Ng qg sg g cdg Az outer s2 H2 Eg).tr pn xe) (.Call (.Name a p1) [] [] p2)
      (fun σZ HZ Q => σZ[i]? = some (some (.ref f)) ∧ HZ f = some (FnH f o) ∧ HZ o.c' = some (LamX.CodeO o.c' o.q) ∧ tb σ HZ Q) := by
  refine ⟨fun pz sz σz Hz Qz Iz ⟨at_, atF, atC, rest⟩ => ?_⟩
  refine wpAny_Call_Name_kw (thn ((pe_var (pos := p1) (i := i) hN hv hd hcd).run pz sz σz Hz (fun v H1 => v = .ref f ∧ H1 = Hz) Iz ⟨.ref f, at_, rfl, rfl⟩) fun u s1 ⟨v, H1, I1, r1, ev, eH⟩ => ?_)
  subst ev eH
  obtain rfl : u = Value.ref f := r1
  have ok1 : ObjOk X.prog X.w H1 s1.heap f (FnH f o) := I1.hok f _ atF
  have of1 : s1.heap.get? f = some o.obj := ok1.1
  have ok2 : ObjOk X.prog X.w H1 s1.heap o.c' (LamX.CodeO o.c' o.q) := I1.hok o.c' _ atC
  obtain ⟨oq, op, ob, os, ocl, opm, occ, octv⟩ := o
  obtain ⟨e1, e2, e3, e4, e5⟩ := ho
  simp only at e1 e2 e3 e4 e5 ok2 of1
  subst e1 e2 e3 e4 e5
  have of2 : s1.heap.get? f = some (PySem.W.kla_obj "<lambda>" (X.env.qual ++ "<lambda>") op ob os (cloFrom X.env.cells os.names []) opm occ octv) := of1
  refine PySem.W.callWith_F0 ⟨_, _, _, _, of2⟩ ?_
  have un : Un (frs X.stack) [] H H1 s.heap s1.heap := Un.over un0 I1.base hf
  obtain ⟨⟨oc, vs, t, hoc, hdc, hvc⟩, _, _⟩ := ok2
  have rc : codeAny (model X.prog X.w) (Az.deeper (envOfC qg sg s2.heap.objs.size g cdg)) (.call (.ref f) ⟨[], []⟩) (CR (L2.CX X.prog X.w) (envOfC qg sg s2.heap.objs.size g cdg :: outer) X.prog X.w H1 s1 Qz E) s1 := by
    refine PySem.W.kla_callFunE rm.depth of2 rfl L.co L.gen rfl ⟨occ, oc, vs, t, rfl, hoc, hdc, hvc⟩ ?_
    rw [bnd]
    refine wpAny_pure (wpAny_newFunctionEnv (fun y hy => (L.own y hy).2) (fun y hy => absurd hy (by simp)) (fun h₁ hns hsb => ⟨I1.nolimit.fresh _ hsb, ?_⟩) L.kind)
    show codeAny _ _ (.expr ob (LamX.lamEnv X os s1.heap.objs.size f occ)) _ _
    have kp : ∀ c u, s1.heap.get? c = some u → h₁.get? c = some u := fun c u e => hsb.extBut c u (Nat.ne_of_lt (Heap.lt_size e)) (Heap.get?_push_of_some _ e)
    have J2 : Inv (LamX.lamCx X (Az.deeper (envOfC qg sg s2.heap.objs.size g cdg)) (envOfC qg sg s2.heap.objs.size g cdg :: outer) s1 H1 E os f occ) [] σ H1 { s1 with heap := h₁, toks := s1.toks + ([] : List (Str × Value)).length } := LamX.lam_start2 J L I1.env0 rm.hd un hns kp
    refine PySem.W.kla_codeExpr (wpAny_mono ((hb _ _ s1 H1 f occ (rm.deeper _)).run [] _ _ H1 Qz J2 rest) (fun v sv hq => ?_) fun _ _ hq => hq)
    obtain ⟨v', Hv, Jv, rv, q⟩ := hq
    exact ⟨v', Hv, Jv.os, Jv.bare, Jv.base, Jv.hok, rv, q⟩
  have ps : Passes (L2.CX X.prog X.w) ((cxOf CXg X.prog X.w X.K X.mg X.base Ng qg sg g cdg Az outer s2 H2 Eg).tr pn xe) E := passes_call tk hW
  refine wpAny_call (codeAny_mono rc fun r sr hq => ?_)
  cases r with
  | error e => exact ps pz σz H1 s1 e sr I1 hq
  | ok fl =>
    cases fl with
    | ret u => exact I1.after hq
    | next => exact False.elim hq
    | brk => exact False.elim hq
    | cont => exact False.elim hq
end
end DL
/-! DJ3 -/
set_option Elab.async false
set_option linter.all false
set_option maxRecDepth 100000
set_option maxHeartbeats 4000000
/-! _law_whys: each lambda of a list is asked. -/
namespace DL
open PySem PySem.Spec PyProof.Rows L2
variable [TabC]
structure LamR where
  params : Arguments
  body : Expr
  scope : Scope
  ge : (XD → Prop) → GE
/-- what is known of a lambda of the frame X -/
structure LamK (k : Nat) (b : Option Addr) (X : Cx) (l : LamR) : Prop where
  L : LamX.LamS X.env.scope l.scope
  bind : ∀ (q : Str) (cl : List (Str × Addr)) (pm cv ctv : Value), bindArgs (PySem.W.kla_fn "<lambda>" q l.params l.body l.scope cl pm cv ctv) ⟨[], []⟩ = pure []
  body : ∀ (A : Around) (outer : List Env) (s : Shared) (Hb Hh : Hp) (E : XK) (f c' : Addr) (eo : XD → Prop), Room k (A.deeper (LamX.lamEnv X l.scope s.heap.objs.size f c')) → Cz (LamX.lamCx X A outer s Hb E l.scope f c') b Hh E eo → DE b Hh (LamX.lamCx X A outer s Hb E l.scope f c') l.body (l.ge eo)
def gAns (i : Nat) (A : LamO → (Str → D → Prop) → Prop) : GE := fun σ k => match look σ i with | .sh (.clo o) => A o fun c y => k (.tup [.str c, y]) | _ => False
def whyA (errs : List Str) (env : Env) (lams : List LamR) (σd : StD) : LamO → (Str → D → Prop) → Prop := fun o κ => ∃ l ∈ lams, LamI env l.params l.body l.scope o ∧ ∃ (eo : XD → Prop) (k' : D → Prop), (∀ x, eo x → x.c ∈ errs ∧ match whyX x with | some (code, es) => κ code (.tup es) | none => False) ∧ (∀ d, k' d → κ "told" d) ∧ l.ge eo σd k'
theorem whyA_mn {errs : List Str} {env : Env} {lams : List LamR} {σd : StD} {o : LamO} {κ κ' : Str → D → Prop} (i : ∀ c d, κ c d → κ' c d) (h : whyA errs env lams σd o κ) : whyA errs env lams σd o κ' := by
  obtain ⟨l, hl, hi, eo, k', h1, h2, h3⟩ := h
  refine ⟨l, hl, hi, eo, k', fun x hx => ?_, fun d hd => i _ _ (h2 d hd), h3⟩
  obtain ⟨a, q⟩ := h1 x hx
  refine ⟨a, ?_⟩
  cases e : whyX x with
  | none => rw [e] at q; exact q
  | some p => rw [e] at q; exact i _ _ q
theorem gAns_mn {i : Nat} {A : LamO → (Str → D → Prop) → Prop} (h : ∀ o κ κ', (∀ c d, κ c d → κ' c d) → A o κ → A o κ') : Mn (gAns i A) := fun σ k k' j q => by
  unfold gAns at q ⊢
  cases e : look σ i with
  | sh d =>
    rw [e] at q
    cases d <;> first | exact h _ _ _ (fun c y z => j _ z) q | exact q.elim
  | _ => rw [e] at q; exact q.elim
/-- _law_why(y), y a lambda of the frame below -/
theorem de_whyC {X : Cx} {b : Option Addr} {pins0 : List (Addr × Obj)} {σ0 : L2.St} {σd0 : StD} {Hx : Hp} {sx : Shared} {CXc : CXT} {NC : List Str} {qC : Str} {scC : Scope} {gC : Addr} {cdC : Value} {EC : XK}
    (I0 : Inv X pins0 σ0 Hx sx) (R0 : Rst X.K b Hx σd0 σ0 Hx []) {x y a n fl x1 x2 x3 : Str} {g fF : Addr} {fdW fdF : FuncData} {pg pf : Arguments} {bg bf : List Stmt} {sg sf : Scope} {pe : Str} {c1 c2 c3 : Value} {k i : Nat} {errs : List Str} {lams : List LamR} {p py pos : Pos}
    {j k1 k2 k3 : Nat} {p1 p2 p3 p4 p5 q1 q2 q3 q4 r1 r2 r3 r4 r5 r6 r7 r8 p8 : Pos}
    (hg : scC.names.lookup x = some .globalImplicit) (hm : X.mg x = some (.ref g)) (FW : FunD X.K x x pg bg sg [] [] g fdW) (Sg : FnScope [a, n] [a] sg) (hb : Binds X.K fdW [a] []) (hbg : bg = whyB a n fl x1 x2 x3 j k1 k2 k3 p1 p2 p3 p4 p5 q1 q2 q3 q4 r1 r2 r3 r4 r5 r6 r7 r8 p8)
    (hln : sg.names.lookup n = some .local) (hva : Vis sg a) (g1 : sg.names.lookup x1 = some .globalImplicit) (m1 : X.mg x1 = some c1) (g2 : sg.names.lookup x2 = some .globalImplicit) (m2 : X.mg x2 = some c2) (g3 : sg.names.lookup x3 = some .globalImplicit) (m3 : X.mg x3 = some c3)
    (FF : FunD X.K fl fl pf bf sf [] [] fF fdF) (SF : FnScope [pe] [pe] sf) (hgf : sg.names.lookup fl = some .globalImplicit) (hmf : X.mg fl = some (.ref fF)) (hbf : Binds X.K fdF [pe] [])
    (hB : ∀ (a : Addr) (oe : Obj) (cls : Value) (d : Option Addr), Zc cls d oe → (∃ vs, oe.data = .fields vs) → ∀ (cdv : Value) (A : Around) (outer : List Env) (s : Shared) (H : Hp) (E : XK), PSs (L2H.cxH C8.CX0 X.prog X.w X.K X.mg X.base [pe] fl sf fF cdv A outer s H E (a, oe)) bf (tField X.K a cls d))
    (W : ErrsOk X.K errs c1 c2 c3) (hr : Room (k + 2) (X.A.deeper (envOfC qC scC sx.heap.objs.size gC cdC))) (LK : ∀ l ∈ lams, LamK k b X l)
    (hNy : NC[i]? = some y) (hvy : Vis scC y)
    (hN : ([a, n] : List Str).Nodup := by decide) (hdb : (x == ("__debug__" : Str)) = false := by decide) (hd1 : (x1 == ("__debug__" : Str)) = false := by decide) (hd2 : (x2 == ("__debug__" : Str)) = false := by decide) (hd3 : (x3 == ("__debug__" : Str)) = false := by decide) (hda : (a == ("__debug__" : Str)) = false := by decide) (hca : (a == ("__classdict__" : Str)) = false := by decide)
    (hdf : (fl == ("__debug__" : Str)) = false := by decide) (hdn : (n == ("__debug__" : Str)) = false := by decide) (hcn : (n == ("__classdict__" : Str)) = false := by decide) (hdy : (y == ("__debug__" : Str)) = false := by decide) (hcy : (y == ("__classdict__" : Str)) = false := by decide) :
    DE b Hx (cxOf CXc X.prog X.w X.K X.mg X.base NC qC scC gC cdC X.A X.stack sx Hx EC) (.Call (.Name x p) [.Name y py] [] pos) (gAns i (whyA errs X.env lams σd0)) := by
  refine ⟨⟨fun pins s σ H Q I ⟨σd, O, R, q⟩ => ?_⟩, gAns_mn fun o κ κ' => whyA_mn⟩
  subst hbg
  obtain ⟨oc, od, dV, kV, doc, pm, an, cdv, ct, osl, rfl, lkW, hcd, _, _⟩ := FW.ex
  unfold gAns at q
  have sl := R.slot i
  cases el : look σd i with
  | sh d =>
    rw [el] at q sl
    cases d with
    | clo o =>
      obtain ⟨v, ev, rv⟩ := sl
      simp only [Rep] at rv
      obtain ⟨f, rfl, nf, atF, nc, atC⟩ := rv
      obtain ⟨l, hl, hi, eo, k', w1', w2, w3⟩ := q
      have w1 : ∀ x, eo x → whyOk errs x (fun d => ∀ (v : V) (H' : Hp), Ext b H H' → Rep X.K b (DL.hide O H') d v → Q v H') := w1'
      obtain ⟨LS, bnd, hbody⟩ := LK l hl
      refine wpAny_Call_Name_kw (ld_glob I hg hm ?_ hdb)
      refine PySem.W.callWith_K (h₀ := X.base) I.ok.mod.kin FW.kp (thn ((pa_cons (pe_var (pos := py) hNy hvy hdy hcy) pa_nil).run pos pins s σ H (fun vs H' => vs = [.ref f] ∧ H' = H) I ⟨.ref f, getD_some ev, rfl, rfl⟩) fun us s1 ⟨vs, H1, I1, rr, e1, e2⟩ => ⟨I1.kIn, ?_⟩) (by rfl) (by rfl)
      subst e1 e2
      obtain ⟨u, rfl, ru⟩ := rr.one
      obtain rfl : u = Value.ref f := ru
      have hO : ∀ a ∈ O, Hid O H1 a := fun a m => (R.nb a m).2.2
      have hOb : ∀ a ∈ O, some a ≠ b ∧ Hid O H1 a := fun a m => ⟨(R.nb a m).1, (R.nb a m).2.2⟩
      have I2 := inv_hide I1 hO
      have R2 := R0.mono R.le
      have RS : Rst X.K b (DL.hide O H1) σd0 σ0 (DL.hide O H1) [] := ⟨R2.len, R2.slot, R2.uniq, R2.nb, by rw [hide_nil]; exact .refl _, R2.bg⟩
      have fin : ∀ (d : D) (v : V) (H2 : Hp), (∀ v H', Ext b H1 H' → Rep X.K b (hide O H') d v → Q v H') → Ext b (hide O H1) H2 → Rep X.K b H2 d v → (∀ a ∈ O, H2 a = none) → Q v (back O H1 H2) := fun d v H2 q xx rr fr => by
        refine q v _ (back_ext hOb fr xx) ?_
        rw [back_hide fr]; exact rr
      have cz : ∀ (A : Around) (outer : List Env) (s2 : Shared) (Hb : Hp) (c' : Addr), Cz (LamX.lamCx X A outer s2 Hb (CauW X.K c1 c2 c3 fun v H2 => (∀ a ∈ O, H2 a = none) → Q v (back O H1 H2)) l.scope f c') b (hide O H1) (CauW X.K c1 c2 c3 fun v H2 => (∀ a ∈ O, H2 a = none) → Q v (back O H1 H2)) eo := fun A outer s2 Hb c' => by
        refine ⟨passes_call (takes_of rfl rfl rfl rfl) fun _ _ _ _ z => z, fun xd cls d H' he xh xa => ?_⟩
        obtain ⟨hin, hw⟩ := w1 xd he
        obtain ⟨e1, da, vs, e2, hda, hlen, rs⟩ := xa
        subst e1 e2
        unfold whyX at hw
        cases elk : lk (xd.ns.zip xd.ds) cdS with
        | none => rw [elk] at hw; exact hw.elim
        | some dc =>
          rw [elk] at hw
          cases dc with
          | str code =>
            cases em : (fieldNames code).mapM (lk (xd.ns.zip xd.ds)) with
            | none => simp only [em] at hw
            | some es =>
              simp only [em] at hw
              obtain ⟨vc, lc, rc⟩ := lk_zip rs elk
              rw [rc.str] at lc
              obtain ⟨us, lu, ru⟩ := lks_zip rs em
              refine ⟨W.ex _ hin, _, da, _, code, rfl, rfl, ⟨W.xf _ hin, fun n hn => W.no _ hin n (fieldNames_in code n hn), hda, lc⟩, us, lu, fun H2 p2 k2 hp2 p hp fr => ?_⟩
              have y1 : Ext b (hide O H1) H2 := xh.trans (.all k2)
              have y2 : Ext b H2 (upd H2 p2 (.tup us)) := .new hp2
              have y3 : Ext b (upd H2 p2 (.tup us)) (upd (upd H2 p2 (.tup us)) p (.tup [.str code, .ref p2])) := .new hp
              have b2 : some p2 ≠ b := (RS.bg.ext (by rw [hide_nil]; exact y1)).ne hp2
              have b3 : some p ≠ b := (RS.bg.ext (by rw [hide_nil]; exact y1.trans y2)).ne hp
              have ne : p2 ≠ p := fun z => by rw [← z, upd_same] at hp; cases hp
              refine fin _ _ _ hw (y1.trans (y2.trans y3)) ?_ fr
              refine Rep.mkTup b3 (.inl (.inl upd_same)) (Reps.cons rfl (Reps.cons ?_ Reps.nil))
              refine Rep.mkTup b2 (.inl (.inl ?_)) (((ru.mono (Ext.all k2).1).mono y2.1).mono y3.1)
              rw [upd_ne ne, upd_same]
          | _ => exact hw.elim
      have rc : codeAny (model X.prog X.w) (X.A.deeper (envOfC qC scC sx.heap.objs.size gC cdC)) (.call (.ref g) ⟨[.ref f], []⟩) (CR C8.CX0 (envOfC qC scC sx.heap.objs.size gC cdC :: X.stack) X.prog X.w (hide O H1) s1 (fun v H2 => (∀ a ∈ O, H2 a = none) → Q v (back O H1 H2)) C8.E0) s1 := by
        refine LamX.run_ofS (N := [a, n]) (ps := [a]) (us := [.ref f]) (vs := [.ref f]) lkW hcd Sg hr I2.env0 (hb s1 [.ref f] I2.kIn rfl) (.cons rfl .nil) rfl fun hr' => ?_
        have dE := hbody _ (envOfC x sg s1.heap.objs.size g cdv :: envOfC qC scC sx.heap.objs.size gC cdC :: X.stack) s1 (hide O H1) (hide O H1) _ f o.c' eo (hr'.deeper _) (cz _ _ _ _ _)
        refine Exists.elim (why_run (X := cxOf CXc X.prog X.w X.K X.mg X.base NC qC scC gC cdC X.A X.stack sx Hx EC) (H := hide O H1) (s := s1) (f := f) (c' := o.c') (g := g) (q := o.q) (x := x) (cdg := cdv) (sg := sg) (a := a) (n := n) (fl := fl) (x1 := x1) (c1 := c1) (c2 := c2) (c3 := c3) (Q := fun v H2 => (∀ a ∈ O, H2 a = none) → Q v (back O H1 H2)) (tl := fun E H' Q' => E = (CauW X.K c1 c2 c3 fun v H2 => (∀ a ∈ O, H2 a = none) → Q v (back O H1 H2)) ∧ H' f = some (FnH f o) ∧ LE X.K b (hide O H1) (l.ge eo) σ0 H' Q')
          hN hln ⟨g1, hd1, .inl m1⟩ ⟨g2, hd2, .inl m2⟩ ⟨g3, hd3, .inl m3⟩ hr' FF SF hgf hmf hbf hB (fun W' pn xe E p1 p2 tk hW => ?_) atC ?_ hdf hdn hcn) fun t' ht => ⟨t', ht.1.nox, ht.2⟩
        · refine ⟨fun pinsZ sZ σZ HZ QZ IZ ⟨z1, z2, z3, z4, z5⟩ => ?_⟩
          subst z3
          have un0 : Un (frs X.stack) [] Hx (hide O H1) sx.heap s1.heap := I2.base
          refine (pe_actU (i := 0) (k := k) I0 LS hi bnd tk hW hr' un0 (fun c hc nc => ?_) (fun A outer s H f' c2 hr2 => ?_) rfl hva hda hca).run pinsZ sZ σZ HZ QZ IZ ⟨z1, z4, z2, z5⟩
          · rcases List.mem_cons.mp (I2.stkSub c hc) with e | e
            · rw [e]; exact Nat.le_refl _
            · exact absurd e nc
          · refine (hbody A outer s H (hide O H1) _ f' c2 eo hr2 ?_).pe
            exact ⟨passes_call (takes_of rfl rfl rfl rfl) fun _ _ _ _ z => z, (cz A outer s H c2).ex⟩
        · refine ⟨rfl, atF, σd0, [], RS, dE.mn _ _ _ (fun d hd v H2 xx rr => ⟨by decide, fun p hp fr => ?_⟩) w3⟩
          rw [hide_nil] at rr
          have y2 : Ext b H2 (upd H2 p (.tup [.str tellS, v])) := .new hp
          have b2 : some p ≠ b := (RS.bg.ext (by rw [hide_nil]; exact xx)).ne hp
          refine fin (.tup [.str tellS, d]) _ _ (w2 d hd) (xx.trans y2) ?_ fr
          exact Rep.mkTup b2 (.inl (.inl upd_same)) (Reps.cons rfl (Reps.cons (rr.mono y2.1) Reps.nil))
      refine wpAny_call (codeAny_mono rc fun r s2 hq => ?_)
      cases r with
      | error e => exact (show False from hq).elim
      | ok fl =>
        cases fl with
        | ret u =>
          obtain ⟨v, H2, os, bare, un, ok, rv, q⟩ := hq
          obtain ⟨fr, I3⟩ := inv_back I1 hO os bare un ok
          exact ⟨v, _, I3, rv, q fr⟩
        | next => exact False.elim hq
        | brk => exact False.elim hq
        | cont => exact False.elim hq
    | _ => exact q.elim
  | _ => rw [el] at q; exact q.elim
end DL
/-! DF8 -/
set_option Elab.async false
set_option linter.all false
set_option maxRecDepth 100000
set_option maxHeartbeats 4000000
/-! Reading what a derivation says. -/
namespace DL
open PySem PySem.Spec PyProof.Rows L2
end DL
namespace DL
open PySem PySem.Spec PyProof.Rows L2
def blkB (N : List Str) (sc scope : Scope) (own : List (Str × Nat)) : Bool :=
  decide (scope.kind = .function) && ((scope.names.all fun y => decide (scope.names.lookup y.1 = some y.2)) && ((own.all fun p => decide (N[p.2]? = some p.1)) && ((scope.names.all fun y => !decide (y.2 = .free) || (decide (sc.names.lookup y.1 = some .cell) || decide (sc.names.lookup y.1 = some .free))) &&
    scope.names.all fun y => !(decide (y.2 = .local) || decide (y.2 = .cell)) || (decide (y.1 ∈ own.map (·.1)) || decide (y.1 ∉ N)))))
theorem blk_ok {N : List Str} {sc scope : Scope} {own : List (Str × Nat)} (h : blkB N sc scope own = true) : BlkOk N sc scope own := by
  unfold blkB at h
  simp only [Bool.and_eq_true, Bool.or_eq_true, Bool.not_eq_true', decide_eq_true_eq, decide_eq_false_iff_not, List.all_eq_true, Bool.or_eq_false_iff] at h
  obtain ⟨h1, h2, h3, h4, h5⟩ := h
  refine ⟨h1, h2, h3, fun y hy e => ?_, fun y hy e => ?_⟩
  · rcases h4 y hy with z | z
    · exact absurd e z
    · exact z
  · rcases h5 y hy with z | z
    · rcases e with e | e
      · exact absurd e z.1
      · exact absurd e z.2
    · exact z
end DL
/-! DG1 -/
set_option Elab.async false
set_option linter.all false
set_option maxRecDepth 100000
set_option maxHeartbeats 4000000
/-! Plain facts that the laws share: comprehensions, what the laws' helpers promise. -/
namespace DL
open PySem PySem.Spec PyProof.Rows L2
variable [TabC]
/-! ### comprehensions without tests -/
inductive Fa2 (P : D → D → Prop) : List D → List D → Prop
  | nil : Fa2 P [] []
  | cons {x y : D} {xs ys : List D} (h : P x y) (r : Fa2 P xs ys) : Fa2 P (x :: xs) (y :: ys)
theorem lcD_rel {t : Tgt} {ge : GE} {σ : StD} (P : D → D → Prop) : ∀ (ds acc : List D) (k : D → Prop), (∀ d ∈ ds, ∀ kk : D → Prop, (∀ y, P d y → kk y) → asg t d σ fun σ2 => ge σ2 kk) → acc.length + ds.length ≤ 1000000 → (∀ ys, Fa2 P ds ys → k (.lst (acc ++ ys))) → lcD t gYes ge σ ds acc k
  | [], acc, k, _, _, hk => by
    have := hk [] .nil
    simp only [List.append_nil] at this
    exact this
  | d :: r, acc, k, h, hl, hk => by
    refine asg_mn _ _ _ _ _ (fun s z => z) (h d List.mem_cons_self (fun y => acc.length < 1000000 ∧ lcD t gYes ge σ r (acc ++ [y]) k) fun y hy => ⟨?_, ?_⟩)
    · simp only [List.length_cons] at hl; omega
    · refine lcD_rel P r (acc ++ [y]) k (fun d' hd' => h d' (List.mem_cons_of_mem _ hd')) (by simp only [List.length_cons, List.length_append, List.length_nil] at hl ⊢; omega) fun ys hys => ?_
      have := hk (y :: ys) (.cons hy hys)
      simpa using this
theorem lcD_mapL {α : Type} {t : Tgt} {ge : GE} {σ : StD} (g f : α → D) {l : List α} {acc : List D} {k : D → Prop} (h : ∀ x ∈ l, ∀ kk : D → Prop, kk (f x) → asg t (g x) σ fun σ2 => ge σ2 kk) (hl : acc.length + l.length ≤ 1000000) (hk : k (.lst (acc ++ l.map f))) : lcD t gYes ge σ (l.map g) acc k := by
  induction l generalizing acc with
  | nil =>
    simp only [List.map_nil, List.append_nil] at hk
    exact hk
  | cons d r ih =>
    refine asg_mn _ _ _ _ _ (fun s z => z) (h d List.mem_cons_self (fun y => acc.length < 1000000 ∧ lcD t gYes ge σ (r.map g) (acc ++ [y]) k) ⟨?_, ?_⟩)
    · simp only [List.length_cons] at hl; omega
    · refine ih (fun d' hd' => h d' (List.mem_cons_of_mem _ hd')) (by simp only [List.length_cons, List.length_append, List.length_nil] at hl ⊢; omega) ?_
      simpa using hk
/-! ### ways -/
theorem blsOf_map {α : Type} (f : α → Bool) : ∀ l : List α, blsOf (l.map fun x => D.bl (f x)) = some (l.map f)
  | [] => rfl
  | x :: r => by simp only [List.map_cons, blsOf, blsOf_map f r]; rfl
/-- all(..) over truths -/
theorem dAll_bls {α : Type} {f : α → Bool} {l : List α} {k : D → Prop} (h : k (.bl (l.all f))) : dAll (.lst (l.map fun x => D.bl (f x))) k := by
  simp only [dAll, blsOf_map]
  have e : (l.map f).all id = l.all f := by rw [List.all_map]; rfl
  rw [e]; exact h
/-! ### a thing drawn from many -/
def itemsD : D → List D
  | .lst ds => ds | .tup ds => ds | .str z => signs z | _ => []
def sOf : GS := fun ds k _ => ∃ x, ds = [.bag, x] ∧ itemsD x ≠ [] ∧ (itemsD x).length ≤ 1000000 ∧ ∀ d ∈ itemsD x, k d
theorem sOf_mn : MnS sOf := fun ds k k' e e' h1 _ ⟨x, h, h2, h3, q⟩ => ⟨x, h, h2, h3, fun d hd => h1 _ (q d hd)⟩
theorem atI_of {α : Type} {xs : List α} {d : Int} (h0 : 0 ≤ d) (h1 : d < xs.length) : ∃ x ∈ xs, atI xs d = some x := by
  have hlt : d.toNat < xs.length := by omega
  refine ⟨xs[d.toNat], List.getElem_mem hlt, ?_⟩
  unfold atI ixN
  rw [if_pos h0, if_pos h1]
  show xs[d.toNat]? = _
  exact List.getElem?_eq_getElem hlt
theorem dIx_of {x : D} {d : Int} {k : D → Prop} (hx : (itemsD x).length ≤ 1000000) (h0 : 0 ≤ d) (h1 : d < (itemsD x).length) (q : ∀ y ∈ itemsD x, k y) : dIx x (.int d) k := by
  cases x with
  | lst ds =>
    obtain ⟨y, hy, e⟩ := atI_of (xs := ds) h0 h1
    show match atI ds d with | some d => k d | none => False
    rw [e]; exact q y hy
  | tup ds =>
    obtain ⟨y, hy, e⟩ := atI_of (xs := ds) h0 h1
    show match atI ds d with | some d => k d | none => False
    rw [e]; exact q y hy
  | str z =>
    have el : (itemsD (.str z)).length = z.cps.toList.length := by simp [itemsD, signs]
    rw [el] at h1 hx
    obtain ⟨c, hc, e⟩ := atI_of (xs := z.cps.toList) h0 h1
    show z.length ≤ 1000000 ∧ match atI z.cps.toList d with | some c => k (.str ⟨#[c]⟩) | none => False
    rw [e]
    exact ⟨by simpa [Str.length] using hx, q _ (List.mem_map.mpr ⟨c, hc, rfl⟩)⟩
  | _ => simp [itemsD] at h1; omega
/-! ### the same, told of one thing twice -/
mutual
def goodD : D → Bool
  | .non => true | .bl _ => true | .int _ => true | .str _ => true
  | .tup ds => decide (ds.length ≤ 100000) && goodDs ds
  | .lst ds => decide (ds.length ≤ 100000) && goodDs ds
  | _ => false
def goodDs : List D → Bool
  | [] => true
  | d :: r => goodD d && goodDs r
end
mutual
def dep : D → Nat
  | .tup ds => deps ds + 1
  | .lst ds => deps ds + 1
  | _ => 0
def deps : List D → Nat
  | [] => 0
  | d :: r => max (dep d) (deps r)
end
theorem deps_mem : ∀ {ds : List D}, ∀ d ∈ ds, dep d ≤ deps ds
  | [], d, h => by cases h
  | x :: r, d, h => by
    simp only [deps]
    rcases List.mem_cons.mp h with rfl | h
    · omega
    · have := deps_mem d h; omega
def sSame (n : Nat) : GS := fun ds k _ => ∃ d, ds = [d, d] ∧ goodD d = true ∧ dep d < n ∧ k (.bl true)
theorem pairsD_self : ∀ ds : List D, pairsD ds ds = ds.map fun d => .tup [d, d]
  | [] => rfl
  | d :: r => by simp only [pairsD, List.map_cons, pairsD_self r]
/-! ### gcd by the laws' own loop -/
def sGcd : GS := fun ds k _ => ∃ a b : Int, ds = [.int a, .int b] ∧ Sz 4000 a ∧ Sz 4000 b ∧ k (.int (Nat.gcd a.natAbs b.natAbs : Nat))
theorem sGcd_mn : MnS sGcd := fun ds k k' e e' h1 _ ⟨a, b, h, h2, h3, q⟩ => ⟨a, b, h, h2, h3, h1 _ q⟩
theorem gcd_step (l r : Nat) (h : r ≠ 0) : ((l : Int) - (l : Int).fdiv (r : Int) * (r : Int)) = ((l % r : Nat) : Int) := by
  have e : (l : Int).fdiv (r : Int) = ((l / r : Nat) : Int) := by
    rw [Int.fdiv_eq_ediv_of_nonneg _ (by omega)]; rfl
  rw [e]
  have := Nat.div_add_mod l r
  have h2 : ((r * (l / r) + l % r : Nat) : Int) = (l : Int) := by rw [this]
  rw [Int.natCast_add, Int.natCast_mul] at h2
  have h3 : (r : Int) * ((l / r : Nat) : Int) = ((l / r : Nat) : Int) * (r : Int) := Int.mul_comm _ _
  omega
theorem natAbs_if (x : Int) : (if x < 0 then -x else x) = (x.natAbs : Int) := by split <;> omega
end DL
/-! DG2 -/
set_option Elab.async false
set_option linter.all false
set_option maxRecDepth 100000
set_option maxHeartbeats 4000000
/-! The law's def: its code object known; its body run. -/
namespace DL
open PySem PySem.Spec PyProof.Rows L2
variable [TabC]
theorem FunD.okC {P : Program} {w : World} {K : Fg} {mg : Str → Option Value} {base : Heap} {x qual : Str} {params : Arguments} {body : List Stmt} {scope : Scope} {dvs : List V} {kws : List (Str × V)} {f : Addr} {fd : FuncData} {CX : CXT} {N ps : List Str} {k : Nat} {sp : Sp} (F : FunD K x qual params body scope dvs kws f fd) (S : FnScope N ps scope) (len : ∀ vs H Q E, sp vs H Q E → vs.length = ps.length)
    (hbody : ∀ (cdv : Value) (A : Around) (outer : List Env) (s : Shared) (H : Hp) (vs : List V) (Q : VK) (E : XK), cdv = fd.code → Room k (A.deeper (envOfC qual scope s.heap.objs.size f cdv)) → sp vs H Q E →
      ∃ t, PSs (cxOf CX P w K mg base N qual scope f cdv A outer s H E) body t ∧ t { nx := fun _ H' => Q .non H', rt := Q } (L2.start N vs) H) : FnOk P w K mg base CX (k + 1) f fd ps sp := by
  obtain ⟨oc, od, dV, kV, doc, pm, an, cdv, ct, osl, rfl, lk, hcd, _, _⟩ := F.ex
  exact fn_of lk hcd S len fun A outer s H vs Q E hr hsp => hbody cdv A outer s H vs Q E rfl hr hsp
theorem code_of {K : Fg} {x qual : Str} {params : Arguments} {body : List Stmt} {scope : Scope} {dvs : List V} {kws : List (Str × V)} {fd : FuncData} {p : He.Defn} (F : FunD K x qual params body scope dvs kws (He.fAd K p) fd) : fd.code = .ref (He.codeOf K p) := by
  obtain ⟨oc, od, dV, kV, doc, pm, an, cdv, ct, osl, rfl, lk, hcd, _, _⟩ := F.ex
  obtain ⟨c, rfl⟩ := He.codeIn_ref hcd
  show Value.ref c = _
  rw [He.codeOf_eq lk rfl]
theorem law_run {X : Cx} {st : Stmt} {sts : List Stmt} {g : GSt} {vs : List V} {H : Hp} {Q : VK} {E : XK} {N : List Str} (hst : PS X st (tBagCall X.K)) (hd : ∀ (b : Option Addr) (H0 : Hp), LamX.Tabs TabC.T H0 → DSs b H0 X sts g) (h : spLaw X.K vs H Q E) (hN : 2 ≤ N.length)
    (r : g (fin fun d => d = .bl true) (.unset :: .sh .bag :: List.replicate (N.length - 2) .unset)) : ∃ t, PSs X (st :: sts) t ∧ t { nx := fun _ H' => Q .non H', rt := Q } (L2.start N vs) H := by
  have hT : LamX.Tabs TabC.T H := by
    obtain ⟨_, _, _, _, _, hT, _⟩ := h
    exact hT
  exact ⟨_, pss_cons hst (pss_bagged hd), law_read hN h (hd none H hT).mn r⟩
end DL
namespace DL
open PySem PySem.Spec PyProof.Rows L2
variable [TabC]
theorem forD_inv {t : Tgt} {gb : GSt} {D : EndD} (I : StD → Prop) : ∀ {ds : List DL.D}, (∀ d ∈ ds, ∀ (σ : StD) (D' : EndD), I σ → (∀ σ', I σ' → D'.nx σ') → D'.rt = D.rt → asg t d σ fun σ2 => gb D' σ2) → ∀ σ, I σ → (∀ σ, I σ → D.nx σ) → forD t gb ds D σ
  | [], _, σ, i, e => e σ i
  | d :: r, h, σ, i, e => h d List.mem_cons_self σ _ i (fun σ' i' => forD_inv I (fun d' hd' => h d' (List.mem_cons_of_mem _ hd')) σ' i' e) rfl
end DL
/-! DP1 -/
set_option Elab.async false
set_option linter.all false
set_option maxRecDepth 100000
set_option maxHeartbeats 4000000
/-! Plain lemmas: lists of ints as data. -/
namespace DL
open PySem PySem.Spec PyProof.Rows L2
variable [TabC]
abbrev dints (l : List Int) : List D := l.map D.int
theorem toPys_ints : ∀ l : List Int, toPys (dints l) = some (l.map PyData.int)
  | [] => rfl
  | x :: r => by
    show (match toPy (.int x), toPys (dints r) with | some p, some q => some (p :: q) | _, _ => none) = _
    rw [toPys_ints r]; rfl
theorem canLay_ints : ∀ l : List Int, PyData.canLayAll0 (l.map PyData.int) = true
  | [] => rfl
  | x :: r => by
    show (PyData.canLay0 (.int x) && PyData.canLayAll0 (r.map PyData.int)) = true
    rw [canLay_ints r]; rfl
theorem depth_ints : ∀ l : List Int, PyData.depthAll (l.map PyData.int) = 0
  | [] => rfl
  | x :: r => by
    show max 0 (PyData.depthAll (r.map PyData.int)) = 0
    rw [depth_ints r]; rfl
theorem eqv_ints : ∀ l m : List Int, PyData.eqvAll (l.map PyData.int) (m.map PyData.int) = (l == m)
  | [], [] => rfl
  | [], y :: s => rfl
  | x :: r, [] => rfl
  | x :: r, y :: s => by
    show (PyData.eqv (.int x) (.int y) && PyData.eqvAll (r.map PyData.int) (s.map PyData.int)) = _
    rw [eqv_ints r s]
    show ((x == y) && (r == s)) = _
    rfl
theorem shaped_tints (l : List Int) : SeqAt.shaped (.tuple (l.map PyData.int)) = true := by
  show (PyData.canLayAll0 (l.map PyData.int) && decide (PyData.depthAll (l.map PyData.int) + 1 ≤ 64)) = true
  rw [canLay_ints, depth_ints]; rfl
theorem shaped_lints (l : List Int) : SeqAt.shaped (.list (l.map PyData.int)) = true := by
  show (PyData.canLayAll0 (l.map PyData.int) && decide (PyData.depthAll (l.map PyData.int) + 1 ≤ 64)) = true
  rw [canLay_ints, depth_ints]; rfl
theorem dEqA_tints {l m : List Int} {neg : Bool} {k : D → Prop} (q : k (.bl (if neg then !(l == m) else l == m))) : dEqA neg (.tup (dints l)) (.tup (dints m)) k := by
  show dEq neg _ _ k
  have e1 : toPy (.tup (dints l)) = some (.tuple (l.map PyData.int)) := by simp only [toPy, toPys_ints]; rfl
  have e2 : toPy (.tup (dints m)) = some (.tuple (m.map PyData.int)) := by simp only [toPy, toPys_ints]; rfl
  unfold dEq
  rw [e1, e2]
  refine ⟨shaped_tints _, shaped_tints _, ?_⟩
  have : PyData.eqv (.tuple (l.map PyData.int)) (.tuple (m.map PyData.int)) = (l == m) := eqv_ints l m
  rw [this]; exact q
theorem dEqA_lints {l m : List Int} {neg : Bool} {k : D → Prop} (q : k (.bl (if neg then !(l == m) else l == m))) : dEqA neg (.lst (dints l)) (.lst (dints m)) k := by
  show dEq neg _ _ k
  have e1 : toPy (.lst (dints l)) = some (.list (l.map PyData.int)) := by simp only [toPy, toPys_ints]; rfl
  have e2 : toPy (.lst (dints m)) = some (.list (m.map PyData.int)) := by simp only [toPy, toPys_ints]; rfl
  unfold dEq
  rw [e1, e2]
  refine ⟨shaped_lints _, shaped_lints _, ?_⟩
  have : PyData.eqv (.list (l.map PyData.int)) (.list (m.map PyData.int)) = (l == m) := eqv_ints l m
  rw [this]; exact q
theorem intsOf_map : ∀ l : List Int, intsOf (dints l) = some l
  | [] => rfl
  | x :: r => by
    show (intsOf (dints r)).map (x :: ·) = _
    rw [intsOf_map r]; rfl
theorem pairs_ints : ∀ l m : List Int, pairsD (dints l) (dints m) = (l.zip m).map fun p => D.tup [.int p.1, .int p.2]
  | [], _ => by cases ‹List Int› <;> rfl
  | x :: r, [] => rfl
  | x :: r, y :: s => by
    show D.tup [.int x, .int y] :: pairsD (dints r) (dints s) = _
    rw [pairs_ints r s]; rfl
/-- small numbers -/
def Sms (n : Nat) (l : List Int) : Prop := ∀ x ∈ l, Sz n x
theorem Sms.cons {n : Nat} {x : Int} {l : List Int} (h : Sz n x) (r : Sms n l) : Sms n (x :: l) := fun y hy => by
  rcases List.mem_cons.mp hy with rfl | hy
  · exact h
  · exact r y hy
theorem Sms.nil {n : Nat} : Sms n [] := fun y hy => by cases hy
theorem Sz.mono {n m : Nat} {x : Int} (h : Sz n x) (hm : n ≤ m) : Sz m x := Nat.lt_of_lt_of_le h (Nat.pow_le_pow_right (by decide) hm)
theorem Sms.mono {n m : Nat} {l : List Int} (h : Sms n l) (hm : n ≤ m) : Sms m l := fun x hx => (h x hx).mono hm
theorem Sz.add {n : Nat} {x y : Int} (h : Sz n x) (g : Sz n y) : Sz (n + 1) (x + y) := by
  unfold Sz at *
  have e : 2 ^ (n + 1) = 2 ^ n + 2 ^ n := by rw [Nat.pow_succ]; omega
  rw [e]; omega
theorem Sz.neg {n : Nat} {x : Int} (h : Sz n x) : Sz n (-x) := by unfold Sz at *; omega
theorem Sz.sub {n : Nat} {x y : Int} (h : Sz n x) (g : Sz n y) : Sz (n + 1) (x - y) := by
  have := h.add g.neg
  rwa [show x + -y = x - y by omega] at this
theorem Sz.mul {n m : Nat} {x y : Int} (h : Sz n x) (g : Sz m y) : Sz (n + m) (x * y) := by
  unfold Sz at *
  rw [Int.natAbs_mul, Nat.pow_add]
  exact Nat.mul_lt_mul'' h g
theorem Sz.of_lt {n : Nat} {x : Int} (h : -(2 ^ n : Int) < x) (g : x < 2 ^ n) : Sz n x := by
  unfold Sz
  have : ((2 ^ n : Nat) : Int) = (2 : Int) ^ n := by rw [Int.natCast_pow]; rfl
  omega
theorem Sz.sum {n : Nat} : ∀ {l : List Int}, Sms n l → Sz (n + l.length) l.sum
  | [], _ => by show Sz _ 0; unfold Sz; exact Nat.pow_pos (by decide)
  | x :: r, h => by
    have h1 := h x List.mem_cons_self
    have h2 := Sz.sum (l := r) fun y hy => h y (List.mem_cons_of_mem _ hy)
    rw [List.sum_cons, List.length_cons]
    exact (h1.mono (by omega)).add (n := n + r.length) h2
theorem dints_len (l : List Int) : (dints l).length = l.length := List.length_map ..
end DL
namespace DL
open PySem PySem.Spec PyProof.Rows L2
theorem dEqA_s {a c : Str} {neg : Bool} {k : D → Prop} (q : k (.bl (if neg then !(a == c) else a == c))) : dEqA neg (.str a) (.str c) k := q
end DL
namespace DL
open PySem PySem.Spec PyProof.Rows L2
end DL
namespace DL
open PySem PySem.Spec PyProof.Rows L2
variable [TabC]
theorem dEqA_self {i : Int} {k : D → Prop} (q : k (.bl true)) : dEqA false (.int i) (.int i) k := by
  show k (.bl (i == i))
  rw [beq_self_eq_true]; exact q
/-- a written number below 2 ^ 200 divides -/
theorem divW {m : Int} (h : 0 < m) (h2 : decide (m < 2 ^ 200) = true) : DivOk m := DivOk.of (n := 200) (by omega) (by
  have h2 := of_decide_eq_true h2
  unfold Sz
  have : ((2 ^ 200 : Nat) : Int) = (2 : Int) ^ 200 := by rw [Int.natCast_pow]; rfl
  omega) (by decide)
end DL
namespace DL
open PySem PySem.Spec PyProof.Rows L2
variable [TabC]
/-! ### what an error tells -/
theorem whyX1 {c code f : Str} {d : D} (h : fieldNames code = [f]) (h2 : (cdS == f) = false) : whyX (errX c code [f] [d]) = some (code, [d]) := by
  simp only [whyX, errX, errNs, lk, List.reverse_cons, List.reverse_nil, List.nil_append, List.cons_append, List.zip_cons_cons, List.zip_nil_left, List.lookup, h2, beq_self_eq_true, h, List.mapM_cons, List.mapM_nil]
  rfl
/-! ### cuts -/
/-! ### data of one and two storeys -/
end DL
namespace DL
open PySem PySem.Spec PyProof.Rows L2
end DL
/-! DJ4 -/
set_option Elab.async false
set_option linter.all false
set_option maxRecDepth 100000
set_option maxHeartbeats 4000000
/-! _law_whys(..), as data. -/
namespace DL
open PySem PySem.Spec PyProof.Rows L2
variable [TabC]
def tellO (c : Str) (y : D) : D := if c == "told" then .str "told" else .tup [.str c, y]
def ansL (A : LamO → (Str → D → Prop) → Prop) : List LamO → List D → (D → Prop) → Prop
  | [], acc, k => k (.lst acc)
  | o :: os, acc, k => A o fun c y => ansL A os (acc ++ [tellO c y]) k
theorem ansL_mn {A : LamO → (Str → D → Prop) → Prop} (hA : ∀ o κ κ', (∀ c d, κ c d → κ' c d) → A o κ → A o κ') : ∀ {os : List LamO} {acc : List D} {k k' : D → Prop}, (∀ d, k d → k' d) → ansL A os acc k → ansL A os acc k'
  | [], _, _, _, i, h => i _ h
  | o :: os, acc, k, k', i, h => hA _ _ _ (fun c d z => ansL_mn hA i z) h
theorem ansW_mn {errs : List Str} {env : Env} {lams : List LamR} {σ : StD} {os : List LamO} {acc : List D} {k k' : D → Prop} (i : ∀ d, k d → k' d) (h : ansL (whyA errs env lams σ) os acc k) : ansL (whyA errs env lams σ) os acc k' := ansL_mn (A := whyA errs env lams σ) (fun o κ κ' j => whyA_mn j) i h
def gWhys (errs : List Str) (env : Env) (lams : List LamR) (gx : GE) : GE := fun σ k => gx σ fun d => ∃ os : List LamO, d = .lst (os.map .clo) ∧ os.length ≤ 1000 ∧ ansL (whyA errs env lams (shOnly σ)) os [] k
theorem gWhys_mn {errs : List Str} {env : Env} {lams : List LamR} {gx : GE} (A : Mn gx) : Mn (gWhys errs env lams gx) := fun σ k k' i q => A _ _ _ (fun d ⟨os, h1, h2, h3⟩ => ⟨os, h1, h2, ansW_mn i h3⟩) q
/-- the body of _law_whys, the asking of one lambda being given -/
def WhysB (P : Program) (w : World) (K : Fg) (mg : Str → Option Value) (base : Heap) (x why ask : Str) (g : Addr) (bg : List Stmt) (sg : Scope) (N : List Str) : Prop :=
  ∀ (cdv : Value) (A : Around) (outer : List Env) (s : Shared) (H : Hp) (E : XK) (b : Option Addr) (An : LamO → (Str → D → Prop) → Prop), Room 2 (A.deeper (envOfC x sg s.heap.objs.size g cdv)) → (∀ o κ κ', (∀ c d, κ c d → κ' c d) → An o κ → An o κ') →
    (∀ {p py pos : Pos}, DE b H (cxOf (L2.CX P w) P w K mg base N x sg g cdv A outer s H E) (.Call (.Name why p) [.Name ask py] [] pos) (gAns 2 An)) →
    ∃ u, DSs b H (cxOf (L2.CX P w) P w K mg base N x sg g cdv A outer s H E) bg u ∧ ∀ (os : List LamO) (k : D → Prop), os.length ≤ 1000 → ansL An os [] k → u (fin k) (startD N [.lst (os.map .clo)])
theorem de_whys {X : Cx} {b : Option Addr} {H0 : Hp} {x y v a n fl x1 x2 x3 : Str} {g gW fF : Addr} {fd fdW fdF : FuncData} {pg pw pf : Arguments} {bg bw bf : List Stmt} {sg sw sf : Scope} {pe : Str} {c1 c2 c3 : Value} {k : Nat} {errs : List Str} {lams : List LamR} {p pos : Pos} {ex : Expr} {gx : GE} {N : List Str} {v0 : Str}
    {j k1 k2 k3 : Nat} {p1 p2 p3 p4 p5 q1 q2 q3 q4 r1 r2 r3 r4 r5 r6 r7 r8 p8 : Pos}
    (Ax : DE b H0 X ex gx)
    (hg : Gl X x) (hm : X.mg x = some (.ref g)) (FW : FunD X.K x x pg bg sg [] [] g fd) (Sg : FnScope N [v0] sg) (hb : Binds X.K fd [v0] []) (WB : WhysB X.prog X.w X.K X.mg X.base x y v g bg sg N) (hNv : N[2]? = some v) (hvv : Vis sg v)
    (hgw : sg.names.lookup y = some .globalImplicit) (hmw : X.mg y = some (.ref gW)) (FY : FunD X.K y y pw bw sw [] [] gW fdW) (Sw : FnScope [a, n] [a] sw) (hbw : Binds X.K fdW [a] []) (hbg : bw = whyB a n fl x1 x2 x3 j k1 k2 k3 p1 p2 p3 p4 p5 q1 q2 q3 q4 r1 r2 r3 r4 r5 r6 r7 r8 p8)
    (hln : sw.names.lookup n = some .local) (hva : Vis sw a) (g1 : sw.names.lookup x1 = some .globalImplicit) (m1 : X.mg x1 = some c1) (g2 : sw.names.lookup x2 = some .globalImplicit) (m2 : X.mg x2 = some c2) (g3 : sw.names.lookup x3 = some .globalImplicit) (m3 : X.mg x3 = some c3)
    (FF : FunD X.K fl fl pf bf sf [] [] fF fdF) (SF : FnScope [pe] [pe] sf) (hgf : sw.names.lookup fl = some .globalImplicit) (hmf : X.mg fl = some (.ref fF)) (hbf : Binds X.K fdF [pe] [])
    (hB : ∀ (a : Addr) (oe : Obj) (cls : Value) (d : Option Addr), Zc cls d oe → (∃ vs, oe.data = .fields vs) → ∀ (cdv : Value) (A : Around) (outer : List Env) (s : Shared) (H : Hp) (E : XK), PSs (L2H.cxH C8.CX0 X.prog X.w X.K X.mg X.base [pe] fl sf fF cdv A outer s H E (a, oe)) bf (tField X.K a cls d))
    (W : ErrsOk X.K errs c1 c2 c3) (hr : Room (k + 3) X.A) (LK : ∀ l ∈ lams, LamK k b X l)
    (hN : ([a, n] : List Str).Nodup := by decide) (hdb : (x == ("__debug__" : Str)) = false := by decide) (hdy : (y == ("__debug__" : Str)) = false := by decide) (hdv : (v == ("__debug__" : Str)) = false := by decide) (hcv : (v == ("__classdict__" : Str)) = false := by decide)
    (hd1 : (x1 == ("__debug__" : Str)) = false := by decide) (hd2 : (x2 == ("__debug__" : Str)) = false := by decide) (hd3 : (x3 == ("__debug__" : Str)) = false := by decide) (hda : (a == ("__debug__" : Str)) = false := by decide) (hca : (a == ("__classdict__" : Str)) = false := by decide)
    (hdf : (fl == ("__debug__" : Str)) = false := by decide) (hdn : (n == ("__debug__" : Str)) = false := by decide) (hcn : (n == ("__classdict__" : Str)) = false := by decide)
    (hst : starEach [ex] X.env = (false, eval ex X.env) :: starEach [] X.env := by rfl) (hpl : (backTo pos (starEach [] X.env)).any (·.1) = false := by rfl) :
    DE b H0 X (.Call (.Name x p) [ex] [] pos) (gWhys errs X.env lams gx) := by
  refine ⟨⟨fun pins s σ H Q I ⟨σd, O, R, q⟩ => ?_⟩, gWhys_mn Ax.mn⟩
  obtain ⟨oc, od, dV, kV, doc, pm, an, cdv, ct, osl, rfl, lkW, hcd, _, _⟩ := FW.ex
  refine wpAny_Call_Name_kw (ld_glob I hg hm ?_ hdb)
  have pa : PA X [ex] _ := pa_cons Ax.pe pa_nil hst
  refine PySem.W.callWith_K (h₀ := X.base) I.ok.mod.kin FW.kp (thn (pa.run pos pins s σ H (fun vs H' => ∃ w os, vs = [w] ∧ Ext b H H' ∧ Rep X.K b (hide O H') (.lst (os.map .clo)) w ∧ os.length ≤ 1000 ∧ ansL (whyA errs X.env lams (shOnly σd)) os [] (fun d => ∀ v H2, Ext b H' H2 → Rep X.K b (hide O H2) d v → Q v H2)) I
    ⟨σd, O, R, Ax.mn _ _ _ (fun d ⟨os, e1, e2, e3⟩ w H' x1 r => ⟨w, os, rfl, x1, by rw [← e1]; exact r, e2, ansW_mn (fun d hd v H2 x2 r2 => hd v H2 (x1.trans x2) r2) e3⟩) q⟩) fun us s1 ⟨vs, H1, I1, rr, w, os, ev, xH, rw1, hl, an⟩ => ⟨I1.kIn, ?_⟩) hst hpl
  subst ev
  obtain ⟨u, rfl, ru⟩ := rr.one
  have Rm := R.mono xH
  have hO : ∀ a ∈ O, Hid O H1 a := fun a m => (Rm.nb a m).2.2
  have hOb : ∀ a ∈ O, some a ≠ b ∧ Hid O H1 a := fun a m => ⟨(Rm.nb a m).1, (Rm.nb a m).2.2⟩
  have I2 := inv_hide I1 hO
  have RS := Rm.shOnly
  have rc : codeAny (model X.prog X.w) X.A (.call (.ref g) ⟨[u], []⟩) (CR (L2.CX X.prog X.w) X.stack X.prog X.w (hide O H1) s1 (fun v H2 => (∀ a ∈ O, H2 a = none) → Q v (back O H1 H2)) (fun _ _ _ => False)) s1 := by
    refine LamX.run_ofS (N := N) (ps := [v0]) (us := [u]) (vs := [w]) lkW hcd Sg hr I2.env0 (hb s1 [u] I2.kIn rfl) (.cons ru .nil) rfl fun hr' => ?_
    obtain ⟨gb, dg, rd⟩ := WB cdv X.A X.stack s1 (hide O H1) (fun _ _ _ => False) b (whyA errs X.env lams (shOnly σd)) (hr'.mono (by omega)) (fun o κ κ' j => whyA_mn j) (fun {p py pos} => de_whyC (i := 2) I2 RS hgw hmw FY Sw hbw hbg hln hva g1 m1 g2 m2 g3 m3 FF SF hgf hmf hbf hB W hr' LK hNv hvv hN hdy hd1 hd2 hd3 hda hca hdf hdn hcn hdv hcv)
    have an2 := ansW_mn (k' := fun d => ∀ v H', Ext b (hide O H1) H' → Rep X.K b H' d v → (∀ a ∈ O, H' a = none) → Q v (back O H1 H')) (fun d hd v H' xx r fr => hd v _ (back_ext hOb fr xx) (by rw [back_hide fr]; exact r)) an
    refine ⟨_, dg.ps, startD N [.lst (os.map .clo)], [], rst_start Rm.bg (Reps.cons rw1 Reps.nil), dg.mn (fin _) _ _ (fun σ q σ' H' O' R' x1 => ?_) (fun d q v H' x1 r1 => q v H' x1 r1) (fun σ q => q.elim) (fun σ q => q.elim) (rd os _ hl an2)⟩
    exact q .non H' (R'.ret (.refl H')) rfl
  refine wpAny_call (codeAny_mono rc fun r s2 hq => ?_)
  cases r with
  | error e => exact (cz_none (X := X) (b := b) (H0 := H0)).pass pins σ (hide O H1) s1 e s2 I2 hq
  | ok fl =>
    cases fl with
    | ret u =>
      obtain ⟨v, H2, os, bare, un, ok, rv, q⟩ := hq
      obtain ⟨fr, I3⟩ := inv_back I1 hO os bare un ok
      exact ⟨v, _, I3, rv, q fr⟩
    | next => exact False.elim hq
    | brk => exact False.elim hq
    | cont => exact False.elim hq
/-- one lambda asked: it lets out an error, or tells -/
theorem ans_why {errs : List Str} {env : Env} {lams : List LamR} {σ : StD} {o : LamO} {os : List LamO} {acc : List D} {k : D → Prop} {l : LamR} (hl : l ∈ lams) (h : LamI env l.params l.body l.scope o)
    (q : l.ge (fun x => x.c ∈ errs ∧ match whyX x with | some (code, es) => ansL (whyA errs env lams σ) os (acc ++ [tellO code (.tup es)]) k | none => False) σ (fun _ => ansL (whyA errs env lams σ) os (acc ++ [.str "told"]) k)) : ansL (whyA errs env lams σ) (o :: os) acc k :=
  ⟨l, hl, h, _, _, fun x z => z, fun d z => z, q⟩
/-! ### where a lambda stands -/
def stA (l : List Stmt) (i : Nat) : Stmt := l.getD i (.Pass ⟨0, 0, 0, 0⟩)
def stB : Stmt → List Stmt
  | .For _ _ b _ _ => b
  | .If _ b _ _ => b
  | .While _ b _ _ => b
  | _ => []
def lamAt (s : Stmt) (i : Nat) : Option (Arguments × Expr × Scope) := match s with
  | .Assign _ (.List es _) _ => (match es[i]? with | some (.Lambda p b s _) => some (p, b, s) | _ => none)
  | _ => none
theorem lk_nil {k : Nat} {b : Option Addr} {X : Cx} : ∀ l ∈ ([] : List LamR), LamK k b X l := fun _ h => by cases h
theorem lk_cons {k : Nat} {b : Option Addr} {X : Cx} {st : Stmt} {i : Nat} {p : Arguments} {bd : Expr} {sc : Scope} {ge : (XD → Prop) → GE} {ls : List LamR} (e : lamAt st i = some (p, bd, sc)) (L : LamX.LamS X.env.scope sc)
    (hbind : ∀ (q : Str) (cl : List (Str × Addr)) (pm cv ctv : Value), bindArgs (PySem.W.kla_fn "<lambda>" q p bd sc cl pm cv ctv) ⟨[], []⟩ = pure [])
    (hbody : ∀ (A : Around) (outer : List Env) (s : Shared) (Hb Hh : Hp) (E : XK) (f c' : Addr) (eo : XD → Prop), Room k (A.deeper (LamX.lamEnv X sc s.heap.objs.size f c')) → Cz (LamX.lamCx X A outer s Hb E sc f c') b Hh E eo → DE b Hh (LamX.lamCx X A outer s Hb E sc f c') bd (ge eo))
    (r : ∀ l ∈ ls, LamK k b X l) : ∀ l ∈ (⟨p, bd, sc, ge⟩ :: ls : List LamR), LamK k b X l := fun l h => by
  rcases List.mem_cons.mp h with e | h
  · subst e; exact ⟨L, hbind, hbody⟩
  · exact r l h
end DL
/-! DJ5 -/
set_option Elab.async false
set_option linter.all false
set_option maxRecDepth 100000
set_option maxHeartbeats 4000000
/-! int op own, as data -/
namespace DL
open PySem PySem.W PySem.Calls PyProof.Rows
end DL
namespace DL
open PySem PySem.Spec PyProof.Rows L2
variable [TabC]
section
variable {X : Cx} {b : Option Addr} {H0 : Hp} {E : XK} {eo : XD → Prop} {s : GS} {k : Nat} {f : Addr} {fd : FuncData} {ps : List Str} {c : Str} {pos : Pos} {a e : Expr} {ga gb : GE}
/-- i op y, y of the class c -/
def gOwnR (c : Str) (s : GS) (eo : XD → Prop) (ga gb : GE) : GE := fun σ k => ga σ fun x => gb σ fun y => match x, y with
  | .int i, .ins c' ns ds => c' = c ∧ s [.ins c' ns ds, .int i] k eo
  | _, _ => False
end
end DL
/-! DP2 -/
set_option Elab.async false
set_option linter.all false
set_option maxRecDepth 100000
set_option maxHeartbeats 4000000
/-! More plain lemmas. -/
namespace DL
open PySem PySem.Spec PyProof.Rows L2
variable [TabC]
/-- a comprehension with a test -/
theorem lcD_fil {α : Type} {t : Tgt} {gt : GT} {ge : GE} {σ : StD} (g f : α → D) (p : α → Bool) {l : List α} {acc : List D} {k : D → Prop} (h : ∀ x ∈ l, ∀ (kk : D → Prop) (ko : Prop), (p x = true → kk (f x)) → (p x = false → ko) → asg t (g x) σ fun σ2 => gt σ2 fun c => match c with | true => ge σ2 kk | false => ko)
    (hl : acc.length + l.length ≤ 1000000) (hk : k (.lst (acc ++ (l.filter p).map f))) : lcD t gt ge σ (l.map g) acc k := by
  induction l generalizing acc with
  | nil =>
    simp only [List.filter_nil, List.map_nil, List.append_nil] at hk
    exact hk
  | cons d r ih =>
    have ih' := fun acc => ih (acc := acc) (fun d' hd' => h d' (List.mem_cons_of_mem _ hd'))
    simp only [List.length_cons] at hl
    refine h d List.mem_cons_self (fun y => acc.length < 1000000 ∧ lcD t gt ge σ (r.map g) (acc ++ [y]) k) _ (fun e => ⟨by omega, ?_⟩) (fun e => ?_)
    · refine ih' _ (by simp only [List.length_append, List.length_cons, List.length_nil]; omega) ?_
      rw [List.filter_cons, if_pos e] at hk
      simpa using hk
    · refine ih' _ (by omega) ?_
      rw [List.filter_cons, if_neg (by rw [e]; exact Bool.false_ne_true)] at hk
      exact hk
theorem Sms.neg {n : Nat} {a : List Int} (h : Sms n a) : Sms n (a.map (- ·)) := fun x hx => by
  obtain ⟨y, hy, rfl⟩ := List.mem_map.mp hx
  exact (h y hy).neg
theorem atI_zero {α : Type} {x : α} {xs : List α} : atI (x :: xs) 0 = some x := by
  unfold atI ixN
  rw [if_pos (by decide), if_pos (by simp only [List.length_cons]; omega)]
  rfl
/-- small written numbers -/
theorem szW {n : Nat} {i : Int} (h : decide (i.natAbs < 2 ^ n) = true) : Sz n i := by unfold Sz; exact of_decide_eq_true h
/-- a lambda asked lets out an error -/
theorem ans_err {A : LamO → (Str → D → Prop) → Prop} {errs : List Str} {os : List LamO} {acc : List D} {k : D → Prop} {x : XD} {code : Str} {es : List D} (h1 : x.c ∈ errs) (h2 : whyX x = some (code, es)) (h3 : (code == ("told" : Str)) = false) (q : ansL A os (acc ++ [.tup [.str code, .tup es]]) k) :
    x.c ∈ errs ∧ match whyX x with | some (code, es) => ansL A os (acc ++ [tellO code (.tup es)]) k | none => False := by
  refine ⟨h1, ?_⟩
  rw [h2]
  show ansL A os (acc ++ [tellO code (.tup es)]) k
  unfold tellO
  rw [h3]
  exact q
/-! ### texts of numbers -/
theorem str_len2 (a b : Str) : (a ++ b).length = a.length + b.length := by
  show (a.cps ++ b.cps).size = _
  rw [Array.size_append]; rfl
theorem szLog {n : Nat} {i : Int} (h : Sz n i) (hn : n ≤ 1920 := by decide) (hp : 0 < n := by decide) : i.natAbs.log2 < 1920 := by
  unfold Sz at h
  rcases Nat.eq_zero_or_pos i.natAbs with z | z
  · rw [z]; decide
  · exact Nat.lt_of_lt_of_le ((Nat.log2_lt (by omega)).mpr h) hn
end DL
/-! DJ6 -/
set_option Elab.async false
set_option linter.all false
set_option maxRecDepth 100000
set_option maxHeartbeats 4000000
/-! bool(own), abs(own) at the library's level -/
namespace DL
open PySem PySem.W PySem.Calls PyProof.Rows Builtin
end DL
namespace DL
open PySem PySem.Spec PyProof.Rows L2
variable [TabC]
section
variable {X : Cx} {b : Option Addr} {H0 : Hp} {E : XK} {eo : XD → Prop} {s : GS} {k : Nat} {f : Addr} {fd : FuncData} {ps : List Str} {c : Str} {p pos : Pos} {a e : Expr} {ga gb : GE} {cls : List Str}
def gOwnB (c : Str) (s : GS) (eo : XD → Prop) (ga : GE) : GE := fun σ k => gOwn1 c s eo ga σ fun d => match d with | .bl r => k (.bl r) | _ => False
/-! ### own == anything -/
/-- no built-in class is below the class at C -/
def nfB (K : Fg) (C : Addr) : Bool := [Tg.non, .bl, .int, .str, .tup, .lst, .dic].all fun T => decide (PySem.W.subIn K (.type T.nm) (.ref C) = some false)
theorem nfB_ok {K : Fg} {C : Addr} (h : nfB K C = true) : ∀ T : Tg, PySem.W.subIn K (.type T.nm) (.ref C) = some false := fun T => by
  have h := List.all_eq_true.mp h
  cases T <;> exact of_decide_eq_true (h _ (by decide))
theorem tagTy {K : Fg} {H : Hp} {b : Option Addr} {d : D} {v : V} {T : Tg} (r : Rep K b H d v) (h : tagOf d = some T) : TyX K H v (.type T.nm) := by
  cases d with
  | non => cases h; rw [r.non]; exact .base .non
  | bl x => cases h; rw [r.bl]; exact .base (.bl _)
  | int x => cases h; rw [r.int]; exact .base (.int _)
  | str x => cases h; rw [r.str]; exact .base (.str _)
  | tup ds =>
    cases h
    obtain ⟨a, vs, rfl, n, hs, s⟩ := r.tup
    rcases hs with (h | ⟨o, h⟩) | ⟨o, its, n, h, c, _⟩
    · exact .base (.tup h)
    · exact .fTuple h
    · exact .kTuple h c
  | lst ds =>
    cases h
    obtain ⟨a, vs, rfl, n, hs, s⟩ := r.lst
    rcases hs with (h | ⟨o, h⟩) | ⟨o, its, n, h, c, _⟩
    · exact .base (.lst h)
    · exact .base (.frz h)
    · exact .kList h c
  | dic ks ds =>
    cases h
    simp only [Rep] at r
    obtain ⟨a, o, vs, rfl, n, h, l, s⟩ := r
    exact .fDict h
  | frl a ds =>
    cases h
    obtain ⟨o, vs, rfl, n, h, s⟩ := r.frl
    exact .base (.frz h)
  | frd ks ds =>
    cases h
    obtain ⟨a, vs, rfl, n, h, l, s⟩ := r.frd
    exact .base (.dK h)
  | _ => cases h
/-- the right side of own == y -/
def rhsD (c : Str) : D → Bool
  | .ins c' _ _ => c' == c
  | .bag => false | .clo _ => false | .exc _ _ _ => false | _ => true
def gOwnE (c : Str) (s : GS) (eo : XD → Prop) (ga gb : GE) : GE := fun σ k => ga σ fun x => gb σ fun y => match x with
  | .ins c' ns ds => c' = c ∧ rhsD c y = true ∧ s [.ins c' ns ds, y] k eo
  | _ => False
theorem gOwnE_mn (ms : MnS s) (A : Mn ga) (B : Mn gb) : Mn (gOwnE c s eo ga gb) := fun σ k k' i q => A _ _ _ (fun x z => B _ _ _ (fun y w => by
  cases x with
  | ins c' ns ds => exact ⟨w.1, w.2.1, ms _ _ _ _ _ i (fun _ w => w) w.2.2⟩
  | _ => exact w.elim) z) q
theorem rhs_looks {pins : List (Addr × Obj)} {σ : L2.St} {H : Hp} {O : List Addr} {s2 : Shared} {M : Model} {d : D} {v : V} {u : Value} (I : Inv X pins σ H s2) (rv : RelV v u) (r : Rep X.K b (hide O H) d v) (h : rhsD c d = true) (nf : ∀ T : Tg, PySem.W.subIn X.K (.type T.nm) (.ref (He.ga X.K c)) = some false) :
    ∃ tb, PySem.W.Looks M s2.heap (typeOf u) tb ∧ PySem.W.notFirst X.K (He.ga X.K c) tb = true := by
  have r' := r.mono (hide_le (b := b))
  have tagged : ∀ T : Tg, tagOf d = some T → ∃ tb, PySem.W.Looks M s2.heap (typeOf u) tb ∧ PySem.W.notFirst X.K (He.ga X.K c) tb = true := fun T e => by
    obtain ⟨P, kx, hp, _⟩ := kit_of I rv (tagTy r' e)
    refine ⟨_, kx.ty M _ I.kIn hp, ?_⟩
    unfold PySem.W.notFirst
    rw [nf T]; simp
  cases d with
  | ins c' ns ds =>
    have e : c' = c := by simpa [rhsD] using h
    subst e
    obtain ⟨a, dx, vs, rfl, n, hh, l, _⟩ := r'.ins
    obtain rfl : u = Value.ref a := rv
    obtain ⟨mB, J2, _⟩ := ins_get I.hok hh
    obtain ⟨od2, J2, _⟩ := J2.look
    exact ⟨_, J2.type, by simp [PySem.W.notFirst]⟩
  | bag => cases h
  | clo o => cases h
  | non => exact tagged .non rfl
  | bl _ => exact tagged .bl rfl
  | int _ => exact tagged .int rfl
  | str _ => exact tagged .str rfl
  | tup _ => exact tagged .tup rfl
  | lst _ => exact tagged .lst rfl
  | dic _ _ => exact tagged .dic rfl
  | frl _ _ => exact tagged .lst rfl
  | frd _ _ => exact tagged .dic rfl
  | exc _ _ _ => cases h
theorem dc_eqE (A : DE b H0 X a ga) (B : DE b H0 X e gb) (o : Own X.K (He.ga X.K c) "__eq__" f) (nf : ∀ T : Tg, PySem.W.subIn X.K (.type T.nm) (.ref (He.ga X.K c)) = some false) (F : FnOk X.prog X.w X.K X.mg X.base (L2.CX X.prog X.w) k f fd ps (lift X.K s)) (ms : MnS s) (hr : Room k X.A) (hb : Binds X.K fd ps []) (Z : Cz X b H0 E eo) : DCm b H0 X .Eq a e (gOwnE c s eo ga gb) := by
  refine ⟨⟨fun pins s0 σ H Q I ⟨σd, O, R, q⟩ => ?_⟩, gOwnE_mn ms A.mn B.mn⟩
  refine (binT (R := fun x y H2 => ∃ a dx fs d1 d2, x = .ref a ∧ H2 a = some (.ins (He.ga X.K c) dx fs) ∧ rhsD c d2 = true ∧ Rst X.K b H0 σd σ H2 O ∧ Reps X.K b (hide O H2) [d1, d2] [x, y] ∧ s [d1, d2] (fun d => ∀ v H3, Ext b H2 H3 → Rep X.K b (hide O H3) d v → Q v H3) eo) A.pe B.pe I
    ⟨σd, O, R, A.mn _ _ _ (fun x hx v1 H1 x1 r1 => ⟨σd, O, R.mono x1, B.mn _ _ _ (fun y hy v2 H2 x2 r2 => ?_) hx⟩) q⟩ fun u1 u2 s2 x y H2 I2 rx ry ⟨a, dx, fs, d1, d2, ex, ea, ey, R2, rs, q2⟩ => ?_)
  · have rr : Reps X.K b (hide O H2) [x, y] [v1, v2] := Reps.cons (r1.mono (x2.1.hide O)) (Reps.cons r2 Reps.nil)
    have r1' := r1.mono (x2.1.hide O)
    cases x with
    | ins c' ns ds =>
      obtain ⟨e1, e2, z⟩ := hy
      subst e1
      obtain ⟨a, dx, vs, rfl, n, h, l, _⟩ := r1'.ins
      exact ⟨a, dx, _, _, _, rfl, (of_hide h).2, e2, R.mono (x1.trans x2), rr, ms _ _ _ _ _ (fun d w v H3 x3 r3 => w v H3 (x1.trans (x2.trans x3)) r3) (fun _ w => w) z⟩
    | _ => exact hy.elim
  · subst ex
    obtain rfl : u1 = Value.ref a := rx
    obtain ⟨mA, J, _⟩ := ins_get I2.hok ea
    obtain ⟨od, J, _⟩ := J.look
    obtain ⟨m, hF⟩ := I2.fr
    have run : wpAny (model X.prog X.w) X.A (call (.ref f) [.ref a, u2]) (EP X pins σ Q) X.xe s2 := run_fnD (us := [.ref a, u2]) (vs := [.ref a, y]) (dd := []) (dvs := []) (dus := []) F ms hr hb .nil (fun _ _ => Reps.nil) Z I2 (.cons rfl (.cons ry .nil)) R2 rs q2
    have run' := wpAny_mono run (fun v s' h => cmpBack_of h) fun _ _ h => h
    obtain ⟨_, _, ew, r1, rs2⟩ := rs.of_cons
    cases ew
    obtain ⟨_, _, ew, r2, _⟩ := rs2.of_cons
    cases ew
    obtain ⟨tb, lk, hn⟩ := rhs_looks (M := model X.prog X.w) I2 ry r2 ey nf
    show wpAny _ _ (richCompare .Eq (.ref a) u2) _ _ _
    exact PySem.W.cmp_K (op := .Eq) (tb := tb) hr.units0 hF I2.ok.mod.kin J lk hn o.find o.fn run'
def gOwnEN (c : Str) (s : GS) (eo : XD → Prop) (ga gb : GE) : GE := fun σ k => gOwnE c s eo ga gb σ fun d => match d with | .bl r => k (.bl (!r)) | _ => False
theorem gOwnEN_mn (ms : MnS s) (A : Mn ga) (B : Mn gb) : Mn (gOwnEN c s eo ga gb) := fun σ k k' i q => gOwnE_mn ms A B _ _ _ (fun d z => by cases d <;> first | exact i _ z | exact z.elim) q
theorem dc_neE (A : DE b H0 X a ga) (B : DE b H0 X e gb) (o : Own X.K (He.ga X.K c) "__eq__" f) (nf : ∀ T : Tg, PySem.W.subIn X.K (.type T.nm) (.ref (He.ga X.K c)) = some false) (hne : PySem.W.findIn X.K (.ref (He.ga X.K c)) "__ne__" = some (some (.builtin "object.__ne__"))) (hobj : PySem.W.subIn X.K (.ref (He.ga X.K c)) (.type "object") = some true)
    (F : FnOk X.prog X.w X.K X.mg X.base (L2.CX X.prog X.w) k f fd ps (lift X.K s)) (ms : MnS s) (hr : Room (k + 1) X.A) (hb : Binds X.K fd ps []) (Z : Cz X b H0 E eo) : DCm b H0 X .NotEq a e (gOwnEN c s eo ga gb) := by
  refine ⟨⟨fun pins s0 σ H Q I ⟨σd, O, R, q⟩ => ?_⟩, gOwnEN_mn ms A.mn B.mn⟩
  refine (binT (R := fun x y H2 => ∃ a dx fs d1 d2, x = .ref a ∧ H2 a = some (.ins (He.ga X.K c) dx fs) ∧ rhsD c d2 = true ∧ Rst X.K b H0 σd σ H2 O ∧ Reps X.K b (hide O H2) [d1, d2] [x, y] ∧ s [d1, d2] (fun d => ∀ v H3, Ext b H2 H3 → Rep X.K b (hide O H3) d v → ∃ r, v = .bl r ∧ Q (.bl (!r)) H3) eo) A.pe B.pe I
    ⟨σd, O, R, A.mn _ _ _ (fun x hx v1 H1 x1 r1 => ⟨σd, O, R.mono x1, B.mn _ _ _ (fun y hy v2 H2 x2 r2 => ?_) hx⟩) q⟩ fun u1 u2 s2 x y H2 I2 rx ry ⟨a, dx, fs, d1, d2, ex, ea, ey, R2, rs, q2⟩ => ?_)
  · have rr : Reps X.K b (hide O H2) [x, y] [v1, v2] := Reps.cons (r1.mono (x2.1.hide O)) (Reps.cons r2 Reps.nil)
    have r1' := r1.mono (x2.1.hide O)
    cases x with
    | ins c' ns ds =>
      obtain ⟨e1, e2, z⟩ := hy
      subst e1
      obtain ⟨a, dx, vs, rfl, n, h, l, _⟩ := r1'.ins
      refine ⟨a, dx, _, _, _, rfl, (of_hide h).2, e2, R.mono (x1.trans x2), rr, ms _ _ _ _ _ (fun d w v H3 x3 r3 => ?_) (fun _ w => w) z⟩
      cases d with
      | bl r => exact ⟨r, r3.bl, w _ H3 (x1.trans (x2.trans x3)) rfl⟩
      | _ => exact w.elim
    | _ => exact hy.elim
  · subst ex
    obtain rfl : u1 = Value.ref a := rx
    obtain ⟨mA, J, _⟩ := ins_get I2.hok ea
    obtain ⟨od, J, _⟩ := J.look
    obtain ⟨m, hF⟩ := I2.fr
    have run : wpAny (model X.prog X.w) X.A.in1 (call (.ref f) [.ref a, u2]) (EP X pins σ fun v H3 => ∃ r, v = .bl r ∧ Q (.bl (!r)) H3) X.xe s2 := run_fnB (us2 := [.ref a, u2]) (vs2 := [.ref a, y]) F ms hr.in1 rfl Z I2 hb (.cons rfl (.cons ry .nil)) R2 rs q2
    obtain ⟨_, _, ew, r1, rs2⟩ := rs.of_cons
    cases ew
    obtain ⟨_, _, ew, r2, _⟩ := rs2.of_cons
    cases ew
    obtain ⟨tb, lk, hn⟩ := rhs_looks (M := model X.prog X.w) I2 ry r2 ey nf
    show wpAny _ _ (richCompare .NotEq (.ref a) u2) _ _ _
    refine ne_K (tb := tb) hr.units0 hr.in1.units0 hF I2.ok.mod.kin J lk hn o.find hne o.fn hobj (wpAny_mono run (fun v s' h => ?_) fun _ _ h => h)
    obtain ⟨v', H', I', rv, r, ev, hq⟩ := h
    subst ev
    obtain rfl : v = Value.bool r := rv
    exact ⟨r, rfl, .bl (!r), H', I', rfl, hq⟩
end
end DL
/-! DJ7 -/
set_option Elab.async false
set_option linter.all false
set_option maxRecDepth 100000
set_option maxHeartbeats 4000000
/-! staticmethods; defs at any address told by the head. -/
namespace DL
open PySem PySem.Spec PyProof.Rows L2
variable [TabC]
/-- the def of the staticmethod (property) m of the class c -/
abbrev smA (K : Fg) (c m : Str) : Addr := He5.wf K (He.ga K c) "staticmethod" m
structure SMet (K : Fg) (c m : Str) : Prop where
  rd : ClX.CRead K (He.ga K c) (.type "type")
  at_ : PySem.W.findCls K (.ref (He.ga K c)) (.type "type") m = some (.get (.builtin "staticmethod.__get__") (.ref (He.ma K (He.ga K c) m)) .none (.ref (He.ga K c)))
  rc : ∃ rest, PySem.W.recIn K (He.ma K (He.ga K c) m) "staticmethod" = some (.ref (smA K c m) :: rest)
def smB (K : Fg) (c m : Str) : Bool := PySem.W.readsIn K (He.ga K c) (.type "type") && He5.wrapB K (He.ga K c) "staticmethod" "staticmethod.__get__" m
theorem smB_ok {K : Fg} {c m : Str} (h : smB K c m = true) : SMet K c m := by
  unfold smB at h
  rw [Bool.and_eq_true] at h
  obtain ⟨h1, h2⟩ := h
  obtain ⟨h3, h4⟩ := He5.wrapB_ok h2
  exact ⟨⟨h1, readsGa h1⟩, h3, h4⟩
section
variable {X : Cx} {b : Option Addr} {H0 : Hp} {E : XK} {eo : XD → Prop} {s : GS} {k : Nat} {ks : List Str} {c m : Str} {p pos apos : Pos} {args : List Expr} {kws : List Keyword} {ga : GA}
/-- c.m(..), m a staticmethod of the class c -/
theorem de_sm {pl : Sem Bool} (S : SMet X.K c m) (hm : X.mg c = some (.ref (He.ga X.K c))) (F : FnC X.prog X.w X.K X.mg X.base k (smA X.K c m) ks (lift X.K s)) (ms : MnS s) (hr : Room k X.A) (hk : PySem.W.keepIn X.K (.ref (smA X.K c m)) = true) (Z : Cz X b H0 E eo) (A : DCA b H0 X pos args kws ks ga)
    (hg : Gl X c := by rfl) (hd : (c == ("__debug__" : Str)) = false := by decide)
    (ht : eval (.Call (.Attribute (.Name c p) m apos) args kws pos) X.env = (do
      let ov ← eval (.Name c p) X.env
      standAt apos.atName
      let (f, first) ← holding [ov] (getMethod ov m pl)
      callWith pos f first (backTo pos (starEach args X.env)) (backToKw pos (keywordEach kws X.env))) := by rfl) :
    DE b H0 X (.Call (.Attribute (.Name c p) m apos) args kws pos) (gCa s eo ga) := by
  refine ⟨⟨fun pins s0 σ H Q I ⟨σd, O, R, q⟩ => ?_⟩, gCa_mn ms A.mn⟩
  have pg : PE X (.Name c p) (tC (.ref (He.ga X.K c))) := pe_glob (v := .ref (He.ga X.K c)) hg hm rfl hd
  refine PySem.W.methodCall_KW (pl := pl) (thn (pg.run pins s0 σ H (fun v H' => v = .ref (He.ga X.K c) ∧ H' = H) I ⟨rfl, rfl⟩) fun u s1 ⟨x, H1, I1, rx, ex, eH⟩ => ?_) ht
  subst ex eH
  obtain rfl : u = Value.ref (He.ga X.K c) := rx
  obtain ⟨rest, hp⟩ := S.rc
  refine PySem.W.method_cls I1.kIn S.rd.ga ?_
  refine PySem.W.cls_bind I1.kIn S.rd.rd S.at_ ?_
  refine wpAny_call (PySem.W.sm_get (s := { s1 with toks := s1.toks + 1 }) I1.kIn hp (PySem.W.handed_on rfl ?_))
  refine A.run pins _ σ H1 (.ref (smA X.K c m)) [] _ (I1.tok _) hk ⟨σd, O, R, A.mn _ _ _ (fun ds z us kus vs H' s' I' x1 hl r rp => ?_) q⟩
  exact run_fnC F ms hr Z I' hl r (R.mono x1) rp (ms _ _ _ _ _ (fun d w v H2 x2 r2 => w v H2 (x1.trans x2) r2) (fun _ w => w) z)
end
end DL
namespace DL
open PySem PySem.Spec PyProof.Rows L2
/-! ### properties -/
end DL
/-! DV -/
set_option Elab.async false
set_option linter.all false
set_option maxRecDepth 100000
set_option maxHeartbeats 4000000
/-! What a reading comes to: one value. -/
namespace DL
open PySem PySem.Spec PyProof.Rows L2
variable [TabC]
structure Stp (P : Prop) : Prop where
  run : P
structure Ev (g : GE) (σ : StD) (d : D) : Prop where
  run : ∀ k : D → Prop, k d → g σ k
instance {g : GE} {σ : StD} {d : D} : CoeFun (Ev g σ d) (fun _ => ∀ k : D → Prop, k d → g σ k) := ⟨Ev.run⟩
structure EvT (t : GT) (σ : StD) (c : Bool) : Prop where
  run : ∀ k : Bool → Prop, k c → t σ k
instance {t : GT} {σ : StD} {c : Bool} : CoeFun (EvT t σ c) (fun _ => ∀ k : Bool → Prop, k c → t σ k) := ⟨EvT.run⟩
structure EvA (g : GA) (σ : StD) (ds : List D) : Prop where
  run : ∀ k : List D → Prop, k ds → g σ k
instance {g : GA} {σ : StD} {ds : List D} : CoeFun (EvA g σ ds) (fun _ => ∀ k : List D → Prop, k ds → g σ k) := ⟨EvA.run⟩
structure EvI (g : GI) (σ : StD) (ds : List D) : Prop where
  run : ∀ k : List D → Prop, k ds → g σ k
instance {g : GI} {σ : StD} {ds : List D} : CoeFun (EvI g σ ds) (fun _ => ∀ k : List D → Prop, k ds → g σ k) := ⟨EvI.run⟩
structure EvP (g : StD → (Option Int → Prop) → Prop) (σ : StD) (o : Option Int) : Prop where
  run : ∀ k : Option Int → Prop, k o → g σ k
instance {g : StD → (Option Int → Prop) → Prop} {σ : StD} {o : Option Int} : CoeFun (EvP g σ o) (fun _ => ∀ k : Option Int → Prop, k o → g σ k) := ⟨EvP.run⟩
structure O1 (rd : D → (D → Prop) → Prop) (x z : D) : Prop where
  run : ∀ k : D → Prop, k z → rd x k
instance {rd : D → (D → Prop) → Prop} {x z : D} : CoeFun (O1 rd x z) (fun _ => ∀ k : D → Prop, k z → rd x k) := ⟨O1.run⟩
structure O2 (rd : D → D → (D → Prop) → Prop) (x y z : D) : Prop where
  run : ∀ k : D → Prop, k z → rd x y k
instance {rd : D → D → (D → Prop) → Prop} {x y z : D} : CoeFun (O2 rd x y z) (fun _ => ∀ k : D → Prop, k z → rd x y k) := ⟨O2.run⟩
structure ON (rd : List D → (D → Prop) → Prop) (ds : List D) (z : D) : Prop where
  run : ∀ k : D → Prop, k z → rd ds k
instance {rd : List D → (D → Prop) → Prop} {ds : List D} {z : D} : CoeFun (ON rd ds z) (fun _ => ∀ k : D → Prop, k z → rd ds k) := ⟨ON.run⟩
/-- a def, asked with ds, tells d; lets out x -/
structure SR (s : GS) (ds : List D) (d : D) : Prop where
  run : ∀ (k : D → Prop) (e : XD → Prop), k d → s ds k e
instance {s : GS} {ds : List D} {d : D} : CoeFun (SR s ds d) (fun _ => ∀ (k : D → Prop) (e : XD → Prop), k d → s ds k e) := ⟨SR.run⟩
structure SX (s : GS) (ds : List D) (x : XD) : Prop where
  run : ∀ (k : D → Prop) (e : XD → Prop), e x → s ds k e
instance {s : GS} {ds : List D} {x : XD} : CoeFun (SX s ds x) (fun _ => ∀ (k : D → Prop) (e : XD → Prop), e x → s ds k e) := ⟨SX.run⟩
structure SRI (s : GSI) (c : Str) (ds : List D) (ns : List Str) (fs : List D) : Prop where
  run : ∀ (k : List Str → List D → Prop) (e : XD → Prop), k ns fs → s c [] [] ds k e
instance {s : GSI} {c : Str} {ds : List D} {ns : List Str} {fs : List D} : CoeFun (SRI s c ds ns fs) (fun _ => ∀ (k : List Str → List D → Prop) (e : XD → Prop), k ns fs → s c [] [] ds k e) := ⟨SRI.run⟩
structure SXI (s : GSI) (c : Str) (ds : List D) (x : XD) : Prop where
  run : ∀ (k : List Str → List D → Prop) (e : XD → Prop), e x → s c [] [] ds k e
instance {s : GSI} {c : Str} {ds : List D} {x : XD} : CoeFun (SXI s c ds x) (fun _ => ∀ (k : List Str → List D → Prop) (e : XD → Prop), e x → s c [] [] ds k e) := ⟨SXI.run⟩
/-- the reading lets out x -/
structure EvX (eo : XD → Prop) (g : GE) (σ : StD) (x : XD) : Prop where
  run : ∀ k : D → Prop, eo x → g σ k
instance {eo : XD → Prop} {g : GE} {σ : StD} {x : XD} : CoeFun (EvX eo g σ x) (fun _ => ∀ k : D → Prop, eo x → g σ k) := ⟨EvX.run⟩
structure EvAX (eo : XD → Prop) (g : GA) (σ : StD) (x : XD) : Prop where
  run : ∀ k : List D → Prop, eo x → g σ k
instance {eo : XD → Prop} {g : GA} {σ : StD} {x : XD} : CoeFun (EvAX eo g σ x) (fun _ => ∀ k : List D → Prop, eo x → g σ k) := ⟨EvAX.run⟩
structure EvTX (eo : XD → Prop) (g : GT) (σ : StD) (x : XD) : Prop where
  run : ∀ k : Bool → Prop, eo x → g σ k
instance {eo : XD → Prop} {g : GT} {σ : StD} {x : XD} : CoeFun (EvTX eo g σ x) (fun _ => ∀ k : Bool → Prop, eo x → g σ k) := ⟨EvTX.run⟩
/-- an item bound, then read -/
structure AEv (t : Tgt) (d : D) (σ : StD) (ge : GE) (y : D) : Prop where
  run : ∀ k : D → Prop, k y → asg t d σ fun σ2 => ge σ2 k
instance {t : Tgt} {d : D} {σ : StD} {ge : GE} {y : D} : CoeFun (AEv t d σ ge y) (fun _ => ∀ k : D → Prop, k y → asg t d σ fun σ2 => ge σ2 k) := ⟨AEv.run⟩
section
variable {σ : StD} {d x y z : D} {ds es : List D} {ga gb ge g go : GE} {g1' g2' : GA} {t u : GT} {c a b : Bool} {eo : XD → Prop} {s : GS} {si : GSI}
/-! ### expressions -/
theorem ev_c : Ev (gC d) σ d := .mk fun _ q => q
theorem ev_var {i : Nat} (h : .sh d = look σ i) : Ev (gVar i) σ d := .mk fun k q => by unfold gVar; rw [← h]; exact q
theorem ev_varT {i : Nat} (h : .sh d = look σ i) : Ev (gVarT i) σ d := .mk fun k q => by unfold gVarT; rw [← h]; exact q
theorem ev_varO {i : Nat} (h : .own ds = look σ i) : Ev (gVarT i) σ (.lst ds) := .mk fun k q => by unfold gVarT; rw [← h]; exact q
theorem ev_g2 {rd : D → D → (D → Prop) → Prop} (A : Ev ga σ x) (B : Ev gb σ y) (h : O2 rd x y z) : Ev (g2 rd ga gb) σ z := .mk fun k q => A _ (B _ (h k q))
theorem ev_g1 {rd : D → (D → Prop) → Prop} (A : Ev ga σ x) (h : O1 rd x z) : Ev (g1 rd ga) σ z := .mk fun k q => A _ (h k q)
theorem ev_cl {rd : List D → (D → Prop) → Prop} (A : EvA g1' σ ds) (h : ON rd ds z) : Ev (gCl rd g1') σ z := .mk fun k q => A _ (h k q)
theorem eva_nil : EvA gNil σ [] := .mk fun _ q => q
theorem eva_cons (A : Ev ge σ d) (B : EvA g1' σ ds) : EvA (gCons ge g1') σ (d :: ds) := .mk fun k q => A _ (B _ q)
theorem eva_app (A : EvA g1' σ ds) (B : EvA g2' σ es) : EvA (gApp g1' g2') σ (ds ++ es) := .mk fun k q => A _ (B _ q)
/-- what is walked over, of a value -/
def ItR (x : D) (ds : List D) : Prop := x = .lst ds ∨ x = .tup ds
theorem itr_L : ItR (.lst ds) ds := .inl rfl
theorem itr_T : ItR (.tup ds) ds := .inr rfl
theorem eva_star (A : Ev ge σ x) (I : ItR x es) (B : EvA g1' σ ds) : EvA (gStar ge g1') σ (es ++ ds) := .mk fun k q => A _ (by rcases I with rfl | rfl <;> exact B _ q)
theorem eva_star1 (A : Ev ge σ x) (I : ItR x es) : EvA (gStar1 ge) σ es := .mk fun k q => A _ (by rcases I with rfl | rfl <;> exact q)
theorem ev_tup (A : EvA g1' σ ds) (h : ds.length ≤ 1000) : Ev (gTup g1') σ (.tup ds) := .mk fun k q => A _ ⟨h, q⟩
theorem ev_lst (A : EvA g1' σ ds) (h : ds.length ≤ 1000) : Ev (gLst g1') σ (.lst ds) := .mk fun k q => A _ ⟨h, q⟩
/-- what both ways come to -/
def Jn (c : Bool) (x y z : D) : Prop := (c = true → x = z) ∧ (c = false → y = z)
theorem jn_eq : Jn c x x x := ⟨fun _ => rfl, fun _ => rfl⟩
theorem jn_int {i j : Int} : Jn c (.int i) (.int j) (.int (bif c then i else j)) := ⟨fun e => by subst e; rfl, fun e => by subst e; rfl⟩
theorem jn_str {i j : Str} : Jn c (.str i) (.str j) (.str (bif c then i else j)) := ⟨fun e => by subst e; rfl, fun e => by subst e; rfl⟩
theorem jn_bl {i j : Bool} : Jn c (.bl i) (.bl j) (.bl (bif c then i else j)) := ⟨fun e => by subst e; rfl, fun e => by subst e; rfl⟩
theorem jn_tup {i j : List D} : Jn c (.tup i) (.tup j) (.tup (bif c then i else j)) := ⟨fun e => by subst e; rfl, fun e => by subst e; rfl⟩
theorem jn_lst {i j : List D} : Jn c (.lst i) (.lst j) (.lst (bif c then i else j)) := ⟨fun e => by subst e; rfl, fun e => by subst e; rfl⟩
theorem jn_any : Jn c x y (bif c then x else y) := ⟨fun e => by subst e; rfl, fun e => by subst e; rfl⟩
theorem ev_if (T : EvT t σ c) (A : c = true → Ev ga σ x) (B : c = false → Ev gb σ y) (J : Jn c x y z) : Ev (gIf t ga gb) σ z := .mk fun k q => T _ (by
  cases c with
  | true => exact A rfl k (by rw [J.1 rfl]; exact q)
  | false => exact B rfl k (by rw [J.2 rfl]; exact q))
theorem ev_ifT (T : EvT t σ c) (e : c = true) (A : Ev ga σ x) : Ev (gIf t ga gb) σ x := .mk fun k q => T _ (by subst e; exact A k q)
theorem ev_ifF (T : EvT t σ c) (e : c = false) (A : Ev gb σ x) : Ev (gIf t ga gb) σ x := .mk fun k q => T _ (by subst e; exact A k q)
theorem ev_isi {cls : List Str} {sub : Str → Str → Bool} {ks : List KC} (A : Ev ge σ d) (h : askD cls d = true) : Ev (gIsi cls sub ks ge) σ (.bl (isAny sub ks d)) := .mk fun k q => A _ ⟨h, q⟩
theorem ev_isN {neg : Bool} (A : Ev ge σ x) (h : O1 (dIsN neg) x z) : Ev (gIsN neg ge) σ z := .mk fun k q => A _ (h k q)
theorem ev_fld {C : Str} {NS : List Str} {i : Nat} (A : Ev ge σ (.ins C NS ds)) (h : some d = ds[i]?) : Ev (gFld C NS i ge) σ d := .mk fun k q => A _ ⟨rfl, rfl, by rw [← h]; exact q⟩
theorem ev_ca (A : EvA g1' σ ds) (h : SR s ds d) : Ev (gCa s eo g1') σ d := .mk fun k q => A _ (h _ _ q)
theorem ev_mc {C m : Str} {ns : List Str} (A : Ev go σ (.ins C ns ds)) (hm : m ∉ ns) (B : EvA g1' σ es) (h : SR s (.ins C ns ds :: es) d) : Ev (gMc C m s eo go g1') σ d := .mk fun k q => A _ ⟨rfl, hm, B _ (h _ _ q)⟩
theorem ev_mk {C : Str} {ns : List Str} {fs : List D} (A : EvA g1' σ ds) (h : SRI si C ds ns fs) : Ev (gMk C si eo g1') σ (.ins C ns fs) := .mk fun k q => A _ (h _ _ q)
theorem ev_own1 {C : Str} {ns : List Str} (A : Ev ga σ (.ins C ns ds)) (h : SR s [.ins C ns ds] d) : Ev (gOwn1 C s eo ga) σ d := .mk fun k q => A _ ⟨rfl, h _ _ q⟩
def OW2 (C : Str) (s : GS) (x y d : D) : Prop := (∃ ns ds ns2 es, x = .ins C ns ds ∧ y = .ins C ns2 es ∧ SR s [x, y] d) ∨ ∃ ns ds i, x = .ins C ns ds ∧ y = .int i ∧ SR s [x, y] d
theorem ow2_own {C : Str} {ns ns2 : List Str} (h : SR s [.ins C ns ds, .ins C ns2 es] d) : OW2 C s (.ins C ns ds) (.ins C ns2 es) d := .inl ⟨_, _, _, _, rfl, rfl, h⟩
theorem ow2_int {C : Str} {ns : List Str} {i : Int} (h : SR s [.ins C ns ds, .int i] d) : OW2 C s (.ins C ns ds) (.int i) d := .inr ⟨_, _, _, rfl, rfl, h⟩
theorem ev_own2 {C : Str} (A : Ev ga σ x) (B : Ev gb σ y) (h : OW2 C s x y d) : Ev (gOwn2 C s eo ga gb) σ d := .mk fun k q => A _ (B _ (by
  rcases h with ⟨ns, ds, ns2, es, rfl, rfl, h⟩ | ⟨ns, ds, i, rfl, rfl, h⟩
  · exact ⟨rfl, rfl, h _ _ q⟩
  · exact ⟨rfl, h _ _ q⟩))
theorem ev_ownR {C : Str} {ns : List Str} {i : Int} (A : Ev ga σ (.int i)) (B : Ev gb σ (.ins C ns ds)) (h : SR s [.ins C ns ds, .int i] d) : Ev (gOwnR C s eo ga gb) σ d := .mk fun k q => A _ (B _ ⟨rfl, h _ _ q⟩)
theorem ev_ownQ {C : Str} {ns ns2 : List Str} (A : Ev ga σ (.ins C ns ds)) (B : Ev gb σ (.ins C ns2 es)) (h : SR s [.ins C ns ds, .ins C ns2 es] d) : Ev (gOwnQ C s eo ga gb) σ d := .mk fun k q => A _ (B _ ⟨rfl, rfl, h _ _ q⟩)
theorem ev_ownN {C : Str} {ns ns2 : List Str} (A : Ev ga σ (.ins C ns ds)) (B : Ev gb σ (.ins C ns2 es)) (h : SR s [.ins C ns ds, .ins C ns2 es] (.bl c)) : Ev (gOwnN C s eo ga gb) σ (.bl (!c)) := .mk fun k q => ev_ownQ A B h _ q
theorem ev_ownE {C : Str} {ns : List Str} (A : Ev ga σ (.ins C ns ds)) (B : Ev gb σ y) (hr : rhsD C y = true) (h : SR s [.ins C ns ds, y] d) : Ev (gOwnE C s eo ga gb) σ d := .mk fun k q => A _ (B _ ⟨rfl, hr, h _ _ q⟩)
theorem ev_ownEN {C : Str} {ns : List Str} (A : Ev ga σ (.ins C ns ds)) (B : Ev gb σ y) (hr : rhsD C y = true) (h : SR s [.ins C ns ds, y] (.bl c)) : Ev (gOwnEN C s eo ga gb) σ (.bl (!c)) := .mk fun k q => ev_ownE A B hr h _ q
theorem ev_ownS {C r : Str} {ns : List Str} (A : Ev ga σ (.ins C ns ds)) (h : SR s [.ins C ns ds] (.str r)) : Ev (gOwnS C s eo ga) σ (.str r) := .mk fun k q => ev_own1 A h _ q
theorem ev_ownB {C : Str} {ns : List Str} (A : Ev ga σ (.ins C ns ds)) (h : SR s [.ins C ns ds] (.bl c)) : Ev (gOwnB C s eo ga) σ (.bl c) := .mk fun k q => ev_own1 A h _ q
theorem ev_join {p : Str} {ys : List Str} (A : Ev ga σ (.str p)) (B : Ev gb σ (.lst ds)) (h : some ys = strsOf ds) (hl : (ys.map (·.length)).sum + ys.length * p.length ≤ 1000000) : Ev (gJoin ga gb) σ (.str (Txt.join p ys)) := .mk fun k q => A _ (B _ (by
  show match strsOf ds with | some ys => _ | none => False
  rw [← h]; exact ⟨hl, q⟩))
theorem ev_jsN {acc : Str} : Ev (gJs [] acc) σ (.str acc) := .mk fun k q => q
theorem ev_js {gs : List GE} {acc p : Str} (A : Ev ge σ (.str p)) (hl : (acc ++ p).length ≤ 1000000) (B : Ev (gJs gs (acc ++ p)) σ d) : Ev (gJs (ge :: gs) acc) σ d := .mk fun k q => A _ ⟨hl, B k q⟩
def FmR (x z : D) : Prop := ∃ p : Str, z = .str p ∧ ((x = .str p ∧ p.length ≤ 1000000) ∨ ∃ i : Int, x = .int i ∧ i.natAbs.log2 < 1920 ∧ p = (toString i : String))
theorem fm_S {p : Str} (h : p.length ≤ 1000000) : FmR (.str p) (.str p) := ⟨_, rfl, .inl ⟨rfl, h⟩⟩
theorem fm_I {i : Int} (h : i.natAbs.log2 < 1920) : FmR (.int i) (.str (toString i : String)) := ⟨_, rfl, .inr ⟨_, rfl, h, rfl⟩⟩
theorem ev_fmt (A : Ev ge σ x) (h : FmR x z) : Ev (gFmt ge) σ z := .mk fun k q => A _ (by
  obtain ⟨p, rfl, ⟨rfl, h⟩ | ⟨i, rfl, h, rfl⟩⟩ := h
  · exact ⟨h, q⟩
  · exact ⟨h, q⟩)
theorem evp_no : EvP gNoP σ none := .mk fun _ q => q
theorem evp_part {i : Int} (A : Ev ge σ (.int i)) : EvP (gPart ge) σ (some i) := .mk fun _ q => A _ q
def SlR (x : D) (lo hi : Option Int) (z : D) : Prop := (∃ ds, x = .lst ds ∧ z = .lst (cutD ds lo hi)) ∨ (∃ ds, x = .tup ds ∧ z = .tup (cutD ds lo hi)) ∨ ∃ p : Str, x = .str p ∧ p.length ≤ 1000000 ∧ z = .str (cutS p lo hi)
theorem sl_L {lo hi : Option Int} : SlR (.lst ds) lo hi (.lst (cutD ds lo hi)) := .inl ⟨_, rfl, rfl⟩
theorem sl_T {lo hi : Option Int} : SlR (.tup ds) lo hi (.tup (cutD ds lo hi)) := .inr (.inl ⟨_, rfl, rfl⟩)
theorem sl_S {lo hi : Option Int} {p : Str} (h : p.length ≤ 1000000) : SlR (.str p) lo hi (.str (cutS p lo hi)) := .inr (.inr ⟨_, rfl, h, rfl⟩)
theorem ev_sl {gl gh : StD → (Option Int → Prop) → Prop} {lo hi : Option Int} (A : Ev ge σ x) (L : EvP gl σ lo) (R : EvP gh σ hi) (h : SlR x lo hi z) : Ev (gSlA ge gl gh) σ z := .mk fun k q => A _ (L _ (R _ (by
  rcases h with ⟨ds, rfl, rfl⟩ | ⟨ds, rfl, rfl⟩ | ⟨p, rfl, h, rfl⟩
  · exact q
  · exact q
  · exact ⟨h, q⟩)))
theorem ev_andV (A : Ev ga σ (.bl a)) (B : a = true → Ev gb σ (.bl b)) : Ev (gAndV ga gb) σ (.bl (a && b)) := .mk fun k q => A _ (by cases a with | true => exact B rfl k q | false => exact q)
theorem ev_orV (A : Ev ga σ (.bl a)) (B : a = false → Ev gb σ (.bl b)) : Ev (gOrV ga gb) σ (.bl (a || b)) := .mk fun k q => A _ (by cases a with | true => exact q | false => exact B rfl k q)
theorem ev_notV (A : Ev ga σ (.bl a)) : Ev (gNotV ga) σ (.bl (!a)) := .mk fun k q => A _ q
theorem ev_chain {rd rd' : D → D → (D → Prop) → Prop} {w : D} {gc : GE} (A : Ev ga σ x) (B : Ev gb σ y) (h : O2 rd x y (.bl a)) (C : a = true → Ev gc σ w) (h2 : a = true → O2 rd' y w (.bl b)) : Ev (gChain rd rd' ga gb gc) σ (.bl (a && b)) := .mk fun k q => A _ (B _ (h _ (by
  cases a with
  | true => exact C rfl _ (h2 rfl k q)
  | false => exact q)))
theorem sr_shp {n : Nat} {ix : List Nat} {dd : List D} (h : SR s es d) (e : es = pick ix (ds ++ dd)) (hl : ds.length = n) : SR (shp n ix dd s) ds d := .mk fun k eo q => ⟨hl, by rw [← e]; exact h _ _ q⟩
theorem sri_shp {C : Str} {n : Nat} {ix : List Nat} {dd fs : List D} {ns : List Str} (h : SRI si C es ns fs) (e : es = pick ix (ds ++ dd)) (hl : ds.length = n) : SRI (shpI n ix dd si) C ds ns fs := .mk fun k eo q => ⟨hl, by rw [← e]; exact h _ _ q⟩
theorem sxi_shp {C : Str} {n : Nat} {ix : List Nat} {dd : List D} {X : XD} (e : es = pick ix (ds ++ dd)) (h : SXI si C es X) (hl : ds.length = n) : SXI (shpI n ix dd si) C ds X := .mk fun k eo q => ⟨hl, by rw [← e]; exact h _ _ q⟩
theorem mp_i {α β : Type} {ds : List β} {l : List α} {gg : α → β} (h : ds = l.map gg) : ds = l.map gg := h
theorem pk_i {α : Type} {es l : List α} {ix : List Nat} (h : es = pick ix l) : es = pick ix l := h
theorem sr_same {n : Nat} (e : x = y) (h : goodD y = true) (hd : dep y < n) : SR (sSame n) [x, y] (.bl true) := .mk fun k eo q => ⟨y, by rw [e], h, hd, q⟩
/-! ### what is let out -/
theorem evx_ca {X : XD} (A : EvA g1' σ ds) (h : SX s ds X) : EvX eo (gCa s eo g1') σ X := .mk fun k q => A _ (h _ _ q)
theorem evx_mk {C : Str} {X : XD} (A : EvA g1' σ ds) (h : SXI si C ds X) : EvX eo (gMk C si eo g1') σ X := .mk fun k q => A _ (h _ _ q)
theorem o2_i {rd : D → D → (D → Prop) → Prop} (h : ∀ k : D → Prop, k z → rd x y k) : O2 rd x y z := ⟨h⟩
theorem o1_i {rd : D → (D → Prop) → Prop} (h : ∀ k : D → Prop, k z → rd x k) : O1 rd x z := ⟨h⟩
theorem on_i {rd : List D → (D → Prop) → Prop} (h : ∀ k : D → Prop, k z → rd ds k) : ON rd ds z := ⟨h⟩
theorem o_eqI {i j : Int} : O2 (dEqA false) (.int i) (.int j) (.bl (i == j)) := .mk fun k q => q
theorem o_neI {i j : Int} : O2 (dEqA true) (.int i) (.int j) (.bl (!(i == j))) := .mk fun k q => q
theorem o_eqS {i j : Str} : O2 (dEqA false) (.str i) (.str j) (.bl (i == j)) := .mk fun k q => q
theorem o_neS {i j : Str} : O2 (dEqA true) (.str i) (.str j) (.bl (!(i == j))) := .mk fun k q => q
theorem o_eqB {i j : Bool} : O2 (dEqA false) (.bl i) (.bl j) (.bl (i == j)) := .mk fun k q => q
theorem o_neB {i j : Bool} : O2 (dEqA true) (.bl i) (.bl j) (.bl (!(i == j))) := .mk fun k q => q
theorem o_all {α : Type} {f : α → Bool} {l : List α} : O1 dAll (.lst (l.map fun w => D.bl (f w))) (.bl (l.all f)) := .mk fun k q => dAll_bls q
theorem o_eqT2 {a b c d : Int} : O2 (dEqA false) (.tup [.int a, .int b]) (.tup [.int c, .int d]) (.bl ([a, b] == [c, d])) := .mk fun k q => dEqA_tints (l := [a, b]) (m := [c, d]) q
theorem o_neT2 {a b c d : Int} : O2 (dEqA true) (.tup [.int a, .int b]) (.tup [.int c, .int d]) (.bl (!([a, b] == [c, d]))) := .mk fun k q => dEqA_tints (l := [a, b]) (m := [c, d]) q
/-! ### tests -/
theorem evt_B (A : Ev ge σ (.bl c)) : EvT (gB ge) σ c := .mk fun k q => A _ q
theorem evt_and (A : EvT t σ a) (B : a = true → EvT u σ b) : EvT (gAnd t u) σ (a && b) := .mk fun k q => A _ (by cases a with | true => exact B rfl k q | false => exact q)
theorem evt_or (A : EvT t σ a) (B : a = false → EvT u σ b) : EvT (gOr t u) σ (a || b) := .mk fun k q => A _ (by cases a with | true => exact q | false => exact B rfl k q)
theorem evt_not (A : EvT t σ a) : EvT (gNot t) σ (!a) := .mk fun k q => A _ q
theorem evt_yes : EvT gYes σ true := .mk fun _ q => q
/-! ### what is walked over -/
theorem evi_it (A : Ev ge σ x) (I : ItR x ds) : EvI (gIt ge) σ ds := .mk fun _ q => A _ (by rcases I with rfl | rfl <;> exact q)
theorem evi_LL (A : Ev ge σ (.lst ds)) : EvI (gItL ge) σ ds := .mk fun _ q => A _ q
theorem evi_TT (A : Ev ge σ (.tup ds)) : EvI (gItT ge) σ ds := .mk fun _ q => A _ q
theorem evi_S {p : Str} (A : Ev ge σ (.str p)) : EvI (gItS ge) σ (signs p) := .mk fun _ q => A _ q
theorem evi_rng {j : Int} (A : Ev ge σ (.int j)) (h : -(2 ^ 62) ≤ j ∧ j < 2 ^ 62) : EvI (gRng1 ge) σ (rngD 0 j.toNat) := .mk fun _ q => A _ ⟨h, q⟩
theorem evi_rng2 {i j : Int} (A : Ev ga σ (.int i)) (B : Ev gb σ (.int j)) (h : -(2 ^ 62) ≤ i ∧ i < 2 ^ 62 ∧ -(2 ^ 62) ≤ j ∧ j < 2 ^ 62) : EvI (gRng2 ga gb) σ (rngD i (j - i).toNat) := .mk fun _ q => A _ (B _ ⟨h, q⟩)
theorem evi_zip (A : Ev ga σ x) (I : ItR x ds) (B : Ev gb σ y) (J : ItR y es) : EvI (gZipA ga gb) σ (pairsD ds es) := .mk fun _ q => A _ (B _ (by rcases I with rfl | rfl <;> rcases J with rfl | rfl <;> exact q))
theorem evi_en (A : Ev ga σ x) (I : ItR x ds) : EvI (gEnum ga) σ (enumD 0 ds) := .mk fun _ q => A _ (by rcases I with rfl | rfl <;> exact q)
theorem EvI.eq {gi : GI} (h : EvI gi σ ds) (e : ds = es) : EvI gi σ es := e ▸ h
theorem Ev.eq (h : Ev ge σ x) (e : x = y) : Ev ge σ y := e ▸ h
theorem EvT.eq (h : EvT t σ a) (e : a = b) : EvT t σ b := e ▸ h
/-! ### comprehensions -/
theorem aev1 {i : Nat} (A : Ev ge (put σ i (.sh d)) y) : AEv (.nm i) d σ ge y := .mk fun k q => A k q
theorem aev2 {i j : Nat} (A : Ev ge (put (put σ i (.sh d)) j (.sh x)) y) : AEv (.tp [.nm i, .nm j]) (.tup [d, x]) σ ge y := .mk fun k q => A k q
theorem aev3 {i j l : Nat} (A : Ev ge (put (put (put σ i (.sh d)) j (.sh x)) l (.sh z)) y) : AEv (.tp [.nm i, .nm j, .nm l]) (.tup [d, x, z]) σ ge y := .mk fun k q => A k q
/-- an item bound, tested, then read -/
structure AEvF (tg : Tgt) (d : D) (σ : StD) (t : GT) (ge : GE) (c : Bool) (y : D) : Prop where
  run : ∀ (kk : D → Prop) (ko : Prop), (c = true → kk y) → (c = false → ko) → asg tg d σ fun σ2 => t σ2 fun x => match x with | true => ge σ2 kk | false => ko
instance {tg : Tgt} {d : D} {σ : StD} {t : GT} {ge : GE} {c : Bool} {y : D} : CoeFun (AEvF tg d σ t ge c y) (fun _ => ∀ (kk : D → Prop) (ko : Prop), (c = true → kk y) → (c = false → ko) → asg tg d σ fun σ2 => t σ2 fun x => match x with | true => ge σ2 kk | false => ko) := ⟨AEvF.run⟩
theorem evf_of {kk : D → Prop} {ko : Prop} (T : EvT t σ c) (A : c = true → Ev ge σ y) (h1 : c = true → kk y) (h2 : c = false → ko) : t σ fun x => match x with | true => ge σ kk | false => ko := T _ (by
  cases c with
  | true => exact A rfl kk (h1 rfl)
  | false => exact h2 rfl)
theorem aevf1 {i : Nat} (T : EvT t (put σ i (.sh d)) c) (A : c = true → Ev ge (put σ i (.sh d)) y) : AEvF (.nm i) d σ t ge c y := .mk fun kk ko h1 h2 => evf_of T A h1 h2
theorem aevf2 {i j : Nat} (T : EvT t (put (put σ i (.sh d)) j (.sh x)) c) (A : c = true → Ev ge (put (put σ i (.sh d)) j (.sh x)) y) : AEvF (.tp [.nm i, .nm j]) (.tup [d, x]) σ t ge c y := .mk fun kk ko h1 h2 => evf_of T A h1 h2
theorem aevf3 {i j l : Nat} (T : EvT t (put (put (put σ i (.sh d)) j (.sh x)) l (.sh z)) c) (A : c = true → Ev ge (put (put (put σ i (.sh d)) j (.sh x)) l (.sh z)) y) : AEvF (.tp [.nm i, .nm j, .nm l]) (.tup [d, x, z]) σ t ge c y := .mk fun kk ko h1 h2 => evf_of T A h1 h2
theorem ev_lc {α : Type} {gi : GI} {tg : Tgt} {vs : List Nat} {l : List α} {gg f : α → D} (I : EvI gi σ ds) (e : ds = l.map gg) (h : ∀ w ∈ l, AEv tg (gg w) (wipeD σ vs) ge (f w)) (hl : l.length ≤ 1000000) : Ev (gLc gi tg gYes ge vs) σ (.lst (l.map f)) := .mk fun k q => I _ (by
  subst e
  exact lcD_mapL gg f (fun w hw kk hkk => h w hw kk hkk) (by rw [List.length_nil]; omega) q)
theorem ev_lcF {α : Type} {gi : GI} {tg : Tgt} {vs : List Nat} {l : List α} {gg f : α → D} {p : α → Bool} (I : EvI gi σ ds) (e : ds = l.map gg) (h : ∀ w ∈ l, AEvF tg (gg w) (wipeD σ vs) t ge (p w) (f w)) (hl : l.length ≤ 1000000) : Ev (gLc gi tg t ge vs) σ (.lst ((l.filter p).map f)) := .mk fun k q => I _ (by
  subst e
  exact lcD_fil gg f p (fun w hw kk ko z1 z2 => h w hw kk ko z1 z2) (by rw [List.length_nil]; omega) q)
/-! ### states laid out -/
structure Pt (σ : StD) (i : Nat) (x : SD) (τ : StD) : Prop where
  eq : put σ i x = τ
theorem pt0 {y x : SD} {r : StD} : Pt (y :: r) 0 x (x :: r) := ⟨rfl⟩
theorem pts {y x : SD} {r r' : StD} {n : Nat} (h : Pt r n x r') : Pt (y :: r) (n + 1) x (y :: r') := ⟨by show y :: put r n x = _; rw [h.eq]⟩
structure NS (σ τ : StD) : Prop where
  eq : σ = τ
theorem ns_put {σ τ τ' : StD} {i : Nat} {x : SD} (h : NS σ τ) (p : Pt τ i x τ') : NS (put σ i x) τ' := ⟨by rw [h.eq, p.eq]⟩
theorem ns_wipe {σ τ τ' : StD} {q : Str} {v : Nat} {r : List (Str × Nat)} (h : NS (wipeD σ (r.map fun x => x.2)) τ) (p : Pt τ v .unset τ') : NS (wipeD σ (((q, v) :: r).map fun x => x.2)) τ' := ⟨by show put (wipeD σ (r.map fun x => x.2)) v .unset = _; rw [h.eq, p.eq]⟩
theorem ns_wipe0 {σ τ : StD} (h : NS σ τ) : NS (wipeD σ (([] : List (Str × Nat)).map fun x => x.2)) τ := ⟨h.eq⟩
theorem ns_id {σ : StD} : NS σ σ := ⟨rfl⟩
theorem n_st {v : GSt} {D' : EndD} {σ τ : StD} (n : NS σ τ) (h : Stp (v D' τ)) : Stp (v D' σ) := ⟨by rw [n.eq]; exact h.run⟩
/-! ### statements -/
section
variable {v w u' : GSt} {D' : EndD} {i j l n : Nat}
theorem as1 {i : Nat} {k : StD → Prop} {τ : StD} {ρ : StD} (N : NS ρ σ) (p : Pt σ i (.sh d) τ) (h : Stp (k τ)) : Stp (asg (.nm i) d ρ k) := ⟨by rw [N.eq]; show k (put σ i (.sh d)); rw [p.eq]; exact h.run⟩
theorem as2 {i j : Nat} {k : StD → Prop} {τ τ2 : StD} {ρ : StD} (N : NS ρ σ) (p : Pt σ i (.sh x) τ) (p2 : Pt τ j (.sh y) τ2) (h : Stp (k τ2)) : Stp (asg (.tp [.nm i, .nm j]) (.tup [x, y]) ρ k) := ⟨by rw [N.eq]; show k (put (put σ i (.sh x)) j (.sh y)); rw [p.eq, p2.eq]; exact h.run⟩
theorem as3 {i j l : Nat} {k : StD → Prop} {τ τ2 τ3 : StD} {ρ : StD} (N : NS ρ σ) (p : Pt σ i (.sh x) τ) (p2 : Pt τ j (.sh y) τ2) (p3 : Pt τ2 l (.sh z) τ3) (h : Stp (k τ3)) : Stp (asg (.tp [.nm i, .nm j, .nm l]) (.tup [x, y, z]) ρ k) := ⟨by rw [N.eq]; show k (put (put (put σ i (.sh x)) j (.sh y)) l (.sh z)); rw [p.eq, p2.eq, p3.eq]; exact h.run⟩
theorem as2l {i j : Nat} {k : StD → Prop} {τ τ2 : StD} {ρ : StD} (N : NS ρ σ) (p : Pt σ i (.sh x) τ) (p2 : Pt τ j (.sh y) τ2) (h : Stp (k τ2)) : Stp (asg (.tp [.nm i, .nm j]) (.lst [x, y]) ρ k) := ⟨by rw [N.eq]; show k (put (put σ i (.sh x)) j (.sh y)); rw [p.eq, p2.eq]; exact h.run⟩
theorem as3l {i j l : Nat} {k : StD → Prop} {τ τ2 τ3 : StD} {ρ : StD} (N : NS ρ σ) (p : Pt σ i (.sh x) τ) (p2 : Pt τ j (.sh y) τ2) (p3 : Pt τ2 l (.sh z) τ3) (h : Stp (k τ3)) : Stp (asg (.tp [.nm i, .nm j, .nm l]) (.lst [x, y, z]) ρ k) := ⟨by rw [N.eq]; show k (put (put (put σ i (.sh x)) j (.sh y)) l (.sh z)); rw [p.eq, p2.eq, p3.eq]; exact h.run⟩
theorem nx_mk {f : StD → Prop} {r : D → Prop} {b c : StD → Prop} (h : Stp (f σ)) : Stp (EndD.nx ⟨f, r, b, c⟩ σ) := ⟨h.run⟩
theorem s_asg (A : Ev ge σ d) {τ : StD} (p : Pt σ i (.sh d) τ) (r : Stp (v D' τ)) : Stp (gSeq (gAsg i ge) v D' σ) := ⟨A _ (by show v D' (put σ i (.sh d)); rw [p.eq]; exact r.run)⟩
theorem s_ifT (T : EvT t σ c) (e : c = true) (A : Stp (v { D' with nx := u' D' } σ)) : Stp (gSeq (gIfS t v w) u' D' σ) := ⟨T _ (by subst e; exact A.run)⟩
theorem s_ifFN (T : EvT t σ c) (e : c = false) (B : Stp (u' D' σ)) : Stp (gSeq (gIfS t v gNext) u' D' σ) := ⟨T _ (by subst e; exact B.run)⟩
theorem s_ifLT (T : EvT t σ c) (e : c = true) (A : Stp (v D' σ)) : Stp (gIfS t v w D' σ) := ⟨T _ (by subst e; exact A.run)⟩
theorem s_ifLFN (T : EvT t σ c) (e : c = false) (B : Stp (D'.nx σ)) : Stp (gIfS t v gNext D' σ) := ⟨T _ (by subst e; exact B.run)⟩
theorem s_ret (A : Ev ge σ d) (r : Stp (D'.rt d)) : Stp (gRet ge D' σ) := ⟨A _ r.run⟩
theorem s_for {gi : GI} {tg : Tgt} (A : EvI gi σ ds) (r : Stp (forD tg v ds { D' with nx := u' D' } σ)) : Stp (gSeq (gFor gi tg v) u' D' σ) := ⟨A _ r.run⟩
end
/-! ### a walk with what it gathers -/
end
/-! ### draws, lambdas, what is asked -/
section
variable {σ : StD} {d x y z : D} {ds es : List D} {ge : GE} {g1' : GA} {eo : XD → Prop} {v : GSt} {D' : EndD} {i : Nat}
theorem s_of (A : EvA g1' σ [.bag, x]) (h0 : itemsD x ≠ []) (hl : (itemsD x).length ≤ 1000000) {τ : D → StD} (p : ∀ d, Pt σ i (.sh d) (τ d)) (r : ∀ d ∈ itemsD x, Stp (v D' (τ d))) : Stp (gSeq (gAsg i (gCa sOf eo g1')) v D' σ) := ⟨A _ ⟨x, rfl, h0, hl, fun d h => by show v D' (put σ i (.sh d)); rw [(p d).eq]; exact (r d h).run⟩⟩
/-- what the asks come to -/
structure AnsR (A : LamO → (Str → D → Prop) → Prop) (os : List LamO) (acc rs : List D) : Prop where
  run : ∀ k : D → Prop, k (.lst rs) → ansL A os acc k
instance {A : LamO → (Str → D → Prop) → Prop} {os : List LamO} {acc rs : List D} : CoeFun (AnsR A os acc rs) (fun _ => ∀ k : D → Prop, k (.lst rs) → ansL A os acc k) := ⟨AnsR.run⟩
end
/-! ### step by step, where something is drawn -/
section
variable {σ : StD} {d x y z : D} {ds es : List D} {ga gb ge g go : GE} {g1' g2' : GA} {eo : XD → Prop} {v : GSt} {D' : EndD} {i j : Nat} {k : D → Prop} {ka : List D → Prop} {s : GS} {si : GSI}
theorem c_ev (A : Ev g σ d) (q : Stp (k d)) : Stp (g σ k) := ⟨A k q.run⟩
theorem c_asg (h : Stp (ge σ fun d => v D' (put σ i (.sh d)))) : Stp (gSeq (gAsg i ge) v D' σ) := ⟨h.run⟩
theorem c_tgt {t : Tgt} (h : Stp (ge σ fun d => asg t d σ (v D'))) : Stp (gSeq (gTgt t ge) v D' σ) := ⟨h.run⟩
theorem c_par (h : Stp (ga σ fun x => gb σ fun y => v D' (put (put σ i (.sh x)) j (.sh y)))) : Stp (gSeq (gPar i j ga gb) v D' σ) := ⟨h.run⟩
theorem c_nil (h : Stp (ka [])) : Stp (gNil σ ka) := ⟨h.run⟩
theorem c_cons (h : Stp (ge σ fun d => g1' σ fun ds => ka (d :: ds))) : Stp (gCons ge g1' σ ka) := ⟨h.run⟩
theorem c_app (h : Stp (g1' σ fun ds => g2' σ fun es => ka (ds ++ es))) : Stp (gApp g1' g2' σ ka) := ⟨h.run⟩
theorem c_tup (h : Stp (g1' σ fun ds => ds.length ≤ 1000 ∧ k (.tup ds))) : Stp (gTup g1' σ k) := ⟨h.run⟩
theorem c_lst (h : Stp (g1' σ fun ds => ds.length ≤ 1000 ∧ k (.lst ds))) : Stp (gLst g1' σ k) := ⟨h.run⟩
theorem c_g2 {rd : D → D → (D → Prop) → Prop} (h : Stp (ga σ fun x => gb σ fun y => rd x y k)) : Stp (g2 rd ga gb σ k) := ⟨h.run⟩
theorem c_g1 {rd : D → (D → Prop) → Prop} (h : Stp (ga σ fun x => rd x k)) : Stp (g1 rd ga σ k) := ⟨h.run⟩
theorem c_c (h : Stp (k d)) : Stp (gC d σ k) := ⟨h.run⟩
theorem c_var (e : .sh d = look σ i) (h : Stp (k d)) : Stp (gVar i σ k) := ⟨ev_var e k h.run⟩
theorem c_addI {a b : Int} (h : Stp (k (.int (a + b)))) : Stp (dAddB (.int a) (.int b) k) := ⟨h.run⟩
theorem c_subI {a b : Int} (h : Stp (k (.int (a - b)))) : Stp (dI0 (fun i j => .int (i - j)) (.int a) (.int b) k) := ⟨h.run⟩
theorem c_mulI {a b : Int} (m : MulOk a b) (h : Stp (k (.int (a * b)))) : Stp (dMulA (.int a) (.int b) k) := ⟨m, h.run⟩
theorem c_o2 {rd : D → D → (D → Prop) → Prop} (A : O2 rd x y z) (h : Stp (k z)) : Stp (rd x y k) := ⟨A k h.run⟩
theorem c_draw {gv : GE} {m : Int} (e : Ev gv σ .bag) (A : Ev ge σ (.int m)) (h0 : 0 < m) (hd : DivOk m) (h : ∀ n : Int, 0 ≤ n → n < m → Stp (k (.int n))) : Stp (gCa sDraw eo (gCons gv (gCons ge gNil)) σ k) := ⟨e _ (A _ ⟨m, rfl, h0, hd, fun n a b => (h n a b).run⟩)⟩
theorem c_ca (h : Stp (g1' σ fun ds => s ds k eo)) : Stp (gCa s eo g1' σ k) := ⟨h.run⟩
theorem c_sr (A : SR s ds d) (h : Stp (k d)) : Stp (s ds k eo) := ⟨A k eo h.run⟩
theorem c_mk {C : Str} (h : Stp (g1' σ fun ds => si C [] [] ds (fun ns fs => k (.ins C ns fs)) eo)) : Stp (gMk C si eo g1' σ k) := ⟨h.run⟩
theorem c_len {n : Nat} {p : Prop} (a : Nat.ble ds.length n = true) (h : Stp p) : Stp (ds.length ≤ n ∧ p) := ⟨Nat.le_of_ble_eq_true a, h.run⟩
theorem c_lt {n : Nat} {p : Prop} (a : Nat.blt ds.length n = true) (h : Stp p) : Stp (ds.length < n ∧ p) := ⟨Nat.le_of_ble_eq_true a, h.run⟩
theorem c_lc {gi : GI} {t : Tgt} {gt : GT} {vs : List Nat} (I : EvI gi σ ds) (h : Stp (lcD t gt ge (wipeD σ vs) ds [] k)) : Stp (gLc gi t gt ge vs σ k) := ⟨I _ h.run⟩
theorem c_lc1 {t : Tgt} {r acc : List D} (h : Stp (asg t d σ fun σ2 => ge σ2 fun y => acc.length < 1000000 ∧ lcD t gYes ge σ r (acc ++ [y]) k)) : Stp (lcD t gYes ge σ (d :: r) acc k) := ⟨h.run⟩
theorem c_lc0 {t : Tgt} {gt : GT} {acc : List D} (h : Stp (k (.lst acc))) : Stp (lcD t gt ge σ [] acc k) := ⟨h.run⟩
/-- two rounds -/
theorem c_rng2 {t : Tgt} (h : Stp (lcD t gYes ge σ [.int 0, .int 1] [] k)) : Stp (lcD t gYes ge σ (rngD 0 (2 : Int).toNat) [] k) := ⟨h.run⟩
theorem c_rng3 {t : Tgt} (h : Stp (lcD t gYes ge σ [.int 0, .int 1, .int 2] [] k)) : Stp (lcD t gYes ge σ (rngD 0 (3 : Int).toNat) [] k) := ⟨h.run⟩
theorem c_lam {env : Env} {params : Arguments} {body : Expr} {scope : Scope} (h : ∀ o : LamO, LamI env params body scope o → Stp (k (.clo o))) : Stp (gLam env params body scope σ k) := ⟨fun o q => (h o q).run⟩
end
theorem forS_inv {t : Tgt} {gb : GSt} {D : EndD} (I : StD → Prop) {ds : List DL.D} (h : ∀ d ∈ ds, ∀ (σ : StD) (D' : EndD), I σ → (∀ σ', I σ' → D'.nx σ') → D'.rt = D.rt → Stp (asg t d σ fun σ2 => gb D' σ2)) (σ : StD) (hi : I σ) (e : ∀ σ, I σ → Stp (D.nx σ)) : Stp (forD t gb ds D σ) :=
  ⟨forD_inv I (fun d hd σ D' a b c => (h d hd σ D' a b c).run) σ hi fun σ i => (e σ i).run⟩
end DL
/-! DK1 -/
set_option Elab.async false
set_option linter.all false
set_option maxRecDepth 100000
set_option maxHeartbeats 4000000
/-! Texts: split, partition, the number that a text writes. -/
namespace DL
open PySem PySem.Spec PyProof.Rows L2
variable [TabC]
section
variable {X : Cx} {b : Option Addr} {H0 : Hp} {a c e : Expr} {ga gb ge : GE} {pos apos : Pos} {K : Fg}
def gTM (rd : Str → D → (D → Prop) → Prop) (ga gb : GE) : GE := fun σ k => ga σ fun x => match x with
  | .str s => gb σ fun y => rd s y k
  | _ => False
def dSplit : Str → D → (D → Prop) → Prop := fun x y k => match y with | .str z => ((z.length == 0) = false ∧ x.length ≤ 1000000) ∧ k (.lst ((Txt.split x z).map D.str)) | _ => False
def dPart : Str → D → (D → Prop) → Prop := fun x y k => match y with | .str z => ((z.length == 0) = false ∧ x.length ≤ 1000000) ∧ k (.tup [.str (Txt.partition x z).1, .str (Txt.partition x z).2.1, .str (Txt.partition x z).2.2]) | _ => False
def dIntS : D → (D → Prop) → Prop := fun x k => match x with | .str z => ∃ n, PySem.intText? z = some n ∧ z.length ≤ 640 ∧ k (.int n) | _ => False
end
/-- as one value -/
structure OT (rd : Str → D → (D → Prop) → Prop) (x : Str) (y z : D) : Prop where
  run : ∀ k : D → Prop, k z → rd x y k
theorem ev_tm {rd : Str → D → (D → Prop) → Prop} {σ : StD} {ga gb : GE} {x : Str} {y z : D} (A : Ev ga σ (.str x)) (B : Ev gb σ y) (h : OT rd x y z) : Ev (gTM rd ga gb) σ z := .mk fun k q => A _ (B _ (h.run k q))
theorem ot_split {x z : Str} (h : (z.length == 0) = false) (hl : x.length ≤ 1000000) : OT dSplit x (.str z) (.lst ((Txt.split x z).map D.str)) := ⟨fun k q => ⟨⟨h, hl⟩, q⟩⟩
theorem ot_part {x z : Str} (h : (z.length == 0) = false) (hl : x.length ≤ 1000000) : OT dPart x (.str z) (.tup [.str (Txt.partition x z).1, .str (Txt.partition x z).2.1, .str (Txt.partition x z).2.2]) := ⟨fun k q => ⟨⟨h, hl⟩, q⟩⟩
theorem o_intS {z : Str} {n : Int} (h : PySem.intText? z = some n) (hl : z.length ≤ 640) : O1 dIntS (.str z) (.int n) := .mk fun k q => ⟨n, h, hl, q⟩
end DL
/-! DK2 -/
set_option Elab.async false
set_option linter.all false
set_option maxRecDepth 100000
set_option maxHeartbeats 4000000
/-! x in a tuple of data. -/
namespace DL
open PySem PySem.Spec PyProof.Rows L2
variable [TabC]
section
variable {X : Cx} {b : Option Addr} {H0 : Hp} {a c : Expr} {ga gb : GE} {pos : Pos}
def dInT (neg : Bool) : D → D → (D → Prop) → Prop := fun x y k => match toPy x, y with
  | some d, .tup es => (match toPys es with
    | some ds => SeqAt.shaped d = true ∧ SeqAt.shaped (.tuple ds) = true ∧ k (.bl (if neg then !(ds.any fun z => PyData.eqv z d) else ds.any fun z => PyData.eqv z d))
    | none => False)
  | _, _ => False
end
theorem o_inS {c : Nat} {z : Str} : O2 (dInA false) (.str ⟨#[c]⟩) (.str z) (.bl (decide (c ∈ z.cps.toList))) := .mk fun k q => ⟨c, rfl, q⟩
theorem o_ninS {c : Nat} {z : Str} : O2 (dInA true) (.str ⟨#[c]⟩) (.str z) (.bl (!decide (c ∈ z.cps.toList))) := .mk fun k q => ⟨c, rfl, q⟩
theorem o_ixS {w : Str} {i : Int} {c : Nat} (h : atI w.cps.toList i = some c) (hl : w.length ≤ 1000000) : O2 dIx (.str w) (.int i) (.str ⟨#[c]⟩) := .mk fun k q => ⟨hl, by
  show match atI w.cps.toList i with | some c => k (.str ⟨#[c]⟩) | none => False
  rw [h]; exact q⟩
theorem o_inL {x : D} {ds : List D} (h : (flatD x && ds.all flatD) = true) : O2 (dInA false) x (.lst ds) (.bl (ds.any fun z => eqF z x)) := .mk fun k q => by
  show bif flatD x && ds.all flatD then _ else _
  rw [h]; exact q
theorem o_inTu {x : D} {ds : List D} (h : (flatD x && ds.all flatD) = true) : O2 (dInA false) x (.tup ds) (.bl (ds.any fun z => eqF z x)) := .mk fun k q => ⟨h, q⟩
/-! ### a call with a star: one of two numbers of arguments -/
end DL
/-! DK3 -/
set_option Elab.async false
set_option linter.all false
set_option maxRecDepth 100000
set_option maxHeartbeats 4000000
/-! What a split hands out. -/
namespace DL
open PySem PySem.Spec PyProof.Rows L2
end DL
/-! DK4 -/
set_option Elab.async false
set_option linter.all false
set_option maxRecDepth 100000
set_option maxHeartbeats 4000000
/-! Steps: what is raised; a list in a tuple of lists. -/
namespace DL
open PySem PySem.Spec PyProof.Rows L2
variable [TabC]
section
variable {σ : StD} {x : D} {ds es dd : List D} {eo : XD → Prop} {v : GSt} {D' : EndD} {g1' : GA} {c code : Str} {flds : List Str}
theorem s_raise (A : EvA g1' σ ds) (h1 : (ds ++ dd).length = flds.length) (h2 : ds.length ≤ 900) (q : Stp (eo (errX c code flds (ds ++ dd)))) : Stp (gRaise c code flds dd eo g1' D' σ) := ⟨A _ ⟨h1, h2, q.run⟩⟩
theorem s_raiseS (A : EvA g1' σ ds) (h1 : (ds ++ dd).length = flds.length) (h2 : ds.length ≤ 900) (q : Stp (eo (errX c code flds (ds ++ dd)))) : Stp (gSeq (gRaise c code flds dd eo g1') v D' σ) := ⟨A _ ⟨h1, h2, q.run⟩⟩
theorem o_inT {d : PyData} {qs : List PyData} (h1 : toPy x = some d) (h2 : toPys es = some qs) (s1 : SeqAt.shaped d = true) (s2 : SeqAt.shaped (.tuple qs) = true) : O2 (dInT false) x (.tup es) (.bl (qs.any fun z => PyData.eqv z d)) := .mk fun k q => by
  show match toPy x, (D.tup es) with
    | some d, .tup es => (match toPys es with
      | some ds => SeqAt.shaped d = true ∧ SeqAt.shaped (.tuple ds) = true ∧ k (.bl (if false then !(ds.any fun z => PyData.eqv z d) else ds.any fun z => PyData.eqv z d))
      | none => False)
    | _, _ => False
  rw [h1]
  show match toPys es with
      | some ds => SeqAt.shaped d = true ∧ SeqAt.shaped (.tuple ds) = true ∧ k (.bl (if false then !(ds.any fun z => PyData.eqv z d) else ds.any fun z => PyData.eqv z d))
      | none => False
  rw [h2]
  exact ⟨s1, s2, q⟩
theorem c_sof {k : D → Prop} (h0 : itemsD x ≠ []) (hl : (itemsD x).length ≤ 1000000) (h : ∀ d ∈ itemsD x, Stp (k d)) : Stp (sOf [.bag, x] k eo) := ⟨x, rfl, h0, hl, fun d hd => (h d hd).run⟩
theorem o_pow {i j : Int} (h1 : 0 ≤ j) (h2 : j ≤ 1000000) (h3 : i.natAbs < 2 ^ 64) : O2 dPow (.int i) (.int j) (.int (i ^ j.toNat)) := .mk fun k q => ⟨⟨h1, h2, h3⟩, q⟩
theorem evt_abs {t : GT} (h : False) : EvT t σ false := h.elim
end
end DL
/-! DM1 -/
set_option Elab.async false
set_option linter.all false
set_option maxRecDepth 100000
set_option maxHeartbeats 4000000
/-! Lists that are new: handed back by a def, then changed or kept as the frame's own. -/
namespace DL
open PySem PySem.Spec PyProof.Rows L2
variable [TabC]
/-- the heap keeps nothing at p -/
def Fre (H : Hp) (p : Addr) : Prop := ∀ o, H p = some o → nt o = false
section
variable {K : Fg} {b : Option Addr} {H0 H H1 : Hp} {σd : StD} {σ : L2.St} {O : List Addr} {p : Addr} {vs us : List V}
theorem Rst.fre (R : Rst K b H0 σd σ H O) (h : Fre H p) : p ∉ O := fun m => by
  obtain ⟨o, e, t, _⟩ := (R.nb p m).2.2.nt
  rw [h o e] at t; cases t
theorem hid_more {a : Addr} (h : Hid O H a) : Hid (p :: O) H a := by
  obtain ⟨o, e, q⟩ := h
  refine ⟨o, e, ?_⟩
  cases o with
  | lst _ => trivial
  | dK _ => trivial
  | ins _ dx _ => exact List.mem_cons_of_mem _ q
  | own x =>
    obtain ⟨q1, C, fs, q2⟩ := q
    exact ⟨List.mem_cons_of_mem _ q1, C, fs, q2⟩
  | _ => exact q.elim
theorem Rst.hideX (R : Rst K b H0 σd σ H O) (hb : some p ≠ b) (hf : Fre H p) (x : Ext b H H1) (hp : H1 p = some (.lst vs)) : Ext b (hide O H) (hide (p :: O) H1) := by
  have hm : ∀ c ∈ p :: O, ∃ o, H1 c = some o ∧ nt o = true ∧ ∀ y q, o ≠ LamX.CodeO y q := fun c m => by
    rcases List.mem_cons.mp m with e | m
    · subst e
      exact (show Hid O H1 c from ⟨.lst vs, hp, trivial⟩).nt
    · obtain ⟨o, e, t1, t2⟩ := (R.nb c m).2.2.nt
      exact ⟨o, x.1 c o (R.nb c m).1 e t1, t1, t2⟩
  refine ⟨fun a o n h t => ?_, fun a e c i j m h h0 => ?_, fun t => tabs_hide hm (x.2.2 (tabs_unhide t))⟩
  · obtain ⟨h1, h2⟩ := of_hide h
    have ne : a ≠ p := fun e => by subst e; rw [hf o h2] at t; cases t
    rw [hide_out (fun z => by rcases List.mem_cons.mp z with z | z; exact ne z; exact h1 z)]
    exact x.1 a o n h2 t
  · obtain ⟨h1, h2⟩ := of_hide h
    have ne : a ≠ p := fun z => hb (by rw [← z, e])
    rw [hide_out (fun z => by rcases List.mem_cons.mp z with z | z; exact ne z; exact h1 z)]
    exact x.2.1 a e c i j m h2 h0
/-- the new list is hidden -/
theorem Rst.hideP (R : Rst K b H0 σd σ H O) (hb : some p ≠ b) (hf : Fre H p) (x : Ext b H H1) (hp : H1 p = some (.lst vs)) : Rst K b H0 σd σ H1 (p :: O) where
  len := R.len
  slot := fun j => by
    have xx := R.hideX hb hf x hp
    have s := R.slot j
    cases e : look σd j with
    | unset => trivial
    | sh d =>
      rw [e] at s
      obtain ⟨v, e1, r1⟩ := s
      exact ⟨v, e1, r1.mono xx.1⟩
    | own es =>
      rw [e] at s
      obtain ⟨a, us, e1, m, h1, r1⟩ := s
      exact ⟨a, us, e1, List.mem_cons_of_mem _ m, x.1 _ _ (R.nb a m).1 h1 rfl, r1.mono xx.1⟩
    | owd kx es =>
      rw [e] at s
      obtain ⟨a, us, e1, m, h1, r1⟩ := s
      exact ⟨a, us, e1, List.mem_cons_of_mem _ m, x.1 _ _ (R.nb a m).1 h1 rfl, r1.mono xx.1⟩
    | obj a dx c ns es =>
      rw [e] at s
      obtain ⟨us, e1, m, md, h1, h2, l, r1⟩ := s
      exact ⟨us, e1, List.mem_cons_of_mem _ m, List.mem_cons_of_mem _ md, x.1 _ _ (R.nb a m).1 h1 rfl, x.1 _ _ (R.nb dx md).1 h2 rfl, l, r1.mono xx.1⟩
  uniq := R.uniq
  nb := fun a m => by
    rcases List.mem_cons.mp m with e | m
    · subst e
      exact ⟨hb, trivial, .lst vs, hp, trivial⟩
    · obtain ⟨n1, _, h⟩ := (R.mono x).nb a m
      exact ⟨n1, trivial, hid_more h⟩
  le := R.le.trans (R.hideX hb hf x hp)
  bg := R.bg.ext (R.hideX hb hf x hp)
theorem Rst.noOwn (R : Rst K b H0 σd σ H O) (h : p ∉ O) (j : Nat) : ¬ Owns (look σd j) (σ.getD j none) p := fun z => h (owns_in z (R.slot j))
/-- a hidden list that no slot owns is written -/
theorem Rst.wrP (R : Rst K b H0 σd σ H O) (hn : ∀ j, ¬ Owns (look σd j) (σ.getD j none) p) (hm : p ∈ O) (hp : H p = some (.lst vs)) : Rst K b H0 σd σ (upd H p (.lst us)) O where
  len := R.len
  slot := fun j => by
    have s := R.slot j
    cases e : look σd j with
    | unset => trivial
    | sh d =>
      rw [e] at s
      obtain ⟨v, e1, r1⟩ := s
      exact ⟨v, e1, by rw [hide_upd hm]; exact r1⟩
    | own fs =>
      rw [e] at s
      obtain ⟨c, ws, e1, m, h1, r1⟩ := s
      have ne : c ≠ p := fun z => hn j (by rw [e, e1]; exact z.symm)
      exact ⟨c, ws, e1, m, by rw [upd_ne ne]; exact h1, by rw [hide_upd hm]; exact r1⟩
    | owd kx fs =>
      rw [e] at s
      obtain ⟨c, ws, e1, m, h1, r1⟩ := s
      have ne : c ≠ p := fun z => hn j (by rw [e, e1]; exact z.symm)
      exact ⟨c, ws, e1, m, by rw [upd_ne ne]; exact h1, by rw [hide_upd hm]; exact r1⟩
    | obj c dx n ns fs =>
      rw [e] at s
      obtain ⟨ws, e1, m, md, h1, h2, l, r1⟩ := s
      exact ⟨ws, e1, m, md, by rw [upd_ne (ne_of h1 hp (by simp))]; exact h1, by rw [upd_ne (ne_of h2 hp (by simp))]; exact h2, l, by rw [hide_upd hm]; exact r1⟩
  uniq := R.uniq
  nb := fun c m => by
    obtain ⟨n1, _, o, e, q⟩ := R.nb c m
    by_cases hc : c = p
    · subst hc
      exact ⟨n1, trivial, .lst us, upd_same, trivial⟩
    · refine ⟨n1, trivial, o, by rw [upd_ne hc]; exact e, ?_⟩
      cases o with
      | lst _ => trivial
      | dK _ => trivial
      | ins _ dx _ => exact q
      | own x =>
        obtain ⟨q1, C, fs, q2⟩ := q
        exact ⟨q1, C, fs, by rw [upd_ne (ne_of q2 hp (by simp))]; exact q2⟩
      | _ => exact q.elim
  le := by rw [hide_upd hm]; exact R.le
  bg := by rw [hide_upd hm]; exact R.bg
end
/-! ### expressions that make a new list -/
section
variable (K : Fg) (b : Option Addr) (H0 : Hp)
def LF (g : GE) : TE := fun σ H Q => ∃ σd O, Rst K b H0 σd σ H O ∧ g σd fun d => match d with
  | .lst ds => ∀ p vs H', some p ≠ b → Fre H p → Ext b H H' → H' p = some (.lst vs) → Reps K b (hide (p :: O) H') ds vs → Q (.ref p) H'
  | _ => False
end
structure DF (b : Option Addr) (H0 : Hp) (X : Cx) (e : Expr) (g : GE) : Prop where
  pe : PE X e (LF X.K b H0 g)
  mn : Mn g
/-- a list alone -/
def gLs (g : GE) : GE := fun σ k => g σ fun d => match d with | .lst ds => k (.lst ds) | _ => False
/-! ### a def whose every return hands back a new list -/
def liftF (K : Fg) (s : GS) : Sp := fun vs H Q E => ∃ b ds, Bg b H ∧ Reps K b H ds vs ∧ s ds (fun d => match d with
  | .lst es => ∀ p ws H', some p ≠ b → Fre H p → Ext b H H' → H' p = some (.lst ws) → Reps K b (hide [p] H') es ws → Q (.ref p) H'
  | _ => False) (fun x => ∀ cls d H', Ext b H H' → XAt K b H' x cls d → E cls d H')
section
variable (K : Fg) (b : Option Addr) (H0 : Hp)
def dnF (Hs : Hp) (D : Ends) : EndD := { dn K b H0 Hs D with rt := fun d => match d with
  | .lst es => ∀ p ws H, some p ≠ b → Fre H0 p → Ext b H0 H → H p = some (.lst ws) → Reps K b (hide [p] H) es ws → D.rt (.ref p) H
  | _ => False }
def LSF (g : GSt) : TS := fun D σ H => ∃ σd O, Rst K b H0 σd σ H O ∧ g (dnF K b H0 (hide O H) D) σd
end
structure DSF (b : Option Addr) (H0 : Hp) (X : Cx) (st : Stmt) (g : GSt) : Prop where
  ps : PS X st (LSF X.K b H0 g)
  mn : MnD g
structure DSsF (b : Option Addr) (H0 : Hp) (X : Cx) (st : List Stmt) (g : GSt) : Prop where
  ps : PSs X st (LSF X.K b H0 g)
  mn : MnD g
section
variable {X : Cx} {b : Option Addr} {H0 : Hp} {pos : Pos} {st : Stmt} {sts a a2 : List Stmt} {g u : GSt} {e c : Expr} {ge : GE} {gt : GT} {x : Str} {i : Nat}
theorem dssF_one (A : DSF b H0 X st g) : DSsF b H0 X [st] g := ⟨pss_one A.ps, A.mn⟩
theorem Rst.fre0 {K : Fg} {σd : StD} {σ : L2.St} {H : Hp} {O : List Addr} (R : Rst K b H0 σd σ H O) {p : Addr} (h : p ∉ O → Fre H p) (hb : some p ≠ b) : Fre H0 p := fun o e => by
  cases t : nt o with
  | false => rfl
  | true =>
    exfalso
    have := R.le.1 p o hb e t
    obtain ⟨m, e2⟩ := of_hide this
    have := h m o e2
    rw [this] at t; cases t
theorem dsF_ret (A : DF b H0 X e ge) : DSF b H0 X (.Return (some e) pos) (gRet ge) :=
  ⟨ps_imp (ps_ret A.pe) fun D σ H ⟨σd, O, R, q⟩ => ⟨σd, O, R, A.mn _ _ _ (fun d z => by
    cases d with
    | lst es => exact fun p vs H' hb hf x hp r => z p vs H' hb (R.fre0 (fun _ => hf) hb) (R.ret x) hp (r.mono (hide_mono fun a m => by rw [List.mem_singleton.mp m]; exact List.mem_cons_self))
    | _ => exact z.elim) q⟩, gRet_mn A.mn⟩
end
abbrev finF (k : D → Prop) : EndD := { nx := fun _ => False, rt := k }
section
variable {P : Program} {w : World} {K : Fg} {mg : Str → Option Value} {base : Heap} {x qual : Str} {params : Arguments} {body : List Stmt} {scope : Scope} {dvs : List V} {kws : List (Str × V)} {f : Addr} {fd : FuncData}
theorem okF {N ps : List Str} {k : Nat} {s : GS} (F : FunD K x qual params body scope dvs kws f fd) (S : FnScope N ps scope) (hl : ∀ ds k e, s ds k e → ds.length = ps.length)
    (hbody : ∀ (cdv : Value) (A : Around) (outer : List Env) (s0 : Shared) (H : Hp) (E : XK) (b : Option Addr) (eo : XD → Prop), Room k (A.deeper (envOfC qual scope s0.heap.objs.size f cdv)) → Cz (cxOf (L2.CX P w) P w K mg base N qual scope f cdv A outer s0 H E) b H E eo →
      ∃ g, DSsF b H (cxOf (L2.CX P w) P w K mg base N qual scope f cdv A outer s0 H E) body g ∧ ∀ ds k, s ds k eo → g (finF k) (startD N ds)) : FnOk P w K mg base (L2.CX P w) (k + 1) f fd ps (liftF K s) := by
  refine F.ok S (fun vs H Q E ⟨b, ds, _, r, h⟩ => by rw [← r.length]; exact hl _ _ _ h) fun cdv A outer s0 H vs Q E hr ⟨b, ds, bg, r, h⟩ => ?_
  obtain ⟨g, dg, rd⟩ := hbody cdv A outer s0 H E b (fun x => ∀ cls d H', Ext b H H' → XAt K b H' x cls d → E cls d H') hr ⟨passes_call (takes_of rfl rfl rfl rfl) fun _ _ _ _ z => z, fun x cls d H' z x1 xa => z cls d H' x1 xa⟩
  exact ⟨_, dg.ps, startD N ds, [], rst_start bg r, dg.mn (finF _) _ _ (fun σ q => q.elim) (fun d q => q) (fun σ q => q.elim) (fun σ q => q.elim) (rd ds _ h)⟩
/-- a promise of a new list is a promise of a list -/
theorem FnOk.ofF {ps : List Str} {k : Nat} {s : GS} (ms : MnS s) (F : FnOk P w K mg base (L2.CX P w) k f fd ps (liftF K s)) (hl : ∀ ds k e, s ds k e → s ds (fun d => ∃ es, d = .lst es ∧ k d) e) : FnOk P w K mg base (L2.CX P w) k f fd ps (lift K s) := by
  have i : ∀ vs H Q E, lift K s vs H Q E → liftF K s vs H Q E := fun vs H Q E ⟨b, ds, bg, r, h⟩ => ⟨b, ds, bg, r, ms _ _ _ _ _ (fun d ⟨es, e, z⟩ => by
    subst e
    exact fun p ws H' hb hf x hp r => z _ H' x (Rep.mkLst hb (.inl (.inl hp)) (r.mono hide_le))) (fun _ z => z) (hl _ _ _ h)⟩
  exact F.imp i
end
end DL
/-! DM2 -/
set_option Elab.async false
set_option linter.all false
set_option maxRecDepth 100000
set_option maxHeartbeats 4000000
/-! Calls that hand back a new list; what is done to it. -/
namespace DL
open PySem PySem.Spec PyProof.Rows L2
variable [TabC]
/-- what a new list must come to -/
def KF (K : Fg) (b : Option Addr) (O : List Addr) (H : Hp) (Q : VK) : D → Prop := fun d => match d with
  | .lst ds => ∀ p vs H', some p ≠ b → Fre H p → Ext b H H' → H' p = some (.lst vs) → Reps K b (hide (p :: O) H') ds vs → Q (.ref p) H'
  | _ => False
section
variable {K : Fg} {b : Option Addr} {H H1 H2 : Hp} {O : List Addr} {Q : VK} {d : D}
theorem Fre.of_ext {p : Addr} (x : Ext b H H1) (hb : some p ≠ b) (h : Fre H1 p) : Fre H p := fun o e => by
  cases t : nt o with
  | false => rfl
  | true =>
    have := h o (x.1 p o hb e t)
    rw [this] at t; cases t
theorem KF.ext (x : Ext b H H1) (h : KF K b O H Q d) : KF K b O H1 Q d := by
  cases d with
  | lst ds => exact fun p vs H' hb hf x' hp r => h p vs H' hb (hf.of_ext x hb) (x.trans x') hp r
  | _ => exact h.elim
theorem back_hideP {p : Addr} (hp : H2 p ≠ none) (h : ∀ a ∈ O, H2 a = none) : hide (p :: O) (back O H H2) = hide [p] H2 := by
  funext c
  by_cases e : c = p
  · subst e
    rw [hide_in List.mem_cons_self, hide_in List.mem_cons_self]
  · rw [hide_out (O := [p]) (fun z => e (List.mem_singleton.mp z))]
    by_cases m : c ∈ O
    · rw [hide_in (List.mem_cons_of_mem _ m), h c m]
    · rw [hide_out (fun z => by rcases List.mem_cons.mp z with z | z; exact e z; exact m z), back_out m]
end
section
variable {X : Cx} {b : Option Addr} {H0 : Hp} {E : XK} {eo : XD → Prop} {s : GS} {k : Nat} {f : Addr} {ks : List Str} {c m x : Str} {o e : Expr} {es args : List Expr} {kws : List Keyword} {g ga : GA} {ge go : GE} {pos p apos pos' cpos : Pos} {i : Nat}
theorem run_fnCF {pins : List (Addr × Obj)} {σ : L2.St} {σd : StD} {H : Hp} {s0 : Shared} {O : List Addr} {us kus : List Value} {vs : List V} {ds : List D} {Q : VK} (F : FnC X.prog X.w X.K X.mg X.base k f ks (liftF X.K s)) (ms : MnS s) (hr : Room k X.A) (Z : Cz X b H0 E eo)
    (I : Inv X pins σ H s0) (hk : kus.length = ks.length) (r2 : Vals vs (us ++ kus)) (R : Rst X.K b H0 σd σ H O) (rp : Reps X.K b (hide O H) ds vs) (h : s ds (KF X.K b O H Q) eo) :
    wpAny (model X.prog X.w) X.A (call (.ref f) us (ks.zip kus)) (EP X pins σ Q) X.xe s0 := by
  have hO : ∀ a ∈ O, Hid O H a := fun a m => (R.nb a m).2.2
  have I1 := inv_hide I hO
  have sp : liftF X.K s vs (hide O H) (fun v H2 => (∀ a ∈ O, H2 a = none) → Q v (back O H H2)) E := by
    refine ⟨b, ds, R.bg, rp, ms _ _ _ _ _ (fun d hd => ?_) (fun x hx cls d H2 x2 xa => ?_) h⟩
    · cases d with
      | lst es =>
        intro p ws H2 hb hf x hp r fr
        have hm : p ∉ O := fun z => by rw [fr p z] at hp; cases hp
        refine hd p ws _ hb (fun o e => hf o (by rw [hide_out hm]; exact e)) (back_ext (fun a m => ⟨(R.nb a m).1, (R.nb a m).2.2⟩) fr x) (by rw [back_out hm]; exact hp) ?_
        rw [back_hideP (by rw [hp]; simp) fr]
        exact r
      | _ => exact hd.elim
    · exact Z.ex x cls d H2 hx (R.le.trans x2) xa
  refine wpAny_call (codeAny_mono (F X.A X.stack s0 (hide O H) us kus vs _ E hr I1.env0 hk r2 sp) fun r s' hq => ?_)
  cases r with
  | error e => exact Z.pass pins σ (hide O H) s0 e s' I1 hq
  | ok fl =>
    cases fl with
    | ret u =>
      obtain ⟨v, H2, os, bare, un, ok, rv, q⟩ := hq
      obtain ⟨fr, I2⟩ := inv_back I hO os bare un ok
      exact ⟨v, _, I2, rv, q fr⟩
    | next => exact False.elim hq
    | brk => exact False.elim hq
    | cont => exact False.elim hq
theorem df_mc {pl : Sem Bool} (G : DE b H0 X o go) (cl : Cls X.K (He.ga X.K c)) (hm : Meth X.K (He.ga X.K c) m f) (F : FnC X.prog X.w X.K X.mg X.base k f ks (liftF X.K s)) (ms : MnS s) (hr : Room k X.A) (Z : Cz X b H0 E eo) (A : DCA b H0 X pos args kws ks ga)
    (ht : eval (.Call (.Attribute o m apos) args kws pos) X.env = (do
      let ov ← eval o X.env
      standAt apos.atName
      let (f, first) ← holding [ov] (getMethod ov m pl)
      callWith pos f first (backTo pos (starEach args X.env)) (backToKw pos (keywordEach kws X.env))) := by rfl) :
    DF b H0 X (.Call (.Attribute o m apos) args kws pos) (gMc c m s eo go ga) := by
  refine ⟨⟨fun pins s0 σ H Q I ⟨σd, O, R, q⟩ => ?_⟩, gMc_mn ms G.mn A.mn⟩
  refine PySem.W.methodCall_KW (pl := pl) (thn (G.pe.run pins s0 σ H (fun v H' => ∃ a dx fs d, v = .ref a ∧ H' a = some (.ins (He.ga X.K c) dx fs) ∧ fs.lookup m = none ∧ Rst X.K b H0 σd σ H' O ∧ Rep X.K b (hide O H') d (.ref a) ∧ ga σd fun es => s (d :: es) (KF X.K b O H' Q) eo) I
    ⟨σd, O, R, G.mn _ _ _ (fun d z v H' x1 r => ?_) q⟩) fun u s1 ⟨x, H1, I1, rx, a, dx, fs, d, ex, ea, l, R1, rd, q1⟩ => ?_) ht
  · cases d with
    | ins c' ns ds =>
      obtain ⟨e1, e2, z⟩ := z
      subst e1
      obtain ⟨a, dx, vs, rfl, n, h, l, rs⟩ := r.ins
      exact ⟨a, dx, _, _, rfl, (of_hide h).2, lookup_zip_none e2, R.mono x1, r, A.mn _ _ _ (fun es w => ms _ _ _ _ _ (fun d w => KF.ext x1 w) (fun _ w => w) w) z⟩
    | _ => exact z.elim
  · subst ex
    obtain rfl : u = Value.ref a := rx
    refine getmeth_ok I1 ea cl hm l ?_
    refine A.run pins s1 σ H1 (.ref f) [.ref a] _ I1 hm.kp ⟨σd, O, R1, A.mn _ _ _ (fun ds z us kus vs H2 s2 I2 x2 hl r rp => ?_) q1⟩
    exact run_fnCF (us := .ref a :: us) (vs := .ref a :: vs) F ms hr Z I2 hl (.cons rfl r) (R1.mono x2) (Reps.cons (rd.mono (x2.1.hide O)) rp) (ms _ _ _ _ _ (fun d w => KF.ext x2 w) (fun _ w => w) z)
/-! ### a new list that nothing keeps is changed -/
def gApF (ga ge : GE) : GSt := fun D σ => ga σ fun d => match d with | .lst ds => ge σ fun _ => ds.length < 100000 ∧ D.nx σ | _ => False
theorem gApF_mn {ga : GE} (A : Mn ga) (B : Mn ge) : MnD (gApF ga ge) := fun D D' σ h1 _ _ _ q => A _ _ _ (fun d z => by
  cases d <;> first | exact B _ _ _ (fun _ w => ⟨w.1, h1 _ w.2⟩) z | exact z.elim) q
theorem ds_apF {ga : GE} (A : DF b H0 X o ga) (B : DE b H0 X e ge) (hs : swapsWith (.Call (.Attribute o "append" apos) [e] [] cpos) none pos.line X.env = pure false := by rfl)
    (hfew : ((backTo cpos (starEach [e] X.env)).all (fun x => !x.1) && (backToKw cpos (keywordEach [] X.env)).all (fun x => x.1.isSome) && decide ([e].length + ([] : List Keyword).length + (if ([] : List Keyword).isEmpty then 0 else 1) < 30)) = true := by rfl)
    (hbase : attributeBase o "append" X.env (eval o X.env) = eval o X.env := by rfl) (hplain : (backTo cpos (starEach [] X.env)).any (·.1) = false := by rfl)
    (hline : (apos.endLine == cpos.line) = true := by rfl) (hst : starEach [e] X.env = (false, eval e X.env) :: starEach [] X.env := by rfl) :
    DS b H0 X (.Expr (.Call (.Attribute o "append" apos) [e] [] cpos) pos) (gApF ga ge) :=
  ⟨ps_imp (ps_expr (pe_bm PySem.F.plainAttrs_list PySem.F.slot_list_append PySem.F.type_list_append mt_append A.pe (pa_cons B.pe pa_nil hst) hbase hfew hline hst hplain) hs) fun D σ H ⟨σd, O, R, q⟩ => by
    refine ⟨σd, O, R, A.mn _ _ _ (fun d z => ?_) q⟩
    cases d with
    | lst ds =>
      intro p vs H1 hb hf x hp r
      have R1 := R.hideP hb hf x hp
      have hm := R.fre hf
      have nn := fun j => R.noOwn hm j
      refine ⟨.inl ⟨rfl, vs, .inl (.inl hp)⟩, σd, p :: O, R1, B.mn _ _ _ (fun d z v H2 x2 r2 => ?_) z⟩
      have hp2 : H2 p = some (.lst vs) := x2.1 _ _ hb hp rfl
      refine ⟨p, vs, v, rfl, rfl, hp2, ?_, ?_⟩
      · rw [← r.length]; exact Nat.lt_of_lt_of_le z.1 (by decide)
      · have R3 := (R1.mono x2).wrP (us := vs ++ [v]) nn List.mem_cons_self hp2
        refine z.2 _ _ _ R3 ?_
        rw [hide_upd List.mem_cons_self]
        exact (R.hideX hb hf x hp).trans (R1.hx x2)
    | _ => exact z.elim, gApF_mn A.mn B.mn⟩
end
end DL
/-! DM3 -/
set_option Elab.async false
set_option linter.all false
set_option maxRecDepth 100000
set_option maxHeartbeats 4000000
/-! xs[::-1]. -/
namespace DL
open PySem PySem.Spec PyProof.Rows L2
variable [TabC]
section
variable {X : Cx} {b : Option Addr} {H0 : Hp} {e : Expr} {ge : GE}
def dRev : D → (D → Prop) → Prop := fun x k => match x with | .lst ds => k (.lst ds.reverse) | _ => False
end
theorem fi_i {α : Type} {x : α} {l : List α} {i : Nat} (h : some x = l[i]?) : some x = l[i]? := h
theorem o_strI {i : Int} (h : i.natAbs.log2 < 1920) : O1 dStrI (.int i) (.str (toString i)) := .mk fun k q => ⟨h, q⟩
theorem o_rev {ds : List D} : O1 dRev (.lst ds) (.lst ds.reverse) := .mk fun k q => q
/-! ### steps over new lists -/
section
variable {σ : StD} {d : D} {ds : List D} {ga ge : GE} {v : GSt} {D' : EndD} {i : Nat}
theorem s_apFL (A : Ev ga σ (.lst ds)) (B : Ev ge σ d) (h : ds.length < 100000) (r : Stp (D'.nx σ)) : Stp (gApF ga ge D' σ) := ⟨A _ (B _ ⟨h, r.run⟩)⟩
theorem ev_ls {g : GE} (A : Ev g σ (.lst ds)) : Ev (gLs g) σ (.lst ds) := .mk fun k q => A _ q
end
end DL
/-! DM5 -/
set_option Elab.async false
set_option linter.all false
set_option maxRecDepth 100000
set_option maxHeartbeats 4000000
/-! Owned lists: two at once, one popped into the other. -/
namespace DL
open PySem PySem.Spec PyProof.Rows L2
end DL
/-! DM6 -/
set_option Elab.async false
set_option linter.all false
set_option maxRecDepth 100000
set_option maxHeartbeats 4000000
/-! A comprehension with two fors. -/
namespace DL
open PySem PySem.Spec PyProof.Rows L2
variable [TabC]
def nO : SD → Bool | .sh _ => true | .unset => true | _ => false
end DL
/-! DM7 -/
set_option Elab.async false
set_option linter.all false
set_option maxRecDepth 100000
set_option maxHeartbeats 4000000
/-! max of two; tuples of texts that a class holds; an empty tuple as a default. -/
namespace DL
open PySem PySem.Spec PyProof.Rows L2
variable [TabC]
section
variable {X : Cx} {b : Option Addr} {H0 : Hp} {p pos : Pos} {ga : GA} {e : Expr} {es : List Expr}
/-! ### a builtin with several arguments -/
def dMax2 : List D → (D → Prop) → Prop := fun ds k => match ds with
  | [.int i, .int j] => k (.int (if j > i then j else i))
  | _ => False
/-! ### tuples of texts that a class holds -/
/-! ### a tuple as a keyword default -/
end
theorem o_max2 {i j : Int} : ON dMax2 [.int i, .int j] (.int (if j > i then j else i)) := .mk fun k q => q
theorem o_ninTu {x : D} {ds : List D} (h : (flatD x && ds.all flatD) = true) : O2 (dInA true) x (.tup ds) (.bl (!(ds.any fun z => eqF z x))) := .mk fun k q => ⟨h, q⟩
end DL
/-! DM8 -/
set_option Elab.async false
set_option linter.all false
set_option maxRecDepth 100000
set_option maxHeartbeats 4000000
/-! A comprehension over a list that the frame owns. -/
namespace DL
open PySem PySem.Spec PyProof.Rows L2
end DL
/-! DM9 -/
set_option Elab.async false
set_option linter.all false
set_option maxRecDepth 100000
set_option maxHeartbeats 4000000
/-! Lists and tuples of one shape: how they are compared. -/
namespace DL
open PySem PySem.Spec PyProof.Rows L2
variable [TabC]
/-- values of one shape, as data -/
structure Cod {α : Type} [BEq α] (f : α → D) (g : α → PyData) (n : Nat) : Prop where
  py : ∀ x, toPy (f x) = some (g x)
  lay : ∀ x, PyData.canLay0 (g x) = true
  dep : ∀ x, PyData.depth (g x) ≤ n
  eqv : ∀ x y, PyData.eqv (g x) (g y) = (x == y)
section
variable {α : Type} [BEq α] {f : α → D} {g : α → PyData} {n : Nat}
theorem Cod.pys (c : Cod f g n) : ∀ l : List α, toPys (l.map f) = some (l.map g)
  | [] => rfl
  | x :: r => by
    show (match toPy (f x), toPys (r.map f) with | some p, some q => some (p :: q) | _, _ => none) = _
    rw [c.pys r, c.py x]; rfl
theorem Cod.lays (c : Cod f g n) : ∀ l : List α, PyData.canLayAll0 (l.map g) = true
  | [] => rfl
  | x :: r => by
    show (PyData.canLay0 (g x) && PyData.canLayAll0 (r.map g)) = true
    rw [c.lays r, c.lay x]; rfl
theorem Cod.deps (c : Cod f g n) : ∀ l : List α, PyData.depthAll (l.map g) ≤ n
  | [] => Nat.zero_le _
  | x :: r => Nat.max_le.mpr ⟨c.dep x, c.deps r⟩
theorem Cod.eqs (c : Cod f g n) : ∀ l m : List α, PyData.eqvAll (l.map g) (m.map g) = (l == m)
  | [], [] => rfl
  | [], y :: s => rfl
  | x :: r, [] => rfl
  | x :: r, y :: s => by
    show (PyData.eqv (g x) (g y) && PyData.eqvAll (r.map g) (s.map g)) = _
    rw [c.eqs r s, c.eqv x y]
    rfl
theorem Cod.lst (c : Cod f g n) : Cod (fun l : List α => .lst (l.map f)) (fun l => .list (l.map g)) (n + 1) where
  py := fun l => by simp only [toPy, c.pys l]; rfl
  lay := c.lays
  dep := fun l => Nat.succ_le_succ (c.deps l)
  eqv := c.eqs
theorem Cod.tup (c : Cod f g n) : Cod (fun l : List α => .tup (l.map f)) (fun l => .tuple (l.map g)) (n + 1) where
  py := fun l => by simp only [toPy, c.pys l]; rfl
  lay := c.lays
  dep := fun l => Nat.succ_le_succ (c.deps l)
  eqv := c.eqs
theorem Cod.any (c : Cod f g n) (x : α) : ∀ l : List α, ((l.map g).any fun z => PyData.eqv z (g x)) = l.any (· == x)
  | [] => rfl
  | y :: r => by
    show (PyData.eqv (g y) (g x) || (r.map g).any fun z => PyData.eqv z (g x)) = ((y == x) || r.any (· == x))
    rw [c.any x r, c.eqv y x]
end
/-! ### steps and values -/
theorem o_ixTI {l : List Int} {i : Nat} (h : i < l.length) : O2 dIx (.tup (dints l)) (.int (0 + (i : Int))) (.int (l.getD i 0)) := .mk fun k q => by
  have e : atI (dints l) (0 + (i : Int)) = some (.int (l.getD i 0)) := by
    unfold atI ixN
    rw [Int.zero_add, if_pos (by omega), if_pos (by rw [dints_len]; omega)]
    show (dints l)[i]? = _
    rw [List.getElem?_map, List.getElem?_eq_getElem h, List.getD_eq_getElem?_getD, List.getElem?_eq_getElem h]; rfl
  show match atI (dints l) (0 + (i : Int)) with | some d => k d | none => False
  rw [e]; exact q
theorem o_tup {ds : List D} : O1 dTuple (.lst ds) (.tup ds) := .mk fun k q => q
theorem o_tup2 {ds : List D} : O1 dTuple (.tup ds) (.tup ds) := .mk fun k q => q
theorem o_lst {ds : List D} : O1 dList (.lst ds) (.lst ds) := .mk fun k q => q
theorem o_lst2 {ds : List D} : O1 dList (.tup ds) (.lst ds) := .mk fun k q => q
end DL
/-! DM10 -/
set_option Elab.async false
set_option linter.all false
set_option maxRecDepth 100000
set_option maxHeartbeats 4000000
/-! Lists and tuples of one shape: how they are compared. -/
namespace DL
end DL
/-! DN1 -/
set_option Elab.async false
set_option linter.all false
set_option maxRecDepth 100000
set_option maxHeartbeats 4000000
/-! A list that is the frame's own, handed to a call that only reads it. -/
namespace DL
open PySem PySem.Spec PyProof.Rows L2
variable [TabC]
section
variable {K : Fg} {b : Option Addr} {H H' : Hp} {p : Addr}
/-- what a value that leans on no locked list leans on -/
def Sub (b : Option Addr) (H H' : Hp) : Prop := ∀ a o, some a ≠ b → H a = some o → (∀ ob xs, o ≠ .frz ob (.lst xs)) → H' a = some o
end
section
variable {X : Cx} {b : Option Addr} {H0 : Hp} {e : Expr} {g : GE}
theorem Rst.lock {K : Fg} {σd : StD} {σ : L2.St} {H : Hp} {O : List Addr} (R : Rst K b H0 σd σ H O) (hd : ∀ c C dx fs, H c = some (.ins C dx fs) → H dx = some (.own c)) {ds : List D} {vs : List V} {i : Nat} {a : Addr} (hi : look σd i = .own ds) (hs : σ.getD i none = some (.ref a)) (hm : a ∈ O) (ha : H a = some (.lst vs)) (r : Reps K b (hide O H) ds vs) (od : Obj) :
    Rst K b H0 (put σd i (.sh (.frl a ds))) σ (upd H a (.frz od (.lst vs))) (O.filter fun c => c ≠ a) := by
  have sub : ∀ c ∈ O.filter (fun c => c ≠ a), c ∈ O := fun c m => (List.mem_filter.mp m).1
  have mem : ∀ {c}, c ∈ O → c ≠ a → c ∈ O.filter (fun c => c ≠ a) := fun m n => List.mem_filter.mpr ⟨m, decide_eq_true n⟩
  have na : a ∉ O.filter (fun c => c ≠ a) := fun z => by simpa using (List.mem_filter.mp z).2
  have xx : Ext b (hide O H) (hide (O.filter (fun c => c ≠ a)) (upd H a (.frz od (.lst vs)))) := .all fun c o e => by
    obtain ⟨h1, h2⟩ := of_hide e
    rw [hide_out (fun z => h1 (sub c z)), upd_ne (fun z => h1 (by rw [z]; exact hm))]; exact h2
  have li : i < σd.length := by
    rcases Nat.lt_or_ge i σd.length with z | z
    · exact z
    · rw [look_out z] at hi; cases hi
  have oi : Owns (look σd i) (σ.getD i none) a := by rw [hi, hs]; exact rfl
  refine ⟨by rw [put_length]; exact R.len, fun j => ?_, fun j k c h1 h2 => ?_, fun c m => ?_, R.le.trans xx, R.bg.ext xx⟩
  · rw [look_put2]
    by_cases h : j = i ∧ i < σd.length
    · rw [if_pos h, h.1]
      refine ⟨.ref a, hs, ?_⟩
      simp only [Rep]
      exact ⟨od, vs, trivial, (R.nb a hm).1, (by rw [hide_out na, upd_same]), r.mono xx.1⟩
    · rw [if_neg h]
      have s := R.slot j
      have ne : ∀ c, Owns (look σd j) (σ.getD j none) c → c ≠ a := fun c z w => h ⟨R.uniq j i a (by rw [← w]; exact z) oi, li⟩
      cases e : look σd j with
      | unset => trivial
      | sh d =>
        rw [e] at s
        obtain ⟨v, e1, r1⟩ := s
        exact ⟨v, e1, r1.mono xx.1⟩
      | own fs =>
        rw [e] at s
        obtain ⟨c, ws, e1, m, h1, r1⟩ := s
        have nc := ne c (by rw [e, e1]; exact rfl)
        exact ⟨c, ws, e1, mem m nc, by rw [upd_ne nc]; exact h1, r1.mono xx.1⟩
      | owd kx fs =>
        rw [e] at s
        obtain ⟨c, ws, e1, m, h1, r1⟩ := s
        have nc := ne c (by rw [e, e1]; exact rfl)
        exact ⟨c, ws, e1, mem m nc, by rw [upd_ne nc]; exact h1, r1.mono xx.1⟩
      | obj c dx n ns fs =>
        rw [e] at s
        obtain ⟨ws, e1, m, md, h1, h2, l, r1⟩ := s
        have n1 := ne_of h1 ha (by simp)
        have n2 := ne_of h2 ha (by simp)
        exact ⟨ws, e1, mem m n1, mem md n2, by rw [upd_ne n1]; exact h1, by rw [upd_ne n2]; exact h2, l, r1.mono xx.1⟩
  · have key : ∀ {j}, Owns (look (put σd i (.sh (.frl a ds))) j) (σ.getD j none) c → Owns (look σd j) (σ.getD j none) c := fun {j} z => by
      rw [look_put2] at z
      by_cases h : j = i ∧ i < σd.length
      · rw [if_pos h] at z
        cases e : σ.getD j none <;> rw [e] at z <;> exact z.elim
      · rw [if_neg h] at z; exact z
    exact R.uniq j k c (key h1) (key h2)
  · have mo := sub c m
    have nca : c ≠ a := fun z => na (z ▸ m)
    obtain ⟨n1, _, o, e, q⟩ := R.nb c mo
    refine ⟨n1, trivial, o, by rw [upd_ne nca]; exact e, ?_⟩
    cases o with
    | lst _ => trivial
    | dK _ => trivial
    | ins C dx fs =>
      have q : dx ∈ O := q
      exact mem q (ne_of (hd _ _ _ _ e) ha (by simp))
    | own x =>
      obtain ⟨q1, C, fs, q2⟩ := q
      have nx := ne_of q2 ha (by simp)
      exact ⟨mem q1 nx, C, fs, by rw [upd_ne nx]; exact q2⟩
    | _ => exact q.elim
end
end DL
/-! DN2 -/
set_option Elab.async false
set_option linter.all false
set_option maxRecDepth 100000
set_option maxHeartbeats 4000000
/-! A new list times an int. -/
namespace DL
open PySem PySem.Spec PyProof.Rows L2
variable [TabC]
def gRepF (ge gb : GE) : GE := fun σ k => ge σ fun d => match d with
  | .lst ds => gb σ fun y => match y with
    | .int n => (0 ≤ n ∧ n ≤ 1000 ∧ ds.length ≤ 1000) ∧ k (.lst (List.replicate n.toNat ds).flatten)
    | _ => False
  | _ => False
section
variable {X : Cx} {b : Option Addr} {H0 : Hp} {a c : Expr} {ga gb : GE} {pos : Pos}
theorem ev_repF {σ : StD} {ds : List D} {n : Int} (A : Ev ga σ (.lst ds)) (B : Ev gb σ (.int n)) (h : 0 ≤ n ∧ n ≤ 1000 ∧ ds.length ≤ 1000) : Ev (gRepF ga gb) σ (.lst (List.replicate n.toNat ds).flatten) := .mk fun k q => A _ (B _ ⟨h, q⟩)
end
end DL
/-! DS1 -/
set_option Elab.async false
set_option linter.all false
set_option maxRecDepth 100000
set_option maxHeartbeats 4000000
/-! A method whose first statement is super().__init__(..): its run. -/
namespace DL
open PySem PySem.Spec PyProof.Rows L2
variable [TabC]
/-- the law's file, as its code objects name it -/
def FILE : Str := "/claim/cut.py"
/-- the def at f, whose one captured cell holds the class at D -/
structure FunS (K : Fg) (x qual : Str) (params : Arguments) (body : List Stmt) (scope : Scope) (dvs : List V) (kws : List (Str × V)) (f : Addr) (fd : FuncData) (cda cc D : Addr) : Prop where
  ex : ∃ (oc : Value) (od : Option Addr) (dV kV doc pm : Value) (an : Option Addr) (ct : Value) (osl : Array (Option Value)),
    fd = PySem.W.fnX x qual params body scope [("__class__", cc)] dV kV doc pm an (.ref cda) ct ∧ K.lookup f = some ⟨oc, od, .func fd, osl⟩ ∧ PySem.W.codeIn K (.ref cda) qual = true ∧ DflV K dV dvs ∧ KwdV K kV kws
  co : ∃ (ccl : Value) (cdd : Option Addr) (vs : Array Value) (ccs : Array (Option Value)) (tf : Tok), K.lookup cda = some ⟨ccl, cdd, .fields vs, ccs⟩ ∧ vs[2]? = some (.str FILE tf)
  cell : ∃ (cl : Value) (cld : Option Addr) (csl : Array (Option Value)), K.lookup cc = some ⟨cl, cld, .cell (some (.ref D)), csl⟩
  cls : ∃ cd, PySem.W.clsIn K D = some cd
  kp : PySem.W.keepIn K (.ref f) = true
end DL
/-! DS2 -/
set_option Elab.async false
set_option linter.all false
set_option maxRecDepth 100000
set_option maxHeartbeats 4000000
/-! A method whose first statement is super().__init__(..), over data. -/
namespace DL
open PySem PySem.Spec PyProof.Rows L2
end DL
namespace He
open PySem PySem.Spec PyProof.Rows L2
/-! ### the head's word on such defs -/
def fnS (K : PySem.W.Frag) (a : Addr) : FnW := match K.lookup a with
  | some ⟨_, _, .func fd, _⟩ => some (fd.name, fd.qualname, fd.params, fd.body, fd.scope, fd.globals, fd.closure.map fun p => (p.1, 0), fd.builtins)
  | _ => none
def valS1 (d : DefD) : FnW := some (d.name, d.qual, d.params, .stmts d.body, d.scope, mainGlobals, [("__class__", 0)], builtinsNs)
/-- the code object, the one cell, the class in it -/
def ccS (K : PySem.W.Frag) (a : Addr) : Addr := match K.lookup a with
  | some ⟨_, _, .func fd, _⟩ => (match fd.closure with | [(_, c)] => c | _ => 0)
  | _ => 0
def cdS (K : PySem.W.Frag) (a : Addr) : Addr := match K.lookup a with
  | some ⟨_, _, .func fd, _⟩ => (match fd.code with | .ref c => c | _ => 0)
  | _ => 0
def okS1 (K : PySem.W.Frag) (d : DefD) (cls : Str) : Bool := PySem.W.keepIn K (.ref (fAd K d.at_)) && ((match K.lookup (fAd K d.at_) with
  | some ⟨_, _, .func fd, _⟩ => (match fd.code with
    | .ref cda => PySem.W.codeIn K (.ref cda) d.qual && (match K.lookup cda with
      | some ⟨_, _, .fields vs, _⟩ => (match (vs[2]? : Option Value) with | some (Value.str x _) => decide (x = DL.FILE) | _ => false)
      | _ => false)
    | _ => false) && (dflB K fd.defaults (d.dvs K) && kwdB K fd.kwdefaults (d.kws K))
  | _ => false) && ((match K.lookup (ccS K (fAd K d.at_)) with
  | some ⟨_, _, .cell (some (.ref a)), _⟩ => decide (a = ga K cls)
  | _ => false) && (PySem.W.clsIn K (ga K cls)).isSome))
theorem funS_of {K : PySem.W.Frag} {d : DefD} {cls : Str} (e : fnS K (fAd K d.at_) = valS1 d) (c : okS1 K d cls = true) : ∃ fd, DL.FunS K d.name d.qual d.params d.body d.scope (d.dvs K) (d.kws K) (fAd K d.at_) fd (cdS K (fAd K d.at_)) (ccS K (fAd K d.at_)) (ga K cls) := by
  unfold okS1 at c
  rw [Bool.and_eq_true, Bool.and_eq_true, Bool.and_eq_true] at c
  obtain ⟨kp, c2, c3, c4⟩ := c
  unfold fnS at e
  cases q : K.lookup (fAd K d.at_) with
  | none => rw [q] at c2; cases c2
  | some o =>
    obtain ⟨oc, od, dt, osl⟩ := o
    rw [q] at c2 e
    cases dt with
    | func fd =>
      obtain ⟨n1, n2, n3, n4, n5, n6, n7, n8, n9, n10, n11, n12, n13, n14, n15⟩ := fd
      have e2 : (some (n1, n2, n3, n4, n5, n6, n7.map fun p => (p.1, 0), n15) : FnW) = some (d.name, d.qual, d.params, FuncBody.stmts d.body, d.scope, mainGlobals, [(("__class__" : Str), (0 : Addr))], builtinsNs) := e
      simp only [Option.some.injEq, Prod.mk.injEq] at e2
      obtain ⟨h1, h2, h3, h4, h5, h6, h7, h8⟩ := e2
      obtain ⟨cc, rfl⟩ : ∃ cc, n7 = [(("__class__" : Str), cc)] := by
        cases n7 with
        | nil => exact absurd (congrArg List.length h7) (by simp)
        | cons p r =>
          cases r with
          | nil =>
            obtain ⟨p1, p2⟩ := p
            simp only [List.map_cons, List.map_nil, List.cons.injEq, Prod.mk.injEq, and_true] at h7
            exact ⟨p2, by rw [h7]⟩
          | cons _ _ => exact absurd (congrArg List.length h7) (by simp)
      subst h1 h2 h3 h4 h5 h6 h8
      have ec : ccS K (fAd K d.at_) = cc := by unfold ccS; rw [q]
      simp only [Bool.and_eq_true] at c2
      obtain ⟨c5, k3, k4⟩ := c2
      cases n13 with
      | ref cda =>
        have ed : cdS K (fAd K d.at_) = cda := by unfold cdS; rw [q]
        have c5 : (PySem.W.codeIn K (.ref cda) d.qual && (match K.lookup cda with
          | some ⟨_, _, .fields vs, _⟩ => (match (vs[2]? : Option Value) with | some (Value.str x _) => decide (x = DL.FILE) | _ => false)
          | _ => false)) = true := c5
        rw [Bool.and_eq_true] at c5
        obtain ⟨k1, k2⟩ := c5
        rw [ec, ed]
        rw [ec] at c3
        refine ⟨_, ⟨oc, od, n8, n9, n10, n11, n12, n14, osl, rfl, q, k1, dflB_ok k3, kwdB_ok k4⟩, ?_, ?_, ?_, kp⟩
        · split at k2
          · rename_i ccl cdd vs ccs lk
            split at k2
            · rename_i y tf hv
              exact ⟨_, _, vs, _, tf, lk, by rw [hv, of_decide_eq_true k2]⟩
            · cases k2
          · cases k2
        · split at c3
          · rename_i a b c lk
            rw [of_decide_eq_true c3] at lk
            exact ⟨_, _, _, lk⟩
          · cases c3
        · exact Option.isSome_iff_exists.mp c4
      | _ => cases c5
    | _ => cases c2
abbrev AlS : Type := Bool × List FnW
def obsS1 (fs : List (DefD × Str)) (K : PySem.W.Frag) : AlS := (fs.all fun d => okS1 K d.1 d.2, fs.map fun d => fnS K (fAd K d.1.at_))
def valS (fs : List (DefD × Str)) : AlS := (true, fs.map fun d => valS1 d.1)
def SaysS (fs : List (DefD × Str)) (K : PySem.W.Frag) : Prop := obsS1 fs K = valS fs
theorem SaysS.def_ {fs : List (DefD × Str)} {K : PySem.W.Frag} (c : SaysS fs K) (i : Nat) {d : DefD × Str} (h : fs[i]? = some d := by rfl) : ∃ fd, DL.FunS K d.1.name d.1.qual d.1.params d.1.body d.1.scope (d.1.dvs K) (d.1.kws K) (fAd K d.1.at_) fd (cdS K (fAd K d.1.at_)) (ccS K (fAd K d.1.at_)) (ga K d.2) := by
  have c2 : (fs.all fun d => okS1 K d.1 d.2) = true := congrArg (fun z : AlS => z.1) c
  have e : (fs.map fun d => fnS K (fAd K d.1.at_)) = fs.map fun d => valS1 d.1 := congrArg (fun z : AlS => z.2) c
  have e2 : (fs.map fun d => fnS K (fAd K d.1.at_))[i]? = (fs.map fun d => valS1 d.1)[i]? := by rw [e]
  rw [List.getElem?_map, List.getElem?_map, h] at e2
  exact funS_of (Option.some.inj e2) (List.all_eq_true.mp c2 d (List.mem_of_getElem? h))
/-! ### the Hook with such defs -/
end He
/-! DS4 -/
set_option Elab.async false
set_option linter.all false
set_option maxRecDepth 100000
set_option maxHeartbeats 4000000
/-! The Hook over a list of addresses that is given. -/
namespace He
open PySem PySem.Spec PyProof.Rows L2
def obsL (as : List Addr) (fa : List Fa) (fn : List DefD) (ts : List Tab) (tf : List Defn) (ex : PySem.W.Frag → Bool) (g : Addr → Option Obj) : AlX := (obsT fa fn ts (frT g as), ex (frT g as) && tabsB g tf (frT g as))
theorem saysL_of {as : List Addr} {fa : List Fa} {fn : List DefD} {ts : List Tab} {tf : List Defn} {ex : PySem.W.Frag → Bool} {w : World} {h : Heap} (e : obsL as fa fn ts tf ex h.get? = valX fn ts w) : SaysX fa fn ts tf ex w h (frT h.get? as) := by
  have e1 : obsT fa fn ts (frT h.get? as) = valT fn ts w := congrArg (fun z : AlX => z.1) e
  have e2 : (ex (frT h.get? as) && tabsB h.get? tf (frT h.get? as)) = true := congrArg (fun z : AlX => z.2) e
  obtain ⟨h1, h2⟩ := ba e2
  have key : ∀ p ∈ tf, PySem.W.codeHdIn (frT h.get? as) (cT (frT h.get? as) p).1 (cT (frT h.get? as) p).2 = true ∧ ∃ o, h.get? (cT (frT h.get? as) p).2 = some o ∧ emptyTab o = true := fun p hp => by
    obtain ⟨h3, h4⟩ := ba (List.all_eq_true.mp h2 p hp)
    refine ⟨h3, ?_⟩
    cases q : h.get? (cT (frT h.get? as) p).2 with
    | none =>
      rw [q] at h4
      cases h4
    | some o =>
      rw [q] at h4
      exact ⟨o, rfl, h4⟩
  exact ⟨e1, h1, fun p hp => (key p hp).1, fun p hp => by
    obtain ⟨_, o, q, z⟩ := key p hp
    exact frT_none q z, fun p hp => by
    obtain ⟨_, o, q, z⟩ := key p hp
    rw [q, emptyTab_eq z]⟩
def obsR (as : List Addr) (fa : List Fa) (fn : List DefD) (fs : List He5.DefA) (ss : List (DefD × Str)) (ts : List Tab) (tf : List Defn) (ex : PySem.W.Frag → Bool) (g : Addr → Option Obj) : (AlX × He.AlD) × AlS := ((obsL as fa fn ts tf ex g, He5.obsA [] fs (frT g as)), obsS1 ss (frT g as))
def hookR (as : List Addr) (fa : List Fa) (fn : List DefD) (fs : List He5.DefA) (ss : List (DefD × Str)) (ts : List Tab) (tf : List Defn) (ex : PySem.W.Frag → Bool) : PySem.W.Hook where
  α := (AlX × He.AlD) × AlS
  obs := fun s => obsR as fa fn fs ss ts tf ex s.heap.get?
  val := fun w => ((valX fn ts w, He5.valA fs), valS ss)
  says := fun w h => ∃ K : PySem.W.Frag, K.In h ∧ SaysX fa fn ts tf ex w h K ∧ He5.SaysA [] fs K ∧ SaysS ss K
  of := fun _ _ e => ⟨_, frT_in, saysL_of (congrArg (fun z : (AlX × He.AlD) × AlS => z.1.1) e), congrArg (fun z : (AlX × He.AlD) × AlS => z.1.2) e, congrArg (fun z : (AlX × He.AlD) × AlS => z.2) e⟩
  keeps := fun _ _ _ ⟨K, hK, c, c2, c3⟩ k => ⟨K, PySem.W.Frag.In.keeps hK k, ⟨c.t, c.more, c.hd, c.out, fun p hp => k _ _ (c.empty p hp)⟩, c2, c3⟩
theorem obsR_eq {as : List Addr} {fa : List Fa} {fn : List DefD} {fs : List He5.DefA} {ss : List (DefD × Str)} {ts : List Tab} {tf : List Defn} {ex : PySem.W.Frag → Bool} {g : Addr → Option Obj} {s : Shared} (h : ∀ a, g a = s.heap.get? a) : obsR as fa fn fs ss ts tf ex g = (hookR as fa fn fs ss ts tf ex).obs s := by
  have e : g = s.heap.get? := funext h
  rw [e] <;> rfl
end He
/-! DS3 -/
set_option Elab.async false
set_option linter.all false
set_option maxRecDepth 100000
set_option maxHeartbeats 4000000
/-! A tuple times an int from 0 on. -/
namespace DL
open PySem PySem.Spec PyProof.Rows L2
variable [TabC]
def gRepT (ge gb : GE) : GE := fun σ k => ge σ fun d => match d with
  | .tup ds => gb σ fun y => match y with
    | .int n => (0 ≤ n ∧ n ≤ 1000 ∧ ds ≠ [] ∧ ds.length ≤ 1000) ∧ k (.tup (List.replicate n.toNat ds).flatten)
    | _ => False
  | .str z => gb σ fun y => match y with
    | .int n => (0 ≤ n ∧ n ≤ 1000 ∧ z.length ≤ 1000) ∧ k (.str (Txt.mul z n))
    | _ => False
  | _ => False
section
variable {X : Cx} {b : Option Addr} {H0 : Hp} {a c : Expr} {ga gb : GE} {pos : Pos}
theorem ev_repT {σ : StD} {ds : List D} {n : Int} (A : Ev ga σ (.tup ds)) (B : Ev gb σ (.int n)) (h : 0 ≤ n ∧ n ≤ 1000 ∧ ds ≠ [] ∧ ds.length ≤ 1000) : Ev (gRepT ga gb) σ (.tup (List.replicate n.toNat ds).flatten) := .mk fun k q => A _ (B _ ⟨h, q⟩)
end
end DL
/-! DT1 -/
set_option Elab.async false
set_option linter.all false
set_option maxRecDepth 100000
set_option maxHeartbeats 4000000
/-! sum of a list of objects whose + is their class's. -/
namespace PySem
open Sem (wp)
end PySem
/-! DT2 -/
set_option Elab.async false
set_option linter.all false
set_option maxRecDepth 100000
set_option maxHeartbeats 4000000
/-! sum of a list of objects, as data. -/
namespace DL
open PySem PySem.Spec PyProof.Rows L2
end DL
/-! DT3 -/
set_option Elab.async false
set_option linter.all false
set_option maxRecDepth 100000
set_option maxHeartbeats 4000000
/-! sum of objects as a reading; inherited methods; objects of either class. -/
namespace DL
open PySem PySem.Spec PyProof.Rows L2
end DL
/-! DU1 -/
set_option Elab.async false
set_option linter.all false
set_option maxRecDepth 100000
set_option maxHeartbeats 4000000
/-! The call of an object whose class has __call__. -/
namespace DL
open PySem PySem.W PySem.Calls PyProof.Rows
end DL
namespace DL
open PySem PySem.Spec PySem.Calls PyProof.Rows L2
variable [TabC]
/-- x(..), x an object of the class c -/
def gCi (c : Str) (s : GS) (eo : XD → Prop) (go : GE) (ga : GA) : GE := fun σ k => go σ fun d => match d with
  | .ins c' ns ds => c' = c ∧ ga σ fun es => s (.ins c' ns ds :: es) k eo
  | _ => False
end DL
/-! DU2 -/
set_option Elab.async false
set_option linter.all false
set_option maxRecDepth 100000
set_option maxHeartbeats 4000000
/-! New lists by comprehension and by a choice; max of a list; texts that a class holds. -/
namespace DL
open PySem PySem.Spec PySem.Calls PyProof.Rows L2
variable [TabC]
section
variable {X : Cx} {b : Option Addr} {H0 : Hp} {e a c' : Expr} {te : GT} {ga gb ge : GE} {pos p : Pos} {f c : Str}
/-! ### texts of a class -/
def gCon (c f : Str) (d : D) (ge : GE) : GE := fun σ k => ge σ fun x => match x with | .ins c' ns _ => c' = c ∧ f ∉ ns ∧ k d | _ => False
/-! ### max of a list of ints -/
end
/-! ### readings -/
section
variable {σ : StD} {ga go ge : GE} {x d : D} {ds es : List D} {c f : Str} {s : GS} {eo : XD → Prop} {g1' : GA} {ns : List Str}
theorem ev_ci (A : Ev go σ (.ins c ns ds)) (B : EvA g1' σ es) (h : SR s (.ins c ns ds :: es) d) : Ev (gCi c s eo go g1') σ d := .mk fun k q => A _ ⟨rfl, B _ (h _ _ q)⟩
theorem ev_con {d' : D} (A : Ev ge σ (.ins c ns ds)) (h : f ∉ ns) : Ev (gCon c f d' ge) σ d' := .mk fun k q => A _ ⟨rfl, h, q⟩
end
end DL
/-! DX1 -/
set_option Elab.async false
set_option linter.all false
set_option maxRecDepth 100000
set_option maxHeartbeats 4000000
/-! x op y, x of one own class and y of another; two fors gathered. -/
namespace DL
open PySem PySem.W PySem.Calls PyProof.Rows
end DL
namespace DL
open PySem PySem.Spec PySem.Calls PyProof.Rows L2
/-! ### two fors, gathered -/
end DL
/-! DY1 -/
set_option Elab.async false
set_option linter.all false
set_option maxRecDepth 100000
set_option maxHeartbeats 4000000
/-! Dicts as data: what is read of them, new ones of lists. -/
namespace DL
open PySem PySem.Spec PyProof.Rows L2
variable [TabC]
/-! ### keys, pairs -/
def keyD : D → Option Key
  | .int i => some (.inl i)
  | .str x => some (.inr x)
  | _ => none
def kD : Key → D
  | .inl i => .int i
  | .inr x => .str x
def memK (ks : List Key) (k : Key) : Bool := ks.any fun q => decide (q = k)
def valP (l : List (Key × D)) (k : Key) : Option D := (l.find? fun p => decide (p.1 = k)).map (·.2)
def putP (l : List (Key × D)) (k : Key) (d : D) : List (Key × D) := if (l.any fun p => decide (p.1 = k)) = true then l.map (fun p => if p.1 = k then (p.1, d) else p) else l ++ [(k, d)]
def mergeP (l more : List (Key × D)) : List (Key × D) := more.foldl (fun acc p => putP acc p.1 p.2) l
/-- a dict of pairs -/
abbrev dicP (l : List (Key × D)) : D := .dic (l.map (·.1)) (l.map (·.2))
section
variable {K : Fg} {b : Option Addr} {H H' : Hp}
theorem keyD_rep {d : D} {k : Key} {v : V} (e : keyD d = some k) (r : Rep K b H d v) : v = kV k := by
  cases d with
  | int i => cases e; exact r.int
  | str x => cases e; exact r.str
  | _ => cases e
theorem rep_kD (k : Key) : Rep K b H (kD k) (kV k) := by
  cases k <;> exact rfl
inductive KR (K : Fg) (b : Option Addr) (H : Hp) : List (Key × D) → List (Key × V) → Prop
  | nil : KR K b H [] []
  | cons {k : Key} {d : D} {v : V} {l : List (Key × D)} {m : List (Key × V)} (h : Rep K b H d v) (r : KR K b H l m) : KR K b H ((k, d) :: l) ((k, v) :: m)
theorem KR.mono {l : List (Key × D)} {m : List (Key × V)} (x : Le b H H') (h : KR K b H l m) : KR K b H' l m := by
  induction h with
  | nil => exact .nil
  | cons h _ ih => exact .cons (h.mono x) ih
theorem KR.of : ∀ {ks : List Key} {ds : List D} {vs : List V}, ks.length = vs.length → Reps K b H ds vs → KR K b H (ks.zip ds) (ks.zip vs)
  | [], _, _, _, _ => by rw [List.zip_nil_left, List.zip_nil_left]; exact .nil
  | k :: ks, [], vs, l, r => by rw [r.of_nil] at l; cases l
  | k :: ks, d :: ds, vs, l, r => by
    obtain ⟨v, q, rfl, h1, h2⟩ := r.of_cons
    exact .cons h1 (KR.of (by simpa using l) h2)
theorem KR.ks {l : List (Key × D)} {m : List (Key × V)} (h : KR K b H l m) : l.map (·.1) = m.map (·.1) := by
  induction h with
  | nil => rfl
  | cons _ _ ih => rw [List.map_cons, List.map_cons, ih]
theorem KR.ds {l : List (Key × D)} {m : List (Key × V)} (h : KR K b H l m) : Reps K b H (l.map (·.2)) (m.map (·.2)) := by
  induction h with
  | nil => exact Reps.nil
  | cons h _ ih => exact Reps.cons h ih
theorem KR.len {l : List (Key × D)} {m : List (Key × V)} (h : KR K b H l m) : l.length = m.length := by
  induction h with
  | nil => rfl
  | cons _ _ ih => rw [List.length_cons, List.length_cons, ih]
theorem zip_parts {α β : Type} : ∀ m : List (α × β), (m.map (·.1)).zip (m.map (·.2)) = m
  | [] => rfl
  | p :: r => by rw [List.map_cons, List.map_cons, List.zip_cons_cons, zip_parts r]
theorem KR.any {l : List (Key × D)} {m : List (Key × V)} (h : KR K b H l m) (k : Key) : (l.any fun p => decide (p.1 = k)) = m.any fun p => decide (p.1 = k) := by
  induction h with
  | nil => rfl
  | cons _ _ ih => rw [List.any_cons, List.any_cons, ih]
theorem KR.snoc {l : List (Key × D)} {m : List (Key × V)} {k : Key} {d : D} {v : V} (h : KR K b H l m) (r : Rep K b H d v) : KR K b H (l ++ [(k, d)]) (m ++ [(k, v)]) := by
  induction h with
  | nil => exact .cons r .nil
  | cons h _ ih => exact .cons h ih
theorem KR.mapPut {l : List (Key × D)} {m : List (Key × V)} {k : Key} {d : D} {v : V} (h : KR K b H l m) (r : Rep K b H d v) : KR K b H (l.map fun p => if p.1 = k then (p.1, d) else p) (m.map fun p => if p.1 = k then (p.1, v) else p) := by
  induction h with
  | nil => exact .nil
  | @cons k' d' v' l m h _ ih =>
    rw [List.map_cons, List.map_cons]
    by_cases e : k' = k
    · rw [if_pos e, if_pos e]; exact .cons r ih
    · rw [if_neg e, if_neg e]; exact .cons h ih
theorem KR.put {l : List (Key × D)} {m : List (Key × V)} {k : Key} {d : D} {v : V} (h : KR K b H l m) (r : Rep K b H d v) : KR K b H (putP l k d) (putK m k v) := by
  unfold putP putK
  rw [h.any k]
  split
  · exact h.mapPut r
  · exact h.snoc r
theorem KR.merge {more : List (Key × D)} {ms : List (Key × V)} (h : KR K b H more ms) : ∀ {l : List (Key × D)} {m : List (Key × V)}, KR K b H l m → KR K b H (mergeP l more) (mergeK m ms) := by
  induction h with
  | nil => exact fun h => h
  | cons h _ ih => exact fun g => ih (g.put h)
theorem KR.val {l : List (Key × D)} {m : List (Key × V)} (h : KR K b H l m) (k : Key) : match valP l k with
    | some d => ∃ v, valV m k = some v ∧ Rep K b H d v
    | none => valV m k = none := by
  induction h with
  | nil => exact rfl
  | @cons k' d v l m h _ ih =>
    unfold valP valV at ih ⊢
    rw [List.find?_cons, List.find?_cons]
    by_cases e : k' = k
    · simp only [e, decide_true]
      exact ⟨v, rfl, h⟩
    · simp only [e, decide_false]
      exact ih
theorem Rep.dic {ks : List Key} {ds : List D} {v : V} (h : Rep K b H (.dic ks ds) v) : ∃ a m, v = .ref a ∧ some a ≠ b ∧ (∃ o, H a = some (.frz o (.dK m))) ∧ KR K b H (ks.zip ds) m ∧ m.map (·.1) = ks := by
  simp only [Rep] at h
  obtain ⟨a, o, vs, e, n, q, l, r⟩ := h
  refine ⟨a, _, e, n, ⟨o, q⟩, KR.of l r, ?_⟩
  rw [List.map_fst_zip (by omega)]
theorem Rep.dicF {ks : List Key} {ds : List D} {v : V} (h : Rep K b H (.frd ks ds) v) : ∃ a m, v = .ref a ∧ some a ≠ b ∧ H a = some (.dK m) ∧ KR K b H (ks.zip ds) m ∧ m.map (·.1) = ks := by
  obtain ⟨a, vs, e, n, q, l, r⟩ := h.frd
  refine ⟨a, _, e, n, q, KR.of l r, ?_⟩
  rw [List.map_fst_zip (by omega)]
theorem Rep.mkDic {l : List (Key × D)} {m : List (Key × V)} {a : Addr} {o : Obj} (n : some a ≠ b) (q : H a = some (.frz o (.dK m))) (r : KR K b H l m) : Rep K b H (dicP l) (.ref a) := by
  simp only [Rep]
  exact ⟨a, o, m.map (·.2), rfl, n, by rw [r.ks, zip_parts]; exact q, by rw [List.length_map, List.length_map, r.len], r.ds⟩
theorem rep_newD {O : List Addr} {p : Addr} {o : Obj} {l : List (Key × D)} {m : List (Key × V)} (F : Fresh b O H) (hp : H p = none) (r : KR K b (hide O H) l m) : Rep K b (hide O (upd H p (.frz o (.dK m)))) (dicP l) (.ref p) := by
  obtain ⟨n1, n2⟩ := F p hp
  rw [hide_new n1]
  exact Rep.mkDic n2 upd_same (r.mono (Le.new (by rw [hide_out n1]; exact hp)))
end
/-! ### what is read of a dict -/
def dDGet : D → D → (D → Prop) → Prop := fun x y k => match x with
  | .dic ks ds => match keyD y with
    | some ky => match valP (ks.zip ds) ky with
      | some d => k d
      | none => False
    | none => False
  | .frd ks ds => match keyD y with
    | some ky => match valP (ks.zip ds) ky with
      | some d => k d
      | none => False
    | none => False
  | _ => False
theorem dDGet_mn : ∀ x y (k k' : D → Prop), (∀ d, k d → k' d) → dDGet x y k → dDGet x y k' := fun x y k k' i q => by
  unfold dDGet at q ⊢
  cases x with
  | dic ks ds =>
    dsimp only at q ⊢
    cases e : keyD y with
    | none => rw [e] at q; exact q.elim
    | some ky =>
      rw [e] at q
      dsimp only at q ⊢
      cases e2 : valP (ks.zip ds) ky with
      | none => rw [e2] at q; exact q.elim
      | some d => rw [e2] at q; exact i _ q
  | frd ks ds =>
    dsimp only at q ⊢
    cases e : keyD y with
    | none => rw [e] at q; exact q.elim
    | some ky =>
      rw [e] at q
      dsimp only at q ⊢
      cases e2 : valP (ks.zip ds) ky with
      | none => rw [e2] at q; exact q.elim
      | some d => rw [e2] at q; exact i _ q
  | _ => exact q.elim
/-- y in x, y not in x -/
def dDIn (neg : Bool) : D → D → (D → Prop) → Prop := fun y x k => match x with
  | .dic ks _ => match keyD y with
    | some ky => k (.bl (neg ^^ memK ks ky))
    | none => False
  | .frd ks _ => match keyD y with
    | some ky => k (.bl (neg ^^ memK ks ky))
    | none => False
  | _ => False
theorem dDIn_mn {neg : Bool} : ∀ x y (k k' : D → Prop), (∀ d, k d → k' d) → dDIn neg x y k → dDIn neg x y k' := fun x y k k' i q => by
  unfold dDIn at q ⊢
  cases y with
  | dic ks ds =>
    dsimp only at q ⊢
    cases e : keyD x with
    | none => rw [e] at q; exact q.elim
    | some ky => rw [e] at q; exact i _ q
  | frd ks ds =>
    dsimp only at q ⊢
    cases e : keyD x with
    | none => rw [e] at q; exact q.elim
    | some ky => rw [e] at q; exact i _ q
  | _ => exact q.elim
theorem valV_some {m : List (Key × V)} {k : Key} : (valV m k).isSome = memK (m.map (·.1)) k := by
  rw [← valV_any]
  unfold memK
  rw [List.any_map]; rfl
section
variable {X : Cx} {b : Option Addr} {H0 : Hp} {a c e : Expr} {ga gb : GE} {pos p : Pos} {j : Nat}
theorem de_dget (hr : Room j X.A) (A : DE b H0 X a ga) (B : DT b H0 X c gb) (hs : NoSl c := by exact fun _ _ => rfl) : DE b H0 X (.Subscript a c pos) (g2 dDGet ga gb) := by
  refine ⟨pe_imp (pe_dget (by have := hr.un; omega) A.pe B.pe hs) fun σ H Q ⟨σd, O, R, q⟩ => ?_, g2_mn dDGet_mn A.mn B.mn⟩
  refine ⟨σd, O, R, A.mn _ _ _ (fun x hx v1 H1 x1 r1 => ?_) q⟩
  refine ⟨σd, O, R.mono x1, B.mn _ _ _ (fun y hy v2 H2 x2 r2 => ?_) hx⟩
  unfold dDGet at hy
  cases x with
  | dic ks ds =>
    dsimp only at hy
    cases e : keyD y with
    | none => rw [e] at hy; exact hy.elim
    | some ky =>
      rw [e] at hy
      dsimp only at hy
      obtain ⟨a, m, rfl, n, h, kr, _⟩ := (r1.mono (x2.1.hide O)).dic
      have kv := kr.val ky
      cases e2 : valP (ks.zip ds) ky with
      | none => rw [e2] at hy; exact hy.elim
      | some d =>
        rw [e2] at hy kv
        obtain ⟨v, e3, rv⟩ := kv
        exact ⟨a, v, rfl, .inl ⟨m, ky, .inr (h.imp fun o h => hide_le _ _ n h rfl), keyD_rep e r2, e3.symm⟩, hy v H2 (x1.trans x2) rv⟩
  | frd ks ds =>
    dsimp only at hy
    cases e : keyD y with
    | none => rw [e] at hy; exact hy.elim
    | some ky =>
      rw [e] at hy
      dsimp only at hy
      obtain ⟨a, m, rfl, n, h, kr, _⟩ := (r1.mono (x2.1.hide O)).dicF
      have kv := kr.val ky
      cases e2 : valP (ks.zip ds) ky with
      | none => rw [e2] at hy; exact hy.elim
      | some d =>
        rw [e2] at hy kv
        obtain ⟨v, e3, rv⟩ := kv
        exact ⟨a, v, rfl, .inl ⟨m, ky, .inl (hide_le _ _ n h rfl), keyD_rep e r2, e3.symm⟩, hy v H2 (x1.trans x2) rv⟩
  | _ => exact hy.elim
theorem din_ok {neg : Bool} {x y : D} {v w : V} {H : Hp} {Q : VK} {O : List Addr} {H1 : Hp} (x1 : Ext b H1 H) (rx : Rep X.K b H x v) (ry : Rep X.K b H y w) (q : dDIn neg x y fun d => ∀ v H', Ext b H1 H' → Rep X.K b (hide O H') d v → Q v H') : ∃ a o, w = .ref a ∧ DGet H a v o ∧ Q (.bl (neg ^^ o.isSome)) H := by
  unfold dDIn at q
  cases y with
  | dic ks ds =>
    dsimp only at q
    cases e : keyD x with
    | none => rw [e] at q; exact q.elim
    | some ky =>
      rw [e] at q
      obtain ⟨a, m, rfl, n, h, kr, hk⟩ := ry.dic
      refine ⟨a, valV m ky, rfl, .inl ⟨m, ky, .inr h, keyD_rep e rx, rfl⟩, ?_⟩
      rw [valV_some, hk]
      exact q _ H x1 rfl
  | frd ks ds =>
    dsimp only at q
    cases e : keyD x with
    | none => rw [e] at q; exact q.elim
    | some ky =>
      rw [e] at q
      obtain ⟨a, m, rfl, n, h, kr, hk⟩ := ry.dicF
      refine ⟨a, valV m ky, rfl, .inl ⟨m, ky, .inl h, keyD_rep e rx, rfl⟩, ?_⟩
      rw [valV_some, hk]
      exact q _ H x1 rfl
  | _ => exact q.elim
theorem dc_din (hr : Room j X.A) (A : DT b H0 X a ga) (B : DT b H0 X c gb) : DCm b H0 X .In a c (g2 (dDIn false) ga gb) := by
  refine ⟨?_, g2_mn dDIn_mn A.mn B.mn⟩
  refine ⟨fun pins s σ H Q I ⟨σd, O, R, q⟩ => (pc_din (by have := hr.un; omega) A.pe B.pe).run pins s σ H Q I ?_⟩
  refine ⟨σd, O, R, A.mn _ _ _ (fun x hx v1 H1 x1 r1 => ?_) q⟩
  refine ⟨σd, O, R.mono x1, B.mn _ _ _ (fun y hy v2 H2 x2 r2 => ?_) hx⟩
  obtain ⟨a, o, e1, e2, e3⟩ := din_ok (x1.trans x2) (r1.mono x2.1) r2 hy
  exact ⟨a, o, e1, e2, by rwa [Bool.false_xor] at e3⟩
/-- a new dict that nobody writes any more -/
def tFrz (t : TE) : TE := fun σ H Q => t σ H fun v H' => ∃ a kvs, v = .ref a ∧ H' a = some (.dK kvs) ∧ ∀ od, Q v (upd H' a (.frz od (.dK kvs)))
theorem pe_frz {e : Expr} {t : TE} (h : PE X e t) : PE X e (tFrz t) := ⟨fun pins s σ H Q I q => thn (h.run pins s σ H _ I q) fun v s1 ⟨x, H1, I1, r, a, kvs, _, ea, q⟩ => by
  obtain ⟨od, I2⟩ := I1.lock ea trivial
  exact ⟨x, _, I2, r, q od⟩⟩
theorem upd_upd {H : Hp} {p : Addr} {o u : HO} : upd (upd H p o) p u = upd H p u := by
  funext c
  by_cases e : c = p
  · subst e; rw [upd_same, upd_same]
  · rw [upd_ne e, upd_ne e, upd_ne e]
/-- {} -/
theorem de_dnew : DE b H0 X (.Dict [] [] pos) (gC (.dic [] [])) := ⟨pe_imp (pe_frz pe_dnewK) fun σ H Q ⟨σd, O, R, q⟩ p hp => ⟨p, [], rfl, upd_same, fun od => by
  rw [upd_upd]
  exact q _ _ (.new hp) (rep_newD (l := []) (m := []) (fun p hp => R.free hp) hp .nil)⟩, fun σ k k' h q => h _ q⟩
/-- list(d) -/
def dListD : D → (D → Prop) → Prop := fun x k => match x with | .dic ks _ => k (.lst (ks.map kD)) | .frd ks _ => k (.lst (ks.map kD)) | _ => False
theorem reps_kD {K : Fg} {H : Hp} : ∀ ks : List Key, Reps K b H (ks.map kD) (ks.map kV)
  | [] => Reps.nil
  | k :: r => Reps.cons (rep_kD k) (reps_kD r)
theorem cl_listD : Cl1 X.K b (fun xs H Q => ∃ (a : Addr) (kvs : List (Key × V)), xs = [.ref a] ∧ Rd H a (.dK kvs) ∧ ∀ p, H p = none → Q (.ref p) (upd H p (.lst (kvs.map fun kv => kV kv.1)))) dListD := by
  refine ⟨fun x k k' i q => ?_, fun O H dx x Q F r q => ?_⟩
  · cases x <;> first | exact i _ q | exact q.elim
  · cases dx with
    | dic ks ds =>
      obtain ⟨a, m, rfl, n, h, kr, hk⟩ := r.dic
      refine ⟨a, m, rfl, .inr h, fun p hp => ?_⟩
      have e : (m.map fun kv => kV kv.1) = ks.map kV := by rw [← hk, List.map_map]; rfl
      rw [e]
      exact q _ _ (.new hp) (rep_newL F hp (reps_kD ks))
    | frd ks ds =>
      obtain ⟨a, m, rfl, n, h, kr, hk⟩ := r.dicF
      refine ⟨a, m, rfl, .inl h, fun p hp => ?_⟩
      have e : (m.map fun kv => kV kv.1) = ks.map kV := by rw [← hk, List.map_map]; rfl
      rw [e]
      exact q _ _ (.new hp) (rep_newL F hp (reps_kD ks))
    | _ => exact q.elim
/-- a built-in that makes a new dict, frozen -/
structure Cl1D (K : Fg) (b : Option Addr) (r : List V → Hp → VK → Prop) (rd : D → (D → Prop) → Prop) : Prop where
  mn : ∀ x (k k' : D → Prop), (∀ d, k d → k' d) → rd x k → rd x k'
  ok : ∀ (O : List Addr) (H : Hp) (dx : D) (x : V) (Q : VK), Fresh b O H → Rep K b (hide O H) dx x → rd dx (fun d => ∀ v H', Ext b H H' → Rep K b (hide O H') d v → Q v H') → r [x] H fun v H' => ∃ a kvs, v = .ref a ∧ H' a = some (.dK kvs) ∧ ∀ od, Q v (upd H' a (.frz od (.dK kvs)))
theorem de_callTyD {id T : String} {x : Str} {r : List V → Hp → VK → Prop} {rd : D → (D → Prop) → Prop} (hc : CallR X (.type T) r) (o : Cl1D X.K b r rd) (hg : Gl X x) (hm : X.mg x = none) (hv : bootBuiltins x = some (.type T)) (A : DE b H0 X a ga) (hn : x ≠ "__name__" := by decide) (hdb : (x == ("__debug__" : Str)) = false := by decide)
    (he : starEach [a] X.env = (false, eval a X.env) :: starEach [] X.env := by rfl) : DE b H0 X (.Call (.Name x p) [a] [] pos) (g1 rd ga) :=
  ⟨pe_imp (pe_frz (pe_callTy hc hg hm hv (pa_cons A.pe pa_nil he) hn hdb he rfl)) fun σ H Q ⟨σd, O, R, q⟩ => ⟨σd, O, R, A.mn _ _ _ (fun x hx v1 H1 x1 r1 => o.ok O H1 x v1 Q (fun p hp => (R.mono x1).free hp) r1 (o.mn _ _ _ (fun d kd v H' x3 r3 => kd v H' (x1.trans x3) r3) hx)) q⟩, g1_mn o.mn A.mn⟩
/-- dict(d) -/
def dDictD : D → (D → Prop) → Prop := fun x k => match x with | .dic ks ds => k (dicP (ks.zip ds)) | _ => False
theorem cl_dictD : Cl1D X.K b (fun xs H Q => ∃ (a : Addr) (kvs : List (Key × V)), xs = [.ref a] ∧ Rd H a (.dK kvs) ∧ ∀ p, H p = none → Q (.ref p) (upd H p (.dK kvs))) dDictD := by
  refine ⟨fun x k k' i q => ?_, fun O H dx x Q F r q => ?_⟩
  · cases x <;> first | exact i _ q | exact q.elim
  · cases dx with
    | dic ks ds =>
      obtain ⟨a, m, rfl, n, h, kr, hk⟩ := r.dic
      exact ⟨a, m, rfl, .inr (h.imp fun o h => hide_le _ _ n h rfl), fun p hp => ⟨p, m, rfl, upd_same, fun od => by
        rw [upd_upd]
        exact q _ _ (.new hp) (rep_newD F hp kr)⟩⟩
    | _ => exact q.elim
end
end DL
/-! DY2 -/
set_option Elab.async false
set_option linter.all false
set_option maxRecDepth 100000
set_option maxHeartbeats 4000000
/-! Dict comprehensions; sorted texts; dict of a list of pairs. -/
namespace DL
open PySem PySem.Spec PyProof.Rows L2
variable [TabC]
section
variable {b : Option Addr} {H0 : Hp}
theorem ext_upd_newD {H1 H : Hp} {p : Addr} {o : HO} (x : Ext b H1 H) (hp : H1 p = none) (hq : ∃ xs, H p = some (.dK xs)) : Ext b H1 (upd H p o) := ⟨fun a u n h t => by rw [upd_ne (ne_of_none h hp)]; exact x.1 a u n h t, fun a e c i j m h h0 => by rw [upd_ne (ne_of_none h hp)]; exact x.2.1 a e c i j m h h0,
  fun t => by
    obtain ⟨xs, hq⟩ := hq
    exact fun p hp => tab_upd hq rfl (fun c q z => by unfold LamX.CodeO at z; cases z) (x.2.2 t p hp)⟩
/-- the owned dict at p grows: what else is read stands -/
theorem Rst.updOD {K : Fg} {σd : StD} {σ : L2.St} {H : Hp} {O : List Addr} {p : Addr} {xs : List (Key × V)} (R : Rst K b H0 σd σ H O) (hp : p ∈ O) (ne : ∀ i a, Owns (look σd i) (σ.getD i none) a → a ≠ p) (ex : ∃ ys, H p = some (.dK ys)) : Rst K b H0 σd σ (upd H p (.dK xs)) O := by
  obtain ⟨ys, ex⟩ := ex
  refine ⟨R.len, fun i => ?_, R.uniq, fun a m => ?_, by rw [hide_upd hp]; exact R.le, by rw [hide_upd hp]; exact R.bg⟩
  · have s := R.slot i
    have w := ne i
    cases e : look σd i with
    | unset => trivial
    | sh d => rw [e] at s; obtain ⟨v, e1, r⟩ := s; exact ⟨v, e1, by rw [hide_upd hp]; exact r⟩
    | own ds =>
      rw [e] at s w
      obtain ⟨a, vs, e1, m, h1, r⟩ := s
      exact ⟨a, vs, e1, m, by rw [upd_ne (w a (by rw [e1]; rfl))]; exact h1, by rw [hide_upd hp]; exact r⟩
    | owd kx ds =>
      rw [e] at s w
      obtain ⟨a, vs, e1, m, h1, r⟩ := s
      exact ⟨a, vs, e1, m, by rw [upd_ne (w a (by rw [e1]; rfl))]; exact h1, by rw [hide_upd hp]; exact r⟩
    | obj a dx c ns ds =>
      rw [e] at s w
      obtain ⟨vs, e1, m, md, h1, h2, l2, r⟩ := s
      have hdx : dx ≠ p := fun z => by rw [z, ex] at h2; cases h2
      exact ⟨vs, e1, m, md, by rw [upd_ne (w a (by rw [e1]; rfl))]; exact h1, by rw [upd_ne hdx]; exact h2, l2, by rw [hide_upd hp]; exact r⟩
  · obtain ⟨n1, n2, n3⟩ := R.nb a m
    refine ⟨n1, n2, ?_⟩
    by_cases e : a = p
    · subst e; exact ⟨_, upd_same, trivial⟩
    · obtain ⟨o, e2, n3⟩ := n3
      refine ⟨o, by rw [upd_ne e]; exact e2, ?_⟩
      cases o <;> first | exact n3 | (obtain ⟨q1, C, fs, q2⟩ := n3; exact ⟨q1, C, fs, by rw [upd_ne (fun z => by rw [z, ex] at q2; cases q2)]; exact q2⟩)
end
/-! ### {k: v for x in it if c} -/
def onK (o : Option Key) (f : Key → Prop) : Prop := match o with
  | some k => f k
  | none => False
def dcD (t : Tgt) (gt : GT) (gk gv : GE) (σ : StD) : List D → List (Key × D) → (D → Prop) → Prop
  | [], acc, k => k (dicP acc)
  | d :: r, acc, k => asg t d σ fun σ2 => gt σ2 fun c => match c with
    | true => gk σ2 fun y => gv σ2 fun z => onK (keyD y) fun ky => acc.length < 1000000 ∧ dcD t gt gk gv σ r (putP acc ky z) k
    | false => dcD t gt gk gv σ r acc k
def gDc (gi : GI) (t : Tgt) (gt : GT) (gk gv : GE) (vs : List Nat) : GE := fun σ k => gi σ fun ds => dcD t gt gk gv (wipeD σ vs) ds [] k
theorem dcD_mn {t : Tgt} {gt : GT} {gk gv : GE} {σ : StD} (T : Mn gt) (E : Mn gk) (E2 : Mn gv) : ∀ (ds : List D) (acc : List (Key × D)) (k k' : D → Prop), (∀ d, k d → k' d) → dcD t gt gk gv σ ds acc k → dcD t gt gk gv σ ds acc k'
  | [], acc, k, k', h, q => h _ q
  | d :: r, acc, k, k', h, q => asg_mn _ _ _ _ _ (fun s z => T _ _ _ (fun c w => by
    cases c
    · exact dcD_mn T E E2 r acc k k' h w
    · exact E _ _ _ (fun y v => E2 _ _ _ (fun z u => by
        cases e : keyD y with
        | none => rw [e] at u; exact u.elim
        | some ky => rw [e] at u; exact ⟨u.1, dcD_mn T E E2 r _ k k' h u.2⟩) v) w) z) q
theorem gDc_mn {gi : GI} {t : Tgt} {gt : GT} {gk gv : GE} {vs : List Nat} (I : Mn gi) (T : Mn gt) (E : Mn gk) (E2 : Mn gv) : Mn (gDc gi t gt gk gv vs) := fun σ k k' i q => I _ _ _ (fun ds z => dcD_mn T E E2 ds [] k k' i z) q
section
variable {X : Cx} {b : Option Addr} {H0 : Hp} {kx vx tg iter : Expr} {ifs : List Expr} {scope : Scope} {own : List (Str × Nat)} {pos : Pos} {gi : GI} {t : Tgt} {gt : GT} {gk gv : GE}
theorem dc_run {σ : L2.St} {H : Hp} {Q : VK} (I : Mn gi) (T : Mn gt) (E : Mn gk) (E2 : Mn gv) (hsl : ∀ j ∈ slots t, j ∈ own.map (·.2)) (h : LE X.K b H0 (gDc gi t gt gk gv (own.map (·.2))) σ H Q) :
    tFrz (tDc (LI X.K b H0 gi) (LG X.K b H0 t) (LB X.K b H0 gt) (LE X.K b H0 gk) (LE X.K b H0 gv) (own.map (·.2))) σ H Q := by
  obtain ⟨σd, O, R, q⟩ := h
  refine ⟨σd, O, R, I _ _ _ (fun ds hd J H1 x1 wk => ?_) q⟩
  intro Dd hD
  have R1 := R.mono x1
  have hDO := (R1.free hD).1
  have hDb := (R1.free hD).2
  refine ⟨fun i m H2 => m = ds.length - i ∧ i ≤ ds.length ∧ ∃ acc accv, H2 Dd = some (.dK accv) ∧ KR X.K b (hide (Dd :: O) H2) acc accv ∧ Rst X.K b H0 (wipeD σd (own.map (·.2))) (L2.wipe σ (own.map (·.2))) H2 (Dd :: O) ∧ Ext b H1 H2 ∧
    dcD t gt gk gv (wipeD σd (own.map (·.2))) (ds.drop i) acc (fun d => ∀ v H', Ext b H H' → Rep X.K b (hide O H') d v → Q v H'), ⟨ds.length, by simp, Nat.zero_le _, [], [], upd_same, .nil, ?_, .new hD, hd⟩, ?_⟩
  · exact ((R1.addO (.new hD) hD ⟨_, upd_same, trivial⟩).wipe _)
  rintro i m H2 ⟨rfl, hi, acc, accv, hacc, racc, R2, x2, q2⟩
  have x3 : Ext b (hide O H1) (hide (Dd :: O) H2) := ext_hide_new x2 hD (fun a m => ⟨(R1.nb a m).1, (R1.nb a m).2.2⟩) ⟨_, hacc, trivial⟩
  have w := wk i H2 (Dd :: O) x3 (fun p hp => R2.free hp)
  by_cases hlt : i < ds.length
  · have e : ds[i]? = some ds[i] := List.getElem?_eq_getElem hlt
    obtain ⟨go, yl⟩ := w.1 _ e
    refine .inr ⟨go, fun H' => i + 1 ≤ ds.length ∧ ∃ acc accv, H' Dd = some (.dK accv) ∧ KR X.K b (hide (Dd :: O) H') acc accv ∧ Rst X.K b H0 (wipeD σd (own.map (·.2))) (L2.wipe σ (own.map (·.2))) H' (Dd :: O) ∧ Ext b H1 H' ∧
      dcD t gt gk gv (wipeD σd (own.map (·.2))) (ds.drop (i + 1)) acc (fun d => ∀ v H', Ext b H H' → Rep X.K b (hide O H') d v → Q v H'), fun H' hN => ⟨ds.length - (i + 1), by omega, rfl, hN.1, hN.2⟩, fun y H3 hy => ?_⟩
    obtain ⟨x4, rv⟩ := yl y H3 hy
    rw [List.drop_eq_getElem_cons hlt] at q2
    refine ⟨_, Dd :: O, ds[i], R2.mono x4, rv, asg_mn _ _ _ _ _ (fun s z σ' ag R' => ?_) q2⟩
    refine ⟨wipe_agree ag hsl, s, Dd :: O, R', T _ _ _ (fun c hc H5 x5 => ?_) z⟩
    have R5 := R'.mono x5
    have x45 := x4.trans x5
    have hacc5 : H5 Dd = some (.dK accv) := x45.1 _ _ hDb hacc rfl
    have racc5 : KR X.K b (hide (Dd :: O) H5) acc accv := racc.mono (x45.1.hide _)
    cases c with
    | true =>
      refine iteT ?_
      refine ⟨s, Dd :: O, R5, E _ _ _ (fun y hy2 vk H6 x6 r6 => ?_) hc⟩
      have R6 := R5.mono x6
      refine ⟨s, Dd :: O, R6, E2 _ _ _ (fun z hz v H7 x7 r7 => ?_) hy2⟩
      have hacc7 : H7 Dd = some (.dK accv) := x7.1 _ _ hDb (x6.1 _ _ hDb hacc5 rfl) rfl
      cases ek : keyD y with
      | none => rw [ek] at hz; exact hz.elim
      | some ky =>
        rw [ek] at hz
        have hz : acc.length < 1000000 ∧ _ := hz
        refine ⟨accv, ky, keyD_rep ek r6, hacc7, by rw [← racc.len]; exact Nat.lt_of_lt_of_le hz.1 (by decide), hlt, putP acc ky z, putK accv ky v, upd_same, ?_, ?_, ?_, hz.2⟩
        · rw [hide_upd List.mem_cons_self]
          exact ((racc5.mono (x6.1.hide _)).mono (x7.1.hide _)).put r7
        · refine ((R2.mono (x45.trans (x6.trans x7))).updOD List.mem_cons_self (fun i a ow z => ?_) ⟨_, hacc7⟩)
          subst z
          have sl := ((R1.wipe (own.map (·.2))).slot i)
          cases e1 : look (wipeD σd (own.map (·.2))) i with
          | unset => rw [e1] at ow; exact ow.elim
          | sh d => rw [e1] at ow; exact ow.elim
          | own ds =>
            rw [e1] at ow sl
            obtain ⟨a', vs, e2, m, _⟩ := sl
            rw [e2] at ow
            have : a = a' := ow
            exact hDO (this ▸ m)
          | owd kx ds =>
            rw [e1] at ow sl
            obtain ⟨a', vs, e2, m, _⟩ := sl
            rw [e2] at ow
            have : a = a' := ow
            exact hDO (this ▸ m)
          | obj a' dx c ns ds =>
            rw [e1] at ow sl
            obtain ⟨vs, e2, m, _⟩ := sl
            rw [e2] at ow
            have : a = a' := ow
            exact hDO (this ▸ m)
        · exact ext_upd_newD (x2.trans (x45.trans (x6.trans x7))) hD ⟨_, hacc7⟩
    | false =>
      refine iteF ?_
      exact ⟨hlt, acc, accv, hacc5, racc5, R2.mono x45, x2.trans x45, hc⟩
  · have e : i = ds.length := by omega
    subst e
    rw [List.drop_length] at q2
    refine .inl ⟨w.2 rfl, Dd, accv, rfl, hacc, fun od => q2 _ _ (x1.trans (ext_upd_newD x2 hD ⟨_, hacc⟩)) ?_⟩
    have racc2 : KR X.K b (hide (Dd :: O) (upd H2 Dd (.frz od (.dK accv)))) acc accv := by rw [hide_upd List.mem_cons_self]; exact racc
    exact Rep.mkDic hDb (by rw [hide_out hDO]; exact upd_same) (racc2.mono (hide_mono fun a m => List.mem_cons_of_mem _ m))
theorem de_dc (hc : X.calm = true) (hN : X.N.Nodup) (I : DI b H0 X tg iter gi) (ok : BlkOk X.N X.env.scope scope own)
    (G : ∀ (s : Shared) (H : Hp) (C : Addr) (cl : List (Str × Addr)) (fp : List Addr), DG b H0 (X.blk s H scope (compEnvC scope cl C X.env) fp) tg t) (T : ∀ (s : Shared) (H : Hp) (C : Addr) (cl : List (Str × Addr)) (fp : List Addr), DTs b H0 (X.blk s H scope (compEnvC scope cl C X.env) fp) ifs gt)
    (E : ∀ (s : Shared) (H : Hp) (C : Addr) (cl : List (Str × Addr)) (fp : List Addr), DE b H0 (X.blk s H scope (compEnvC scope cl C X.env) fp) kx gk) (E2 : ∀ (s : Shared) (H : Hp) (C : Addr) (cl : List (Str × Addr)) (fp : List Addr), DE b H0 (X.blk s H scope (compEnvC scope cl C X.env) fp) vx gv)
    (hsl : ∀ j ∈ slots t, j ∈ own.map (·.2) := by decide) (hs : ∀ x, foldedSetIterable iter X.env x = pure x := by intro _; rfl) :
    DE b H0 X (.DictComp kx vx [⟨tg, iter, ifs, 0⟩] scope pos) (gDc gi t gt gk gv (own.map (·.2))) :=
  ⟨pe_imp (pe_frz (pe_dc (g := LG X.K b H0 t) (tt := LB X.K b H0 gt) (tk := LE X.K b H0 gk) (tv := LE X.K b H0 gv) hc hN I.pi ok (fun s H C cl fp => (G s H C cl fp).pg) (fun s H C cl fp => (T s H C cl fp).pts) (fun s H C cl fp => (E s H C cl fp).pe) (fun s H C cl fp => (E2 s H C cl fp).pe) hs)) fun σ H Q h =>
    dc_run I.mn (T sh0 (fun _ => none) 0 [] []).mn (E sh0 (fun _ => none) 0 [] []).mn (E2 sh0 (fun _ => none) 0 [] []).mn hsl h,
    gDc_mn I.mn (T sh0 (fun _ => none) 0 [] []).mn (E sh0 (fun _ => none) 0 [] []).mn (E2 sh0 (fun _ => none) 0 [] []).mn⟩
/-! ### sorted(texts) -/
def dSortS : D → (D → Prop) → Prop := fun x k => match x with
  | .lst ds => match strsOf ds with
    | some xs => xs.length < 64 ∧ ∀ ys, ys.Perm xs → sortedS ys = true → k (.lst (ys.map .str))
    | none => False
  | _ => False
theorem reps_strL {K : Fg} {H : Hp} : ∀ ys : List Str, Reps K b H (ys.map D.str) (ys.map V.str)
  | [] => Reps.nil
  | k :: r => Reps.cons rfl (reps_strL r)
theorem cl_sortS : Cl1 X.K b (rSortedS X.K) dSortS := by
  refine ⟨fun x k k' i q => ?_, fun O H dx x Q F r q => ?_⟩
  · cases x with
    | lst ds =>
      simp only [dSortS] at q ⊢
      cases e : strsOf ds with
      | none => rw [e] at q; exact q.elim
      | some xs => rw [e] at q; exact ⟨q.1, fun ys h1 h2 => i _ (q.2 ys h1 h2)⟩
    | _ => exact q.elim
  · cases dx with
    | lst ds =>
      simp only [dSortS] at q
      cases e : strsOf ds with
      | none => rw [e] at q; exact q.elim
      | some xs =>
        rw [e] at q
        obtain ⟨a, vs, rfl, n, h, s⟩ := r.lst
        have ev := reps_strs s e
        exact ⟨a, xs, rfl, ev ▸ h, q.1, fun ys p h1 h2 hp => q.2 ys h1 h2 _ _ (.new hp) (rep_newL F hp (reps_strL ys))⟩
    | _ => exact q.elim
end
/-! ### dict(a list of pairs) -/
def pairsK : List D → Option (List (Key × D))
  | [] => some []
  | .tup [x, y] :: r => match keyD x, pairsK r with
    | some k, some l => some ((k, y) :: l)
    | _, _ => none
  | _ => none
theorem pairs_reps {K : Fg} {b : Option Addr} {H : Hp} : ∀ {ds : List D} {vs : List V} {l : List (Key × D)}, Reps K b H ds vs → pairsK ds = some l → ∃ ps kvs, vs = ps.map V.ref ∧ (∀ p ∈ ps, some p ≠ b) ∧ Paired (fun p (kv : Key × V) => SqT K H p [kV kv.1, kv.2]) ps kvs ∧ KR K b H l kvs
  | [], _, _, h, e => by
    cases e
    exact ⟨[], [], (by rw [h.of_nil]; rfl), (fun p h => by cases h), .nil, .nil⟩
  | .tup [x, y] :: r, vs, l, h, e => by
    obtain ⟨v, q, rfl, h1, h2⟩ := h.of_cons
    simp only [pairsK] at e
    cases ek : keyD x with
    | none => rw [ek] at e; cases e
    | some k =>
      cases er : pairsK r with
      | none => rw [ek, er] at e; cases e
      | some l' =>
        rw [ek, er] at e
        cases e
        obtain ⟨ps, kvs, e1, e2, e3, e4⟩ := pairs_reps h2 er
        obtain ⟨a, us, rfl, n, hs, rs⟩ := h1.tup
        obtain ⟨u1, u2, rfl, r1, rs⟩ := rs.of_cons
        obtain ⟨u3, u4, rfl, r2, rs⟩ := rs.of_cons
        rw [rs.of_nil] at hs
        rw [keyD_rep ek r1] at hs
        exact ⟨a :: ps, (k, u3) :: kvs, (by rw [e1]; rfl), fun p hp => by
          rcases List.mem_cons.mp hp with rfl | hp
          · exact n
          · exact e2 p hp, .cons hs e3, .cons r2 e4⟩
  | .tup [] :: _, _, _, _, e => by cases e
  | .tup [_] :: _, _, _, _, e => by cases e
  | .tup (_ :: _ :: _ :: _) :: _, _, _, _, e => by cases e
  | .non :: _, _, _, _, e => by cases e
  | .bl _ :: _, _, _, _, e => by cases e
  | .int _ :: _, _, _, _, e => by cases e
  | .str _ :: _, _, _, _, e => by cases e
  | .lst _ :: _, _, _, _, e => by cases e
  | .dic _ _ :: _, _, _, _, e => by cases e
  | .ins _ _ _ :: _, _, _, _, e => by cases e
  | .bag :: _, _, _, _, e => by cases e
  | .clo _ :: _, _, _, _, e => by cases e
  | .frl _ _ :: _, _, _, _, e => by cases e
  | .frd _ _ :: _, _, _, _, e => by cases e
  | .exc _ _ _ :: _, _, _, _, e => by cases e
def dDictP : D → (D → Prop) → Prop := fun x k => match x with
  | .lst ds => match pairsK ds with
    | some l => k (dicP (mergeP [] l))
    | none => False
  | _ => False
theorem paired_imp {α β : Type} {F G : α → β → Prop} {xs : List α} {ys : List β} (h : Paired F xs ys) (i : ∀ x ∈ xs, ∀ y, F x y → G x y) : Paired G xs ys := by
  induction h with
  | nil => exact .nil
  | cons h _ ih => exact .cons (i _ List.mem_cons_self _ h) (ih fun x hx => i x (List.mem_cons_of_mem _ hx))
theorem cl_dictP {X : Cx} {b : Option Addr} : Cl1D X.K b (fun xs H Q => ∃ (a : Addr) (ps : List Addr) (kvs : List (Key × V)), xs = [.ref a] ∧ SqL X.K H a (ps.map V.ref) ∧ Paired (fun p kv => SqT X.K H p [kV kv.1, kv.2]) ps kvs ∧ ∀ p, H p = none → Q (.ref p) (upd H p (.dK (mergeK [] kvs)))) dDictP := by
  refine ⟨fun x k k' i q => ?_, fun O H dx x Q F r q => ?_⟩
  · cases x with
    | lst ds =>
      simp only [dDictP] at q ⊢
      cases e : pairsK ds with
      | none => rw [e] at q; exact q.elim
      | some l => rw [e] at q; exact i _ q
    | _ => exact q.elim
  · cases dx with
    | lst ds =>
      simp only [dDictP] at q
      cases e : pairsK ds with
      | none => rw [e] at q; exact q.elim
      | some l =>
        rw [e] at q
        obtain ⟨a, vs, rfl, n, h, rs⟩ := r.lst
        obtain ⟨ps, kvs, e1, e2, e3, e4⟩ := pairs_reps rs e
        subst e1
        exact ⟨a, ps, kvs, rfl, sqL_mono hide_le n h, paired_imp e3 fun p hp kv z => sqT_mono hide_le (e2 p hp) z, fun p hp => ⟨p, _, rfl, upd_same, fun od => by
          rw [upd_upd]
          exact q _ _ (.new hp) (rep_newD F hp (e4.merge .nil))⟩⟩
    | _ => exact q.elim
end DL
/-! DY3 -/
set_option Elab.async false
set_option linter.all false
set_option maxRecDepth 100000
set_option maxHeartbeats 4000000
/-! Walks over dicts; what the readings over dicts come to. -/
namespace DL
open PySem PySem.Spec PyProof.Rows L2
variable [TabC]
section
variable {K : Fg} {b : Option Addr}
theorem kr_get {H : Hp} : ∀ {l : List (Key × D)} {m : List (Key × V)} {i : Nat} {p : Key × D}, KR K b H l m → l[i]? = some p → ∃ v, m[i]? = some (p.1, v) ∧ Rep K b H p.2 v
  | [], _, _, _, _, e => by simp at e
  | _ :: _, _, 0, _, .cons h r, e => by
    simp at e; subst e
    exact ⟨_, rfl, h⟩
  | _ :: _, _, i + 1, _, .cons h r, e => by
    obtain ⟨v, e1, e2⟩ := kr_get r (by simpa using e)
    exact ⟨v, by simpa using e1, e2⟩
theorem map_get {α β : Type} {f : α → β} {l : List α} {i : Nat} {y : β} (e : (l.map f)[i]? = some y) : ∃ x, l[i]? = some x ∧ y = f x := by
  rw [List.getElem?_map] at e
  cases h : l[i]? with
  | none => rw [h] at e; cases e
  | some x => rw [h] at e; cases e; exact ⟨x, rfl, rfl⟩
theorem wlk_keys {O : List Addr} {H1 : Hp} {l : List (Key × D)} {m : List (Key × V)} {a : Addr} {o : Obj} (n : some a ≠ b) (h : hide O H1 a = some (.frz o (.dK m))) (r : KR K b (hide O H1) l m) : Wlk K b O (l.map fun p => kD p.1) (Itk a o m) H1 := fun i H2 O2 x F => by
  have h2 : H2 a = some (.frz o (.dK m)) := (of_hide (x.1 a _ n h rfl)).2
  refine ⟨fun d e => ?_, fun hi => ⟨h2, by rw [hi, List.length_map, r.len]; exact Nat.le_refl _⟩⟩
  obtain ⟨p, e1, rfl⟩ := map_get e
  obtain ⟨v, e2, _⟩ := kr_get r e1
  refine ⟨⟨h2, (List.getElem?_eq_some_iff.mp e2).1⟩, fun y H3 yl => ?_⟩
  obtain ⟨e3, k, v', e4, e5⟩ := yl
  subst e3
  rw [e2] at e4; cases e4
  rw [e5]
  exact ⟨.refl _, rep_kD p.1⟩
end
section
variable {X : Cx} {b : Option Addr} {H0 : Hp} {tg l e : Expr} {ge : GE} {apos cpos : Pos}
/-- what is walked over: the keys, the values, the pairs -/
def gKeys (ge : GE) : GI := fun σ k => ge σ fun d => match d with | .dic ks ds => k ((ks.zip ds).map fun p => kD p.1) | _ => False
theorem di_keys (A : DE b H0 X l ge) : DI b H0 X tg l (gKeys ge) :=
  ⟨pi_imp (pi_keys A.pe) fun σ H Q ⟨σd, O, R, q⟩ => ⟨σd, O, R, A.mn _ _ _ (fun d hd v H' x r => by
    cases d with
    | dic ks ds =>
      obtain ⟨a, m, rfl, n, ⟨o, h⟩, kr, _⟩ := r.dic
      exact ⟨a, o, rfl, .inl ⟨m, (of_hide h).2, hd _ _ x (wlk_keys n h kr)⟩⟩
    | _ => exact hd.elim) q⟩, fun σ k k' i q => A.mn _ _ _ (fun x hx => by cases x <;> first | exact i _ hx | exact hx.elim) q⟩
end
/-! ### readings -/
section
variable {σ : StD} {d x y z : D} {ds es : List D} {ga gb ge gk gv : GE} {ks : List Key} {l : List (Key × D)}
theorem zip_dic (l : List (Key × D)) : (l.map (·.1)).zip (l.map (·.2)) = l := zip_parts l
theorem o_dget {k : Key} (e : keyD y = some k) (h : valP (ks.zip ds) k = some d) : O2 dDGet (.dic ks ds) y d := .mk fun kk q => by
  show match keyD y with | some ky => _ | none => False
  rw [e]
  show match valP (ks.zip ds) k with | some d => kk d | none => False
  rw [h]; exact q
theorem o_din {k : Key} {neg : Bool} (e : keyD x = some k) : O2 (dDIn neg) x (.dic ks ds) (.bl (neg ^^ memK ks k)) := .mk fun kk q => by
  show match keyD x with | some ky => _ | none => False
  rw [e]; exact q
theorem o_listD : O1 dListD (.dic ks ds) (.lst (ks.map kD)) := .mk fun k q => q
theorem o_dictD : O1 dDictD (dicP l) (dicP l) := .mk fun k q => by
  show k (dicP ((l.map (·.1)).zip (l.map (·.2))))
  rw [zip_parts]; exact q
theorem o_dictP (e : pairsK ds = some l) : O1 dDictP (.lst ds) (dicP (mergeP [] l)) := .mk fun k q => by
  show match pairsK ds with | some l => k (dicP (mergeP [] l)) | none => False
  rw [e]; exact q
theorem evi_keys (A : Ev ge σ (dicP l)) : EvI (gKeys ge) σ (l.map fun p => kD p.1) := .mk fun k q => A _ (by
  show k (((l.map (·.1)).zip (l.map (·.2))).map fun p => kD p.1)
  rw [zip_parts]; exact q)
theorem onK_some {o : Option Key} {k : Key} {f : Key → Prop} (e : o = some k) (q : f k) : onK o f := by subst e; exact q
theorem putP_len (l : List (Key × D)) (k : Key) (d : D) : (putP l k d).length ≤ l.length + 1 := by
  unfold putP
  split
  · rw [List.length_map]; omega
  · rw [List.length_append]; exact Nat.le_refl _
/-- with a test -/
structure AEvDF (t : Tgt) (d : D) (σ : StD) (gt : GT) (gk gv : GE) (c : Bool) (k : Key) (v : D) : Prop where
  run : ∀ (kk : Key → D → Prop) (ko : Prop), (c = true → kk k v) → (c = false → ko) → asg t d σ fun σ2 => gt σ2 fun x => match x with
    | true => gk σ2 fun y => gv σ2 fun z => onK (keyD y) fun ky => kk ky z
    | false => ko
theorem dcD_mapF {α : Type} {t : Tgt} {gt : GT} {gk gv : GE} {σ : StD} (g : α → D) (f : α → Key × D) (p : α → Bool) : ∀ {l : List α} {acc : List (Key × D)} {k : D → Prop}, (∀ w ∈ l, AEvDF t (g w) σ gt gk gv (p w) (f w).1 (f w).2) → acc.length + l.length ≤ 1000000 → k (dicP (mergeP acc ((l.filter p).map f))) → dcD t gt gk gv σ (l.map g) acc k
  | [], acc, k, _, _, q => q
  | w :: r, acc, k, h, hl, q => by
    rw [List.length_cons] at hl
    have := putP_len acc (f w).1 (f w).2
    refine (h w List.mem_cons_self).run (fun ky z => acc.length < 1000000 ∧ dcD t gt gk gv σ (r.map g) (putP acc ky z) k) (dcD t gt gk gv σ (r.map g) acc k) (fun e => ⟨by omega, ?_⟩) (fun e => ?_)
    · rw [List.filter_cons_of_pos e, List.map_cons] at q
      exact dcD_mapF g f p (fun v hv => h v (List.mem_cons_of_mem _ hv)) (by omega) q
    · rw [List.filter_cons_of_neg (by rw [e]; exact Bool.false_ne_true)] at q
      exact dcD_mapF g f p (fun v hv => h v (List.mem_cons_of_mem _ hv)) (by omega) q
theorem ev_dcF {α : Type} {gi : GI} {tg : Tgt} {gt : GT} {vs : List Nat} {l : List α} {gg : α → D} {f : α → Key × D} {p : α → Bool} (I : EvI gi σ ds) (e : ds = l.map gg) (h : ∀ w ∈ l, AEvDF tg (gg w) (wipeD σ vs) gt gk gv (p w) (f w).1 (f w).2) (hl : l.length ≤ 1000000) : Ev (gDc gi tg gt gk gv vs) σ (dicP (mergeP [] ((l.filter p).map f))) := .mk fun k q => I _ (by
  subst e
  exact dcD_mapF gg f p h (by rw [List.length_nil]; omega) q)
/-! ### pairs with different keys -/
theorem put_new {l : List (Key × D)} {k : Key} {d : D} (h : memK (l.map (·.1)) k = false) : putP l k d = l ++ [(k, d)] := by
  unfold putP
  rw [if_neg]
  intro z
  have e : memK (l.map (·.1)) k = (l.any fun p => decide (p.1 = k)) := by unfold memK; rw [List.any_map]; rfl
  rw [e, z] at h
  cases h
theorem merge_nodup : ∀ {more l : List (Key × D)}, (l.map (·.1) ++ more.map (·.1)).Nodup → mergeP l more = l ++ more
  | [], l, _ => (List.append_nil l).symm
  | p :: r, l, h => by
    have hn : memK (l.map (·.1)) p.1 = false := by
      refine Bool.eq_false_iff.mpr fun z => ?_
      obtain ⟨q, hq, e⟩ := List.any_eq_true.mp z
      have e := of_decide_eq_true e
      have := List.nodup_append.mp h
      exact this.2.2 q hq p.1 (by rw [List.map_cons]; exact List.mem_cons_self) e
    show mergeP (putP l p.1 p.2) r = _
    rw [put_new hn]
    have h2 : ((l ++ [(p.1, p.2)]).map (·.1) ++ r.map (·.1)).Nodup := by
      rw [List.map_append, List.append_assoc]
      exact h
    rw [merge_nodup h2, List.append_assoc]; rfl
theorem merge_nil {l : List (Key × D)} (h : (l.map (·.1)).Nodup) : mergeP [] l = l := by
  rw [merge_nodup (by simpa using h)]; rfl
end
end DL
/-! DY4 -/
set_option Elab.async false
set_option linter.all false
set_option maxRecDepth 100000
set_option maxHeartbeats 4000000
/-! Displays of dicts; sorted(d). -/
namespace DL
open PySem PySem.Spec PyProof.Rows L2
variable [TabC]
abbrev GP := StD → (List (Key × D) → Prop) → Prop
def gPNil : GP := fun _ k => k []
def gPCons (gk gv : GE) (g : GP) : GP := fun σ k => gk σ fun y => gv σ fun z => g σ fun l => onK (keyD y) fun ky => k ((ky, z) :: l)
def gDisp (g : GP) : GE := fun σ k => g σ fun l => l.length ≤ 15 ∧ k (dicP (mergeP [] l))
section
variable {X : Cx} {b : Option Addr} {H0 : Hp} {e v : Expr} {gk gv : GE} {g : GP} {pos : Pos} {keys : List (Option Expr)} {values : List Expr}
structure DPs (b : Option Addr) (H0 : Hp) (X : Cx) (pos : Pos) (keys : List (Option Expr)) (values : List Expr) (g : GP) : Prop where
  ex : ∃ trs, PPs X pos keys values trs ∧ ∀ σ H Q, (∃ σd O, Rst X.K b H0 σd σ H O ∧ g σd fun l => ∀ (m : List (Key × V)) H', Ext b H H' → KR X.K b (hide O H') l m → Q (m.map fun kv => (kV kv.1, kv.2)) H') → tPairs trs σ H Q
  mn : Mn g
theorem onK_mn {o : Option Key} {f f' : Key → Prop} (i : ∀ k, f k → f' k) (h : onK o f) : onK o f' := by
  cases o with
  | none => exact h
  | some k => exact i k h
theorem dps_nil : DPs b H0 X pos [] [] gPNil := ⟨⟨[], pps_nil, fun σ H Q ⟨σd, O, R, q⟩ => q [] H (.refl H) .nil⟩, fun σ k k' h q => h _ q⟩
theorem dps_cons (A : DE b H0 X e gk) (B : DE b H0 X v gv) (C : DPs b H0 X pos keys values g) : DPs b H0 X pos (some e :: keys) (v :: values) (gPCons gk gv g) := by
  obtain ⟨⟨trs, pps, imp⟩, mn⟩ := C
  refine ⟨⟨_, pps_cons A.pe B.pe pps, fun σ H Q ⟨σd, O, R, q⟩ => ?_⟩, fun σ k k' i q => A.mn _ _ _ (fun y hy => B.mn _ _ _ (fun z hz => mn _ _ _ (fun l hl => onK_mn (fun ky h => i _ h) hl) hz) hy) q⟩
  refine ⟨σd, O, R, A.mn _ _ _ (fun y hy v1 H1 x1 r1 => ⟨σd, O, R.mono x1, B.mn _ _ _ (fun z hz v2 H2 x2 r2 => imp _ _ _ ⟨σd, O, R.mono (x1.trans x2), mn _ _ _ (fun l hl m H3 x3 kr => ?_) hz⟩) hy⟩) q⟩
  cases ek : keyD y with
  | none => rw [ek] at hl; exact hl.elim
  | some ky =>
    rw [ek] at hl
    have z := hl ((ky, v2) :: m) H3 (x1.trans (x2.trans x3)) (.cons (r2.mono (x3.1.hide O)) kr)
    rw [keyD_rep ek r1]
    exact z
theorem de_disp (C : DPs b H0 X pos keys values g) (hall : keys.all (·.isSome) = true := by rfl) (hl : keys.length = values.length := by rfl) (h0 : keys ≠ [] := by exact List.cons_ne_nil _ _) (h15 : keys.length ≤ 15 := by decide) : DE b H0 X (.Dict keys values pos) (gDisp g) := by
  obtain ⟨⟨trs, pps, imp⟩, mn⟩ := C
  refine ⟨pe_imp (pe_frz (pe_disp pps hall hl h0 h15)) fun σ H Q ⟨σd, O, R, q⟩ p hp => ?_, fun σ k k' i q => mn _ _ _ (fun l z => ⟨z.1, i _ z.2⟩) q⟩
  have hpO := (R.free hp).1
  have hpb := (R.free hp).2
  refine imp _ _ _ ⟨σd, p :: O, R.addO (.new hp) hp ⟨_, upd_same, trivial⟩, mn _ _ _ (fun l z m H2 x2 kr => ?_) q⟩
  have hd : H2 p = some (.dK []) := x2.1 p _ hpb upd_same rfl
  refine ⟨hd, m, rfl, by rw [← kr.len]; exact z.1, p, _, rfl, upd_same, fun od => ?_⟩
  rw [upd_upd]
  refine z.2 _ _ (ext_upd_newD ((Ext.new hp).trans x2) hp ⟨_, hd⟩) ?_
  have kr2 : KR X.K b (hide (p :: O) (upd H2 p (.frz od (.dK (mergeK [] m))))) (mergeP [] l) (mergeK [] m) := by rw [hide_upd List.mem_cons_self]; exact kr.merge .nil
  exact Rep.mkDic hpb (by rw [hide_out hpO]; exact upd_same) (kr2.mono (hide_mono fun a m => List.mem_cons_of_mem _ m))
/-! ### sorted(d) -/
end
section
variable {σ : StD} {d x y z : D} {ge gk gv : GE} {g : GP} {l : List (Key × D)} {k : Key}
structure EvPr (g : GP) (σ : StD) (l : List (Key × D)) : Prop where
  run : ∀ k : List (Key × D) → Prop, k l → g σ k
theorem evpr_nil : EvPr gPNil σ [] := .mk fun _ q => q
theorem evpr_cons (e : keyD x = some k) (A : Ev gk σ x) (B : Ev gv σ d) (C : EvPr g σ l) : EvPr (gPCons gk gv g) σ ((k, d) :: l) := .mk fun kk q => A _ (B _ (C.run _ (onK_some e q)))
theorem ev_disp (A : EvPr g σ l) (h : l.length ≤ 15) : Ev (gDisp g) σ (dicP (mergeP [] l)) := .mk fun k q => A.run _ ⟨h, q⟩
/-! ### what is sorted -/
theorem c_sortS {xs : List Str} {k : D → Prop} (h : xs.length < 64) (q : ∀ ys : List Str, ys.Perm xs → sortedS ys = true → Stp (k (.lst (ys.map .str)))) : Stp (dSortS (.lst (xs.map .str)) k) := ⟨by
  have e : strsOf (xs.map D.str) = some xs := by
    clear h q
    induction xs with
    | nil => rfl
    | cons x r ih =>
      show (match strsOf (r.map D.str) with | some q => some (x :: q) | none => none) = _
      rw [ih]
  show match strsOf (xs.map D.str) with | some xs => xs.length < 64 ∧ ∀ ys : List Str, ys.Perm xs → sortedS ys = true → k (.lst (ys.map .str)) | none => False
  rw [e]
  exact ⟨h, fun ys h1 h2 => (q ys h1 h2).run⟩⟩
end
end DL
/-! DY5 -/
set_option Elab.async false
set_option linter.all false
set_option maxRecDepth 100000
set_option maxHeartbeats 4000000
/-! A dict that the frame owns: made, written, given away; += on a number. -/
namespace DL
open PySem PySem.Spec PyProof.Rows L2
variable [TabC]
section
variable {K : Fg} {b : Option Addr} {H0 H : Hp} {σd : StD} {σ : L2.St} {O : List Addr}
/-- a new dict, the frame's own -/
theorem Rst.setOD (R : Rst K b H0 σd σ H O) {l9 : List (Key × D)} {m9 : List (Key × V)} {p : Addr} (i : Nat) (hp : H p = none) (r : KR K b (hide O H) l9 m9) : Rst K b H0 (put σd i (.owd (l9.map (·.1)) (l9.map (·.2)))) (σ.set i (some (.ref p))) (upd H p (.dK m9)) (p :: O) where
  len := by rw [put_length, List.length_set]; exact R.len
  slot := fun j => by
    rw [look_put2, getD_set, R.len]
    by_cases h : j = i ∧ i < σ.length
    · rw [if_pos h, if_pos h]
      exact ⟨p, m9.map (·.2), rfl, List.mem_cons_self, (by rw [r.ks, zip_parts]; exact upd_same), (by rw [hide_newO hp]; exact r.ds)⟩
    · rw [if_neg h, if_neg h]
      have s := R.slot j
      cases e : look σd j with
      | unset => trivial
      | sh d =>
        rw [e] at s
        obtain ⟨v, e1, r1⟩ := s
        exact ⟨v, e1, by rw [hide_newO hp]; exact r1⟩
      | own es =>
        rw [e] at s
        obtain ⟨a, us, e1, m, h1, r1⟩ := s
        exact ⟨a, us, e1, List.mem_cons_of_mem _ m, by rw [upd_ne (ne_of_none h1 hp)]; exact h1, by rw [hide_newO hp]; exact r1⟩
      | owd kx es =>
        rw [e] at s
        obtain ⟨a, us, e1, m, h1, r1⟩ := s
        exact ⟨a, us, e1, List.mem_cons_of_mem _ m, by rw [upd_ne (ne_of_none h1 hp)]; exact h1, by rw [hide_newO hp]; exact r1⟩
      | obj a dx c ns es =>
        rw [e] at s
        obtain ⟨us, e1, m, md, h1, h2, l, r1⟩ := s
        exact ⟨us, e1, List.mem_cons_of_mem _ m, List.mem_cons_of_mem _ md, by rw [upd_ne (ne_of_none h1 hp)]; exact h1, by rw [upd_ne (ne_of_none h2 hp)]; exact h2, l, by rw [hide_newO hp]; exact r1⟩
  uniq := fun j k a h1 h2 => by
    rw [look_put2, getD_set, R.len] at h1 h2
    have np : ∀ {k}, Owns (look σd k) (σ.getD k none) p → False := fun {k} z => (R.free hp).1 (owns_in z (R.slot k))
    by_cases hj : j = i ∧ i < σ.length
    · rw [if_pos hj, if_pos hj] at h1
      have h1 : a = p := h1
      subst h1
      by_cases hk : k = i ∧ i < σ.length
      · rw [hj.1, hk.1]
      · rw [if_neg hk, if_neg hk] at h2
        exact (np h2).elim
    · rw [if_neg hj, if_neg hj] at h1
      by_cases hk : k = i ∧ i < σ.length
      · rw [if_pos hk, if_pos hk] at h2
        have h2 : a = p := h2
        subst h2
        exact (np h1).elim
      · rw [if_neg hk, if_neg hk] at h2
        exact R.uniq j k a h1 h2
  nb := fun a m => by
    rcases List.mem_cons.mp m with e | m
    · subst e
      exact ⟨(R.free hp).2, trivial, .dK m9, upd_same, trivial⟩
    · obtain ⟨n1, _, o, e, q⟩ := R.nb a m
      refine ⟨n1, trivial, o, by rw [upd_ne (ne_of_none e hp)]; exact e, ?_⟩
      cases o with
      | lst _ => trivial
      | dK _ => trivial
      | ins _ dx _ => exact List.mem_cons_of_mem _ q
      | own x =>
        obtain ⟨q1, C, fs, q2⟩ := q
        exact ⟨List.mem_cons_of_mem _ q1, C, fs, by rw [upd_ne (ne_of_none q2 hp)]; exact q2⟩
      | _ => exact q.elim
  le := by rw [hide_newO hp]; exact R.le
  bg := by rw [hide_newO hp]; exact R.bg
/-- the dict of the slot i is written -/
theorem Rst.wrOD (R : Rst K b H0 σd σ H O) {ks0 : List Key} {ds0 : List D} {m0 : List (Key × V)} {l9 : List (Key × D)} {m9 : List (Key × V)} {a : Addr} {i : Nat} (hi : look σd i = .owd ks0 ds0) (hs : σ.getD i none = some (.ref a)) (ha : H a = some (.dK m0)) (hm : a ∈ O) (r : KR K b (hide O H) l9 m9) : Rst K b H0 (put σd i (.owd (l9.map (·.1)) (l9.map (·.2)))) σ (upd H a (.dK m9)) O where
  len := by rw [put_length]; exact R.len
  slot := fun j => by
    rw [look_put2]
    by_cases h : j = i ∧ i < σd.length
    · rw [if_pos h, h.1, hs]
      exact ⟨a, m9.map (·.2), rfl, hm, (by rw [r.ks, zip_parts]; exact upd_same), (by rw [hide_upd hm]; exact r.ds)⟩
    · rw [if_neg h]
      have s := R.slot j
      have oi : Owns (look σd i) (σ.getD i none) a := by rw [hi, hs]; exact rfl
      have li : i < σd.length := by
        rcases Nat.lt_or_ge i σd.length with z | z
        · exact z
        · rw [look_out z] at hi; cases hi
      have ne : ∀ c, Owns (look σd j) (σ.getD j none) c → c ≠ a := fun c z w => h ⟨R.uniq j i a (by rw [← w]; exact z) oi, li⟩
      cases e : look σd j with
      | unset => trivial
      | sh d =>
        rw [e] at s
        obtain ⟨v, e1, r1⟩ := s
        exact ⟨v, e1, by rw [hide_upd hm]; exact r1⟩
      | own fs =>
        rw [e] at s
        obtain ⟨c, ws, e1, m, h1, r1⟩ := s
        exact ⟨c, ws, e1, m, by rw [upd_ne (ne c (by rw [e, e1]; exact rfl))]; exact h1, by rw [hide_upd hm]; exact r1⟩
      | owd kx fs =>
        rw [e] at s
        obtain ⟨c, ws, e1, m, h1, r1⟩ := s
        exact ⟨c, ws, e1, m, by rw [upd_ne (ne c (by rw [e, e1]; exact rfl))]; exact h1, by rw [hide_upd hm]; exact r1⟩
      | obj c dx n ns fs =>
        rw [e] at s
        obtain ⟨ws, e1, m, md, h1, h2, l, r1⟩ := s
        exact ⟨ws, e1, m, md, by rw [upd_ne (ne_of h1 ha (by simp))]; exact h1, by rw [upd_ne (ne_of h2 ha (by simp))]; exact h2, l, by rw [hide_upd hm]; exact r1⟩
  uniq := fun j k c h1 h2 => by
    have key : ∀ {j}, Owns (look (put σd i (.owd (l9.map (·.1)) (l9.map (·.2)))) j) (σ.getD j none) c → Owns (look σd j) (σ.getD j none) c := fun {j} z => by
      rw [look_put2] at z
      by_cases h : j = i ∧ i < σd.length
      · rw [if_pos h] at z
        rw [h.1, hs] at z
        rw [h.1, hi, hs]; exact z
      · rw [if_neg h] at z; exact z
    exact R.uniq j k c (key h1) (key h2)
  nb := fun c m => by
    obtain ⟨n1, _, o, e, q⟩ := R.nb c m
    by_cases hc : c = a
    · subst hc
      exact ⟨n1, trivial, .dK m9, upd_same, trivial⟩
    · refine ⟨n1, trivial, o, by rw [upd_ne hc]; exact e, ?_⟩
      cases o with
      | lst _ => trivial
      | dK _ => trivial
      | ins _ dx _ => exact q
      | own x =>
        obtain ⟨q1, C, fs, q2⟩ := q
        exact ⟨q1, C, fs, by rw [upd_ne (ne_of q2 ha (by simp))]; exact q2⟩
      | _ => exact q.elim
  le := by rw [hide_upd hm]; exact R.le
  bg := by rw [hide_upd hm]; exact R.bg
end
section
variable {b : Option Addr} {H0 : Hp}
/-- the dict of the slot i is frozen and shared -/
theorem Rst.frzD {K : Fg} {σd : StD} {σ : L2.St} {H : Hp} {O : List Addr} (R : Rst K b H0 σd σ H O) (hd : ∀ c C dx fs, H c = some (.ins C dx fs) → H dx = some (.own c)) {ks9 : List Key} {ds : List D} {vs : List V} {i : Nat} {a : Addr} (hk : ks9.length = ds.length) (hi : look σd i = .owd ks9 ds) (hs : σ.getD i none = some (.ref a)) (hm : a ∈ O) (ha : H a = some (.dK (ks9.zip vs))) (r : Reps K b (hide O H) ds vs) (od : Obj) :
    Rst K b H0 (put σd i (.sh (.dic ks9 ds))) σ (upd H a (.frz od (.dK (ks9.zip vs)))) (O.filter fun c => c ≠ a) := by
  have sub : ∀ c ∈ O.filter (fun c => c ≠ a), c ∈ O := fun c m => (List.mem_filter.mp m).1
  have mem : ∀ {c}, c ∈ O → c ≠ a → c ∈ O.filter (fun c => c ≠ a) := fun m n => List.mem_filter.mpr ⟨m, decide_eq_true n⟩
  have na : a ∉ O.filter (fun c => c ≠ a) := fun z => by simpa using (List.mem_filter.mp z).2
  have xx : Ext b (hide O H) (hide (O.filter (fun c => c ≠ a)) (upd H a (.frz od (.dK (ks9.zip vs))))) := .all fun c o e => by
    obtain ⟨h1, h2⟩ := of_hide e
    rw [hide_out (fun z => h1 (sub c z)), upd_ne (fun z => h1 (by rw [z]; exact hm))]; exact h2
  have li : i < σd.length := by
    rcases Nat.lt_or_ge i σd.length with z | z
    · exact z
    · rw [look_out z] at hi; cases hi
  have oi : Owns (look σd i) (σ.getD i none) a := by rw [hi, hs]; exact rfl
  refine ⟨by rw [put_length]; exact R.len, fun j => ?_, fun j k c h1 h2 => ?_, fun c m => ?_, R.le.trans xx, R.bg.ext xx⟩
  · rw [look_put2]
    by_cases h : j = i ∧ i < σd.length
    · rw [if_pos h, h.1]
      refine ⟨.ref a, hs, ?_⟩
      simp only [Rep]
      exact ⟨a, od, vs, rfl, (R.nb a hm).1, (by rw [hide_out na, upd_same]), (by rw [hk, r.length]), r.mono xx.1⟩
    · rw [if_neg h]
      have s := R.slot j
      have ne : ∀ c, Owns (look σd j) (σ.getD j none) c → c ≠ a := fun c z w => h ⟨R.uniq j i a (by rw [← w]; exact z) oi, li⟩
      cases e : look σd j with
      | unset => trivial
      | sh d =>
        rw [e] at s
        obtain ⟨v, e1, r1⟩ := s
        exact ⟨v, e1, r1.mono xx.1⟩
      | own fs =>
        rw [e] at s
        obtain ⟨c, ws, e1, m, h1, r1⟩ := s
        have nc := ne c (by rw [e, e1]; exact rfl)
        exact ⟨c, ws, e1, mem m nc, by rw [upd_ne nc]; exact h1, r1.mono xx.1⟩
      | owd kx fs =>
        rw [e] at s
        obtain ⟨c, ws, e1, m, h1, r1⟩ := s
        have nc := ne c (by rw [e, e1]; exact rfl)
        exact ⟨c, ws, e1, mem m nc, by rw [upd_ne nc]; exact h1, r1.mono xx.1⟩
      | obj c dx n ns fs =>
        rw [e] at s
        obtain ⟨ws, e1, m, md, h1, h2, l, r1⟩ := s
        have n1 := ne_of h1 ha (by simp)
        have n2 := ne_of h2 ha (by simp)
        exact ⟨ws, e1, mem m n1, mem md n2, by rw [upd_ne n1]; exact h1, by rw [upd_ne n2]; exact h2, l, r1.mono xx.1⟩
  · have key : ∀ {j}, Owns (look (put σd i (.sh (.dic ks9 ds))) j) (σ.getD j none) c → Owns (look σd j) (σ.getD j none) c := fun {j} z => by
      rw [look_put2] at z
      by_cases h : j = i ∧ i < σd.length
      · rw [if_pos h] at z
        cases e : σ.getD j none <;> rw [e] at z <;> exact z.elim
      · rw [if_neg h] at z; exact z
    exact R.uniq j k c (key h1) (key h2)
  · have mo := sub c m
    have nca : c ≠ a := fun z => na (z ▸ m)
    obtain ⟨n1, _, o, e, q⟩ := R.nb c mo
    refine ⟨n1, trivial, o, by rw [upd_ne nca]; exact e, ?_⟩
    cases o with
    | lst _ => trivial
    | dK _ => trivial
    | ins C dx fs =>
      have q : dx ∈ O := q
      exact mem q (ne_of (hd _ _ _ _ e) ha (by simp))
    | own x =>
      obtain ⟨q1, C, fs, q2⟩ := q
      have nx := ne_of q2 ha (by simp)
      exact ⟨mem q1 nx, C, fs, by rw [upd_ne nx]; exact q2⟩
    | _ => exact q.elim
end
section
variable {X : Cx} {b : Option Addr} {H0 : Hp} {pos pos' tpos : Pos} {e ke : Expr} {ge gk gv : GE} {x : Str} {i j : Nat} {sts : List Stmt} {g : GSt}
/-- x[k] = v, x the frame's own -/
def gDPut (i : Nat) (gk gv : GE) : GSt := fun D σ => match look σ i with
  | .owd ks ds => gv σ fun z => gk σ fun y => onK (keyD y) fun ky => ks.length = ds.length ∧ ks.length < 100000 ∧ D.nx (put σ i (.owd ((putP (ks.zip ds) ky z).map (·.1)) ((putP (ks.zip ds) ky z).map (·.2))))
  | _ => False
theorem gDPut_mn (A : Mn gk) (B : Mn gv) : MnD (gDPut i gk gv) := fun D D' σ h1 _ _ _ q => by
  unfold gDPut at q ⊢
  cases e : look σ i with
  | owd ks ds =>
    rw [e] at q
    exact B _ _ _ (fun z hz => A _ _ _ (fun y hy => onK_mn (fun ky h => ⟨h.1, h.2.1, h1 _ h.2.2⟩) hy) hz) q
  | _ => rw [e] at q; exact q.elim
theorem ds_dput {p : Pos} (hr : Room j X.A) (hN : X.N[i]? = some x) (hv : Vis X.env.scope x) (A : DE b H0 X ke gk) (B : DE b H0 X e gv) (hs : swapsWith e (some (.Subscript (.Name x p) ke pos')) pos.line X.env = pure false := by rfl) (hd : (x == ("__debug__" : Str)) = false := by decide) (hcd : (x == ("__classdict__" : Str)) = false := by decide) :
    DS b H0 X (.Assign [.Subscript (.Name x p) ke pos'] e pos) (gDPut i gk gv) :=
  ⟨ps_imp (ps_dput (by have := hr.un; omega) (pe_var hN hv hd hcd) A.pe B.pe hs) fun D σ H ⟨σd, O, R, q⟩ => by
    unfold gDPut at q
    cases hl : look σd i with
    | owd ks ds =>
      rw [hl] at q
      refine ⟨σd, O, R, B.mn _ _ _ (fun z hz v H1 x1 r1 => ?_) q⟩
      have R1 := R.mono x1
      have s := R1.slot i
      rw [hl] at s
      obtain ⟨a, vs, e1, m, h1, _⟩ := s
      refine ⟨.ref a, getD_some e1, σd, O, R1, A.mn _ _ _ (fun y hy w H2 x2 r2 => ?_) hz⟩
      have R2 := R1.mono x2
      have s := R2.slot i
      rw [hl, e1] at s
      obtain ⟨a', vs', e2, m', h2, rr⟩ := s
      cases e2
      cases ek : keyD y with
      | none => rw [ek] at hy; exact hy.elim
      | some ky =>
        rw [ek] at hy
        obtain ⟨l1, l2, k9⟩ := hy
        have lv : ks.length = vs'.length := by rw [l1, rr.length]
        refine ⟨a, _, rfl, .inl ⟨_, ky, h2, keyD_rep ek r2, by rw [List.length_zip]; exact Nat.lt_of_le_of_lt (Nat.min_le_left _ _) (Nat.lt_of_lt_of_le l2 (by decide)), rfl⟩, ?_⟩
        refine k9 _ _ _ (R2.wrOD hl e1 h2 m' ((KR.of lv rr).put (r1.mono (x2.1.hide O)))) ?_
        rw [hide_upd m']
        exact R.hx (x1.trans x2)
    | _ => rw [hl] at q; exact q.elim, gDPut_mn A.mn B.mn⟩
/-- from here on the dict of the slot i is shared, and nobody writes it -/
def gPubD (i : Nat) (g : GSt) : GSt := fun D σ => match look σ i with
  | .owd ks ds => ks.length = ds.length ∧ g D (put σ i (.sh (.dic ks ds)))
  | _ => False
theorem gPubD_mn (A : MnD g) : MnD (gPubD i g) := fun D D' σ h1 h2 h3 h4 q => by
  unfold gPubD at q ⊢
  cases e : look σ i with
  | owd ks ds => rw [e] at q; exact ⟨q.1, A _ _ _ h1 h2 h3 h4 q.2⟩
  | _ => rw [e] at q; exact q.elim
theorem dss_pubD (i : Nat) (A : DSs b H0 X sts g) : DSs b H0 X sts (gPubD i g) := ⟨⟨fun pins s σ H D I ⟨σd, O, R, q⟩ => by
  unfold gPubD at q
  cases e : look σd i with
  | owd ks ds =>
    rw [e] at q
    have s9 := R.slot i
    rw [e] at s9
    obtain ⟨a, vs, hs, hm, ha, r⟩ := s9
    have hd : ∀ c C dx fs, H c = some (.ins C dx fs) → H dx = some (.own c) := fun c C dx fs z => by
      have := I.hok c _ z
      exact this.1
    obtain ⟨od, I2⟩ := I.lock ha trivial
    have R' := R.frzD hd q.1 e hs hm ha r od
    refine A.ps.run pins s σ _ D I2 ?_
    have xx : Ext b (hide O H) (hide (O.filter (fun c => c ≠ a)) (upd H a (.frz od (.dK (ks.zip vs))))) := .all fun c o e => by
      obtain ⟨h1, h2⟩ := of_hide e
      rw [hide_out (fun z => h1 (List.mem_filter.mp z).1), upd_ne (fun z => h1 (by rw [z]; exact hm))]; exact h2
    exact ⟨_, _, R', A.mn (dn X.K b H0 (hide O H) D) _ _ (fun _ w _ _ _ R3 x3 => w _ _ _ R3 (xx.trans x3)) (fun _ w => w) (fun _ w _ _ _ R3 x3 => w _ _ _ R3 (xx.trans x3)) (fun _ w _ _ _ R3 x3 => w _ _ _ R3 (xx.trans x3)) q.2⟩
  | _ => rw [e] at q; exact q.elim⟩, gPubD_mn A.mn⟩
end
end DL
/-! DR1 -/
set_option Elab.async false
set_option linter.all false
set_option maxRecDepth 100000
set_option maxHeartbeats 4000000
/-! fractions as rational numbers; sorted texts -/
namespace DL
open PySem PySem.Spec PyProof.Rows L2
variable [TabC]
/-- sizes of a fraction -/
def QZ (n : Nat) (x : Rat) : Prop := Sz n x.num ∧ Sz n (x.den : Int)
theorem QZ.mono {n m : Nat} {x : Rat} (h : QZ n x) (g : n ≤ m) : QZ m x := ⟨h.1.mono g, h.2.mono g⟩
theorem qz_div {n : Nat} {a b : Int} (ha : Sz n a) (hb : Sz n b) (h0 : b ≠ 0) : QZ n (Rat.divInt a b) := by
  constructor
  · unfold Sz at *
    rw [Rat.num_divInt]
    have h1 : (b.sign * a).natAbs = a.natAbs := by
      rw [Int.natAbs_mul, Int.natAbs_sign]
      rw [if_neg h0, Nat.one_mul]
    refine Nat.lt_of_le_of_lt (?_ : _ ≤ a.natAbs) ha
    rw [← h1]
    exact Int.natAbs_ediv_le_natAbs _ _
  · unfold Sz at *
    rw [Rat.den_divInt, if_neg h0, Int.natAbs_natCast]
    exact Nat.lt_of_le_of_lt (Nat.div_le_self _ _) hb
theorem den_ne (x : Rat) : (x.den : Int) ≠ 0 := by have := x.den_pos; omega
theorem add_div (x y : Rat) : Rat.divInt (x.num * y.den + y.num * x.den) (x.den * y.den) = x + y := by
  rw [Rat.add_def', show ((x.den : Int) * (y.den : Int)) = ((x.den * y.den : Nat) : Int) from (Int.natCast_mul _ _).symm, Rat.divInt_ofNat]
theorem mul_div (x y : Rat) : Rat.divInt (x.num * y.num) (x.den * y.den) = x * y := by
  rw [Rat.mul_def', show ((x.den : Int) * (y.den : Int)) = ((x.den * y.den : Nat) : Int) from (Int.natCast_mul _ _).symm, Rat.divInt_ofNat]
theorem QZ.add {n m : Nat} {x y : Rat} (h : QZ n x) (g : QZ m y) : QZ (n + m + 1) (x + y) := by
  rw [← add_div]
  refine qz_div ((h.1.mul g.2).add ((g.1.mul h.2).mono (by omega))) ((h.2.mul g.2).mono (by omega)) (Int.mul_ne_zero (den_ne _) (den_ne _))
theorem QZ.mul {n m : Nat} {x y : Rat} (h : QZ n x) (g : QZ m y) : QZ (n + m) (x * y) := by
  rw [← mul_div]
  exact qz_div (h.1.mul g.1) (h.2.mul g.2) (Int.mul_ne_zero (den_ne _) (den_ne _))
theorem QZ.neg {n : Nat} {x : Rat} (h : QZ n x) : QZ n (-x) := ⟨h.1.neg, h.2⟩
theorem QZ.sub {n m : Nat} {x y : Rat} (h : QZ n x) (g : QZ m y) : QZ (n + m + 1) (x - y) := by
  rw [Rat.sub_eq_add_neg]; exact h.add g.neg
theorem QZ.int {n : Nat} {i : Int} (h : Sz n i) (h1 : 1 ≤ n) : QZ n (i : Rat) := ⟨h, (show Sz 1 (((i : Rat).den : Nat) : Int) from (show Sz 1 1 from szW (by decide))).mono h1⟩
theorem q_zero {x : Rat} : ([x.num, (x.den : Int)] == [0, 1]) = decide (x = 0) := by
  by_cases h : x = 0
  · subst h; rfl
  · rw [decide_eq_false h]
    have : x.num ≠ 0 := fun e => h (Rat.num_eq_zero.mp e)
    exact beq_eq_false_iff_ne.mpr (fun e => this (List.cons.inj e).1)
theorem q_eq {x y : Rat} : ([x.num, (x.den : Int)] == [y.num, (y.den : Int)]) = decide (x = y) := by
  by_cases h : x = y
  · subst h; rw [decide_eq_true rfl]; exact beq_self_eq_true _
  · rw [decide_eq_false h]
    exact beq_eq_false_iff_ne.mpr (fun e => h (Rat.ext (List.cons.inj e).1 (by have := (List.cons.inj (List.cons.inj e).2).1; omega)))
def sumQ (l : List Rat) : Rat := l.foldl (· + ·) 0
theorem foldQ (l : List Rat) : ∀ a : Rat, l.foldl (· + ·) a = a + sumQ l := by
  induction l with
  | nil => intro a; exact (Rat.add_zero a).symm
  | cons x r ih =>
    intro a
    unfold sumQ
    rw [List.foldl_cons, List.foldl_cons, ih, ih (0 + x), Rat.zero_add, Rat.add_assoc]
theorem sumQ_cons (x : Rat) (l : List Rat) : sumQ (x :: l) = x + sumQ l := by
  unfold sumQ
  rw [List.foldl_cons, Rat.zero_add, foldQ]
  rfl
/-! sorted texts -/
def leS (a b : Str) : Bool := !ltCps b.cps.toList a.cps.toList
theorem leS_trans (a b c : Str) (h : leS a b = true) (g : leS b c = true) : leS a c = true := by
  unfold leS at *
  rw [ltCps_eq] at *
  simp only [Bool.not_eq_true', decide_eq_false_iff_not, List.not_lt] at *
  exact List.le_trans h g
theorem leS_total (a b : Str) : (leS a b || leS b a) = true := by
  unfold leS
  rw [ltCps_eq, ltCps_eq]
  simp only [Bool.or_eq_true, Bool.not_eq_true', decide_eq_false_iff_not, List.not_lt]
  exact List.le_total _ _
theorem leS_anti {a b : Str} (h : leS a b = true) (g : leS b a = true) : a = b := by
  unfold leS at *
  rw [ltCps_eq] at *
  simp only [Bool.not_eq_true', decide_eq_false_iff_not, List.not_lt] at *
  have e := List.le_antisymm h g
  have e2 : a.cps = b.cps := Array.toList_inj.mp e
  cases a; cases b; cases e2; rfl
theorem rising_pw : ∀ {l : List Str} {p : Str}, risingS p l = true → (p :: l).Pairwise (fun a b => leS a b = true)
  | [], p, _ => List.pairwise_singleton _ _
  | x :: r, p, h => by
    have h : (leS p x && risingS x r) = true := h
    rw [Bool.and_eq_true] at h
    have ih := rising_pw (l := r) h.2
    refine List.pairwise_cons.mpr ⟨fun y hy => ?_, ih⟩
    rcases List.mem_cons.mp hy with rfl | hy
    · exact h.1
    · exact leS_trans _ _ _ h.1 (List.rel_of_pairwise_cons ih hy)
theorem sorted_pw {l : List Str} (h : sortedS l = true) : l.Pairwise (fun a b => leS a b = true) := by
  cases l with
  | nil => exact .nil
  | cons x r => exact rising_pw h
def sortStr (l : List Str) : List Str := l.mergeSort leS
theorem sortStr_perm (l : List Str) : (sortStr l).Perm l := List.mergeSort_perm l leS
theorem sortStr_pw (l : List Str) : (sortStr l).Pairwise (fun a b => leS a b = true) := List.pairwise_mergeSort (le := leS) leS_trans leS_total l
theorem sort_uniq {l m : List Str} (p : l.Perm m) (h : l.Pairwise (fun a b => leS a b = true)) (g : m.Pairwise (fun a b => leS a b = true)) : l = m :=
  List.Perm.eq_of_pairwise (fun a b _ _ x y => leS_anti x y) h g p
theorem sort_eq {l m : List Str} (p : l.Perm m) (h : sortedS l = true) : l = sortStr m := sort_uniq (p.trans (sortStr_perm m).symm) (sorted_pw h) (sortStr_pw m)
theorem sort_mem {l : List Str} {x : Str} : x ∈ sortStr l ↔ x ∈ l := (sortStr_perm l).mem_iff
theorem sort_len (l : List Str) : (sortStr l).length = l.length := (sortStr_perm l).length_eq
theorem sort_self {l : List Str} (h : l.Pairwise (fun a b => leS a b = true)) : sortStr l = l := sort_uniq (sortStr_perm l) (sortStr_pw l) h
theorem o_sortS {xs : List Str} (h : xs.length < 64) : O1 dSortS (.lst (xs.map .str)) (.lst ((sortStr xs).map .str)) := .mk fun k q => (c_sortS h fun ys p s => ⟨by rw [sort_eq p s]; exact q⟩).run
end DL
/-! DR2 -/
set_option Elab.async false
set_option linter.all false
set_option maxRecDepth 100000
set_option maxHeartbeats 4000000
/-! dicts whose keys are texts -/
namespace DL
open PySem PySem.Spec PyProof.Rows L2
variable [TabC]
/-- a dict of texts -/
def ksS (l : List (Str × D)) : List (Key × D) := l.map fun p => ((.inr p.1 : Key), p.2)
abbrev dicS (l : List (Str × D)) : D := dicP (ksS l)
theorem ksS_keys (l : List (Str × D)) : (ksS l).map (·.1) = (l.map (·.1)).map fun n => (.inr n : Key) := by
  unfold ksS
  rw [List.map_map, List.map_map]; rfl
theorem O1.eq {rd : D → (D → Prop) → Prop} {x y z : D} (h : O1 rd x y) (e : y = z) : O1 rd x z := e ▸ h
theorem O2.eq {rd : D → D → (D → Prop) → Prop} {x y z w : D} (h : O2 rd x y z) (e : z = w) : O2 rd x y w := e ▸ h
theorem SR.eq {s : GS} {ds : List D} {d d' : D} (h : SR s ds d) (e : d = d') : SR s ds d' := e ▸ h
/-- what a dict holds at a name -/
def valS (l : List (Str × D)) (n : Str) : D := match l.find? (fun p => decide (p.1 = n)) with | some p => p.2 | none => .non
theorem valP_S {l : List (Str × D)} {n : Str} (h : n ∈ l.map (·.1)) : valP (ksS l) (.inr n) = some (valS l n) := by
  unfold valP valS ksS
  rw [List.find?_map]
  have e : ((fun p : Key × D => decide (p.1 = (.inr n : Key))) ∘ fun p : Str × D => ((.inr p.1 : Key), p.2)) = fun p => decide (p.1 = n) := by
    funext p
    by_cases c : p.1 = n
    · simp [c]
    · simp [c]
  rw [e]
  cases h2 : l.find? (fun p => decide (p.1 = n)) with
  | some p => rfl
  | none =>
    obtain ⟨p, hp, rfl⟩ := List.mem_map.mp h
    have := List.find?_eq_none.mp h2 p hp
    simp at this
theorem valS_mem {l : List (Str × D)} {n : Str} (h : n ∈ l.map (·.1)) : (n, valS l n) ∈ l := by
  unfold valS
  cases h2 : l.find? (fun p => decide (p.1 = n)) with
  | some p =>
    have a := List.mem_of_find?_eq_some h2
    have b := List.find?_some h2
    have b : p.1 = n := by simpa using b
    subst b
    exact a
  | none =>
    obtain ⟨p, hp, rfl⟩ := List.mem_map.mp h
    have := List.find?_eq_none.mp h2 p hp
    simp at this
theorem memK_S {l : List (Str × D)} {n : Str} : memK ((ksS l).map (·.1)) (.inr n) = decide (n ∈ l.map (·.1)) := by
  rw [ksS_keys]
  unfold memK
  rw [Bool.eq_iff_iff]
  simp only [List.any_eq_true, decide_eq_true_eq, List.mem_map]
  constructor
  · rintro ⟨k, ⟨m, hm, rfl⟩, e⟩
    cases e
    exact hm
  · rintro hm
    exact ⟨_, ⟨n, hm, rfl⟩, rfl⟩
theorem o_dgetS {l : List (Str × D)} {n : Str} {d : D} (h : n ∈ l.map (·.1)) (e : valS l n = d) : O2 dDGet (dicS l) (.str n) d := o_dget (k := .inr n) rfl (by rw [zip_dic, valP_S h, e])
theorem o_dinS {l : List (Str × D)} {n : Str} {neg : Bool} : O2 (dDIn neg) (.str n) (dicS l) (.bl (neg ^^ decide (n ∈ l.map (·.1)))) := (o_din (k := .inr n) rfl).eq (by rw [memK_S])
theorem o_listS {l : List (Str × D)} : O1 dListD (dicS l) (.lst ((l.map (·.1)).map .str)) := o_listD.eq (by rw [ksS_keys, List.map_map]; rfl)
theorem evi_keysS {ge : GE} {σ : StD} {l : List (Str × D)} (A : Ev ge σ (dicS l)) : EvI (gKeys ge) σ (l.map fun p => .str p.1) := by
  have := evi_keys A
  unfold ksS at this
  rwa [List.map_map] at this
theorem nodup_S {l : List (Str × D)} (h : (l.map (·.1)).Nodup) : ((ksS l).map (·.1)).Nodup := by
  rw [ksS_keys]
  exact List.Pairwise.map _ (fun a b z e => z (by cases e; rfl)) h
theorem merge_S {l : List (Str × D)} (h : (l.map (·.1)).Nodup) : mergeP [] (ksS l) = ksS l := merge_nil (nodup_S h)
theorem ksS_app (l m : List (Str × D)) : ksS (l ++ m) = ksS l ++ ksS m := List.map_append
theorem put_S {l : List (Str × D)} {n : Str} {d : D} (h : n ∉ l.map (·.1)) : putP (ksS l) (.inr n) d = ksS (l ++ [(n, d)]) := by
  rw [put_new (by rw [memK_S]; exact decide_eq_false h), ksS_app]; rfl
theorem pairsK_S (l : List (Str × D)) : pairsK (l.map fun p => .tup [.str p.1, p.2]) = some (ksS l) := by
  induction l with
  | nil => rfl
  | cons p r ih =>
    rw [List.map_cons]
    show (match keyD (.str p.1), pairsK (r.map fun p => .tup [.str p.1, p.2]) with | some k, some l => some ((k, p.2) :: l) | _, _ => none) = _
    rw [ih]; rfl
theorem o_dictS {l : List (Str × D)} : O1 dDictD (dicS l) (dicS l) := o_dictD
theorem o_dictPS {l : List (Str × D)} (h : (l.map (·.1)).Nodup) : O1 dDictP (.lst (l.map fun p => .tup [.str p.1, p.2])) (dicS l) := by
  have := o_dictP (pairsK_S l)
  rwa [merge_S h] at this
section
variable {σ : StD} {gi : GI} {tg : Tgt} {gt : GT} {gk gv ge : GE} {ds : List D} {vs : List Nat}
theorem ev_dcFS {α : Type} {l : List α} {gg : α → D} {f : α → Str × D} {p : α → Bool} (I : EvI gi σ ds) (e : ds = l.map gg) (h : ∀ w ∈ l, AEvDF tg (gg w) (wipeD σ vs) gt gk gv (p w) (.inr (f w).1) (f w).2) (hl : l.length ≤ 1000000) (hn : (l.map fun w => (f w).1).Nodup) : Ev (gDc gi tg gt gk gv vs) σ (dicS ((l.filter p).map f)) := by
  have := ev_dcF (f := fun w => ((.inr (f w).1 : Key), (f w).2)) (p := p) I e h hl
  have e2 : ((l.filter p).map fun w => ((.inr (f w).1 : Key), (f w).2)) = ksS ((l.filter p).map f) := by unfold ksS; rw [List.map_map]; rfl
  rwa [e2, merge_S (by rw [List.map_map]; exact hn.sublist ((List.filter_sublist).map _))] at this
theorem aevdFS {i : Nat} {n : Str} {c : Bool} {d v : D} (T : EvT gt (put σ i (.sh d)) c) (A : c = true → Ev gk (put σ i (.sh d)) (.str n)) (B : c = true → Ev gv (put σ i (.sh d)) v) : AEvDF (.nm i) d σ gt gk gv c (.inr n) v := .mk fun kk ko q1 q2 => T _ (by
  cases c with
  | true => exact A rfl _ (B rfl _ (q1 rfl))
  | false => exact q2 rfl)
/-- a walk whose relation knows what was passed -/
theorem forS_pre {α : Type} {tg : Tgt} {gb : GSt} {f : α → D} (R : List α → StD → Prop) {D' : EndD} {l : List α}
    (h : ∀ (pre : List α) (x : α) (suf : List α), l = pre ++ x :: suf → ∀ (σ : StD) (D2 : EndD), R pre σ → (∀ σ', R (pre ++ [x]) σ' → D2.nx σ') → D2.rt = D'.rt → Stp (asg tg (f x) σ fun σ2 => gb D2 σ2)) :
    ∀ (suf pre : List α), l = pre ++ suf → ∀ σ : StD, R pre σ → (∀ σ', R l σ' → Stp (D'.nx σ')) → Stp (forD tg gb (suf.map f) D' σ)
  | [], pre, e, σ, r, q => ⟨(q σ (by rw [e, List.append_nil]; exact r)).run⟩
  | x :: suf, pre, e, σ, r, q => ⟨by
    show asg tg (f x) σ fun σ2 => gb { nx := fun σ' => forD tg gb (suf.map f) D' σ', rt := D'.rt, bk := D'.nx, ct := fun σ' => forD tg gb (suf.map f) D' σ' } σ2
    refine (h pre x suf e σ { nx := fun σ' => forD tg gb (suf.map f) D' σ', rt := D'.rt, bk := D'.nx, ct := fun σ' => forD tg gb (suf.map f) D' σ' } r (fun σ' r' => ?_) rfl).run
    exact (forS_pre R h suf (pre ++ [x]) (by rw [e, List.append_assoc]; rfl) σ' r' q).run⟩
theorem forS_at {α : Type} {tg : Tgt} {gb : GSt} {f : α → D} (R : List α → StD → Prop) {D' : EndD} {l : List α} {σ : StD}
    (h : ∀ (pre : List α) (x : α) (suf : List α), l = pre ++ x :: suf → ∀ (σ : StD) (D2 : EndD), R pre σ → (∀ σ', R (pre ++ [x]) σ' → D2.nx σ') → D2.rt = D'.rt → Stp (asg tg (f x) σ fun σ2 => gb D2 σ2))
    (r : R [] σ) (q : ∀ σ', R l σ' → Stp (D'.nx σ')) : Stp (forD tg gb (l.map f) D' σ) := forS_pre R h l [] rfl σ r q
theorem s_slf {c : Str} {ns0 : List Str} {f : Str} {ge : GE} {a dx : Addr} {ds : List D} {d : D} {σ : StD} {v : GSt} {D' : EndD} (A : Ev ge (.obj a dx c ns0 ds :: σ) d) (r : Stp (v D' (.obj a dx c (ns0 ++ [f]) (ds ++ [d]) :: σ))) : Stp (gSeq (gSelf 0 c ns0 f ge) v D' (.obj a dx c ns0 ds :: σ)) := ⟨A _ ⟨rfl, rfl, r.run⟩⟩
theorem s_slfL {c : Str} {ns0 : List Str} {f : Str} {ge : GE} {a dx : Addr} {ds : List D} {d : D} {σ : StD} {D' : EndD} (A : Ev ge (.obj a dx c ns0 ds :: σ) d) (r : Stp (D'.nx (.obj a dx c (ns0 ++ [f]) (ds ++ [d]) :: σ))) : Stp (gSelf 0 c ns0 f ge D' (.obj a dx c ns0 ds :: σ)) := ⟨A _ ⟨rfl, rfl, r.run⟩⟩
/-! ### dicts that the frame owns -/
abbrev owS (l : List (Str × D)) : SD := .owd ((ksS l).map (·.1)) ((ksS l).map (·.2))
theorem dput_S {i : Nat} {D' : EndD} {τ : StD} {l : List (Str × D)} {n : Str} {z : D} (hl : look σ i = owS l) (A : Ev gk σ (.str n)) (B : Ev gv σ z) (h : n ∉ l.map (·.1)) (h2 : l.length < 100000) (p : Pt σ i (owS (l ++ [(n, z)])) τ) (r : Stp (D'.nx τ)) : Stp (gDPut i gk gv D' σ) := ⟨by
  show match look σ i with
  | .owd ks ds => gv σ fun z => gk σ fun y => onK (keyD y) fun ky => ks.length = ds.length ∧ ks.length < 100000 ∧ D'.nx (put σ i (.owd ((putP (ks.zip ds) ky z).map (·.1)) ((putP (ks.zip ds) ky z).map (·.2))))
  | _ => False
  rw [hl]
  refine B _ (A _ (onK_some (k := .inr n) rfl ⟨by rw [List.length_map, List.length_map], by rw [List.length_map]; unfold ksS; rw [List.length_map]; exact h2, ?_⟩))
  rw [zip_dic, put_S h]
  have e := p.eq
  rw [show put σ i (.owd ((ksS (l ++ [(n, z)])).map (·.1)) ((ksS (l ++ [(n, z)])).map (·.2))) = τ from e]
  exact r.run⟩
theorem s_dputS {i : Nat} {v : GSt} {D' : EndD} {τ : StD} {l : List (Str × D)} {n : Str} {z : D} (hl : look σ i = owS l) (A : Ev gk σ (.str n)) (B : Ev gv σ z) (h : n ∉ l.map (·.1)) (h2 : l.length < 100000) (p : Pt σ i (owS (l ++ [(n, z)])) τ) (r : Stp (v D' τ)) : Stp (gSeq (gDPut i gk gv) v D' σ) := ⟨(dput_S (D' := { nx := v D', rt := D'.rt, bk := D'.bk, ct := D'.ct }) hl A B h h2 p ⟨r.run⟩).run⟩
theorem s_pubD {i : Nat} {g : GSt} {D' : EndD} {τ : StD} {l : List (Str × D)} (hl : look σ i = owS l) (p : Pt σ i (.sh (dicS l)) τ) (r : Stp (g D' τ)) : Stp (gPubD i g D' σ) := ⟨by
  show match look σ i with
  | .owd ks ds => ks.length = ds.length ∧ g D' (put σ i (.sh (.dic ks ds)))
  | _ => False
  rw [hl]
  refine ⟨by rw [List.length_map, List.length_map], ?_⟩
  have e := p.eq
  rw [show put σ i (.sh (.dic ((ksS l).map (·.1)) ((ksS l).map (·.2)))) = τ from e]
  exact r.run⟩
end
section
variable {b : Option Addr} {H0 : Hp} {X : Cx}
theorem DB.or {e : Expr} {g1 g2 : GT} (h1 : DB b H0 X e g1) (h2 : DB b H0 X e g2) : DB b H0 X e (fun σ k => g1 σ k ∨ g2 σ k) := ⟨⟨fun pins s σ H Q I ⟨σd, O, R, q⟩ => by
  rcases q with q | q
  · exact h1.pt.run pins s σ H Q I ⟨σd, O, R, q⟩
  · exact h2.pt.run pins s σ H Q I ⟨σd, O, R, q⟩⟩, fun σ k k' i q => q.imp (h1.mn _ _ _ i) (h2.mn _ _ _ i)⟩
end
theorem ev_absB {g : GE} {σ : StD} (h : False) : Ev g σ (.bl false) := h.elim
theorem evt_orL {g1 g2 : GT} {σ : StD} {c : Bool} (h : EvT g1 σ c) : EvT (fun σ k => g1 σ k ∨ g2 σ k) σ c := .mk fun k q => .inl (h k q)
theorem evt_orR {g1 g2 : GT} {σ : StD} {c : Bool} (h : EvT g2 σ c) : EvT (fun σ k => g1 σ k ∨ g2 σ k) σ c := .mk fun k q => .inr (h k q)
end DL
/-! DR3 -/
set_option Elab.async false
set_option linter.all false
set_option maxRecDepth 100000
set_option maxHeartbeats 4000000
/-! a dict == {} -/
namespace DL
open PySem PySem.Spec PyProof.Rows L2
end DL
/-! DR4 -/
set_option Elab.async false
set_option linter.all false
set_option maxRecDepth 100000
set_option maxHeartbeats 4000000
/-! try: return CALL, except X: return None. -/
namespace DL
open PySem PySem.Spec PyProof.Rows L2
end DL
/-! DR5 -/
set_option Elab.async false
set_option linter.all false
set_option maxRecDepth 100000
set_option maxHeartbeats 4000000
/-! Tables of the module, tuples of the module, in a locked list, three targets at once. -/
namespace DL
open PySem PySem.Spec PyProof.Rows L2
/-! ### a dict of the module: texts to numbers -/
/-! ### readings -/
end DL
namespace DL
open PySem PySem.Spec PyProof.Rows L2
end DL
/-! DR6 -/
set_option Elab.async false
set_option linter.all false
set_option maxRecDepth 100000
set_option maxHeartbeats 4000000
/-! Three names at once, none of them owned. -/
namespace DL
open PySem PySem.Spec PyProof.Rows L2
end DL
/-! DR7 -/
set_option Elab.async false
set_option linter.all false
set_option maxRecDepth 100000
set_option maxHeartbeats 4000000
/-! == of dicts whose values have an __eq__ of their own. -/
namespace PySem.W
open Lean Elab Tactic Meta PySem PySem.Calls PyProof.Rows PyProof.V PySem.Spec
section
variable {prog : Program} {w : World} {K : Type} [DecidableEq K] {knd : KeyKind prog w K} {A : Around} {E : Value → Shared → Prop} {s : Shared} {St : Shared → Prop}
/-- an equality that may run code: what St tells stays -/
def EqI (prog : Program) (w : World) (A : Around) (E : Value → Shared → Prop) (St : Shared → Prop) (y x : Value) (b : Bool) : Prop := ∀ (s : Shared) (Q : Bool → Shared → Prop), St s → (∀ s', St s' → Q b s') → wpAny (model prog w) A (eqBool y x) Q E s
inductive KeqHitsI {K : Type} [DecidableEq K] (prog : Program) (w : World) (A : Around) (E : Value → Shared → Prop) (St : Shared → Prop) (kb : List (K × Value)) : List (K × Value) → Bool → Prop
  | nil : KeqHitsI prog w A E St kb [] true
  | miss {k : K} {v : Value} {r : List (K × Value)} : valueAt kb k = none → KeqHitsI prog w A E St kb ((k, v) :: r) false
  | hit {k : K} {v y : Value} {r : List (K × Value)} {e b : Bool} : valueAt kb k = some y → EqI prog w A E St v y e → KeqHitsI prog w A E St kb r b → KeqHitsI prog w A E St kb ((k, v) :: r) (e && b)
theorem KeqHitsI.inv {kb : List (K × Value)} {k : K} {v : Value} {r : List (K × Value)} {b : Bool} (h : KeqHitsI prog w A E St kb ((k, v) :: r) b) :
    (valueAt kb k = none ∧ b = false) ∨ ∃ y e b', valueAt kb k = some y ∧ EqI prog w A E St v y e ∧ KeqHitsI prog w A E St kb r b' ∧ b = (e && b') := by
  cases h with
  | miss hn => exact .inl ⟨hn, rfl⟩
  | hit hy he hr => exact .inr ⟨_, _, _, hy, he, hr, rfl⟩
theorem samePairsI {nm : String} {a b : Addr} {ka kb : List (K × Value)} {r : Bool} {Q : Bool → Shared → Prop} (ha : (a == sysModules) = false) (hb : (b == sysModules) = false)
    (da : s.heap.DictOf knd a ka) (db : s.heap.DictOf knd b kb) (h0 : St s) (hst : ∀ s' oa ob, St s' → s.heap.get? a = some oa → s.heap.get? b = some ob → s'.heap.get? a = some oa ∧ s'.heap.get? b = some ob)
    (hits : ka.length = kb.length → KeqHitsI prog w A E St kb ka r) (h : ∀ s', St s' → Q (ka.length == kb.length && r) s') :
    wpAny (model prog w) A (Builtin.Dict.samePairs nm a b) Q E s := by
  obtain ⟨oa, es, ep, hoa, _, hda, hka, hpa, _⟩ := da
  obtain ⟨ob, es', ep', hob, _, hdb, hkb, hpb, _⟩ := db
  have hla : ka.length = es.size := by rw [← hpa.length]; exact Array.length_toList
  have hlb : kb.length = es'.size := by rw [← hpb.length]; exact Array.length_toList
  have hfind : ∀ k, findBy knd.is es' k = valueAt kb k := fun k => by
    rw [← hpb.find k]
    clear hlb hpb hkb hdb hob
    obtain ⟨l⟩ := es'
    simp [findBy]
  rw [hla, hlb] at h
  unfold Builtin.Dict.samePairs Builtin.Dict.showsAll
  rw [if_neg (show ¬ (a == sysModules) = true by rw [ha]; exact Bool.false_ne_true), if_neg (show ¬ (b == sysModules) = true by rw [hb]; exact Bool.false_ne_true)]
  refine wpAny_bind (wpAny_pure (wpAny_bind (wpAny_pure ?_)))
  refine wpAny_bind (wpAny_dictEntries hoa hda ?_)
  dsimp only
  refine wpAny_bind (wpAny_dictEntries hob hdb ?_)
  by_cases hsz : es.size = es'.size
  case neg =>
    rw [if_pos (by simpa using hsz)]
    have hbf : (es.size == es'.size) = false := by simpa using hsz
    rw [hbf, Bool.false_and] at h
    exact wpAny_bind (wpAny_rule (wpAny_pure (h _ h0)))
  case pos =>
    have h' : ∀ s', St s' → Q r s' := by simpa [hsz] using h
    have hits' := hits (by rw [hla, hlb]; exact hsz)
    rw [if_neg (by rw [hsz]; simp)]
    refine wpAny_bind (wpAny_dictEpoch hoa hda ?_)
    refine wpAny_bind ?_
    rw [Std.Legacy.Range.forIn_eq_forIn_range']
    simp only [Std.Legacy.Range.size, Nat.sub_zero, Nat.add_sub_cancel, Nat.div_one]
    refine wpAny_forIn_list _
      (fun rest q s' => St s' ∧ q = (none, ()) ∧ ∃ i, rest = List.range' i (es.size - i) ∧ i ≤ es.size ∧ KeqHitsI prog w A E St kb (ka.drop i) r)
      _ ?_ ?_ _ _ ⟨h0, rfl, 0, by simp, Nat.zero_le _, hits'⟩
    · rintro x rest q s' ⟨hS, rfl, i, hr, hi, hpre⟩
      obtain ⟨hoa', hob'⟩ := hst s' oa ob hS hoa hob
      have hlt : i < es.size := by
        rcases Nat.lt_or_ge i es.size with h | h
        · exact h
        · rw [Nat.sub_eq_zero_of_le h] at hr; simp at hr
      obtain ⟨rfl, hrest⟩ : x = i ∧ rest = List.range' (i + 1) (es.size - (i + 1)) := by
        have e : es.size - i = (es.size - (i + 1)) + 1 := by omega
        rw [e, List.range'_succ] at hr
        injection hr with h1 h2
        exact ⟨h1, h2⟩
      refine wpAny_bind (wpAny_dictEntries hoa' hda ?_)
      rw [Array.getElem?_eq_getElem hlt]
      have hlt' : x < ka.length := by rw [hla]; exact hlt
      obtain ⟨k, v, hkv⟩ : ∃ k v, ka[x] = (k, v) := ⟨_, _, rfl⟩
      have hdrop : ka.drop x = (k, v) :: ka.drop (x + 1) := by rw [← hkv]; exact List.drop_eq_getElem_cons hlt'
      obtain ⟨hkey, hval⟩ := hpa.get? (i := x) (e := es[x]) (k := k) (v := v) (by rw [Array.getElem?_toList]; exact Array.getElem?_eq_getElem hlt) (by rw [List.getElem?_eq_getElem hlt', hkv])
      obtain ⟨k', hk', hh⟩ := hka es[x] (Array.getElem_mem hlt)
      have ekk : k' = k := knd.inj _ _ _ hk' hkey
      rw [ekk] at hh
      rw [hdrop] at hpre
      show wpAny _ _ (holding [es[x].key, es[x].val] _ >>= _) _ _ _
      rw [hh]
      refine wpAny_bind (wpAny_holding (wpAny_bind (wpAny_dictFind_of hkey hob' hdb hkb ?_)))
      cases hj : es'.findIdx? fun e => knd.is k e.key with
      | none =>
        have hn : valueAt kb k = none := by rw [← hfind k, findBy_of_findIdx?, hj]
        rcases hpre.inv with ⟨_, er⟩ | ⟨y, _, _, hy, _⟩
        · rw [er] at h'
          refine wpAny_pure ?_
          show wpAny _ _ (if (!false) = true then _ else _) _ _ _
          rw [if_pos (by decide)]
          exact wpAny_pure (wpAny_pure (h' _ hS))
        · rw [hn] at hy; exact nomatch hy
      | some j =>
        obtain ⟨hjlt, _, _⟩ := Array.findIdx?_eq_some_iff_getElem.mp hj
        have hv' : valueAt kb k = some es'[j].val := by
          rw [← hfind k, findBy_of_findIdx?, hj]
          simp [Array.getElem?_eq_getElem hjlt]
        refine wpAny_bind (wpAny_dictEntries hob' hdb ?_)
        rw [Array.getElem?_eq_getElem hjlt]
        rcases hpre.inv with ⟨hn, _⟩ | ⟨y, e, b', hy, he, hrr, er⟩
        · rw [hv'] at hn; exact nomatch hn
        · have ey : es'[j].val = y := Option.some.inj (hv'.symm.trans hy)
          rw [← ey, ← hval] at he
          refine wpAny_holding (he _ _ hS fun s2 hS2 => ?_)
          obtain ⟨hoa2, hob2⟩ := hst s2 oa ob hS2 hoa hob
          cases e with
          | false =>
            rw [er, Bool.false_and] at h'
            show wpAny _ _ (if (!false) = true then _ else _) _ _ _
            rw [if_pos (by decide)]
            exact wpAny_pure (wpAny_pure (h' _ hS2))
          | true =>
            rw [Bool.true_and] at er
            rw [← er] at hrr
            show wpAny _ _ (if (!true) = true then _ else _) _ _ _
            rw [if_neg (by decide)]
            refine wpAny_bind (wpAny_dictEpoch hoa2 hda ?_)
            rw [if_neg (by simp)]
            exact wpAny_pure ⟨hS2, rfl, x + 1, hrest, hlt, hrr⟩
    · rintro q s' ⟨hS, rfl, i, hr, hi, hpre⟩
      have hin : i = es.size := by
        rcases Nat.lt_or_ge i es.size with h | h
        · have e : es.size - i = (es.size - (i + 1)) + 1 := by omega
          rw [e, List.range'_succ] at hr; exact nomatch hr
        · exact Nat.le_antisymm hi h
      refine wpAny_pure ?_
      rw [hin, ← hla, List.drop_length] at hpre
      cases hpre
      exact h' _ hS
theorem dicts_eqI {a b : Addr} {ka kb : List (K × Value)} {r : Bool} {Q : Value → Shared → Prop} (ha : (a == sysModules) = false) (hb : (b == sysModules) = false)
    (da : s.heap.DictOf knd a ka) (db : s.heap.DictOf knd b kb) (hu : A.units < cLine) (h0 : St s) (hst : ∀ s' oa ob, St s' → s.heap.get? a = some oa → s.heap.get? b = some ob → s'.heap.get? a = some oa ∧ s'.heap.get? b = some ob)
    (hits : ka.length = kb.length → KeqHitsI prog w A.in1 E St kb ka r) (h : ∀ s', St s' → Q (.bool (ka.length == kb.length && r)) s') : wpAny (model prog w) A (richCompare .Eq (.ref a) (.ref b)) Q E s := by
  refine wpAny_richCompare_same_room (op := .Eq) da.typeIs db.typeIs PySem.F.slot_dict_eq (wpAny_call_entry PySem.F.slot_dict_eq da.typeIs PySem.F.entry_dict_eq ?_ (PySem.F.args_dict_eq_2 _ _)) hu
  show wpAny _ _ (Builtin.Dict.dictSlotArgs "__eq__" ⟨[.ref a, .ref b], []⟩ >>= _) _ _ s
  refine wpAny_bind ?_
  unfold Builtin.Dict.dictSlotArgs
  refine wpAny_bind (wpAny_notOrdered_dict da.typeIs ?_)
  show wpAny _ _ (pure (Value.ref a, Value.ref b)) _ _ s
  refine wpAny_pure ?_
  refine wpAny_bind (wpAny_isInstance (T := "dict") db.typeIs PySem.F.sub_dict_dict ?_)
  simp only [Bool.not_true, Bool.false_eq_true, if_false]
  refine wpAny_bind (wpAny_pure (wpAny_bind (wpAny_pure ?_)))
  refine wpAny_bind (samePairsI ha hb da db h0 hst hits fun s' hs' => ?_)
  refine wpAny_pure ⟨_, rfl, ?_, ?_⟩
  · exact fun x => nomatch x
  · simpa using h s' hs'
end
end PySem.W
namespace DL
open PySem PySem.Spec PyProof.Rows L2
variable [TabC]
section
variable {X : Cx} {b : Option Addr} {H0 : Hp} {E : XK} {eo : XD → Prop} {s : GS} {k : Nat} {f : Addr} {fd : FuncData} {ps : List Str} {c : Str} {p pos : Pos} {a e : Expr} {ga gb : GE} {cls : List Str}
/-- the values of one dict against those of another -/
def eqDR (eqv : D → D → Bool) (l l2 : List (Key × D)) : Bool := l.all fun p => match valP l2 p.1 with | some y => eqv p.2 y | none => false
/-- an own object whose fields are numbers -/
def OwnFlat (c : Str) (fns : List Str) (d : D) : Prop := ∃ is : List Int, d = .ins c fns (is.map D.int) ∧ fns.length = is.length
def EqvOk (s : GS) (eo : XD → Prop) (eqv : D → D → Bool) (ds es : List D) : Prop := ∀ u ∈ ds, ∀ v ∈ es, s [u, v] (fun d => d = .bl (eqv u v)) eo ∧ (u = v → eqv u v = true)
def gEqDO (c : Str) (s : GS) (eo : XD → Prop) (ga gb : GE) : GE := fun σ k => ga σ fun x => gb σ fun y => match x, y with
  | .dic ks ds, .dic ls es => ∃ (fns : List Str) (eqv : D → D → Bool), (∀ d ∈ ds, OwnFlat c fns d) ∧ (∀ d ∈ es, OwnFlat c fns d) ∧ EqvOk s eo eqv ds es ∧ k (.bl (ks.length == ls.length && eqDR eqv (ks.zip ds) (ls.zip es)))
  | _, _ => False
theorem gEqDO_mn (A : Mn ga) (B : Mn gb) : Mn (gEqDO c s eo ga gb) := fun σ k k' i q => A _ _ _ (fun x z => B _ _ _ (fun y w => by
  cases x with
  | dic ks ds => cases y with
    | dic ls es =>
      obtain ⟨fns, eqv, h1, h2, h3, h4⟩ := w
      exact ⟨fns, eqv, h1, h2, h3, i _ h4⟩
    | _ => exact w.elim
  | _ => exact w.elim) z) q
theorem rep_flat {K : Fg} {H : Hp} {fns : List Str} {d : D} {v : V} (r : Rep K b H d v) (h : OwnFlat c fns d) : ∃ (q dx : Addr) (is : List Int), v = .ref q ∧ some q ≠ b ∧ H q = some (.ins (He.ga K c) dx (fns.zip (is.map V.int))) ∧ d = .ins c fns (is.map D.int) ∧ fns.length = is.length := by
  obtain ⟨is, rfl, l⟩ := h
  obtain ⟨q, dx, vs, e, n, h, _, rr⟩ := r.ins
  have ev := reps_ints rr (intsOf_map is)
  subst ev
  exact ⟨q, dx, is, e, n, h, rfl, l⟩
theorem flat_same {K : Fg} {H : Hp} {fns : List Str} {d d2 : D} {q : Addr} (r : Rep K b H d (.ref q)) (r2 : Rep K b H d2 (.ref q)) (h : OwnFlat c fns d) (h2 : OwnFlat c fns d2) : d = d2 := by
  obtain ⟨q1, dx, is, e, _, g, rfl, l⟩ := rep_flat r h
  obtain ⟨q2, dx2, is2, e2, _, g2, rfl, l2⟩ := rep_flat r2 h2
  cases e; cases e2
  rw [g] at g2
  have : fns.zip (is.map V.int) = fns.zip (is2.map V.int) := by injection g2 with g2; injection g2
  have e3 := congrArg (List.map Prod.snd) this
  rw [List.map_snd_zip (by rw [List.length_map]; omega), List.map_snd_zip (by rw [List.length_map]; omega)] at e3
  have : is = is2 := by
    have inj : Function.Injective V.int := fun a b h => by injection h
    exact (List.map_inj_right (fun a b h => inj h)).mp e3
  rw [this]
theorem eqI_own {pins : List (Addr × Obj)} {σ : L2.St} {σd : StD} {O : List Addr} {H2 : Hp} {fns : List Str} {eqv : D → D → Bool} (o : Own X.K (He.ga X.K c) "__eq__" f) (nf : ∀ T : Tg, PySem.W.subIn X.K (.type T.nm) (.ref (He.ga X.K c)) = some false) (F : FnOk X.prog X.w X.K X.mg X.base (L2.CX X.prog X.w) k f fd ps (lift X.K s)) (ms : MnS s) (hr : Room k X.A.in1) (hb : Binds X.K fd ps []) (Z : Cz X b H0 E eo)
    (R : Rst X.K b H0 σd σ H2 O) {d d2 : D} {v v2 : V} {u u2 : Value} (r1 : Rep X.K b (hide O H2) d v) (r2 : Rep X.K b (hide O H2) d2 v2) (ru : RelV v u) (ru2 : RelV v2 u2) (f1 : OwnFlat c fns d) (f2 : OwnFlat c fns d2) (q : s [d, d2] (fun z => z = .bl (eqv d d2)) eo) (qq : d = d2 → eqv d d2 = true) :
    PySem.W.EqI X.prog X.w X.A.in1 X.xe (fun s' => ∃ H', Inv X pins σ H' s' ∧ Ext b H2 H') u u2 (eqv d d2) := by
  intro s' Q ⟨H', I, x⟩ hQ
  have R' := R.mono x
  have r1' := r1.mono (R.hx x).1
  have r2' := r2.mono (R.hx x).1
  obtain ⟨a1, dx, is, rfl, n, h, e1, l1⟩ := rep_flat r1' f1
  obtain ⟨a2, dx2, is2, rfl, n2, h2, e2, l2⟩ := rep_flat r2' f2
  obtain rfl : u = Value.ref a1 := ru
  obtain rfl : u2 = Value.ref a2 := ru2
  unfold eqBool
  refine wpAny_holding ?_
  refine wpAny_ite_split (fun hab => ?_) (fun _ => ?_)
  · have e : a1 = a2 := by have := eq_of_beq hab; injection this
    subst e
    have := qq (flat_same r1' r2' f1 f2)
    rw [this] at hQ
    exact wpAny_bind (wpAny_rule (wpAny_pure (hQ s' ⟨H', I, x⟩)))
  · obtain ⟨mA, J, _⟩ := ins_get I.hok (of_hide h).2
    obtain ⟨od, J, _⟩ := J.look
    obtain ⟨m, hF⟩ := I.fr
    have run : wpAny (model X.prog X.w) X.A.in1 (call (.ref f) [.ref a1, .ref a2]) (EP X pins σ fun v H3 => v = .bl (eqv d d2) ∧ Ext b H' H3) X.xe s' := run_fnB (us2 := [.ref a1, .ref a2]) (vs2 := [.ref a1, .ref a2]) F ms hr rfl Z I hb (.cons rfl (.cons rfl .nil)) R' (Reps.cons r1' (Reps.cons r2' Reps.nil)) (ms _ _ _ _ _ (fun z hz v H3 x3 r3 => by subst hz; exact ⟨r3.bl, x3⟩) (fun _ w => w) q)
    have run' := wpAny_mono run (fun v s' h => cmpBack_of h) fun _ _ h => h
    obtain ⟨tb, lk, hn⟩ := rhs_looks (c := c) (M := model X.prog X.w) (v := .ref a2) (u := Value.ref a2) I rfl r2' (by rw [e2]; exact beq_self_eq_true c) nf
    refine wpAny_bind (wpAny_mono (PySem.W.cmp_K (op := .Eq) (tb := tb) hr.units0 hF I.ok.mod.kin J lk hn o.find o.fn run') (fun v s3 h3 => ?_) fun _ _ h => h)
    obtain ⟨v', H3, I3, rv, ev, x3⟩ := h3
    subst ev
    obtain rfl : v = Value.bool (eqv d d2) := rv
    exact wpAny_truthy_bool (hQ s3 ⟨H3, I3, x.trans x3⟩)
theorem valP_mem {l : List (Key × D)} {k : Key} {d : D} (h : valP l k = some d) : ∃ p ∈ l, p.2 = d := by
  unfold valP at h
  cases e : l.find? fun p => decide (p.1 = k) with
  | none => rw [e] at h; cases h
  | some p => rw [e] at h; cases h; exact ⟨p, List.mem_of_find?_eq_some e, rfl⟩
theorem hits_own {pins : List (Addr × Obj)} {σ : L2.St} {σd : StD} {O : List Addr} {H2 : Hp} {fns : List Str} {eqv : D → D → Bool} (o : Own X.K (He.ga X.K c) "__eq__" f) (nf : ∀ T : Tg, PySem.W.subIn X.K (.type T.nm) (.ref (He.ga X.K c)) = some false) (F : FnOk X.prog X.w X.K X.mg X.base (L2.CX X.prog X.w) k f fd ps (lift X.K s)) (ms : MnS s) (hr : Room k X.A.in1) (hb : Binds X.K fd ps []) (Z : Cz X b H0 E eo)
    (R : Rst X.K b H0 σd σ H2 O) {l2 : List (Key × D)} {m2 : List (Key × V)} {vb : List (Key × Value)} (kr2 : KR X.K b (hide O H2) l2 m2) (kv2 : KV m2 vb) (f2 : ∀ p ∈ l2, OwnFlat c fns p.2) {l : List (Key × D)} {m : List (Key × V)} (kr : KR X.K b (hide O H2) l m) :
    ∀ {va : List (Key × Value)}, KV m va → (∀ p ∈ l, OwnFlat c fns p.2) → (∀ p ∈ l, ∀ p2 ∈ l2, s [p.2, p2.2] (fun d => d = .bl (eqv p.2 p2.2)) eo ∧ (p.2 = p2.2 → eqv p.2 p2.2 = true)) → PySem.W.KeqHitsI X.prog X.w X.A.in1 X.xe (fun s' => ∃ H', Inv X pins σ H' s' ∧ Ext b H2 H') vb va (eqDR eqv l l2) := by
  induction kr with
  | nil =>
    intro va kv _ _
    unfold KV at kv
    cases kv
    exact .nil
  | @cons ky d v l m r _ ih =>
    intro va kv f1 q
    unfold KV at kv
    cases kv with
    | @cons _ u _ us h t =>
      obtain ⟨k', u⟩ := u
      obtain ⟨h1, h2⟩ := h
      have h1 : ky = k' := h1
      subst h1
      have h2 : RelV v u := h2
      have w1 := kr2.val ky
      have w2 := kv2.val ky
      have rest := ih (va := us) t (fun p hp => f1 p (List.mem_cons_of_mem _ hp)) (fun p hp => q p (List.mem_cons_of_mem _ hp))
      show PySem.W.KeqHitsI _ _ _ _ _ _ _ ((match valP l2 ky with | some y => eqv d y | none => false) && eqDR eqv l l2)
      cases e : valP l2 ky with
      | none =>
        rw [e] at w1
        have w1 : valV m2 ky = none := w1
        rw [w1] at w2
        cases e2 : valueAt vb ky with
        | none => exact .miss e2
        | some y => rw [e2] at w2; exact w2.elim
      | some y =>
        rw [e] at w1
        obtain ⟨vy, g1, g2⟩ := w1
        rw [g1] at w2
        cases e2 : valueAt vb ky with
        | none => rw [e2] at w2; exact w2.elim
        | some uy =>
          rw [e2] at w2
          obtain ⟨p2, hp2, rfl⟩ := valP_mem e
          obtain ⟨q1, q2⟩ := q (ky, d) List.mem_cons_self p2 hp2
          exact .hit e2 (eqI_own o nf F ms hr hb Z R r g2 h2 w2 (f1 (ky, d) List.mem_cons_self) (f2 p2 hp2) q1 q2) rest
theorem dc_eqDO (A : DE b H0 X a ga) (B : DE b H0 X e gb) (o : Own X.K (He.ga X.K c) "__eq__" f) (nf : ∀ T : Tg, PySem.W.subIn X.K (.type T.nm) (.ref (He.ga X.K c)) = some false) (F : FnOk X.prog X.w X.K X.mg X.base (L2.CX X.prog X.w) k f fd ps (lift X.K s)) (ms : MnS s) (hr : Room (k + 1) X.A) (hb : Binds X.K fd ps []) (Z : Cz X b H0 E eo) : DCm b H0 X .Eq a e (gEqDO c s eo ga gb) := by
  refine ⟨⟨fun pins s0 σ H Q I ⟨σd, O, R, q⟩ => ?_⟩, gEqDO_mn A.mn B.mn⟩
  refine (binT (R := fun x y H2 => ∃ p q ks ds ls es, x = .ref p ∧ y = .ref q ∧ Rst X.K b H0 σd σ H2 O ∧ Rep X.K b (hide O H2) (.dic ks ds) x ∧ Rep X.K b (hide O H2) (.dic ls es) y ∧ ∃ (fns : List Str) (eqv : D → D → Bool), (∀ d ∈ ds, OwnFlat c fns d) ∧ (∀ d ∈ es, OwnFlat c fns d) ∧ EqvOk s eo eqv ds es ∧ ∀ H3, Ext b H2 H3 → Q (.bl (ks.length == ls.length && eqDR eqv (ks.zip ds) (ls.zip es))) H3) A.pe B.pe I
    ⟨σd, O, R, A.mn _ _ _ (fun x hx v1 H1 x1 r1 => ⟨σd, O, R.mono x1, B.mn _ _ _ (fun y hy v2 H2 x2 r2 => ?_) hx⟩) q⟩ fun u1 u2 s2 x y H2 I2 rx ry ⟨p, q, ks, ds, ls, es, ex, ey, R2, rr1, rr2, fns, eqv, h1, h2, h3, h4⟩ => ?_)
  · have r1' := r1.mono (x2.1.hide O)
    cases x with
    | dic ks ds => cases y with
      | dic ls es =>
        obtain ⟨fns, eqv, h1, h2, h3, h4⟩ := hy
        obtain ⟨p, m, e1, _⟩ := r1'.dic
        obtain ⟨q, m2, e2, _⟩ := r2.dic
        exact ⟨p, q, ks, ds, ls, es, e1, e2, R.mono (x1.trans x2), r1', r2, fns, eqv, h1, h2, h3, fun H3 x3 => h4 _ H3 (x1.trans (x2.trans x3)) rfl⟩
      | _ => exact hy.elim
    | _ => exact hy.elim
  · subst ex ey
    obtain rfl : u1 = Value.ref p := rx
    obtain rfl : u2 = Value.ref q := ry
    obtain ⟨p', m, ep, n1, ⟨o1, g1⟩, kr1, k1⟩ := rr1.dic
    cases ep
    obtain ⟨q', m2, eq', n2, ⟨o2, g2⟩, kr2, k2⟩ := rr2.dic
    cases eq'
    have g1' := (of_hide g1).2
    have g2' := (of_hide g2).2
    obtain ⟨_, ya, va, ra, da⟩ := (Rd.ok (.inr ⟨o1, g1'⟩) I2.hok : ObjOk X.prog X.w H2 s2.heap p (.dK m))
    obtain ⟨_, yb, vb, rb, db⟩ := (Rd.ok (.inr ⟨o2, g2'⟩) I2.hok : ObjOk X.prog X.w H2 s2.heap q (.dK m2))
    have e1 := kr1.len
    have e2 := kr2.len
    have lva : va.length = ks.length := by rw [← ra.length, ← k1, List.length_map]
    have lvb : vb.length = ls.length := by rw [← rb.length, ← k2, List.length_map]
    have zin : ∀ {ks : List Key} {ds : List D} {p : Key × D}, p ∈ ks.zip ds → p.2 ∈ ds := fun hp => (List.of_mem_zip hp).2
    show wpAny _ _ (richCompare .Eq (.ref p) (.ref q)) _ _ _
    refine PySem.W.dicts_eqI (r := eqDR eqv (ks.zip ds) (ls.zip es)) (St := fun s' => ∃ H', Inv X pins σ H' s' ∧ Ext b H2 H') ya yb da db (by have := hr.units; omega) ⟨H2, I2, .refl _⟩ (fun s' oa ob ⟨H', I', x'⟩ ga gb => ?_) (fun _ => hits_own o nf F ms hr.in1 hb Z R2 kr2 rb (fun p hp => h2 _ (zin hp)) kr1 ra (fun p hp => h1 _ (zin hp)) (fun p hp p2 hp2 => h3 _ (zin hp) _ (zin hp2))) (fun s' ⟨H', I', x'⟩ => ?_)
    · have z1 := (I'.hok p _ (x'.1 p _ n1 g1' rfl)).1
      have z2 := (I'.hok q _ (x'.1 q _ n2 g2' rfl)).1
      have w1 := (I2.hok p _ g1').1
      have w2 := (I2.hok q _ g2').1
      rw [w1] at ga
      rw [w2] at gb
      cases ga; cases gb
      exact ⟨z1, z2⟩
    · rw [lva, lvb]
      exact ⟨.bl _, H', I', rfl, h4 H' x'⟩
end
end DL
/-! DR8 -/
set_option Elab.async false
set_option linter.all false
set_option maxRecDepth 100000
set_option maxHeartbeats 4000000
/-! *d, d a dict; readings of d == e. -/
namespace DL
open PySem PySem.Spec PyProof.Rows L2
variable [TabC]
section
variable {σ : StD} {ga gb ge : GE} {g : GA} {c : Str} {s : GS} {eo : XD → Prop}
theorem ev_eqDO {ks ls : List Key} {ds es : List D} (A : Ev ga σ (.dic ks ds)) (B : Ev gb σ (.dic ls es)) (fns : List Str) (eqv : D → D → Bool) (h1 : ∀ d ∈ ds, OwnFlat c fns d) (h2 : ∀ d ∈ es, OwnFlat c fns d) (h3 : EqvOk s eo eqv ds es) : Ev (gEqDO c s eo ga gb) σ (.bl (ks.length == ls.length && eqDR eqv (ks.zip ds) (ls.zip es))) := .mk fun k q => A _ (B _ ⟨fns, eqv, h1, h2, h3, q⟩)
end
end DL
/-! DR9 -/
set_option Elab.async false
set_option linter.all false
set_option maxRecDepth 100000
set_option maxHeartbeats 4000000
/-! try whose body lets nothing out; rsplit. -/
namespace L2
open PySem PySem.Spec PySem.Builtin PySem.Builtin.Str PyProof.Rows
end L2
namespace DL
open PySem PySem.Spec PyProof.Rows L2
end DL
namespace L2
open PySem PySem.Spec PySem.Builtin PyProof.Rows
end L2
namespace DL
open PySem PySem.Spec PyProof.Rows L2
end DL
/-! DR10 -/
set_option Elab.async false
set_option linter.all false
set_option maxRecDepth 100000
set_option maxHeartbeats 4000000
/-! Dicts that the frame owns: made by dict(..), x.pop(k), lent to an expression. -/
namespace DL
open PySem PySem.Spec PyProof.Rows L2
variable [TabC]
/-! ### x.pop(k) -/
def dropP (l : List (Key × D)) (k : Key) : List (Key × D) := l.filter fun p => decide (p.1 ≠ k)
section
variable {K : Fg} {b : Option Addr} {H : Hp}
theorem KR.drop {l : List (Key × D)} {m : List (Key × V)} {k : Key} (h : KR K b H l m) : KR K b H (dropP l k) (dropK m k) := by
  induction h with
  | nil => exact .nil
  | @cons k' d v l m h r ih =>
    unfold dropP dropK at ih ⊢
    by_cases e : k' = k
    · rw [List.filter_cons_of_neg (by simp [e]), List.filter_cons_of_neg (by simp [e])]
      exact ih
    · rw [List.filter_cons_of_pos (by simp [e]), List.filter_cons_of_pos (by simp [e])]
      exact .cons h ih
end
/-! ### x = dict(..), the frame's own -/
structure Cl1O (K : Fg) (b : Option Addr) (r : List V → Hp → VK → Prop) (rd : D → (List (Key × D) → Prop) → Prop) : Prop where
  mn : ∀ x (k k' : List (Key × D) → Prop), (∀ d, k d → k' d) → rd x k → rd x k'
  ok : ∀ (O : List Addr) (H : Hp) (dx : D) (x : V) (Q : VK), Fresh b O H → Rep K b (hide O H) dx x → rd dx (fun l => ∀ p m, H p = none → KR K b (hide O H) l m → Q (.ref p) (upd H p (.dK m))) → r [x] H Q
def dDictDO : D → (List (Key × D) → Prop) → Prop := fun x k => match x with | .dic ks ds => k (ks.zip ds) | .frd ks ds => k (ks.zip ds) | _ => False
def dDictPO : D → (List (Key × D) → Prop) → Prop := fun x k => match x with | .lst ds => (match pairsK ds with | some l => k (mergeP [] l) | none => False) | _ => False
theorem co_dictD {K : Fg} {b : Option Addr} : Cl1O K b (fun xs H Q => ∃ (a : Addr) (kvs : List (Key × V)), xs = [.ref a] ∧ Rd H a (.dK kvs) ∧ ∀ p, H p = none → Q (.ref p) (upd H p (.dK kvs))) dDictDO := by
  refine ⟨fun x k k' i q => ?_, fun O H dx x Q F r q => ?_⟩
  · cases x <;> first | exact i _ q | exact q.elim
  · cases dx with
    | dic ks ds =>
      obtain ⟨a, m, rfl, n, h, kr, hk⟩ := r.dic
      exact ⟨a, m, rfl, .inr (h.imp fun o h => hide_le _ _ n h rfl), fun p hp => q p m hp kr⟩
    | frd ks ds =>
      obtain ⟨a, m, rfl, n, h, kr, hk⟩ := r.dicF
      exact ⟨a, m, rfl, .inl (hide_le _ _ n h rfl), fun p hp => q p m hp kr⟩
    | _ => exact q.elim
theorem co_dictP {K : Fg} {b : Option Addr} : Cl1O K b (fun xs H Q => ∃ (a : Addr) (ps : List Addr) (kvs : List (Key × V)), xs = [.ref a] ∧ SqL K H a (ps.map V.ref) ∧ Paired (fun p kv => SqT K H p [kV kv.1, kv.2]) ps kvs ∧ ∀ p, H p = none → Q (.ref p) (upd H p (.dK (mergeK [] kvs)))) dDictPO := by
  refine ⟨fun x k k' i q => ?_, fun O H dx x Q F r q => ?_⟩
  · cases x with
    | lst ds =>
      simp only [dDictPO] at q ⊢
      cases e : pairsK ds with
      | none => rw [e] at q; exact q.elim
      | some l => rw [e] at q; exact i _ q
    | _ => exact q.elim
  · cases dx with
    | lst ds =>
      simp only [dDictPO] at q
      cases e : pairsK ds with
      | none => rw [e] at q; exact q.elim
      | some l =>
        rw [e] at q
        obtain ⟨a, vs, rfl, n, h, rs⟩ := r.lst
        obtain ⟨ps, kvs, e1, e2, e3, e4⟩ := pairs_reps rs e
        subst e1
        exact ⟨a, ps, kvs, rfl, sqL_mono hide_le n h, paired_imp e3 fun p hp kv z => sqT_mono hide_le (e2 p hp) z, fun p hp => q p _ hp (e4.merge .nil)⟩
    | _ => exact q.elim
def gAsgDN (i : Nat) (rd : D → (List (Key × D) → Prop) → Prop) (ge : GE) : GSt := fun D σ => ge σ fun d => rd d fun l => D.nx (put σ i (.owd (l.map (·.1)) (l.map (·.2))))
section
variable {X : Cx} {b : Option Addr} {H0 : Hp} {pos pos' p cpos : Pos} {a : Expr} {ga : GE} {x f : Str} {i : Nat}
theorem gAsgDN_mn {rd : D → (List (Key × D) → Prop) → Prop} (m : ∀ x (k k' : List (Key × D) → Prop), (∀ d, k d → k' d) → rd x k → rd x k') (A : Mn ga) : MnD (gAsgDN i rd ga) := fun D D' σ h1 _ _ _ q => A _ _ _ (fun d z => m _ _ _ (fun l w => h1 _ w) z) q
theorem ds_asgDN {T : String} {r : List V → Hp → VK → Prop} {rd : D → (List (Key × D) → Prop) → Prop} (hc : CallR X (.type T) r) (o : Cl1O X.K b r rd) (hg : Gl X f) (hm : X.mg f = none) (hv : bootBuiltins f = some (.type T)) (hN : X.N.Nodup) (hi : X.N[i]? = some x) (hx : Loc X.env.scope x) (A : DE b H0 X a ga)
    (hn : f ≠ "__name__" := by decide) (hdb : (f == ("__debug__" : Str)) = false := by decide) (he : starEach [a] X.env = (false, eval a X.env) :: starEach [] X.env := by rfl) (hs : swapsWith (.Call (.Name f p) [a] [] cpos) (some (.Name x pos')) pos.line X.env = pure false := by rfl) (hf : X.fn x = true ∨ X.env.scope.names.lookup x = some .local := by first | exact .inl rfl | exact .inr rfl | assumption) :
    DS b H0 X (.Assign [.Name x pos'] (.Call (.Name f p) [a] [] cpos) pos) (gAsgDN i rd ga) :=
  ⟨ps_imp (ps_set hN hi hx (pe_callTy hc hg hm hv (pa_cons A.pe pa_nil he) hn hdb he rfl) hs hf) fun D σ H ⟨σd, O, R, q⟩ => ⟨σd, O, R, A.mn _ _ _ (fun x hx v1 H1 x1 r1 => o.ok O H1 x v1 _ (fun p hp => (R.mono x1).free hp) r1 (o.mn _ _ _ (fun l kd p m hp kr => kd _ _ _ ((R.mono x1).setOD i hp kr) (by rw [hide_newO hp]; exact R.hx x1)) hx)) q⟩, gAsgDN_mn o.mn A.mn⟩
end
/-! ### a dict that the frame owns, lent to an expression that hands on no dict -/
mutual
/-- nothing in it is a dict -/
def noK : D → Bool
  | .tup ds => noKs ds | .lst ds => noKs ds | .dic _ _ => false | .ins _ _ ds => noKs ds | .frl _ ds => noKs ds | .frd _ ds => noKs ds | .exc _ _ ds => noKs ds | _ => true
def noKs : List D → Bool
  | [] => true
  | d :: r => noK d && noKs r
end
section
variable {K : Fg} {b : Option Addr} {H H' : Hp} {p : Addr}
def SubK (b : Option Addr) (H H' : Hp) : Prop := ∀ a o, some a ≠ b → H a = some o → (∀ ob m, o ≠ .frz ob (.dK m)) → H' a = some o
mutual
theorem Rep.thawK (x : SubK b H H') : ∀ {d : D} {v : V}, noK d = true → Rep K b H d v → Rep K b H' d v
  | .non, _, _, h => h
  | .bl _, _, _, h => h
  | .int _, _, _, h => h
  | .str _, _, _, h => h
  | .tup ds, v, e, h => by
    simp only [noK] at e
    simp only [Rep] at h ⊢
    obtain ⟨a, vs, e1, n, q, r⟩ := h
    refine ⟨a, vs, e1, n, ?_, Reps.thawK x e r⟩
    rcases q with (q | ⟨o, q⟩) | q
    · exact .inl (.inl (x _ _ n q fun _ _ z => by cases z))
    · exact .inl (.inr ⟨o, x _ _ n q fun _ _ z => by cases z⟩)
    · exact .inr q
  | .lst ds, v, e, h => by
    simp only [noK] at e
    simp only [Rep] at h ⊢
    obtain ⟨a, vs, e1, n, q, r⟩ := h
    refine ⟨a, vs, e1, n, ?_, Reps.thawK x e r⟩
    rcases q with (q | q) | q
    · exact .inl (.inl (x _ _ n q fun _ _ z => by cases z))
    · exact q.elim
    · exact .inr q
  | .dic ks ds, v, e, h => by simp only [noK] at e; cases e
  | .ins c ns ds, v, e, h => by
    simp only [noK] at e
    simp only [Rep] at h ⊢
    obtain ⟨a, dx, vs, e1, n, q, l, r⟩ := h
    exact ⟨a, dx, vs, e1, n, x _ _ n q (fun _ _ z => by cases z), l, Reps.thawK x e r⟩
  | .bag, _, _, h => h
  | .clo o, v, _, h => by
    simp only [Rep] at h ⊢
    obtain ⟨f, e1, n, q, n2, q2⟩ := h
    exact ⟨f, e1, n, x _ _ n q (fun _ _ z => by unfold FnH at z; cases z), n2, x _ _ n2 q2 fun _ _ z => by unfold LamX.CodeO at z; cases z⟩
  | .frl f ds, v, e, h => by
    simp only [noK] at e
    simp only [Rep] at h ⊢
    obtain ⟨o, vs, e1, n, q, r⟩ := h
    exact ⟨o, vs, e1, n, x _ _ n q (fun _ _ z => by cases z), Reps.thawK x e r⟩
  | .frd ks ds, v, e, h => by
    simp only [noK] at e
    simp only [Rep] at h ⊢
    obtain ⟨a, vs, e1, n, q, l, r⟩ := h
    exact ⟨a, vs, e1, n, x _ _ n q (fun _ _ z => by cases z), l, Reps.thawK x e r⟩
  | .exc c ns ds, v, e, h => by
    simp only [noK] at e
    simp only [Rep] at h ⊢
    obtain ⟨a, dx, vs, e1, n, n2, q, q2, l, r⟩ := h
    exact ⟨a, dx, vs, e1, n, n2, x _ _ n q (fun _ _ z => by unfold exo at z; cases z), x _ _ n2 q2 (fun _ _ z => by unfold exd at z; cases z), l, Reps.thawK x e r⟩
theorem Reps.thawK (x : SubK b H H') : ∀ {ds : List D} {vs : List V}, noKs ds = true → Reps K b H ds vs → Reps K b H' ds vs
  | [], _, _, h => h
  | d :: r, vs, e, h => by
    simp only [noKs, Bool.and_eq_true] at e
    simp only [Reps] at h ⊢
    obtain ⟨v, q, e1, h1, h2⟩ := h
    exact ⟨v, q, e1, Rep.thawK x e.1 h1, Reps.thawK x e.2 h2⟩
end
end
/-- the dict of the slot i is locked while the expression runs -/
def gLkD (i : Nat) (g : GE) : GE := fun σ k => match look σ i with
  | .owd ks ds => ks.length = ds.length ∧ g (put σ i (.sh (.dic ks ds))) fun d => noK d = true ∧ k d
  | _ => False
theorem gLkD_mn {g : GE} (i : Nat) (m : Mn g) : Mn (gLkD i g) := fun σ k k' h q => by
  unfold gLkD at q ⊢
  cases e : look σ i <;> rw [e] at q <;> first | exact ⟨q.1, m _ _ _ (fun d z => ⟨z.1, h _ z.2⟩) q.2⟩ | exact q.elim
section
variable {X : Cx} {b : Option Addr} {H0 : Hp} {e : Expr} {g : GE}
theorem de_lkD (i : Nat) (A : DE b H0 X e g) : DE b H0 X e (gLkD i g) := ⟨⟨fun pins s σ H Q I ⟨σd, O, R, q⟩ => by
  refine (pe_lock A.pe).run pins s σ H Q I ?_
  unfold gLkD at q
  cases hl : look σd i with
  | owd ks ds =>
    rw [hl] at q
    have q : ks.length = ds.length ∧ g (put σd i (.sh (.dic ks ds))) fun d => noK d = true ∧ ∀ v H', Ext b H H' → Rep X.K b (hide O H') d v → Q v H' := q
    have sl := R.slot i
    rw [hl] at sl
    obtain ⟨a, vs, hs, hm, ha, r⟩ := sl
    have hd : ∀ c C dx fs, H c = some (.ins C dx fs) → H dx = some (.own c) := fun c C dx fs z => by
      have := I.hok c _ z
      exact this.1
    have nb := (R.nb a hm).1
    refine ⟨a, .dK (ks.zip vs), ha, trivial, fun od => ⟨_, _, R.frzD hd q.1 hl hs hm ha r od, A.mn _ _ _ (fun d ⟨n, k⟩ v H' x r' => ?_) q.2⟩⟩
    have hf : H' a = some (.frz od (.dK (ks.zip vs))) := x.1 a _ nb upd_same rfl
    refine ⟨hf, k v _ ⟨fun c o nc h t => ?_, fun c ec cc i j m h h0 => ?_, fun t => ?_⟩ (r'.thawK (fun c o nc h hne => ?_) n)⟩
    · by_cases e : c = a
      · subst e; rw [upd_same]; rw [ha] at h; cases h; rfl
      · rw [upd_ne e]; exact x.1 c o nc (by rw [upd_ne e]; exact h) t
    · have e : c ≠ a := fun e => nb (by rw [← e]; exact ec.symm)
      obtain ⟨i', j', h1, h2⟩ := x.2.1 c ec cc i j m (by rw [upd_ne e]; exact h) h0
      exact ⟨i', j', h1, by rw [upd_ne e]; exact h2⟩
    · have t1 : LamX.Tabs TabC.T (upd H a (.frz od (.dK (ks.zip vs)))) := fun p hp => by
        obtain ⟨ps, h1, h2, h3⟩ := t p hp
        refine ⟨ps, by rw [upd_ne (fun z => by rw [z, ha] at h1; cases h1)]; exact h1, h2, fun pos cv hc => ?_⟩
        obtain ⟨c, e1, e2⟩ := h3 pos cv hc
        exact ⟨c, e1, by rw [upd_ne (fun z => by rw [z, ha] at e2; unfold LamX.CodeO at e2; cases e2)]; exact e2⟩
      have t2 := x.2.2 t1
      intro p hp
      obtain ⟨ps, h1, h2, h3⟩ := t2 p hp
      refine ⟨ps, by rw [upd_ne (fun z => by rw [z, hf] at h1; cases h1)]; exact h1, h2, fun pos cv hc => ?_⟩
      obtain ⟨c, e1, e2⟩ := h3 pos cv hc
      exact ⟨c, e1, by rw [upd_ne (fun z => by rw [z, hf] at e2; unfold LamX.CodeO at e2; cases e2)]; exact e2⟩
    · obtain ⟨m, h4⟩ := of_hide h
      have e : c ≠ a := fun e => by
        rw [e, hf] at h4; cases h4
        exact hne _ _ rfl
      rw [hide_out (fun z => m (List.mem_filter.mpr ⟨z, decide_eq_true e⟩)), upd_ne e]
      exact h4
  | _ => rw [hl] at q; exact q.elim⟩, gLkD_mn i A.mn⟩
end
/-! ### readings -/
section
variable {σ : StD} {ge gk ga g : GE} {v : GSt} {D' : EndD} {i : Nat} {d : D}
theorem ev_lkD {l : List (Str × D)} (hl : look σ i = owS l) (h : Ev g (put σ i (.sh (dicS l))) d) (n : noK d = true) : Ev (gLkD i g) σ d := .mk fun k q => by
  unfold gLkD
  rw [hl]
  exact ⟨by rw [List.length_map, List.length_map], h.run _ ⟨n, q⟩⟩
theorem s_asgDP {τ : StD} {l : List (Str × D)} (A : Ev ga σ (.lst (l.map fun p => .tup [.str p.1, p.2]))) (h : (l.map (·.1)).Nodup) (p : Pt σ i (owS l) τ) (r : Stp (v D' τ)) : Stp (gSeq (gAsgDN i dDictPO ga) v D' σ) := ⟨A _ (by
  show match pairsK (l.map fun p => .tup [.str p.1, p.2]) with | some l => v D' (put σ i (.owd ((mergeP [] l).map (·.1)) ((mergeP [] l).map (·.2)))) | none => False
  rw [pairsK_S]
  show v D' (put σ i (.owd ((mergeP [] (ksS l)).map (·.1)) ((mergeP [] (ksS l)).map (·.2))))
  rw [merge_S h]
  have e := p.eq
  rw [show put σ i (.owd ((ksS l).map (·.1)) ((ksS l).map (·.2))) = τ from e]
  exact r.run)⟩
end
/-! ### len(d) -/
/-! ### list(d), a new list -/
section
variable {X : Cx} {b : Option Addr} {H0 : Hp} {a : Expr} {ga : GE} {p pos : Pos}
theorem df_listD (hc : X.calm = true) (hg : Gl X "list") (hm : X.mg "list" = none) (A : DE b H0 X a ga) (he : starEach [a] X.env = (false, eval a X.env) :: starEach [] X.env := by rfl) : DF b H0 X (.Call (.Name "list" p) [a] [] pos) (g1 dListD ga) := by
  refine ⟨pe_imp (pe_callTy (call_listD hc) hg hm rfl (pa_cons A.pe pa_nil he) (by decide) (by decide) he rfl) fun σ H Q ⟨σd, O, R, q⟩ => ?_, g1_mn (cl_listD (X := X) (b := b)).mn A.mn⟩
  refine ⟨σd, O, R, A.mn _ _ _ (fun d hd v1 H1 x1 r1 => ?_) q⟩
  have key : ∀ {ds : List D} {ys : List V}, (∀ p vs H', some p ≠ b → Fre H p → Ext b H H' → H' p = some (.lst vs) → Reps X.K b (hide (p :: O) H') ds vs → Q (.ref p) H') → Reps X.K b (hide O H1) ds ys → ∀ l, H1 l = none → Q (.ref l) (upd H1 l (.lst ys)) := fun {ds ys} k r l hp => by
    have hf : Fre H l := fun o e => by
      cases t : nt o with
      | false => rfl
      | true =>
        exfalso
        by_cases hb : some l = b
        · exact ((R.mono x1).free hp).2 hb
        · have := x1.1 l o hb e t
          rw [hp] at this; cases this
    exact k l ys _ ((R.mono x1).free hp).2 hf (x1.trans (.new hp)) upd_same (by rw [hide_newO hp]; exact r)
  cases d with
  | dic ks ds =>
    obtain ⟨c, m, rfl, n, h, kr, hk⟩ := r1.dic
    refine ⟨c, m, rfl, .inr (h.imp fun o h => hide_le _ _ n h rfl), key hd ?_⟩
    have e : (m.map fun kv => kV kv.1) = ks.map kV := by rw [← hk, List.map_map]; rfl
    rw [e]
    exact reps_kD ks
  | frd ks ds =>
    obtain ⟨c, m, rfl, n, h, kr, hk⟩ := r1.dicF
    refine ⟨c, m, rfl, .inl (hide_le _ _ n h rfl), key hd ?_⟩
    have e : (m.map fun kv => kV kv.1) = ks.map kV := by rw [← hk, List.map_map]; rfl
    rw [e]
    exact reps_kD ks
  | _ => exact hd.elim
end
end DL
/-! DR11 -/
set_option Elab.async false
set_option linter.all false
set_option maxRecDepth 100000
set_option maxHeartbeats 4000000
/-! x op y, x of one own class whose def gives NotImplemented, y of another whose reflected def answers. -/
namespace DL
open PySem PySem.W PySem.Calls PyProof.Rows
end DL
namespace DL
open PySem PySem.Spec PyProof.Rows L2
/-! ### a def whose first statement is `if test: return NotImplemented` -/
end DL
/-! DR12 -/
set_option Elab.async false
set_option linter.all false
set_option maxRecDepth 100000
set_option maxHeartbeats 4000000
/-! Dicts: x.clear(), an owned dict lent to a call, dicts that are new. -/
namespace DL
open PySem PySem.Spec PyProof.Rows L2
variable [TabC]
/-! ### x.clear() -/
def gDClr (i : Nat) : GSt := fun D σ => match look σ i with
  | .owd _ _ => D.nx (put σ i (.owd [] []))
  | _ => False
section
variable {X : Cx} {b : Option Addr} {H0 : Hp} {pos apos cpos p : Pos} {x : Str} {i : Nat}
theorem gDClr_mn : MnD (gDClr i) := fun D D' σ h1 _ _ _ q => by
  unfold gDClr at q ⊢
  cases e : look σ i with
  | owd ks ds => rw [e] at q; exact h1 _ q
  | _ => rw [e] at q; exact q.elim
theorem ds_dclr (hN : X.N[i]? = some x) (hv : Vis X.env.scope x) (hs : swapsWith (.Call (.Attribute (.Name x p) "clear" apos) [] [] cpos) none pos.line X.env = pure false := by rfl)
    (hbase : attributeBase (.Name x p) "clear" X.env (eval (.Name x p) X.env) = eval (.Name x p) X.env := by rfl) (hline : (apos.endLine == cpos.line) = true := by rfl) (hd : (x == ("__debug__" : Str)) = false := by decide) (hcd : (x == ("__classdict__" : Str)) = false := by decide) :
    DS b H0 X (.Expr (.Call (.Attribute (.Name x p) "clear" apos) [] [] cpos) pos) (gDClr i) :=
  ⟨ps_imp (ps_expr (pe_dclear (pe_var hN hv hd hcd) hbase hline) hs) fun D σ H ⟨σd, O, R, q⟩ => by
    unfold gDClr at q
    cases hl : look σd i with
    | owd ks ds =>
      rw [hl] at q
      have s := R.slot i
      rw [hl] at s
      obtain ⟨a, vs, e1, m, h1, r⟩ := s
      refine ⟨.ref a, getD_some e1, .inr (.inr (.inl ⟨rfl, .inl ⟨_, h1⟩⟩)), a, _, rfl, rfl, h1, ?_⟩
      exact q _ _ _ (R.wrOD (l9 := []) (m9 := []) hl e1 h1 m .nil) (by rw [hide_upd m]; exact .refl _)
    | _ => rw [hl] at q; exact q.elim, gDClr_mn⟩
end
/-! ### an owned dict that a call may look at -/
mutual
/-- nothing in it is a lent dict -/
def noF : D → Bool
  | .tup ds => noFs ds | .lst ds => noFs ds | .dic _ ds => noFs ds | .ins _ _ ds => noFs ds | .frl _ ds => noFs ds | .frd _ _ => false | .exc _ _ ds => noFs ds | _ => true
def noFs : List D → Bool
  | [] => true
  | d :: r => noF d && noFs r
end
section
variable {K : Fg} {b : Option Addr} {H H' : Hp}
def SubF (b : Option Addr) (H H' : Hp) : Prop := ∀ a o, some a ≠ b → H a = some o → (∀ m, o ≠ .dK m) → H' a = some o
mutual
theorem Rep.shut (x : SubF b H H') : ∀ {d : D} {v : V}, noF d = true → Rep K b H d v → Rep K b H' d v
  | .non, _, _, h => h
  | .bl _, _, _, h => h
  | .int _, _, _, h => h
  | .str _, _, _, h => h
  | .tup ds, v, e, h => by
    simp only [noF] at e
    simp only [Rep] at h ⊢
    obtain ⟨a, vs, e1, n, q, r⟩ := h
    refine ⟨a, vs, e1, n, ?_, Reps.shut x e r⟩
    rcases q with (q | ⟨o, q⟩) | q
    · exact .inl (.inl (x _ _ n q fun _ z => by cases z))
    · exact .inl (.inr ⟨o, x _ _ n q fun _ z => by cases z⟩)
    · exact .inr q
  | .lst ds, v, e, h => by
    simp only [noF] at e
    simp only [Rep] at h ⊢
    obtain ⟨a, vs, e1, n, q, r⟩ := h
    refine ⟨a, vs, e1, n, ?_, Reps.shut x e r⟩
    rcases q with (q | q) | q
    · exact .inl (.inl (x _ _ n q fun _ z => by cases z))
    · exact q.elim
    · exact .inr q
  | .dic ks ds, v, e, h => by
    simp only [noF] at e
    simp only [Rep] at h ⊢
    obtain ⟨a, o, vs, e1, n, q, l, r⟩ := h
    exact ⟨a, o, vs, e1, n, x _ _ n q (fun _ z => by cases z), l, Reps.shut x e r⟩
  | .ins c ns ds, v, e, h => by
    simp only [noF] at e
    simp only [Rep] at h ⊢
    obtain ⟨a, dx, vs, e1, n, q, l, r⟩ := h
    exact ⟨a, dx, vs, e1, n, x _ _ n q (fun _ z => by cases z), l, Reps.shut x e r⟩
  | .bag, _, _, h => h
  | .clo o, v, _, h => by
    simp only [Rep] at h ⊢
    obtain ⟨f, e1, n, q, n2, q2⟩ := h
    exact ⟨f, e1, n, x _ _ n q (fun _ z => by unfold FnH at z; cases z), n2, x _ _ n2 q2 fun _ z => by unfold LamX.CodeO at z; cases z⟩
  | .frl f ds, v, e, h => by
    simp only [noF] at e
    simp only [Rep] at h ⊢
    obtain ⟨o, vs, e1, n, q, r⟩ := h
    exact ⟨o, vs, e1, n, x _ _ n q (fun _ z => by cases z), Reps.shut x e r⟩
  | .frd ks ds, v, e, h => by simp only [noF] at e; cases e
  | .exc c ns ds, v, e, h => by
    simp only [noF] at e
    simp only [Rep] at h ⊢
    obtain ⟨a, dx, vs, e1, n, n2, q, q2, l, r⟩ := h
    exact ⟨a, dx, vs, e1, n, n2, x _ _ n q (fun _ z => by unfold exo at z; cases z), x _ _ n2 q2 (fun _ z => by unfold exd at z; cases z), l, Reps.shut x e r⟩
theorem Reps.shut (x : SubF b H H') : ∀ {ds : List D} {vs : List V}, noFs ds = true → Reps K b H ds vs → Reps K b H' ds vs
  | [], _, _, h => h
  | d :: r, vs, e, h => by
    simp only [noFs, Bool.and_eq_true] at e
    simp only [Reps] at h ⊢
    obtain ⟨v, q, e1, h1, h2⟩ := h
    exact ⟨v, q, e1, Rep.shut x e.1 h1, Reps.shut x e.2 h2⟩
end
end
section
variable {b : Option Addr} {H0 : Hp}
/-- the dict of the slot i is shown -/
theorem Rst.showD {K : Fg} {σd : StD} {σ : L2.St} {H : Hp} {O : List Addr} (R : Rst K b H0 σd σ H O) (hd : ∀ c C dx fs, H c = some (.ins C dx fs) → H dx = some (.own c)) {ks9 : List Key} {ds : List D} {vs : List V} {i : Nat} {a : Addr} (hk : ks9.length = ds.length) (hi : look σd i = .owd ks9 ds) (hs : σ.getD i none = some (.ref a)) (hm : a ∈ O) (ha : H a = some (.dK (ks9.zip vs))) (r : Reps K b (hide O H) ds vs) :
    Rst K b H0 (put σd i (.sh (.frd ks9 ds))) σ H (O.filter fun c => c ≠ a) := by
  have sub : ∀ c ∈ O.filter (fun c => c ≠ a), c ∈ O := fun c m => (List.mem_filter.mp m).1
  have mem : ∀ {c}, c ∈ O → c ≠ a → c ∈ O.filter (fun c => c ≠ a) := fun m n => List.mem_filter.mpr ⟨m, decide_eq_true n⟩
  have na : a ∉ O.filter (fun c => c ≠ a) := fun z => by simpa using (List.mem_filter.mp z).2
  have xx : Ext b (hide O H) (hide (O.filter (fun c => c ≠ a)) H) := .all fun c o e => by
    obtain ⟨h1, h2⟩ := of_hide e
    rw [hide_out (fun z => h1 (sub c z))]; exact h2
  have li : i < σd.length := by
    rcases Nat.lt_or_ge i σd.length with z | z
    · exact z
    · rw [look_out z] at hi; cases hi
  have oi : Owns (look σd i) (σ.getD i none) a := by rw [hi, hs]; exact rfl
  refine ⟨by rw [put_length]; exact R.len, fun j => ?_, fun j k c h1 h2 => ?_, fun c m => ?_, R.le.trans xx, R.bg.ext xx⟩
  · rw [look_put2]
    by_cases h : j = i ∧ i < σd.length
    · rw [if_pos h, h.1]
      refine ⟨.ref a, hs, ?_⟩
      simp only [Rep]
      exact ⟨a, vs, rfl, (R.nb a hm).1, (by rw [hide_out na]; exact ha), (by rw [hk, r.length]), r.mono xx.1⟩
    · rw [if_neg h]
      have s := R.slot j
      have ne : ∀ c, Owns (look σd j) (σ.getD j none) c → c ≠ a := fun c z w => h ⟨R.uniq j i a (by rw [← w]; exact z) oi, li⟩
      cases e : look σd j with
      | unset => trivial
      | sh d =>
        rw [e] at s
        obtain ⟨v, e1, r1⟩ := s
        exact ⟨v, e1, r1.mono xx.1⟩
      | own fs =>
        rw [e] at s
        obtain ⟨c, ws, e1, m, h1, r1⟩ := s
        have nc := ne c (by rw [e, e1]; exact rfl)
        exact ⟨c, ws, e1, mem m nc, h1, r1.mono xx.1⟩
      | owd kx fs =>
        rw [e] at s
        obtain ⟨c, ws, e1, m, h1, r1⟩ := s
        have nc := ne c (by rw [e, e1]; exact rfl)
        exact ⟨c, ws, e1, mem m nc, h1, r1.mono xx.1⟩
      | obj c dx n ns fs =>
        rw [e] at s
        obtain ⟨ws, e1, m, md, h1, h2, l, r1⟩ := s
        have n1 := ne_of h1 ha (by simp)
        have n2 := ne_of h2 ha (by simp)
        exact ⟨ws, e1, mem m n1, mem md n2, h1, h2, l, r1.mono xx.1⟩
  · have key : ∀ {j}, Owns (look (put σd i (.sh (.frd ks9 ds))) j) (σ.getD j none) c → Owns (look σd j) (σ.getD j none) c := fun {j} z => by
      rw [look_put2] at z
      by_cases h : j = i ∧ i < σd.length
      · rw [if_pos h] at z
        cases e : σ.getD j none <;> rw [e] at z <;> exact z.elim
      · rw [if_neg h] at z; exact z
    exact R.uniq j k c (key h1) (key h2)
  · have mo := sub c m
    have nca : c ≠ a := fun z => na (z ▸ m)
    obtain ⟨n1, _, o, e, q⟩ := R.nb c mo
    refine ⟨n1, trivial, o, e, ?_⟩
    cases o with
    | lst _ => trivial
    | dK _ => trivial
    | ins C dx fs =>
      have q : dx ∈ O := q
      exact mem q (ne_of (hd _ _ _ _ e) ha (by simp))
    | own x =>
      obtain ⟨q1, C, fs, q2⟩ := q
      have nx := ne_of q2 ha (by simp)
      exact ⟨mem q1 nx, C, fs, q2⟩
    | _ => exact q.elim
end
/-- the dict of the slot i is lent to an expression -/
def gLdD (i : Nat) (g : GE) : GE := fun σ k => match look σ i with
  | .owd ks ds => ks.length = ds.length ∧ g (put σ i (.sh (.frd ks ds))) fun d => noF d = true ∧ k d
  | _ => False
theorem gLdD_mn {g : GE} (i : Nat) (m : Mn g) : Mn (gLdD i g) := fun σ k k' h q => by
  unfold gLdD at q ⊢
  cases e : look σ i <;> rw [e] at q <;> first | exact ⟨q.1, m _ _ _ (fun d z => ⟨z.1, h _ z.2⟩) q.2⟩ | exact q.elim
section
variable {X : Cx} {b : Option Addr} {H0 : Hp} {e : Expr} {g : GE}
theorem de_ldD (i : Nat) (A : DE b H0 X e g) : DE b H0 X e (gLdD i g) := ⟨⟨fun pins s σ H Q I ⟨σd, O, R, q⟩ => by
  unfold gLdD at q
  cases hl : look σd i with
  | owd ks ds =>
    rw [hl] at q
    have q : ks.length = ds.length ∧ g (put σd i (.sh (.frd ks ds))) fun d => noF d = true ∧ ∀ v H', Ext b H H' → Rep X.K b (hide O H') d v → Q v H' := q
    have sl := R.slot i
    rw [hl] at sl
    obtain ⟨a, vs, hs, hm, ha, r⟩ := sl
    have hd : ∀ c C dx fs, H c = some (.ins C dx fs) → H dx = some (.own c) := fun c C dx fs z => by
      have := I.hok c _ z
      exact this.1
    have nb := (R.nb a hm).1
    refine A.pe.run pins s σ H Q I ⟨_, _, R.showD hd q.1 hl hs hm ha r, A.mn _ _ _ (fun d ⟨n, k⟩ v H' x r' => k v H' x (r'.shut (fun c o nc h hne => ?_) n)) q.2⟩
    obtain ⟨m, h4⟩ := of_hide h
    have e : c ≠ a := fun e => by
      rw [e, x.1 a _ nb ha rfl] at h4; cases h4
      exact hne _ rfl
    rw [hide_out (fun z => m (List.mem_filter.mpr ⟨z, decide_eq_true e⟩))]
    exact h4
  | _ => rw [hl] at q; exact q.elim⟩, gLdD_mn i A.mn⟩
end
/-! ### expressions that make a new dict -/
def KFd (K : Fg) (b : Option Addr) (O : List Addr) (H : Hp) (Q : VK) : D → Prop := fun d => match d with
  | .dic ks ds => ∀ p m H', some p ≠ b → Fre H p → Ext b H H' → H' p = some (.dK m) → KR K b (hide (p :: O) H') (ks.zip ds) m → Q (.ref p) H'
  | _ => False
section
variable {K : Fg} {b : Option Addr} {H0 H H1 H2 : Hp} {O : List Addr} {Q : VK} {d : D} {σd : StD} {σ : L2.St} {p : Addr} {m : List (Key × V)}
theorem KFd.ext (x : Ext b H H1) (h : KFd K b O H Q d) : KFd K b O H1 Q d := by
  cases d with
  | dic ks ds => exact fun p vs H' hb hf x' hp r => h p vs H' hb (hf.of_ext x hb) (x.trans x') hp r
  | _ => exact h.elim
theorem Rst.hideXd (R : Rst K b H0 σd σ H O) (hb : some p ≠ b) (hf : Fre H p) (x : Ext b H H1) (hp : H1 p = some (.dK m)) : Ext b (hide O H) (hide (p :: O) H1) := by
  have hm : ∀ c ∈ p :: O, ∃ o, H1 c = some o ∧ nt o = true ∧ ∀ y q, o ≠ LamX.CodeO y q := fun c mm => by
    rcases List.mem_cons.mp mm with e | mm
    · subst e
      exact (show Hid O H1 c from ⟨.dK m, hp, trivial⟩).nt
    · obtain ⟨o, e, t1, t2⟩ := (R.nb c mm).2.2.nt
      exact ⟨o, x.1 c o (R.nb c mm).1 e t1, t1, t2⟩
  refine ⟨fun a o n h t => ?_, fun a e c i j m h h0 => ?_, fun t => tabs_hide hm (x.2.2 (tabs_unhide t))⟩
  · obtain ⟨h1, h2⟩ := of_hide h
    have ne : a ≠ p := fun e => by subst e; rw [hf o h2] at t; cases t
    rw [hide_out (fun z => by rcases List.mem_cons.mp z with z | z; exact ne z; exact h1 z)]
    exact x.1 a o n h2 t
  · obtain ⟨h1, h2⟩ := of_hide h
    have ne : a ≠ p := fun z => hb (by rw [← z, e])
    rw [hide_out (fun z => by rcases List.mem_cons.mp z with z | z; exact ne z; exact h1 z)]
    exact x.2.1 a e c i j m h2 h0
theorem Rst.hidePd (R : Rst K b H0 σd σ H O) (hb : some p ≠ b) (hf : Fre H p) (x : Ext b H H1) (hp : H1 p = some (.dK m)) : Rst K b H0 σd σ H1 (p :: O) where
  len := R.len
  slot := fun j => by
    have xx := R.hideXd hb hf x hp
    have s := R.slot j
    cases e : look σd j with
    | unset => trivial
    | sh d =>
      rw [e] at s
      obtain ⟨v, e1, r1⟩ := s
      exact ⟨v, e1, r1.mono xx.1⟩
    | own es =>
      rw [e] at s
      obtain ⟨a, us, e1, m, h1, r1⟩ := s
      exact ⟨a, us, e1, List.mem_cons_of_mem _ m, x.1 _ _ (R.nb a m).1 h1 rfl, r1.mono xx.1⟩
    | owd kx es =>
      rw [e] at s
      obtain ⟨a, us, e1, m, h1, r1⟩ := s
      exact ⟨a, us, e1, List.mem_cons_of_mem _ m, x.1 _ _ (R.nb a m).1 h1 rfl, r1.mono xx.1⟩
    | obj a dx c ns es =>
      rw [e] at s
      obtain ⟨us, e1, m, md, h1, h2, l, r1⟩ := s
      exact ⟨us, e1, List.mem_cons_of_mem _ m, List.mem_cons_of_mem _ md, x.1 _ _ (R.nb a m).1 h1 rfl, x.1 _ _ (R.nb dx md).1 h2 rfl, l, r1.mono xx.1⟩
  uniq := R.uniq
  nb := fun a mm => by
    rcases List.mem_cons.mp mm with e | mm
    · subst e
      exact ⟨hb, trivial, .dK m, hp, trivial⟩
    · obtain ⟨n1, _, h⟩ := (R.mono x).nb a mm
      exact ⟨n1, trivial, hid_more h⟩
  le := R.le.trans (R.hideXd hb hf x hp)
  bg := R.bg.ext (R.hideXd hb hf x hp)
/-- .. becomes a slot's own -/
theorem Rst.takePd (R : Rst K b H0 σd σ H O) (i : Nat) {l : List (Key × D)} (hn : ∀ j, ¬ Owns (look σd j) (σ.getD j none) p) (hm : p ∈ O) (hp : H p = some (.dK m)) (r : KR K b (hide O H) l m) : Rst K b H0 (put σd i (.owd (l.map (·.1)) (l.map (·.2)))) (σ.set i (some (.ref p))) H O where
  len := by rw [put_length, List.length_set]; exact R.len
  slot := fun j => by
    rw [look_put2, getD_set, R.len]
    by_cases h : j = i ∧ i < σ.length
    · rw [if_pos h, if_pos h]
      exact ⟨p, m.map (·.2), rfl, hm, (by rw [r.ks, zip_parts]; exact hp), r.ds⟩
    · rw [if_neg h, if_neg h]; exact R.slot j
  uniq := fun j k a h1 h2 => by
    rw [look_put2, getD_set, R.len] at h1 h2
    by_cases hj : j = i ∧ i < σ.length
    · rw [if_pos hj, if_pos hj] at h1
      have h1 : a = p := h1
      subst h1
      by_cases hk : k = i ∧ i < σ.length
      · rw [hj.1, hk.1]
      · rw [if_neg hk, if_neg hk] at h2
        exact (hn k h2).elim
    · rw [if_neg hj, if_neg hj] at h1
      by_cases hk : k = i ∧ i < σ.length
      · rw [if_pos hk, if_pos hk] at h2
        have h2 : a = p := h2
        subst h2
        exact (hn j h1).elim
      · rw [if_neg hk, if_neg hk] at h2
        exact R.uniq j k a h1 h2
  nb := R.nb
  le := R.le
  bg := R.bg
end
def LFd (K : Fg) (b : Option Addr) (H0 : Hp) (g : GE) : TE := fun σ H Q => ∃ σd O, Rst K b H0 σd σ H O ∧ g σd (KFd K b O H Q)
structure DFd (b : Option Addr) (H0 : Hp) (X : Cx) (e : Expr) (g : GE) : Prop where
  pe : PE X e (LFd X.K b H0 g)
  mn : Mn g
def gDN (rd : D → (List (Key × D) → Prop) → Prop) (ga : GE) : GE := fun σ k => ga σ fun d => rd d fun l => k (dicP l)
def gAsgFD (i : Nat) (ge : GE) : GSt := fun D σ => ge σ fun d => match d with
  | .dic ks ds => D.nx (put σ i (.owd ((ks.zip ds).map (·.1)) ((ks.zip ds).map (·.2))))
  | _ => False
section
variable {X : Cx} {b : Option Addr} {H0 : Hp} {E : XK} {eo : XD → Prop} {s : GS} {k : Nat} {f : Addr} {ks : List Str} {c m x fn : Str} {a o e : Expr} {es args : List Expr} {kws : List Keyword} {g : GA} {ga ge go : GE} {pos p apos pos' cpos : Pos} {i : Nat}
theorem dfd_call {T : String} {r : List V → Hp → VK → Prop} {rd : D → (List (Key × D) → Prop) → Prop} (hc : CallR X (.type T) r) (o : Cl1O X.K b r rd) (hg : Gl X fn) (hm : X.mg fn = none) (hv : bootBuiltins fn = some (.type T)) (A : DE b H0 X a ga) (hn : fn ≠ "__name__" := by decide) (hdb : (fn == ("__debug__" : Str)) = false := by decide)
    (he : starEach [a] X.env = (false, eval a X.env) :: starEach [] X.env := by rfl) : DFd b H0 X (.Call (.Name fn p) [a] [] pos) (gDN rd ga) :=
  ⟨pe_imp (pe_callTy hc hg hm hv (pa_cons A.pe pa_nil he) hn hdb he rfl) fun σ H Q ⟨σd, O, R, q⟩ => ⟨σd, O, R, A.mn _ _ _ (fun x hx v1 H1 x1 r1 => o.ok O H1 x v1 Q (fun p hp => (R.mono x1).free hp) r1 (o.mn _ _ _ (fun l kd p m hp kr => by
    have hf : Fre H p := fun o e => by
      cases t : nt o with
      | false => rfl
      | true =>
        exfalso
        by_cases hb : some p = b
        · exact ((R.mono x1).free hp).2 hb
        · have := x1.1 p o hb e t
          rw [hp] at this; cases this
    have kd : ∀ p m H', some p ≠ b → Fre H p → Ext b H H' → H' p = some (.dK m) → KR X.K b (hide (p :: O) H') ((l.map (·.1)).zip (l.map (·.2))) m → Q (.ref p) H' := kd
    exact kd p m _ ((R.mono x1).free hp).2 hf (x1.trans (.new hp)) upd_same (by rw [zip_parts, hide_newO hp]; exact kr)) hx)) q⟩, fun σ k k' i q => A.mn _ _ _ (fun d z => o.mn _ _ _ (fun l w => i _ w) z) q⟩
theorem gAsgFD_mn (A : Mn ge) : MnD (gAsgFD i ge) := fun D D' σ h1 _ _ _ q => A _ _ _ (fun d z => by
  cases d <;> first | exact h1 _ z | exact z.elim) q
theorem ds_asgFD (hN : X.N.Nodup) (hi : X.N[i]? = some x) (hx : Loc X.env.scope x) (A : DFd b H0 X e ge) (hs : swapsWith e (some (.Name x pos')) pos.line X.env = pure false := by rfl) (hf : X.fn x = true ∨ X.env.scope.names.lookup x = some .local := by first | exact .inl rfl | exact .inr rfl | assumption) :
    DS b H0 X (.Assign [.Name x pos'] e pos) (gAsgFD i ge) :=
  ⟨ps_imp (ps_set hN hi hx A.pe hs hf) fun D σ H ⟨σd, O, R, q⟩ => by
    refine ⟨σd, O, R, A.mn _ _ _ (fun d z => ?_) q⟩
    cases d with
    | dic ks ds =>
      intro p m H1 hb hf x hp r
      have R1 := R.hidePd hb hf x hp
      have hm := R.fre hf
      exact z _ _ _ (R1.takePd i (fun j => R.noOwn hm j) List.mem_cons_self hp r) (R.hideXd hb hf x hp)
    | _ => exact z.elim, gAsgFD_mn A.mn⟩
end
/-! ### a def that hands back a new dict -/
def liftFD (K : Fg) (s : GS) : Sp := fun vs H Q E => ∃ b ds, Bg b H ∧ Reps K b H ds vs ∧ s ds (fun d => match d with
  | .dic ks es => ∀ p m H', some p ≠ b → Fre H p → Ext b H H' → H' p = some (.dK m) → KR K b (hide [p] H') (ks.zip es) m → Q (.ref p) H'
  | _ => False) (fun x => ∀ cls d H', Ext b H H' → XAt K b H' x cls d → E cls d H')
section
variable {P : Program} {w : World} {K : Fg} {mg : Str → Option Value} {base : Heap} {x qual : Str} {params : Arguments} {scope : Scope} {dvs : List V} {kws : List (Str × V)} {f : Addr} {fd : FuncData}
theorem okFD {N ps : List Str} {k : Nat} {s : GS} {e : Expr} {pos : Pos} (F : FunD K x qual params [.Return (some e) pos] scope dvs kws f fd) (S : FnScope N ps scope) (hl : ∀ ds k e, s ds k e → ds.length = ps.length)
    (hbody : ∀ (cdv : Value) (A : Around) (outer : List Env) (s0 : Shared) (H : Hp) (E : XK) (b : Option Addr) (eo : XD → Prop), Room k (A.deeper (envOfC qual scope s0.heap.objs.size f cdv)) → Cz (cxOf (L2.CX P w) P w K mg base N qual scope f cdv A outer s0 H E) b H E eo →
      ∃ g, DFd b H (cxOf (L2.CX P w) P w K mg base N qual scope f cdv A outer s0 H E) e g ∧ ∀ ds k, s ds k eo → g (startD N ds) k) : FnOk P w K mg base (L2.CX P w) (k + 1) f fd ps (liftFD K s) := by
  refine F.ok S (fun vs H Q E ⟨b, ds, _, r, h⟩ => by rw [← r.length]; exact hl _ _ _ h) fun cdv A outer s0 H vs Q E hr ⟨b, ds, bg, r, h⟩ => ?_
  obtain ⟨g, dg, rd⟩ := hbody cdv A outer s0 H E b (fun x => ∀ cls d H', Ext b H H' → XAt K b H' x cls d → E cls d H') hr ⟨passes_call (takes_of rfl rfl rfl rfl) fun _ _ _ _ z => z, fun x cls d H' z x1 xa => z cls d H' x1 xa⟩
  refine ⟨_, pss_one (ps_ret dg.pe), startD N ds, [], rst_start bg r, dg.mn _ _ _ (fun d z => ?_) (rd ds _ h)⟩
  cases d with
  | dic ks es => exact fun p m H' hb hf x hp r => z p m H' hb hf x hp r
  | _ => exact z.elim
end
section
variable {X : Cx} {b : Option Addr} {H0 : Hp} {E : XK} {eo : XD → Prop} {s : GS} {k : Nat} {f : Addr} {ks : List Str} {c m x : Str} {o e : Expr} {args : List Expr} {kws : List Keyword} {ga : GA} {ge go : GE} {pos p apos pos' cpos : Pos} {i : Nat}
theorem run_fnCFD {pins : List (Addr × Obj)} {σ : L2.St} {σd : StD} {H : Hp} {s0 : Shared} {O : List Addr} {us kus : List Value} {vs : List V} {ds : List D} {Q : VK} (F : FnC X.prog X.w X.K X.mg X.base k f ks (liftFD X.K s)) (ms : MnS s) (hr : Room k X.A) (Z : Cz X b H0 E eo)
    (I : Inv X pins σ H s0) (hk : kus.length = ks.length) (r2 : Vals vs (us ++ kus)) (R : Rst X.K b H0 σd σ H O) (rp : Reps X.K b (hide O H) ds vs) (h : s ds (KFd X.K b O H Q) eo) :
    wpAny (model X.prog X.w) X.A (call (.ref f) us (ks.zip kus)) (EP X pins σ Q) X.xe s0 := by
  have hO : ∀ a ∈ O, Hid O H a := fun a m => (R.nb a m).2.2
  have I1 := inv_hide I hO
  have sp : liftFD X.K s vs (hide O H) (fun v H2 => (∀ a ∈ O, H2 a = none) → Q v (back O H H2)) E := by
    refine ⟨b, ds, R.bg, rp, ms _ _ _ _ _ (fun d hd => ?_) (fun x hx cls d H2 x2 xa => ?_) h⟩
    · cases d with
      | dic ks es =>
        intro p m H2 hb hf x hp r fr
        have hm : p ∉ O := fun z => by rw [fr p z] at hp; cases hp
        refine hd p m _ hb (fun o e => hf o (by rw [hide_out hm]; exact e)) (back_ext (fun a m => ⟨(R.nb a m).1, (R.nb a m).2.2⟩) fr x) (by rw [back_out hm]; exact hp) ?_
        rw [back_hideP (by rw [hp]; simp) fr]
        exact r
      | _ => exact hd.elim
    · exact Z.ex x cls d H2 hx (R.le.trans x2) xa
  refine wpAny_call (codeAny_mono (F X.A X.stack s0 (hide O H) us kus vs _ E hr I1.env0 hk r2 sp) fun r s' hq => ?_)
  cases r with
  | error e => exact Z.pass pins σ (hide O H) s0 e s' I1 hq
  | ok fl =>
    cases fl with
    | ret u =>
      obtain ⟨v, H2, os, bare, un, ok, rv, q⟩ := hq
      obtain ⟨fr, I2⟩ := inv_back I hO os bare un ok
      exact ⟨v, _, I2, rv, q fr⟩
    | next => exact False.elim hq
    | brk => exact False.elim hq
    | cont => exact False.elim hq
theorem dfd_mc {pl : Sem Bool} (G : DE b H0 X o go) (cl : Cls X.K (He.ga X.K c)) (hm : Meth X.K (He.ga X.K c) m f) (F : FnC X.prog X.w X.K X.mg X.base k f ks (liftFD X.K s)) (ms : MnS s) (hr : Room k X.A) (Z : Cz X b H0 E eo) (A : DCA b H0 X pos args kws ks ga)
    (ht : eval (.Call (.Attribute o m apos) args kws pos) X.env = (do
      let ov ← eval o X.env
      standAt apos.atName
      let (f, first) ← holding [ov] (getMethod ov m pl)
      callWith pos f first (backTo pos (starEach args X.env)) (backToKw pos (keywordEach kws X.env))) := by rfl) :
    DFd b H0 X (.Call (.Attribute o m apos) args kws pos) (gMc c m s eo go ga) := by
  refine ⟨⟨fun pins s0 σ H Q I ⟨σd, O, R, q⟩ => ?_⟩, gMc_mn ms G.mn A.mn⟩
  refine PySem.W.methodCall_KW (pl := pl) (thn (G.pe.run pins s0 σ H (fun v H' => ∃ a dx fs d, v = .ref a ∧ H' a = some (.ins (He.ga X.K c) dx fs) ∧ fs.lookup m = none ∧ Rst X.K b H0 σd σ H' O ∧ Rep X.K b (hide O H') d (.ref a) ∧ ga σd fun es => s (d :: es) (KFd X.K b O H' Q) eo) I
    ⟨σd, O, R, G.mn _ _ _ (fun d z v H' x1 r => ?_) q⟩) fun u s1 ⟨x, H1, I1, rx, a, dx, fs, d, ex, ea, l, R1, rd, q1⟩ => ?_) ht
  · cases d with
    | ins c' ns ds =>
      obtain ⟨e1, e2, z⟩ := z
      subst e1
      obtain ⟨a, dx, vs, rfl, n, h, l, rs⟩ := r.ins
      exact ⟨a, dx, _, _, rfl, (of_hide h).2, lookup_zip_none e2, R.mono x1, r, A.mn _ _ _ (fun es w => ms _ _ _ _ _ (fun d w => KFd.ext x1 w) (fun _ w => w) w) z⟩
    | _ => exact z.elim
  · subst ex
    obtain rfl : u = Value.ref a := rx
    refine getmeth_ok I1 ea cl hm l ?_
    refine A.run pins s1 σ H1 (.ref f) [.ref a] _ I1 hm.kp ⟨σd, O, R1, A.mn _ _ _ (fun ds z us kus vs H2 s2 I2 x2 hl r rp => ?_) q1⟩
    exact run_fnCFD (us := .ref a :: us) (vs := .ref a :: vs) F ms hr Z I2 hl (.cons rfl r) (R1.mono x2) (Reps.cons (rd.mono (x2.1.hide O)) rp) (ms _ _ _ _ _ (fun d w => KFd.ext x2 w) (fun _ w => w) z)
end
/-! ### readings -/
section
variable {σ : StD} {ge ga g : GE} {v : GSt} {D' : EndD} {i : Nat} {d : D}
theorem s_dclr {τ : StD} {l : List (Str × D)} (hl : look σ i = owS l) (p : Pt σ i (owS []) τ) (r : Stp (v D' τ)) : Stp (gSeq (gDClr i) v D' σ) := ⟨by
  show match look σ i with
  | .owd _ _ => v D' (put σ i (.owd [] []))
  | _ => False
  rw [hl]
  have e := p.eq
  show v D' (put σ i (.owd [] []))
  rw [show put σ i (.owd [] []) = τ from e]
  exact r.run⟩
abbrev frdS (l : List (Str × D)) : D := .frd ((ksS l).map (·.1)) ((ksS l).map (·.2))
theorem ev_ldD {l : List (Str × D)} (hl : look σ i = owS l) (h : Ev g (put σ i (.sh (frdS l))) d) (n : noF d = true) : Ev (gLdD i g) σ d := .mk fun k q => by
  unfold gLdD
  rw [hl]
  exact ⟨by rw [List.length_map, List.length_map], h.run _ ⟨n, q⟩⟩
theorem s_asgFD {τ : StD} {l : List (Str × D)} (A : Ev ge σ (dicS l)) (p : Pt σ i (owS l) τ) (r : Stp (v D' τ)) : Stp (gSeq (gAsgFD i ge) v D' σ) := ⟨A _ (by
  show v D' (put σ i (.owd ((((ksS l).map (·.1)).zip ((ksS l).map (·.2))).map (·.1)) ((((ksS l).map (·.1)).zip ((ksS l).map (·.2))).map (·.2))))
  rw [zip_dic]
  have e := p.eq
  rw [show put σ i (.owd ((ksS l).map (·.1)) ((ksS l).map (·.2))) = τ from e]
  exact r.run)⟩
end
end DL
/-! K31H -/
set_option Elab.async false
set_option linter.all false
set_option maxRecDepth 100000
set_option maxHeartbeats 0
namespace LK
open PySem PySem.Spec PyProof.Rows L2 DL
def top (i : Nat) : Stmt := PySem.Challenge.pw_anystride_k31_forms_told.main.body.getD i (.Pass ⟨0, 0, 0, 0⟩)
def clsBody (s : Stmt) : List Stmt := match s with
  | .ClassDef (body := b) .. => b
  | _ => []
def mth (i j : Nat) : Stmt := (clsBody (top i)).getD j (.Pass ⟨0, 0, 0, 0⟩)
def dd__law_bag : He.DefD := ⟨("_law_bag", none), "_law_bag", "_law_bag", defArgs (top 27), defBody (top 27), defScope (top 27), [], []⟩
def dd__law_draw : He.DefD := ⟨("_law_draw", none), "_law_draw", "_law_draw", defArgs (top 28), defBody (top 28), defScope (top 28), [], []⟩
def dd__law_of : He.DefD := ⟨("_law_of", none), "_law_of", "_law_of", defArgs (top 29), defBody (top 29), defScope (top 29), [], []⟩
def dd__law_names : He.DefD := ⟨("_law_names", none), "_law_names", "_law_names", defArgs (top 36), defBody (top 36), defScope (top 36), [], []⟩
def dd__law_gcd : He.DefD := ⟨("_law_gcd", none), "_law_gcd", "_law_gcd", defArgs (top 34), defBody (top 34), defScope (top 34), [], []⟩
def dd__law_low : He.DefD := ⟨("_law_low", none), "_law_low", "_law_low", defArgs (top 35), defBody (top 35), defScope (top 35), [], []⟩
def dd_is_number : He.DefD := ⟨("is_number", none), "is_number", "is_number", defArgs (top 13), defBody (top 13), defScope (top 13), [], []⟩
def dd_InvalidNumber_init : He.DefD := ⟨("InvalidNumber", some "__init__"), "__init__", "InvalidNumber.__init__", defArgs (mth 5 0), defBody (mth 5 0), defScope (mth 5 0), [], []⟩
def dd_ZeroDivisor_init : He.DefD := ⟨("ZeroDivisor", some "__init__"), "__init__", "ZeroDivisor.__init__", defArgs (mth 8 0), defBody (mth 8 0), defScope (mth 8 0), [], []⟩
def dd_Ratio_init : He.DefD := ⟨("Ratio", some "__init__"), "__init__", "Ratio.__init__", defArgs (mth 16 0), defBody (mth 16 0), defScope (mth 16 0), [.int (1)], []⟩
def dd_is_name : He.DefD := ⟨("is_name", none), "is_name", "is_name", defArgs (top 22), defBody (top 22), defScope (top 22), [], []⟩
def dd_InvalidName_init : He.DefD := ⟨("InvalidName", some "__init__"), "__init__", "InvalidName.__init__", defArgs (mth 6 0), defBody (mth 6 0), defScope (mth 6 0), [], []⟩
def dd_is_part : He.DefD := ⟨("is_part", none), "is_part", "is_part", defArgs (top 17), defBody (top 17), defScope (top 17), [], []⟩
def dd_ratio_of : He.DefD := ⟨("ratio_of", none), "ratio_of", "ratio_of", defArgs (top 18), defBody (top 18), defScope (top 18), [], []⟩
def dd_Ratio_pair : He.DefD := ⟨("Ratio", some "pair"), "pair", "Ratio.pair", defArgs (mth 16 2), defBody (mth 16 2), defScope (mth 16 2), [], []⟩
def dd_Ratio_eq : He.DefD := ⟨("Ratio", some "__eq__"), "__eq__", "Ratio.__eq__", defArgs (mth 16 15), defBody (mth 16 15), defScope (mth 16 15), [], []⟩
def dd_Form_init : He.DefD := ⟨("Form", some "__init__"), "__init__", "Form.__init__", defArgs (mth 24 0), defBody (mth 24 0), defScope (mth 24 0), [.non], [("constant", .int (0))]⟩
def dd_Form_terms : He.DefD := ⟨("Form", some "terms"), "terms", "Form.terms", defArgs (mth 24 3), defBody (mth 24 3), defScope (mth 24 3), [], []⟩
def dd_Form_names : He.DefD := ⟨("Form", some "names"), "names", "Form.names", defArgs (mth 24 4), defBody (mth 24 4), defScope (mth 24 4), [], []⟩
def dd__law_same : He.DefD := ⟨("_law_same", none), "_law_same", "_law_same", defArgs (top 30), defBody (top 30), defScope (top 30), [], []⟩
def dd_Form_factor : He.DefD := ⟨("Form", some "factor"), "factor", "Form.factor", defArgs (mth 24 5), defBody (mth 24 5), defScope (mth 24 5), [], []⟩
def dd_Form_eq : He.DefD := ⟨("Form", some "__eq__"), "__eq__", "Form.__eq__", defArgs (mth 24 13), defBody (mth 24 13), defScope (mth 24 13), [], []⟩
def dd_Form_of : He5.DefA := ⟨fun K => (smA K "Form" "of"), "of", "Form.of", defArgs (mth 24 1), defBody (mth 24 1), defScope (mth 24 1), [], []⟩
def dd_Ratio_add : He.DefD := ⟨("Ratio", some "__add__"), "__add__", "Ratio.__add__", defArgs (mth 16 7), defBody (mth 16 7), defScope (mth 16 7), [], []⟩
def dd__law_field : He.DefD := ⟨("_law_field", none), "_law_field", "_law_field", defArgs (top 31), defBody (top 31), defScope (top 31), [], []⟩
def dd__law_why : He.DefD := ⟨("_law_why", none), "_law_why", "_law_why", defArgs (top 32), defBody (top 32), defScope (top 32), [], []⟩
def dd__law_whys : He.DefD := ⟨("_law_whys", none), "_law_whys", "_law_whys", defArgs (top 33), defBody (top 33), defScope (top 33), [], []⟩
def dd_law : He.DefD := ⟨("law", none), "law", "law", defArgs (top 37), defBody (top 37), defScope (top 37), [], []⟩
def fs : List He5.DefA := [dd_Form_of]
def fn : List He.DefD := [dd__law_bag, dd__law_draw, dd__law_of, dd__law_names, dd__law_gcd, dd__law_low, dd_is_number, dd_InvalidNumber_init, dd_ZeroDivisor_init, dd_Ratio_init, dd_is_name, dd_InvalidName_init, dd_is_part, dd_ratio_of, dd_Ratio_pair, dd_Ratio_eq, dd_Form_init, dd_Form_terms, dd_Form_names, dd__law_same, dd_Form_factor, dd_Form_eq, dd_Ratio_add, dd__law_field, dd__law_why, dd__law_whys, dd_law]
def fa : List He.Fa := [.glo "_law_bag",
  .glo "_law_draw",
  .glo "_law_of",
  .glo "_law_names",
  .glo "_law_gcd",
  .glo "_law_low",
  .glo "is_number",
  .glo "is_name",
  .glo "is_part",
  .glo "ratio_of",
  .glo "_law_same",
  .glo "_law_field",
  .glo "_law_why",
  .glo "_law_whys",
  .glo "law",
  .glo "InvalidNumber",
  .glo "StrideError",
  .glo "Missing",
  .glo "NothingLeft",
  .glo "ZeroDivisor",
  .glo "Ratio",
  .glo "InvalidName",
  .glo "Form",
  .free "int",
  .free "len",
  .free "range",
  .free "dict",
  .free "abs",
  .free "isinstance",
  .free "bool",
  .free "sorted",
  .free "list",
  .free "all",
  .free "str",
  .free "tuple",
  .free "zip",
  .str "SMALL" "abcdefghijklmnopqrstuvwxyz",
  .int "MOST_NAME" (6),
  .cls "Ratio",
  .cls "Form",
  .mkr "Ratio",
  .mkr "Form",
  .noat "Ratio" "top",
  .noat "Ratio" "bottom",
  .noat "Form" "constant",
  .noat "Form" "own_terms",
  .meth "Ratio" "pair",
  .meth "Form" "terms",
  .meth "Form" "names",
  .meth "Form" "factor"]
def tf : List He.Defn := [("law", none)]
abbrev CLS : List Str := ["Ratio", "Form"]
def subC (c C : Str) : Bool := decide (c = C)
def exs (K : Fg) : List Bool := [clsB K CLS subC,
  baseB K .ve (He.ga K "StrideError"),
  errsB K ["InvalidNumber", "ZeroDivisor", "InvalidName"] "StrideError" "Missing" "NothingLeft",
  errB K .ve "InvalidNumber" ["given"],
  errB K .ve "ZeroDivisor" [],
  errB K .ve "InvalidName" ["name"],
  bltB K "gcd" "math.gcd",
  ownB1 K (He.ga K "Ratio") "__eq__" (He.ma K (He.ga K "Ratio") "__eq__"),
  nfB K (He.ga K "Ratio"),
  ownNeB K (He.ga K "Ratio"),
  ownB1 K (He.ga K "Form") "__eq__" (He.ma K (He.ga K "Form") "__eq__"),
  smB K "Form" "of",
  nfB K (He.ga K "Form"),
  ownB2 K (He.ga K "Ratio") .Add (He.ma K (He.ga K "Ratio") "__add__")]
def exB (K : Fg) : Bool := (exs K).all id
abbrev R : PySem.W.OpenRow := PySem.W.OpenLaw.row PySem.Challenge.rw_anystride_k31_forms_told
def AS : List Addr := [2, 3, 6, 4, 49, 59, 72, 92, 111, 130, 149, 168, 178, 183, 190, 335, 346, 353, 358, 473, 484, 489, 496, 503, 508, 515, 522, 529, 536, 543, 548, 553, 0, 48, 58, 71, 91, 110, 129, 148, 167, 177, 182, 189, 334, 345, 352, 357, 472, 483, 488, 495, 502, 507, 514, 521, 528, 535, 542, 547, 552, 43, 44, 45, 46, 47, 57, 60, 70, 73, 89, 90, 108, 109, 127, 128, 146, 147, 165, 166, 169, 172, 173, 174, 175, 176, 179, 180, 181, 184, 185, 186, 187, 188, 205, 212, 220, 227, 234, 241, 248, 255, 262, 269, 276, 283, 290, 297, 304, 311, 318, 325, 332, 333, 336, 337, 340, 341, 342, 343, 344, 347, 348, 349, 350, 351, 354, 355, 356, 372, 381, 391, 399, 406, 413, 420, 425, 430, 437, 442, 449, 456, 463, 470, 471, 474, 475, 478, 479, 480, 481, 482, 485, 486, 487, 490, 491, 492, 493, 494, 497, 498, 499, 500, 501, 504, 505, 506, 509, 510, 511, 512, 513, 516, 517, 518, 519, 520, 523, 524, 525, 526, 527, 530, 531, 532, 533, 534, 537, 538, 539, 540, 541, 544, 545, 546, 549, 550, 551, 88, 107, 126, 145, 164, 204, 198, 210, 211, 219, 226, 233, 240, 247, 254, 261, 268, 275, 282, 289, 296, 303, 310, 317, 324, 331, 371, 366, 367, 379, 380, 389, 390, 398, 405, 412, 419, 424, 429, 436, 441, 448, 455, 462, 469, 83, 84, 85, 86, 87, 102, 103, 104, 105, 106, 121, 122, 123, 124, 125, 140, 141, 142, 143, 144, 159, 160, 161, 162, 163, 199, 200, 201, 202, 203, 209, 213, 214, 215, 216, 217, 218, 221, 222, 223, 224, 225, 228, 229, 230, 231, 232, 235, 236, 237, 238, 239, 242, 243, 244, 245, 246, 249, 250, 251, 252, 253, 256, 257, 258, 259, 260, 263, 264, 265, 266, 267, 270, 271, 272, 273, 274, 277, 278, 279, 280, 281, 284, 285, 286, 287, 288, 291, 292, 293, 294, 295, 298, 299, 300, 301, 302, 305, 306, 307, 308, 309, 312, 313, 314, 315, 316, 319, 320, 321, 322, 323, 326, 327, 328, 329, 330, 368, 369, 370, 378, 382, 388, 392, 393, 394, 395, 396, 397, 400, 401, 402, 403, 404, 407, 408, 409, 410, 411, 414, 415, 416, 417, 418, 421, 422, 423, 426, 427, 428, 431, 432, 433, 434, 435, 438, 439, 440, 443, 444, 445, 446, 447, 450, 451, 452, 453, 454, 457, 458, 459, 460, 461, 464, 465, 466, 467, 468]
def ss : List (He.DefD × Str) := []
abbrev hk : PySem.W.Hook := He.hookR AS fa fn fs ss [] tf exB
def ob (s : PySem.W.SharedT) : (He.AlX × He.AlD) × He.AlS := He.obsR AS fa fn fs ss [] tf exB (HandSHeadRun.getT s)
theorem ob_eq (s : PySem.W.SharedT) : ob s = hk.obs s.abs := He.obsR_eq (HandSHeadRun.getT_eq s)
def names0 : List PySem.Str := ["_wall", "StrideError", "Missing", "InvalidNumber", "InvalidName", "InvalidText", "ZeroDivisor", "NothingLeft", "FIGURES", "MOST_FIGURES", "is_number", "is_figures", "whole_of", "Ratio", "is_part", "ratio_of", "SMALL", "MOST_NAME", "is_name", "Form", "read_term", "_law_bag", "_law_draw", "_law_of", "_law_same", "_law_field", "_law_why", "_law_whys", "_law_gcd", "_law_low"]
def names1 : List PySem.Str := ["_law_names"]
def names : List PySem.Str := names0 ++ names1
theorem run (w : World) : HandSHeadRun.RunEqI R (PySem.W.view R.prog [0, 37]) hk ob 20000 names w := by
  unfold HandSHeadRun.RunEqI
  kernel_rfl
end LK
/-! K31F -/
set_option Elab.async false
set_option linter.all false
set_option maxRecDepth 100000
set_option maxHeartbeats 4000000
namespace LK
open PySem PySem.Spec PyProof.Rows L2 DL
variable [TabC]
structure Facts (K : Fg) (mg : Str → Option Value) : Prop where
  g__law_bag : mg "_law_bag" = some (.ref (He.ga K "_law_bag"))
  g__law_draw : mg "_law_draw" = some (.ref (He.ga K "_law_draw"))
  g__law_of : mg "_law_of" = some (.ref (He.ga K "_law_of"))
  g__law_names : mg "_law_names" = some (.ref (He.ga K "_law_names"))
  g__law_gcd : mg "_law_gcd" = some (.ref (He.ga K "_law_gcd"))
  g__law_low : mg "_law_low" = some (.ref (He.ga K "_law_low"))
  g_is_number : mg "is_number" = some (.ref (He.ga K "is_number"))
  g_is_name : mg "is_name" = some (.ref (He.ga K "is_name"))
  g_is_part : mg "is_part" = some (.ref (He.ga K "is_part"))
  g_ratio_of : mg "ratio_of" = some (.ref (He.ga K "ratio_of"))
  g__law_same : mg "_law_same" = some (.ref (He.ga K "_law_same"))
  g__law_field : mg "_law_field" = some (.ref (He.ga K "_law_field"))
  g__law_why : mg "_law_why" = some (.ref (He.ga K "_law_why"))
  g__law_whys : mg "_law_whys" = some (.ref (He.ga K "_law_whys"))
  g_law : mg "law" = some (.ref (He.ga K "law"))
  g_InvalidNumber : mg "InvalidNumber" = some (.ref (He.ga K "InvalidNumber"))
  g_StrideError : mg "StrideError" = some (.ref (He.ga K "StrideError"))
  g_Missing : mg "Missing" = some (.ref (He.ga K "Missing"))
  g_NothingLeft : mg "NothingLeft" = some (.ref (He.ga K "NothingLeft"))
  g_ZeroDivisor : mg "ZeroDivisor" = some (.ref (He.ga K "ZeroDivisor"))
  g_Ratio : mg "Ratio" = some (.ref (He.ga K "Ratio"))
  g_InvalidName : mg "InvalidName" = some (.ref (He.ga K "InvalidName"))
  g_Form : mg "Form" = some (.ref (He.ga K "Form"))
  n_int : mg "int" = none
  n_len : mg "len" = none
  n_range : mg "range" = none
  n_dict : mg "dict" = none
  n_abs : mg "abs" = none
  n_isinstance : mg "isinstance" = none
  n_bool : mg "bool" = none
  n_sorted : mg "sorted" = none
  n_list : mg "list" = none
  n_all : mg "all" = none
  n_str : mg "str" = none
  n_tuple : mg "tuple" = none
  n_zip : mg "zip" = none
  c_SMALL : ∃ t, mg "SMALL" = some (.str "abcdefghijklmnopqrstuvwxyz" t)
  c_MOST_NAME : ∃ t, mg "MOST_NAME" = some (.int (6) t)
  c_Ratio : Cls K (He.ga K "Ratio")
  c_Form : Cls K (He.ga K "Form")
  k_Ratio : Mk K (He.ga K "Ratio") (He.ma K (He.ga K "Ratio") "__init__")
  k_Form : Mk K (He.ga K "Form") (He.ma K (He.ga K "Form") "__init__")
  a_Ratio_top : NoAttr K (He.ga K "Ratio") "top"
  a_Ratio_bottom : NoAttr K (He.ga K "Ratio") "bottom"
  a_Form_constant : NoAttr K (He.ga K "Form") "constant"
  a_Form_own_terms : NoAttr K (He.ga K "Form") "own_terms"
  m_Ratio_pair : Meth K (He.ga K "Ratio") "pair" (He.ma K (He.ga K "Ratio") "pair")
  m_Form_terms : Meth K (He.ga K "Form") "terms" (He.ma K (He.ga K "Form") "terms")
  m_Form_names : Meth K (He.ga K "Form") "names" (He.ma K (He.ga K "Form") "names")
  m_Form_factor : Meth K (He.ga K "Form") "factor" (He.ma K (He.ga K "Form") "factor")
  d__law_bag : FunD K "_law_bag" "_law_bag" (defArgs (top 27)) (defBody (top 27)) (defScope (top 27)) [] [] (He.ga K "_law_bag") (fdOf K (He.ga K "_law_bag"))
  d__law_draw : FunD K "_law_draw" "_law_draw" (defArgs (top 28)) (defBody (top 28)) (defScope (top 28)) [] [] (He.ga K "_law_draw") (fdOf K (He.ga K "_law_draw"))
  d__law_of : FunD K "_law_of" "_law_of" (defArgs (top 29)) (defBody (top 29)) (defScope (top 29)) [] [] (He.ga K "_law_of") (fdOf K (He.ga K "_law_of"))
  d__law_names : FunD K "_law_names" "_law_names" (defArgs (top 36)) (defBody (top 36)) (defScope (top 36)) [] [] (He.ga K "_law_names") (fdOf K (He.ga K "_law_names"))
  d__law_gcd : FunD K "_law_gcd" "_law_gcd" (defArgs (top 34)) (defBody (top 34)) (defScope (top 34)) [] [] (He.ga K "_law_gcd") (fdOf K (He.ga K "_law_gcd"))
  d__law_low : FunD K "_law_low" "_law_low" (defArgs (top 35)) (defBody (top 35)) (defScope (top 35)) [] [] (He.ga K "_law_low") (fdOf K (He.ga K "_law_low"))
  d_is_number : FunD K "is_number" "is_number" (defArgs (top 13)) (defBody (top 13)) (defScope (top 13)) [] [] (He.ga K "is_number") (fdOf K (He.ga K "is_number"))
  d_InvalidNumber_init : FunD K "__init__" "InvalidNumber.__init__" (defArgs (mth 5 0)) (defBody (mth 5 0)) (defScope (mth 5 0)) [] [] (He.ma K (He.ga K "InvalidNumber") "__init__") (fdOf K (He.ma K (He.ga K "InvalidNumber") "__init__"))
  d_ZeroDivisor_init : FunD K "__init__" "ZeroDivisor.__init__" (defArgs (mth 8 0)) (defBody (mth 8 0)) (defScope (mth 8 0)) [] [] (He.ma K (He.ga K "ZeroDivisor") "__init__") (fdOf K (He.ma K (He.ga K "ZeroDivisor") "__init__"))
  d_Ratio_init : FunD K "__init__" "Ratio.__init__" (defArgs (mth 16 0)) (defBody (mth 16 0)) (defScope (mth 16 0)) [.int (1)] [] (He.ma K (He.ga K "Ratio") "__init__") (fdOf K (He.ma K (He.ga K "Ratio") "__init__"))
  d_is_name : FunD K "is_name" "is_name" (defArgs (top 22)) (defBody (top 22)) (defScope (top 22)) [] [] (He.ga K "is_name") (fdOf K (He.ga K "is_name"))
  d_InvalidName_init : FunD K "__init__" "InvalidName.__init__" (defArgs (mth 6 0)) (defBody (mth 6 0)) (defScope (mth 6 0)) [] [] (He.ma K (He.ga K "InvalidName") "__init__") (fdOf K (He.ma K (He.ga K "InvalidName") "__init__"))
  d_is_part : FunD K "is_part" "is_part" (defArgs (top 17)) (defBody (top 17)) (defScope (top 17)) [] [] (He.ga K "is_part") (fdOf K (He.ga K "is_part"))
  d_ratio_of : FunD K "ratio_of" "ratio_of" (defArgs (top 18)) (defBody (top 18)) (defScope (top 18)) [] [] (He.ga K "ratio_of") (fdOf K (He.ga K "ratio_of"))
  d_Ratio_pair : FunD K "pair" "Ratio.pair" (defArgs (mth 16 2)) (defBody (mth 16 2)) (defScope (mth 16 2)) [] [] (He.ma K (He.ga K "Ratio") "pair") (fdOf K (He.ma K (He.ga K "Ratio") "pair"))
  d_Ratio_eq : FunD K "__eq__" "Ratio.__eq__" (defArgs (mth 16 15)) (defBody (mth 16 15)) (defScope (mth 16 15)) [] [] (He.ma K (He.ga K "Ratio") "__eq__") (fdOf K (He.ma K (He.ga K "Ratio") "__eq__"))
  d_Form_init : FunD K "__init__" "Form.__init__" (defArgs (mth 24 0)) (defBody (mth 24 0)) (defScope (mth 24 0)) [.non] [("constant", .int (0))] (He.ma K (He.ga K "Form") "__init__") (fdOf K (He.ma K (He.ga K "Form") "__init__"))
  d_Form_terms : FunD K "terms" "Form.terms" (defArgs (mth 24 3)) (defBody (mth 24 3)) (defScope (mth 24 3)) [] [] (He.ma K (He.ga K "Form") "terms") (fdOf K (He.ma K (He.ga K "Form") "terms"))
  d_Form_names : FunD K "names" "Form.names" (defArgs (mth 24 4)) (defBody (mth 24 4)) (defScope (mth 24 4)) [] [] (He.ma K (He.ga K "Form") "names") (fdOf K (He.ma K (He.ga K "Form") "names"))
  d__law_same : FunD K "_law_same" "_law_same" (defArgs (top 30)) (defBody (top 30)) (defScope (top 30)) [] [] (He.ga K "_law_same") (fdOf K (He.ga K "_law_same"))
  d_Form_factor : FunD K "factor" "Form.factor" (defArgs (mth 24 5)) (defBody (mth 24 5)) (defScope (mth 24 5)) [] [] (He.ma K (He.ga K "Form") "factor") (fdOf K (He.ma K (He.ga K "Form") "factor"))
  d_Form_eq : FunD K "__eq__" "Form.__eq__" (defArgs (mth 24 13)) (defBody (mth 24 13)) (defScope (mth 24 13)) [] [] (He.ma K (He.ga K "Form") "__eq__") (fdOf K (He.ma K (He.ga K "Form") "__eq__"))
  d_Form_of : FunD K "of" "Form.of" (defArgs (mth 24 1)) (defBody (mth 24 1)) (defScope (mth 24 1)) [] [] (smA K "Form" "of") (fdOf K (smA K "Form" "of"))
  d_Ratio_add : FunD K "__add__" "Ratio.__add__" (defArgs (mth 16 7)) (defBody (mth 16 7)) (defScope (mth 16 7)) [] [] (He.ma K (He.ga K "Ratio") "__add__") (fdOf K (He.ma K (He.ga K "Ratio") "__add__"))
  d__law_field : FunD K "_law_field" "_law_field" (defArgs (top 31)) (defBody (top 31)) (defScope (top 31)) [] [] (He.ga K "_law_field") (fdOf K (He.ga K "_law_field"))
  d__law_why : FunD K "_law_why" "_law_why" (defArgs (top 32)) (defBody (top 32)) (defScope (top 32)) [] [] (He.ga K "_law_why") (fdOf K (He.ga K "_law_why"))
  d__law_whys : FunD K "_law_whys" "_law_whys" (defArgs (top 33)) (defBody (top 33)) (defScope (top 33)) [] [] (He.ga K "_law_whys") (fdOf K (He.ga K "_law_whys"))
  d_law : FunD K "law" "law" (defArgs (top 37)) (defBody (top 37)) (defScope (top 37)) [] [] (He.ga K "law") (fdOf K (He.ga K "law"))
  W : ClsOk K CLS subC
  base : BaseOk K .ve (He.ga K "StrideError")
  errs : ErrsOk K ["InvalidNumber", "ZeroDivisor", "InvalidName"] (.ref (He.ga K "StrideError")) (.ref (He.ga K "Missing")) (.ref (He.ga K "NothingLeft"))
  e_InvalidNumber : ErrK K .ve "InvalidNumber" (He.ma K (He.ga K "InvalidNumber") "__init__") ["given"]
  e_ZeroDivisor : ErrK K .ve "ZeroDivisor" (He.ma K (He.ga K "ZeroDivisor") "__init__") []
  e_InvalidName : ErrK K .ve "InvalidName" (He.ma K (He.ga K "InvalidName") "__init__") ["name"]
  b_gcd : mg "gcd" = some (.builtin "math.gcd")
  o_Ratio_eq : Own K (He.ga K "Ratio") "__eq__" (He.ma K (He.ga K "Ratio") "__eq__")
  nf_Ratio : ∀ T : Tg, PySem.W.subIn K (.type T.nm) (.ref (He.ga K "Ratio")) = some false
  o_Ratio_ne : PySem.W.findIn K (.ref (He.ga K "Ratio")) "__ne__" = some (some (.builtin "object.__ne__")) ∧ PySem.W.subIn K (.ref (He.ga K "Ratio")) (.type "object") = some true
  o_Form_eq : Own K (He.ga K "Form") "__eq__" (He.ma K (He.ga K "Form") "__eq__")
  s_Form_of : SMet K "Form" "of"
  nf_Form : ∀ T : Tg, PySem.W.subIn K (.type T.nm) (.ref (He.ga K "Form")) = some false
  o_Ratio_add : OwnB K (He.ga K "Ratio") .Add (He.ma K (He.ga K "Ratio") "__add__")
theorem facts_of {w : World} {K : Fg} {h : Heap} {mg : Str → Option Value} (X : K.In h) (G : h.Ns mainGlobals mg) (c : He.SaysX fa fn [] tf exB w h K) (c2 : He5.SaysA [] fs K) : Facts K mg :=
  ⟨He.glo_ok X G (c.t.d.fact 0 (f := (.glo "_law_bag" : He.Fa)) rfl),
   He.glo_ok X G (c.t.d.fact 1 (f := (.glo "_law_draw" : He.Fa)) rfl),
   He.glo_ok X G (c.t.d.fact 2 (f := (.glo "_law_of" : He.Fa)) rfl),
   He.glo_ok X G (c.t.d.fact 3 (f := (.glo "_law_names" : He.Fa)) rfl),
   He.glo_ok X G (c.t.d.fact 4 (f := (.glo "_law_gcd" : He.Fa)) rfl),
   He.glo_ok X G (c.t.d.fact 5 (f := (.glo "_law_low" : He.Fa)) rfl),
   He.glo_ok X G (c.t.d.fact 6 (f := (.glo "is_number" : He.Fa)) rfl),
   He.glo_ok X G (c.t.d.fact 7 (f := (.glo "is_name" : He.Fa)) rfl),
   He.glo_ok X G (c.t.d.fact 8 (f := (.glo "is_part" : He.Fa)) rfl),
   He.glo_ok X G (c.t.d.fact 9 (f := (.glo "ratio_of" : He.Fa)) rfl),
   He.glo_ok X G (c.t.d.fact 10 (f := (.glo "_law_same" : He.Fa)) rfl),
   He.glo_ok X G (c.t.d.fact 11 (f := (.glo "_law_field" : He.Fa)) rfl),
   He.glo_ok X G (c.t.d.fact 12 (f := (.glo "_law_why" : He.Fa)) rfl),
   He.glo_ok X G (c.t.d.fact 13 (f := (.glo "_law_whys" : He.Fa)) rfl),
   He.glo_ok X G (c.t.d.fact 14 (f := (.glo "law" : He.Fa)) rfl),
   He.glo_ok X G (c.t.d.fact 15 (f := (.glo "InvalidNumber" : He.Fa)) rfl),
   He.glo_ok X G (c.t.d.fact 16 (f := (.glo "StrideError" : He.Fa)) rfl),
   He.glo_ok X G (c.t.d.fact 17 (f := (.glo "Missing" : He.Fa)) rfl),
   He.glo_ok X G (c.t.d.fact 18 (f := (.glo "NothingLeft" : He.Fa)) rfl),
   He.glo_ok X G (c.t.d.fact 19 (f := (.glo "ZeroDivisor" : He.Fa)) rfl),
   He.glo_ok X G (c.t.d.fact 20 (f := (.glo "Ratio" : He.Fa)) rfl),
   He.glo_ok X G (c.t.d.fact 21 (f := (.glo "InvalidName" : He.Fa)) rfl),
   He.glo_ok X G (c.t.d.fact 22 (f := (.glo "Form" : He.Fa)) rfl),
   He.free_ok X G (c.t.d.fact 23 (f := (.free "int" : He.Fa)) rfl),
   He.free_ok X G (c.t.d.fact 24 (f := (.free "len" : He.Fa)) rfl),
   He.free_ok X G (c.t.d.fact 25 (f := (.free "range" : He.Fa)) rfl),
   He.free_ok X G (c.t.d.fact 26 (f := (.free "dict" : He.Fa)) rfl),
   He.free_ok X G (c.t.d.fact 27 (f := (.free "abs" : He.Fa)) rfl),
   He.free_ok X G (c.t.d.fact 28 (f := (.free "isinstance" : He.Fa)) rfl),
   He.free_ok X G (c.t.d.fact 29 (f := (.free "bool" : He.Fa)) rfl),
   He.free_ok X G (c.t.d.fact 30 (f := (.free "sorted" : He.Fa)) rfl),
   He.free_ok X G (c.t.d.fact 31 (f := (.free "list" : He.Fa)) rfl),
   He.free_ok X G (c.t.d.fact 32 (f := (.free "all" : He.Fa)) rfl),
   He.free_ok X G (c.t.d.fact 33 (f := (.free "str" : He.Fa)) rfl),
   He.free_ok X G (c.t.d.fact 34 (f := (.free "tuple" : He.Fa)) rfl),
   He.free_ok X G (c.t.d.fact 35 (f := (.free "zip" : He.Fa)) rfl),
   He.str_ok X G (c.t.d.fact 36 (f := (.str "SMALL" "abcdefghijklmnopqrstuvwxyz" : He.Fa)) rfl),
   He.int_ok X G (c.t.d.fact 37 (f := (.int "MOST_NAME" (6) : He.Fa)) rfl),
   He.cls_ok (c.t.d.fact 38 (f := (.cls "Ratio" : He.Fa)) rfl),
   He.cls_ok (c.t.d.fact 39 (f := (.cls "Form" : He.Fa)) rfl),
   He.mkr_ok (c.t.d.fact 40 (f := (.mkr "Ratio" : He.Fa)) rfl),
   He.mkr_ok (c.t.d.fact 41 (f := (.mkr "Form" : He.Fa)) rfl),
   He.noat_ok (c.t.d.fact 42 (f := (.noat "Ratio" "top" : He.Fa)) rfl),
   He.noat_ok (c.t.d.fact 43 (f := (.noat "Ratio" "bottom" : He.Fa)) rfl),
   He.noat_ok (c.t.d.fact 44 (f := (.noat "Form" "constant" : He.Fa)) rfl),
   He.noat_ok (c.t.d.fact 45 (f := (.noat "Form" "own_terms" : He.Fa)) rfl),
   He.meth_ok (c.t.d.fact 46 (f := (.meth "Ratio" "pair" : He.Fa)) rfl),
   He.meth_ok (c.t.d.fact 47 (f := (.meth "Form" "terms" : He.Fa)) rfl),
   He.meth_ok (c.t.d.fact 48 (f := (.meth "Form" "names" : He.Fa)) rfl),
   He.meth_ok (c.t.d.fact 49 (f := (.meth "Form" "factor" : He.Fa)) rfl),
   funD_of (c.t.d.def_ 0 (d := dd__law_bag) rfl),
   funD_of (c.t.d.def_ 1 (d := dd__law_draw) rfl),
   funD_of (c.t.d.def_ 2 (d := dd__law_of) rfl),
   funD_of (c.t.d.def_ 3 (d := dd__law_names) rfl),
   funD_of (c.t.d.def_ 4 (d := dd__law_gcd) rfl),
   funD_of (c.t.d.def_ 5 (d := dd__law_low) rfl),
   funD_of (c.t.d.def_ 6 (d := dd_is_number) rfl),
   funD_of (c.t.d.def_ 7 (d := dd_InvalidNumber_init) rfl),
   funD_of (c.t.d.def_ 8 (d := dd_ZeroDivisor_init) rfl),
   funD_of (c.t.d.def_ 9 (d := dd_Ratio_init) rfl),
   funD_of (c.t.d.def_ 10 (d := dd_is_name) rfl),
   funD_of (c.t.d.def_ 11 (d := dd_InvalidName_init) rfl),
   funD_of (c.t.d.def_ 12 (d := dd_is_part) rfl),
   funD_of (c.t.d.def_ 13 (d := dd_ratio_of) rfl),
   funD_of (c.t.d.def_ 14 (d := dd_Ratio_pair) rfl),
   funD_of (c.t.d.def_ 15 (d := dd_Ratio_eq) rfl),
   funD_of (c.t.d.def_ 16 (d := dd_Form_init) rfl),
   funD_of (c.t.d.def_ 17 (d := dd_Form_terms) rfl),
   funD_of (c.t.d.def_ 18 (d := dd_Form_names) rfl),
   funD_of (c.t.d.def_ 19 (d := dd__law_same) rfl),
   funD_of (c.t.d.def_ 20 (d := dd_Form_factor) rfl),
   funD_of (c.t.d.def_ 21 (d := dd_Form_eq) rfl),
   funD_of (c2.def_ 0 (d := dd_Form_of) rfl),
   funD_of (c.t.d.def_ 22 (d := dd_Ratio_add) rfl),
   funD_of (c.t.d.def_ 23 (d := dd__law_field) rfl),
   funD_of (c.t.d.def_ 24 (d := dd__law_why) rfl),
   funD_of (c.t.d.def_ 25 (d := dd__law_whys) rfl),
   funD_of (c.t.d.def_ 26 (d := dd_law) rfl),
   clsB_ok (all_at c.more 0 rfl),
   baseB_ok (all_at c.more 1 rfl),
   errsB_ok (all_at c.more 2 rfl),
   errB_ok (all_at c.more 3 rfl),
   errB_ok (all_at c.more 4 rfl),
   errB_ok (all_at c.more 5 rfl),
   bltB_ok X G (all_at c.more 6 rfl),
   ownB1_ok (all_at c.more 7 rfl),
   nfB_ok (all_at c.more 8 rfl),
   ownNeB_ok (all_at c.more 9 rfl),
   ownB1_ok (all_at c.more 10 rfl),
   smB_ok (all_at c.more 11 rfl),
   nfB_ok (all_at c.more 12 rfl),
   ownB2_ok (all_at c.more 13 rfl)⟩
theorem bi__law_bag {K : Fg} {mg : Str → Option Value} (F : Facts K mg) : Binds K (fdOf K (He.ga K "_law_bag")) ["_law_script"] [] := F.d__law_bag.bindsN fun _ _ _ _ _ _ us hl => match us, hl with | [_], _ => rfl
theorem sc__law_bag : FnScope ["_law_script", "_law_cells", "_law_mixed", "_law_cell"] ["_law_script"] (defScope (top 27)) := ⟨rfl, rfl, rfl, by decide +kernel, rfl, by decide +kernel, by decide +kernel⟩
theorem sc__law_draw : FnScope ["_law_bag_here", "_law_many", "_law_cell", "_law_early", "_law_late", "_law_drawn"] ["_law_bag_here", "_law_many"] (defScope (top 28)) := ⟨rfl, rfl, rfl, by decide +kernel, rfl, by decide +kernel, by decide +kernel⟩
theorem sc__law_of : FnScope ["_law_bag_here", "_law_things"] ["_law_bag_here", "_law_things"] (defScope (top 29)) := ⟨rfl, rfl, rfl, by decide +kernel, rfl, by decide +kernel, by decide +kernel⟩
theorem sc__law_names : FnScope ["_law_bag_here", "_law_many", "_law_letters", "_law_stem", "_law_k", "_law_at", "_law_early", "_law_step"] ["_law_bag_here", "_law_many"] (defScope (top 36)) := ⟨rfl, rfl, rfl, by decide +kernel, rfl, by decide +kernel, by decide +kernel⟩
theorem sc__law_gcd : FnScope ["_law_one", "_law_other", "_law_left", "_law_right"] ["_law_one", "_law_other"] (defScope (top 34)) := ⟨rfl, rfl, rfl, by decide +kernel, rfl, by decide +kernel, by decide +kernel⟩
theorem sc__law_low : FnScope ["_law_top", "_law_bottom", "_law_common"] ["_law_top", "_law_bottom"] (defScope (top 35)) := ⟨rfl, rfl, rfl, by decide +kernel, rfl, by decide +kernel, by decide +kernel⟩
theorem sc_is_number : FnScope ["value"] ["value"] (defScope (top 13)) := ⟨rfl, rfl, rfl, by decide +kernel, rfl, by decide +kernel, by decide +kernel⟩
theorem bi_InvalidNumber_init {K : Fg} {mg : Str → Option Value} (F : Facts K mg) : Binds K (fdOf K (He.ma K (He.ga K "InvalidNumber") "__init__")) ["self", "given"] [] := F.d_InvalidNumber_init.bindsN fun _ _ _ _ _ _ us hl => match us, hl with | [_, _], _ => rfl
theorem sc_InvalidNumber_init : FnScope ["self", "given"] ["self", "given"] (defScope (mth 5 0)) := ⟨rfl, rfl, rfl, by decide +kernel, rfl, by decide +kernel, by decide +kernel⟩
theorem bi_ZeroDivisor_init {K : Fg} {mg : Str → Option Value} (F : Facts K mg) : Binds K (fdOf K (He.ma K (He.ga K "ZeroDivisor") "__init__")) ["self"] [] := F.d_ZeroDivisor_init.bindsN fun _ _ _ _ _ _ us hl => match us, hl with | [_], _ => rfl
theorem sc_ZeroDivisor_init : FnScope ["self"] ["self"] (defScope (mth 8 0)) := ⟨rfl, rfl, rfl, by decide +kernel, rfl, by decide +kernel, by decide +kernel⟩
theorem sc_Ratio_init : FnScope ["self", "top", "bottom", "value", "common"] ["self", "top", "bottom"] (defScope (mth 16 0)) := ⟨rfl, rfl, rfl, by decide +kernel, rfl, by decide +kernel, by decide +kernel⟩
theorem sc_is_name : FnScope ["value", "sign"] ["value"] (defScope (top 22)) := ⟨rfl, rfl, rfl, by decide +kernel, rfl, by decide +kernel, by decide +kernel⟩
theorem bi_InvalidName_init {K : Fg} {mg : Str → Option Value} (F : Facts K mg) : Binds K (fdOf K (He.ma K (He.ga K "InvalidName") "__init__")) ["self", "name"] [] := F.d_InvalidName_init.bindsN fun _ _ _ _ _ _ us hl => match us, hl with | [_, _], _ => rfl
theorem sc_InvalidName_init : FnScope ["self", "name"] ["self", "name"] (defScope (mth 6 0)) := ⟨rfl, rfl, rfl, by decide +kernel, rfl, by decide +kernel, by decide +kernel⟩
theorem sc_is_part : FnScope ["value"] ["value"] (defScope (top 17)) := ⟨rfl, rfl, rfl, by decide +kernel, rfl, by decide +kernel, by decide +kernel⟩
theorem sc_ratio_of : FnScope ["value"] ["value"] (defScope (top 18)) := ⟨rfl, rfl, rfl, by decide +kernel, rfl, by decide +kernel, by decide +kernel⟩
theorem sc_Ratio_pair : FnScope ["self"] ["self"] (defScope (mth 16 2)) := ⟨rfl, rfl, rfl, by decide +kernel, rfl, by decide +kernel, by decide +kernel⟩
theorem bi_Ratio_eq {K : Fg} {mg : Str → Option Value} (F : Facts K mg) : Binds K (fdOf K (He.ma K (He.ga K "Ratio") "__eq__")) ["self", "other"] [] := F.d_Ratio_eq.bindsN fun _ _ _ _ _ _ us hl => match us, hl with | [_, _], _ => rfl
theorem sc_Ratio_eq : FnScope ["self", "other"] ["self", "other"] (defScope (mth 16 15)) := ⟨rfl, rfl, rfl, by decide +kernel, rfl, by decide +kernel, by decide +kernel⟩
theorem sc_Form_init : FnScope ["self", "terms", "constant", "found", "name"] ["self", "terms", "constant"] (defScope (mth 24 0)) := ⟨rfl, rfl, rfl, by decide +kernel, rfl, by decide +kernel, by decide +kernel⟩
theorem sc_Form_terms : FnScope ["self"] ["self"] (defScope (mth 24 3)) := ⟨rfl, rfl, rfl, by decide +kernel, rfl, by decide +kernel, by decide +kernel⟩
theorem sc_Form_names : FnScope ["self"] ["self"] (defScope (mth 24 4)) := ⟨rfl, rfl, rfl, by decide +kernel, rfl, by decide +kernel, by decide +kernel⟩
theorem bi__law_same {K : Fg} {mg : Str → Option Value} (F : Facts K mg) : Binds K (fdOf K (He.ga K "_law_same")) ["_law_found", "_law_due"] [] := F.d__law_same.bindsN fun _ _ _ _ _ _ us hl => match us, hl with | [_, _], _ => rfl
theorem sc__law_same : FnScope ["_law_found", "_law_due", "_law_key", "_law_a", "_law_b"] ["_law_found", "_law_due"] (defScope (top 30)) := ⟨rfl, rfl, rfl, by decide +kernel, rfl, by decide +kernel, by decide +kernel⟩
theorem sc_Form_factor : FnScope ["self", "name"] ["self", "name"] (defScope (mth 24 5)) := ⟨rfl, rfl, rfl, by decide +kernel, rfl, by decide +kernel, by decide +kernel⟩
theorem bi_Form_eq {K : Fg} {mg : Str → Option Value} (F : Facts K mg) : Binds K (fdOf K (He.ma K (He.ga K "Form") "__eq__")) ["self", "other"] [] := F.d_Form_eq.bindsN fun _ _ _ _ _ _ us hl => match us, hl with | [_, _], _ => rfl
theorem sc_Form_eq : FnScope ["self", "other"] ["self", "other"] (defScope (mth 24 13)) := ⟨rfl, rfl, rfl, by decide +kernel, rfl, by decide +kernel, by decide +kernel⟩
theorem sc_Form_of : FnScope ["name"] ["name"] (defScope (mth 24 1)) := ⟨rfl, rfl, rfl, by decide +kernel, rfl, by decide +kernel, by decide +kernel⟩
theorem bi_Ratio_add {K : Fg} {mg : Str → Option Value} (F : Facts K mg) : Binds K (fdOf K (He.ma K (He.ga K "Ratio") "__add__")) ["self", "other"] [] := F.d_Ratio_add.bindsN fun _ _ _ _ _ _ us hl => match us, hl with | [_, _], _ => rfl
theorem sc_Ratio_add : FnScope ["self", "other", "late"] ["self", "other"] (defScope (mth 16 7)) := ⟨rfl, rfl, rfl, by decide +kernel, rfl, by decide +kernel, by decide +kernel⟩
theorem bi__law_field {K : Fg} {mg : Str → Option Value} (F : Facts K mg) : Binds K (fdOf K (He.ga K "_law_field")) ["_law_e"] [] := F.d__law_field.bindsN fun _ _ _ _ _ _ us hl => match us, hl with | [_], _ => rfl
theorem sc__law_field : FnScope ["_law_e"] ["_law_e"] (defScope (top 31)) := ⟨rfl, rfl, rfl, by decide +kernel, rfl, by decide +kernel, by decide +kernel⟩
theorem bi__law_why {K : Fg} {mg : Str → Option Value} (F : Facts K mg) : Binds K (fdOf K (He.ga K "_law_why")) ["_law_ask"] [] := F.d__law_why.bindsN fun _ _ _ _ _ _ us hl => match us, hl with | [_], _ => rfl
theorem sc__law_why : FnScope ["_law_ask", "_law_e"] ["_law_ask"] (defScope (top 32)) := ⟨rfl, rfl, rfl, by decide +kernel, rfl, by decide +kernel, by decide +kernel⟩
theorem bi__law_whys {K : Fg} {mg : Str → Option Value} (F : Facts K mg) : Binds K (fdOf K (He.ga K "_law_whys")) ["_law_asks"] [] := F.d__law_whys.bindsN fun _ _ _ _ _ _ us hl => match us, hl with | [_], _ => rfl
theorem sc__law_whys : FnScope ["_law_asks", "_law_found", "_law_ask", "_law_why_here"] ["_law_asks"] (defScope (top 33)) := ⟨rfl, rfl, rfl, by decide +kernel, rfl, by decide +kernel, by decide +kernel⟩
theorem sc_law : FnScope ["_law_script", "_law_bag_here", "_law_turn", "_law_names_here", "_law_table", "_law_name_z", "_law_constant_z", "_law_handed", "_law_made", "_law_due", "_law_again", "_law_told", "_law_odd", "_law_other", "_law_last", "_law_same_here", "_law_bad", "_law_wrong", "_law_mixed", "_law_first", "_law_asks", "_law_why_here"] ["_law_script"] (defScope (top 37)) := ⟨rfl, rfl, rfl, by decide +kernel, rfl, by decide +kernel, by decide +kernel⟩
end LK
/-! K31P -/
set_option Elab.async false
set_option linter.all false
set_option maxRecDepth 100000
set_option maxHeartbeats 4000000
namespace LK
open PySem PySem.Spec PyProof.Rows L2 DL
variable [TabC]
variable {P : Program} {w : World} {K : Fg} {mg : Str → Option Value} {base : Heap}
abbrev ERRS : List Str := ["InvalidNumber", "ZeroDivisor", "InvalidName"]
theorem sle {s : Str} {n : Nat} (h : s.length ≤ n) : s.length ≤ n := h
theorem ok__law_bag (F : Facts K mg) : FnOk P w K mg base (L2.CX P w) 1 (He.ga K "_law_bag") (fdOf K (He.ga K "_law_bag")) ["_law_script"] (spBag K) := by
  refine F.d__law_bag.ok sc__law_bag (fun vs H Q E h => by obtain ⟨a, ns, rfl, _⟩ := h; rfl) fun cdv A outer s H vs Q E hr h => ⟨_, (pss_cons (ps_setLc (own := [("_law_cell", 3)]) (i := 1) rfl sc__law_bag.nd rfl rfl rfl (pi_list (pe_slice sl_list (pe_var (i := 0) rfl (by first | exact Or.inl rfl | exact Or.inr (Or.inl rfl) | exact Or.inr (Or.inr rfl))) po_none (po_some pe_int))) (blk_ok (N := ["_law_script", "_law_cells", "_law_mixed", "_law_cell"]) (sc := defScope (top 27)) (by decide +kernel)) (fun _ _ _ _ _ => pg_name (i := 3) sc__law_bag.nd rfl (.inl rfl)) (fun _ _ _ _ _ => pts_nil) (fun _ _ _ _ _ => (pe_callTy call_int1 rfl F.n_int rfl (pa_cons (pe_var (i := 3) rfl (by first | exact Or.inl rfl | exact Or.inr (Or.inl rfl) | exact Or.inr (Or.inr rfl))) pa_nil)))) (pss_cons (ps_set (i := 2) sc__law_bag.nd rfl (.inl rfl) (pe_op op_add pe_int (pe_op op_mulOk pe_int (pe_callB call_len3 rfl F.n_len boot_len (pa_cons (pe_var (i := 1) rfl (by first | exact Or.inl rfl | exact Or.inr (Or.inl rfl) | exact Or.inr (Or.inr rfl))) pa_nil))))) (pss_cons (ps_for (passes_of rfl) rfl (pi_list (pe_var (i := 1) rfl (by first | exact Or.inl rfl | exact Or.inr (Or.inl rfl) | exact Or.inr (Or.inr rfl)))) (pg_name (i := 3) sc__law_bag.nd rfl (.inl rfl)) (pss_one (ps_set (i := 2) sc__law_bag.nd rfl (.inl rfl) (pe_op op_modN (pe_callTy call_int1 rfl F.n_int rfl (pa_cons (pe_op op_add (pe_op op_mulOk (pe_var (i := 2) rfl (by first | exact Or.inl rfl | exact Or.inr (Or.inl rfl) | exact Or.inr (Or.inr rfl))) pe_int) (pe_var (i := 3) rfl (by first | exact Or.inl rfl | exact Or.inr (Or.inl rfl) | exact Or.inr (Or.inr rfl)))) pa_nil)) pe_int)))) (pss_one (ps_ret (pe_lst (pa_cons (pe_var (i := 1) rfl (by first | exact Or.inl rfl | exact Or.inr (Or.inl rfl) | exact Or.inr (Or.inr rfl))) (pa_cons pe_int (pa_cons pe_int (pa_cons (pe_var (i := 2) rfl (by first | exact Or.inl rfl | exact Or.inr (Or.inl rfl) | exact Or.inr (Or.inr rfl))) pa_nil)))))))))), bag_read h rfl⟩
theorem ok__law_draw (F : Facts K mg) : FnOk P w K mg base (L2.CX P w) 1 (He.ga K "_law_draw") (fdOf K (He.ga K "_law_draw")) ["_law_bag_here", "_law_many"] (lift K sDraw) := by
  refine F.d__law_draw.ok sc__law_draw (fun vs H Q E h => by obtain ⟨p, c, m, i, j, x, ns, rfl, _⟩ := draw_lift h; rfl) fun cdv A outer s H vs Q E hr h => ⟨_, (pss_cons (ps_if (pt_cmp (pc_lt (pe_ix ix_seq (pe_var (i := 0) rfl (by first | exact Or.inl rfl | exact Or.inr (Or.inl rfl) | exact Or.inr (Or.inr rfl))) pe_int (fun _ _ => rfl)) pe_int)) (pss_cons (ps_asg (pe_op op_add (pe_ix ix_seq (pe_var (i := 0) rfl (by first | exact Or.inl rfl | exact Or.inr (Or.inl rfl) | exact Or.inr (Or.inr rfl))) pe_int (fun _ _ => rfl)) pe_int) (pg_sub (pe_var (i := 0) rfl (by first | exact Or.inl rfl | exact Or.inr (Or.inl rfl) | exact Or.inr (Or.inr rfl))) pe_int set_list)) (pss_cons (ps_set (i := 2) sc__law_draw.nd rfl (.inl rfl) (pe_op op_add (pe_ix ix_seq (pe_var (i := 0) rfl (by first | exact Or.inl rfl | exact Or.inr (Or.inl rfl) | exact Or.inr (Or.inr rfl))) pe_int (fun _ _ => rfl)) (pe_op op_mulOk (pe_ix ix_seq (pe_var (i := 0) rfl (by first | exact Or.inl rfl | exact Or.inr (Or.inl rfl) | exact Or.inr (Or.inr rfl))) pe_int (fun _ _ => rfl)) pe_int))) (pss_cons (ps_if (pt_cmp (pc_le (pe_ix ix_seq (pe_var (i := 0) rfl (by first | exact Or.inl rfl | exact Or.inr (Or.inl rfl) | exact Or.inr (Or.inr rfl))) pe_int (fun _ _ => rfl)) (pe_callB call_len3 rfl F.n_len boot_len (pa_cons (pe_ix ix_seq (pe_var (i := 0) rfl (by first | exact Or.inl rfl | exact Or.inr (Or.inl rfl) | exact Or.inr (Or.inr rfl))) pe_int (fun _ _ => rfl)) pa_nil)))) (pss_one (ps_set (i := 2) sc__law_draw.nd rfl (.inl rfl) (pe_ix ix_seq (pe_ix ix_seq (pe_var (i := 0) rfl (by first | exact Or.inl rfl | exact Or.inr (Or.inl rfl) | exact Or.inr (Or.inr rfl))) pe_int (fun _ _ => rfl)) (pe_op op_sub (pe_ix ix_seq (pe_var (i := 0) rfl (by first | exact Or.inl rfl | exact Or.inr (Or.inl rfl) | exact Or.inr (Or.inr rfl))) pe_int (fun _ _ => rfl)) pe_int) (fun _ _ => rfl)))) pss_nil) (pss_cons (ps_if (PW.pt (pw_or (pt_cmp (pc_gt (pe_ix ix_seq (pe_var (i := 0) rfl (by first | exact Or.inl rfl | exact Or.inr (Or.inl rfl) | exact Or.inr (Or.inr rfl))) pe_int (fun _ _ => rfl)) (pe_callB call_len3 rfl F.n_len boot_len (pa_cons (pe_ix ix_seq (pe_var (i := 0) rfl (by first | exact Or.inl rfl | exact Or.inr (Or.inl rfl) | exact Or.inr (Or.inr rfl))) pe_int (fun _ _ => rfl)) pa_nil)))) (pw_or1 (pt_cmp (pc_lt (pe_var (i := 2) rfl (by first | exact Or.inl rfl | exact Or.inr (Or.inl rfl) | exact Or.inr (Or.inr rfl))) (pe_op op_pow pe_int pe_int)))))) (pss_cons (ps_set (i := 3) sc__law_draw.nd rfl (.inl rfl) (pe_op op_modN (pe_callTy call_int1 rfl F.n_int rfl (pa_cons (pe_op op_add (pe_op op_add (pe_op op_mulOk (pe_var (i := 2) rfl (by first | exact Or.inl rfl | exact Or.inr (Or.inl rfl) | exact Or.inr (Or.inr rfl))) pe_int) (pe_op op_mulOk (pe_ix ix_seq (pe_var (i := 0) rfl (by first | exact Or.inl rfl | exact Or.inr (Or.inl rfl) | exact Or.inr (Or.inr rfl))) pe_int (fun _ _ => rfl)) pe_int)) (pe_ix ix_seq (pe_var (i := 0) rfl (by first | exact Or.inl rfl | exact Or.inr (Or.inl rfl) | exact Or.inr (Or.inr rfl))) pe_int (fun _ _ => rfl))) pa_nil)) pe_int)) (pss_cons (ps_set (i := 4) sc__law_draw.nd rfl (.inl rfl) (pe_op op_modN (pe_callTy call_int1 rfl F.n_int rfl (pa_cons (pe_op op_add (pe_op op_mulOk (pe_var (i := 3) rfl (by first | exact Or.inl rfl | exact Or.inr (Or.inl rfl) | exact Or.inr (Or.inr rfl))) (pe_var (i := 3) rfl (by first | exact Or.inl rfl | exact Or.inr (Or.inl rfl) | exact Or.inr (Or.inr rfl)))) (pe_op op_mulOk (pe_ix ix_seq (pe_var (i := 0) rfl (by first | exact Or.inl rfl | exact Or.inr (Or.inl rfl) | exact Or.inr (Or.inr rfl))) pe_int (fun _ _ => rfl)) pe_int)) pa_nil)) pe_int)) (pss_one (ps_ret (pe_op op_modN (pe_op op_divOk (pe_op op_modN (pe_callTy call_int1 rfl F.n_int rfl (pa_cons (pe_op op_add (pe_op op_mulOk (pe_var (i := 4) rfl (by first | exact Or.inl rfl | exact Or.inr (Or.inl rfl) | exact Or.inr (Or.inr rfl))) pe_int) (pe_var (i := 3) rfl (by first | exact Or.inl rfl | exact Or.inr (Or.inl rfl) | exact Or.inr (Or.inr rfl)))) pa_nil)) pe_int) pe_int) (pe_var (i := 1) rfl (by first | exact Or.inl rfl | exact Or.inr (Or.inl rfl) | exact Or.inr (Or.inr rfl)))))))) pss_nil) (pss_one (ps_asg (pe_var (i := 2) rfl (by first | exact Or.inl rfl | exact Or.inr (Or.inl rfl) | exact Or.inr (Or.inr rfl))) (pg_sub (pe_var (i := 0) rfl (by first | exact Or.inl rfl | exact Or.inr (Or.inl rfl) | exact Or.inr (Or.inr rfl))) pe_int set_list))))))) pss_nil) (pss_cons (ps_set (i := 5) sc__law_draw.nd rfl (.inl rfl) (pe_op op_modN (pe_callTy call_int1 rfl F.n_int rfl (pa_cons (pe_ix ix_seq (pe_var (i := 0) rfl (by first | exact Or.inl rfl | exact Or.inr (Or.inl rfl) | exact Or.inr (Or.inr rfl))) pe_int (fun _ _ => rfl)) pa_nil)) (pe_var (i := 1) rfl (by first | exact Or.inl rfl | exact Or.inr (Or.inl rfl) | exact Or.inr (Or.inr rfl))))) (pss_cons (ps_asg (pe_op op_divOk (pe_callTy call_int1 rfl F.n_int rfl (pa_cons (pe_ix ix_seq (pe_var (i := 0) rfl (by first | exact Or.inl rfl | exact Or.inr (Or.inl rfl) | exact Or.inr (Or.inr rfl))) pe_int (fun _ _ => rfl)) pa_nil)) (pe_var (i := 1) rfl (by first | exact Or.inl rfl | exact Or.inr (Or.inl rfl) | exact Or.inr (Or.inr rfl)))) (pg_sub (pe_var (i := 0) rfl (by first | exact Or.inl rfl | exact Or.inr (Or.inl rfl) | exact Or.inr (Or.inr rfl))) pe_int set_list)) (pss_one (ps_ret (pe_var (i := 5) rfl (by first | exact Or.inl rfl | exact Or.inr (Or.inl rfl) | exact Or.inr (Or.inr rfl)))))))), draw_read (draw_lift h) rfl⟩
theorem fc__law_draw_2 (F : Facts K mg) : FnC P w K mg base 1 (He.ga K "_law_draw") [] (lift K sDraw) := FnOk.c0 (ok__law_draw F) (F.d__law_draw.bindsN fun _ _ _ _ _ _ us hl => match us, hl with | [_, _], _ => rfl)
theorem ok__law_of (F : Facts K mg) : FnOk P w K mg base (L2.CX P w) 2 (He.ga K "_law_of") (fdOf K (He.ga K "_law_of")) ["_law_bag_here", "_law_things"] (lift K sOf) := by
  refine okD F.d__law_of sc__law_of (fun ds k e h => by obtain ⟨d, rfl, _⟩ := h; rfl) fun cdv A outer s0 H E b eo hr Z => ⟨_, dss_one (ds_ret (DE.dt (de_ix (de_var 1) (DE.dt (de_ca (fc__law_draw_2 F) sDraw_mn (hr.mono (by decide)) F.g__law_draw F.d__law_draw.kp cz_none (dca_pos (da_cons (de_var 0) (da_cons (de_callB call_len3 cl_len rfl F.n_len rfl (DE.dt (de_var 1))) (da_nil))))))))), fun ds k h => ?_⟩
  obtain ⟨x, rfl, h0, hl, hk⟩ := h
  simp (config := { decide := false }) only [gRet, gRetN, gAndV, gOrV, gNotV, gIsi, gVar, gVarT, gC, gSeq, gNext, gIfS, gAsg, gDrop, gNever, gBreak, gCont, gIf, gAnd, gOr, gNot, gB, g1, g2, DL.gNil, DL.gCons, DL.gTup, DL.gLst, gIsN, dIsN, gPar, gTgt, asg, asgs, gCl, gCall, gCallK, gMeth, gFld, gMake, gJoin, gSl2, gNoP, gPart, gItS, gIt, gItL, gItT, gZip, gRng1, gLc, gRaise, gYes, gChain, dI, dI0, startD, initD, look, put, wipeD, List.map_cons, List.map_nil, List.cons_append, List.nil_append, List.append_nil, List.length_cons, List.length_nil, List.replicate, Nat.zero_add, Nat.add_zero, Nat.sub_self, Nat.reduceAdd, Nat.reduceSub, dAddA, dAddB, dMulA, dLen3, dNeg, true_and, eq_self, gCa, gMc, gMk, gSlA, gZipA, gEnum, gOwn2, gOwnQ, gOwnN, gOwn1, gOwnS, gOwnR, gAsgO, gPsh, gAns, gOwnE, gOwnEN, gOwnB, gJs, gFmt]
  have key : ∀ n : Int, n = ((itemsD x).length : Int) → sDraw [D.bag, D.int n] (fun y => dIx x y k) fun x => False := fun n e => by
    have hp : 0 < (itemsD x).length := List.length_pos_iff.mpr h0
    refine ⟨n, rfl, by omega, DivOk.of (n := 30) (by omega) (by unfold Sz; rw [e, Int.natAbs_natCast]; exact Nat.lt_of_le_of_lt hl (by decide)) (by decide), fun d a c => dIx_of hl a (by omega) hk⟩
  cases x with
  | lst ds => exact key _ rfl
  | tup ds => exact key _ rfl
  | str z =>
    have el : (itemsD (.str z)).length = z.length := by simp [itemsD, DL.signs, Str.length]
    exact ⟨by rw [← el]; exact hl, key _ (by rw [el])⟩
  | _ => exact absurd rfl h0
theorem fc__law_of_2 (F : Facts K mg) : FnC P w K mg base 2 (He.ga K "_law_of") [] (lift K sOf) := FnOk.c0 (ok__law_of F) (F.d__law_of.bindsN fun _ _ _ _ _ _ us hl => match us, hl with | [_, _], _ => rfl)
def nameL (l : List Nat) : Bool := l.all fun c => decide (c ∈ ("abcdefghijklmnopqrstuvwxyz" : Str).cps.toList)
def nameB (x : Str) : Bool := (decide ((1 : Int) ≤ (x.length : Int)) && decide ((x.length : Int) ≤ 6)) && nameL x.cps.toList
theorem joinL_nil : ∀ ps : List (List Nat), TL.joinL [] ps = ps.flatten
  | [] => rfl
  | [p] => by simp [TL.joinL]
  | p :: q :: r => by
    show p ++ ([] ++ TL.joinL [] (q :: r)) = _
    rw [joinL_nil (q :: r)]; simp
abbrev SMT : Str := "abcdefghijklmnopqrstuvwxyz"
abbrev COT : Str := "bcdfghjklmpqrtvxz"
/-- some signs from SMT, joined -/
theorem stem_ok {ds ys : List D} (h : Fa2 (fun _ y => y ∈ itemsD (.str COT)) ds ys) : ∃ ss, strsOf ys = some ss ∧ ss.length = ds.length ∧ (ss.map (·.length)).sum = ds.length ∧ (Txt.join "" ss).cps.toList.length = ds.length ∧ ∀ c ∈ (Txt.join "" ss).cps.toList, c ∈ COT.cps.toList := by
  have key : ∃ ss, strsOf ys = some ss ∧ ss.length = ds.length ∧ (ss.map (·.length)).sum = ds.length ∧ (ss.map TL.tl).flatten.length = ds.length ∧ ∀ c ∈ (ss.map TL.tl).flatten, c ∈ COT.cps.toList := by
    induction h with
    | nil => exact ⟨[], rfl, rfl, rfl, rfl, fun c hc => by simp at hc⟩
    | cons h r ih =>
      obtain ⟨ss, e1, e2, e3, e4, e5⟩ := ih
      obtain ⟨c, hc, rfl⟩ := List.mem_map.mp h
      refine ⟨⟨#[c]⟩ :: ss, by simp only [strsOf, e1], by simp [e2], ?_, ?_, ?_⟩
      · simp only [List.map_cons, List.sum_cons, e3, List.length_cons]
        have : (⟨#[c]⟩ : Str).length = 1 := rfl
        omega
      · simp only [List.map_cons, List.flatten_cons, List.length_append, e4, List.length_cons]
        have : (TL.tl ⟨#[c]⟩).length = 1 := rfl
        omega
      · intro z hz
        rw [List.map_cons, List.flatten_cons] at hz
        rcases List.mem_append.mp hz with hz | hz
        · have ez : z = c := by simpa [TL.tl] using hz
          subst ez
          exact hc
        · exact e5 z hz
  obtain ⟨ss, e1, e2, e3, e4, e5⟩ := key
  have ej : (Txt.join "" ss).cps.toList = (ss.map TL.tl).flatten := by
    rw [TL.join_eq]
    have := TL.tl_join "" ss
    rw [show TL.tl ("" : Str) = [] from rfl, joinL_nil] at this
    exact this
  exact ⟨ss, e1, e2, e3, by rw [ej]; exact e4, by rw [ej]; exact e5⟩
theorem cot_smt : ∀ c ∈ COT.cps.toList, c ∈ SMT.cps.toList := by decide +kernel
def vowB (c : Nat) : Bool := decide (c ∈ ([97, 101, 105, 111, 117] : List Nat))
theorem cot_vow : ∀ c ∈ COT.cps.toList, vowB c = false := by decide +kernel
/-- how many vowels -/
def vwN (x : Str) : Nat := (x.cps.toList.filter vowB).length
theorem cut_lo (z : Str) {a : Int} (h0 : 0 ≤ a) (h1 : a ≤ z.length) : (cutS z none (some a)).cps.toList = z.cps.toList.take a.toNat := by
  unfold cutS
  have e1 : HT.sIx z.length 0 none = 0 := rfl
  have e2 : HT.sIx z.length z.length (some a) = a.toNat := by
    unfold HT.sIx
    simp only
    rw [if_neg (by omega)]
    omega
  rw [e1, e2]
  simp
theorem cut_hi (z : Str) {a : Int} (h0 : 0 ≤ a) (h1 : a ≤ z.length) : (cutS z (some a) none).cps.toList = z.cps.toList.drop a.toNat := by
  unfold cutS
  have e1 : HT.sIx z.length z.length none = z.length := rfl
  have e2 : HT.sIx z.length 0 (some a) = a.toNat := by
    unfold HT.sIx
    simp only
    rw [if_neg (by omega)]
    omega
  rw [e1, e2]
  refine List.take_of_length_le ?_
  rw [List.length_drop]
  simp [Str.length]
theorem cut_len (z : Str) (a b : Option Int) : (cutS z a b).length ≤ z.length := by
  unfold cutS
  show (_ : Array Nat).size ≤ z.cps.size
  rw [← Array.length_toList, ← Array.length_toList]
  simp only [List.length_take, List.length_drop]
  omega
def nmS (st : Str) (a : Int) (c : Nat) : Str := cutS st none (some a) ++ (⟨#[c]⟩ : Str) ++ cutS st (some a) none
theorem nmS_list {st : Str} {a : Int} {c : Nat} (h0 : 0 ≤ a) (h1 : a ≤ st.length) : (nmS st a c).cps.toList = st.cps.toList.take a.toNat ++ [c] ++ st.cps.toList.drop a.toNat := by
  show ((cutS st none (some a)).cps ++ #[c] ++ (cutS st (some a) none).cps).toList = _
  rw [Array.toList_append, Array.toList_append, cut_lo st h0 h1, cut_hi st h0 h1]
theorem nmS_len {st : Str} {a : Int} {c : Nat} (h0 : 0 ≤ a) (h1 : a ≤ st.length) : (nmS st a c).length = st.length + 1 := by
  have : (nmS st a c).length = (nmS st a c).cps.toList.length := by simp [Str.length]
  rw [this, nmS_list h0 h1]
  have : st.cps.toList.length = st.length := by simp [Str.length]
  simp only [List.length_append, List.length_take, List.length_drop, List.length_cons, List.length_nil]
  omega
theorem nmS_ok {st : Str} {a : Int} {c : Nat} (hl : st.length ≤ 5) (hc : ∀ c ∈ st.cps.toList, c ∈ SMT.cps.toList) (h0 : 0 ≤ a) (h1 : a ≤ st.length) (hs : c ∈ SMT.cps.toList) : nameB (nmS st a c) = true := by
  unfold nameB nameL
  rw [nmS_len h0 h1, nmS_list h0 h1]
  simp only [Bool.and_eq_true, decide_eq_true_eq, List.all_eq_true]
  refine ⟨⟨by omega, by omega⟩, fun z hz => ?_⟩
  rcases List.mem_append.mp hz with hz | hz
  · rcases List.mem_append.mp hz with hz | hz
    · exact hc z (List.mem_of_mem_take hz)
    · have : z = c := by simpa using hz
      subst this; exact hs
  · exact hc z (List.mem_of_mem_drop hz)
theorem nmS_vw {st : Str} {a : Int} {c : Nat} (hc : ∀ c ∈ st.cps.toList, c ∈ COT.cps.toList) (h0 : 0 ≤ a) (h1 : a ≤ st.length) : vwN (nmS st a c) ≤ 1 := by
  unfold vwN
  rw [nmS_list h0 h1, List.filter_append, List.filter_append, List.length_append, List.length_append]
  have z : ∀ l : List Nat, (∀ x ∈ l, x ∈ COT.cps.toList) → (l.filter vowB).length = 0 := fun l h => by
    rw [List.filter_eq_nil_iff.mpr fun x hx => by rw [cot_vow x (h x hx)]; simp]; rfl
  rw [z _ fun x hx => hc x (List.mem_of_mem_take hx), z _ fun x hx => hc x (List.mem_of_mem_drop hx)]
  have := List.length_filter_le vowB [c]
  simp only [List.length_cons, List.length_nil] at this
  omega
theorem nmS_inj {st : Str} {a : Int} {c d : Nat} (h0 : 0 ≤ a) (h1 : a ≤ st.length) (h : nmS st a c = nmS st a d) : c = d := by
  have e := congrArg (fun s : Str => s.cps.toList) h
  have e : (nmS st a c).cps.toList = (nmS st a d).cps.toList := e
  rw [nmS_list h0 h1, nmS_list h0 h1, List.append_assoc, List.append_assoc] at e
  have e2 := List.append_cancel_left e
  cases e2; rfl
def letC (e t : Int) (k : Nat) : Nat := (97 + (e + t * (k : Int)).fmod 26).toNat
theorem smt_at : ∀ i : Nat, i < 26 → SMT.cps.toList[i]? = some (97 + i) := by decide +kernel
theorem letC_at {e t : Int} {k : Nat} : atI SMT.cps.toList ((e + t * (k : Int)).fmod 26) = some (letC e t k) := by
  have h0 := Int.fmod_nonneg_of_pos (e + t * (k : Int)) (show (0 : Int) < 26 by decide)
  have h1 := Int.fmod_lt_of_pos (e + t * (k : Int)) (show (0 : Int) < 26 by decide)
  unfold letC
  generalize (e + t * (k : Int)).fmod 26 = x at *
  have := smt_at x.toNat (by omega)
  have hl : SMT.cps.toList.length = 26 := by decide +kernel
  unfold atI ixN
  rw [if_pos h0, if_pos (by omega)]
  show SMT.cps.toList[x.toNat]? = _
  rw [this]
  congr 1; omega
theorem letC_mem {e t : Int} {k : Nat} : letC e t k ∈ SMT.cps.toList := by
  have h0 := Int.fmod_nonneg_of_pos (e + t * (k : Int)) (show (0 : Int) < 26 by decide)
  have h1 := Int.fmod_lt_of_pos (e + t * (k : Int)) (show (0 : Int) < 26 by decide)
  unfold letC
  generalize (e + t * (k : Int)).fmod 26 = x at *
  have := smt_at x.toNat (by omega)
  rw [show (97 + x).toNat = 97 + x.toNat by omega]
  exact List.mem_of_getElem? this
theorem letC_inj {e t : Int} {j k : Nat} (ht : t = 1 ∨ t = 3 ∨ t = 5 ∨ t = 7 ∨ t = 9 ∨ t = 11) (hj : j < 26) (hk : k < 26) (h : letC e t j = letC e t k) : j = k := by
  have h0 := Int.fmod_nonneg_of_pos (e + t * (k : Int)) (show (0 : Int) < 26 by decide)
  have h1 := Int.fmod_nonneg_of_pos (e + t * (j : Int)) (show (0 : Int) < 26 by decide)
  unfold letC at h
  rw [Int.fmod_eq_emod_of_nonneg _ (by decide)] at h0 h
  rw [Int.fmod_eq_emod_of_nonneg _ (by decide)] at h1 h
  rcases ht with rfl | rfl | rfl | rfl | rfl | rfl <;> omega
def namesI (st : Str) (a e t : Int) (n : Nat) : List Str := (List.range n).map fun k => nmS st a (letC e t k)
theorem namesI_nodup {st : Str} {a e t : Int} {n : Nat} (h0 : 0 ≤ a) (h1 : a ≤ st.length) (ht : t = 1 ∨ t = 3 ∨ t = 5 ∨ t = 7 ∨ t = 9 ∨ t = 11) (hn : n ≤ 26) : (namesI st a e t n).Nodup := by
  unfold namesI
  refine List.Pairwise.map (R := fun j k => j ≠ k ∧ j < 26 ∧ k < 26) _ (fun j k h z => h.1 (letC_inj ht h.2.1 h.2.2 (nmS_inj h0 h1 z))) ?_
  refine (List.nodup_range (n := n)).imp_of_mem fun hj hk h => ?_
  have := List.mem_range.mp hj
  have := List.mem_range.mp hk
  exact ⟨h, by omega, by omega⟩
def s_lnames : GS := fun ds k _ => ∃ n : Nat, ds = [.bag, .int n] ∧ n ≤ 26 ∧ ∀ xs : List Str, xs.length = n → (∀ x ∈ xs, nameB x = true) → xs.Nodup → (∀ x ∈ xs, vwN x ≤ 1) → k (.lst (xs.map .str))
theorem mn_lnames : MnS s_lnames := fun ds k k' e e' h1 _ ⟨n, h, h2, q⟩ => ⟨n, h, h2, fun xs a b c d => h1 _ (q xs a b c d)⟩
theorem ok__law_names (F : Facts K mg) : FnOk P w K mg base (L2.CX P w) 3 (He.ga K "_law_names") (fdOf K (He.ga K "_law_names")) ["_law_bag_here", "_law_many"] (lift K s_lnames) := by
  refine okD F.d__law_names sc__law_names (fun ds k e h => by obtain ⟨n, rfl, _⟩ := h; rfl) fun cdv A outer s0 H E b eo hr Z => ⟨_, dss_cons (ds_asg (i := 2) sc__law_names.nd rfl (.inr rfl) (de_str))
    (dss_cons (ds_asg (i := 3) sc__law_names.nd rfl (.inr rfl) (de_join (DE.dt (de_str)) (DE.dt (de_lc rfl sc__law_names.nd (own := [("_law_k", 4)]) (di_rng1 rfl F.n_range (DE.dt (de_ca (fc__law_draw_2 F) sDraw_mn (hr.mono (by decide)) F.g__law_draw F.d__law_draw.kp cz_none (dca_pos (da_cons (de_var 0) (da_cons (de_int) (da_nil))))))) (blk_ok (N := ["_law_bag_here", "_law_many", "_law_letters", "_law_stem", "_law_k", "_law_at", "_law_early", "_law_step"]) (by kernel_rfl)) (fun _ _ _ _ _ => dg_name (i := 4) sc__law_names.nd rfl (.inl rfl)) (fun _ _ _ _ _ => dts_nil) (fun _ _ _ _ _ => de_ca (fc__law_of_2 F) sOf_mn (hr.mono (by decide)) F.g__law_of F.d__law_of.kp cz_none (dca_pos (da_cons (de_var 0) (da_cons (de_str) (da_nil)))))))))
    (dss_cons (ds_tgt (de_tup (da_cons (de_ca (fc__law_draw_2 F) sDraw_mn (hr.mono (by decide)) F.g__law_draw F.d__law_draw.kp cz_none (dca_pos (da_cons (de_var 0) (da_cons (de_addB (de_callB call_len3 cl_len rfl F.n_len rfl (DE.dt (de_var 3))) (de_int)) (da_nil))))) (da_cons (de_ca (fc__law_draw_2 F) sDraw_mn (hr.mono (by decide)) F.g__law_draw F.d__law_draw.kp cz_none (dca_pos (da_cons (de_var 0) (da_cons (de_int) (da_nil))))) (da_nil)))) (dg_tup rfl (dgs_cons (dg_name (i := 5) sc__law_names.nd rfl (.inr rfl)) (dgs_cons (dg_name (i := 6) sc__law_names.nd rfl (.inr rfl)) (dgs_nil)))))
    (dss_cons (ds_asg (i := 7) sc__law_names.nd rfl (.inr rfl) (de_ca (fc__law_of_2 F) sOf_mn (hr.mono (by decide)) F.g__law_of F.d__law_of.kp cz_none (dca_pos (da_cons (de_var 0) (da_cons (de_lst (da_cons (de_int) (da_cons (de_int) (da_cons (de_int) (da_cons (de_int) (da_cons (de_int) (da_cons (de_int) (da_nil)))))))) (da_nil))))))
    (dss_one (ds_ret (DE.dt (de_lc rfl sc__law_names.nd (own := [("_law_k", 4)]) (di_rng1 rfl F.n_range (DE.dt (de_var 1))) (blk_ok (N := ["_law_bag_here", "_law_many", "_law_letters", "_law_stem", "_law_k", "_law_at", "_law_early", "_law_step"]) (by kernel_rfl)) (fun _ _ _ _ _ => dg_name (i := 4) sc__law_names.nd rfl (.inl rfl)) (fun _ _ _ _ _ => dts_nil) (fun _ _ _ _ _ => de_addB (de_addB (de_slA (de_var 3) (dp_none) (dp_some (DE.dt (de_var 5)))) (de_ix (de_var 2) (DE.dt (de_mod (DE.dt (de_callTy call_int1 cl_int rfl F.n_int rfl (DE.dt (de_addB (de_var 6) (de_mulA (DE.dt (de_var 7)) (DE.dt (de_var 4))))))) (DE.dt (de_int)))))) (de_slA (de_var 3) (dp_some (DE.dt (de_var 5))) (dp_none)))))))))), fun ds k h => ?_⟩
  obtain ⟨n, rfl, hn, hk⟩ := h
  suffices z : Stp _ from z.run
  show Stp (gSeq _ _ _ [.sh .bag, .sh (.int n), .unset, .unset, .unset, .unset, .unset, .unset])
  with_reducible apply s_asg
  · (focus ((repeat' first | ((with_reducible apply ev_var); exact rfl) | with_reducible exact ev_c | with_reducible apply ev_repF | with_reducible apply ev_repT | with_reducible apply ev_g2 | with_reducible apply ev_g1 | with_reducible apply eva_cons | with_reducible apply ev_tup | with_reducible apply ev_lst | with_reducible apply evt_B | with_reducible apply evt_and | with_reducible apply evt_or | with_reducible apply evt_not | with_reducible apply ev_if | with_reducible apply ev_isi | with_reducible apply ev_isN | with_reducible apply ev_fld | with_reducible apply ev_ca | with_reducible apply ev_mc | with_reducible apply ev_ci | with_reducible apply ev_con | with_reducible apply ev_mk | with_reducible apply ev_own1 | with_reducible apply ev_own2 | with_reducible apply ev_ownR | with_reducible apply ev_ownQ | with_reducible apply ev_ownN | with_reducible apply ev_ownE | with_reducible apply ev_ownEN | with_reducible apply ev_ownS | with_reducible apply ev_ownB | with_reducible apply ev_join | with_reducible apply ev_js | with_reducible apply ev_fmt | with_reducible apply ev_sl | with_reducible apply ev_andV | with_reducible apply ev_orV | with_reducible apply ev_notV | with_reducible apply ev_chain | with_reducible apply ev_cl | with_reducible apply eva_app | with_reducible apply eva_star | with_reducible apply eva_star1 | with_reducible apply evp_part | with_reducible apply evi_it | with_reducible apply evi_LL | with_reducible apply evi_TT | with_reducible apply evi_S | with_reducible apply evi_rng | with_reducible apply evi_rng2 | with_reducible apply evi_zip | with_reducible apply evi_en | with_reducible apply ev_tm | with_reducible apply ot_split | with_reducible apply ot_part | with_reducible apply o_intS | with_reducible apply o_ixS | with_reducible apply o_inL | with_reducible apply o_inTu | with_reducible apply o_inT | with_reducible apply o_pow | with_reducible apply o_rev | with_reducible apply o_strI | with_reducible apply ev_ls | with_reducible apply o_ninTu | with_reducible apply o_ixTI | with_reducible apply sr_shp | with_reducible apply sri_shp | with_reducible apply sr_same | with_reducible apply ow2_own | with_reducible apply ow2_int | with_reducible apply fm_S | with_reducible apply fm_I | with_reducible apply sl_S | with_reducible apply aev1 | with_reducible apply aev2 | with_reducible apply aev3 | with_reducible apply aevf1 | with_reducible apply aevf2 | with_reducible apply aevf3 | with_reducible exact eva_nil | with_reducible exact evt_yes | with_reducible exact evp_no | with_reducible exact ev_jsN | with_reducible exact itr_L | with_reducible exact itr_T | with_reducible exact sl_L | with_reducible exact sl_T | with_reducible exact jn_eq | with_reducible exact jn_int | with_reducible exact jn_str | with_reducible exact jn_bl | with_reducible exact jn_tup | with_reducible exact jn_lst | with_reducible exact jn_any | with_reducible exact o_eqI | with_reducible exact o_neI | with_reducible exact o_eqS | with_reducible exact o_neS | with_reducible exact o_eqB | with_reducible exact o_neB | with_reducible exact o_all | with_reducible exact o_eqT2 | with_reducible exact o_neT2 | with_reducible exact o_inS | with_reducible exact o_ninS | with_reducible exact o_eqL | with_reducible exact o_eqTu | with_reducible exact o_max2 | with_reducible exact o_tup | with_reducible exact o_tup2 | with_reducible exact o_lst | with_reducible exact o_lst2 | ((with_reducible apply ev_varT); exact rfl) | ((with_reducible apply ev_varO); exact rfl) | ((with_reducible apply o2_i); exact fun _ q => q) | ((with_reducible apply o2_i); refine fun _ zq_ => ⟨?_, zq_⟩) | ((with_reducible apply o1_i); exact fun _ q => q) | ((with_reducible apply o1_i); refine fun _ zq_ => ⟨?_, zq_⟩) | ((with_reducible apply on_i); exact fun _ q => q) | ((with_reducible apply on_i); refine fun _ zq_ => ⟨?_, zq_⟩) | ((with_reducible apply fi_i); exact rfl) | ((with_reducible apply pk_i); exact rfl) | exact pairs_ints _ _ | ((with_reducible apply mp_i); exact rfl) | with_reducible apply ev_lc | with_reducible apply ev_lcF | with_reducible intro _) <;> (try (show (_ : Prop); (fail_if_success (with_reducible show Ev _ _ _)); first | ((with_reducible apply sle); first | (simp only [str_len2]; omega) | with_reducible assumption | omega | decide) | ((fail_if_success (with_reducible apply sle)); first | assumption | ((with_reducible refine And.intro ?_ ?_) <;> omega) | ((fail_if_success (with_reducible refine And.intro ?_ ?_)); first | rfl | exact List.cons_ne_nil _ _ | exact Nat.le_of_ble_eq_true rfl | decide | omega | exact MulOk.right (by omega) | exact MulOk.left (by omega) | exact MulOk.of (by assumption) (by assumption) (by decide) | exact Sz.mono (by assumption) (by decide) | exact szLog (by assumption) | exact szLog (Sms.get (by assumption) (by assumption)) | exact szW (by decide) | (simp only [List.length_map, List.length_cons, List.length_nil, List.length_append, List.length_reverse]; omega)))))))
  · (focus (repeat' first | with_reducible exact pt0 | with_reducible apply pts | with_reducible intro _))
  refine c_asg (Stp.mk ?_)
  refine ⟨6, rfl, by decide, DivOk.of (n := 200) (by decide) (szW (by decide)) (by decide), fun m m0 m1 => ?_⟩
  refine ⟨⟨by omega, by omega⟩, ?_⟩
  have hm : (rngD 0 m.toNat).length ≤ 5 := by rw [rngD_len]; omega
  refine lcD_rel (fun _ y => y ∈ itemsD (.str COT)) _ _ _ (fun d hd kk hkk => ?_) (by simp only [List.length_nil]; omega) (fun ys hys => ?_)
  · exact ⟨.str COT, rfl, (by intro q; exact absurd (congrArg List.length q) (by decide +kernel)), (by decide +kernel), fun y hy => hkk y hy⟩
  obtain ⟨ss, e1, e2, e3, e4, e5⟩ := stem_ok hys
  show (match strsOf ys with | some ys => _ | none => False)
  rw [e1]
  have hsl : (Txt.join (Str.ofString "") ss).length ≤ 5 := by
    have : (Txt.join (Str.ofString "") ss).length = (Txt.join (Str.ofString "") ss).cps.toList.length := by simp [Str.length]
    have : (Txt.join (Str.ofString "") ss).cps.toList.length = (rngD 0 m.toNat).length := e4
    omega
  have e5' : ∀ c ∈ (Txt.join (Str.ofString "") ss).cps.toList, c ∈ COT.cps.toList := e5
  refine ⟨by rw [e3]; show (rngD 0 m.toNat).length + ss.length * 0 ≤ 1000000; omega, Stp.run ?_⟩
  clear e4 e5
  revert hsl e5'
  generalize Txt.join (Str.ofString "") ss = st
  intro hsl e5'
  (first | (with_reducible show Stp _) | refine Stp.run ?_); (try with_reducible refine nx_mk ?_); (with_reducible apply n_st); (focus (repeat' first | with_reducible exact pt0 | with_reducible apply pts | with_reducible apply ns_put | with_reducible apply ns_wipe | with_reducible apply ns_wipe0 | with_reducible exact ns_id))
  refine c_tgt ?_
  refine c_tup ?_
  refine c_cons ?_
  with_reducible apply c_draw
  · exact ev_var rfl
  · (focus ((repeat' first | ((with_reducible apply ev_var); exact rfl) | with_reducible exact ev_c | with_reducible apply ev_repF | with_reducible apply ev_repT | with_reducible apply ev_g2 | with_reducible apply ev_g1 | with_reducible apply eva_cons | with_reducible apply ev_tup | with_reducible apply ev_lst | with_reducible apply evt_B | with_reducible apply evt_and | with_reducible apply evt_or | with_reducible apply evt_not | with_reducible apply ev_if | with_reducible apply ev_isi | with_reducible apply ev_isN | with_reducible apply ev_fld | with_reducible apply ev_ca | with_reducible apply ev_mc | with_reducible apply ev_ci | with_reducible apply ev_con | with_reducible apply ev_mk | with_reducible apply ev_own1 | with_reducible apply ev_own2 | with_reducible apply ev_ownR | with_reducible apply ev_ownQ | with_reducible apply ev_ownN | with_reducible apply ev_ownE | with_reducible apply ev_ownEN | with_reducible apply ev_ownS | with_reducible apply ev_ownB | with_reducible apply ev_join | with_reducible apply ev_js | with_reducible apply ev_fmt | with_reducible apply ev_sl | with_reducible apply ev_andV | with_reducible apply ev_orV | with_reducible apply ev_notV | with_reducible apply ev_chain | with_reducible apply ev_cl | with_reducible apply eva_app | with_reducible apply eva_star | with_reducible apply eva_star1 | with_reducible apply evp_part | with_reducible apply evi_it | with_reducible apply evi_LL | with_reducible apply evi_TT | with_reducible apply evi_S | with_reducible apply evi_rng | with_reducible apply evi_rng2 | with_reducible apply evi_zip | with_reducible apply evi_en | with_reducible apply ev_tm | with_reducible apply ot_split | with_reducible apply ot_part | with_reducible apply o_intS | with_reducible apply o_ixS | with_reducible apply o_inL | with_reducible apply o_inTu | with_reducible apply o_inT | with_reducible apply o_pow | with_reducible apply o_rev | with_reducible apply o_strI | with_reducible apply ev_ls | with_reducible apply o_ninTu | with_reducible apply o_ixTI | with_reducible apply sr_shp | with_reducible apply sri_shp | with_reducible apply sr_same | with_reducible apply ow2_own | with_reducible apply ow2_int | with_reducible apply fm_S | with_reducible apply fm_I | with_reducible apply sl_S | with_reducible apply aev1 | with_reducible apply aev2 | with_reducible apply aev3 | with_reducible apply aevf1 | with_reducible apply aevf2 | with_reducible apply aevf3 | with_reducible exact eva_nil | with_reducible exact evt_yes | with_reducible exact evp_no | with_reducible exact ev_jsN | with_reducible exact itr_L | with_reducible exact itr_T | with_reducible exact sl_L | with_reducible exact sl_T | with_reducible exact jn_eq | with_reducible exact jn_int | with_reducible exact jn_str | with_reducible exact jn_bl | with_reducible exact jn_tup | with_reducible exact jn_lst | with_reducible exact jn_any | with_reducible exact o_eqI | with_reducible exact o_neI | with_reducible exact o_eqS | with_reducible exact o_neS | with_reducible exact o_eqB | with_reducible exact o_neB | with_reducible exact o_all | with_reducible exact o_eqT2 | with_reducible exact o_neT2 | with_reducible exact o_inS | with_reducible exact o_ninS | with_reducible exact o_eqL | with_reducible exact o_eqTu | with_reducible exact o_max2 | with_reducible exact o_tup | with_reducible exact o_tup2 | with_reducible exact o_lst | with_reducible exact o_lst2 | ((with_reducible apply ev_varT); exact rfl) | ((with_reducible apply ev_varO); exact rfl) | ((with_reducible apply o2_i); exact fun _ q => q) | ((with_reducible apply o2_i); refine fun _ zq_ => ⟨?_, zq_⟩) | ((with_reducible apply o1_i); exact fun _ q => q) | ((with_reducible apply o1_i); refine fun _ zq_ => ⟨?_, zq_⟩) | ((with_reducible apply on_i); exact fun _ q => q) | ((with_reducible apply on_i); refine fun _ zq_ => ⟨?_, zq_⟩) | ((with_reducible apply fi_i); exact rfl) | ((with_reducible apply pk_i); exact rfl) | exact pairs_ints _ _ | ((with_reducible apply mp_i); exact rfl) | with_reducible apply ev_lc | with_reducible apply ev_lcF | with_reducible intro _) <;> (try (show (_ : Prop); (fail_if_success (with_reducible show Ev _ _ _)); first | ((with_reducible apply sle); first | (simp only [str_len2]; omega) | with_reducible assumption | omega | decide) | ((fail_if_success (with_reducible apply sle)); first | assumption | ((with_reducible refine And.intro ?_ ?_) <;> omega) | ((fail_if_success (with_reducible refine And.intro ?_ ?_)); first | rfl | exact List.cons_ne_nil _ _ | exact Nat.le_of_ble_eq_true rfl | decide | omega | exact MulOk.right (by omega) | exact MulOk.left (by omega) | exact MulOk.of (by assumption) (by assumption) (by decide) | exact Sz.mono (by assumption) (by decide) | exact szLog (by assumption) | exact szLog (Sms.get (by assumption) (by assumption)) | exact szW (by decide) | (simp only [List.length_map, List.length_cons, List.length_nil, List.length_append, List.length_reverse]; omega)))))))
    all_goals omega
  · omega
  · exact DivOk.of (n := 30) (by omega) (Sz.of_lt (by omega) (by omega)) (by decide)
  intro a a0 a1
  (first | (with_reducible show Stp _) | refine Stp.run ?_); (try with_reducible refine nx_mk ?_); (with_reducible first | refine c_asg ?_ | refine c_tgt ?_ | refine c_par ?_ | skip); (repeat first | ((with_reducible apply c_draw); (exact ev_var rfl); (first | (with_reducible exact ev_c) | (focus ((focus ((repeat' first | ((with_reducible apply ev_var); exact rfl) | with_reducible exact ev_c | with_reducible apply ev_repF | with_reducible apply ev_repT | with_reducible apply ev_g2 | with_reducible apply ev_g1 | with_reducible apply eva_cons | with_reducible apply ev_tup | with_reducible apply ev_lst | with_reducible apply evt_B | with_reducible apply evt_and | with_reducible apply evt_or | with_reducible apply evt_not | with_reducible apply ev_if | with_reducible apply ev_isi | with_reducible apply ev_isN | with_reducible apply ev_fld | with_reducible apply ev_ca | with_reducible apply ev_mc | with_reducible apply ev_ci | with_reducible apply ev_con | with_reducible apply ev_mk | with_reducible apply ev_own1 | with_reducible apply ev_own2 | with_reducible apply ev_ownR | with_reducible apply ev_ownQ | with_reducible apply ev_ownN | with_reducible apply ev_ownE | with_reducible apply ev_ownEN | with_reducible apply ev_ownS | with_reducible apply ev_ownB | with_reducible apply ev_join | with_reducible apply ev_js | with_reducible apply ev_fmt | with_reducible apply ev_sl | with_reducible apply ev_andV | with_reducible apply ev_orV | with_reducible apply ev_notV | with_reducible apply ev_chain | with_reducible apply ev_cl | with_reducible apply eva_app | with_reducible apply eva_star | with_reducible apply eva_star1 | with_reducible apply evp_part | with_reducible apply evi_it | with_reducible apply evi_LL | with_reducible apply evi_TT | with_reducible apply evi_S | with_reducible apply evi_rng | with_reducible apply evi_rng2 | with_reducible apply evi_zip | with_reducible apply evi_en | with_reducible apply ev_tm | with_reducible apply ot_split | with_reducible apply ot_part | with_reducible apply o_intS | with_reducible apply o_ixS | with_reducible apply o_inL | with_reducible apply o_inTu | with_reducible apply o_inT | with_reducible apply o_pow | with_reducible apply o_rev | with_reducible apply o_strI | with_reducible apply ev_ls | with_reducible apply o_ninTu | with_reducible apply o_ixTI | with_reducible apply sr_shp | with_reducible apply sri_shp | with_reducible apply sr_same | with_reducible apply ow2_own | with_reducible apply ow2_int | with_reducible apply fm_S | with_reducible apply fm_I | with_reducible apply sl_S | with_reducible apply aev1 | with_reducible apply aev2 | with_reducible apply aev3 | with_reducible apply aevf1 | with_reducible apply aevf2 | with_reducible apply aevf3 | with_reducible exact eva_nil | with_reducible exact evt_yes | with_reducible exact evp_no | with_reducible exact ev_jsN | with_reducible exact itr_L | with_reducible exact itr_T | with_reducible exact sl_L | with_reducible exact sl_T | with_reducible exact jn_eq | with_reducible exact jn_int | with_reducible exact jn_str | with_reducible exact jn_bl | with_reducible exact jn_tup | with_reducible exact jn_lst | with_reducible exact jn_any | with_reducible exact o_eqI | with_reducible exact o_neI | with_reducible exact o_eqS | with_reducible exact o_neS | with_reducible exact o_eqB | with_reducible exact o_neB | with_reducible exact o_all | with_reducible exact o_eqT2 | with_reducible exact o_neT2 | with_reducible exact o_inS | with_reducible exact o_ninS | with_reducible exact o_eqL | with_reducible exact o_eqTu | with_reducible exact o_max2 | with_reducible exact o_tup | with_reducible exact o_tup2 | with_reducible exact o_lst | with_reducible exact o_lst2 | ((with_reducible apply ev_varT); exact rfl) | ((with_reducible apply ev_varO); exact rfl) | ((with_reducible apply o2_i); exact fun _ q => q) | ((with_reducible apply o2_i); refine fun _ zq_ => ⟨?_, zq_⟩) | ((with_reducible apply o1_i); exact fun _ q => q) | ((with_reducible apply o1_i); refine fun _ zq_ => ⟨?_, zq_⟩) | ((with_reducible apply on_i); exact fun _ q => q) | ((with_reducible apply on_i); refine fun _ zq_ => ⟨?_, zq_⟩) | ((with_reducible apply fi_i); exact rfl) | ((with_reducible apply pk_i); exact rfl) | exact pairs_ints _ _ | ((with_reducible apply mp_i); exact rfl) | with_reducible apply ev_lc | with_reducible apply ev_lcF | with_reducible intro _) <;> (try (show (_ : Prop); (fail_if_success (with_reducible show Ev _ _ _)); first | ((with_reducible apply sle); first | (simp only [str_len2]; omega) | with_reducible assumption | omega | decide) | ((fail_if_success (with_reducible apply sle)); first | assumption | ((with_reducible refine And.intro ?_ ?_) <;> omega) | ((fail_if_success (with_reducible refine And.intro ?_ ?_)); first | rfl | exact List.cons_ne_nil _ _ | exact Nat.le_of_ble_eq_true rfl | decide | omega | exact MulOk.right (by omega) | exact MulOk.left (by omega) | exact MulOk.of (by assumption) (by assumption) (by decide) | exact Sz.mono (by assumption) (by decide) | exact szLog (by assumption) | exact szLog (Sms.get (by assumption) (by assumption)) | exact szW (by decide) | (simp only [List.length_map, List.length_cons, List.length_nil, List.length_append, List.length_reverse]; omega))))))); done))); decide; (exact divW (by decide) (by decide)); intro _ _ _) | ((with_reducible apply c_var); exact rfl) | ((with_reducible apply c_ev); (focus ((focus ((repeat' first | ((with_reducible apply ev_var); exact rfl) | with_reducible exact ev_c | with_reducible apply ev_repF | with_reducible apply ev_repT | with_reducible apply ev_g2 | with_reducible apply ev_g1 | with_reducible apply eva_cons | with_reducible apply ev_tup | with_reducible apply ev_lst | with_reducible apply evt_B | with_reducible apply evt_and | with_reducible apply evt_or | with_reducible apply evt_not | with_reducible apply ev_if | with_reducible apply ev_isi | with_reducible apply ev_isN | with_reducible apply ev_fld | with_reducible apply ev_ca | with_reducible apply ev_mc | with_reducible apply ev_ci | with_reducible apply ev_con | with_reducible apply ev_mk | with_reducible apply ev_own1 | with_reducible apply ev_own2 | with_reducible apply ev_ownR | with_reducible apply ev_ownQ | with_reducible apply ev_ownN | with_reducible apply ev_ownE | with_reducible apply ev_ownEN | with_reducible apply ev_ownS | with_reducible apply ev_ownB | with_reducible apply ev_join | with_reducible apply ev_js | with_reducible apply ev_fmt | with_reducible apply ev_sl | with_reducible apply ev_andV | with_reducible apply ev_orV | with_reducible apply ev_notV | with_reducible apply ev_chain | with_reducible apply ev_cl | with_reducible apply eva_app | with_reducible apply eva_star | with_reducible apply eva_star1 | with_reducible apply evp_part | with_reducible apply evi_it | with_reducible apply evi_LL | with_reducible apply evi_TT | with_reducible apply evi_S | with_reducible apply evi_rng | with_reducible apply evi_rng2 | with_reducible apply evi_zip | with_reducible apply evi_en | with_reducible apply ev_tm | with_reducible apply ot_split | with_reducible apply ot_part | with_reducible apply o_intS | with_reducible apply o_ixS | with_reducible apply o_inL | with_reducible apply o_inTu | with_reducible apply o_inT | with_reducible apply o_pow | with_reducible apply o_rev | with_reducible apply o_strI | with_reducible apply ev_ls | with_reducible apply o_ninTu | with_reducible apply o_ixTI | with_reducible apply sr_shp | with_reducible apply sri_shp | with_reducible apply sr_same | with_reducible apply ow2_own | with_reducible apply ow2_int | with_reducible apply fm_S | with_reducible apply fm_I | with_reducible apply sl_S | with_reducible apply aev1 | with_reducible apply aev2 | with_reducible apply aev3 | with_reducible apply aevf1 | with_reducible apply aevf2 | with_reducible apply aevf3 | with_reducible exact eva_nil | with_reducible exact evt_yes | with_reducible exact evp_no | with_reducible exact ev_jsN | with_reducible exact itr_L | with_reducible exact itr_T | with_reducible exact sl_L | with_reducible exact sl_T | with_reducible exact jn_eq | with_reducible exact jn_int | with_reducible exact jn_str | with_reducible exact jn_bl | with_reducible exact jn_tup | with_reducible exact jn_lst | with_reducible exact jn_any | with_reducible exact o_eqI | with_reducible exact o_neI | with_reducible exact o_eqS | with_reducible exact o_neS | with_reducible exact o_eqB | with_reducible exact o_neB | with_reducible exact o_all | with_reducible exact o_eqT2 | with_reducible exact o_neT2 | with_reducible exact o_inS | with_reducible exact o_ninS | with_reducible exact o_eqL | with_reducible exact o_eqTu | with_reducible exact o_max2 | with_reducible exact o_tup | with_reducible exact o_tup2 | with_reducible exact o_lst | with_reducible exact o_lst2 | ((with_reducible apply ev_varT); exact rfl) | ((with_reducible apply ev_varO); exact rfl) | ((with_reducible apply o2_i); exact fun _ q => q) | ((with_reducible apply o2_i); refine fun _ zq_ => ⟨?_, zq_⟩) | ((with_reducible apply o1_i); exact fun _ q => q) | ((with_reducible apply o1_i); refine fun _ zq_ => ⟨?_, zq_⟩) | ((with_reducible apply on_i); exact fun _ q => q) | ((with_reducible apply on_i); refine fun _ zq_ => ⟨?_, zq_⟩) | ((with_reducible apply fi_i); exact rfl) | ((with_reducible apply pk_i); exact rfl) | exact pairs_ints _ _ | ((with_reducible apply mp_i); exact rfl) | with_reducible apply ev_lc | with_reducible apply ev_lcF | with_reducible intro _) <;> (try (show (_ : Prop); (fail_if_success (with_reducible show Ev _ _ _)); first | ((with_reducible apply sle); first | (simp only [str_len2]; omega) | with_reducible assumption | omega | decide) | ((fail_if_success (with_reducible apply sle)); first | assumption | ((with_reducible refine And.intro ?_ ?_) <;> omega) | ((fail_if_success (with_reducible refine And.intro ?_ ?_)); first | rfl | exact List.cons_ne_nil _ _ | exact Nat.le_of_ble_eq_true rfl | decide | omega | exact MulOk.right (by omega) | exact MulOk.left (by omega) | exact MulOk.of (by assumption) (by assumption) (by decide) | exact Sz.mono (by assumption) (by decide) | exact szLog (by assumption) | exact szLog (Sms.get (by assumption) (by assumption)) | exact szW (by decide) | (simp only [List.length_map, List.length_cons, List.length_nil, List.length_append, List.length_reverse]; omega))))))); done))) | with_reducible refine c_cons ?_ | with_reducible refine c_tup ?_ | with_reducible refine c_lst ?_ | with_reducible refine c_g2 ?_ | with_reducible refine c_g1 ?_ | with_reducible refine c_app ?_ | with_reducible refine c_addI ?_ | with_reducible refine c_subI ?_ | with_reducible refine c_ca ?_ | with_reducible refine c_mk ?_ | with_reducible refine c_lc1 ?_ | with_reducible refine c_rng2 ?_ | with_reducible refine c_rng3 ?_ | with_reducible refine c_nil ?_ | with_reducible refine c_c ?_ | with_reducible refine c_lc0 ?_ | ((with_reducible first | apply as1 | apply as2 | apply as3 | apply as2l | apply as3l); (repeat' first | with_reducible exact pt0 | with_reducible apply pts | with_reducible apply ns_put | with_reducible apply ns_wipe | with_reducible apply ns_wipe0 | with_reducible exact ns_id)) | ((with_reducible refine c_pow ?_ ?_ ?_ ?_); decide; decide; decide) | (with_reducible refine c_o2 o_eqI ?_) | ((with_reducible refine c_len ?_ ?_); exact rfl) | ((with_reducible refine c_lt ?_ ?_); exact rfl) | ((with_reducible refine c_mulI ?_ ?_); (first | exact MulOk.right (by omega) | exact MulOk.left (by omega)))); (try simp only [List.nil_append, List.cons_append]); (try (with_reducible apply n_st; (focus (repeat' first | with_reducible exact pt0 | with_reducible apply pts | with_reducible apply ns_put | with_reducible apply ns_wipe | with_reducible apply ns_wipe0 | with_reducible exact ns_id))))
  rename_i e e0 e9
  (first | (with_reducible show Stp _) | refine Stp.run ?_); (try with_reducible refine nx_mk ?_); (with_reducible apply n_st); (focus (repeat' first | with_reducible exact pt0 | with_reducible apply pts | with_reducible apply ns_put | with_reducible apply ns_wipe | with_reducible apply ns_wipe0 | with_reducible exact ns_id))
  have mark2 : True := trivial
  (try with_reducible refine nx_mk ?_)
  with_reducible apply s_of (x := .lst [.int 1, .int 3, .int 5, .int 7, .int 9, .int 11])
  · (focus ((repeat' first | ((with_reducible apply ev_var); exact rfl) | with_reducible exact ev_c | with_reducible apply ev_repF | with_reducible apply ev_repT | with_reducible apply ev_g2 | with_reducible apply ev_g1 | with_reducible apply eva_cons | with_reducible apply ev_tup | with_reducible apply ev_lst | with_reducible apply evt_B | with_reducible apply evt_and | with_reducible apply evt_or | with_reducible apply evt_not | with_reducible apply ev_if | with_reducible apply ev_isi | with_reducible apply ev_isN | with_reducible apply ev_fld | with_reducible apply ev_ca | with_reducible apply ev_mc | with_reducible apply ev_ci | with_reducible apply ev_con | with_reducible apply ev_mk | with_reducible apply ev_own1 | with_reducible apply ev_own2 | with_reducible apply ev_ownR | with_reducible apply ev_ownQ | with_reducible apply ev_ownN | with_reducible apply ev_ownE | with_reducible apply ev_ownEN | with_reducible apply ev_ownS | with_reducible apply ev_ownB | with_reducible apply ev_join | with_reducible apply ev_js | with_reducible apply ev_fmt | with_reducible apply ev_sl | with_reducible apply ev_andV | with_reducible apply ev_orV | with_reducible apply ev_notV | with_reducible apply ev_chain | with_reducible apply ev_cl | with_reducible apply eva_app | with_reducible apply eva_star | with_reducible apply eva_star1 | with_reducible apply evp_part | with_reducible apply evi_it | with_reducible apply evi_LL | with_reducible apply evi_TT | with_reducible apply evi_S | with_reducible apply evi_rng | with_reducible apply evi_rng2 | with_reducible apply evi_zip | with_reducible apply evi_en | with_reducible apply ev_tm | with_reducible apply ot_split | with_reducible apply ot_part | with_reducible apply o_intS | with_reducible apply o_ixS | with_reducible apply o_inL | with_reducible apply o_inTu | with_reducible apply o_inT | with_reducible apply o_pow | with_reducible apply o_rev | with_reducible apply o_strI | with_reducible apply ev_ls | with_reducible apply o_ninTu | with_reducible apply o_ixTI | with_reducible apply sr_shp | with_reducible apply sri_shp | with_reducible apply sr_same | with_reducible apply ow2_own | with_reducible apply ow2_int | with_reducible apply fm_S | with_reducible apply fm_I | with_reducible apply sl_S | with_reducible apply aev1 | with_reducible apply aev2 | with_reducible apply aev3 | with_reducible apply aevf1 | with_reducible apply aevf2 | with_reducible apply aevf3 | with_reducible exact eva_nil | with_reducible exact evt_yes | with_reducible exact evp_no | with_reducible exact ev_jsN | with_reducible exact itr_L | with_reducible exact itr_T | with_reducible exact sl_L | with_reducible exact sl_T | with_reducible exact jn_eq | with_reducible exact jn_int | with_reducible exact jn_str | with_reducible exact jn_bl | with_reducible exact jn_tup | with_reducible exact jn_lst | with_reducible exact jn_any | with_reducible exact o_eqI | with_reducible exact o_neI | with_reducible exact o_eqS | with_reducible exact o_neS | with_reducible exact o_eqB | with_reducible exact o_neB | with_reducible exact o_all | with_reducible exact o_eqT2 | with_reducible exact o_neT2 | with_reducible exact o_inS | with_reducible exact o_ninS | with_reducible exact o_eqL | with_reducible exact o_eqTu | with_reducible exact o_max2 | with_reducible exact o_tup | with_reducible exact o_tup2 | with_reducible exact o_lst | with_reducible exact o_lst2 | ((with_reducible apply ev_varT); exact rfl) | ((with_reducible apply ev_varO); exact rfl) | ((with_reducible apply o2_i); exact fun _ q => q) | ((with_reducible apply o2_i); refine fun _ zq_ => ⟨?_, zq_⟩) | ((with_reducible apply o1_i); exact fun _ q => q) | ((with_reducible apply o1_i); refine fun _ zq_ => ⟨?_, zq_⟩) | ((with_reducible apply on_i); exact fun _ q => q) | ((with_reducible apply on_i); refine fun _ zq_ => ⟨?_, zq_⟩) | ((with_reducible apply fi_i); exact rfl) | ((with_reducible apply pk_i); exact rfl) | exact pairs_ints _ _ | ((with_reducible apply mp_i); exact rfl) | with_reducible apply ev_lc | with_reducible apply ev_lcF | with_reducible intro _) <;> (try (show (_ : Prop); (fail_if_success (with_reducible show Ev _ _ _)); first | ((with_reducible apply sle); first | (simp only [str_len2]; omega) | with_reducible assumption | omega | decide) | ((fail_if_success (with_reducible apply sle)); first | assumption | ((with_reducible refine And.intro ?_ ?_) <;> omega) | ((fail_if_success (with_reducible refine And.intro ?_ ?_)); first | rfl | exact List.cons_ne_nil _ _ | exact Nat.le_of_ble_eq_true rfl | decide | omega | exact MulOk.right (by omega) | exact MulOk.left (by omega) | exact MulOk.of (by assumption) (by assumption) (by decide) | exact Sz.mono (by assumption) (by decide) | exact szLog (by assumption) | exact szLog (Sms.get (by assumption) (by assumption)) | exact szW (by decide) | (simp only [List.length_map, List.length_cons, List.length_nil, List.length_append, List.length_reverse]; omega)))))))
  · exact List.cons_ne_nil _ _
  · exact Nat.le_of_ble_eq_true rfl
  · (focus (repeat' first | with_reducible exact pt0 | with_reducible apply pts | with_reducible intro _))
  intro d hd
  obtain ⟨t, ht, rfl⟩ : ∃ t : Int, (t = 1 ∨ t = 3 ∨ t = 5 ∨ t = 7 ∨ t = 9 ∨ t = 11) ∧ d = .int t := by
    have hd : d ∈ [D.int 1, .int 3, .int 5, .int 7, .int 9, .int 11] := hd
    simp only [List.mem_cons, List.not_mem_nil, or_false] at hd
    rcases hd with rfl | rfl | rfl | rfl | rfl | rfl <;> exact ⟨_, by decide, rfl⟩
  have tb : 1 ≤ t ∧ t ≤ 11 := by omega
  have al : a ≤ st.length := by omega
  with_reducible apply s_ret (d := .lst ((namesI st a e t n).map .str))
  · refine (ev_lc (l := List.range n) (gg := fun k : Nat => D.int (0 + (k : Int))) (f := fun k : Nat => D.str (nmS st a (letC e t k))) (evi_rng (j := (n : Int)) (ev_var rfl) (by omega)) rfl (fun k hk => aev1 ?_) (by rw [List.length_range]; omega)).eq (by unfold namesI; rw [List.map_map]; rfl)
    refine Ev.eq (x := .str (nmS st a (letC e t (0 + k)))) ?_ (by rw [Nat.zero_add])
    show Ev _ _ (.str (cutS st none (some a) ++ (⟨#[letC e t (0 + k)]⟩ : Str) ++ cutS st (some a) none))
    have l1 := cut_len st none (some a)
    have l2 := cut_len st (some a) none
    have l3 : (⟨#[letC e t (0 + k)]⟩ : Str).length = 1 := rfl
    have l4 : (cutS st none (some a) ++ (⟨#[letC e t (0 + k)]⟩ : Str)).length = (cutS st none (some a)).length + 1 := by
      show ((cutS st none (some a)).cps ++ #[letC e t (0 + k)]).size = _
      simp [Str.length]
    (focus ((repeat' first | exact o_ixS letC_at (by decide) | ((with_reducible apply ev_var); exact rfl) | with_reducible exact ev_c | with_reducible apply ev_repF | with_reducible apply ev_repT | with_reducible apply ev_g2 | with_reducible apply ev_g1 | with_reducible apply eva_cons | with_reducible apply ev_tup | with_reducible apply ev_lst | with_reducible apply evt_B | with_reducible apply evt_and | with_reducible apply evt_or | with_reducible apply evt_not | with_reducible apply ev_if | with_reducible apply ev_isi | with_reducible apply ev_isN | with_reducible apply ev_fld | with_reducible apply ev_ca | with_reducible apply ev_mc | with_reducible apply ev_ci | with_reducible apply ev_con | with_reducible apply ev_mk | with_reducible apply ev_own1 | with_reducible apply ev_own2 | with_reducible apply ev_ownR | with_reducible apply ev_ownQ | with_reducible apply ev_ownN | with_reducible apply ev_ownE | with_reducible apply ev_ownEN | with_reducible apply ev_ownS | with_reducible apply ev_ownB | with_reducible apply ev_join | with_reducible apply ev_js | with_reducible apply ev_fmt | with_reducible apply ev_sl | with_reducible apply ev_andV | with_reducible apply ev_orV | with_reducible apply ev_notV | with_reducible apply ev_chain | with_reducible apply ev_cl | with_reducible apply eva_app | with_reducible apply eva_star | with_reducible apply eva_star1 | with_reducible apply evp_part | with_reducible apply evi_it | with_reducible apply evi_LL | with_reducible apply evi_TT | with_reducible apply evi_S | with_reducible apply evi_rng | with_reducible apply evi_rng2 | with_reducible apply evi_zip | with_reducible apply evi_en | with_reducible apply ev_tm | with_reducible apply ot_split | with_reducible apply ot_part | with_reducible apply o_intS | with_reducible apply o_ixS | with_reducible apply o_inL | with_reducible apply o_inTu | with_reducible apply o_inT | with_reducible apply o_pow | with_reducible apply o_rev | with_reducible apply o_strI | with_reducible apply ev_ls | with_reducible apply o_ninTu | with_reducible apply o_ixTI | with_reducible apply sr_shp | with_reducible apply sri_shp | with_reducible apply sr_same | with_reducible apply ow2_own | with_reducible apply ow2_int | with_reducible apply fm_S | with_reducible apply fm_I | with_reducible apply sl_S | with_reducible apply aev1 | with_reducible apply aev2 | with_reducible apply aev3 | with_reducible apply aevf1 | with_reducible apply aevf2 | with_reducible apply aevf3 | with_reducible exact eva_nil | with_reducible exact evt_yes | with_reducible exact evp_no | with_reducible exact ev_jsN | with_reducible exact itr_L | with_reducible exact itr_T | with_reducible exact sl_L | with_reducible exact sl_T | with_reducible exact jn_eq | with_reducible exact jn_int | with_reducible exact jn_str | with_reducible exact jn_bl | with_reducible exact jn_tup | with_reducible exact jn_lst | with_reducible exact jn_any | with_reducible exact o_eqI | with_reducible exact o_neI | with_reducible exact o_eqS | with_reducible exact o_neS | with_reducible exact o_eqB | with_reducible exact o_neB | with_reducible exact o_all | with_reducible exact o_eqT2 | with_reducible exact o_neT2 | with_reducible exact o_inS | with_reducible exact o_ninS | with_reducible exact o_eqL | with_reducible exact o_eqTu | with_reducible exact o_max2 | with_reducible exact o_tup | with_reducible exact o_tup2 | with_reducible exact o_lst | with_reducible exact o_lst2 | ((with_reducible apply ev_varT); exact rfl) | ((with_reducible apply ev_varO); exact rfl) | ((with_reducible apply o2_i); exact fun _ q => q) | ((with_reducible apply o2_i); refine fun _ zq_ => ⟨?_, zq_⟩) | ((with_reducible apply o1_i); exact fun _ q => q) | ((with_reducible apply o1_i); refine fun _ zq_ => ⟨?_, zq_⟩) | ((with_reducible apply on_i); exact fun _ q => q) | ((with_reducible apply on_i); refine fun _ zq_ => ⟨?_, zq_⟩) | ((with_reducible apply fi_i); exact rfl) | ((with_reducible apply pk_i); exact rfl) | exact pairs_ints _ _ | ((with_reducible apply mp_i); exact rfl) | with_reducible apply ev_lc | with_reducible apply ev_lcF | with_reducible intro _) <;> (try (show (_ : Prop); (fail_if_success (with_reducible show Ev _ _ _)); first | ((with_reducible apply sle); first | (simp only [str_len2]; omega) | with_reducible assumption | omega | decide) | ((fail_if_success (with_reducible apply sle)); first | assumption | ((with_reducible refine And.intro ?_ ?_) <;> omega) | ((fail_if_success (with_reducible refine And.intro ?_ ?_)); first | rfl | exact List.cons_ne_nil _ _ | exact Nat.le_of_ble_eq_true rfl | decide | omega | exact MulOk.right (by omega) | exact MulOk.left (by omega) | exact MulOk.of (by assumption) (by assumption) (by decide) | exact Sz.mono (by assumption) (by decide) | exact szLog (by assumption) | exact szLog (Sms.get (by assumption) (by assumption)) | exact szW (by decide) | (simp only [List.length_map, List.length_cons, List.length_nil, List.length_append, List.length_reverse]; omega)))))))
    all_goals omega
  refine ⟨hk _ (by unfold namesI; rw [List.length_map, List.length_range]) (fun x hx => ?_) (namesI_nodup a0 al ht hn) (fun x hx => ?_)⟩
  · obtain ⟨k, hk, rfl⟩ := List.mem_map.mp hx
    exact nmS_ok hsl (fun c hc => cot_smt c (e5' c hc)) a0 al letC_mem
  · obtain ⟨k, hk, rfl⟩ := List.mem_map.mp hx
    exact nmS_vw e5' a0 al
theorem fc__law_names_2 (F : Facts K mg) : FnC P w K mg base 3 (He.ga K "_law_names") [] (lift K s_lnames) := FnOk.c0 (ok__law_names F) (F.d__law_names.bindsN fun _ _ _ _ _ _ us hl => match us, hl with | [_, _], _ => rfl)
theorem ok__law_gcd (F : Facts K mg) : FnOk P w K mg base (L2.CX P w) 2 (He.ga K "_law_gcd") (fdOf K (He.ga K "_law_gcd")) ["_law_one", "_law_other"] (lift K sGcd) := by
  refine okD F.d__law_gcd sc__law_gcd (fun ds k e h => by obtain ⟨a, b, rfl, _⟩ := h; rfl) fun cdv A outer s0 H E b eo hr Z => ⟨_, dss_cons (ds_par (i := 2) (j := 3) rfl sc__law_gcd.nd rfl rfl (by decide) rfl rfl (de_callB call_abs cl_abs rfl F.n_abs rfl (DE.dt (de_var 0))) (de_callB call_abs cl_abs rfl F.n_abs rfl (DE.dt (de_var 1))) rfl)
    (dss_cons (ds_while (passes_of rfl) (db_neA hr (DE.dt (de_var 3)) (DE.dt (de_int))) (dss_one (ds_par (i := 2) (j := 3) rfl sc__law_gcd.nd rfl rfl (by decide) rfl rfl (de_var 3) (de_sub (DE.dt (de_var 2)) (DE.dt (de_mulA (DE.dt (de_div (DE.dt (de_var 2)) (DE.dt (de_var 3)))) (DE.dt (de_var 3))))) rfl)))
    (dss_one (ds_ret (DE.dt (de_var 2))))), fun ds k h => ?_⟩
  obtain ⟨x, y, rfl, hx, hy, hk⟩ := h
  simp (config := { decide := false }) only [gRet, gRetN, gAndV, gOrV, gNotV, gIsi, gVar, gVarT, gC, gSeq, gNext, gIfS, gAsg, gDrop, gNever, gBreak, gCont, gIf, gAnd, gOr, gNot, gB, g1, g2, DL.gNil, DL.gCons, DL.gTup, DL.gLst, gIsN, dIsN, gPar, gTgt, asg, asgs, gCl, gCall, gCallK, gMeth, gFld, gMake, gJoin, gSl2, gNoP, gPart, gItS, gIt, gItL, gItT, gZip, gRng1, gLc, gRaise, gYes, gChain, dI, dI0, startD, initD, look, put, wipeD, List.map_cons, List.map_nil, List.cons_append, List.nil_append, List.append_nil, List.length_cons, List.length_nil, List.replicate, Nat.zero_add, Nat.add_zero, Nat.sub_self, Nat.reduceAdd, Nat.reduceSub, dAddA, dAddB, dMulA, dLen3, dNeg, true_and, eq_self, gCa, gMc, gMk, gSlA, gZipA, gEnum, gOwn2, gOwnQ, gOwnN, gOwn1, gOwnS, gOwnR, gAsgO, gPsh, gAns, gOwnE, gOwnEN, gOwnB, gJs, gFmt]
  show gWhile _ _ _ [SD.sh (D.int x), SD.sh (D.int y), SD.sh (D.int (if x < 0 then -x else x)), SD.sh (D.int (if y < 0 then -y else y))]
  rw [natAbs_if, natAbs_if]
  refine ⟨fun m σ => ∃ l r : Nat, m = r ∧ σ = [SD.sh (D.int x), SD.sh (D.int y), SD.sh (D.int l), SD.sh (D.int r)] ∧ Nat.gcd l r = Nat.gcd x.natAbs y.natAbs ∧ l < 2 ^ 4000 ∧ r < 2 ^ 4000, ⟨_, _, _, rfl, rfl, rfl, hx, hy⟩, ?_⟩
  rintro m σ ⟨l, r, rfl, rfl, hg, hl, hr⟩
  by_cases e : m = 0
  · subst e
    rw [Nat.gcd_zero_right] at hg
    show k (.int l)
    rw [hg]; exact hk
  · have e2 : ((m : Int) == 0) = false := by simp; omega
    have e3 : eqF (D.int (m : Int)) (D.int 0) = false := e2
    show (match !(eqF (D.int (m : Int)) (D.int 0)) with | true => _ | false => _)
    rw [e3]
    refine ⟨DivOk.of (n := 4000) (by omega) (by unfold Sz; rw [Int.natAbs_natCast]; exact hr) (by decide), MulOk.of (m := 4000) (n := 4000) ?_ (by unfold Sz; rw [Int.natAbs_natCast]; exact hr) (by decide), l % m, Nat.mod_lt _ (Nat.pos_of_ne_zero e), m, l % m, rfl, ?_, ?_, hr, ?_⟩
    · unfold Sz
      rw [Int.fdiv_eq_ediv_of_nonneg _ (by omega)]
      show (((l / m : Nat) : Int)).natAbs < _
      rw [Int.natAbs_natCast]
      exact Nat.lt_of_le_of_lt (Nat.div_le_self _ _) hl
    · show [SD.sh (D.int x), SD.sh (D.int y), SD.sh (D.int m), SD.sh (D.int ((l : Int) - (l : Int).fdiv (m : Int) * (m : Int)))] = _
      rw [gcd_step l m e]
    · rw [← hg, Nat.gcd_comm l m, Nat.gcd_rec m l, Nat.gcd_comm]
    · exact Nat.lt_of_le_of_lt (Nat.mod_le _ _) hl
theorem sr_gcd {a b : Int} (ha : Sz 4000 a) (hb : Sz 4000 b) : SR sGcd [.int a, .int b] (.int (Nat.gcd a.natAbs b.natAbs : Nat)) := .mk fun k e q => ⟨a, b, rfl, ha, hb, q⟩
theorem fc__law_gcd_2 (F : Facts K mg) : FnC P w K mg base 2 (He.ga K "_law_gcd") [] (lift K sGcd) := FnOk.c0 (ok__law_gcd F) (F.d__law_gcd.bindsN fun _ _ _ _ _ _ us hl => match us, hl with | [_, _], _ => rfl)
abbrev RNS : List Str := ["top", "bottom"]
abbrev rat (t b : Int) : D := .ins "Ratio" RNS [.int t, .int b]
def gI (a b : Int) : Int := ((Nat.gcd a.natAbs b.natAbs : Nat) : Int)
def cmI (a b : Int) : Int := if 0 < b then gI a b else -gI a b
def lowP (a b : Int) : Int × Int := (a.fdiv (cmI a b), b.fdiv (cmI a b))
abbrev ratP (p : Int × Int) : D := rat p.1 p.2
theorem gI_dvd1 (a b : Int) : gI a b ∣ a := by
  unfold gI
  exact Int.ofNat_dvd_left.mpr (Nat.gcd_dvd_left _ _)
theorem gI_dvd2 (a b : Int) : gI a b ∣ b := by
  unfold gI
  exact Int.ofNat_dvd_left.mpr (Nat.gcd_dvd_right _ _)
theorem fdiv_negG {g a : Int} (h : g ∣ a) : a.fdiv (-g) = 0 - a.fdiv g := by
  obtain ⟨m, rfl⟩ := h
  by_cases z : g = 0
  · subst z; simp
  · rw [Int.mul_fdiv_cancel_left m z, show g * m = (-g) * (-m) by rw [Int.neg_mul_neg], Int.mul_fdiv_cancel_left (-m) (by omega)]
    omega
theorem gI_ok {a b : Int} (h : b ≠ 0) (h2 : Sz 4000 b) : DivOk (gI a b) ∧ DivOk (-gI a b) := by
  have hb : 0 < b.natAbs := by omega
  have h3 : Nat.gcd a.natAbs b.natAbs ≤ b.natAbs := Nat.le_of_dvd hb (Nat.gcd_dvd_right _ _)
  have h4 : 0 < Nat.gcd a.natAbs b.natAbs := Nat.gcd_pos_of_pos_right _ hb
  unfold gI
  constructor
  · refine DivOk.of (n := 4000) (by omega) ?_ (by decide)
    unfold Sz at h2 ⊢
    rw [Int.natAbs_natCast]; omega
  · refine DivOk.of (n := 4000) (by omega) ?_ (by decide)
    unfold Sz at h2 ⊢
    rw [Int.natAbs_neg, Int.natAbs_natCast]; omega
def s_low : GS := fun ds k _ => ∃ t b : Int, ds = [.int t, .int b] ∧ b ≠ 0 ∧ Sz 3990 t ∧ Sz 3990 b ∧ k (.tup [.int (lowP t b).1, .int (lowP t b).2])
theorem mn_low : MnS s_low := fun ds k k' e e' h1 _ ⟨t, b, e1, h, h2, h3, q⟩ => ⟨t, b, e1, h, h2, h3, h1 _ q⟩
theorem ok__law_low (F : Facts K mg) : FnOk P w K mg base (L2.CX P w) 3 (He.ga K "_law_low") (fdOf K (He.ga K "_law_low")) ["_law_top", "_law_bottom"] (lift K s_low) := by
  refine okD F.d__law_low sc__law_low (fun ds k e h => by obtain ⟨a, c, rfl, _⟩ := h; rfl) fun cdv A outer s0 H E b eo hr Z => ⟨_, dss_cons (ds_asg (i := 2) sc__law_low.nd rfl (.inl rfl) (de_ca (fc__law_gcd_2 F) sGcd_mn (hr.mono (by decide)) F.g__law_gcd F.d__law_gcd.kp cz_none (dca_pos (da_cons (de_var 0) (da_cons (de_var 1) (da_nil))))))
    (dss_one (ds_ret (DE.dt (de_if (db_gt (DE.dt (de_var 1)) (DE.dt (de_int))) (de_tup (da_cons (de_div (DE.dt (de_var 0)) (DE.dt (de_var 2))) (da_cons (de_div (DE.dt (de_var 1)) (DE.dt (de_var 2))) (da_nil)))) (de_tup (da_cons (de_sub (DE.dt (de_int)) (DE.dt (de_div (DE.dt (de_var 0)) (DE.dt (de_var 2))))) (da_cons (de_sub (DE.dt (de_int)) (DE.dt (de_div (DE.dt (de_var 1)) (DE.dt (de_var 2))))) (da_nil)))))))), fun ds k h => ?_⟩
  obtain ⟨t, b, rfl, h0, ht, hb, hk⟩ := h
  obtain ⟨d1, d2⟩ := gI_ok (a := t) h0 (hb.mono (by decide))
  refine ⟨t, b, rfl, ht.mono (by decide), hb.mono (by decide), ?_⟩
  have hk : k (.tup [.int (t.fdiv (cmI t b)), .int (b.fdiv (cmI t b))]) := hk
  show match decide ((0 : Int) < b) with | true => _ | false => _
  unfold cmI at hk
  by_cases c : 0 < b
  · rw [if_pos c] at hk
    rw [decide_eq_true c]
    exact ⟨d1, d1, (by show 2 ≤ 1000; decide), hk⟩
  · rw [if_neg c, fdiv_negG (gI_dvd1 t b), fdiv_negG (gI_dvd2 t b)] at hk
    rw [decide_eq_false c]
    refine ⟨d1, d1, (by show 2 ≤ 1000; decide), ?_⟩
    exact hk
theorem sr_low {t b : Int} (h : b ≠ 0) (ht : Sz 3990 t) (hb : Sz 3990 b) : SR s_low [.int t, .int b] (.tup [.int (lowP t b).1, .int (lowP t b).2]) := .mk fun k e z => ⟨_, _, rfl, h, ht, hb, z⟩
theorem fc__law_low_2 (F : Facts K mg) : FnC P w K mg base 3 (He.ga K "_law_low") [] (lift K s_low) := FnOk.c0 (ok__law_low F) (F.d__law_low.bindsN fun _ _ _ _ _ _ us hl => match us, hl with | [_, _], _ => rfl)
def numD : D → Bool | .int _ => true | _ => false
def s_is_number : GS := fun ds k _ => ∃ d, ds = [d] ∧ askD CLS d = true ∧ k (.bl (numD d))
theorem mn_is_number : MnS s_is_number := fun ds k k' e e' h1 _ ⟨d, h, h2, q⟩ => ⟨d, h, h2, h1 _ q⟩
theorem ok_is_number (F : Facts K mg) : FnOk P w K mg base (L2.CX P w) 2 (He.ga K "is_number") (fdOf K (He.ga K "is_number")) ["value"] (lift K s_is_number) := by
  refine okD F.d_is_number sc_is_number (fun ds k e h => by obtain ⟨d, rfl, _⟩ := h; rfl) fun cdv A outer s0 H E b eo hr Z => ⟨_, dss_one (ds_ret (DE.dt (de_and (DE.dt (de_isi (k := .ty .int) F.W (by simp [KC.ok]) (DE.dt (de_var 0)) (pe_kty rfl F.n_int rfl) rfl F.n_isinstance)) (de_one (de_not (DE.dt (de_isi (k := .ty .bl) F.W (by simp [KC.ok]) (DE.dt (de_var 0)) (pe_kty rfl F.n_bool rfl) rfl F.n_isinstance))))))), fun ds k h => ?_⟩
  obtain ⟨d, rfl, h1, h2⟩ := h
  simp (config := { decide := false }) only [gRet, gRetN, gAndV, gOrV, gNotV, gIsi, gVar, gVarT, gC, gSeq, gNext, gIfS, gAsg, gDrop, gNever, gBreak, gCont, gIf, gAnd, gOr, gNot, gB, g1, g2, DL.gNil, DL.gCons, DL.gTup, DL.gLst, gIsN, dIsN, gPar, gTgt, asg, asgs, gCl, gCall, gCallK, gMeth, gFld, gMake, gJoin, gSl2, gNoP, gPart, gItS, gIt, gItL, gItT, gZip, gRng1, gLc, gRaise, gYes, gChain, dI, dI0, startD, initD, look, put, wipeD, List.map_cons, List.map_nil, List.cons_append, List.nil_append, List.append_nil, List.length_cons, List.length_nil, List.replicate, Nat.zero_add, Nat.add_zero, Nat.sub_self, Nat.reduceAdd, Nat.reduceSub, dAddA, dAddB, dMulA, dLen3, dNeg, true_and, eq_self, gCa, gMc, gMk, gSlA, gZipA, gEnum, gOwn2, gOwnQ, gOwnN, gOwn1, gOwnS, gOwnR, gAsgO, gPsh, gAns, gOwnE, gOwnEN, gOwnB, gJs, gFmt]
  refine ⟨h1, ?_⟩
  cases d <;> first | exact h2 | exact ⟨h1, h2⟩
theorem sr_is_number {d : D} (h : askD CLS d = true) : SR s_is_number [d] (.bl (numD d)) := .mk fun k e q => ⟨d, rfl, h, q⟩
theorem fc_is_number_1 (F : Facts K mg) : FnC P w K mg base 2 (He.ga K "is_number") [] (lift K s_is_number) := FnOk.c0 (ok_is_number F) (F.d_is_number.bindsN fun _ _ _ _ _ _ us hl => match us, hl with | [_], _ => rfl)
theorem ok_InvalidNumber_init (F : Facts K mg) : FnOk P w K mg base (L2.CX P w) 1 (He.ma K (He.ga K "InvalidNumber") "__init__") (fdOf K (He.ma K (He.ga K "InvalidNumber") "__init__")) ["self", "given"] (spErr (He.ga K "InvalidNumber") "InvalidNumber" ["given"]) := by
  refine F.d_InvalidNumber_init.ok sc_InvalidNumber_init (fun vs H Q E h => by obtain ⟨a, ws, rfl, hl, _⟩ := h; simpa using hl) fun cdv A outer s H vs Q E hr h => ⟨_, (pss_cons (ps_expr (pe_bsinit rfl F.g_StrideError F.base (pa_cons (pe_var (i := 0) rfl (.inl rfl)) (pa_cons pe_str pa_nil)))) (pss_cons (ps_osE .ve (pe_var (i := 0) rfl (.inl rfl)) pe_str) (pss_one (ps_osE .ve (pe_var (i := 0) rfl (.inl rfl)) (pe_var (i := 1) rfl (.inl rfl)))))), ?_⟩
  exact err_read1 F.e_InvalidNumber.C h rfl
theorem ok_ZeroDivisor_init (F : Facts K mg) : FnOk P w K mg base (L2.CX P w) 1 (He.ma K (He.ga K "ZeroDivisor") "__init__") (fdOf K (He.ma K (He.ga K "ZeroDivisor") "__init__")) ["self"] (spErr (He.ga K "ZeroDivisor") "ZeroDivisor" []) := by
  refine F.d_ZeroDivisor_init.ok sc_ZeroDivisor_init (fun vs H Q E h => by obtain ⟨a, ws, rfl, hl, _⟩ := h; simpa using hl) fun cdv A outer s H vs Q E hr h => ⟨_, (pss_cons (ps_expr (pe_bsinit rfl F.g_StrideError F.base (pa_cons (pe_var (i := 0) rfl (.inl rfl)) (pa_cons pe_str pa_nil)))) (pss_one (ps_osE .ve (pe_var (i := 0) rfl (.inl rfl)) pe_str))), ?_⟩
  exact err_read0 F.e_ZeroDivisor.C h rfl
def RinitR (x y : D) (k : List Str → List D → Prop) (e : XD → Prop) : Prop := match x, y with
  | .int t, .int b => (b = 0 ∧ e (errX "ZeroDivisor" "ZeroDivisor" [] [])) ∨ (b ≠ 0 ∧ Sz 4000 b ∧ k RNS [.int (lowP t b).1, .int (lowP t b).2])
  | .int _, y => e (errX "InvalidNumber" "InvalidNumber" ["given"] [y])
  | x, _ => e (errX "InvalidNumber" "InvalidNumber" ["given"] [x])
def s_Rinit : GSI := fun c ns fs ds k e => ∃ x y, c = "Ratio" ∧ ns = [] ∧ fs = [] ∧ ds = [x, y] ∧ askD CLS x = true ∧ askD CLS y = true ∧ RinitR x y k e
theorem mn_Rinit : MnSI s_Rinit := fun c ns fs ds k k' e e' h1 h2 ⟨x, y, e1, e2, e3, e4, g1, g2, q⟩ => ⟨x, y, e1, e2, e3, e4, g1, g2, by
  cases x with
  | int t =>
    cases y with
    | int b => exact q.imp (fun z => ⟨z.1, h2 _ z.2⟩) (fun z => ⟨z.1, z.2.1, h1 _ _ z.2.2⟩)
    | _ => exact h2 _ q
  | _ => cases y <;> exact h2 _ q⟩
theorem Rinit_ok {t b : Int} {k : List Str → List D → Prop} {e : XD → Prop} (h : b ≠ 0) (h2 : Sz 4000 b) (q : k RNS [.int (lowP t b).1, .int (lowP t b).2]) : s_Rinit "Ratio" [] [] [.int t, .int b] k e := ⟨_, _, rfl, rfl, rfl, rfl, rfl, rfl, .inr ⟨h, h2, q⟩⟩
theorem ok_Ratio_init (F : Facts K mg) : FnOk P w K mg base (L2.CX P w) 3 (He.ma K (He.ga K "Ratio") "__init__") (fdOf K (He.ma K (He.ga K "Ratio") "__init__")) ["self", "top", "bottom"] (liftI K s_Rinit) := by
  refine okI F.d_Ratio_init sc_Ratio_init (fun c ns fs ds k e h => by obtain ⟨x, y, _, _, _, rfl, _⟩ := h; rfl) fun cdv A outer s0 Hc H E b eo hr Z c ns fs ds k h => ?_
  refine ⟨_, dss_cons (ds_for (passes_of rfl) rfl (di_seq (de_tup (da_cons (de_var 1) (da_cons (de_var 2) (da_nil))))) (dg_name (i := 3) sc_Ratio_init.nd rfl (.inl rfl)) (dss_one (ds_if (db_not (db_val (DE.dt (de_ca (fc_is_number_1 F) mn_is_number (hr.mono (by decide)) F.g_is_number F.d_is_number.kp cz_none (dca_pos (da_cons (de_var 3) (da_nil))))))) (dss_one (ds_raise (takes_of rfl rfl rfl rfl) Z rfl F.e_InvalidNumber (ok_InvalidNumber_init F) (hr.mono (by decide)) (bi_InvalidNumber_init F) .nil (fun _ _ => Reps.nil) (passes_call (takes_of rfl rfl rfl rfl) fun _ _ _ _ z => z.elim) rfl F.g_InvalidNumber (da_cons (de_var 3) (da_nil)))) (dss_nil))))
    (dss_cons (ds_if (db_eqA hr (DE.dt (de_var 2)) (DE.dt (de_int))) (dss_one (ds_raise0 (takes_of rfl rfl rfl rfl) Z rfl F.e_ZeroDivisor (ok_ZeroDivisor_init F) (hr.mono (by decide)) (bi_ZeroDivisor_init F) .nil (fun _ _ => Reps.nil) (passes_call (takes_of rfl rfl rfl rfl) fun _ _ _ _ z => z.elim) rfl F.g_ZeroDivisor)) (dss_nil))
    (dss_cons (ds_asg (i := 4) sc_Ratio_init.nd rfl (.inl rfl) (de_if (db_gt (DE.dt (de_var 2)) (DE.dt (de_int))) (de_callBN cr_gcd cl_gcd rfl F.b_gcd (dat_cons (DE.dt (de_var 1)) (dat_cons (DE.dt (de_var 2)) (dat_nil)))) (de_neg (DE.dt (de_callBN cr_gcd cl_gcd rfl F.b_gcd (dat_cons (DE.dt (de_var 1)) (dat_cons (DE.dt (de_var 2)) (dat_nil))))))))
    (dss_cons (ds_self (i := 0) (c := "Ratio") (ns0 := []) (de_div (DE.dt (de_var 1)) (DE.dt (de_var 4))) F.c_Ratio F.a_Ratio_top (by decide) (by decide))
    (dss_one (ds_self (i := 0) (c := "Ratio") (ns0 := ["top"]) (de_div (DE.dt (de_var 2)) (DE.dt (de_var 4))) F.c_Ratio F.a_Ratio_bottom (by decide) (by decide)))))), fun a dx => ?_⟩
  obtain ⟨x, y, rfl, rfl, rfl, rfl, g1, g2, h⟩ := h
  cases x with
  | int t =>
    cases y with
    | int bo =>
      refine ⟨by show 2 ≤ 1000; decide, _, rfl, rfl, _, rfl, rfl, ?_⟩
      rcases h with ⟨rfl, he⟩ | ⟨hb, hs, hk⟩
      · exact ⟨rfl, by decide, he⟩
      · have e0 : (bo == 0) = false := beq_eq_false_iff_ne.mpr hb
        have hk : k RNS [.int (t.fdiv (cmI t bo)), .int (bo.fdiv (cmI t bo))] := hk
        obtain ⟨d1, d2⟩ := gI_ok (a := t) hb hs
        show match (bo == 0) with | true => _ | false => _
        rw [e0]
        show match decide ((0 : Int) < bo) with | true => _ | false => _
        unfold cmI at hk
        by_cases c : 0 < bo
        · rw [if_pos c] at hk
          rw [decide_eq_true c]
          exact ⟨d1, rfl, rfl, d1, rfl, rfl, rfl, rfl, rfl, hk⟩
        · rw [if_neg c] at hk
          rw [decide_eq_false c]
          exact ⟨d2, rfl, rfl, d2, rfl, rfl, rfl, rfl, rfl, hk⟩
    | _ => exact ⟨by show 2 ≤ 1000; decide, _, rfl, rfl, _, rfl, g2, rfl, (by show 1 ≤ 900; decide), h⟩
  | _ => exact ⟨by show 2 ≤ 1000; decide, _, rfl, g1, rfl, (by show 1 ≤ 900; decide), h⟩
theorem sri_Rinit {t b : Int} (h : b ≠ 0) (h2 : Sz 4000 b) : SRI s_Rinit "Ratio" [.int t, .int b] RNS [.int (lowP t b).1, .int (lowP t b).2] := .mk fun k e q => Rinit_ok h h2 q
theorem fc_Ratio_init_2 (F : Facts K mg) : FnC P w K mg base 3 (He.ma K (He.ga K "Ratio") "__init__") [] (liftI K (shpI 2 [0, 1] [.int (1)] s_Rinit)) := FnOk.cbI (n := 2) (ks := []) (dd := [.int (1)]) (dvs := [.int (1)]) (ix := [0, 1]) (ok_Ratio_init F) (fun _ _ => Reps.cons rfl (Reps.nil)) (bnd10 F.d_Ratio_init 3 [] [0, 1, 2] (by simp) fun _ _ _ _ _ _ _ us its ws h1 h2 h3 => match us, its, ws, h1, h2, h3 with | [_, _, _], [_], [], _, _, _ => ⟨_, rfl, rfl⟩)
theorem fc_Ratio_init_1 (F : Facts K mg) : FnC P w K mg base 3 (He.ma K (He.ga K "Ratio") "__init__") [] (liftI K (shpI 1 [0, 1] [.int (1)] s_Rinit)) := FnOk.cbI (n := 1) (ks := []) (dd := [.int (1)]) (dvs := [.int (1)]) (ix := [0, 1]) (ok_Ratio_init F) (fun _ _ => Reps.cons rfl (Reps.nil)) (bnd10 F.d_Ratio_init 2 [] [0, 1, 2] (by simp) fun _ _ _ _ _ _ _ us its ws h1 h2 h3 => match us, its, ws, h1, h2, h3 with | [_, _], [_], [], _, _, _ => ⟨_, rfl, rfl⟩)
def nameD : D → Bool
  | .str x => nameB x
  | _ => false
def s_name : GS := fun ds k _ => ∃ d, ds = [d] ∧ askD CLS d = true ∧ (∀ x, d = .str x → x.length ≤ 1000000) ∧ k (.bl (nameD d))
theorem mn_name : MnS s_name := fun ds k k' e e' h1 _ ⟨d, h, h2, h3, q⟩ => ⟨d, h, h2, h3, h1 _ q⟩
theorem ok_is_name (F : Facts K mg) : FnOk P w K mg base (L2.CX P w) 2 (He.ga K "is_name") (fdOf K (He.ga K "is_name")) ["value"] (lift K s_name) := by
  refine okD F.d_is_name sc_is_name (fun ds k e h => by obtain ⟨d, rfl, _⟩ := h; rfl) fun cdv A outer s0 H E b eo hr Z => ⟨_, dss_one (ds_ret (DE.dt (de_and (DE.dt (de_isi (k := .ty .str) F.W (by simp [KC.ok]) (DE.dt (de_var 0)) (pe_kty rfl F.n_str rfl) rfl F.n_isinstance)) (de_and (DE.dt (de_lele (DE.dt (de_int)) (DE.dt (de_callB call_len3 cl_len rfl F.n_len rfl (DE.dt (de_var 0)))) (DE.dt (de_gint rfl F.c_MOST_NAME.choose_spec)))) (de_one (de_callB (cr_all rfl) cl_all rfl F.n_all rfl (DE.dt (de_lc rfl sc_is_name.nd (own := [("sign", 1)]) (di_str (DE.dt (de_var 0))) (blk_ok (N := ["value", "sign"]) (by kernel_rfl)) (fun _ _ _ _ _ => dg_name (i := 1) sc_is_name.nd rfl (.inl rfl)) (fun _ _ _ _ _ => dts_nil) (fun _ _ _ _ _ => de_inA (k := 0) (hr.mono (by decide)) (DE.dt (de_var 1)) (DE.dt (de_gstr rfl F.c_SMALL.choose_spec))))))))))), fun ds k h => ?_⟩
  obtain ⟨d, rfl, h1, hl, hk⟩ := h
  suffices z : Stp _ from z.run
  cases d with
  | str x =>
    have hx := hl x rfl
    have e : ((x.cps.toList.length : Nat) : Int) = (x.length : Int) := by simp [Str.length]
    (first | (with_reducible show Stp _) | refine Stp.run ?_); (try with_reducible refine nx_mk ?_); (with_reducible apply s_ret); (focus ((repeat' first | ((with_reducible apply ev_var); exact rfl) | with_reducible exact ev_c | with_reducible apply ev_repF | with_reducible apply ev_repT | with_reducible apply ev_g2 | with_reducible apply ev_g1 | with_reducible apply eva_cons | with_reducible apply ev_tup | with_reducible apply ev_lst | with_reducible apply evt_B | with_reducible apply evt_and | with_reducible apply evt_or | with_reducible apply evt_not | with_reducible apply ev_if | with_reducible apply ev_isi | with_reducible apply ev_isN | with_reducible apply ev_fld | with_reducible apply ev_ca | with_reducible apply ev_mc | with_reducible apply ev_ci | with_reducible apply ev_con | with_reducible apply ev_mk | with_reducible apply ev_own1 | with_reducible apply ev_own2 | with_reducible apply ev_ownR | with_reducible apply ev_ownQ | with_reducible apply ev_ownN | with_reducible apply ev_ownE | with_reducible apply ev_ownEN | with_reducible apply ev_ownS | with_reducible apply ev_ownB | with_reducible apply ev_join | with_reducible apply ev_js | with_reducible apply ev_fmt | with_reducible apply ev_sl | with_reducible apply ev_andV | with_reducible apply ev_orV | with_reducible apply ev_notV | with_reducible apply ev_chain | with_reducible apply ev_cl | with_reducible apply eva_app | with_reducible apply eva_star | with_reducible apply eva_star1 | with_reducible apply evp_part | with_reducible apply evi_it | with_reducible apply evi_LL | with_reducible apply evi_TT | with_reducible apply evi_S | with_reducible apply evi_rng | with_reducible apply evi_rng2 | with_reducible apply evi_zip | with_reducible apply evi_en | with_reducible apply ev_tm | with_reducible apply ot_split | with_reducible apply ot_part | with_reducible apply o_intS | with_reducible apply o_ixS | with_reducible apply o_inL | with_reducible apply o_inTu | with_reducible apply o_inT | with_reducible apply o_pow | with_reducible apply o_rev | with_reducible apply o_strI | with_reducible apply ev_ls | with_reducible apply o_ninTu | with_reducible apply o_ixTI | with_reducible apply sr_shp | with_reducible apply sri_shp | with_reducible apply sr_same | with_reducible apply ow2_own | with_reducible apply ow2_int | with_reducible apply fm_S | with_reducible apply fm_I | with_reducible apply sl_S | with_reducible apply aev1 | with_reducible apply aev2 | with_reducible apply aev3 | with_reducible apply aevf1 | with_reducible apply aevf2 | with_reducible apply aevf3 | with_reducible exact eva_nil | with_reducible exact evt_yes | with_reducible exact evp_no | with_reducible exact ev_jsN | with_reducible exact itr_L | with_reducible exact itr_T | with_reducible exact sl_L | with_reducible exact sl_T | with_reducible exact jn_eq | with_reducible exact jn_int | with_reducible exact jn_str | with_reducible exact jn_bl | with_reducible exact jn_tup | with_reducible exact jn_lst | with_reducible exact jn_any | with_reducible exact o_eqI | with_reducible exact o_neI | with_reducible exact o_eqS | with_reducible exact o_neS | with_reducible exact o_eqB | with_reducible exact o_neB | with_reducible exact o_all | with_reducible exact o_eqT2 | with_reducible exact o_neT2 | with_reducible exact o_inS | with_reducible exact o_ninS | with_reducible exact o_eqL | with_reducible exact o_eqTu | with_reducible exact o_max2 | with_reducible exact o_tup | with_reducible exact o_tup2 | with_reducible exact o_lst | with_reducible exact o_lst2 | ((with_reducible apply ev_varT); exact rfl) | ((with_reducible apply ev_varO); exact rfl) | ((with_reducible apply o2_i); exact fun _ q => q) | ((with_reducible apply o2_i); refine fun _ zq_ => ⟨?_, zq_⟩) | ((with_reducible apply o1_i); exact fun _ q => q) | ((with_reducible apply o1_i); refine fun _ zq_ => ⟨?_, zq_⟩) | ((with_reducible apply on_i); exact fun _ q => q) | ((with_reducible apply on_i); refine fun _ zq_ => ⟨?_, zq_⟩) | ((with_reducible apply fi_i); exact rfl) | ((with_reducible apply pk_i); exact rfl) | exact pairs_ints _ _ | ((with_reducible apply mp_i); exact rfl) | with_reducible apply ev_lc | with_reducible apply ev_lcF | with_reducible apply sr_gcd | with_reducible apply sr_low | with_reducible apply sr_is_number | with_reducible apply sri_Rinit | with_reducible intro _) <;> (try (show (_ : Prop); (fail_if_success (with_reducible show Ev _ _ _)); first | ((with_reducible apply sle); first | (simp only [str_len2]; omega) | with_reducible assumption | omega | decide) | ((fail_if_success (with_reducible apply sle)); first | assumption | ((with_reducible refine And.intro ?_ ?_) <;> omega) | ((fail_if_success (with_reducible refine And.intro ?_ ?_)); first | rfl | exact List.cons_ne_nil _ _ | exact Nat.le_of_ble_eq_true rfl | decide | omega | exact MulOk.right (by omega) | exact MulOk.left (by omega) | exact MulOk.of (by assumption) (by assumption) (by decide) | exact Sz.mono (by assumption) (by decide) | exact szLog (by assumption) | exact szLog (Sms.get (by assumption) (by assumption)) | exact szW (by decide) | (simp only [List.length_map, List.length_cons, List.length_nil, List.length_append, List.length_reverse]; omega)))))))
    exact ⟨hk⟩
  | bag => cases h1
  | clo o => cases h1
  | _ =>
    (first | (with_reducible show Stp _) | refine Stp.run ?_); (try with_reducible refine nx_mk ?_); (with_reducible apply s_ret); (focus ((repeat' first | ((intro hq_); exact ev_absB (by cases hq_)) | ((with_reducible apply ev_var); exact rfl) | with_reducible exact ev_c | with_reducible apply ev_repF | with_reducible apply ev_repT | with_reducible apply ev_g2 | with_reducible apply ev_g1 | with_reducible apply eva_cons | with_reducible apply ev_tup | with_reducible apply ev_lst | with_reducible apply evt_B | with_reducible apply evt_and | with_reducible apply evt_or | with_reducible apply evt_not | with_reducible apply ev_if | with_reducible apply ev_isi | with_reducible apply ev_isN | with_reducible apply ev_fld | with_reducible apply ev_ca | with_reducible apply ev_mc | with_reducible apply ev_ci | with_reducible apply ev_con | with_reducible apply ev_mk | with_reducible apply ev_own1 | with_reducible apply ev_own2 | with_reducible apply ev_ownR | with_reducible apply ev_ownQ | with_reducible apply ev_ownN | with_reducible apply ev_ownE | with_reducible apply ev_ownEN | with_reducible apply ev_ownS | with_reducible apply ev_ownB | with_reducible apply ev_join | with_reducible apply ev_js | with_reducible apply ev_fmt | with_reducible apply ev_sl | with_reducible apply ev_andV | with_reducible apply ev_orV | with_reducible apply ev_notV | with_reducible apply ev_chain | with_reducible apply ev_cl | with_reducible apply eva_app | with_reducible apply eva_star | with_reducible apply eva_star1 | with_reducible apply evp_part | with_reducible apply evi_it | with_reducible apply evi_LL | with_reducible apply evi_TT | with_reducible apply evi_S | with_reducible apply evi_rng | with_reducible apply evi_rng2 | with_reducible apply evi_zip | with_reducible apply evi_en | with_reducible apply ev_tm | with_reducible apply ot_split | with_reducible apply ot_part | with_reducible apply o_intS | with_reducible apply o_ixS | with_reducible apply o_inL | with_reducible apply o_inTu | with_reducible apply o_inT | with_reducible apply o_pow | with_reducible apply o_rev | with_reducible apply o_strI | with_reducible apply ev_ls | with_reducible apply o_ninTu | with_reducible apply o_ixTI | with_reducible apply sr_shp | with_reducible apply sri_shp | with_reducible apply sr_same | with_reducible apply ow2_own | with_reducible apply ow2_int | with_reducible apply fm_S | with_reducible apply fm_I | with_reducible apply sl_S | with_reducible apply aev1 | with_reducible apply aev2 | with_reducible apply aev3 | with_reducible apply aevf1 | with_reducible apply aevf2 | with_reducible apply aevf3 | with_reducible exact eva_nil | with_reducible exact evt_yes | with_reducible exact evp_no | with_reducible exact ev_jsN | with_reducible exact itr_L | with_reducible exact itr_T | with_reducible exact sl_L | with_reducible exact sl_T | with_reducible exact jn_eq | with_reducible exact jn_int | with_reducible exact jn_str | with_reducible exact jn_bl | with_reducible exact jn_tup | with_reducible exact jn_lst | with_reducible exact jn_any | with_reducible exact o_eqI | with_reducible exact o_neI | with_reducible exact o_eqS | with_reducible exact o_neS | with_reducible exact o_eqB | with_reducible exact o_neB | with_reducible exact o_all | with_reducible exact o_eqT2 | with_reducible exact o_neT2 | with_reducible exact o_inS | with_reducible exact o_ninS | with_reducible exact o_eqL | with_reducible exact o_eqTu | with_reducible exact o_max2 | with_reducible exact o_tup | with_reducible exact o_tup2 | with_reducible exact o_lst | with_reducible exact o_lst2 | ((with_reducible apply ev_varT); exact rfl) | ((with_reducible apply ev_varO); exact rfl) | ((with_reducible apply o2_i); exact fun _ q => q) | ((with_reducible apply o2_i); refine fun _ zq_ => ⟨?_, zq_⟩) | ((with_reducible apply o1_i); exact fun _ q => q) | ((with_reducible apply o1_i); refine fun _ zq_ => ⟨?_, zq_⟩) | ((with_reducible apply on_i); exact fun _ q => q) | ((with_reducible apply on_i); refine fun _ zq_ => ⟨?_, zq_⟩) | ((with_reducible apply fi_i); exact rfl) | ((with_reducible apply pk_i); exact rfl) | exact pairs_ints _ _ | ((with_reducible apply mp_i); exact rfl) | with_reducible apply ev_lc | with_reducible apply ev_lcF | with_reducible apply sr_gcd | with_reducible apply sr_low | with_reducible apply sr_is_number | with_reducible apply sri_Rinit | with_reducible intro _) <;> (try (show (_ : Prop); (fail_if_success (with_reducible show Ev _ _ _)); first | ((with_reducible apply sle); first | (simp only [str_len2]; omega) | with_reducible assumption | omega | decide) | ((fail_if_success (with_reducible apply sle)); first | assumption | ((with_reducible refine And.intro ?_ ?_) <;> omega) | ((fail_if_success (with_reducible refine And.intro ?_ ?_)); first | rfl | exact List.cons_ne_nil _ _ | exact Nat.le_of_ble_eq_true rfl | decide | omega | exact MulOk.right (by omega) | exact MulOk.left (by omega) | exact MulOk.of (by assumption) (by assumption) (by decide) | exact Sz.mono (by assumption) (by decide) | exact szLog (by assumption) | exact szLog (Sms.get (by assumption) (by assumption)) | exact szW (by decide) | (simp only [List.length_map, List.length_cons, List.length_nil, List.length_append, List.length_reverse]; omega)))))))
    exact ⟨hk⟩
theorem sr_name {x : Str} (h : x.length ≤ 1000000) : SR s_name [.str x] (.bl (nameB x)) := .mk fun k e q => ⟨_, rfl, rfl, fun y e => by cases e; exact h, q⟩
theorem fc_is_name_1 (F : Facts K mg) : FnC P w K mg base 2 (He.ga K "is_name") [] (lift K s_name) := FnOk.c0 (ok_is_name F) (F.d_is_name.bindsN fun _ _ _ _ _ _ us hl => match us, hl with | [_], _ => rfl)
theorem ok_InvalidName_init (F : Facts K mg) : FnOk P w K mg base (L2.CX P w) 1 (He.ma K (He.ga K "InvalidName") "__init__") (fdOf K (He.ma K (He.ga K "InvalidName") "__init__")) ["self", "name"] (spErr (He.ga K "InvalidName") "InvalidName" ["name"]) := by
  refine F.d_InvalidName_init.ok sc_InvalidName_init (fun vs H Q E h => by obtain ⟨a, ws, rfl, hl, _⟩ := h; simpa using hl) fun cdv A outer s H vs Q E hr h => ⟨_, (pss_cons (ps_expr (pe_bsinit rfl F.g_StrideError F.base (pa_cons (pe_var (i := 0) rfl (.inl rfl)) (pa_cons pe_str pa_nil)))) (pss_cons (ps_osE .ve (pe_var (i := 0) rfl (.inl rfl)) pe_str) (pss_one (ps_osE .ve (pe_var (i := 0) rfl (.inl rfl)) (pe_var (i := 1) rfl (.inl rfl)))))), ?_⟩
  exact err_read1 F.e_InvalidName.C h rfl
theorem ask_rat (p q : Int) : askD CLS (rat p q) = true := by
  show CLS.contains "Ratio" = true
  decide +kernel
theorem isA_Ratio (ns : List Str) (xs : List D) : isAny subC [KC.own "Ratio"] (.ins "Ratio" ns xs) = true := by
  show (subC "Ratio" "Ratio" || false) = true
  decide +kernel
theorem low_one (n : Int) : lowP n 1 = (n, 1) := by
  have e : gI n 1 = 1 := by
    unfold gI
    rw [show (1 : Int).natAbs = 1 from rfl, Nat.gcd_one_right]; rfl
  unfold lowP cmI
  rw [if_pos (by decide), e]
  simp
/-- y stands for the fraction r / s -/
def isP (y : D) (r s : Int) : Prop := y = rat r s ∨ (y = .int r ∧ s = 1)
def oddP : D → Bool | .int _ => false | .ins _ _ _ => false | _ => true
def partB : D → Bool | .int _ => true | .ins c _ _ => decide (c = "Ratio") | _ => false
def s_is_part : GS := fun ds k _ => ∃ d, ds = [d] ∧ askD CLS d = true ∧ (∀ c ns xs, d = .ins c ns xs → c = "Ratio" ∨ (c ≠ "Ratio" ∧ subC c "Ratio" = false)) ∧ k (.bl (partB d))
theorem mn_is_part : MnS s_is_part := fun ds k k' e e' h1 _ ⟨d, h, h2, h3, q⟩ => ⟨d, h, h2, h3, h1 _ q⟩
theorem ok_is_part (F : Facts K mg) : FnOk P w K mg base (L2.CX P w) 3 (He.ga K "is_part") (fdOf K (He.ga K "is_part")) ["value"] (lift K s_is_part) := by
  refine okD F.d_is_part sc_is_part (fun ds k e h => by obtain ⟨a, rfl, _⟩ := h; rfl) fun cdv A outer s0 H E b eo hr Z => ⟨_, dss_one (ds_ret (DE.dt (de_or (DE.dt (de_ca (fc_is_number_1 F) mn_is_number (hr.mono (by decide)) F.g_is_number F.d_is_number.kp cz_none (dca_pos (da_cons (de_var 0) (da_nil))))) (de_one (de_isi (k := .own "Ratio") F.W (by simp [KC.ok]) (DE.dt (de_var 0)) (pe_kown rfl F.g_Ratio) rfl F.n_isinstance))))), fun ds k h => ?_⟩
  obtain ⟨d, rfl, h1, hc, hk⟩ := h
  refine ⟨d, rfl, h1, ?_⟩
  cases d with
  | int i => exact hk
  | ins c ns xs =>
    rcases hc c ns xs rfl with e | ⟨e, e2⟩
    · subst e
      refine ⟨h1, ?_⟩
      rw [isA_Ratio]
      exact hk
    · refine ⟨h1, ?_⟩
      rw [show isAny subC [KC.own "Ratio"] (.ins c ns xs) = false by show (subC c "Ratio" || false) = false; rw [e2]; rfl]
      rw [show partB (.ins c ns xs) = false from decide_eq_false e] at hk
      exact hk
  | bag => cases h1
  | clo o => cases h1
  | _ => exact ⟨h1, hk⟩
theorem fc_is_part_1 (F : Facts K mg) : FnC P w K mg base 3 (He.ga K "is_part") [] (lift K s_is_part) := FnOk.c0 (ok_is_part F) (F.d_is_part.bindsN fun _ _ _ _ _ _ us hl => match us, hl with | [_], _ => rfl)
def ratRd (d : D) (k : D → Prop) (e : XD → Prop) : Prop := match d with
  | .ins c ns fs => c = "Ratio" ∧ k (.ins c ns fs)
  | .int n => k (rat n 1)
  | d => e (errX "InvalidNumber" "InvalidNumber" ["given"] [d])
def s_ratio_of : GS := fun ds k e => ∃ d, ds = [d] ∧ askD CLS d = true ∧ ratRd d k e
theorem mn_ratio_of : MnS s_ratio_of := fun ds k k' e e' h1 h3 ⟨d, h, h2, q⟩ => ⟨d, h, h2, by cases d <;> first | exact ⟨q.1, h1 _ q.2⟩ | exact h1 _ q | exact h3 _ q⟩
theorem ratio_ofP {y : D} {r s : Int} {k : D → Prop} {e : XD → Prop} (h : isP y r s) (q : k (rat r s)) : s_ratio_of [y] k e := by
  rcases h with rfl | ⟨rfl, rfl⟩
  · exact ⟨_, rfl, ask_rat r s, rfl, q⟩
  · exact ⟨_, rfl, rfl, q⟩
theorem ok_ratio_of (F : Facts K mg) : FnOk P w K mg base (L2.CX P w) 5 (He.ga K "ratio_of") (fdOf K (He.ga K "ratio_of")) ["value"] (lift K s_ratio_of) := by
  refine okD F.d_ratio_of sc_ratio_of (fun ds k e h => by obtain ⟨a, rfl, _⟩ := h; rfl) fun cdv A outer s0 H E b eo hr Z => ⟨_, dss_cons (ds_if (db_val (DE.dt (de_isi (k := .own "Ratio") F.W (by simp [KC.ok]) (DE.dt (de_var 0)) (pe_kown rfl F.g_Ratio) rfl F.n_isinstance))) (dss_one (ds_ret (DE.dt (de_var 0)))) (dss_nil))
    (dss_cons (ds_if (db_not (db_val (DE.dt (de_ca (fc_is_number_1 F) mn_is_number (hr.mono (by decide)) F.g_is_number F.d_is_number.kp cz_none (dca_pos (da_cons (de_var 0) (da_nil))))))) (dss_one (ds_raise (takes_of rfl rfl rfl rfl) Z rfl F.e_InvalidNumber (ok_InvalidNumber_init F) (hr.mono (by decide)) (bi_InvalidNumber_init F) .nil (fun _ _ => Reps.nil) (passes_call (takes_of rfl rfl rfl rfl) fun _ _ _ _ z => z.elim) rfl F.g_InvalidNumber (da_cons (de_var 0) (da_nil)))) (dss_nil))
    (dss_one (ds_ret (DE.dt (de_mk F.k_Ratio (fc_Ratio_init_1 F) (shpI_mn mn_Rinit) (hr.mono (by decide)) F.g_Ratio Z (dca_pos (da_cons (de_var 0) (da_nil)))))))), fun ds k h => ?_⟩
  obtain ⟨d, rfl, h1, h⟩ := h
  cases d with
  | ins c ns fs =>
    obtain ⟨rfl, hk⟩ := h
    refine ⟨h1, ?_⟩
    rw [isA_Ratio]
    exact hk
  | int n =>
    refine ⟨rfl, _, rfl, rfl, rfl, Rinit_ok (by decide) (by unfold Sz; decide) ?_⟩
    rw [low_one]
    exact h
  | bag => cases h1
  | clo o => cases h1
  | _ => exact ⟨h1, _, rfl, h1, rfl, (by show 1 ≤ 900; decide), h⟩
theorem fc_ratio_of_1 (F : Facts K mg) : FnC P w K mg base 5 (He.ga K "ratio_of") [] (lift K s_ratio_of) := FnOk.c0 (ok_ratio_of F) (F.d_ratio_of.bindsN fun _ _ _ _ _ _ us hl => match us, hl with | [_], _ => rfl)
def s_pair : GS := fun ds k _ => ∃ x y, ds = [.ins "Ratio" RNS [x, y]] ∧ k (.tup [x, y])
theorem mn_pair : MnS s_pair := fun ds k k' e e' h1 _ ⟨d, h, h2, q⟩ => ⟨d, h, h2, h1 _ q⟩
theorem ok_Ratio_pair (F : Facts K mg) : FnOk P w K mg base (L2.CX P w) 2 (He.ma K (He.ga K "Ratio") "pair") (fdOf K (He.ma K (He.ga K "Ratio") "pair")) ["self"] (lift K s_pair) := by
  refine okD F.d_Ratio_pair sc_Ratio_pair (fun ds k e h => by obtain ⟨a, c, rfl, _⟩ := h; rfl) fun cdv A outer s0 H E b eo hr Z => ⟨_, dss_one (ds_ret (DE.dt (de_tup (da_cons (de_fld (c := "Ratio") (NS := ["top", "bottom"]) (i := 0) (de_var 0) F.c_Ratio F.a_Ratio_top (by decide)) (da_cons (de_fld (c := "Ratio") (NS := ["top", "bottom"]) (i := 1) (de_var 0) F.c_Ratio F.a_Ratio_bottom (by decide)) (da_nil)))))), fun ds k h => ?_⟩
  obtain ⟨x, y, rfl, hk⟩ := h
  exact ⟨rfl, rfl, rfl, rfl, (by show 2 ≤ 1000; decide), hk⟩
theorem sr_pair {x y : D} : SR s_pair [.ins "Ratio" RNS [x, y]] (.tup [x, y]) := .mk fun k e q => ⟨_, _, rfl, q⟩
theorem fc_Ratio_pair_0 (F : Facts K mg) : FnC P w K mg base 2 (He.ma K (He.ga K "Ratio") "pair") [] (lift K s_pair) := FnOk.c0 (ok_Ratio_pair F) (F.d_Ratio_pair.bindsN fun _ _ _ _ _ _ us hl => match us, hl with | [_], _ => rfl)
def eqR (p q : Int) : D → Bool
  | .int n => [p, q] == [n, 1]
  | .ins _ _ [.int r, .int s] => [p, q] == [r, s]
  | _ => false
def s_Req : GS := fun ds k _ => ∃ p q y, ds = [rat p q, y] ∧ askD CLS y = true ∧ (∀ c ns xs, y = .ins c ns xs → ∃ r s, y = rat r s) ∧ k (.bl (eqR p q y))
theorem mn_Req : MnS s_Req := fun ds k k' e e' h1 _ ⟨p, q, y, h, g1, g2, z⟩ => ⟨p, q, y, h, g1, g2, h1 _ z⟩
theorem ok_Ratio_eq (F : Facts K mg) : FnOk P w K mg base (L2.CX P w) 6 (He.ma K (He.ga K "Ratio") "__eq__") (fdOf K (He.ma K (He.ga K "Ratio") "__eq__")) ["self", "other"] (lift K s_Req) := by
  refine okD F.d_Ratio_eq sc_Ratio_eq (fun ds k e h => by obtain ⟨p, q, r, rfl, _⟩ := h; rfl) fun cdv A outer s0 H E b eo hr Z => ⟨_, dss_one (ds_ret (DE.dt (de_and (DE.dt (de_ca (fc_is_part_1 F) mn_is_part (hr.mono (by decide)) F.g_is_part F.d_is_part.kp cz_none (dca_pos (da_cons (de_var 1) (da_nil))))) (de_one (de_eqA hr (DE.dt (de_mc (c := "Ratio") (de_var 0) F.c_Ratio F.m_Ratio_pair (fc_Ratio_pair_0 F) mn_pair (hr.mono (by decide)) cz_none dca_nil)) (DE.dt (de_mc (c := "Ratio") (de_ca (fc_ratio_of_1 F) mn_ratio_of (hr.mono (by decide)) F.g_ratio_of F.d_ratio_of.kp Z (dca_pos (da_cons (de_var 1) (da_nil)))) F.c_Ratio F.m_Ratio_pair (fc_Ratio_pair_0 F) mn_pair (hr.mono (by decide)) cz_none dca_nil))))))), fun ds k h => ?_⟩
  obtain ⟨p, q, y, rfl, ay, hc, hk⟩ := h
  refine ⟨y, rfl, ay, fun c ns xs e => ?_, ?_⟩
  · obtain ⟨r, s, e2⟩ := hc c ns xs e
    rw [e2] at e; cases e; exact .inl rfl
  cases y with
  | int n =>
    refine ⟨rfl, by decide, _, _, rfl, _, rfl, rfl, ?_⟩
    exact ⟨rfl, by decide, _, _, rfl, dEqA_tints (l := [p, q]) (m := [n, 1]) hk⟩
  | ins c ns xs =>
    obtain ⟨r, s, e2⟩ := hc c ns xs rfl
    cases e2
    refine ⟨rfl, by decide, _, _, rfl, _, rfl, ask_rat r s, rfl, ?_⟩
    exact ⟨rfl, by decide, _, _, rfl, dEqA_tints (l := [p, q]) (m := [r, s]) hk⟩
  | bag => cases ay
  | clo o => cases ay
  | _ => exact hk
theorem sr_Req_r {p q r s : Int} : SR s_Req [rat p q, rat r s] (.bl ([p, q] == [r, s])) := .mk fun k e z => ⟨p, q, _, rfl, ask_rat _ _, fun c ns xs e => (by cases e; exact ⟨_, _, rfl⟩), z⟩
theorem sr_Req_i {p q n : Int} : SR s_Req [rat p q, .int n] (.bl ([p, q] == [n, 1])) := .mk fun k e z => ⟨p, q, _, rfl, rfl, fun c ns xs e => (by cases e), z⟩
theorem sr_Req_o {p q : Int} {y : D} (h : oddP y = true) (a : askD CLS y = true) : SR s_Req [rat p q, y] (.bl false) := .mk fun k e z => ⟨p, q, y, rfl, a, fun c ns xs e => (by subst e; cases h), by
  have : eqR p q y = false := by cases y <;> first | rfl | cases h
  rw [this]; exact z⟩
/-- a fraction in its lowest terms -/
def Red (p q : Int) : Prop := 0 < q ∧ gI p q = 1
theorem Red.neg {p q : Int} (h : Red p q) : Red (-p) q := ⟨h.1, by
  have e := h.2
  unfold gI at e ⊢
  rw [Int.natAbs_neg]; exact e⟩
theorem Red.abs {p q : Int} (h : Red p q) : Red (if p < 0 then -p else p) q := by
  split
  · exact h.neg
  · exact h
/-- what a list of pairs holds at a name -/
def getS {α : Type} (z : α) (l : List (Str × α)) (n : Str) : α := match l.find? (fun p => decide (p.1 = n)) with | some p => p.2 | none => z
theorem getS_mem {α : Type} {z : α} {l : List (Str × α)} {n : Str} (h : n ∈ l.map (·.1)) : (n, getS z l n) ∈ l := by
  unfold getS
  cases h2 : l.find? (fun p => decide (p.1 = n)) with
  | some p =>
    have a := List.mem_of_find?_eq_some h2
    have b := List.find?_some h2
    have b : p.1 = n := by simpa using b
    subst b
    exact a
  | none =>
    obtain ⟨p, hp, rfl⟩ := List.mem_map.mp h
    have := List.find?_eq_none.mp h2 p hp
    simp at this
theorem nodup_fst {α : Type} {l : List (Str × α)} (hn : (l.map (·.1)).Nodup) {n : Str} {a b : α} (h : (n, a) ∈ l) (g : (n, b) ∈ l) : a = b := by
  induction l with
  | nil => cases h
  | cons p r ih =>
    rw [List.map_cons, List.nodup_cons] at hn
    rcases List.mem_cons.mp h with h | h
    · rcases List.mem_cons.mp g with g | g
      · rw [← h] at g; cases g; rfl
      · exact absurd (List.mem_map.mpr ⟨_, g, by rw [← h]⟩) hn.1
    · rcases List.mem_cons.mp g with g | g
      · exact absurd (List.mem_map.mpr ⟨_, h, by rw [← g]⟩) hn.1
      · exact ih hn.2 h g
theorem valS_of {l : List (Str × D)} (hn : (l.map (·.1)).Nodup) {p : Str × D} (h : p ∈ l) : valS l p.1 = p.2 := nodup_fst hn (valS_mem (List.mem_map_of_mem h)) h
theorem valS_map {α : Type} {z : α} (f : α → D) {l : List (Str × α)} {n : Str} (h : n ∈ l.map (·.1)) : valS (l.map fun p => (p.1, f p.2)) n = f (getS z l n) := by
  unfold valS getS
  rw [List.find?_map]
  have e : ((fun p : Str × D => decide (p.1 = n)) ∘ fun p : Str × α => (p.1, f p.2)) = fun p => decide (p.1 = n) := rfl
  rw [e]
  cases h2 : l.find? (fun p => decide (p.1 = n)) with
  | some p => rfl
  | none =>
    obtain ⟨p, hp, rfl⟩ := List.mem_map.mp h
    have := List.find?_eq_none.mp h2 p hp
    simp at this
theorem fst_map {α β : Type} (f : α → β) (l : List (Str × α)) : (l.map fun p => (p.1, f p.2)).map (·.1) = l.map (·.1) := by rw [List.map_map]; rfl
theorem low_div {a b : Int} (h : b ≠ 0) : lowP a b = ((Rat.divInt a b).num, ((Rat.divInt a b).den : Int)) := by
  have hg : Int.gcd b a = Nat.gcd a.natAbs b.natAbs := by rw [Int.gcd_comm]; rfl
  have hg0 : (0 : Int) < gI a b := by
    unfold gI
    have : 0 < Nat.gcd a.natAbs b.natAbs := Nat.gcd_pos_of_pos_right _ (by omega)
    omega
  have d1 := gI_dvd1 a b
  have d2 := gI_dvd2 a b
  rw [Rat.num_divInt, Rat.den_divInt, if_neg h, hg]
  have key : ((b.natAbs / Nat.gcd a.natAbs b.natAbs : Nat) : Int) = (b.natAbs : Int) / gI a b := rfl
  rw [key]
  show _ = (b.sign * a / gI a b, _)
  unfold lowP cmI
  generalize gI a b = g at *
  obtain ⟨u, rfl⟩ := d1
  obtain ⟨v, rfl⟩ := d2
  have gn : g ≠ 0 := by omega
  by_cases c : 0 < g * v
  · rw [if_pos c, Int.sign_eq_one_of_pos c, Int.one_mul]
    have e : ((g * v).natAbs : Int) = g * v := by omega
    rw [e, Int.mul_fdiv_cancel_left u gn, Int.mul_fdiv_cancel_left v gn, Int.mul_ediv_cancel_left u gn, Int.mul_ediv_cancel_left v gn]
  · have c2 : g * v < 0 := by omega
    rw [if_neg c, Int.sign_eq_neg_one_of_neg c2]
    have e : ((g * v).natAbs : Int) = g * (-v) := by rw [Int.mul_neg]; omega
    rw [e, show g * u = (-g) * (-u) by rw [Int.neg_mul_neg], show g * v = (-g) * (-v) by rw [Int.neg_mul_neg], Int.mul_fdiv_cancel_left _ (by omega), Int.mul_fdiv_cancel_left _ (by omega), show (-1 : Int) * (-g * -u) = g * (-u) by rw [Int.neg_mul_neg, Int.mul_neg]; omega, Int.mul_ediv_cancel_left _ gn, Int.mul_ediv_cancel_left _ gn]
theorem low_add (x y : Rat) : lowP (x.num * y.den + y.num * x.den) (x.den * y.den) = ((x + y).num, ((x + y).den : Int)) := by
  rw [low_div (Int.mul_ne_zero (den_ne _) (den_ne _)), add_div]
/-- a Ratio -/
abbrev ratQ (x : Rat) : D := rat x.num (x.den : Int)
abbrev pairQ (x : Rat) : D := .tup [.int x.num, .int (x.den : Int)]
/-- y stands for x -/
def isPQ (y : D) (x : Rat) : Prop := y = ratQ x ∨ ∃ n : Int, y = .int n ∧ x = (n : Rat)
theorem isPQ.isP {y : D} {x : Rat} (h : isPQ y x) : isP y x.num (x.den : Int) := by
  rcases h with rfl | ⟨n, rfl, rfl⟩
  · exact .inl rfl
  · exact .inr ⟨rfl, rfl⟩
theorem isPQ.ask {y : D} {x : Rat} (h : isPQ y x) : askD CLS y = true := by
  rcases h with rfl | ⟨n, rfl, rfl⟩
  · exact ask_rat _ _
  · rfl
theorem isPQ.ins {y : D} {x : Rat} (h : isPQ y x) : ∀ c ns xs, y = .ins c ns xs → c = "Ratio" := fun c ns xs e => by
  rcases h with rfl | ⟨n, rfl, rfl⟩
  · cases e; rfl
  · cases e
def partQ : D → Rat
  | .int n => (n : Rat)
  | .ins _ _ [.int p, .int q] => Rat.divInt p q
  | _ => 0
theorem partQ_rat (x : Rat) : partQ (ratQ x) = x := Rat.num_divInt_den x
theorem isPQ.part {y : D} {x : Rat} (h : isPQ y x) : partQ y = x := by
  rcases h with rfl | ⟨n, rfl, rfl⟩
  · exact partQ_rat x
  · rfl
abbrev FNS : List Str := ["constant", "own_terms"]
abbrev dicQ (l : List (Str × Rat)) : D := dicS (l.map fun p => (p.1, ratQ p.2))
abbrev frm (c : Rat) (ts : List (Str × Rat)) : D := .ins "Form" FNS [ratQ c, dicQ ts]
/-- the terms of a form, from a dict of parts -/
def termsQ (l : List (Str × D)) : List (Str × Rat) := ((sortStr (l.map (·.1))).filter fun n => decide (partQ (valS l n) ≠ 0)).map fun n => (n, partQ (valS l n))
theorem sr_rofQ {y : D} {x : Rat} (h : isPQ y x) : SR s_ratio_of [y] (ratQ x) := .mk fun k e q => ⟨y, rfl, h.ask, by
  rcases h with rfl | ⟨n, rfl, rfl⟩
  · exact ⟨rfl, q⟩
  · exact q⟩
theorem evt_neQ {ga : GE} {σ : StD} {eo : XD → Prop} {y : D} {x : Rat} (h : isPQ y x) (A : Ev ga σ y) : EvT (fun σ k => gB (g2 (dEqA true) ga (gC (.int 0))) σ k ∨ gB (gOwnEN "Ratio" s_Req eo ga (gC (.int 0))) σ k) σ (decide (x ≠ 0)) := by
  rcases h with rfl | ⟨n, rfl, rfl⟩
  · refine EvT.eq (evt_orR (evt_B (ev_ownEN A ev_c rfl sr_Req_i))) ?_
    rw [q_zero]
    by_cases c : x = 0 <;> simp [c]
  · refine EvT.eq (evt_orL (evt_B (ev_g2 A ev_c o_neI))) ?_
    by_cases c : n = 0
    · subst c; rfl
    · have : (n : Rat) ≠ 0 := fun e => c (Rat.intCast_eq_zero_iff.mp e)
      rw [decide_eq_true this]
      simp [c]
/-- a value that is asked of: no own object but a Ratio -/
def okV (d : D) : Prop := askD CLS d = true ∧ ∀ c ns xs, d = .ins c ns xs → ∃ x, d = ratQ x
theorem okV.isPQ {d : D} (h : okV d) (p : partB d = true) : LK.isPQ d (partQ d) := by
  cases d with
  | int n => exact .inr ⟨n, rfl, rfl⟩
  | ins c ns xs =>
    obtain ⟨x, e⟩ := h.2 c ns xs rfl
    rw [e, partQ_rat]
    exact .inl rfl
  | _ => cases p
theorem okV_isPQ {d : D} {x : Rat} (h : LK.isPQ d x) : okV d ∧ partB d = true := by
  rcases h with rfl | ⟨n, rfl, rfl⟩
  · exact ⟨⟨ask_rat _ _, fun c ns xs e => ⟨x, rfl⟩⟩, rfl⟩
  · exact ⟨⟨rfl, fun c ns xs e => by cases e⟩, rfl⟩
theorem sr_partV {d : D} (h : okV d) : SR s_is_part [d] (.bl (partB d)) := .mk fun k e q => ⟨d, rfl, h.1, fun c ns xs e => .inl (by obtain ⟨x, e2⟩ := h.2 c ns xs e; rw [e] at e2; cases e2; rfl), q⟩
theorem sx_rofV {d : D} (h : okV d) (p : partB d = false) : SX s_ratio_of [d] (errX "InvalidNumber" "InvalidNumber" ["given"] [d]) := .mk fun k e q => ⟨d, rfl, h.1, by
  cases d with
  | int n => cases p
  | ins c ns xs =>
    obtain ⟨x, e⟩ := h.2 c ns xs rfl
    rw [e] at p
    cases p
  | _ => exact q⟩
/-- what stands against a name and its value -/
def badT (l : List (Str × D)) (n : Str) : Option XD := bif nameB n then (bif partB (valS l n) then none else some (errX "InvalidNumber" "InvalidNumber" ["given"] [valS l n])) else some (errX "InvalidName" "InvalidName" ["name"] [.str n])
theorem badT_none {l : List (Str × D)} {n : Str} (h : badT l n = none) : nameB n = true ∧ partB (valS l n) = true := by
  unfold badT at h
  cases e : nameB n with
  | false => rw [e] at h; cases h
  | true =>
    cases e2 : partB (valS l n) with
    | false => rw [e, e2] at h; cases h
    | true => exact ⟨rfl, rfl⟩
theorem badT_of {l : List (Str × D)} {n : Str} (h : nameB n = true) (g : partB (valS l n) = true) : badT l n = none := by
  unfold badT
  rw [h, g]; rfl
theorem s_slfX {c : Str} {ns0 : List Str} {f : Str} {ge : GE} {a dx : Addr} {ds : List D} {σ : StD} {v : GSt} {D' : EndD} {X : XD} {eo : XD → Prop} (A : EvX eo ge (.obj a dx c ns0 ds :: σ) X) (q : eo X) : Stp (gSeq (gSelf 0 c ns0 f ge) v D' (.obj a dx c ns0 ds :: σ)) := ⟨A.run _ q⟩
def s_Finit : GSI := fun c ns fs ds k e => c = "Form" ∧ ns = [] ∧ fs = [] ∧ ∃ (y z : D) (l : List (Str × D)), ds = [y, z] ∧ ((y = dicS l) ∨ (y = .frd ((ksS l).map (·.1)) ((ksS l).map (·.2))) ∨ (y = .non ∧ l = [])) ∧ (l.map (·.1)).Nodup ∧ l.length < 64 ∧ (∀ p ∈ l, p.1.length ≤ 1000000 ∧ okV p.2) ∧ okV z ∧
  (∀ pre n suf X, sortStr (l.map (·.1)) = pre ++ n :: suf → (∀ m ∈ pre, badT l m = none) → badT l n = some X → e X) ∧
  ((∀ n ∈ sortStr (l.map (·.1)), badT l n = none) → (partB z = false → e (errX "InvalidNumber" "InvalidNumber" ["given"] [z])) ∧ ∀ q, isPQ z q → k FNS [ratQ q, dicQ (termsQ l)])
theorem mn_Finit : MnSI s_Finit := fun c ns fs ds k k' e e' h1 h2 ⟨e1, e2, e3, y, z, l, e4, g1, g2, g3, g4, g5, w1, w2⟩ => ⟨e1, e2, e3, y, z, l, e4, g1, g2, g3, g4, g5, fun pre n suf X a b c => h2 _ (w1 pre n suf X a b c), fun a => ⟨fun b => h2 _ ((w2 a).1 b), fun q b => h1 _ _ ((w2 a).2 q b)⟩⟩
theorem ok_Form_init (F : Facts K mg) : FnOk P w K mg base (L2.CX P w) 8 (He.ma K (He.ga K "Form") "__init__") (fdOf K (He.ma K (He.ga K "Form") "__init__")) ["self", "terms", "constant"] (liftI K s_Finit) := by
  refine okI F.d_Form_init sc_Form_init (fun c ns fs ds k e h => by obtain ⟨_, _, _, _, _, _, rfl, _⟩ := h; rfl) fun cdv A outer s0 Hc H E b eo hr Z c ns fs ds k h => ?_
  refine ⟨_, dss_cons (ds_asg (i := 3) sc_Form_init.nd rfl (.inr rfl) (de_if (db_isN (DE.dt (de_var 1))) (de_dnew) (de_var 1)))
    (dss_cons (ds_for (passes_of rfl) rfl (di_seq (de_callB cr_sortedS cl_sortS rfl F.n_sorted rfl (DE.dt (de_callTy (call_listD rfl) cl_listD rfl F.n_list rfl (DE.dt (de_var 3)))))) (dg_name (i := 4) sc_Form_init.nd rfl (.inl rfl)) (dss_cons (ds_if (db_not (db_val (DE.dt (de_ca (fc_is_name_1 F) mn_name (hr.mono (by decide)) F.g_is_name F.d_is_name.kp cz_none (dca_pos (da_cons (de_var 4) (da_nil))))))) (dss_one (ds_raise (takes_of rfl rfl rfl rfl) Z rfl F.e_InvalidName (ok_InvalidName_init F) (hr.mono (by decide)) (bi_InvalidName_init F) .nil (fun _ _ => Reps.nil) (passes_call (takes_of rfl rfl rfl rfl) fun _ _ _ _ z => z.elim) rfl F.g_InvalidName (da_cons (de_var 4) (da_nil)))) (dss_nil))
    (dss_one (ds_if (db_not (db_val (DE.dt (de_ca (fc_is_part_1 F) mn_is_part (hr.mono (by decide)) F.g_is_part F.d_is_part.kp cz_none (dca_pos (da_cons (de_dget hr (de_var 3) (DE.dt (de_var 4))) (da_nil))))))) (dss_one (ds_raise (takes_of rfl rfl rfl rfl) Z rfl F.e_InvalidNumber (ok_InvalidNumber_init F) (hr.mono (by decide)) (bi_InvalidNumber_init F) .nil (fun _ _ => Reps.nil) (passes_call (takes_of rfl rfl rfl rfl) fun _ _ _ _ z => z.elim) rfl F.g_InvalidNumber (da_cons (de_dget hr (de_var 3) (DE.dt (de_var 4))) (da_nil)))) (dss_nil)))))
    (dss_cons (ds_self (i := 0) (c := "Form") (ns0 := []) (de_ca (fc_ratio_of_1 F) mn_ratio_of (hr.mono (by decide)) F.g_ratio_of F.d_ratio_of.kp Z (dca_pos (da_cons (de_var 2) (da_nil)))) F.c_Form F.a_Form_constant (by decide) (by decide))
    (dss_one (ds_self (i := 0) (c := "Form") (ns0 := ["constant"]) (de_dc rfl sc_Form_init.nd (own := [("name", 4)]) (di_seq (de_callB cr_sortedS cl_sortS rfl F.n_sorted rfl (DE.dt (de_callTy (call_listD rfl) cl_listD rfl F.n_list rfl (DE.dt (de_var 3)))))) (blk_ok (N := ["self", "terms", "constant", "found", "name"]) (by kernel_rfl)) (fun _ _ _ _ _ => dg_name (i := 4) sc_Form_init.nd rfl (.inl rfl)) (fun _ _ _ _ _ => dts_one (DB.or (db_neA hr (DE.dt (de_dget hr (de_var 3) (DE.dt (de_var 4)))) (DE.dt (de_int))) (DCm.db (dc_neE (c := "Ratio") (de_dget hr (de_var 3) (DE.dt (de_var 4))) (de_int) F.o_Ratio_eq F.nf_Ratio F.o_Ratio_ne.1 F.o_Ratio_ne.2 (ok_Ratio_eq F) mn_Req (hr.mono (by decide)) (bi_Ratio_eq F) cz_none)))) (fun _ _ _ _ _ => de_var 4) (fun _ _ _ _ _ => de_ca (fc_ratio_of_1 F) mn_ratio_of (hr.mono (by decide)) F.g_ratio_of F.d_ratio_of.kp cz_none (dca_pos (da_cons (de_dget hr (de_var 3) (DE.dt (de_var 4))) (da_nil))))) F.c_Form F.a_Form_own_terms (by decide) (by decide))))), fun a dx => ?_⟩
  obtain ⟨rfl, rfl, rfl, y, z, l, rfl, hy, hn, hl, hp, hz, hE, hK⟩ := h
  suffices z : Stp _ from z.run
  show Stp (gSeq _ _ _ [SD.obj a dx "Form" [] [], .sh y, .sh z, .unset, .unset])
  obtain ⟨fd, hfd, hget, hlist⟩ : ∃ fd : D, Ev (gIf (gB (gIsN false (gVar 1))) (gC (.dic [] [])) (gVar 1)) [SD.obj a dx "Form" [] [], .sh y, .sh z, .unset, .unset] fd ∧ (∀ n ∈ l.map (·.1), O2 dDGet fd (.str n) (valS l n)) ∧ O1 dListD fd (.lst ((l.map (·.1)).map .str)) := by
    rcases hy with rfl | rfl | ⟨rfl, rfl⟩
    · exact ⟨dicS l, ev_ifF (c := false) (evt_B (ev_isN (ev_var rfl) (.mk fun k q => q))) rfl (ev_var rfl), fun n hn => o_dgetS hn rfl, o_listS⟩
    · exact ⟨_, ev_ifF (c := false) (evt_B (ev_isN (ev_var rfl) (.mk fun k q => q))) rfl (ev_var rfl), fun n hn => .mk fun k q => (o_dgetS hn rfl).run k q, .mk fun k q => (o_listS (l := l)).run k q⟩
    · exact ⟨dicS [], ev_ifT (c := true) (evt_B (ev_isN (ev_var rfl) (.mk fun k q => q))) rfl ev_c, (fun n hn => by cases hn), o_listS⟩
  with_reducible apply s_asg (d := fd)
  · exact hfd
  · (focus (repeat' first | with_reducible exact pt0 | with_reducible apply pts | with_reducible intro _))
  have hl2 : (l.map (·.1)).length < 64 := by rw [List.length_map]; exact hl
  with_reducible apply s_for
  · exact evi_it (ev_g1 (ev_g1 (ev_var rfl) hlist) (o_sortS hl2)) itr_L
  have hv : ∀ n ∈ sortStr (l.map (·.1)), n ∈ l.map (·.1) := fun n hn => sort_mem.mp hn
  refine forS_at (fun pre σ => ∃ (a4 : SD), σ = [SD.obj a dx "Form" [] [], .sh y, .sh z, .sh fd, a4] ∧ ∀ m ∈ pre, badT l m = none) (fun pre x suf e σ D2 hR hN hrt => ?_) ⟨_, rfl, fun m hm => by cases hm⟩ (fun σ' hR => ?_)
  · obtain ⟨a4, rfl, hpre⟩ := hR
    have hx : x ∈ l.map (·.1) := hv x (by rw [e]; exact List.mem_append_right _ List.mem_cons_self)
    obtain ⟨p2, p3⟩ := hp _ (valS_mem hx)
    have hE := hE pre x suf
    (first | (with_reducible show Stp _) | refine Stp.run ?_); (with_reducible first | apply as1 | apply as2 | apply as3 | apply as2l | apply as3l); (repeat' first | with_reducible exact pt0 | with_reducible apply pts | with_reducible apply ns_put | with_reducible apply ns_wipe | with_reducible apply ns_wipe0 | with_reducible exact ns_id)
    cases c1 : nameB x with
    | false =>
      (first | (with_reducible show Stp _) | refine Stp.run ?_); (try with_reducible refine nx_mk ?_); (with_reducible first | apply s_ifT | apply s_ifLT); (focus ((repeat' first | ((with_reducible apply ev_var); exact rfl) | with_reducible exact ev_c | with_reducible apply ev_repF | with_reducible apply ev_repT | with_reducible apply ev_g2 | with_reducible apply ev_g1 | with_reducible apply eva_cons | with_reducible apply ev_tup | with_reducible apply ev_lst | with_reducible apply evt_B | with_reducible apply evt_and | with_reducible apply evt_or | with_reducible apply evt_not | with_reducible apply ev_if | with_reducible apply ev_isi | with_reducible apply ev_isN | with_reducible apply ev_fld | with_reducible apply ev_ca | with_reducible apply ev_mc | with_reducible apply ev_ci | with_reducible apply ev_con | with_reducible apply ev_mk | with_reducible apply ev_own1 | with_reducible apply ev_own2 | with_reducible apply ev_ownR | with_reducible apply ev_ownQ | with_reducible apply ev_ownN | with_reducible apply ev_ownE | with_reducible apply ev_ownEN | with_reducible apply ev_ownS | with_reducible apply ev_ownB | with_reducible apply ev_join | with_reducible apply ev_js | with_reducible apply ev_fmt | with_reducible apply ev_sl | with_reducible apply ev_andV | with_reducible apply ev_orV | with_reducible apply ev_notV | with_reducible apply ev_chain | with_reducible apply ev_cl | with_reducible apply eva_app | with_reducible apply eva_star | with_reducible apply eva_star1 | with_reducible apply evp_part | with_reducible apply evi_it | with_reducible apply evi_LL | with_reducible apply evi_TT | with_reducible apply evi_S | with_reducible apply evi_rng | with_reducible apply evi_rng2 | with_reducible apply evi_zip | with_reducible apply evi_en | with_reducible apply ev_tm | with_reducible apply ot_split | with_reducible apply ot_part | with_reducible apply o_intS | with_reducible apply o_ixS | with_reducible apply o_inL | with_reducible apply o_inTu | with_reducible apply o_inT | with_reducible apply o_pow | with_reducible apply o_rev | with_reducible apply o_strI | with_reducible apply ev_ls | with_reducible apply o_ninTu | with_reducible apply o_ixTI | with_reducible apply sr_shp | with_reducible apply sri_shp | with_reducible apply sr_same | with_reducible apply ow2_own | with_reducible apply ow2_int | with_reducible apply fm_S | with_reducible apply fm_I | with_reducible apply sl_S | with_reducible apply aev1 | with_reducible apply aev2 | with_reducible apply aev3 | with_reducible apply aevf1 | with_reducible apply aevf2 | with_reducible apply aevf3 | with_reducible exact eva_nil | with_reducible exact evt_yes | with_reducible exact evp_no | with_reducible exact ev_jsN | with_reducible exact itr_L | with_reducible exact itr_T | with_reducible exact sl_L | with_reducible exact sl_T | with_reducible exact jn_eq | with_reducible exact jn_int | with_reducible exact jn_str | with_reducible exact jn_bl | with_reducible exact jn_tup | with_reducible exact jn_lst | with_reducible exact jn_any | with_reducible exact o_eqI | with_reducible exact o_neI | with_reducible exact o_eqS | with_reducible exact o_neS | with_reducible exact o_eqB | with_reducible exact o_neB | with_reducible exact o_all | with_reducible exact o_eqT2 | with_reducible exact o_neT2 | with_reducible exact o_inS | with_reducible exact o_ninS | with_reducible exact o_eqL | with_reducible exact o_eqTu | with_reducible exact o_max2 | with_reducible exact o_tup | with_reducible exact o_tup2 | with_reducible exact o_lst | with_reducible exact o_lst2 | ((with_reducible apply ev_varT); exact rfl) | ((with_reducible apply ev_varO); exact rfl) | ((with_reducible apply o2_i); exact fun _ q => q) | ((with_reducible apply o2_i); refine fun _ zq_ => ⟨?_, zq_⟩) | ((with_reducible apply o1_i); exact fun _ q => q) | ((with_reducible apply o1_i); refine fun _ zq_ => ⟨?_, zq_⟩) | ((with_reducible apply on_i); exact fun _ q => q) | ((with_reducible apply on_i); refine fun _ zq_ => ⟨?_, zq_⟩) | ((with_reducible apply fi_i); exact rfl) | ((with_reducible apply pk_i); exact rfl) | exact pairs_ints _ _ | ((with_reducible apply mp_i); exact rfl) | with_reducible apply ev_lc | with_reducible apply ev_lcF | with_reducible apply sr_gcd | with_reducible apply sr_low | with_reducible apply sr_is_number | with_reducible apply sri_Rinit | with_reducible apply sr_name | with_reducible apply sr_pair | with_reducible apply sr_Req_r | with_reducible apply sr_Req_i | with_reducible apply sr_Req_o | with_reducible intro _) <;> (try (show (_ : Prop); (fail_if_success (with_reducible show Ev _ _ _)); first | ((with_reducible apply sle); first | (simp only [str_len2]; omega) | with_reducible assumption | omega | decide) | ((fail_if_success (with_reducible apply sle)); first | assumption | ((with_reducible refine And.intro ?_ ?_) <;> omega) | ((fail_if_success (with_reducible refine And.intro ?_ ?_)); first | rfl | exact List.cons_ne_nil _ _ | exact Nat.le_of_ble_eq_true rfl | decide | omega | exact MulOk.right (by omega) | exact MulOk.left (by omega) | exact MulOk.of (by assumption) (by assumption) (by decide) | exact Sz.mono (by assumption) (by decide) | exact szLog (by assumption) | exact szLog (Sms.get (by assumption) (by assumption)) | exact szW (by decide) | (simp only [List.length_map, List.length_cons, List.length_nil, List.length_append, List.length_reverse]; omega)))))))
      · rw [c1]; rfl
      (first | (with_reducible show Stp _) | refine Stp.run ?_); (try with_reducible refine nx_mk ?_); (with_reducible first | apply s_raise | apply s_raiseS); (focus ((repeat' first | ((with_reducible apply ev_var); exact rfl) | with_reducible exact ev_c | with_reducible apply ev_repF | with_reducible apply ev_repT | with_reducible apply ev_g2 | with_reducible apply ev_g1 | with_reducible apply eva_cons | with_reducible apply ev_tup | with_reducible apply ev_lst | with_reducible apply evt_B | with_reducible apply evt_and | with_reducible apply evt_or | with_reducible apply evt_not | with_reducible apply ev_if | with_reducible apply ev_isi | with_reducible apply ev_isN | with_reducible apply ev_fld | with_reducible apply ev_ca | with_reducible apply ev_mc | with_reducible apply ev_ci | with_reducible apply ev_con | with_reducible apply ev_mk | with_reducible apply ev_own1 | with_reducible apply ev_own2 | with_reducible apply ev_ownR | with_reducible apply ev_ownQ | with_reducible apply ev_ownN | with_reducible apply ev_ownE | with_reducible apply ev_ownEN | with_reducible apply ev_ownS | with_reducible apply ev_ownB | with_reducible apply ev_join | with_reducible apply ev_js | with_reducible apply ev_fmt | with_reducible apply ev_sl | with_reducible apply ev_andV | with_reducible apply ev_orV | with_reducible apply ev_notV | with_reducible apply ev_chain | with_reducible apply ev_cl | with_reducible apply eva_app | with_reducible apply eva_star | with_reducible apply eva_star1 | with_reducible apply evp_part | with_reducible apply evi_it | with_reducible apply evi_LL | with_reducible apply evi_TT | with_reducible apply evi_S | with_reducible apply evi_rng | with_reducible apply evi_rng2 | with_reducible apply evi_zip | with_reducible apply evi_en | with_reducible apply ev_tm | with_reducible apply ot_split | with_reducible apply ot_part | with_reducible apply o_intS | with_reducible apply o_ixS | with_reducible apply o_inL | with_reducible apply o_inTu | with_reducible apply o_inT | with_reducible apply o_pow | with_reducible apply o_rev | with_reducible apply o_strI | with_reducible apply ev_ls | with_reducible apply o_ninTu | with_reducible apply o_ixTI | with_reducible apply sr_shp | with_reducible apply sri_shp | with_reducible apply sr_same | with_reducible apply ow2_own | with_reducible apply ow2_int | with_reducible apply fm_S | with_reducible apply fm_I | with_reducible apply sl_S | with_reducible apply aev1 | with_reducible apply aev2 | with_reducible apply aev3 | with_reducible apply aevf1 | with_reducible apply aevf2 | with_reducible apply aevf3 | with_reducible exact eva_nil | with_reducible exact evt_yes | with_reducible exact evp_no | with_reducible exact ev_jsN | with_reducible exact itr_L | with_reducible exact itr_T | with_reducible exact sl_L | with_reducible exact sl_T | with_reducible exact jn_eq | with_reducible exact jn_int | with_reducible exact jn_str | with_reducible exact jn_bl | with_reducible exact jn_tup | with_reducible exact jn_lst | with_reducible exact jn_any | with_reducible exact o_eqI | with_reducible exact o_neI | with_reducible exact o_eqS | with_reducible exact o_neS | with_reducible exact o_eqB | with_reducible exact o_neB | with_reducible exact o_all | with_reducible exact o_eqT2 | with_reducible exact o_neT2 | with_reducible exact o_inS | with_reducible exact o_ninS | with_reducible exact o_eqL | with_reducible exact o_eqTu | with_reducible exact o_max2 | with_reducible exact o_tup | with_reducible exact o_tup2 | with_reducible exact o_lst | with_reducible exact o_lst2 | ((with_reducible apply ev_varT); exact rfl) | ((with_reducible apply ev_varO); exact rfl) | ((with_reducible apply o2_i); exact fun _ q => q) | ((with_reducible apply o2_i); refine fun _ zq_ => ⟨?_, zq_⟩) | ((with_reducible apply o1_i); exact fun _ q => q) | ((with_reducible apply o1_i); refine fun _ zq_ => ⟨?_, zq_⟩) | ((with_reducible apply on_i); exact fun _ q => q) | ((with_reducible apply on_i); refine fun _ zq_ => ⟨?_, zq_⟩) | ((with_reducible apply fi_i); exact rfl) | ((with_reducible apply pk_i); exact rfl) | exact pairs_ints _ _ | ((with_reducible apply mp_i); exact rfl) | with_reducible apply ev_lc | with_reducible apply ev_lcF | with_reducible apply sr_gcd | with_reducible apply sr_low | with_reducible apply sr_is_number | with_reducible apply sri_Rinit | with_reducible apply sr_name | with_reducible apply sr_pair | with_reducible apply sr_Req_r | with_reducible apply sr_Req_i | with_reducible apply sr_Req_o | with_reducible intro _) <;> (try (show (_ : Prop); (fail_if_success (with_reducible show Ev _ _ _)); first | ((with_reducible apply sle); first | (simp only [str_len2]; omega) | with_reducible assumption | omega | decide) | ((fail_if_success (with_reducible apply sle)); first | assumption | ((with_reducible refine And.intro ?_ ?_) <;> omega) | ((fail_if_success (with_reducible refine And.intro ?_ ?_)); first | rfl | exact List.cons_ne_nil _ _ | exact Nat.le_of_ble_eq_true rfl | decide | omega | exact MulOk.right (by omega) | exact MulOk.left (by omega) | exact MulOk.of (by assumption) (by assumption) (by decide) | exact Sz.mono (by assumption) (by decide) | exact szLog (by assumption) | exact szLog (Sms.get (by assumption) (by assumption)) | exact szW (by decide) | (simp only [List.length_map, List.length_cons, List.length_nil, List.length_append, List.length_reverse]; omega))))))); (try exact rfl); (try exact Nat.le_of_ble_eq_true rfl)
      exact ⟨hE _ e hpre (by unfold badT; rw [c1]; rfl)⟩
    | true =>
      refine s_ifFN (evt_not (evt_B (ev_ca (eva_cons (ev_var rfl) eva_nil) (sr_name p2)))) (by rw [c1]; rfl) ?_
      cases c2 : partB (valS l x) with
      | false =>
        refine s_ifLT (evt_not (evt_B (ev_ca (eva_cons (ev_g2 (ev_var rfl) (ev_var rfl) (hget x hx)) eva_nil) (sr_partV p3)))) (by rw [c2]; rfl) ?_
        (first | (with_reducible show Stp _) | refine Stp.run ?_); (try with_reducible refine nx_mk ?_); (with_reducible first | apply s_raise | apply s_raiseS); (focus ((repeat' first | exact hget x hx | ((with_reducible apply ev_var); exact rfl) | with_reducible exact ev_c | with_reducible apply ev_repF | with_reducible apply ev_repT | with_reducible apply ev_g2 | with_reducible apply ev_g1 | with_reducible apply eva_cons | with_reducible apply ev_tup | with_reducible apply ev_lst | with_reducible apply evt_B | with_reducible apply evt_and | with_reducible apply evt_or | with_reducible apply evt_not | with_reducible apply ev_if | with_reducible apply ev_isi | with_reducible apply ev_isN | with_reducible apply ev_fld | with_reducible apply ev_ca | with_reducible apply ev_mc | with_reducible apply ev_ci | with_reducible apply ev_con | with_reducible apply ev_mk | with_reducible apply ev_own1 | with_reducible apply ev_own2 | with_reducible apply ev_ownR | with_reducible apply ev_ownQ | with_reducible apply ev_ownN | with_reducible apply ev_ownE | with_reducible apply ev_ownEN | with_reducible apply ev_ownS | with_reducible apply ev_ownB | with_reducible apply ev_join | with_reducible apply ev_js | with_reducible apply ev_fmt | with_reducible apply ev_sl | with_reducible apply ev_andV | with_reducible apply ev_orV | with_reducible apply ev_notV | with_reducible apply ev_chain | with_reducible apply ev_cl | with_reducible apply eva_app | with_reducible apply eva_star | with_reducible apply eva_star1 | with_reducible apply evp_part | with_reducible apply evi_it | with_reducible apply evi_LL | with_reducible apply evi_TT | with_reducible apply evi_S | with_reducible apply evi_rng | with_reducible apply evi_rng2 | with_reducible apply evi_zip | with_reducible apply evi_en | with_reducible apply ev_tm | with_reducible apply ot_split | with_reducible apply ot_part | with_reducible apply o_intS | with_reducible apply o_ixS | with_reducible apply o_inL | with_reducible apply o_inTu | with_reducible apply o_inT | with_reducible apply o_pow | with_reducible apply o_rev | with_reducible apply o_strI | with_reducible apply ev_ls | with_reducible apply o_ninTu | with_reducible apply o_ixTI | with_reducible apply sr_shp | with_reducible apply sri_shp | with_reducible apply sr_same | with_reducible apply ow2_own | with_reducible apply ow2_int | with_reducible apply fm_S | with_reducible apply fm_I | with_reducible apply sl_S | with_reducible apply aev1 | with_reducible apply aev2 | with_reducible apply aev3 | with_reducible apply aevf1 | with_reducible apply aevf2 | with_reducible apply aevf3 | with_reducible exact eva_nil | with_reducible exact evt_yes | with_reducible exact evp_no | with_reducible exact ev_jsN | with_reducible exact itr_L | with_reducible exact itr_T | with_reducible exact sl_L | with_reducible exact sl_T | with_reducible exact jn_eq | with_reducible exact jn_int | with_reducible exact jn_str | with_reducible exact jn_bl | with_reducible exact jn_tup | with_reducible exact jn_lst | with_reducible exact jn_any | with_reducible exact o_eqI | with_reducible exact o_neI | with_reducible exact o_eqS | with_reducible exact o_neS | with_reducible exact o_eqB | with_reducible exact o_neB | with_reducible exact o_all | with_reducible exact o_eqT2 | with_reducible exact o_neT2 | with_reducible exact o_inS | with_reducible exact o_ninS | with_reducible exact o_eqL | with_reducible exact o_eqTu | with_reducible exact o_max2 | with_reducible exact o_tup | with_reducible exact o_tup2 | with_reducible exact o_lst | with_reducible exact o_lst2 | ((with_reducible apply ev_varT); exact rfl) | ((with_reducible apply ev_varO); exact rfl) | ((with_reducible apply o2_i); exact fun _ q => q) | ((with_reducible apply o2_i); refine fun _ zq_ => ⟨?_, zq_⟩) | ((with_reducible apply o1_i); exact fun _ q => q) | ((with_reducible apply o1_i); refine fun _ zq_ => ⟨?_, zq_⟩) | ((with_reducible apply on_i); exact fun _ q => q) | ((with_reducible apply on_i); refine fun _ zq_ => ⟨?_, zq_⟩) | ((with_reducible apply fi_i); exact rfl) | ((with_reducible apply pk_i); exact rfl) | exact pairs_ints _ _ | ((with_reducible apply mp_i); exact rfl) | with_reducible apply ev_lc | with_reducible apply ev_lcF | with_reducible apply sr_gcd | with_reducible apply sr_low | with_reducible apply sr_is_number | with_reducible apply sri_Rinit | with_reducible apply sr_name | with_reducible apply sr_pair | with_reducible apply sr_Req_r | with_reducible apply sr_Req_i | with_reducible apply sr_Req_o | with_reducible intro _) <;> (try (show (_ : Prop); (fail_if_success (with_reducible show Ev _ _ _)); first | ((with_reducible apply sle); first | (simp only [str_len2]; omega) | with_reducible assumption | omega | decide) | ((fail_if_success (with_reducible apply sle)); first | assumption | ((with_reducible refine And.intro ?_ ?_) <;> omega) | ((fail_if_success (with_reducible refine And.intro ?_ ?_)); first | rfl | exact List.cons_ne_nil _ _ | exact Nat.le_of_ble_eq_true rfl | decide | omega | exact MulOk.right (by omega) | exact MulOk.left (by omega) | exact MulOk.of (by assumption) (by assumption) (by decide) | exact Sz.mono (by assumption) (by decide) | exact szLog (by assumption) | exact szLog (Sms.get (by assumption) (by assumption)) | exact szW (by decide) | (simp only [List.length_map, List.length_cons, List.length_nil, List.length_append, List.length_reverse]; omega))))))); (try exact rfl); (try exact Nat.le_of_ble_eq_true rfl)
        exact ⟨hE _ e hpre (by unfold badT; rw [c1, c2]; rfl)⟩
      | true =>
        refine s_ifLFN (evt_not (evt_B (ev_ca (eva_cons (ev_g2 (ev_var rfl) (ev_var rfl) (hget x hx)) eva_nil) (sr_partV p3)))) (by rw [c2]; rfl) ?_
        exact ⟨hN _ ⟨_, rfl, fun m hm => by
          rcases List.mem_append.mp hm with hm | hm
          · exact hpre m hm
          · rw [List.mem_singleton.mp hm]; exact badT_of c1 c2⟩⟩
  · obtain ⟨a4, rfl, hall⟩ := hR
    have hK := hK hall
    refine nx_mk ?_
    cases c3 : partB z with
    | false => exact s_slfX (evx_ca (eva_cons (ev_var rfl) eva_nil) (sx_rofV hz c3)) (hK.1 c3)
    | true =>
      have hq := hz.isPQ c3
      apply s_slf
      · exact ev_ca (eva_cons (ev_var rfl) eva_nil) (sr_rofQ hq)
      apply s_slfL (d := dicQ (termsQ l))
      · refine Ev.eq (ev_dcFS (l := sortStr (l.map (·.1))) (gg := D.str) (f := fun n => (n, ratQ (partQ (valS l n)))) (p := fun n => decide (partQ (valS l n) ≠ 0)) (evi_it (ev_g1 (ev_g1 (ev_var rfl) hlist) (o_sortS hl2)) itr_L) rfl (fun n hn => aevdFS ?_ (fun _ => ev_var rfl) (fun _ => ?_)) ?_ ?_) ?_
        · exact evt_neQ ((hp _ (valS_mem (hv n hn))).2.isPQ (badT_none (hall n hn)).2) (ev_g2 (ev_var rfl) (ev_var rfl) (hget n (hv n hn)))
        · exact ev_ca (eva_cons (ev_g2 (ev_var rfl) (ev_var rfl) (hget n (hv n hn))) eva_nil) (sr_rofQ ((hp _ (valS_mem (hv n hn))).2.isPQ (badT_none (hall n hn)).2))
        · rw [sort_len]; omega
        · rw [List.map_id']; exact (sortStr_perm _).nodup_iff.mpr hn
        · unfold termsQ
          show dicS _ = dicS _
          rw [List.map_map]; rfl
      exact ⟨⟨rfl, rfl, rfl, hK.2 _ hq⟩⟩
theorem fc_Form_init_1_constant (F : Facts K mg) : FnC P w K mg base 8 (He.ma K (He.ga K "Form") "__init__") ["constant"] (liftI K (shpI 2 [0, 1] [.non] s_Finit)) := FnOk.cbI (n := 1) (ks := ["constant"]) (dd := [.non]) (dvs := [.non]) (ix := [0, 1]) (ok_Form_init F) (fun _ _ => Reps.cons rfl (Reps.nil)) (bnd11 F.d_Form_init 2 ["constant"] [0, 1, 2] [] (by simp) (by simp) (by simp) fun _ _ _ _ _ _ _ us its mv ws h1 h2 h3 h4 => match us, its, mv, ws, h1, h2, h3, h4 with | [_, _], [_], [], [_], _, _, _, _ => ⟨_, rfl, rfl⟩)
theorem fc_Form_init_1 (F : Facts K mg) : FnC P w K mg base 8 (He.ma K (He.ga K "Form") "__init__") [] (liftI K (shpI 1 [0, 2] [.non, .int (0)] s_Finit)) := FnOk.cbI (n := 1) (ks := []) (dd := [.non, .int (0)]) (dvs := [.non, .int (0)]) (ix := [0, 2]) (ok_Form_init F) (fun _ _ => Reps.cons rfl (Reps.cons rfl (Reps.nil))) (bnd11 F.d_Form_init 2 [] [0, 1, 3] [("constant", .int (0))] (by simp) (by simp) (by simp) fun _ _ _ _ _ _ _ us its mv ws h1 h2 h3 h4 => match us, its, mv, ws, h1, h2, h3, h4 with | [_, _], [_], [_], [], _, _, _, _ => ⟨_, rfl, ⟨_, _, _, _, _, _, rfl, rfl, rfl⟩⟩)
theorem fc_Form_init_0_terms_constant (F : Facts K mg) : FnC P w K mg base 8 (He.ma K (He.ga K "Form") "__init__") ["terms", "constant"] (liftI K (shpI 2 [0, 1] [.non] s_Finit)) := FnOk.cbI (n := 0) (ks := ["terms", "constant"]) (dd := [.non]) (dvs := [.non]) (ix := [0, 1]) (ok_Form_init F) (fun _ _ => Reps.cons rfl (Reps.nil)) (bnd11 F.d_Form_init 1 ["terms", "constant"] [0, 1, 2] [] (by simp) (by simp) (by simp) fun _ _ _ _ _ _ _ us its mv ws h1 h2 h3 h4 => match us, its, mv, ws, h1, h2, h3, h4 with | [_], [_], [], [_, _], _, _, _, _ => ⟨_, rfl, rfl⟩)
theorem fc_Form_init_0_constant (F : Facts K mg) : FnC P w K mg base 8 (He.ma K (He.ga K "Form") "__init__") ["constant"] (liftI K (shpI 1 [1, 0] [.non] s_Finit)) := FnOk.cbI (n := 0) (ks := ["constant"]) (dd := [.non]) (dvs := [.non]) (ix := [1, 0]) (ok_Form_init F) (fun _ _ => Reps.cons rfl (Reps.nil)) (bnd11 F.d_Form_init 1 ["constant"] [0, 2, 1] [] (by simp) (by simp) (by simp) fun _ _ _ _ _ _ _ us its mv ws h1 h2 h3 h4 => match us, its, mv, ws, h1, h2, h3, h4 with | [_], [_], [], [_], _, _, _, _ => ⟨_, rfl, rfl⟩)
theorem fc_Form_init_0 (F : Facts K mg) : FnC P w K mg base 8 (He.ma K (He.ga K "Form") "__init__") [] (liftI K (shpI 0 [0, 1] [.non, .int (0)] s_Finit)) := FnOk.cbI (n := 0) (ks := []) (dd := [.non, .int (0)]) (dvs := [.non, .int (0)]) (ix := [0, 1]) (ok_Form_init F) (fun _ _ => Reps.cons rfl (Reps.cons rfl (Reps.nil))) (bnd11 F.d_Form_init 1 [] [0, 1, 2] [("constant", .int (0))] (by simp) (by simp) (by simp) fun _ _ _ _ _ _ _ us its mv ws h1 h2 h3 h4 => match us, its, mv, ws, h1, h2, h3, h4 with | [_], [_], [_], [], _, _, _, _ => ⟨_, rfl, ⟨_, _, _, _, _, _, rfl, rfl, rfl⟩⟩)
/-- a form whose parts are small -/
def FK (n : Nat) (c : Rat) (ts : List (Str × Rat)) : Prop := QZ n c ∧ (∀ p ∈ ts, QZ n p.2 ∧ nameB p.1 = true) ∧ (ts.map (·.1)).Nodup ∧ ts.length ≤ 20
def cf (ts : List (Str × Rat)) (x : Str) : Rat := getS 0 ts x
theorem cf_out {ts : List (Str × Rat)} {x : Str} (h : x ∉ ts.map (·.1)) : cf ts x = 0 := by
  unfold cf getS
  cases h2 : ts.find? (fun p => decide (p.1 = x)) with
  | none => rfl
  | some p =>
    have a := List.mem_of_find?_eq_some h2
    have b := List.find?_some h2
    exact absurd (List.mem_map.mpr ⟨p, a, by simpa using b⟩) h
theorem FK.name {n : Nat} {c : Rat} {ts : List (Str × Rat)} (h : FK n c ts) {x : Str} (m : x ∈ ts.map (·.1)) : nameB x = true := by
  obtain ⟨p, hp, rfl⟩ := List.mem_map.mp m
  exact (h.2.1 p hp).2
theorem FK.mono {n m : Nat} {c : Rat} {ts : List (Str × Rat)} (h : FK n c ts) (g : n ≤ m) : FK m c ts := ⟨h.1.mono g, fun p hp => ⟨(h.2.1 p hp).1.mono g, (h.2.1 p hp).2⟩, h.2.2⟩
def s_Fterms : GS := fun ds k _ => ∃ (c : Rat) (ts : List (Str × Rat)), ds = [frm c ts] ∧ k (dicQ ts)
theorem mn_Fterms : MnS s_Fterms := fun ds k k' e e' h1 _ ⟨c, ts, h, q⟩ => ⟨c, ts, h, h1 _ q⟩
theorem ok_Form_terms (F : Facts K mg) : FnOk P w K mg base (L2.CX P w) 2 (He.ma K (He.ga K "Form") "terms") (fdOf K (He.ma K (He.ga K "Form") "terms")) ["self"] (lift K s_Fterms) := by
  refine okD F.d_Form_terms sc_Form_terms (fun ds k e h => by obtain ⟨_, _, rfl, _⟩ := h; rfl) fun cdv A outer s0 H E b eo hr Z => ⟨_, dss_one (ds_ret (DE.dt (de_callTyD (id := "") (call_dictD) cl_dictD rfl F.n_dict rfl (de_fld (c := "Form") (NS := ["constant", "own_terms"]) (i := 1) (de_var 0) F.c_Form F.a_Form_own_terms (by decide))))), fun ds k h => ?_⟩
  obtain ⟨c, ts, rfl, hk⟩ := h
  refine (s_ret (σ := [.sh (frm c ts)]) (d := dicQ ts) ?_ ?_).run
  · exact ev_g1 (ev_fld (ev_var rfl) rfl) o_dictS
  · exact ⟨hk⟩
theorem okFD_Form_terms (F : Facts K mg) : FnOk P w K mg base (L2.CX P w) 2 (He.ma K (He.ga K "Form") "terms") (fdOf K (He.ma K (He.ga K "Form") "terms")) ["self"] (liftFD K s_Fterms) := by
  refine okFD F.d_Form_terms sc_Form_terms (fun ds k e h => by obtain ⟨_, _, rfl, _⟩ := h; rfl) fun cdv A outer s0 H E b eo hr Z => ⟨_, dfd_call call_dictD co_dictD rfl F.n_dict rfl (de_fld (c := "Form") (NS := ["constant", "own_terms"]) (i := 1) (de_var 0) F.c_Form F.a_Form_own_terms (by decide)), fun ds k h => ?_⟩
  obtain ⟨c, ts, rfl, hk⟩ := h
  refine (ev_fld (ev_var (σ := [.sh (frm c ts)]) rfl) rfl).run _ ?_
  show k (dicP (((ksS (ts.map fun p => (p.1, ratQ p.2))).map (·.1)).zip ((ksS (ts.map fun p => (p.1, ratQ p.2))).map (·.2))))
  rw [zip_dic]
  exact hk
theorem sr_Fterms {c : Rat} {ts : List (Str × Rat)} : SR s_Fterms [frm c ts] (dicQ ts) := .mk fun k e q => ⟨c, ts, rfl, q⟩
theorem fcD_Form_terms_0 (F : Facts K mg) : FnC P w K mg base 2 (He.ma K (He.ga K "Form") "terms") [] (liftFD K s_Fterms) := FnOk.c0 (okFD_Form_terms F) (F.d_Form_terms.bindsN fun _ _ _ _ _ _ us hl => match us, hl with | [_], _ => rfl)
theorem fc_Form_terms_0 (F : Facts K mg) : FnC P w K mg base 2 (He.ma K (He.ga K "Form") "terms") [] (lift K s_Fterms) := FnOk.c0 (ok_Form_terms F) (F.d_Form_terms.bindsN fun _ _ _ _ _ _ us hl => match us, hl with | [_], _ => rfl)
def s_Fnames : GS := fun ds k _ => ∃ (c : Rat) (ts : List (Str × Rat)), ds = [frm c ts] ∧ k (.lst ((ts.map (·.1)).map .str))
theorem mn_Fnames : MnS s_Fnames := fun ds k k' e e' h1 _ ⟨c, ts, h, q⟩ => ⟨c, ts, h, h1 _ q⟩
theorem okF_Form_names (F : Facts K mg) : FnOk P w K mg base (L2.CX P w) 2 (He.ma K (He.ga K "Form") "names") (fdOf K (He.ma K (He.ga K "Form") "names")) ["self"] (liftF K s_Fnames) := by
  refine okF F.d_Form_names sc_Form_names (fun ds k e h => by obtain ⟨_, _, rfl, _⟩ := h; rfl) fun cdv A outer s0 H E b eo hr Z => ⟨_, dssF_one (dsF_ret (df_listD rfl rfl F.n_list (de_fld (c := "Form") (NS := ["constant", "own_terms"]) (i := 1) (de_var 0) F.c_Form F.a_Form_own_terms (by decide)))), fun ds k h => ?_⟩
  obtain ⟨c, ts, rfl, hk⟩ := h
  have e1 : ((ts.map fun p => (p.1, ratQ p.2)).map (·.1)) = ts.map (·.1) := fst_map ratQ ts
  refine (s_ret (σ := [.sh (frm c ts)]) (d := .lst ((ts.map (·.1)).map .str)) ?_ ?_).run
  · exact (ev_g1 (ev_fld (ev_var rfl) rfl) (o_listS (l := ts.map fun p => (p.1, ratQ p.2)))).eq (by rw [e1])
  · exact ⟨hk⟩
theorem ok_Form_names (F : Facts K mg) : FnOk P w K mg base (L2.CX P w) 2 (He.ma K (He.ga K "Form") "names") (fdOf K (He.ma K (He.ga K "Form") "names")) ["self"] (lift K s_Fnames) := FnOk.ofF mn_Fnames (okF_Form_names F) (fun ds k e ⟨c, ts, h, q⟩ => ⟨c, ts, h, _, rfl, q⟩)
theorem sr_Fnames {c : Rat} {ts : List (Str × Rat)} : SR s_Fnames [frm c ts] (.lst ((ts.map (·.1)).map .str)) := .mk fun k e q => ⟨c, ts, rfl, q⟩
theorem fcF_Form_names_0 (F : Facts K mg) : FnC P w K mg base 2 (He.ma K (He.ga K "Form") "names") [] (liftF K s_Fnames) := FnOk.c0 (okF_Form_names F) (F.d_Form_names.bindsN fun _ _ _ _ _ _ us hl => match us, hl with | [_], _ => rfl)
theorem fc_Form_names_0 (F : Facts K mg) : FnC P w K mg base 2 (He.ma K (He.ga K "Form") "names") [] (lift K s_Fnames) := FnOk.c0 (ok_Form_names F) (F.d_Form_names.bindsN fun _ _ _ _ _ _ us hl => match us, hl with | [_], _ => rfl)
def ratL : D → Bool
  | .ins c ns [.int _, .int _] => decide (c = "Ratio") && decide (ns = RNS)
  | _ => false
theorem ratL_ex {d : D} (h : ratL d = true) : ∃ p q, d = rat p q := by
  unfold ratL at h
  split at h
  · simp only [Bool.and_eq_true, decide_eq_true_eq] at h
    obtain ⟨rfl, rfl⟩ := h
    exact ⟨_, _, rfl⟩
  · cases h
mutual
def goodL : D → Bool
  | .non => true | .bl _ => true | .int _ => true | .str _ => true
  | .tup ds => decide (ds.length ≤ 100000) && goodLs ds
  | .lst ds => decide (ds.length ≤ 100000) && goodLs ds
  | .ins c ns xs => ratL (.ins c ns xs)
  | .dic ks vs => ks.isEmpty && vs.isEmpty
  | _ => false
def goodLs : List D → Bool
  | [] => true
  | d :: r => goodL d && goodLs r
end
theorem goodLs_mem : ∀ {ds : List D}, goodLs ds = true → ∀ d ∈ ds, goodL d = true
  | [], _, d, h => by cases h
  | x :: r, g, d, h => by
    simp only [goodLs, Bool.and_eq_true] at g
    rcases List.mem_cons.mp h with rfl | h
    · exact g.1
    · exact goodLs_mem g.2 d h
def sSameL (n : Nat) : GS := fun ds k _ => ∃ d, ds = [d, d] ∧ goodL d = true ∧ dep d < n ∧ k (.bl true)
theorem sSameL_mn (n : Nat) : MnS (sSameL n) := fun ds k k' e e' h1 _ ⟨x, h, h2, h3, q⟩ => ⟨x, h, h2, h3, h1 _ q⟩
theorem ok__law_same : ∀ (n : Nat) (F : Facts K mg), FnOk P w K mg base (L2.CX P w) (n + 10) (He.ga K "_law_same") (fdOf K (He.ga K "_law_same")) ["_law_found", "_law_due"] (lift K (sSameL n))
  | 0, F => okD F.d__law_same sc__law_same (fun ds k e h => by obtain ⟨d, rfl, _⟩ := h; rfl) fun cdv A outer s0 H E b eo hr Z => ⟨_, dss_never, fun ds k h => by obtain ⟨d, rfl, _, h, _⟩ := h; omega⟩
  | n + 1, F => by
    refine okD F.d__law_same sc__law_same (fun ds k e h => by obtain ⟨d, rfl, _⟩ := h; rfl) fun cdv A outer s0 H E b eo hr Z => ⟨_, dss_cons (ds_if (DW.db (dw_or (db_isN (DE.dt (de_var 1))) (dw_or1 (db_isN (DE.dt (de_var 0)))))) (dss_one (ds_ret (DE.dt (de_and (DE.dt (de_isN (DE.dt (de_var 0)))) (de_one (de_isN (DE.dt (de_var 1)))))))) (dss_nil))
    (dss_cons (ds_if (DW.db (dw_or (db_val (DE.dt (de_isi (k := .ty .bl) F.W (by simp [KC.ok]) (DE.dt (de_var 1)) (pe_kty rfl F.n_bool rfl) rfl F.n_isinstance))) (dw_or1 (db_val (DE.dt (de_isi (k := .ty .bl) F.W (by simp [KC.ok]) (DE.dt (de_var 0)) (pe_kty rfl F.n_bool rfl) rfl F.n_isinstance)))))) (dss_one (ds_ret (DE.dt (de_and (DE.dt (de_isi (k := .ty .bl) F.W (by simp [KC.ok]) (DE.dt (de_var 1)) (pe_kty rfl F.n_bool rfl) rfl F.n_isinstance)) (de_and (DE.dt (de_isi (k := .ty .bl) F.W (by simp [KC.ok]) (DE.dt (de_var 0)) (pe_kty rfl F.n_bool rfl) rfl F.n_isinstance)) (de_one (de_eqA hr (DE.dt (de_var 0)) (DE.dt (de_var 1))))))))) (dss_nil))
    (dss_cons (ds_if (db_val (DE.dt (de_isiT (ks := [.ty .int, .ty .str]) F.W (by simp [KC.ok]) (DE.dt (de_var 1)) (pks_cons (pe_kty rfl F.n_int rfl) (pks_cons (pe_kty rfl F.n_str rfl) (pks_nil))) (by decide) rfl F.n_isinstance))) (dss_one (ds_ret (DE.dt (de_and (DE.dt (de_isiT (ks := [.ty .int, .ty .str]) F.W (by simp [KC.ok]) (DE.dt (de_var 0)) (pks_cons (pe_kty rfl F.n_int rfl) (pks_cons (pe_kty rfl F.n_str rfl) (pks_nil))) (by decide) rfl F.n_isinstance)) (de_and (DE.dt (de_eqA hr (DE.dt (de_isi (k := .ty .int) F.W (by simp [KC.ok]) (DE.dt (de_var 0)) (pe_kty rfl F.n_int rfl) rfl F.n_isinstance)) (DE.dt (de_isi (k := .ty .int) F.W (by simp [KC.ok]) (DE.dt (de_var 1)) (pe_kty rfl F.n_int rfl) rfl F.n_isinstance)))) (de_one (de_eqA hr (DE.dt (de_var 0)) (DE.dt (de_var 1))))))))) (dss_nil))
    (dss_cons (ds_if (db_val (DE.dt (de_isi (k := .ty .dic) F.W (by simp [KC.ok]) (DE.dt (de_var 1)) (pe_kty rfl F.n_dict rfl) rfl F.n_isinstance))) (dss_cons (ds_if (DW.db (dw_or (db_not (db_val (DE.dt (de_isi (k := .ty .dic) F.W (by simp [KC.ok]) (DE.dt (de_var 0)) (pe_kty rfl F.n_dict rfl) rfl F.n_isinstance)))) (dw_or1 (db_neA hr (DE.dt (de_callB cr_sortedS cl_sortS rfl F.n_sorted rfl (DE.dt (de_callTy (call_listD rfl) cl_listD rfl F.n_list rfl (DE.dt (de_var 0)))))) (DE.dt (de_callB cr_sortedS cl_sortS rfl F.n_sorted rfl (DE.dt (de_callTy (call_listD rfl) cl_listD rfl F.n_list rfl (DE.dt (de_var 1)))))))))) (dss_one (ds_ret (DE.dt (de_bl)))) (dss_nil))
    (dss_one (ds_ret (DE.dt (de_callB (cr_all rfl) cl_all rfl F.n_all rfl (DE.dt (de_lc rfl sc__law_same.nd (own := [("_law_key", 2)]) (di_keys (de_var 1)) (blk_ok (N := ["_law_found", "_law_due", "_law_key", "_law_a", "_law_b"]) (by kernel_rfl)) (fun _ _ _ _ _ => dg_name (i := 2) sc__law_same.nd rfl (.inl rfl)) (fun _ _ _ _ _ => dts_nil) (fun _ _ _ _ _ => de_ca (FnOk.c0 (ok__law_same n F) (bi__law_same F)) (sSameL_mn n) (hr.mono (by omega)) F.g__law_same F.d__law_same.kp cz_none (dca_pos (da_cons (de_dget hr (de_var 0) (DE.dt (de_var 2))) (da_cons (de_dget hr (de_var 1) (DE.dt (de_var 2))) (da_nil)))))))))))) (dss_nil))
    (dss_cons (ds_if (DW.db (dw_or (db_neA hr (DE.dt (de_isi (k := .ty .lst) F.W (by simp [KC.ok]) (DE.dt (de_var 1)) (pe_kty rfl F.n_list rfl) rfl F.n_isinstance)) (DE.dt (de_isi (k := .ty .lst) F.W (by simp [KC.ok]) (DE.dt (de_var 0)) (pe_kty rfl F.n_list rfl) rfl F.n_isinstance))) (dw_or1 (db_neA hr (DE.dt (de_isi (k := .ty .tup) F.W (by simp [KC.ok]) (DE.dt (de_var 1)) (pe_kty rfl F.n_tuple rfl) rfl F.n_isinstance)) (DE.dt (de_isi (k := .ty .tup) F.W (by simp [KC.ok]) (DE.dt (de_var 0)) (pe_kty rfl F.n_tuple rfl) rfl F.n_isinstance)))))) (dss_one (ds_ret (DE.dt (de_bl)))) (dss_nil))
    (dss_cons (ds_if (db_not (db_val (DE.dt (de_isiT (ks := [.ty .lst, .ty .tup]) F.W (by simp [KC.ok]) (DE.dt (de_var 1)) (pks_cons (pe_kty rfl F.n_list rfl) (pks_cons (pe_kty rfl F.n_tuple rfl) (pks_nil))) (by decide) rfl F.n_isinstance)))) (dss_one (ds_ret (DE.dt (DCm.de (dc_eqE (c := "Ratio") (de_var 0) (de_var 1) F.o_Ratio_eq F.nf_Ratio (ok_Ratio_eq F) mn_Req (hr.mono (by omega)) (bi_Ratio_eq F) cz_none))))) (dss_nil))
    (dss_one (ds_ret (DE.dt (de_and (DE.dt (de_eqA hr (DE.dt (de_callB call_len3 cl_len rfl F.n_len rfl (DE.dt (de_var 0)))) (DE.dt (de_callB call_len3 cl_len rfl F.n_len rfl (DE.dt (de_var 1)))))) (de_one (de_callB (cr_all rfl) cl_all rfl F.n_all rfl (DE.dt (de_lc rfl sc__law_same.nd (own := [("_law_a", 3), ("_law_b", 4)]) (di_zipA (de_var 0) (de_var 1) rfl F.n_zip) (blk_ok (N := ["_law_found", "_law_due", "_law_key", "_law_a", "_law_b"]) (by kernel_rfl)) (fun _ _ _ _ _ => dg_tup rfl (dgs_cons (dg_name (i := 3) sc__law_same.nd rfl (.inl rfl)) (dgs_cons (dg_name (i := 4) sc__law_same.nd rfl (.inl rfl)) (dgs_nil)))) (fun _ _ _ _ _ => dts_nil) (fun _ _ _ _ _ => de_ca (FnOk.c0 (ok__law_same n F) (bi__law_same F)) (sSameL_mn n) (hr.mono (by omega)) F.g__law_same F.d__law_same.kp cz_none (dca_pos (da_cons (de_var 3) (da_cons (de_var 4) (da_nil)))))))))))))))))), fun ds k h => ?_⟩
    obtain ⟨d, rfl, hg, hd, hk⟩ := h
    have last : ∀ ds : List D, ds.length ≤ 100000 → goodLs ds = true → deps ds < n → ∀ σd : D, lcD (.tp [.nm 3, .nm 4]) gYes (gCa (sSameL n) (fun _ => False) (gCons (gVar 3) (gCons (gVar 4) gNil))) [.sh σd, .sh σd, .unset, .unset, .unset] (pairsD ds ds) [] fun x => dAll x k := fun ds h1 h2 h3 σd => by
      rw [pairsD_self]
      refine lcD_mapL (l := ds) (fun d => D.tup [d, d]) (fun _ => D.bl true) (fun x hx kk hkk => ?_) (by simp only [List.length_nil]; omega) ?_
      · exact ⟨x, rfl, goodLs_mem h2 x hx, Nat.lt_of_le_of_lt (deps_mem x hx) h3, hkk⟩
      · refine dAll_bls ?_
        have e : (ds.all fun _ => true) = true := by simp
        rw [e]; exact hk
    cases d with
    | non => exact hk
    | bl x =>
      have hk' : k (.bl (x == x)) := by rw [beq_self_eq_true]; exact hk
      repeat' (first | exact hk' | refine ⟨rfl, ?_⟩)
    | int x =>
      have hk' : k (.bl (x == x)) := by rw [beq_self_eq_true]; exact hk
      repeat' (first | exact hk' | refine ⟨rfl, ?_⟩)
    | str x =>
      have hk' : k (.bl (x == x)) := by rw [beq_self_eq_true]; exact hk
      repeat' (first | exact hk' | refine ⟨rfl, ?_⟩)
    | tup ds =>
      simp only [goodL, Bool.and_eq_true, decide_eq_true_eq] at hg
      simp only [dep] at hd
      simp (config := { decide := false }) only [gRet, gRetN, gAndV, gOrV, gNotV, gIsi, gVar, gVarT, gC, gSeq, gNext, gIfS, gAsg, gDrop, gNever, gBreak, gCont, gIf, gAnd, gOr, gNot, gB, g1, g2, DL.gNil, DL.gCons, DL.gTup, DL.gLst, gIsN, dIsN, gPar, gTgt, asg, asgs, gCl, gCall, gCallK, gMeth, gFld, gMake, gJoin, gSl2, gNoP, gPart, gItS, gIt, gItL, gItT, gZip, gRng1, gLc, gRaise, gYes, gChain, dI, dI0, startD, initD, look, put, wipeD, List.map_cons, List.map_nil, List.cons_append, List.nil_append, List.append_nil, List.length_cons, List.length_nil, List.replicate, Nat.zero_add, Nat.add_zero, Nat.sub_self, Nat.reduceAdd, Nat.reduceSub, dAddA, dAddB, dMulA, dLen3, dNeg, true_and, eq_self, gCa, gMc, gMk, gSlA, gZipA, gEnum, gOwn2, gOwnQ, gOwnN, gOwn1, gOwnS, gOwnR, gAsgO, gPsh, gAns, gOwnE, gOwnEN, gOwnB, gJs, gFmt]
      refine ⟨rfl, rfl, rfl, rfl, rfl, rfl, rfl, rfl, rfl, ?_⟩
      show dEqA false (D.int (ds.length : Int)) (D.int (ds.length : Int)) _
      exact dEqA_self (last ds hg.1 hg.2 (by omega) _)
    | lst ds =>
      simp only [goodL, Bool.and_eq_true, decide_eq_true_eq] at hg
      simp only [dep] at hd
      simp (config := { decide := false }) only [gRet, gRetN, gAndV, gOrV, gNotV, gIsi, gVar, gVarT, gC, gSeq, gNext, gIfS, gAsg, gDrop, gNever, gBreak, gCont, gIf, gAnd, gOr, gNot, gB, g1, g2, DL.gNil, DL.gCons, DL.gTup, DL.gLst, gIsN, dIsN, gPar, gTgt, asg, asgs, gCl, gCall, gCallK, gMeth, gFld, gMake, gJoin, gSl2, gNoP, gPart, gItS, gIt, gItL, gItT, gZip, gRng1, gLc, gRaise, gYes, gChain, dI, dI0, startD, initD, look, put, wipeD, List.map_cons, List.map_nil, List.cons_append, List.nil_append, List.append_nil, List.length_cons, List.length_nil, List.replicate, Nat.zero_add, Nat.add_zero, Nat.sub_self, Nat.reduceAdd, Nat.reduceSub, dAddA, dAddB, dMulA, dLen3, dNeg, true_and, eq_self, gCa, gMc, gMk, gSlA, gZipA, gEnum, gOwn2, gOwnQ, gOwnN, gOwn1, gOwnS, gOwnR, gAsgO, gPsh, gAns, gOwnE, gOwnEN, gOwnB, gJs, gFmt]
      refine ⟨rfl, rfl, rfl, rfl, rfl, rfl, rfl, rfl, rfl, ?_⟩
      show dEqA false (D.int (ds.length : Int)) (D.int (ds.length : Int)) _
      exact dEqA_self (last ds hg.1 hg.2 (by omega) _)
    | ins c ns xs =>
      obtain ⟨p, q, e⟩ := ratL_ex hg
      cases e
      have ha := ask_rat p q
      have fin : s_Req [rat p q, rat p q] k (fun _ => False) := ⟨p, q, _, rfl, ha, fun c ns xs e => by cases e; exact ⟨_, _, rfl⟩, by
        have z : eqR p q (rat p q) = true := by
          show ([p, q] == [p, q]) = true
          exact beq_self_eq_true _
        rw [z]; exact hk⟩
      repeat' (first | exact ⟨rfl, rfl, fin⟩ | refine ⟨ha, ?_⟩ | refine ⟨rfl, ?_⟩)
    | dic ks vs =>
      have e1 : ks = [] := by cases ks with
        | nil => rfl
        | cons a b => cases hg
      subst e1
      have e2 : vs = [] := by cases vs with
        | nil => rfl
        | cons a b => cases hg
      subst e2
      repeat' (first | exact hk | refine ⟨rfl, ?_⟩ | (refine ⟨(by decide : (0 : Nat) < 64), fun ys hy _ => ?_⟩; obtain rfl := List.Perm.eq_nil hy) | exact fun ys hy => ?_)
    | _ => cases hg
theorem sr_sameL {n : Nat} {x y : D} (e : x = y) (h : goodL y = true) (hd : dep y < n) : SR (sSameL n) [x, y] (.bl true) := .mk fun k eo q => ⟨y, by rw [e], h, hd, q⟩
theorem fc__law_same_2 (F : Facts K mg) : FnC P w K mg base 18 (He.ga K "_law_same") [] (lift K (sSameL 8)) := FnOk.c0 (ok__law_same 8 F) (F.d__law_same.bindsN fun _ _ _ _ _ _ us hl => match us, hl with | [_, _], _ => rfl)
def cfD (ts : List (Str × Rat)) : D → Rat
  | .str x => cf ts x
  | _ => 0
def s_Ffac : GS := fun ds k _ => ∃ (c : Rat) (ts : List (Str × Rat)) (y : D), ds = [frm c ts, y] ∧ askD CLS y = true ∧ (ts.map (·.1)).Nodup ∧ k (ratQ (cfD ts y))
theorem mn_Ffac : MnS s_Ffac := fun ds k k' e e' h1 _ ⟨c, ts, y, e4, g1, g2, q⟩ => ⟨c, ts, y, e4, g1, g2, h1 _ q⟩
theorem ok_Form_factor (F : Facts K mg) : FnOk P w K mg base (L2.CX P w) 5 (He.ma K (He.ga K "Form") "factor") (fdOf K (He.ma K (He.ga K "Form") "factor")) ["self", "name"] (lift K s_Ffac) := by
  refine okD F.d_Form_factor sc_Form_factor (fun ds k e h => by obtain ⟨_, _, _, rfl, _⟩ := h; rfl) fun cdv A outer s0 H E b eo hr Z => ⟨_, dss_one (ds_ret (DE.dt (de_if (DW.db (dw_and (db_val (DE.dt (de_isi (k := .ty .str) F.W (by simp [KC.ok]) (DE.dt (de_var 1)) (pe_kty rfl F.n_str rfl) rfl F.n_isinstance))) (dw_and1 (DCm.db (dc_din hr (DE.dt (de_var 1)) (DE.dt (de_fld (c := "Form") (NS := ["constant", "own_terms"]) (i := 1) (de_var 0) F.c_Form F.a_Form_own_terms (by decide)))))))) (de_dget hr (de_fld (c := "Form") (NS := ["constant", "own_terms"]) (i := 1) (de_var 0) F.c_Form F.a_Form_own_terms (by decide)) (DE.dt (de_var 1))) (de_mk F.k_Ratio (fc_Ratio_init_1 F) (shpI_mn mn_Rinit) (hr.mono (by decide)) F.g_Ratio Z (dca_pos (da_cons (de_int) (da_nil))))))), fun ds k h => ?_⟩
  obtain ⟨c, ts, y, rfl, ay, hn, hk⟩ := h
  suffices z : Stp _ from z.run
  show Stp (gRet _ _ [.sh (frm c ts), .sh y])
  have e1 : ((ts.map fun p => (p.1, ratQ p.2)).map (·.1)) = ts.map (·.1) := fst_map ratQ ts
  have other : ∀ z : D, askD CLS z = true → isAny subC [KC.ty Tg.str] z = false → cfD ts z = 0 → z = y → Stp (gRet (gIf (gAnd (gB (gIsi CLS subC [KC.ty Tg.str] (gVar 1))) (gB (g2 (dDIn false) (gVar 1) (gFld "Form" FNS 1 (gVar 0))))) (g2 dDGet (gFld "Form" FNS 1 (gVar 0)) (gVar 1)) (gMk "Ratio" (shpI 1 [0, 1] [D.int 1] s_Rinit) eo (gCons (gC (D.int 0)) gNil))) (fin k) [.sh (frm c ts), .sh z]) := fun z az hz h0 ez => by
    subst ez
    with_reducible apply s_ret (d := ratQ (cfD ts z))
    · rw [h0]
      refine ev_ifF (EvT.eq (evt_and (b := false) (evt_B (ev_isi (ev_var rfl) az)) (fun h => evt_abs (by rw [hz] at h; cases h))) (by rw [hz]; rfl)) rfl ?_
      exact ev_mk (eva_cons ev_c eva_nil) (sri_shp (es := [.int 0, .int 1]) (sri_Rinit (t := 0) (b := 1) (by decide) (szW (by decide))) rfl rfl)
    · exact ⟨hk⟩
  cases y with
  | str x =>
    by_cases hx : x ∈ ts.map (·.1)
    · with_reducible apply s_ret (d := ratQ (cf ts x))
      · refine ev_ifT (EvT.eq (evt_and (evt_B (ev_isi (ev_var rfl) rfl)) fun _ => evt_B (ev_g2 (ev_var rfl) (ev_fld (ev_var rfl) rfl) o_dinS)) (by rw [e1, decide_eq_true hx]; rfl)) rfl (ev_g2 (ev_fld (ev_var rfl) rfl) (ev_var rfl) (o_dgetS (by rw [e1]; exact hx) (valS_map ratQ hx)))
      · exact ⟨hk⟩
    · with_reducible apply s_ret (d := ratQ (cf ts x))
      · rw [cf_out hx]
        refine ev_ifF (EvT.eq (evt_and (evt_B (ev_isi (ev_var rfl) rfl)) fun _ => evt_B (ev_g2 (ev_var rfl) (ev_fld (ev_var rfl) rfl) o_dinS)) (by rw [e1, decide_eq_false hx]; rfl)) rfl ?_
        exact ev_mk (eva_cons ev_c eva_nil) (sri_shp (es := [.int 0, .int 1]) (sri_Rinit (t := 0) (b := 1) (by decide) (szW (by decide))) rfl rfl)
      · exact ⟨hk⟩
  | bag => cases ay
  | clo o => cases ay
  | _ => exact other _ ay rfl rfl rfl
theorem sr_Ffac {c : Rat} {ts : List (Str × Rat)} {y : D} (a : askD CLS y = true) (h : (ts.map (·.1)).Nodup) : SR s_Ffac [frm c ts, y] (ratQ (cfD ts y)) := .mk fun k e q => ⟨c, ts, y, rfl, a, h, q⟩
theorem fc_Form_factor_1 (F : Facts K mg) : FnC P w K mg base 5 (He.ma K (He.ga K "Form") "factor") [] (lift K s_Ffac) := FnOk.c0 (ok_Form_factor F) (F.d_Form_factor.bindsN fun _ _ _ _ _ _ us hl => match us, hl with | [_, _], _ => rfl)
theorem fc_Form_factor_0_name (F : Facts K mg) : FnC P w K mg base 5 (He.ma K (He.ga K "Form") "factor") ["name"] (lift K (shp 2 [0, 1] [] s_Ffac)) := FnOk.cb (n := 1) (ks := ["name"]) (dd := []) (dvs := []) (ix := [0, 1]) (ok_Form_factor F) (fun _ _ => Reps.nil) (⟨[], .nil, bnd00 F.d_Form_factor 1 ["name"] [0, 1] fun _ _ _ _ _ _ us ws h1 h2 => match us, ws, h1, h2 with | [_], [_], _, _ => rfl⟩)
def eqT (ts us : List (Str × Rat)) : Bool := ts.length == us.length && ts.all fun p => match us.find? (fun q => decide (q.1 = p.1)) with | some q => decide (p.2 = q.2) | none => false
def eqvQ (u v : D) : Bool := decide (partQ u = partQ v)
theorem flat_Q (ts : List (Str × Rat)) : ∀ d ∈ (ksS (ts.map fun p => (p.1, ratQ p.2))).map (·.2), OwnFlat "Ratio" RNS d := fun d hd => by
  unfold ksS at hd
  rw [List.map_map, List.map_map] at hd
  obtain ⟨p, _, rfl⟩ := List.mem_map.mp hd
  exact ⟨[p.2.num, (p.2.den : Int)], rfl, rfl⟩
theorem eqvQ_ok {eo : XD → Prop} (ts us : List (Str × Rat)) : EqvOk s_Req eo eqvQ ((ksS (ts.map fun p => (p.1, ratQ p.2))).map (·.2)) ((ksS (us.map fun p => (p.1, ratQ p.2))).map (·.2)) := fun u hu v hv => by
  unfold ksS at hu hv
  rw [List.map_map, List.map_map] at hu hv
  obtain ⟨p, _, rfl⟩ := List.mem_map.mp hu
  obtain ⟨q, _, rfl⟩ := List.mem_map.mp hv
  refine ⟨?_, fun h => ?_⟩
  · refine sr_Req_r _ _ ?_
    show D.bl _ = D.bl (decide (partQ (ratQ p.2) = partQ (ratQ q.2)))
    rw [q_eq, partQ_rat, partQ_rat]
  · unfold eqvQ
    rw [h]
    exact decide_eq_true rfl
theorem eqT_dic (ts us : List (Str × Rat)) : (((ksS (ts.map fun p => (p.1, ratQ p.2))).map (·.1)).length == ((ksS (us.map fun p => (p.1, ratQ p.2))).map (·.1)).length && eqDR eqvQ (((ksS (ts.map fun p => (p.1, ratQ p.2))).map (·.1)).zip ((ksS (ts.map fun p => (p.1, ratQ p.2))).map (·.2))) (((ksS (us.map fun p => (p.1, ratQ p.2))).map (·.1)).zip ((ksS (us.map fun p => (p.1, ratQ p.2))).map (·.2)))) = eqT ts us := by
  rw [zip_parts, zip_parts]
  unfold eqT eqDR
  congr 1
  · unfold ksS
    simp only [List.length_map]
  · unfold ksS
    rw [List.map_map, List.all_map]
    refine congrArg (fun f => ts.all f) (funext fun p => ?_)
    show (match valP _ (.inr p.1) with | some y => eqvQ (ratQ p.2) y | none => false) = _
    have e : valP ((us.map fun p => (p.1, ratQ p.2)).map fun p => ((.inr p.1 : Key), p.2)) (.inr p.1) = (us.find? fun q => decide (q.1 = p.1)).map fun q => ratQ q.2 := by
      unfold valP
      rw [List.map_map, List.find?_map, Option.map_map]
      have : ((fun q : Key × D => decide (q.1 = (.inr p.1 : Key))) ∘ ((fun p : Str × D => ((.inr p.1 : Key), p.2)) ∘ fun p : Str × Rat => (p.1, ratQ p.2))) = fun q : Str × Rat => decide (q.1 = p.1) := by
        funext q
        show decide ((.inr q.1 : Key) = .inr p.1) = decide (q.1 = p.1)
        by_cases h : q.1 = p.1
        · rw [h]; simp
        · rw [decide_eq_false h, decide_eq_false fun z => h (by injection z)]
      rw [this]
      rfl
    rw [e]
    cases us.find? fun q => decide (q.1 = p.1) with
    | none => rfl
    | some q =>
      show decide (partQ (ratQ p.2) = partQ (ratQ q.2)) = _
      rw [partQ_rat, partQ_rat]
def s_Feq : GS := fun ds k _ => ∃ (c : Rat) (ts : List (Str × Rat)) (y : D), ds = [frm c ts, y] ∧ ((∃ d us, y = frm d us ∧ k (.bl (eqT ts us && decide (c = d)))) ∨ (askD CLS y = true ∧ (∀ a b c, y ≠ .ins a b c) ∧ k (.bl false)))
theorem mn_Feq : MnS s_Feq := fun ds k k' e e' h1 _ ⟨c, ts, y, e4, q⟩ => ⟨c, ts, y, e4, q.imp (fun ⟨d, us, a, b⟩ => ⟨d, us, a, h1 _ b⟩) fun ⟨a, b, c⟩ => ⟨a, b, h1 _ c⟩⟩
theorem ok_Form_eq (F : Facts K mg) : FnOk P w K mg base (L2.CX P w) 8 (He.ma K (He.ga K "Form") "__eq__") (fdOf K (He.ma K (He.ga K "Form") "__eq__")) ["self", "other"] (lift K s_Feq) := by
  refine okD F.d_Form_eq sc_Form_eq (fun ds k e h => by obtain ⟨_, _, _, rfl, _⟩ := h; rfl) fun cdv A outer s0 H E b eo hr Z => ⟨_, dss_one (ds_ret (DE.dt (de_and (DE.dt (de_isi (k := .own "Form") F.W (by simp [KC.ok]) (DE.dt (de_var 1)) (pe_kown rfl F.g_Form) rfl F.n_isinstance)) (de_and (DE.dt (DCm.de (dc_eqDO (c := "Ratio") (de_fld (c := "Form") (NS := ["constant", "own_terms"]) (i := 1) (de_var 0) F.c_Form F.a_Form_own_terms (by decide)) (de_fld (c := "Form") (NS := ["constant", "own_terms"]) (i := 1) (de_var 1) F.c_Form F.a_Form_own_terms (by decide)) F.o_Ratio_eq F.nf_Ratio (ok_Ratio_eq F) mn_Req (hr.mono (by decide)) (bi_Ratio_eq F) cz_none))) (de_one (DCm.de (dc_eqO (c := "Ratio") (de_fld (c := "Form") (NS := ["constant", "own_terms"]) (i := 0) (de_var 0) F.c_Form F.a_Form_constant (by decide)) (de_fld (c := "Form") (NS := ["constant", "own_terms"]) (i := 0) (de_var 1) F.c_Form F.a_Form_constant (by decide)) F.o_Ratio_eq (ok_Ratio_eq F) mn_Req (hr.mono (by decide)) (bi_Ratio_eq F) cz_none))))))), fun ds k h => ?_⟩
  obtain ⟨c, ts, y, rfl, h⟩ := h
  suffices z : Stp _ from z.run
  rcases h with ⟨d, us, rfl, hk⟩ | ⟨ay, hn, hk⟩
  · show Stp (gRet _ _ [.sh (frm c ts), .sh (frm d us)])
    with_reducible apply s_ret (d := .bl (eqT ts us && decide (c = d)))
    · refine Ev.eq (ev_andV (ev_isi (ev_var rfl) rfl) (fun _ => ev_andV (ev_eqDO (ev_fld (ev_var rfl) rfl) (ev_fld (ev_var rfl) rfl) RNS eqvQ (flat_Q ts) (flat_Q us) (eqvQ_ok ts us)) (fun _ => ev_ownQ (ev_fld (ev_var rfl) rfl) (ev_fld (ev_var rfl) rfl) sr_Req_r))) ?_
      rw [eqT_dic, q_eq]
      rfl
    · exact ⟨hk⟩
  · show Stp (gRet _ _ [.sh (frm c ts), .sh y])
    with_reducible apply s_ret (d := .bl false)
    · cases y with
      | ins a b c => exact absurd rfl (hn a b c)
      | bag => cases ay
      | clo o => cases ay
      | _ => exact Ev.eq (ev_andV (b := false) (ev_isi (ev_var rfl) ay) (fun h => ev_absB (by cases h))) rfl
    · exact ⟨hk⟩
theorem sr_Feq {c d : Rat} {ts us : List (Str × Rat)} : SR s_Feq [frm c ts, frm d us] (.bl (eqT ts us && decide (c = d))) := .mk fun k e q => ⟨c, ts, _, rfl, .inl ⟨d, us, rfl, q⟩⟩
theorem sr_FeqO {c : Rat} {ts : List (Str × Rat)} {y : D} (a : askD CLS y = true) (h : ∀ a b c, y ≠ .ins a b c) : SR s_Feq [frm c ts, y] (.bl false) := .mk fun k e q => ⟨c, ts, _, rfl, .inr ⟨a, h, q⟩⟩
theorem nameB_len {x : Str} (h : nameB x = true) : x.length ≤ 6 := by
  unfold nameB at h
  simp only [Bool.and_eq_true, decide_eq_true_eq] at h
  omega
theorem q_Finit {l : List (Str × D)} {z : D} {q : Rat} (hn : (l.map (·.1)).Nodup) (hl : l.length < 64) (hp : ∀ p ∈ l, nameB p.1 = true ∧ isPQ p.2 (partQ p.2)) (hz : isPQ z q) : SRI s_Finit "Form" [dicS l, z] FNS [ratQ q, dicQ (termsQ l)] := .mk fun k e w => ⟨rfl, rfl, rfl, _, z, l, rfl, .inl rfl, hn, hl, fun p h => ⟨by have := nameB_len (hp p h).1; omega, (okV_isPQ (hp p h).2).1⟩, (okV_isPQ hz).1, (fun pre n suf X e1 _ e3 => by
  have hm : n ∈ l.map (·.1) := sort_mem.mp (by rw [e1]; exact List.mem_append_right _ List.mem_cons_self)
  obtain ⟨h1, h2⟩ := hp _ (valS_mem hm)
  rw [badT_of h1 (okV_isPQ h2).2] at e3; cases e3), fun _ => ⟨(fun b => by rw [(okV_isPQ hz).2] at b; cases b), fun q2 h2 => by rw [← h2.part, hz.part]; exact w⟩⟩
def s_Fof : GS := fun ds k e => ∃ y : D, ds = [y] ∧ askD CLS y = true ∧ (∀ a b c, y ≠ .ins a b c) ∧ (∀ x, y = .str x → x.length ≤ 1000000) ∧ (nameD y = false → e (errX "InvalidName" "InvalidName" ["name"] [y])) ∧ (∀ x, y = .str x → nameB x = true → k (frm 0 (termsQ [(x, .int 1)])))
theorem mn_Fof : MnS s_Fof := fun ds k k' e e' h1 h2 ⟨y, g, g1, g2, g3, w1, w2⟩ => ⟨y, g, g1, g2, g3, fun a => h2 _ (w1 a), fun x a b => h1 _ (w2 x a b)⟩
theorem sr_nameA {y : D} (a : askD CLS y = true) (h : ∀ x, y = .str x → x.length ≤ 1000000) : SR s_name [y] (.bl (nameD y)) := .mk fun k e q => ⟨_, rfl, a, h, q⟩
theorem ok_Form_of (F : Facts K mg) : FnOk P w K mg base (L2.CX P w) 10 (smA K "Form" "of") (fdOf K (smA K "Form" "of")) ["name"] (lift K s_Fof) := by
  refine okD F.d_Form_of sc_Form_of (fun ds k e h => by obtain ⟨_, rfl, _⟩ := h; rfl) fun cdv A outer s0 H E b eo hr Z => ⟨_, dss_cons (ds_if (db_not (db_val (DE.dt (de_ca (fc_is_name_1 F) mn_name (hr.mono (by decide)) F.g_is_name F.d_is_name.kp cz_none (dca_pos (da_cons (de_var 0) (da_nil))))))) (dss_one (ds_raise (takes_of rfl rfl rfl rfl) Z rfl F.e_InvalidName (ok_InvalidName_init F) (hr.mono (by decide)) (bi_InvalidName_init F) .nil (fun _ _ => Reps.nil) (passes_call (takes_of rfl rfl rfl rfl) fun _ _ _ _ z => z.elim) rfl F.g_InvalidName (da_cons (de_var 0) (da_nil)))) (dss_nil))
    (dss_one (ds_ret (DE.dt (de_mk F.k_Form (fc_Form_init_1 F) (shpI_mn mn_Finit) (hr.mono (by decide)) F.g_Form Z (dca_pos (da_cons (de_disp (dps_cons (de_var 0) (de_int) (dps_nil))) (da_nil))))))), fun ds k h => ?_⟩
  obtain ⟨y, rfl, ay, ni, hl, hE, hK⟩ := h
  suffices z : Stp _ from z.run
  show Stp (gSeq _ _ _ [.sh y])
  cases c : nameD y with
  | false =>
    refine s_ifT (evt_not (evt_B (ev_ca (eva_cons (ev_var rfl) eva_nil) (sr_nameA ay hl)))) (by rw [c]; rfl) ?_
    (first | (with_reducible show Stp _) | refine Stp.run ?_); (try with_reducible refine nx_mk ?_); (with_reducible first | apply s_raise | apply s_raiseS); (focus ((repeat' first | ((with_reducible apply ev_var); exact rfl) | with_reducible exact ev_c | with_reducible apply ev_repF | with_reducible apply ev_repT | with_reducible apply ev_g2 | with_reducible apply ev_g1 | with_reducible apply eva_cons | with_reducible apply ev_tup | with_reducible apply ev_lst | with_reducible apply evt_B | with_reducible apply evt_and | with_reducible apply evt_or | with_reducible apply evt_not | with_reducible apply ev_if | with_reducible apply ev_isi | with_reducible apply ev_isN | with_reducible apply ev_fld | with_reducible apply ev_ca | with_reducible apply ev_mc | with_reducible apply ev_ci | with_reducible apply ev_con | with_reducible apply ev_mk | with_reducible apply ev_own1 | with_reducible apply ev_own2 | with_reducible apply ev_ownR | with_reducible apply ev_ownQ | with_reducible apply ev_ownN | with_reducible apply ev_ownE | with_reducible apply ev_ownEN | with_reducible apply ev_ownS | with_reducible apply ev_ownB | with_reducible apply ev_join | with_reducible apply ev_js | with_reducible apply ev_fmt | with_reducible apply ev_sl | with_reducible apply ev_andV | with_reducible apply ev_orV | with_reducible apply ev_notV | with_reducible apply ev_chain | with_reducible apply ev_cl | with_reducible apply eva_app | with_reducible apply eva_star | with_reducible apply eva_star1 | with_reducible apply evp_part | with_reducible apply evi_it | with_reducible apply evi_LL | with_reducible apply evi_TT | with_reducible apply evi_S | with_reducible apply evi_rng | with_reducible apply evi_rng2 | with_reducible apply evi_zip | with_reducible apply evi_en | with_reducible apply ev_tm | with_reducible apply ot_split | with_reducible apply ot_part | with_reducible apply o_intS | with_reducible apply o_ixS | with_reducible apply o_inL | with_reducible apply o_inTu | with_reducible apply o_inT | with_reducible apply o_pow | with_reducible apply o_rev | with_reducible apply o_strI | with_reducible apply ev_ls | with_reducible apply o_ninTu | with_reducible apply o_ixTI | with_reducible apply sr_shp | with_reducible apply sri_shp | with_reducible apply sr_same | with_reducible apply ow2_own | with_reducible apply ow2_int | with_reducible apply fm_S | with_reducible apply fm_I | with_reducible apply sl_S | with_reducible apply aev1 | with_reducible apply aev2 | with_reducible apply aev3 | with_reducible apply aevf1 | with_reducible apply aevf2 | with_reducible apply aevf3 | with_reducible exact eva_nil | with_reducible exact evt_yes | with_reducible exact evp_no | with_reducible exact ev_jsN | with_reducible exact itr_L | with_reducible exact itr_T | with_reducible exact sl_L | with_reducible exact sl_T | with_reducible exact jn_eq | with_reducible exact jn_int | with_reducible exact jn_str | with_reducible exact jn_bl | with_reducible exact jn_tup | with_reducible exact jn_lst | with_reducible exact jn_any | with_reducible exact o_eqI | with_reducible exact o_neI | with_reducible exact o_eqS | with_reducible exact o_neS | with_reducible exact o_eqB | with_reducible exact o_neB | with_reducible exact o_all | with_reducible exact o_eqT2 | with_reducible exact o_neT2 | with_reducible exact o_inS | with_reducible exact o_ninS | with_reducible exact o_eqL | with_reducible exact o_eqTu | with_reducible exact o_max2 | with_reducible exact o_tup | with_reducible exact o_tup2 | with_reducible exact o_lst | with_reducible exact o_lst2 | ((with_reducible apply ev_varT); exact rfl) | ((with_reducible apply ev_varO); exact rfl) | ((with_reducible apply o2_i); exact fun _ q => q) | ((with_reducible apply o2_i); refine fun _ zq_ => ⟨?_, zq_⟩) | ((with_reducible apply o1_i); exact fun _ q => q) | ((with_reducible apply o1_i); refine fun _ zq_ => ⟨?_, zq_⟩) | ((with_reducible apply on_i); exact fun _ q => q) | ((with_reducible apply on_i); refine fun _ zq_ => ⟨?_, zq_⟩) | ((with_reducible apply fi_i); exact rfl) | ((with_reducible apply pk_i); exact rfl) | exact pairs_ints _ _ | ((with_reducible apply mp_i); exact rfl) | with_reducible apply ev_lc | with_reducible apply ev_lcF | with_reducible apply sr_gcd | with_reducible apply sr_low | with_reducible apply sr_is_number | with_reducible apply sri_Rinit | with_reducible apply sr_name | with_reducible apply sr_pair | with_reducible apply sr_Req_r | with_reducible apply sr_Req_i | with_reducible apply sr_Req_o | with_reducible apply sr_Fterms | with_reducible apply sr_Fnames | with_reducible apply sr_sameL | with_reducible apply sr_Ffac | with_reducible apply sr_Feq | with_reducible apply sr_FeqO | with_reducible intro _) <;> (try (show (_ : Prop); (fail_if_success (with_reducible show Ev _ _ _)); first | ((with_reducible apply sle); first | (simp only [str_len2]; omega) | with_reducible assumption | omega | decide) | ((fail_if_success (with_reducible apply sle)); first | assumption | ((with_reducible refine And.intro ?_ ?_) <;> omega) | ((fail_if_success (with_reducible refine And.intro ?_ ?_)); first | rfl | exact List.cons_ne_nil _ _ | exact Nat.le_of_ble_eq_true rfl | decide | omega | exact MulOk.right (by omega) | exact MulOk.left (by omega) | exact MulOk.of (by assumption) (by assumption) (by decide) | exact Sz.mono (by assumption) (by decide) | exact szLog (by assumption) | exact szLog (Sms.get (by assumption) (by assumption)) | exact szW (by decide) | (simp only [List.length_map, List.length_cons, List.length_nil, List.length_append, List.length_reverse]; omega))))))); (try exact rfl); (try exact Nat.le_of_ble_eq_true rfl)
    exact ⟨hE c⟩
  | true =>
    refine s_ifFN (evt_not (evt_B (ev_ca (eva_cons (ev_var rfl) eva_nil) (sr_nameA ay hl)))) (by rw [c]; rfl) ?_
    cases y with
    | str x =>
      with_reducible apply s_ret (d := frm 0 (termsQ [(x, .int 1)]))
      · refine ev_mk (eva_cons (ev_disp (l := [(.inr x, .int 1)]) (evpr_cons rfl (ev_var rfl) ev_c evpr_nil) (Nat.le_of_ble_eq_true rfl)) eva_nil) (sri_shp (es := [dicS [(x, .int 1)], .int 0]) (q_Finit (l := [(x, .int 1)]) (q := 0) (List.pairwise_singleton _ _) (Nat.le_of_ble_eq_true rfl) (fun p hp => ?_) (.inr ⟨0, rfl, rfl⟩)) rfl rfl)
        rw [List.mem_singleton.mp hp]
        exact ⟨c, .inr ⟨1, rfl, rfl⟩⟩
      · exact ⟨hK x rfl c⟩
    | bag => cases ay
    | clo o => cases ay
    | exc _ _ _ => cases ay
    | ins a b d => exact absurd rfl (ni a b d)
    | _ => cases c
theorem sr_Fof {x : Str} (h : nameB x = true) : SR s_Fof [.str x] (frm 0 (termsQ [(x, .int 1)])) := .mk fun k e q => ⟨_, rfl, rfl, (fun a b c h => by cases h), (fun y e => by cases e; have := nameB_len h; omega), (fun n => by rw [show nameD (.str x) = nameB x from rfl, h] at n; cases n), fun y e _ => by cases e; exact q⟩
theorem fc_Form_of_1 (F : Facts K mg) : FnC P w K mg base 10 (smA K "Form" "of") [] (lift K s_Fof) := FnOk.c0 (ok_Form_of F) (F.d_Form_of.bindsN fun _ _ _ _ _ _ us hl => match us, hl with | [_], _ => rfl)
def s_Radd : GS := fun ds k _ => ∃ p q y r s, ds = [rat p q, y] ∧ isP y r s ∧ q ≠ 0 ∧ s ≠ 0 ∧ Sz 1000 p ∧ Sz 1000 q ∧ Sz 1000 r ∧ Sz 1000 s ∧ k (ratP (lowP (p * s + r * q) (q * s)))
theorem mn_Radd : MnS s_Radd := fun ds k k' e e' h1 _ ⟨p, q, y, r, s, h, g1, g2, g3, g4, g5, g6, g7, z⟩ => ⟨p, q, y, r, s, h, g1, g2, g3, g4, g5, g6, g7, h1 _ z⟩
theorem ok_Ratio_add (F : Facts K mg) : FnOk P w K mg base (L2.CX P w) 6 (He.ma K (He.ga K "Ratio") "__add__") (fdOf K (He.ma K (He.ga K "Ratio") "__add__")) ["self", "other"] (lift K s_Radd) := by
  refine okD F.d_Ratio_add sc_Ratio_add (fun ds k e h => by obtain ⟨p, q, y, r, s, rfl, _⟩ := h; rfl) fun cdv A outer s0 H E b eo hr Z => ⟨_, dss_cons (ds_if (db_not (db_val (DE.dt (de_ca (fc_is_part_1 F) mn_is_part (hr.mono (by decide)) F.g_is_part F.d_is_part.kp cz_none (dca_pos (da_cons (de_var 1) (da_nil))))))) (dss_never) (dss_nil))
    (dss_cons (ds_asg (i := 2) sc_Ratio_add.nd rfl (.inl rfl) (de_ca (fc_ratio_of_1 F) mn_ratio_of (hr.mono (by decide)) F.g_ratio_of F.d_ratio_of.kp Z (dca_pos (da_cons (de_var 1) (da_nil)))))
    (dss_one (ds_ret (DE.dt (de_mk F.k_Ratio (fc_Ratio_init_2 F) (shpI_mn mn_Rinit) (hr.mono (by decide)) F.g_Ratio Z (dca_pos (da_cons (de_addB (de_mulA (DE.dt (de_fld (c := "Ratio") (NS := ["top", "bottom"]) (i := 0) (de_var 0) F.c_Ratio F.a_Ratio_top (by decide))) (DE.dt (de_fld (c := "Ratio") (NS := ["top", "bottom"]) (i := 1) (de_var 2) F.c_Ratio F.a_Ratio_bottom (by decide)))) (de_mulA (DE.dt (de_fld (c := "Ratio") (NS := ["top", "bottom"]) (i := 0) (de_var 2) F.c_Ratio F.a_Ratio_top (by decide))) (DE.dt (de_fld (c := "Ratio") (NS := ["top", "bottom"]) (i := 1) (de_var 0) F.c_Ratio F.a_Ratio_bottom (by decide))))) (da_cons (de_mulA (DE.dt (de_fld (c := "Ratio") (NS := ["top", "bottom"]) (i := 1) (de_var 0) F.c_Ratio F.a_Ratio_bottom (by decide))) (DE.dt (de_fld (c := "Ratio") (NS := ["top", "bottom"]) (i := 1) (de_var 2) F.c_Ratio F.a_Ratio_bottom (by decide)))) (da_nil))))))))), fun ds k h => ?_⟩
  obtain ⟨p, q, y, r, s, rfl, hy, hq, hs, zp, zq, zr, zs, hk⟩ := h
  have ay : askD CLS y = true := by rcases hy with rfl | ⟨rfl, _⟩ <;> first | exact ask_rat _ _ | rfl
  have cy : ∀ c ns xs, y = .ins c ns xs → c = "Ratio" := fun c ns xs e => by
    rcases hy with rfl | ⟨rfl, _⟩
    · cases e; rfl
    · cases e
  have py : partB y = true := by rcases hy with rfl | ⟨rfl, _⟩ <;> rfl
  refine ⟨y, rfl, ay, fun c ns xs e => .inl (cy c ns xs e), ?_⟩
  rw [py]
  refine ratio_ofP hy ?_
  have m : ∀ {a c : Int}, Sz 1000 a → Sz 1000 c → MulOk a c := fun ha hc => MulOk.of ha hc (by decide)
  have hqs : q * s ≠ 0 := Int.mul_ne_zero hq hs
  have zqs : Sz 4000 (q * s) := (zq.mul zs).mono (by decide)
  exact ⟨rfl, rfl, rfl, rfl, m zp zs, rfl, rfl, rfl, rfl, m zr zq, rfl, rfl, rfl, rfl, m zq zs, rfl, Rinit_ok hqs zqs hk⟩
theorem sr_Radd_r {p q r s : Int} (hq : q ≠ 0) (hs : s ≠ 0) (zp : Sz 1000 p) (zq : Sz 1000 q) (zr : Sz 1000 r) (zs : Sz 1000 s) : SR s_Radd [rat p q, rat r s] (ratP (lowP (p * s + r * q) (q * s))) := .mk fun k e z => ⟨p, q, _, r, s, rfl, .inl rfl, hq, hs, zp, zq, zr, zs, z⟩
theorem sr_Radd_i {p q r : Int} (hq : q ≠ 0) (zp : Sz 1000 p) (zq : Sz 1000 q) (zr : Sz 1000 r) : SR s_Radd [rat p q, .int r] (ratP (lowP (p * 1 + r * q) (q * 1))) := .mk fun k e z => ⟨p, q, _, r, 1, rfl, .inr ⟨rfl, rfl⟩, hq, by decide, zp, zq, zr, szW (by decide), z⟩
theorem hB_field (F : Facts K mg) (a : Addr) (oe : Obj) (cls : Value) (d : Option Addr) (hz : Zc cls d oe) (hf : ∃ vs, oe.data = .fields vs) (cdv : Value) (A : Around) (outer : List Env) (s : Shared) (H : Hp) (E : XK) :
    PSs (L2H.cxH C8.CX0 P w K mg base ["_law_e"] "_law_field" (defScope (top 31)) (He.ga K "_law_field") cdv A outer s H E (a, oe)) (defBody (top 31)) (tField K a cls d) := by
  have h : ∃ t, PSs (L2H.cxH C8.CX0 P w K mg base ["_law_e"] "_law_field" (defScope (top 31)) (He.ga K "_law_field") cdv A outer s H E (a, oe)) (defBody (top 31)) t ∧ t = tField K a cls d := ⟨_, (pss_cons (ps_if (pt_cmpR op_in_seq (pe_xfA (a := a) (oe := oe) List.mem_cons_self hz hf (pe_var (i := 0) rfl (by first | exact Or.inl rfl | exact Or.inr (Or.inl rfl) | exact Or.inr (Or.inr rfl)))) (pe_tup (pa_cons pe_str (pa_cons pe_str (pa_cons pe_str (pa_cons pe_str pa_nil))))) rfl) (pss_one (ps_ret (pe_tup (pa_cons (pe_xfA (a := a) (oe := oe) List.mem_cons_self hz hf (pe_var (i := 0) rfl (by first | exact Or.inl rfl | exact Or.inr (Or.inl rfl) | exact Or.inr (Or.inr rfl)))) pa_nil)))) pss_nil) (pss_cons (ps_if (pt_cmpR op_in_seq (pe_xfA (a := a) (oe := oe) List.mem_cons_self hz hf (pe_var (i := 0) rfl (by first | exact Or.inl rfl | exact Or.inr (Or.inl rfl) | exact Or.inr (Or.inr rfl)))) (pe_tup (pa_cons pe_str (pa_cons pe_str (pa_cons pe_str (pa_cons pe_str (pa_cons pe_str (pa_cons pe_str pa_nil))))))) rfl) (pss_one (ps_ret (pe_tup (pa_cons (pe_xfA (a := a) (oe := oe) List.mem_cons_self hz hf (pe_var (i := 0) rfl (by first | exact Or.inl rfl | exact Or.inr (Or.inl rfl) | exact Or.inr (Or.inr rfl)))) pa_nil)))) pss_nil) (pss_cons (ps_if (pt_cmpR op_in_seq (pe_xfA (a := a) (oe := oe) List.mem_cons_self hz hf (pe_var (i := 0) rfl (by first | exact Or.inl rfl | exact Or.inr (Or.inl rfl) | exact Or.inr (Or.inr rfl)))) (pe_tup (pa_cons pe_str (pa_cons pe_str (pa_cons pe_str (pa_cons pe_str pa_nil))))) rfl) (pss_one (ps_ret (pe_tup (pa_cons (pe_xfA (a := a) (oe := oe) List.mem_cons_self hz hf (pe_var (i := 0) rfl (by first | exact Or.inl rfl | exact Or.inr (Or.inl rfl) | exact Or.inr (Or.inr rfl)))) pa_nil)))) pss_nil) (pss_cons (ps_if (pt_cmpR op_in_seq (pe_xfA (a := a) (oe := oe) List.mem_cons_self hz hf (pe_var (i := 0) rfl (by first | exact Or.inl rfl | exact Or.inr (Or.inl rfl) | exact Or.inr (Or.inr rfl)))) (pe_tup (pa_cons pe_str (pa_cons pe_str pa_nil))) rfl) (pss_one (ps_ret (pe_tup (pa_cons (pe_xfA (a := a) (oe := oe) List.mem_cons_self hz hf (pe_var (i := 0) rfl (by first | exact Or.inl rfl | exact Or.inr (Or.inl rfl) | exact Or.inr (Or.inr rfl)))) pa_nil)))) pss_nil) (pss_cons (ps_if (pt_cmpR op_eq (pe_xfA (a := a) (oe := oe) List.mem_cons_self hz hf (pe_var (i := 0) rfl (by first | exact Or.inl rfl | exact Or.inr (Or.inl rfl) | exact Or.inr (Or.inr rfl)))) pe_str rfl) (pss_one (ps_ret (pe_tup (pa_cons (pe_xfA (a := a) (oe := oe) List.mem_cons_self hz hf (pe_var (i := 0) rfl (by first | exact Or.inl rfl | exact Or.inr (Or.inl rfl) | exact Or.inr (Or.inr rfl)))) (pa_cons (pe_xfA (a := a) (oe := oe) List.mem_cons_self hz hf (pe_var (i := 0) rfl (by first | exact Or.inl rfl | exact Or.inr (Or.inl rfl) | exact Or.inr (Or.inr rfl)))) pa_nil))))) pss_nil) (pss_cons (ps_if (pt_cmpR op_eq (pe_xfA (a := a) (oe := oe) List.mem_cons_self hz hf (pe_var (i := 0) rfl (by first | exact Or.inl rfl | exact Or.inr (Or.inl rfl) | exact Or.inr (Or.inr rfl)))) pe_str rfl) (pss_one (ps_ret (pe_tup (pa_cons (pe_xfA (a := a) (oe := oe) List.mem_cons_self hz hf (pe_var (i := 0) rfl (by first | exact Or.inl rfl | exact Or.inr (Or.inl rfl) | exact Or.inr (Or.inr rfl)))) (pa_cons (pe_xfA (a := a) (oe := oe) List.mem_cons_self hz hf (pe_var (i := 0) rfl (by first | exact Or.inl rfl | exact Or.inr (Or.inl rfl) | exact Or.inr (Or.inr rfl)))) pa_nil))))) pss_nil) (pss_cons (ps_if (pt_cmpR op_eq (pe_xfA (a := a) (oe := oe) List.mem_cons_self hz hf (pe_var (i := 0) rfl (by first | exact Or.inl rfl | exact Or.inr (Or.inl rfl) | exact Or.inr (Or.inr rfl)))) pe_str rfl) (pss_one (ps_ret (pe_tup (pa_cons (pe_xfA (a := a) (oe := oe) List.mem_cons_self hz hf (pe_var (i := 0) rfl (by first | exact Or.inl rfl | exact Or.inr (Or.inl rfl) | exact Or.inr (Or.inr rfl)))) pa_nil)))) pss_nil) (pss_one (ps_ret (pe_ifExp (pt_cmpR op_eq (pe_xfA (a := a) (oe := oe) List.mem_cons_self hz hf (pe_var (i := 0) rfl (by first | exact Or.inl rfl | exact Or.inr (Or.inl rfl) | exact Or.inr (Or.inr rfl)))) pe_str rfl) (pe_tup (pa_cons (pe_xfA (a := a) (oe := oe) List.mem_cons_self hz hf (pe_var (i := 0) rfl (by first | exact Or.inl rfl | exact Or.inr (Or.inl rfl) | exact Or.inr (Or.inr rfl)))) pa_nil)) (pe_tup pa_nil))))))))))), rfl⟩
  obtain ⟨t, h1, rfl⟩ := h
  exact h1
theorem wb__law_whys (F : Facts K mg) : WhysB P w K mg base "_law_whys" "_law_why" "_law_ask" (He.ga K "_law_whys") (defBody (top 33)) (defScope (top 33)) ["_law_asks", "_law_found", "_law_ask", "_law_why_here"] := by
  intro cdv A outer s H E b An hr mA hAn
  refine ⟨_, dss_cons (ds_asgO (i := 1) sc__law_whys.nd rfl (.inl rfl) (da_nil))
    (dss_cons (ds_for (passes_of rfl) rfl (di_seq (de_var 0)) (dg_name (i := 2) sc__law_whys.nd rfl (.inl rfl)) (dss_cons (ds_asg (i := 3) sc__law_whys.nd rfl (.inl rfl) (hAn))
    (dss_one (ds_app (i := 1) rfl (by first | exact Or.inl rfl | exact Or.inr (Or.inl rfl) | exact Or.inr (Or.inr rfl)) (de_if (db_eqA hr (DE.dt (de_ix (de_var 3) (DE.dt (de_int)))) (DE.dt (de_str))) (de_str) (de_var 3))))))
    (dss_one (ds_ret (dt_var 1)))), fun os k hl h => ?_⟩
  have key : ∀ (os : List LamO) (acc : List D) (D' : EndD) (x w1 w2 : SD), acc.length + os.length ≤ 1000 → (∀ acc w1 w2, k (.lst acc) → D'.nx [x, .own acc, w1, w2]) → ansL An os acc k →
      forD (.nm 2) (gSeq (gAsg 3 (gAns 2 An)) (gPsh 1 (gIf (gB (g2 (dEqA false) (g2 dIx (gVar 3) (gC (D.int 0))) (gC (D.str "told")))) (gC (D.str "told")) (gVar 3)))) (os.map .clo) D' [x, .own acc, w1, w2] := by
    intro os
    induction os with
    | nil => exact fun acc D' x w1 w2 _ q h => q _ _ _ h
    | cons o r ih =>
      intro acc D' x w1 w2 hl q h
      rw [List.length_cons] at hl
      refine mA o _ _ (fun c y z => ?_) h
      show dEqA false (.str c) (.str "told") fun d => match d with
        | .bl x1 => (match x1 with | true => _ | false => _)
        | _ => False
      refine dEqA_s ?_
      unfold tellO at z
      show match (c == "told") with | true => _ | false => _
      cases e : (c == ("told" : Str)) with
      | true =>
        rw [e] at z
        exact ⟨by omega, ih _ _ _ _ _ (by rw [List.length_append, List.length_singleton]; omega) q z⟩
      | false =>
        rw [e] at z
        exact ⟨by omega, ih _ _ _ _ _ (by rw [List.length_append, List.length_singleton]; omega) q z⟩
  exact ⟨by show 0 ≤ 1000; decide, key os [] _ _ _ _ (by simpa using hl) (fun acc w1 w2 z => z) h⟩
end LK
/-! DM4 -/
set_option Elab.async false
set_option linter.all false
set_option maxRecDepth 100000
set_option maxHeartbeats 4000000
/-! More steps for the reading of a law. -/
namespace DL
open PySem PySem.Spec PyProof.Rows L2
variable [TabC]
section
variable {σ : StD} {k : D → Prop} {i j : Int} {ge : GE} {gl gh : StD → (Option Int → Prop) → Prop}
theorem c_pow (h1 : 0 ≤ j) (h2 : j ≤ 1000000) (h3 : i.natAbs < 2 ^ 64) (h : Stp (k (.int (i ^ j.toNat)))) : Stp (dPow (.int i) (.int j) k) := ⟨⟨⟨h1, h2, h3⟩, h.run⟩⟩
theorem Sms.get {n : Nat} {x : Int} {l : List Int} (h : Sms n l) (m : x ∈ l) : Sz n x := h x m
theorem o_eqL {l m : List Int} : O2 (dEqA false) (.lst (dints l)) (.lst (dints m)) (.bl (l == m)) := .mk fun k q => dEqA_lints q
theorem o_eqTu {l m : List Int} : O2 (dEqA false) (.tup (dints l)) (.tup (dints m)) (.bl (l == m)) := .mk fun k q => dEqA_tints q
end
end DL
/-! K31L -/
set_option Elab.async false
set_option linter.all false
set_option maxRecDepth 100000
set_option maxHeartbeats 0
namespace LK
open PySem PySem.Spec PyProof.Rows L2 DL
variable [TabC]
variable {P : Program} {w : World} {K : Fg} {mg : Str → Option Value} {base : Heap}
theorem c_lnamesV {n : Nat} {k : D → Prop} {e : XD → Prop} (h : n ≤ 26) (q : ∀ xs : List Str, xs.length = n → (∀ x ∈ xs, nameB x = true) → xs.Nodup → (∀ x ∈ xs, vwN x ≤ 1) → Stp (k (.lst (xs.map .str)))) : Stp (s_lnames [.bag, .int n] k e) := ⟨⟨n, rfl, h, fun xs a b c d => (q xs a b c d).run⟩⟩
theorem q_low {a b : Int} (h : b ≠ 0) (ha : Sz 3990 a) (hb : Sz 3990 b) : SR s_low [.int a, .int b] (pairQ (Rat.divInt a b)) := (sr_low h ha hb).eq (by rw [low_div h])
theorem q_ratio {a b : Int} (h : b ≠ 0) (hb : Sz 4000 b) : SRI s_Rinit "Ratio" [.int a, .int b] RNS [.int (Rat.divInt a b).num, .int ((Rat.divInt a b).den : Int)] := by
  have := sri_Rinit (t := a) h hb
  rwa [low_div h] at this
theorem q_ratioQ (x : Rat) {n : Nat} (h : QZ n x) (hn : n ≤ 4000) : SRI s_Rinit "Ratio" [.int x.num, .int (x.den : Int)] RNS [.int x.num, .int (x.den : Int)] := by
  have := q_ratio (a := x.num) (den_ne x) (h.2.mono hn)
  rwa [Rat.num_divInt_den] at this
theorem first_uniq {α : Type} {P : α → Prop} : ∀ {pre pre2 : List α} {x y : α} {suf suf2 : List α}, pre ++ x :: suf = pre2 ++ y :: suf2 → (∀ p ∈ pre, P p) → (∀ p ∈ pre2, P p) → ¬ P x → ¬ P y → x = y
  | [], [], x, y, suf, suf2, e, _, _, _, _ => (List.cons.inj e).1
  | [], q :: r, x, y, suf, suf2, e, _, h2, hx, _ => absurd (h2 q List.mem_cons_self) (by rw [← (List.cons.inj e).1]; exact hx)
  | p :: r, [], x, y, suf, suf2, e, h1, _, _, hy => absurd (h1 p List.mem_cons_self) (by rw [(List.cons.inj e).1]; exact hy)
  | p :: r, q :: r2, x, y, suf, suf2, e, h1, h2, hx, hy => first_uniq (List.cons.inj e).2 (fun z hz => h1 z (List.mem_cons_of_mem _ hz)) (fun z hz => h2 z (List.mem_cons_of_mem _ hz)) hx hy
theorem valS_fun {f : Str → D} {xs : List Str} {n : Str} (h : n ∈ xs) : valS (xs.map fun x => (x, f x)) n = f n := by
  have := valS_mem (l := xs.map fun x => (x, f x)) (n := n) (by rw [List.map_map]; exact List.mem_map.mpr ⟨n, h, rfl⟩)
  obtain ⟨m, _, e⟩ := List.mem_map.mp this
  have e1 : m = n := congrArg Prod.fst e
  have e2 : f m = valS (xs.map fun x => (x, f x)) n := congrArg Prod.snd e
  rw [← e2, e1]
theorem o_ixS0 {l : List Str} {y : Str} {r : List Str} (e : l = y :: r) : O2 dIx (.lst (l.map .str)) (.int 0) (.str y) := by
  subst e
  exact .mk fun k q => by
    show match atI (D.str y :: r.map D.str) 0 with | some d => k d | none => False
    rw [atI_zero]; exact q
theorem o_ix20 {x y : D} : O2 dIx (.tup [x, y]) (.int 0) x := .mk fun k q => q
theorem o_ix21 {x y : D} : O2 dIx (.tup [x, y]) (.int 1) y := .mk fun k q => q
theorem keys_fun {α : Type} (f : Str → α) (xs : List Str) : (xs.map fun x => (x, f x)).map (·.1) = xs := by rw [List.map_map]; exact List.map_id' _
theorem QZ.sum {a : Nat} : ∀ {l : List Rat}, (∀ x ∈ l, QZ a x) → QZ (1 + l.length * (a + 1)) (sumQ l)
  | [], _ => (show QZ 1 0 from ⟨szW (by decide), szW (by decide)⟩).mono (Nat.le_add_right _ _)
  | x :: r, h => by
    rw [sumQ_cons, List.length_cons]
    refine ((h x List.mem_cons_self).add (QZ.sum fun y hy => h y (List.mem_cons_of_mem _ hy))).mono ?_
    rw [Nat.add_mul]; omega
theorem num0 {x : Rat} : (x.num == 0) = decide (x = 0) := by
  by_cases h : x = 0
  · subst h; rfl
  · rw [decide_eq_false h]
    exact beq_eq_false_iff_ne.mpr fun e => h (Rat.num_eq_zero.mp e)
theorem isPQ_int (n : Int) : isPQ (.int n) (n : Rat) := .inr ⟨n, rfl, rfl⟩
theorem isPQ_rat (x : Rat) : isPQ (ratQ x) x := .inl rfl
theorem sortStr_nil : sortStr [] = [] := by simp [sortStr]
theorem q_FinitN {z : D} {q : Rat} (hz : isPQ z q) : SRI s_Finit "Form" [.non, z] FNS [ratQ q, dicQ []] := .mk fun k e w => ⟨rfl, rfl, rfl, _, z, [], rfl, .inr (.inr ⟨rfl, rfl⟩), List.nodup_nil, by decide, (fun p h => by cases h), (okV_isPQ hz).1, fun pre n suf X e1 _ _ => (by
  have e1 : sortStr [] = pre ++ n :: suf := e1
  rw [sortStr_nil] at e1
  cases pre <;> cases e1), fun _ => ⟨(fun b => by rw [(okV_isPQ hz).2] at b; cases b), fun q2 h2 => by
  have : termsQ [] = [] := by unfold termsQ; simp [sortStr]
  rw [this, ← h2.part, hz.part]; exact w⟩⟩
theorem fa2_pairs {ds ys : List D} {xs : List Str} (e : ds = xs.map .str) (h : Fa2 (fun d y => ∃ x : Rat, QZ 5 x ∧ y = .tup [d, pairQ x]) ds ys) : ∃ l : List (Str × Rat), ys = (l.map fun p => (p.1, pairQ p.2)).map (fun p => .tup [.str p.1, p.2]) ∧ l.map (·.1) = xs ∧ ∀ p ∈ l, QZ 5 p.2 := by
  induction h generalizing xs with
  | nil =>
    have : xs = [] := (List.map_eq_nil_iff.mp e.symm)
    subst this
    exact ⟨[], rfl, rfl, fun p hp => by cases hp⟩
  | cons hx _ ih =>
    cases xs with
    | nil => cases e
    | cons x r =>
      rw [List.map_cons] at e
      obtain ⟨e1, e2⟩ := List.cons.inj e
      subst e1
      obtain ⟨q, hb, rfl⟩ := hx
      obtain ⟨l, rfl, h1, h2⟩ := ih e2
      exact ⟨(x, q) :: l, rfl, by rw [List.map_cons, h1], fun z hz => by
        rcases List.mem_cons.mp hz with rfl | hz
        · exact hb
        · exact h2 z hz⟩
theorem cf_fun {xs : List Str} (f : Str → Rat) {n : Str} (h : n ∈ xs) : cf (xs.map fun x => (x, f x)) n = f n := by
  have := getS_mem (z := (0 : Rat)) (l := xs.map fun x => (x, f x)) (n := n) (by rw [List.map_map]; exact List.mem_map.mpr ⟨n, h, rfl⟩)
  obtain ⟨m, _, e⟩ := List.mem_map.mp this
  have e1 : m = n := congrArg Prod.fst e
  have e2 : f m = cf (xs.map fun x => (x, f x)) n := congrArg Prod.snd e
  rw [← e2, e1]
theorem eqT_self {ts : List (Str × Rat)} (hn : (ts.map (·.1)).Nodup) : eqT ts ts = true := by
  unfold eqT
  rw [Bool.and_eq_true]
  refine ⟨beq_self_eq_true _, List.all_eq_true.mpr fun p hp => ?_⟩
  have : ts.find? (fun q => decide (q.1 = p.1)) = some p := by
    induction ts with
    | nil => cases hp
    | cons t r ih =>
      rw [List.map_cons, List.nodup_cons] at hn
      rcases List.mem_cons.mp hp with rfl | hp
      · exact List.find?_cons_of_pos (by simp)
      · rw [List.find?_cons_of_neg]
        · exact ih hn.2 hp
        · simp only [decide_eq_true_eq]
          intro e
          exact hn.1 (by rw [e]; exact List.mem_map_of_mem hp)
  rw [this]
  exact decide_eq_true rfl
theorem good_strs : ∀ l : List Str, goodLs (l.map D.str) = true
  | [] => rfl
  | x :: r => by
    show (goodL (.str x) && goodLs (r.map D.str)) = true
    rw [good_strs r]; rfl
theorem deps_strs : ∀ l : List Str, deps (l.map D.str) = 0
  | [] => rfl
  | x :: r => by
    show max (dep (.str x)) (deps (r.map D.str)) = 0
    rw [deps_strs r]; rfl
theorem o_addL {a c : List D} (h : a.length + c.length ≤ 1000000) : O2 dAddB (.lst a) (.lst c) (.lst (a ++ c)) := .mk fun k q => ⟨h, q⟩
theorem o_catS' {a b : Str} (h : a.length + b.length ≤ 1000000) : O2 dAddB (.str a) (.str b) (.str (a ++ b)) := .mk fun k q => ⟨h, q⟩
theorem c_asgDN {rd : D → (List (Key × D) → Prop) → Prop} {ga : GE} {i : Nat} {v : GSt} {D' : EndD} {σ : StD} (h : Stp (ga σ fun d => rd d fun l => v D' (put σ i (.owd (l.map (·.1)) (l.map (·.2)))))) : Stp (gSeq (gAsgDN i rd ga) v D' σ) := ⟨h.run⟩
theorem c_dictPO {l : List (Str × D)} {k : List (Key × D) → Prop} (hn : (l.map (·.1)).Nodup) (h : Stp (k (ksS l))) : Stp (dDictPO (.lst (l.map fun p => .tup [.str p.1, p.2])) k) := ⟨by
  show match pairsK (l.map fun p => .tup [.str p.1, p.2]) with | some l => k (mergeP [] l) | none => False
  rw [pairsK_S]
  show k (mergeP [] (ksS l))
  rw [merge_S hn]; exact h.run⟩
theorem fa2_isPQ {f : Str → Rat} {ds ys : List D} {xs : List Str} (e : ds = xs.map .str) (h : Fa2 (fun d y => ∃ (x : Str) (v : D), d = .str x ∧ isPQ v (f x) ∧ y = .tup [d, v]) ds ys) : ∃ m : List (Str × D), ys = m.map (fun p => .tup [.str p.1, p.2]) ∧ m.map (·.1) = xs ∧ ∀ p ∈ m, isPQ p.2 (f p.1) := by
  induction h generalizing xs with
  | nil =>
    have : xs = [] := (List.map_eq_nil_iff.mp e.symm)
    subst this
    exact ⟨[], rfl, rfl, fun p hp => by cases hp⟩
  | cons hx _ ih =>
    cases xs with
    | nil => cases e
    | cons x r =>
      rw [List.map_cons] at e
      obtain ⟨e1, e2⟩ := List.cons.inj e
      subst e1
      obtain ⟨y, v, hy, hb, rfl⟩ := hx
      cases hy
      obtain ⟨l, rfl, h1, h2⟩ := ih e2
      exact ⟨(x, v) :: l, rfl, by rw [List.map_cons, h1], fun z hz => by
        rcases List.mem_cons.mp hz with rfl | hz
        · exact hb
        · exact h2 z hz⟩
theorem termsQ_fun {m : List (Str × D)} {f : Str → Rat} (h : ∀ n ∈ m.map (·.1), partQ (valS m n) = f n) : termsQ m = ((sortStr (m.map (·.1))).filter fun n => decide (f n ≠ 0)).map fun n => (n, f n) := by
  unfold termsQ
  have h2 : ∀ n ∈ sortStr (m.map (·.1)), partQ (valS m n) = f n := fun n hn => h n (sort_mem.mp hn)
  rw [List.filter_congr (q := fun n => decide (f n ≠ 0)) (fun n hn => by rw [h2 n hn])]
  exact List.map_congr_left fun n hn => by rw [h2 n (List.mem_filter.mp hn).1]
theorem q_FinitF {l : List (Str × D)} {z : D} {q : Rat} (hn : (l.map (·.1)).Nodup) (hl : l.length < 64) (hp : ∀ p ∈ l, nameB p.1 = true ∧ isPQ p.2 (partQ p.2)) (hz : isPQ z q) : SRI s_Finit "Form" [frdS l, z] FNS [ratQ q, dicQ (termsQ l)] := .mk fun k e w => ⟨rfl, rfl, rfl, _, z, l, rfl, .inr (.inl rfl), hn, hl, fun p h => ⟨by have := nameB_len (hp p h).1; omega, (okV_isPQ (hp p h).2).1⟩, (okV_isPQ hz).1, (fun pre n suf X e1 _ e3 => by
  have hm : n ∈ l.map (·.1) := sort_mem.mp (by rw [e1]; exact List.mem_append_right _ List.mem_cons_self)
  obtain ⟨h1, h2⟩ := hp _ (valS_mem hm)
  rw [badT_of h1 (okV_isPQ h2).2] at e3; cases e3), fun _ => ⟨(fun b => by rw [(okV_isPQ hz).2] at b; cases b), fun q2 h2 => by rw [← h2.part, hz.part]; exact w⟩⟩
theorem sxi_Finit {l : List (Str × D)} {z : D} {X : XD} {pre suf : List Str} {n : Str} (hn : (l.map (·.1)).Nodup) (hl : l.length < 64) (hp : ∀ p ∈ l, p.1.length ≤ 1000000 ∧ okV p.2) (hz : okV z) (e1 : sortStr (l.map (·.1)) = pre ++ n :: suf) (hpre : ∀ m ∈ pre, badT l m = none) (hb : badT l n = some X) : SXI s_Finit "Form" [dicS l, z] X := .mk fun k e w => ⟨rfl, rfl, rfl, _, z, l, rfl, .inl rfl, hn, hl, hp, hz, fun pre2 n2 suf2 X2 e2 h2 h3 => by
  have hx : n = n2 := first_uniq (P := fun m => badT l m = none) (e1.symm.trans e2) hpre h2 (by rw [hb]; exact fun h => nomatch h) (by rw [h3]; exact fun h => nomatch h)
  subst hx
  rw [hb] at h3; cases h3; exact w, fun h => by
  have := h n (by rw [e1]; exact List.mem_append_right _ List.mem_cons_self)
  rw [hb] at this; cases this⟩
theorem sxi_FinitZ {z : D} (hz : okV z) (b : partB z = false) : SXI s_Finit "Form" [.non, z] (errX "InvalidNumber" "InvalidNumber" ["given"] [z]) := .mk fun k e w => ⟨rfl, rfl, rfl, _, z, [], rfl, .inr (.inr ⟨rfl, rfl⟩), List.nodup_nil, by decide, (fun p h => by cases h), hz, fun pre n suf X e1 _ _ => (by
  have e1 : sortStr [] = pre ++ n :: suf := e1
  rw [sortStr_nil] at e1
  cases pre <;> cases e1), fun _ => ⟨fun _ => w, fun q hq => by rw [(okV_isPQ hq).2] at b; cases b⟩⟩
theorem c_ifdraw {jb : Nat} {m : Int} {t : GT} {ga gb : GE} {σ : StD} {k : D → Prop} {eo : XD → Prop} (hb : .sh .bag = look σ jb) (h0 : 0 < m) (hd : DivOk m) (h : ∀ n : Int, 0 ≤ n → n < m → Stp (gIf (gOr (gB (g2 (dEqA false) (gC (.int n)) (gC (.int 0)))) t) ga gb σ k)) : Stp (gIf (gOr (gB (g2 (dEqA false) (gCa sDraw eo (gCons (gVar jb) (gCons (gC (.int m)) gNil))) (gC (.int 0)))) t) ga gb σ k) := ⟨(c_draw (ev_var hb) ev_c h0 hd fun n a b => ⟨(h n a b).run⟩).run⟩
theorem c_eva {g : GA} {σ : StD} {ds : List D} {ka : List D → Prop} (A : EvA g σ ds) (h : Stp (ka ds)) : Stp (g σ ka) := ⟨A _ h.run⟩
theorem c_whys {errs : List Str} {env : Env} {lams : List LamR} {gx : GE} {σ : StD} {ds : List D} {k : D → Prop} (os : List LamO) (A : Ev gx σ (.lst ds)) (e : ds = os.map .clo) (hl : os.length ≤ 1000) (h : Stp (ansL (whyA errs env lams (shOnly σ)) os [] k)) : Stp (gWhys errs env lams gx σ k) := ⟨A _ ⟨os, by rw [e], hl, h.run⟩⟩
theorem c_ansX {errs : List Str} {env : Env} {lams : List LamR} {σ : StD} {o : LamO} {os : List LamO} {acc es : List D} {pp : Arguments} {bb : Expr} {sc : Scope} {gg : (XD → Prop) → GE} {X : XD} {code : Str} {k : D → Prop} (hl : (⟨pp, bb, sc, gg⟩ : LamR) ∈ lams) (h : LamI env pp bb sc o)
    (q : ∀ eo, EvX eo (gg eo) σ X) (h1 : X.c ∈ errs) (h2 : whyX X = some (code, es)) (h3 : (code == ("told" : Str)) = false) (r : Stp (ansL (whyA errs env lams σ) os (acc ++ [.tup [.str code, .tup es]]) k)) : Stp (ansL (whyA errs env lams σ) (o :: os) acc k) := ⟨ans_why hl h (q _ _ (ans_err h1 h2 h3 r.run))⟩
theorem c_ansT {errs : List Str} {env : Env} {lams : List LamR} {σ : StD} {o : LamO} {os : List LamO} {acc : List D} {pp : Arguments} {bb : Expr} {sc : Scope} {gg : (XD → Prop) → GE} {d : D} {k : D → Prop} (hl : (⟨pp, bb, sc, gg⟩ : LamR) ∈ lams) (h : LamI env pp bb sc o)
    (q : ∀ eo, Ev (gg eo) σ d) (r : Stp (ansL (whyA errs env lams σ) os (acc ++ [.str "told"]) k)) : Stp (ansL (whyA errs env lams σ) (o :: os) acc k) := ⟨ans_why hl h (q _ _ r.run)⟩
theorem c_ansC {errs : List Str} {env : Env} {lams : List LamR} {σ : StD} {o : LamO} {os : List LamO} {acc : List D} {pp : Arguments} {bb : Expr} {sc : Scope} {gg : (XD → Prop) → GE} {k : D → Prop} (hl : (⟨pp, bb, sc, gg⟩ : LamR) ∈ lams) (h : LamI env pp bb sc o)
    (q : ∀ (eo : XD → Prop) (kk : D → Prop), (∀ (X : XD) (code : Str) (es : List D), X.c ∈ errs → whyX X = some (code, es) → (code == ("told" : Str)) = false → ansL (whyA errs env lams σ) os (acc ++ [.tup [.str code, .tup es]]) k → eo X) → Stp (gg eo σ kk)) : Stp (ansL (whyA errs env lams σ) (o :: os) acc k) := ⟨ans_why hl h (q _ _ fun X code es h1 h2 h3 r => ans_err h1 h2 h3 r).run⟩
theorem c_ansN {A : LamO → (Str → D → Prop) → Prop} {acc : List D} {k : D → Prop} (h : Stp (k (.lst acc))) : Stp (ansL A [] acc k) := ⟨h.run⟩
theorem sr_QaddP {x z : Rat} {y : D} (h : isPQ y z) (zx : QZ 1000 x) (zz : QZ 1000 z) : SR s_Radd [ratQ x, y] (ratQ (x + z)) := .mk fun k e q => ⟨x.num, x.den, y, z.num, z.den, rfl, h.isP, den_ne x, den_ne z, zx.1, zx.2, zz.1, zz.2, by rw [low_add]; exact q⟩
theorem noFs_rat : ∀ l : List (Str × Rat), noFs ((ksS (l.map fun p => (p.1, ratQ p.2))).map (·.2)) = true
  | [] => rfl
  | p :: r => by
    show (noF (ratQ p.2) && noFs ((ksS (r.map fun p => (p.1, ratQ p.2))).map (·.2))) = true
    rw [noFs_rat r]; rfl
theorem noF_frm (c : Rat) (ts : List (Str × Rat)) : noF (frm c ts) = true := by
  show (noF (ratQ c) && (noFs ((ksS (ts.map fun p => (p.1, ratQ p.2))).map (·.2)) && true)) = true
  rw [noFs_rat]; rfl
theorem noK_strs : ∀ l : List Str, noKs (l.map D.str) = true
  | [] => rfl
  | _ :: r => noK_strs r
theorem noK_prs (f : Str → Rat) : ∀ l : List Str, noKs (l.map fun n => pairQ (f n)) = true
  | [] => rfl
  | _ :: r => by
    show (noK (pairQ _) && noKs (r.map fun n => pairQ (f n))) = true
    rw [noK_prs f r]; rfl
theorem good_prs (f : Str → Rat) : ∀ l : List Str, goodLs (l.map fun n => pairQ (f n)) = true
  | [] => rfl
  | _ :: r => by
    show (goodL (pairQ _) && goodLs (r.map fun n => pairQ (f n))) = true
    rw [good_prs f r]; rfl
theorem goodLs_app : ∀ a b : List D, goodLs a = true → goodLs b = true → goodLs (a ++ b) = true
  | [], b, _, h => h
  | x :: r, b, g, h => by
    simp only [goodLs, Bool.and_eq_true, List.cons_append] at g ⊢
    exact ⟨g.1, goodLs_app r b g.2 h⟩
theorem deps_prs (f : Str → Rat) : ∀ l : List Str, deps (l.map fun n => pairQ (f n)) ≤ 1
  | [] => Nat.le_of_ble_eq_true rfl
  | _ :: r => by
    show max 1 (deps (r.map fun n => pairQ (f n))) ≤ 1
    have := deps_prs f r; omega
theorem deps_prs2 (f : Str → Rat) (x : Rat) : ∀ l : List Str, deps ((l.map fun n => pairQ (f n)) ++ [pairQ x]) ≤ 1
  | [] => Nat.le_of_ble_eq_true rfl
  | _ :: r => by
    show max 1 (deps ((r.map fun n => pairQ (f n)) ++ [pairQ x])) ≤ 1
    have := deps_prs2 f x r; omega
theorem den1 {x : Rat} (h : decide ((x.den : Int) > 1) = false) : x = (x.num : Rat) := by
  have h1 : ¬ ((x.den : Int) > 1) := of_decide_eq_false h
  have h2 := x.den_pos
  have h3 : x.den = 1 := by omega
  exact Rat.ext rfl h3
theorem nameQ (x : Str) : nameB (x ++ "?") = false := by
  unfold nameB nameL
  rw [PySem.Str.cps_append, Array.toList_append, List.all_append, show ((("?" : Str).cps.toList).all fun c => decide (c ∈ ("abcdefghijklmnopqrstuvwxyz" : Str).cps.toList)) = false by decide +kernel, Bool.and_false, Bool.and_false]
def lamQ : Str := (envOfC "law" (defScope (top 37)) 0 0 .none).qual ++ "<lambda>"
theorem ok_law (F : Facts K mg) (hTT : TabC.T = [((He.cT K ("law", none)).2, lamQ)]) (tb : LamX.TabB base mg (He.cT K ("law", none)).1 (He.cT K ("law", none)).2) : FnOk P w K mg base (L2.CX P w) 19 (He.ga K "law") (fdOf K (He.ga K "law")) ["_law_script"] (spLaw K) := by
  have huT : ∀ p ∈ TabC.T, p.1 = (He.cT K ("law", none)).2 → p.2 = lamQ := by
    rw [hTT]
    intro p hp _
    rw [List.mem_singleton.mp hp]
  have hmT : ((He.cT K ("law", none)).2, lamQ) ∈ TabC.T := by rw [hTT]; exact List.mem_singleton.mpr rfl
  refine FunD.okC F.d_law sc_law (fun vs H Q E h => by obtain ⟨a, ns, rfl, _⟩ := h; rfl) fun cdv A outer s0 H vs Q E hc hr h => ?_
  have hcode : cdv = .ref (He.cT K ("law", none)).1 := hc.trans (code_of (p := ("law", none)) F.d_law)
  refine law_run (N := ["_law_script", "_law_bag_here", "_law_turn", "_law_names_here", "_law_table", "_law_name_z", "_law_constant_z", "_law_handed", "_law_made", "_law_due", "_law_again", "_law_told", "_law_odd", "_law_other", "_law_last", "_law_same_here", "_law_bad", "_law_wrong", "_law_mixed", "_law_first", "_law_asks", "_law_why_here"]) (ps_set (i := 1) sc_law.nd rfl (.inr rfl) (pe_call (ok__law_bag F) (hr.mono (by decide)) rfl F.g__law_bag F.d__law_bag.kp (bi__law_bag F) .nil (cz_none (b := none) (H0 := fun _ => none)).pass (pa_cons (pe_var (i := 0) rfl (by first | exact Or.inl rfl | exact Or.inr (Or.inl rfl) | exact Or.inr (Or.inr rfl))) pa_nil))) (fun b H0 hT => dss_cons (ds_for (passes_of rfl) rfl (di_rng1 rfl F.n_range (DE.dt (de_int))) (dg_name (i := 2) sc_law.nd rfl (.inl rfl)) (dss_cons (ds_asg (i := 3) sc_law.nd rfl (.inr rfl) (de_ca (fc__law_names_2 F) mn_lnames (hr.mono (by decide)) F.g__law_names F.d__law_names.kp cz_none (dca_pos (da_cons (de_var 1) (da_cons (de_addB (de_int) (de_ca (fc__law_draw_2 F) sDraw_mn (hr.mono (by decide)) F.g__law_draw F.d__law_draw.kp cz_none (dca_pos (da_cons (de_var 1) (da_cons (de_int) (da_nil)))))) (da_nil))))))
    (dss_cons (ds_asg (i := 4) sc_law.nd rfl (.inr rfl) (de_callTyD (id := "") (call_dictP rfl) cl_dictP rfl F.n_dict rfl (de_lc rfl sc_law.nd (own := [("_law_name_z", 5)]) (di_seq (de_var 3)) (blk_ok (N := ["_law_script", "_law_bag_here", "_law_turn", "_law_names_here", "_law_table", "_law_name_z", "_law_constant_z", "_law_handed", "_law_made", "_law_due", "_law_again", "_law_told", "_law_odd", "_law_other", "_law_last", "_law_same_here", "_law_bad", "_law_wrong", "_law_mixed", "_law_first", "_law_asks", "_law_why_here"]) (by kernel_rfl)) (fun _ _ _ _ _ => dg_name (i := 5) sc_law.nd rfl (.inl rfl)) (fun _ _ _ _ _ => dts_nil) (fun _ _ _ _ _ => de_tup (da_cons (de_var 5) (da_cons (de_ca (fc__law_low_2 F) mn_low (hr.mono (by decide)) F.g__law_low F.d__law_low.kp cz_none (dca_pos (da_cons (de_sub (DE.dt (de_ca (fc__law_draw_2 F) sDraw_mn (hr.mono (by decide)) F.g__law_draw F.d__law_draw.kp cz_none (dca_pos (da_cons (de_var 1) (da_cons (de_int) (da_nil)))))) (DE.dt (de_int))) (da_cons (de_addB (de_int) (de_ca (fc__law_draw_2 F) sDraw_mn (hr.mono (by decide)) F.g__law_draw F.d__law_draw.kp cz_none (dca_pos (da_cons (de_var 1) (da_cons (de_int) (da_nil)))))) (da_nil))))) (da_nil)))))))
    (dss_cons (ds_asg (i := 6) sc_law.nd rfl (.inl rfl) (de_ca (fc__law_low_2 F) mn_low (hr.mono (by decide)) F.g__law_low F.d__law_low.kp cz_none (dca_pos (da_cons (de_sub (DE.dt (de_ca (fc__law_draw_2 F) sDraw_mn (hr.mono (by decide)) F.g__law_draw F.d__law_draw.kp cz_none (dca_pos (da_cons (de_var 1) (da_cons (de_int) (da_nil)))))) (DE.dt (de_int))) (da_cons (de_addB (de_int) (de_ca (fc__law_draw_2 F) sDraw_mn (hr.mono (by decide)) F.g__law_draw F.d__law_draw.kp cz_none (dca_pos (da_cons (de_var 1) (da_cons (de_int) (da_nil)))))) (da_nil))))))
    (dss_cons (ds_asgDN (i := 7) (call_dictP rfl) co_dictP rfl F.n_dict rfl sc_law.nd rfl (.inl rfl) (de_lc rfl sc_law.nd (own := [("_law_name_z", 5)]) (di_seq (de_var 3)) (blk_ok (N := ["_law_script", "_law_bag_here", "_law_turn", "_law_names_here", "_law_table", "_law_name_z", "_law_constant_z", "_law_handed", "_law_made", "_law_due", "_law_again", "_law_told", "_law_odd", "_law_other", "_law_last", "_law_same_here", "_law_bad", "_law_wrong", "_law_mixed", "_law_first", "_law_asks", "_law_why_here"]) (by kernel_rfl)) (fun _ _ _ _ _ => dg_name (i := 5) sc_law.nd rfl (.inl rfl)) (fun _ _ _ _ _ => dts_nil) (fun _ _ _ _ _ => de_tup (da_cons (de_var 5) (da_cons (de_if (DW.db (dw_or (db_eqA hr (DE.dt (de_ca (fc__law_draw_2 F) sDraw_mn (hr.mono (by decide)) F.g__law_draw F.d__law_draw.kp cz_none (dca_pos (da_cons (de_var 1) (da_cons (de_int) (da_nil)))))) (DE.dt (de_int))) (dw_or1 (db_gt (DE.dt (de_ix (de_dget hr (de_var 4) (DE.dt (de_var 5))) (DE.dt (de_int)))) (DE.dt (de_int)))))) (de_mk F.k_Ratio (fc_Ratio_init_2 F) (shpI_mn mn_Rinit) (hr.mono (by decide)) F.g_Ratio cz_none (dca_pos (da_cons (de_ix (de_dget hr (de_var 4) (DE.dt (de_var 5))) (DE.dt (de_int))) (da_cons (de_ix (de_dget hr (de_var 4) (DE.dt (de_var 5))) (DE.dt (de_int))) (da_nil))))) (de_ix (de_dget hr (de_var 4) (DE.dt (de_var 5))) (DE.dt (de_int)))) (da_nil))))))
    (dss_cons (ds_asg (i := 8) sc_law.nd rfl (.inr rfl) (de_ldD 7 (de_mk F.k_Form (fc_Form_init_1_constant F) (shpI_mn mn_Finit) (hr.mono (by decide)) F.g_Form cz_none (dca_k (da_cons (de_var 7) (da_nil)) (dkn_cons (de_mk F.k_Ratio (fc_Ratio_init_2 F) (shpI_mn mn_Rinit) (hr.mono (by decide)) F.g_Ratio cz_none (dca_pos (da_cons (de_ix (de_var 6) (DE.dt (de_int))) (da_cons (de_ix (de_var 6) (DE.dt (de_int))) (da_nil))))) (dkn_nil))))))
    (dss_cons (ds_dclr (i := 7) rfl (by first | exact Or.inl rfl | exact Or.inr (Or.inl rfl) | exact Or.inr (Or.inr rfl)))
    (dss_pubD 7 (dss_cons (ds_asg (i := 9) sc_law.nd rfl (.inr rfl) (de_callTyD (id := "") (call_dictP rfl) cl_dictP rfl F.n_dict rfl (de_lc rfl sc_law.nd (own := [("_law_name_z", 5)]) (di_seq (de_callB cr_sortedS cl_sortS rfl F.n_sorted rfl (DE.dt (de_var 3)))) (blk_ok (N := ["_law_script", "_law_bag_here", "_law_turn", "_law_names_here", "_law_table", "_law_name_z", "_law_constant_z", "_law_handed", "_law_made", "_law_due", "_law_again", "_law_told", "_law_odd", "_law_other", "_law_last", "_law_same_here", "_law_bad", "_law_wrong", "_law_mixed", "_law_first", "_law_asks", "_law_why_here"]) (by kernel_rfl)) (fun _ _ _ _ _ => dg_name (i := 5) sc_law.nd rfl (.inl rfl)) (fun _ _ _ _ _ => dts_one (db_neA hr (DE.dt (de_ix (de_dget hr (de_var 4) (DE.dt (de_var 5))) (DE.dt (de_int)))) (DE.dt (de_int)))) (fun _ _ _ _ _ => de_tup (da_cons (de_var 5) (da_cons (de_dget hr (de_var 4) (DE.dt (de_var 5))) (da_nil)))))))
    (dss_cons (ds_for (passes_of rfl) rfl (di_rng1 rfl F.n_range (DE.dt (de_int))) (dg_name (i := 10) sc_law.nd rfl (.inl rfl)) (dss_cons (ds_asgFD (i := 11) sc_law.nd rfl (.inr rfl) (dfd_mc (c := "Form") (de_var 8) F.c_Form F.m_Form_terms (fcD_Form_terms_0 F) mn_Fterms (hr.mono (by decide)) cz_none dca_nil))
    (dss_cons (ds_if (db_not (db_val (DE.dt (de_ca (fc__law_same_2 F) (sSameL_mn 8) (hr.mono (by decide)) F.g__law_same F.d__law_same.kp cz_none (dca_pos (da_cons (de_lst (da_cons (de_mc (c := "Form") (de_var 8) F.c_Form F.m_Form_names (fc_Form_names_0 F) mn_Fnames (hr.mono (by decide)) cz_none dca_nil) (da_cons (de_callB cr_sortedS cl_sortS rfl F.n_sorted rfl (DE.dt (de_lkD 11 (de_callTy (call_listD rfl) cl_listD rfl F.n_list rfl (DE.dt (de_var 11)))))) (da_cons (de_lkD 11 (de_lc rfl sc_law.nd (own := [("_law_name_z", 5)]) (di_seq (de_callB cr_sortedS cl_sortS rfl F.n_sorted rfl (DE.dt (de_callTy (call_listD rfl) cl_listD rfl F.n_list rfl (DE.dt (de_var 11)))))) (blk_ok (N := ["_law_script", "_law_bag_here", "_law_turn", "_law_names_here", "_law_table", "_law_name_z", "_law_constant_z", "_law_handed", "_law_made", "_law_due", "_law_again", "_law_told", "_law_odd", "_law_other", "_law_last", "_law_same_here", "_law_bad", "_law_wrong", "_law_mixed", "_law_first", "_law_asks", "_law_why_here"]) (by kernel_rfl)) (fun _ _ _ _ _ => dg_name (i := 5) sc_law.nd rfl (.inl rfl)) (fun _ _ _ _ _ => dts_nil) (fun _ _ _ _ _ => de_mc (c := "Ratio") (de_dget hr (de_var 11) (DE.dt (de_var 5))) F.c_Ratio F.m_Ratio_pair (fc_Ratio_pair_0 F) mn_pair (hr.mono (by decide)) cz_none dca_nil))) (da_cons (de_mc (c := "Ratio") (de_fld (c := "Form") (NS := ["constant", "own_terms"]) (i := 0) (de_var 8) F.c_Form F.a_Form_constant (by decide)) F.c_Ratio F.m_Ratio_pair (fc_Ratio_pair_0 F) mn_pair (hr.mono (by decide)) cz_none dca_nil) (da_nil)))))) (da_cons (de_lst (da_cons (de_callTy (call_listD rfl) cl_listD rfl F.n_list rfl (DE.dt (de_var 9))) (da_cons (de_callTy (call_listD rfl) cl_listD rfl F.n_list rfl (DE.dt (de_var 9))) (da_cons (de_lc rfl sc_law.nd (own := [("_law_name_z", 5)]) (di_keys (de_var 9)) (blk_ok (N := ["_law_script", "_law_bag_here", "_law_turn", "_law_names_here", "_law_table", "_law_name_z", "_law_constant_z", "_law_handed", "_law_made", "_law_due", "_law_again", "_law_told", "_law_odd", "_law_other", "_law_last", "_law_same_here", "_law_bad", "_law_wrong", "_law_mixed", "_law_first", "_law_asks", "_law_why_here"]) (by kernel_rfl)) (fun _ _ _ _ _ => dg_name (i := 5) sc_law.nd rfl (.inl rfl)) (fun _ _ _ _ _ => dts_nil) (fun _ _ _ _ _ => de_dget hr (de_var 9) (DE.dt (de_var 5)))) (da_cons (de_var 6) (da_nil)))))) (da_nil)))))))) (dss_one (ds_ret (DE.dt (de_bl)))) (dss_nil))
    (dss_cons (ds_dclr (i := 11) rfl (by first | exact Or.inl rfl | exact Or.inr (Or.inl rfl) | exact Or.inr (Or.inr rfl)))
    (dss_pubD 11 (dss_one (ds_apF (df_mc (c := "Form") (de_var 8) F.c_Form F.m_Form_names (fcF_Form_names_0 F) mn_Fnames (hr.mono (by decide)) cz_none dca_nil) (de_str))))))))
    (dss_cons (ds_asg (i := 12) sc_law.nd rfl (.inl rfl) (de_ca (fc__law_of_2 F) sOf_mn (hr.mono (by decide)) F.g__law_of F.d__law_of.kp cz_none (dca_pos (da_cons (de_var 1) (da_cons (de_lst (da_cons (de_non) (da_cons (de_int) (da_cons (de_str) (da_cons (de_tup (da_cons (de_str) (da_nil))) (da_cons (de_lst (da_cons (de_str) (da_nil))) (da_cons (de_addB (de_ix (de_var 3) (DE.dt (de_int))) (de_str)) (da_nil)))))))) (da_nil))))))
    (dss_cons (ds_if (db_not (db_val (DE.dt (de_ca (fc__law_same_2 F) (sSameL_mn 8) (hr.mono (by decide)) F.g__law_same F.d__law_same.kp cz_none (dca_pos (da_cons (de_addB (de_lc rfl sc_law.nd (own := [("_law_name_z", 5)]) (di_seq (de_var 3)) (blk_ok (N := ["_law_script", "_law_bag_here", "_law_turn", "_law_names_here", "_law_table", "_law_name_z", "_law_constant_z", "_law_handed", "_law_made", "_law_due", "_law_again", "_law_told", "_law_odd", "_law_other", "_law_last", "_law_same_here", "_law_bad", "_law_wrong", "_law_mixed", "_law_first", "_law_asks", "_law_why_here"]) (by kernel_rfl)) (fun _ _ _ _ _ => dg_name (i := 5) sc_law.nd rfl (.inl rfl)) (fun _ _ _ _ _ => dts_nil) (fun _ _ _ _ _ => de_mc (c := "Ratio") (de_mc (c := "Form") (de_var 8) F.c_Form F.m_Form_factor (fc_Form_factor_1 F) mn_Ffac (hr.mono (by decide)) cz_none (dca_pos (da_cons (de_var 5) (da_nil)))) F.c_Ratio F.m_Ratio_pair (fc_Ratio_pair_0 F) mn_pair (hr.mono (by decide)) cz_none dca_nil)) (de_lst (da_cons (de_mc (c := "Ratio") (de_mc (c := "Form") (de_var 8) F.c_Form F.m_Form_factor (fc_Form_factor_0_name F) (shp_mn mn_Ffac) (hr.mono (by decide)) cz_none (dca_k0 (dkn_cons (de_var 12) (dkn_nil)))) F.c_Ratio F.m_Ratio_pair (fc_Ratio_pair_0 F) mn_pair (hr.mono (by decide)) cz_none dca_nil) (da_nil)))) (da_cons (de_addB (de_lc rfl sc_law.nd (own := [("_law_name_z", 5)]) (di_seq (de_var 3)) (blk_ok (N := ["_law_script", "_law_bag_here", "_law_turn", "_law_names_here", "_law_table", "_law_name_z", "_law_constant_z", "_law_handed", "_law_made", "_law_due", "_law_again", "_law_told", "_law_odd", "_law_other", "_law_last", "_law_same_here", "_law_bad", "_law_wrong", "_law_mixed", "_law_first", "_law_asks", "_law_why_here"]) (by kernel_rfl)) (fun _ _ _ _ _ => dg_name (i := 5) sc_law.nd rfl (.inl rfl)) (fun _ _ _ _ _ => dts_nil) (fun _ _ _ _ _ => de_dget hr (de_var 4) (DE.dt (de_var 5)))) (de_lst (da_cons (de_tup (da_cons (de_int) (da_cons (de_int) (da_nil)))) (da_nil)))) (da_nil)))))))) (dss_one (ds_ret (DE.dt (de_bl)))) (dss_nil))
    (dss_cons (ds_asg (i := 13) sc_law.nd rfl (.inl rfl) (de_callTyD (id := "") (call_dictP rfl) cl_dictP rfl F.n_dict rfl (de_lc rfl sc_law.nd (own := [("_law_name_z", 5)]) (di_keys (de_var 9)) (blk_ok (N := ["_law_script", "_law_bag_here", "_law_turn", "_law_names_here", "_law_table", "_law_name_z", "_law_constant_z", "_law_handed", "_law_made", "_law_due", "_law_again", "_law_told", "_law_odd", "_law_other", "_law_last", "_law_same_here", "_law_bad", "_law_wrong", "_law_mixed", "_law_first", "_law_asks", "_law_why_here"]) (by kernel_rfl)) (fun _ _ _ _ _ => dg_name (i := 5) sc_law.nd rfl (.inl rfl)) (fun _ _ _ _ _ => dts_nil) (fun _ _ _ _ _ => de_tup (da_cons (de_var 5) (da_cons (de_mk F.k_Ratio (fc_Ratio_init_2 F) (shpI_mn mn_Rinit) (hr.mono (by decide)) F.g_Ratio cz_none (dca_pos (da_cons (de_ix (de_dget hr (de_var 9) (DE.dt (de_var 5))) (DE.dt (de_int))) (da_cons (de_ix (de_dget hr (de_var 9) (DE.dt (de_var 5))) (DE.dt (de_int))) (da_nil))))) (da_nil)))))))
    (dss_cons (ds_asg (i := 14) sc_law.nd rfl (.inl rfl) (de_mk F.k_Ratio (fc_Ratio_init_2 F) (shpI_mn mn_Rinit) (hr.mono (by decide)) F.g_Ratio cz_none (dca_pos (da_cons (de_ix (de_var 6) (DE.dt (de_int))) (da_cons (de_ix (de_var 6) (DE.dt (de_int))) (da_nil))))))
    (dss_cons (ds_asg (i := 15) sc_law.nd rfl (.inl rfl) (de_lst (da_cons (DCm.de (dc_eqO (c := "Form") (de_var 8) (de_mk F.k_Form (fc_Form_init_1_constant F) (shpI_mn mn_Finit) (hr.mono (by decide)) F.g_Form cz_none (dca_k (da_cons (de_var 13) (da_nil)) (dkn_cons (de_var 14) (dkn_nil)))) F.o_Form_eq (ok_Form_eq F) mn_Feq (hr.mono (by decide)) (bi_Form_eq F) cz_none)) (da_cons (DCm.de (dc_eqO (c := "Form") (de_var 8) (de_mk F.k_Form (fc_Form_init_1_constant F) (shpI_mn mn_Finit) (hr.mono (by decide)) F.g_Form cz_none (dca_k (da_cons (de_var 13) (da_nil)) (dkn_cons (de_binO (c := "Ratio") (de_var 14) (de_int) F.o_Ratio_add (ok_Ratio_add F) mn_Radd (hr.mono (by decide)) (bi_Ratio_add F) cz_none) (dkn_nil)))) F.o_Form_eq (ok_Form_eq F) mn_Feq (hr.mono (by decide)) (bi_Form_eq F) cz_none)) (da_cons (DCm.de (dc_eqE (c := "Form") (de_var 8) (de_var 13) F.o_Form_eq F.nf_Form (ok_Form_eq F) mn_Feq (hr.mono (by decide)) (bi_Form_eq F) cz_none)) (da_cons (DCm.de (dc_eqO (c := "Form") (de_sm F.s_Form_of F.g_Form (fc_Form_of_1 F) mn_Fof (hr.mono (by decide)) F.d_Form_of.kp cz_none (dca_pos (da_cons (de_ix (de_var 3) (DE.dt (de_int))) (da_nil)))) (de_mk F.k_Form (fc_Form_init_1 F) (shpI_mn mn_Finit) (hr.mono (by decide)) F.g_Form cz_none (dca_pos (da_cons (de_disp (dps_cons (de_ix (de_var 3) (DE.dt (de_int))) (de_int) (dps_nil))) (da_nil)))) F.o_Form_eq (ok_Form_eq F) mn_Feq (hr.mono (by decide)) (bi_Form_eq F) cz_none)) (da_nil)))))))
    (dss_cons (ds_if (db_not (db_val (DE.dt (de_ca (fc__law_same_2 F) (sSameL_mn 8) (hr.mono (by decide)) F.g__law_same F.d__law_same.kp cz_none (dca_pos (da_cons (de_var 15) (da_cons (de_lst (da_cons (de_bl) (da_cons (de_bl) (da_cons (de_bl) (da_cons (de_bl) (da_nil)))))) (da_nil)))))))) (dss_one (ds_ret (DE.dt (de_bl)))) (dss_nil))
    (dss_cons (ds_tgt (de_tup (da_cons (de_ca (fc__law_of_2 F) sOf_mn (hr.mono (by decide)) F.g__law_of F.d__law_of.kp cz_none (dca_pos (da_cons (de_var 1) (da_cons (de_lst (da_cons (de_str) (da_cons (de_str) (da_cons (de_str) (da_cons (de_str) (da_nil)))))) (da_nil))))) (da_cons (de_ca (fc__law_of_2 F) sOf_mn (hr.mono (by decide)) F.g__law_of F.d__law_of.kp cz_none (dca_pos (da_cons (de_var 1) (da_cons (de_lst (da_cons (de_non) (da_cons (de_bl) (da_cons (de_str) (da_cons (de_tup (da_cons (de_int) (da_nil))) (da_nil)))))) (da_nil))))) (da_nil)))) (dg_tup rfl (dgs_cons (dg_name (i := 16) sc_law.nd rfl (.inr rfl)) (dgs_cons (dg_name (i := 17) sc_law.nd rfl (.inr rfl)) (dgs_nil)))))
    (dss_cons (ds_asgDN (i := 18) (call_dictP rfl) co_dictP rfl F.n_dict rfl sc_law.nd rfl (.inr rfl) (de_lc rfl sc_law.nd (own := [("_law_name_z", 5)]) (di_seq (de_var 3)) (blk_ok (N := ["_law_script", "_law_bag_here", "_law_turn", "_law_names_here", "_law_table", "_law_name_z", "_law_constant_z", "_law_handed", "_law_made", "_law_due", "_law_again", "_law_told", "_law_odd", "_law_other", "_law_last", "_law_same_here", "_law_bad", "_law_wrong", "_law_mixed", "_law_first", "_law_asks", "_law_why_here"]) (by kernel_rfl)) (fun _ _ _ _ _ => dg_name (i := 5) sc_law.nd rfl (.inl rfl)) (fun _ _ _ _ _ => dts_nil) (fun _ _ _ _ _ => de_tup (da_cons (de_var 5) (da_cons (de_var 17) (da_nil))))))
    (dss_cons (ds_dput (i := 18) hr rfl (by first | exact Or.inl rfl | exact Or.inr (Or.inl rfl) | exact Or.inr (Or.inr rfl)) (de_var 16) (de_int))
    (dss_pubD 18 (dss_cons (ds_asg (i := 19) sc_law.nd rfl (.inl rfl) (de_ix (de_callB cr_sortedS cl_sortS rfl F.n_sorted rfl (DE.dt (de_callTy (call_listD rfl) cl_listD rfl F.n_list rfl (DE.dt (de_var 18))))) (DE.dt (de_int))))
    (dss_cons (ds_asg (i := 20) sc_law.nd rfl (.inl rfl) (de_lst (da_cons (de_lam tb hcode hmT huT hT (LamX.lamS_by (sc := defScope (top 37)) (by decide +kernel)) rfl) (da_cons (de_lam tb hcode hmT huT hT (LamX.lamS_by (sc := defScope (top 37)) (by decide +kernel)) rfl) (da_cons (de_lam tb hcode hmT huT hT (LamX.lamS_by (sc := defScope (top 37)) (by decide +kernel)) rfl) (da_cons (de_lam tb hcode hmT huT hT (LamX.lamS_by (sc := defScope (top 37)) (by decide +kernel)) rfl) (da_cons (de_lam tb hcode hmT huT hT (LamX.lamS_by (sc := defScope (top 37)) (by decide +kernel)) rfl) (da_nil))))))))
    (dss_cons (ds_asg (i := 21) sc_law.nd rfl (.inl rfl) (de_whys (k := 10) (errs := ERRS) (de_var 20) rfl F.g__law_whys F.d__law_whys sc__law_whys (bi__law_whys F) (wb__law_whys F) rfl (.inl rfl) rfl F.g__law_why F.d__law_why sc__law_why (bi__law_why F) rfl rfl (.inl rfl) rfl F.g_StrideError rfl F.g_Missing rfl F.g_NothingLeft F.d__law_field sc__law_field rfl F.g__law_field (bi__law_field F) (hB_field F) F.errs (hr.mono (by decide)) (lk_cons (st := stA (stB (stA (defBody (top 37)) 1)) 18) (i := 0) rfl (LamX.lamS_by (sc := defScope (top 37)) (by decide +kernel)) (fun _ _ _ _ _ => rfl) (fun A outer s Hb Hh E f c' eo hr Zl => de_mk F.k_Form (fc_Form_init_1_constant F) (shpI_mn mn_Finit) (hr.mono (by decide)) F.g_Form Zl (dca_k (da_cons (de_var 18) (da_nil)) (dkn_cons (de_var 17) (dkn_nil))))
      (lk_cons (st := stA (stB (stA (defBody (top 37)) 1)) 18) (i := 1) rfl (LamX.lamS_by (sc := defScope (top 37)) (by decide +kernel)) (fun _ _ _ _ _ => rfl) (fun A outer s Hb Hh E f c' eo hr Zl => de_mk F.k_Form (fc_Form_init_0_terms_constant F) (shpI_mn mn_Finit) (hr.mono (by decide)) F.g_Form Zl (dca_k0 (dkn_cons (de_disp (dps_cons (de_ix (de_var 3) (DE.dt (de_int))) (de_var 17) (dps_nil))) (dkn_cons (de_non) (dkn_nil)))))
      (lk_cons (st := stA (stB (stA (defBody (top 37)) 1)) 18) (i := 2) rfl (LamX.lamS_by (sc := defScope (top 37)) (by decide +kernel)) (fun _ _ _ _ _ => rfl) (fun A outer s Hb Hh E f c' eo hr Zl => de_mk F.k_Form (fc_Form_init_0_constant F) (shpI_mn mn_Finit) (hr.mono (by decide)) F.g_Form Zl (dca_k0 (dkn_cons (de_var 17) (dkn_nil))))
      (lk_cons (st := stA (stB (stA (defBody (top 37)) 1)) 18) (i := 3) rfl (LamX.lamS_by (sc := defScope (top 37)) (by decide +kernel)) (fun _ _ _ _ _ => rfl) (fun A outer s Hb Hh E f c' eo hr Zl => de_sm F.s_Form_of F.g_Form (fc_Form_of_1 F) mn_Fof (hr.mono (by decide)) F.d_Form_of.kp Zl (dca_pos (da_cons (de_ca (fc__law_of_2 F) sOf_mn (hr.mono (by decide)) F.g__law_of F.d__law_of.kp cz_none (dca_pos (da_cons (de_var 1) (da_cons (de_lst (da_cons (de_non) (da_cons (de_int) (da_cons (de_var 16) (da_cons (de_lst (da_cons (de_str) (da_nil))) (da_cons (de_tup (da_cons (de_str) (da_nil))) (da_nil))))))) (da_nil))))) (da_nil))))
      (lk_cons (st := stA (stB (stA (defBody (top 37)) 1)) 18) (i := 4) rfl (LamX.lamS_by (sc := defScope (top 37)) (by decide +kernel)) (fun _ _ _ _ _ => rfl) (fun A outer s Hb Hh E f c' eo hr Zl => de_mk F.k_Form (fc_Form_init_0 F) (shpI_mn mn_Finit) (hr.mono (by decide)) F.g_Form Zl dca_nil)
      (lk_nil))))))))
    (dss_cons (ds_asg (i := 9) sc_law.nd rfl (.inr rfl) (de_lst (da_cons (de_if (db_eqA hr (DE.dt (de_var 19)) (DE.dt (de_var 16))) (de_tup (da_cons (de_str) (da_cons (de_tup (da_cons (de_var 16) (da_nil))) (da_nil)))) (de_tup (da_cons (de_str) (da_cons (de_tup (da_cons (de_var 17) (da_nil))) (da_nil))))) (da_cons (de_tup (da_cons (de_str) (da_cons (de_tup (da_cons (de_var 17) (da_nil))) (da_nil)))) (da_cons (de_tup (da_cons (de_str) (da_cons (de_tup (da_cons (de_var 17) (da_nil))) (da_nil)))) (da_cons (de_ix (de_var 21) (DE.dt (de_int))) (da_cons (de_str) (da_nil))))))))
    (dss_one (ds_if (DW.db (dw_or (db_not (db_val (DE.dt (de_ca (fc__law_same_2 F) (sSameL_mn 8) (hr.mono (by decide)) F.g__law_same F.d__law_same.kp cz_none (dca_pos (da_cons (de_var 21) (da_cons (de_var 9) (da_nil)))))))) (dw_or1 (db_neA hr (DE.dt (de_ix (de_ix (de_var 21) (DE.dt (de_int))) (DE.dt (de_int)))) (DE.dt (de_str)))))) (dss_one (ds_ret (DE.dt (de_bl)))) (dss_nil)))))))))))))))))))))))))))
    (dss_one (ds_ret (DE.dt (de_ca (fc__law_same_2 F) (sSameL_mn 8) (hr.mono (by decide)) F.g__law_same F.d__law_same.kp cz_none (dca_pos (da_cons (de_lst (da_cons (de_mc (c := "Form") (de_mk F.k_Form (fc_Form_init_0 F) (shpI_mn mn_Finit) (hr.mono (by decide)) F.g_Form cz_none dca_nil) F.c_Form F.m_Form_terms (fc_Form_terms_0 F) mn_Fterms (hr.mono (by decide)) cz_none dca_nil) (da_cons (de_mc (c := "Ratio") (de_fld (c := "Form") (NS := ["constant", "own_terms"]) (i := 0) (de_mk F.k_Form (fc_Form_init_0 F) (shpI_mn mn_Finit) (hr.mono (by decide)) F.g_Form cz_none dca_nil) F.c_Form F.a_Form_constant (by decide)) F.c_Ratio F.m_Ratio_pair (fc_Ratio_pair_0 F) mn_pair (hr.mono (by decide)) cz_none dca_nil) (da_cons (de_mc (c := "Form") (de_mk F.k_Form (fc_Form_init_1 F) (shpI_mn mn_Finit) (hr.mono (by decide)) F.g_Form cz_none (dca_pos (da_cons (de_non) (da_nil)))) F.c_Form F.m_Form_names (fc_Form_names_0 F) mn_Fnames (hr.mono (by decide)) cz_none dca_nil) (da_nil))))) (da_cons (de_lst (da_cons (de_dnew) (da_cons (de_tup (da_cons (de_int) (da_cons (de_int) (da_nil)))) (da_cons (de_lst (da_nil)) (da_nil))))) (da_nil))))))))) h (by decide) ?_
  refine ⟨⟨by decide, by decide⟩, forD_inv (fun σ => ∃ a2 a3 a4 a5 a6 a7 a8 a9 a10 a11 a12 a13 a14 a15 a16 a17 a18 a19 a20 a21, σ = [SD.unset, SD.sh D.bag, a2, a3, a4, a5, a6, a7, a8, a9, a10, a11, a12, a13, a14, a15, a16, a17, a18, a19, a20, a21]) ?_ _ ⟨_, _, _, _, _, _, _, _, _, _, _, _, _, _, _, _, _, _, _, _, rfl⟩ ?_⟩
  · rintro d hd σ D' ⟨a2, a3, a4, a5, a6, a7, a8, a9, a10, a11, a12, a13, a14, a15, a16, a17, a18, a19, a20, a21, rfl⟩ hN hR
    (first | (with_reducible show Stp _) | refine Stp.run ?_); (with_reducible first | apply as1 | apply as2 | apply as3 | apply as2l | apply as3l); (repeat' first | with_reducible exact pt0 | with_reducible apply pts | with_reducible apply ns_put | with_reducible apply ns_wipe | with_reducible apply ns_wipe0 | with_reducible exact ns_id)
    refine c_asg ?_
    (first | (with_reducible show Stp _) | refine Stp.run ?_); (try with_reducible refine nx_mk ?_); (with_reducible first | refine c_asg ?_ | refine c_tgt ?_ | refine c_par ?_ | skip); (repeat first | ((with_reducible apply c_draw); (exact ev_var rfl); (first | (with_reducible exact ev_c) | (focus ((focus ((repeat' first | ((with_reducible apply ev_var); exact rfl) | with_reducible exact ev_c | with_reducible apply ev_repF | with_reducible apply ev_repT | with_reducible apply ev_g2 | with_reducible apply ev_g1 | with_reducible apply eva_cons | with_reducible apply ev_tup | with_reducible apply ev_lst | with_reducible apply evt_B | with_reducible apply evt_and | with_reducible apply evt_or | with_reducible apply evt_not | with_reducible apply ev_if | with_reducible apply ev_isi | with_reducible apply ev_isN | with_reducible apply ev_fld | with_reducible apply ev_ca | with_reducible apply ev_mc | with_reducible apply ev_ci | with_reducible apply ev_con | with_reducible apply ev_mk | with_reducible apply ev_own1 | with_reducible apply ev_own2 | with_reducible apply ev_ownR | with_reducible apply ev_ownQ | with_reducible apply ev_ownN | with_reducible apply ev_ownE | with_reducible apply ev_ownEN | with_reducible apply ev_ownS | with_reducible apply ev_ownB | with_reducible apply ev_join | with_reducible apply ev_js | with_reducible apply ev_fmt | with_reducible apply ev_sl | with_reducible apply ev_andV | with_reducible apply ev_orV | with_reducible apply ev_notV | with_reducible apply ev_chain | with_reducible apply ev_cl | with_reducible apply eva_app | with_reducible apply eva_star | with_reducible apply eva_star1 | with_reducible apply evp_part | with_reducible apply evi_it | with_reducible apply evi_LL | with_reducible apply evi_TT | with_reducible apply evi_S | with_reducible apply evi_rng | with_reducible apply evi_rng2 | with_reducible apply evi_zip | with_reducible apply evi_en | with_reducible apply ev_tm | with_reducible apply ot_split | with_reducible apply ot_part | with_reducible apply o_intS | with_reducible apply o_ixS | with_reducible apply o_inL | with_reducible apply o_inTu | with_reducible apply o_inT | with_reducible apply o_pow | with_reducible apply o_rev | with_reducible apply o_strI | with_reducible apply ev_ls | with_reducible apply o_ninTu | with_reducible apply o_ixTI | with_reducible apply sr_shp | with_reducible apply sri_shp | with_reducible apply sr_same | with_reducible apply ow2_own | with_reducible apply ow2_int | with_reducible apply fm_S | with_reducible apply fm_I | with_reducible apply sl_S | with_reducible apply aev1 | with_reducible apply aev2 | with_reducible apply aev3 | with_reducible apply aevf1 | with_reducible apply aevf2 | with_reducible apply aevf3 | with_reducible exact eva_nil | with_reducible exact evt_yes | with_reducible exact evp_no | with_reducible exact ev_jsN | with_reducible exact itr_L | with_reducible exact itr_T | with_reducible exact sl_L | with_reducible exact sl_T | with_reducible exact jn_eq | with_reducible exact jn_int | with_reducible exact jn_str | with_reducible exact jn_bl | with_reducible exact jn_tup | with_reducible exact jn_lst | with_reducible exact jn_any | with_reducible exact o_eqI | with_reducible exact o_neI | with_reducible exact o_eqS | with_reducible exact o_neS | with_reducible exact o_eqB | with_reducible exact o_neB | with_reducible exact o_all | with_reducible exact o_eqT2 | with_reducible exact o_neT2 | with_reducible exact o_inS | with_reducible exact o_ninS | with_reducible exact o_eqL | with_reducible exact o_eqTu | with_reducible exact o_max2 | with_reducible exact o_tup | with_reducible exact o_tup2 | with_reducible exact o_lst | with_reducible exact o_lst2 | ((with_reducible apply ev_varT); exact rfl) | ((with_reducible apply ev_varO); exact rfl) | ((with_reducible apply o2_i); exact fun _ q => q) | ((with_reducible apply o2_i); refine fun _ zq_ => ⟨?_, zq_⟩) | ((with_reducible apply o1_i); exact fun _ q => q) | ((with_reducible apply o1_i); refine fun _ zq_ => ⟨?_, zq_⟩) | ((with_reducible apply on_i); exact fun _ q => q) | ((with_reducible apply on_i); refine fun _ zq_ => ⟨?_, zq_⟩) | ((with_reducible apply fi_i); exact rfl) | ((with_reducible apply pk_i); exact rfl) | exact pairs_ints _ _ | ((with_reducible apply mp_i); exact rfl) | with_reducible apply ev_lc | with_reducible apply ev_lcF | with_reducible apply sr_gcd | with_reducible apply sr_low | with_reducible apply sr_is_number | with_reducible apply sri_Rinit | with_reducible apply sr_name | with_reducible apply sr_pair | with_reducible apply sr_Req_r | with_reducible apply sr_Req_i | with_reducible apply sr_Req_o | with_reducible apply sr_Fterms | with_reducible apply sr_Fnames | with_reducible apply sr_sameL | with_reducible apply sr_Ffac | with_reducible apply sr_Feq | with_reducible apply sr_FeqO | with_reducible apply sr_Fof | with_reducible apply sr_Radd_r | with_reducible apply sr_Radd_i | with_reducible intro _) <;> (try (show (_ : Prop); (fail_if_success (with_reducible show Ev _ _ _)); first | ((with_reducible apply sle); first | (simp only [str_len2]; omega) | with_reducible assumption | omega | decide) | ((fail_if_success (with_reducible apply sle)); first | assumption | ((with_reducible refine And.intro ?_ ?_) <;> omega) | ((fail_if_success (with_reducible refine And.intro ?_ ?_)); first | rfl | exact List.cons_ne_nil _ _ | exact Nat.le_of_ble_eq_true rfl | decide | omega | exact MulOk.right (by omega) | exact MulOk.left (by omega) | exact MulOk.of (by assumption) (by assumption) (by decide) | exact Sz.mono (by assumption) (by decide) | exact szLog (by assumption) | exact szLog (Sms.get (by assumption) (by assumption)) | exact szW (by decide) | (simp only [List.length_map, List.length_cons, List.length_nil, List.length_append, List.length_reverse]; omega))))))); done))); decide; (exact divW (by decide) (by decide)); intro _ _ _) | ((with_reducible apply c_var); exact rfl) | ((with_reducible apply c_ev); (focus ((focus ((repeat' first | ((with_reducible apply ev_var); exact rfl) | with_reducible exact ev_c | with_reducible apply ev_repF | with_reducible apply ev_repT | with_reducible apply ev_g2 | with_reducible apply ev_g1 | with_reducible apply eva_cons | with_reducible apply ev_tup | with_reducible apply ev_lst | with_reducible apply evt_B | with_reducible apply evt_and | with_reducible apply evt_or | with_reducible apply evt_not | with_reducible apply ev_if | with_reducible apply ev_isi | with_reducible apply ev_isN | with_reducible apply ev_fld | with_reducible apply ev_ca | with_reducible apply ev_mc | with_reducible apply ev_ci | with_reducible apply ev_con | with_reducible apply ev_mk | with_reducible apply ev_own1 | with_reducible apply ev_own2 | with_reducible apply ev_ownR | with_reducible apply ev_ownQ | with_reducible apply ev_ownN | with_reducible apply ev_ownE | with_reducible apply ev_ownEN | with_reducible apply ev_ownS | with_reducible apply ev_ownB | with_reducible apply ev_join | with_reducible apply ev_js | with_reducible apply ev_fmt | with_reducible apply ev_sl | with_reducible apply ev_andV | with_reducible apply ev_orV | with_reducible apply ev_notV | with_reducible apply ev_chain | with_reducible apply ev_cl | with_reducible apply eva_app | with_reducible apply eva_star | with_reducible apply eva_star1 | with_reducible apply evp_part | with_reducible apply evi_it | with_reducible apply evi_LL | with_reducible apply evi_TT | with_reducible apply evi_S | with_reducible apply evi_rng | with_reducible apply evi_rng2 | with_reducible apply evi_zip | with_reducible apply evi_en | with_reducible apply ev_tm | with_reducible apply ot_split | with_reducible apply ot_part | with_reducible apply o_intS | with_reducible apply o_ixS | with_reducible apply o_inL | with_reducible apply o_inTu | with_reducible apply o_inT | with_reducible apply o_pow | with_reducible apply o_rev | with_reducible apply o_strI | with_reducible apply ev_ls | with_reducible apply o_ninTu | with_reducible apply o_ixTI | with_reducible apply sr_shp | with_reducible apply sri_shp | with_reducible apply sr_same | with_reducible apply ow2_own | with_reducible apply ow2_int | with_reducible apply fm_S | with_reducible apply fm_I | with_reducible apply sl_S | with_reducible apply aev1 | with_reducible apply aev2 | with_reducible apply aev3 | with_reducible apply aevf1 | with_reducible apply aevf2 | with_reducible apply aevf3 | with_reducible exact eva_nil | with_reducible exact evt_yes | with_reducible exact evp_no | with_reducible exact ev_jsN | with_reducible exact itr_L | with_reducible exact itr_T | with_reducible exact sl_L | with_reducible exact sl_T | with_reducible exact jn_eq | with_reducible exact jn_int | with_reducible exact jn_str | with_reducible exact jn_bl | with_reducible exact jn_tup | with_reducible exact jn_lst | with_reducible exact jn_any | with_reducible exact o_eqI | with_reducible exact o_neI | with_reducible exact o_eqS | with_reducible exact o_neS | with_reducible exact o_eqB | with_reducible exact o_neB | with_reducible exact o_all | with_reducible exact o_eqT2 | with_reducible exact o_neT2 | with_reducible exact o_inS | with_reducible exact o_ninS | with_reducible exact o_eqL | with_reducible exact o_eqTu | with_reducible exact o_max2 | with_reducible exact o_tup | with_reducible exact o_tup2 | with_reducible exact o_lst | with_reducible exact o_lst2 | ((with_reducible apply ev_varT); exact rfl) | ((with_reducible apply ev_varO); exact rfl) | ((with_reducible apply o2_i); exact fun _ q => q) | ((with_reducible apply o2_i); refine fun _ zq_ => ⟨?_, zq_⟩) | ((with_reducible apply o1_i); exact fun _ q => q) | ((with_reducible apply o1_i); refine fun _ zq_ => ⟨?_, zq_⟩) | ((with_reducible apply on_i); exact fun _ q => q) | ((with_reducible apply on_i); refine fun _ zq_ => ⟨?_, zq_⟩) | ((with_reducible apply fi_i); exact rfl) | ((with_reducible apply pk_i); exact rfl) | exact pairs_ints _ _ | ((with_reducible apply mp_i); exact rfl) | with_reducible apply ev_lc | with_reducible apply ev_lcF | with_reducible apply sr_gcd | with_reducible apply sr_low | with_reducible apply sr_is_number | with_reducible apply sri_Rinit | with_reducible apply sr_name | with_reducible apply sr_pair | with_reducible apply sr_Req_r | with_reducible apply sr_Req_i | with_reducible apply sr_Req_o | with_reducible apply sr_Fterms | with_reducible apply sr_Fnames | with_reducible apply sr_sameL | with_reducible apply sr_Ffac | with_reducible apply sr_Feq | with_reducible apply sr_FeqO | with_reducible apply sr_Fof | with_reducible apply sr_Radd_r | with_reducible apply sr_Radd_i | with_reducible intro _) <;> (try (show (_ : Prop); (fail_if_success (with_reducible show Ev _ _ _)); first | ((with_reducible apply sle); first | (simp only [str_len2]; omega) | with_reducible assumption | omega | decide) | ((fail_if_success (with_reducible apply sle)); first | assumption | ((with_reducible refine And.intro ?_ ?_) <;> omega) | ((fail_if_success (with_reducible refine And.intro ?_ ?_)); first | rfl | exact List.cons_ne_nil _ _ | exact Nat.le_of_ble_eq_true rfl | decide | omega | exact MulOk.right (by omega) | exact MulOk.left (by omega) | exact MulOk.of (by assumption) (by assumption) (by decide) | exact Sz.mono (by assumption) (by decide) | exact szLog (by assumption) | exact szLog (Sms.get (by assumption) (by assumption)) | exact szW (by decide) | (simp only [List.length_map, List.length_cons, List.length_nil, List.length_append, List.length_reverse]; omega))))))); done))) | with_reducible refine c_cons ?_ | with_reducible refine c_tup ?_ | with_reducible refine c_lst ?_ | with_reducible refine c_g2 ?_ | with_reducible refine c_g1 ?_ | with_reducible refine c_app ?_ | with_reducible refine c_addI ?_ | with_reducible refine c_subI ?_ | with_reducible refine c_ca ?_ | with_reducible refine c_mk ?_ | with_reducible refine c_lc1 ?_ | with_reducible refine c_rng2 ?_ | with_reducible refine c_rng3 ?_ | with_reducible refine c_nil ?_ | with_reducible refine c_c ?_ | with_reducible refine c_lc0 ?_ | ((with_reducible first | apply as1 | apply as2 | apply as3 | apply as2l | apply as3l); (repeat' first | with_reducible exact pt0 | with_reducible apply pts | with_reducible apply ns_put | with_reducible apply ns_wipe | with_reducible apply ns_wipe0 | with_reducible exact ns_id)) | ((with_reducible refine c_pow ?_ ?_ ?_ ?_); decide; decide; decide) | (with_reducible refine c_o2 o_eqI ?_) | ((with_reducible refine c_len ?_ ?_); exact rfl) | ((with_reducible refine c_lt ?_ ?_); exact rfl) | ((with_reducible refine c_mulI ?_ ?_); (first | exact MulOk.right (by omega) | exact MulOk.left (by omega)))); (try simp only [List.nil_append, List.cons_append]); (try (with_reducible apply n_st; (focus (repeat' first | with_reducible exact pt0 | with_reducible apply pts | with_reducible apply ns_put | with_reducible apply ns_wipe | with_reducible apply ns_wipe0 | with_reducible exact ns_id))))
    rename_i m m0 m1
    obtain ⟨n, hn⟩ : ∃ n : Nat, 1 + m = (n : Int) := ⟨(1 + m).toNat, by omega⟩
    rw [hn]
    refine c_lnamesV (by omega) fun xs xl xn xd xv => ?_
    (first | (with_reducible show Stp _) | refine Stp.run ?_); (try with_reducible refine nx_mk ?_); (with_reducible apply n_st); (focus (repeat' first | with_reducible exact pt0 | with_reducible apply pts | with_reducible apply ns_put | with_reducible apply ns_wipe | with_reducible apply ns_wipe0 | with_reducible exact ns_id))
    have x5 : xs.length ≤ 5 := by omega
    obtain ⟨x0, xr, ex⟩ : ∃ x0 xr, xs = x0 :: xr := by
      cases xs with
      | nil => exfalso; simp only [List.length_nil] at xl; omega
      | cons a b => exact ⟨a, b, rfl⟩
    have x0m : x0 ∈ xs := by rw [ex]; exact List.mem_cons_self
    have mark0 : True := trivial
    refine c_asg ?_
    refine c_g1 ?_
    refine c_lc (evi_it (ev_var rfl) itr_L) (Stp.mk ?_)
    refine lcD_rel (fun d y => ∃ x : Rat, QZ 5 x ∧ y = .tup [d, pairQ x]) _ _ _ (fun d hd kk hkk => ?_) (by rw [List.length_map, List.length_nil]; omega) (fun ys hys => Stp.run ?_)
    · refine Stp.run ?_
      (first | (with_reducible show Stp _) | refine Stp.run ?_); (with_reducible first | apply as1 | apply as2 | apply as3 | apply as2l | apply as3l); (repeat' first | with_reducible exact pt0 | with_reducible apply pts | with_reducible apply ns_put | with_reducible apply ns_wipe | with_reducible apply ns_wipe0 | with_reducible exact ns_id)
      (first | (with_reducible show Stp _) | refine Stp.run ?_); (try with_reducible refine nx_mk ?_); (with_reducible first | refine c_asg ?_ | refine c_tgt ?_ | refine c_par ?_ | skip); (repeat first | ((with_reducible apply c_draw); (exact ev_var rfl); (first | (with_reducible exact ev_c) | (focus ((focus ((repeat' first | ((with_reducible apply ev_var); exact rfl) | with_reducible exact ev_c | with_reducible apply ev_repF | with_reducible apply ev_repT | with_reducible apply ev_g2 | with_reducible apply ev_g1 | with_reducible apply eva_cons | with_reducible apply ev_tup | with_reducible apply ev_lst | with_reducible apply evt_B | with_reducible apply evt_and | with_reducible apply evt_or | with_reducible apply evt_not | with_reducible apply ev_if | with_reducible apply ev_isi | with_reducible apply ev_isN | with_reducible apply ev_fld | with_reducible apply ev_ca | with_reducible apply ev_mc | with_reducible apply ev_ci | with_reducible apply ev_con | with_reducible apply ev_mk | with_reducible apply ev_own1 | with_reducible apply ev_own2 | with_reducible apply ev_ownR | with_reducible apply ev_ownQ | with_reducible apply ev_ownN | with_reducible apply ev_ownE | with_reducible apply ev_ownEN | with_reducible apply ev_ownS | with_reducible apply ev_ownB | with_reducible apply ev_join | with_reducible apply ev_js | with_reducible apply ev_fmt | with_reducible apply ev_sl | with_reducible apply ev_andV | with_reducible apply ev_orV | with_reducible apply ev_notV | with_reducible apply ev_chain | with_reducible apply ev_cl | with_reducible apply eva_app | with_reducible apply eva_star | with_reducible apply eva_star1 | with_reducible apply evp_part | with_reducible apply evi_it | with_reducible apply evi_LL | with_reducible apply evi_TT | with_reducible apply evi_S | with_reducible apply evi_rng | with_reducible apply evi_rng2 | with_reducible apply evi_zip | with_reducible apply evi_en | with_reducible apply ev_tm | with_reducible apply ot_split | with_reducible apply ot_part | with_reducible apply o_intS | with_reducible apply o_ixS | with_reducible apply o_inL | with_reducible apply o_inTu | with_reducible apply o_inT | with_reducible apply o_pow | with_reducible apply o_rev | with_reducible apply o_strI | with_reducible apply ev_ls | with_reducible apply o_ninTu | with_reducible apply o_ixTI | with_reducible apply sr_shp | with_reducible apply sri_shp | with_reducible apply sr_same | with_reducible apply ow2_own | with_reducible apply ow2_int | with_reducible apply fm_S | with_reducible apply fm_I | with_reducible apply sl_S | with_reducible apply aev1 | with_reducible apply aev2 | with_reducible apply aev3 | with_reducible apply aevf1 | with_reducible apply aevf2 | with_reducible apply aevf3 | with_reducible exact eva_nil | with_reducible exact evt_yes | with_reducible exact evp_no | with_reducible exact ev_jsN | with_reducible exact itr_L | with_reducible exact itr_T | with_reducible exact sl_L | with_reducible exact sl_T | with_reducible exact jn_eq | with_reducible exact jn_int | with_reducible exact jn_str | with_reducible exact jn_bl | with_reducible exact jn_tup | with_reducible exact jn_lst | with_reducible exact jn_any | with_reducible exact o_eqI | with_reducible exact o_neI | with_reducible exact o_eqS | with_reducible exact o_neS | with_reducible exact o_eqB | with_reducible exact o_neB | with_reducible exact o_all | with_reducible exact o_eqT2 | with_reducible exact o_neT2 | with_reducible exact o_inS | with_reducible exact o_ninS | with_reducible exact o_eqL | with_reducible exact o_eqTu | with_reducible exact o_max2 | with_reducible exact o_tup | with_reducible exact o_tup2 | with_reducible exact o_lst | with_reducible exact o_lst2 | ((with_reducible apply ev_varT); exact rfl) | ((with_reducible apply ev_varO); exact rfl) | ((with_reducible apply o2_i); exact fun _ q => q) | ((with_reducible apply o2_i); refine fun _ zq_ => ⟨?_, zq_⟩) | ((with_reducible apply o1_i); exact fun _ q => q) | ((with_reducible apply o1_i); refine fun _ zq_ => ⟨?_, zq_⟩) | ((with_reducible apply on_i); exact fun _ q => q) | ((with_reducible apply on_i); refine fun _ zq_ => ⟨?_, zq_⟩) | ((with_reducible apply fi_i); exact rfl) | ((with_reducible apply pk_i); exact rfl) | exact pairs_ints _ _ | ((with_reducible apply mp_i); exact rfl) | with_reducible apply ev_lc | with_reducible apply ev_lcF | with_reducible apply sr_gcd | with_reducible apply sr_low | with_reducible apply sr_is_number | with_reducible apply sri_Rinit | with_reducible apply sr_name | with_reducible apply sr_pair | with_reducible apply sr_Req_r | with_reducible apply sr_Req_i | with_reducible apply sr_Req_o | with_reducible apply sr_Fterms | with_reducible apply sr_Fnames | with_reducible apply sr_sameL | with_reducible apply sr_Ffac | with_reducible apply sr_Feq | with_reducible apply sr_FeqO | with_reducible apply sr_Fof | with_reducible apply sr_Radd_r | with_reducible apply sr_Radd_i | with_reducible intro _) <;> (try (show (_ : Prop); (fail_if_success (with_reducible show Ev _ _ _)); first | ((with_reducible apply sle); first | (simp only [str_len2]; omega) | with_reducible assumption | omega | decide) | ((fail_if_success (with_reducible apply sle)); first | assumption | ((with_reducible refine And.intro ?_ ?_) <;> omega) | ((fail_if_success (with_reducible refine And.intro ?_ ?_)); first | rfl | exact List.cons_ne_nil _ _ | exact Nat.le_of_ble_eq_true rfl | decide | omega | exact MulOk.right (by omega) | exact MulOk.left (by omega) | exact MulOk.of (by assumption) (by assumption) (by decide) | exact Sz.mono (by assumption) (by decide) | exact szLog (by assumption) | exact szLog (Sms.get (by assumption) (by assumption)) | exact szW (by decide) | (simp only [List.length_map, List.length_cons, List.length_nil, List.length_append, List.length_reverse]; omega))))))); done))); decide; (exact divW (by decide) (by decide)); intro _ _ _) | ((with_reducible apply c_var); exact rfl) | ((with_reducible apply c_ev); (focus ((focus ((repeat' first | ((with_reducible apply ev_var); exact rfl) | with_reducible exact ev_c | with_reducible apply ev_repF | with_reducible apply ev_repT | with_reducible apply ev_g2 | with_reducible apply ev_g1 | with_reducible apply eva_cons | with_reducible apply ev_tup | with_reducible apply ev_lst | with_reducible apply evt_B | with_reducible apply evt_and | with_reducible apply evt_or | with_reducible apply evt_not | with_reducible apply ev_if | with_reducible apply ev_isi | with_reducible apply ev_isN | with_reducible apply ev_fld | with_reducible apply ev_ca | with_reducible apply ev_mc | with_reducible apply ev_ci | with_reducible apply ev_con | with_reducible apply ev_mk | with_reducible apply ev_own1 | with_reducible apply ev_own2 | with_reducible apply ev_ownR | with_reducible apply ev_ownQ | with_reducible apply ev_ownN | with_reducible apply ev_ownE | with_reducible apply ev_ownEN | with_reducible apply ev_ownS | with_reducible apply ev_ownB | with_reducible apply ev_join | with_reducible apply ev_js | with_reducible apply ev_fmt | with_reducible apply ev_sl | with_reducible apply ev_andV | with_reducible apply ev_orV | with_reducible apply ev_notV | with_reducible apply ev_chain | with_reducible apply ev_cl | with_reducible apply eva_app | with_reducible apply eva_star | with_reducible apply eva_star1 | with_reducible apply evp_part | with_reducible apply evi_it | with_reducible apply evi_LL | with_reducible apply evi_TT | with_reducible apply evi_S | with_reducible apply evi_rng | with_reducible apply evi_rng2 | with_reducible apply evi_zip | with_reducible apply evi_en | with_reducible apply ev_tm | with_reducible apply ot_split | with_reducible apply ot_part | with_reducible apply o_intS | with_reducible apply o_ixS | with_reducible apply o_inL | with_reducible apply o_inTu | with_reducible apply o_inT | with_reducible apply o_pow | with_reducible apply o_rev | with_reducible apply o_strI | with_reducible apply ev_ls | with_reducible apply o_ninTu | with_reducible apply o_ixTI | with_reducible apply sr_shp | with_reducible apply sri_shp | with_reducible apply sr_same | with_reducible apply ow2_own | with_reducible apply ow2_int | with_reducible apply fm_S | with_reducible apply fm_I | with_reducible apply sl_S | with_reducible apply aev1 | with_reducible apply aev2 | with_reducible apply aev3 | with_reducible apply aevf1 | with_reducible apply aevf2 | with_reducible apply aevf3 | with_reducible exact eva_nil | with_reducible exact evt_yes | with_reducible exact evp_no | with_reducible exact ev_jsN | with_reducible exact itr_L | with_reducible exact itr_T | with_reducible exact sl_L | with_reducible exact sl_T | with_reducible exact jn_eq | with_reducible exact jn_int | with_reducible exact jn_str | with_reducible exact jn_bl | with_reducible exact jn_tup | with_reducible exact jn_lst | with_reducible exact jn_any | with_reducible exact o_eqI | with_reducible exact o_neI | with_reducible exact o_eqS | with_reducible exact o_neS | with_reducible exact o_eqB | with_reducible exact o_neB | with_reducible exact o_all | with_reducible exact o_eqT2 | with_reducible exact o_neT2 | with_reducible exact o_inS | with_reducible exact o_ninS | with_reducible exact o_eqL | with_reducible exact o_eqTu | with_reducible exact o_max2 | with_reducible exact o_tup | with_reducible exact o_tup2 | with_reducible exact o_lst | with_reducible exact o_lst2 | ((with_reducible apply ev_varT); exact rfl) | ((with_reducible apply ev_varO); exact rfl) | ((with_reducible apply o2_i); exact fun _ q => q) | ((with_reducible apply o2_i); refine fun _ zq_ => ⟨?_, zq_⟩) | ((with_reducible apply o1_i); exact fun _ q => q) | ((with_reducible apply o1_i); refine fun _ zq_ => ⟨?_, zq_⟩) | ((with_reducible apply on_i); exact fun _ q => q) | ((with_reducible apply on_i); refine fun _ zq_ => ⟨?_, zq_⟩) | ((with_reducible apply fi_i); exact rfl) | ((with_reducible apply pk_i); exact rfl) | exact pairs_ints _ _ | ((with_reducible apply mp_i); exact rfl) | with_reducible apply ev_lc | with_reducible apply ev_lcF | with_reducible apply sr_gcd | with_reducible apply sr_low | with_reducible apply sr_is_number | with_reducible apply sri_Rinit | with_reducible apply sr_name | with_reducible apply sr_pair | with_reducible apply sr_Req_r | with_reducible apply sr_Req_i | with_reducible apply sr_Req_o | with_reducible apply sr_Fterms | with_reducible apply sr_Fnames | with_reducible apply sr_sameL | with_reducible apply sr_Ffac | with_reducible apply sr_Feq | with_reducible apply sr_FeqO | with_reducible apply sr_Fof | with_reducible apply sr_Radd_r | with_reducible apply sr_Radd_i | with_reducible intro _) <;> (try (show (_ : Prop); (fail_if_success (with_reducible show Ev _ _ _)); first | ((with_reducible apply sle); first | (simp only [str_len2]; omega) | with_reducible assumption | omega | decide) | ((fail_if_success (with_reducible apply sle)); first | assumption | ((with_reducible refine And.intro ?_ ?_) <;> omega) | ((fail_if_success (with_reducible refine And.intro ?_ ?_)); first | rfl | exact List.cons_ne_nil _ _ | exact Nat.le_of_ble_eq_true rfl | decide | omega | exact MulOk.right (by omega) | exact MulOk.left (by omega) | exact MulOk.of (by assumption) (by assumption) (by decide) | exact Sz.mono (by assumption) (by decide) | exact szLog (by assumption) | exact szLog (Sms.get (by assumption) (by assumption)) | exact szW (by decide) | (simp only [List.length_map, List.length_cons, List.length_nil, List.length_append, List.length_reverse]; omega))))))); done))) | with_reducible refine c_cons ?_ | with_reducible refine c_tup ?_ | with_reducible refine c_lst ?_ | with_reducible refine c_g2 ?_ | with_reducible refine c_g1 ?_ | with_reducible refine c_app ?_ | with_reducible refine c_addI ?_ | with_reducible refine c_subI ?_ | with_reducible refine c_ca ?_ | with_reducible refine c_mk ?_ | with_reducible refine c_lc1 ?_ | with_reducible refine c_rng2 ?_ | with_reducible refine c_rng3 ?_ | with_reducible refine c_nil ?_ | with_reducible refine c_c ?_ | with_reducible refine c_lc0 ?_ | ((with_reducible first | apply as1 | apply as2 | apply as3 | apply as2l | apply as3l); (repeat' first | with_reducible exact pt0 | with_reducible apply pts | with_reducible apply ns_put | with_reducible apply ns_wipe | with_reducible apply ns_wipe0 | with_reducible exact ns_id)) | ((with_reducible refine c_pow ?_ ?_ ?_ ?_); decide; decide; decide) | (with_reducible refine c_o2 o_eqI ?_) | ((with_reducible refine c_len ?_ ?_); exact rfl) | ((with_reducible refine c_lt ?_ ?_); exact rfl) | ((with_reducible refine c_mulI ?_ ?_); (first | exact MulOk.right (by omega) | exact MulOk.left (by omega)))); (try simp only [List.nil_append, List.cons_append]); (try (with_reducible apply n_st; (focus (repeat' first | with_reducible exact pt0 | with_reducible apply pts | with_reducible apply ns_put | with_reducible apply ns_wipe | with_reducible apply ns_wipe0 | with_reducible exact ns_id))))
      rename_i m m0 m1 e e0 e1
      refine c_sr (q_low (by omega) (Sz.of_lt (by omega) (by omega)) (Sz.of_lt (by omega) (by omega))) ?_
      (first | (with_reducible show Stp _) | refine Stp.run ?_); (try with_reducible refine nx_mk ?_); (with_reducible first | refine c_asg ?_ | refine c_tgt ?_ | refine c_par ?_ | skip); (repeat first | ((with_reducible apply c_draw); (exact ev_var rfl); (first | (with_reducible exact ev_c) | (focus ((focus ((repeat' first | ((with_reducible apply ev_var); exact rfl) | with_reducible exact ev_c | with_reducible apply ev_repF | with_reducible apply ev_repT | with_reducible apply ev_g2 | with_reducible apply ev_g1 | with_reducible apply eva_cons | with_reducible apply ev_tup | with_reducible apply ev_lst | with_reducible apply evt_B | with_reducible apply evt_and | with_reducible apply evt_or | with_reducible apply evt_not | with_reducible apply ev_if | with_reducible apply ev_isi | with_reducible apply ev_isN | with_reducible apply ev_fld | with_reducible apply ev_ca | with_reducible apply ev_mc | with_reducible apply ev_ci | with_reducible apply ev_con | with_reducible apply ev_mk | with_reducible apply ev_own1 | with_reducible apply ev_own2 | with_reducible apply ev_ownR | with_reducible apply ev_ownQ | with_reducible apply ev_ownN | with_reducible apply ev_ownE | with_reducible apply ev_ownEN | with_reducible apply ev_ownS | with_reducible apply ev_ownB | with_reducible apply ev_join | with_reducible apply ev_js | with_reducible apply ev_fmt | with_reducible apply ev_sl | with_reducible apply ev_andV | with_reducible apply ev_orV | with_reducible apply ev_notV | with_reducible apply ev_chain | with_reducible apply ev_cl | with_reducible apply eva_app | with_reducible apply eva_star | with_reducible apply eva_star1 | with_reducible apply evp_part | with_reducible apply evi_it | with_reducible apply evi_LL | with_reducible apply evi_TT | with_reducible apply evi_S | with_reducible apply evi_rng | with_reducible apply evi_rng2 | with_reducible apply evi_zip | with_reducible apply evi_en | with_reducible apply ev_tm | with_reducible apply ot_split | with_reducible apply ot_part | with_reducible apply o_intS | with_reducible apply o_ixS | with_reducible apply o_inL | with_reducible apply o_inTu | with_reducible apply o_inT | with_reducible apply o_pow | with_reducible apply o_rev | with_reducible apply o_strI | with_reducible apply ev_ls | with_reducible apply o_ninTu | with_reducible apply o_ixTI | with_reducible apply sr_shp | with_reducible apply sri_shp | with_reducible apply sr_same | with_reducible apply ow2_own | with_reducible apply ow2_int | with_reducible apply fm_S | with_reducible apply fm_I | with_reducible apply sl_S | with_reducible apply aev1 | with_reducible apply aev2 | with_reducible apply aev3 | with_reducible apply aevf1 | with_reducible apply aevf2 | with_reducible apply aevf3 | with_reducible exact eva_nil | with_reducible exact evt_yes | with_reducible exact evp_no | with_reducible exact ev_jsN | with_reducible exact itr_L | with_reducible exact itr_T | with_reducible exact sl_L | with_reducible exact sl_T | with_reducible exact jn_eq | with_reducible exact jn_int | with_reducible exact jn_str | with_reducible exact jn_bl | with_reducible exact jn_tup | with_reducible exact jn_lst | with_reducible exact jn_any | with_reducible exact o_eqI | with_reducible exact o_neI | with_reducible exact o_eqS | with_reducible exact o_neS | with_reducible exact o_eqB | with_reducible exact o_neB | with_reducible exact o_all | with_reducible exact o_eqT2 | with_reducible exact o_neT2 | with_reducible exact o_inS | with_reducible exact o_ninS | with_reducible exact o_eqL | with_reducible exact o_eqTu | with_reducible exact o_max2 | with_reducible exact o_tup | with_reducible exact o_tup2 | with_reducible exact o_lst | with_reducible exact o_lst2 | ((with_reducible apply ev_varT); exact rfl) | ((with_reducible apply ev_varO); exact rfl) | ((with_reducible apply o2_i); exact fun _ q => q) | ((with_reducible apply o2_i); refine fun _ zq_ => ⟨?_, zq_⟩) | ((with_reducible apply o1_i); exact fun _ q => q) | ((with_reducible apply o1_i); refine fun _ zq_ => ⟨?_, zq_⟩) | ((with_reducible apply on_i); exact fun _ q => q) | ((with_reducible apply on_i); refine fun _ zq_ => ⟨?_, zq_⟩) | ((with_reducible apply fi_i); exact rfl) | ((with_reducible apply pk_i); exact rfl) | exact pairs_ints _ _ | ((with_reducible apply mp_i); exact rfl) | with_reducible apply ev_lc | with_reducible apply ev_lcF | with_reducible apply sr_gcd | with_reducible apply sr_low | with_reducible apply sr_is_number | with_reducible apply sri_Rinit | with_reducible apply sr_name | with_reducible apply sr_pair | with_reducible apply sr_Req_r | with_reducible apply sr_Req_i | with_reducible apply sr_Req_o | with_reducible apply sr_Fterms | with_reducible apply sr_Fnames | with_reducible apply sr_sameL | with_reducible apply sr_Ffac | with_reducible apply sr_Feq | with_reducible apply sr_FeqO | with_reducible apply sr_Fof | with_reducible apply sr_Radd_r | with_reducible apply sr_Radd_i | with_reducible intro _) <;> (try (show (_ : Prop); (fail_if_success (with_reducible show Ev _ _ _)); first | ((with_reducible apply sle); first | (simp only [str_len2]; omega) | with_reducible assumption | omega | decide) | ((fail_if_success (with_reducible apply sle)); first | assumption | ((with_reducible refine And.intro ?_ ?_) <;> omega) | ((fail_if_success (with_reducible refine And.intro ?_ ?_)); first | rfl | exact List.cons_ne_nil _ _ | exact Nat.le_of_ble_eq_true rfl | decide | omega | exact MulOk.right (by omega) | exact MulOk.left (by omega) | exact MulOk.of (by assumption) (by assumption) (by decide) | exact Sz.mono (by assumption) (by decide) | exact szLog (by assumption) | exact szLog (Sms.get (by assumption) (by assumption)) | exact szW (by decide) | (simp only [List.length_map, List.length_cons, List.length_nil, List.length_append, List.length_reverse]; omega))))))); done))); decide; (exact divW (by decide) (by decide)); intro _ _ _) | ((with_reducible apply c_var); exact rfl) | ((with_reducible apply c_ev); (focus ((focus ((repeat' first | ((with_reducible apply ev_var); exact rfl) | with_reducible exact ev_c | with_reducible apply ev_repF | with_reducible apply ev_repT | with_reducible apply ev_g2 | with_reducible apply ev_g1 | with_reducible apply eva_cons | with_reducible apply ev_tup | with_reducible apply ev_lst | with_reducible apply evt_B | with_reducible apply evt_and | with_reducible apply evt_or | with_reducible apply evt_not | with_reducible apply ev_if | with_reducible apply ev_isi | with_reducible apply ev_isN | with_reducible apply ev_fld | with_reducible apply ev_ca | with_reducible apply ev_mc | with_reducible apply ev_ci | with_reducible apply ev_con | with_reducible apply ev_mk | with_reducible apply ev_own1 | with_reducible apply ev_own2 | with_reducible apply ev_ownR | with_reducible apply ev_ownQ | with_reducible apply ev_ownN | with_reducible apply ev_ownE | with_reducible apply ev_ownEN | with_reducible apply ev_ownS | with_reducible apply ev_ownB | with_reducible apply ev_join | with_reducible apply ev_js | with_reducible apply ev_fmt | with_reducible apply ev_sl | with_reducible apply ev_andV | with_reducible apply ev_orV | with_reducible apply ev_notV | with_reducible apply ev_chain | with_reducible apply ev_cl | with_reducible apply eva_app | with_reducible apply eva_star | with_reducible apply eva_star1 | with_reducible apply evp_part | with_reducible apply evi_it | with_reducible apply evi_LL | with_reducible apply evi_TT | with_reducible apply evi_S | with_reducible apply evi_rng | with_reducible apply evi_rng2 | with_reducible apply evi_zip | with_reducible apply evi_en | with_reducible apply ev_tm | with_reducible apply ot_split | with_reducible apply ot_part | with_reducible apply o_intS | with_reducible apply o_ixS | with_reducible apply o_inL | with_reducible apply o_inTu | with_reducible apply o_inT | with_reducible apply o_pow | with_reducible apply o_rev | with_reducible apply o_strI | with_reducible apply ev_ls | with_reducible apply o_ninTu | with_reducible apply o_ixTI | with_reducible apply sr_shp | with_reducible apply sri_shp | with_reducible apply sr_same | with_reducible apply ow2_own | with_reducible apply ow2_int | with_reducible apply fm_S | with_reducible apply fm_I | with_reducible apply sl_S | with_reducible apply aev1 | with_reducible apply aev2 | with_reducible apply aev3 | with_reducible apply aevf1 | with_reducible apply aevf2 | with_reducible apply aevf3 | with_reducible exact eva_nil | with_reducible exact evt_yes | with_reducible exact evp_no | with_reducible exact ev_jsN | with_reducible exact itr_L | with_reducible exact itr_T | with_reducible exact sl_L | with_reducible exact sl_T | with_reducible exact jn_eq | with_reducible exact jn_int | with_reducible exact jn_str | with_reducible exact jn_bl | with_reducible exact jn_tup | with_reducible exact jn_lst | with_reducible exact jn_any | with_reducible exact o_eqI | with_reducible exact o_neI | with_reducible exact o_eqS | with_reducible exact o_neS | with_reducible exact o_eqB | with_reducible exact o_neB | with_reducible exact o_all | with_reducible exact o_eqT2 | with_reducible exact o_neT2 | with_reducible exact o_inS | with_reducible exact o_ninS | with_reducible exact o_eqL | with_reducible exact o_eqTu | with_reducible exact o_max2 | with_reducible exact o_tup | with_reducible exact o_tup2 | with_reducible exact o_lst | with_reducible exact o_lst2 | ((with_reducible apply ev_varT); exact rfl) | ((with_reducible apply ev_varO); exact rfl) | ((with_reducible apply o2_i); exact fun _ q => q) | ((with_reducible apply o2_i); refine fun _ zq_ => ⟨?_, zq_⟩) | ((with_reducible apply o1_i); exact fun _ q => q) | ((with_reducible apply o1_i); refine fun _ zq_ => ⟨?_, zq_⟩) | ((with_reducible apply on_i); exact fun _ q => q) | ((with_reducible apply on_i); refine fun _ zq_ => ⟨?_, zq_⟩) | ((with_reducible apply fi_i); exact rfl) | ((with_reducible apply pk_i); exact rfl) | exact pairs_ints _ _ | ((with_reducible apply mp_i); exact rfl) | with_reducible apply ev_lc | with_reducible apply ev_lcF | with_reducible apply sr_gcd | with_reducible apply sr_low | with_reducible apply sr_is_number | with_reducible apply sri_Rinit | with_reducible apply sr_name | with_reducible apply sr_pair | with_reducible apply sr_Req_r | with_reducible apply sr_Req_i | with_reducible apply sr_Req_o | with_reducible apply sr_Fterms | with_reducible apply sr_Fnames | with_reducible apply sr_sameL | with_reducible apply sr_Ffac | with_reducible apply sr_Feq | with_reducible apply sr_FeqO | with_reducible apply sr_Fof | with_reducible apply sr_Radd_r | with_reducible apply sr_Radd_i | with_reducible intro _) <;> (try (show (_ : Prop); (fail_if_success (with_reducible show Ev _ _ _)); first | ((with_reducible apply sle); first | (simp only [str_len2]; omega) | with_reducible assumption | omega | decide) | ((fail_if_success (with_reducible apply sle)); first | assumption | ((with_reducible refine And.intro ?_ ?_) <;> omega) | ((fail_if_success (with_reducible refine And.intro ?_ ?_)); first | rfl | exact List.cons_ne_nil _ _ | exact Nat.le_of_ble_eq_true rfl | decide | omega | exact MulOk.right (by omega) | exact MulOk.left (by omega) | exact MulOk.of (by assumption) (by assumption) (by decide) | exact Sz.mono (by assumption) (by decide) | exact szLog (by assumption) | exact szLog (Sms.get (by assumption) (by assumption)) | exact szW (by decide) | (simp only [List.length_map, List.length_cons, List.length_nil, List.length_append, List.length_reverse]; omega))))))); done))) | with_reducible refine c_cons ?_ | with_reducible refine c_tup ?_ | with_reducible refine c_lst ?_ | with_reducible refine c_g2 ?_ | with_reducible refine c_g1 ?_ | with_reducible refine c_app ?_ | with_reducible refine c_addI ?_ | with_reducible refine c_subI ?_ | with_reducible refine c_ca ?_ | with_reducible refine c_mk ?_ | with_reducible refine c_lc1 ?_ | with_reducible refine c_rng2 ?_ | with_reducible refine c_rng3 ?_ | with_reducible refine c_nil ?_ | with_reducible refine c_c ?_ | with_reducible refine c_lc0 ?_ | ((with_reducible first | apply as1 | apply as2 | apply as3 | apply as2l | apply as3l); (repeat' first | with_reducible exact pt0 | with_reducible apply pts | with_reducible apply ns_put | with_reducible apply ns_wipe | with_reducible apply ns_wipe0 | with_reducible exact ns_id)) | ((with_reducible refine c_pow ?_ ?_ ?_ ?_); decide; decide; decide) | (with_reducible refine c_o2 o_eqI ?_) | ((with_reducible refine c_len ?_ ?_); exact rfl) | ((with_reducible refine c_lt ?_ ?_); exact rfl) | ((with_reducible refine c_mulI ?_ ?_); (first | exact MulOk.right (by omega) | exact MulOk.left (by omega)))); (try simp only [List.nil_append, List.cons_append]); (try (with_reducible apply n_st; (focus (repeat' first | with_reducible exact pt0 | with_reducible apply pts | with_reducible apply ns_put | with_reducible apply ns_wipe | with_reducible apply ns_wipe0 | with_reducible exact ns_id))))
      exact ⟨hkk _ ⟨_, qz_div (Sz.of_lt (by omega) (by omega)) (Sz.of_lt (by omega) (by omega)) (by omega), rfl⟩⟩
    obtain ⟨l, rfl, lx, lb⟩ := fa2_pairs (xs := xs) rfl hys
    have ld : ((l.map fun p => (p.1, pairQ p.2)).map (·.1)).Nodup := by rw [fst_map pairQ l, lx]; exact xd
    have ld2 : (l.map (·.1)).Nodup := by rw [lx]; exact xd
    rw [List.nil_append]
    refine Stp.mk (o_dictPS ld _ (Stp.run ?_))
    (first | (with_reducible show Stp _) | refine Stp.run ?_); (try with_reducible refine nx_mk ?_); (with_reducible apply n_st); (focus (repeat' first | with_reducible exact pt0 | with_reducible apply pts | with_reducible apply ns_put | with_reducible apply ns_wipe | with_reducible apply ns_wipe0 | with_reducible exact ns_id))
    have mark1 : True := trivial
    have zL : ∀ x ∈ xs, QZ 5 (cf l x) := fun x hx => lb _ (getS_mem (z := (0 : Rat)) (by rw [lx]; exact hx))
    have hvL : ∀ x ∈ xs, valS (l.map fun p => (p.1, pairQ p.2)) x = pairQ (cf l x) := fun x hx => valS_map (z := (0 : Rat)) pairQ (by rw [lx]; exact hx)
    have hiL : ∀ x ∈ xs, x ∈ (l.map fun p => (p.1, pairQ p.2)).map (·.1) := fun x hx => by rw [fst_map pairQ l, lx]; exact hx
    refine c_asg ?_
    (first | (with_reducible show Stp _) | refine Stp.run ?_); (try with_reducible refine nx_mk ?_); (with_reducible first | refine c_asg ?_ | refine c_tgt ?_ | refine c_par ?_ | skip); (repeat first | ((with_reducible apply c_draw); (exact ev_var rfl); (first | (with_reducible exact ev_c) | (focus ((focus ((repeat' first | ((with_reducible apply ev_var); exact rfl) | with_reducible exact ev_c | with_reducible apply ev_repF | with_reducible apply ev_repT | with_reducible apply ev_g2 | with_reducible apply ev_g1 | with_reducible apply eva_cons | with_reducible apply ev_tup | with_reducible apply ev_lst | with_reducible apply evt_B | with_reducible apply evt_and | with_reducible apply evt_or | with_reducible apply evt_not | with_reducible apply ev_if | with_reducible apply ev_isi | with_reducible apply ev_isN | with_reducible apply ev_fld | with_reducible apply ev_ca | with_reducible apply ev_mc | with_reducible apply ev_ci | with_reducible apply ev_con | with_reducible apply ev_mk | with_reducible apply ev_own1 | with_reducible apply ev_own2 | with_reducible apply ev_ownR | with_reducible apply ev_ownQ | with_reducible apply ev_ownN | with_reducible apply ev_ownE | with_reducible apply ev_ownEN | with_reducible apply ev_ownS | with_reducible apply ev_ownB | with_reducible apply ev_join | with_reducible apply ev_js | with_reducible apply ev_fmt | with_reducible apply ev_sl | with_reducible apply ev_andV | with_reducible apply ev_orV | with_reducible apply ev_notV | with_reducible apply ev_chain | with_reducible apply ev_cl | with_reducible apply eva_app | with_reducible apply eva_star | with_reducible apply eva_star1 | with_reducible apply evp_part | with_reducible apply evi_it | with_reducible apply evi_LL | with_reducible apply evi_TT | with_reducible apply evi_S | with_reducible apply evi_rng | with_reducible apply evi_rng2 | with_reducible apply evi_zip | with_reducible apply evi_en | with_reducible apply ev_tm | with_reducible apply ot_split | with_reducible apply ot_part | with_reducible apply o_intS | with_reducible apply o_ixS | with_reducible apply o_inL | with_reducible apply o_inTu | with_reducible apply o_inT | with_reducible apply o_pow | with_reducible apply o_rev | with_reducible apply o_strI | with_reducible apply ev_ls | with_reducible apply o_ninTu | with_reducible apply o_ixTI | with_reducible apply sr_shp | with_reducible apply sri_shp | with_reducible apply sr_same | with_reducible apply ow2_own | with_reducible apply ow2_int | with_reducible apply fm_S | with_reducible apply fm_I | with_reducible apply sl_S | with_reducible apply aev1 | with_reducible apply aev2 | with_reducible apply aev3 | with_reducible apply aevf1 | with_reducible apply aevf2 | with_reducible apply aevf3 | with_reducible exact eva_nil | with_reducible exact evt_yes | with_reducible exact evp_no | with_reducible exact ev_jsN | with_reducible exact itr_L | with_reducible exact itr_T | with_reducible exact sl_L | with_reducible exact sl_T | with_reducible exact jn_eq | with_reducible exact jn_int | with_reducible exact jn_str | with_reducible exact jn_bl | with_reducible exact jn_tup | with_reducible exact jn_lst | with_reducible exact jn_any | with_reducible exact o_eqI | with_reducible exact o_neI | with_reducible exact o_eqS | with_reducible exact o_neS | with_reducible exact o_eqB | with_reducible exact o_neB | with_reducible exact o_all | with_reducible exact o_eqT2 | with_reducible exact o_neT2 | with_reducible exact o_inS | with_reducible exact o_ninS | with_reducible exact o_eqL | with_reducible exact o_eqTu | with_reducible exact o_max2 | with_reducible exact o_tup | with_reducible exact o_tup2 | with_reducible exact o_lst | with_reducible exact o_lst2 | ((with_reducible apply ev_varT); exact rfl) | ((with_reducible apply ev_varO); exact rfl) | ((with_reducible apply o2_i); exact fun _ q => q) | ((with_reducible apply o2_i); refine fun _ zq_ => ⟨?_, zq_⟩) | ((with_reducible apply o1_i); exact fun _ q => q) | ((with_reducible apply o1_i); refine fun _ zq_ => ⟨?_, zq_⟩) | ((with_reducible apply on_i); exact fun _ q => q) | ((with_reducible apply on_i); refine fun _ zq_ => ⟨?_, zq_⟩) | ((with_reducible apply fi_i); exact rfl) | ((with_reducible apply pk_i); exact rfl) | exact pairs_ints _ _ | ((with_reducible apply mp_i); exact rfl) | with_reducible apply ev_lc | with_reducible apply ev_lcF | with_reducible apply sr_gcd | with_reducible apply sr_low | with_reducible apply sr_is_number | with_reducible apply sri_Rinit | with_reducible apply sr_name | with_reducible apply sr_pair | with_reducible apply sr_Req_r | with_reducible apply sr_Req_i | with_reducible apply sr_Req_o | with_reducible apply sr_Fterms | with_reducible apply sr_Fnames | with_reducible apply sr_sameL | with_reducible apply sr_Ffac | with_reducible apply sr_Feq | with_reducible apply sr_FeqO | with_reducible apply sr_Fof | with_reducible apply sr_Radd_r | with_reducible apply sr_Radd_i | with_reducible intro _) <;> (try (show (_ : Prop); (fail_if_success (with_reducible show Ev _ _ _)); first | ((with_reducible apply sle); first | (simp only [str_len2]; omega) | with_reducible assumption | omega | decide) | ((fail_if_success (with_reducible apply sle)); first | assumption | ((with_reducible refine And.intro ?_ ?_) <;> omega) | ((fail_if_success (with_reducible refine And.intro ?_ ?_)); first | rfl | exact List.cons_ne_nil _ _ | exact Nat.le_of_ble_eq_true rfl | decide | omega | exact MulOk.right (by omega) | exact MulOk.left (by omega) | exact MulOk.of (by assumption) (by assumption) (by decide) | exact Sz.mono (by assumption) (by decide) | exact szLog (by assumption) | exact szLog (Sms.get (by assumption) (by assumption)) | exact szW (by decide) | (simp only [List.length_map, List.length_cons, List.length_nil, List.length_append, List.length_reverse]; omega))))))); done))); decide; (exact divW (by decide) (by decide)); intro _ _ _) | ((with_reducible apply c_var); exact rfl) | ((with_reducible apply c_ev); (focus ((focus ((repeat' first | ((with_reducible apply ev_var); exact rfl) | with_reducible exact ev_c | with_reducible apply ev_repF | with_reducible apply ev_repT | with_reducible apply ev_g2 | with_reducible apply ev_g1 | with_reducible apply eva_cons | with_reducible apply ev_tup | with_reducible apply ev_lst | with_reducible apply evt_B | with_reducible apply evt_and | with_reducible apply evt_or | with_reducible apply evt_not | with_reducible apply ev_if | with_reducible apply ev_isi | with_reducible apply ev_isN | with_reducible apply ev_fld | with_reducible apply ev_ca | with_reducible apply ev_mc | with_reducible apply ev_ci | with_reducible apply ev_con | with_reducible apply ev_mk | with_reducible apply ev_own1 | with_reducible apply ev_own2 | with_reducible apply ev_ownR | with_reducible apply ev_ownQ | with_reducible apply ev_ownN | with_reducible apply ev_ownE | with_reducible apply ev_ownEN | with_reducible apply ev_ownS | with_reducible apply ev_ownB | with_reducible apply ev_join | with_reducible apply ev_js | with_reducible apply ev_fmt | with_reducible apply ev_sl | with_reducible apply ev_andV | with_reducible apply ev_orV | with_reducible apply ev_notV | with_reducible apply ev_chain | with_reducible apply ev_cl | with_reducible apply eva_app | with_reducible apply eva_star | with_reducible apply eva_star1 | with_reducible apply evp_part | with_reducible apply evi_it | with_reducible apply evi_LL | with_reducible apply evi_TT | with_reducible apply evi_S | with_reducible apply evi_rng | with_reducible apply evi_rng2 | with_reducible apply evi_zip | with_reducible apply evi_en | with_reducible apply ev_tm | with_reducible apply ot_split | with_reducible apply ot_part | with_reducible apply o_intS | with_reducible apply o_ixS | with_reducible apply o_inL | with_reducible apply o_inTu | with_reducible apply o_inT | with_reducible apply o_pow | with_reducible apply o_rev | with_reducible apply o_strI | with_reducible apply ev_ls | with_reducible apply o_ninTu | with_reducible apply o_ixTI | with_reducible apply sr_shp | with_reducible apply sri_shp | with_reducible apply sr_same | with_reducible apply ow2_own | with_reducible apply ow2_int | with_reducible apply fm_S | with_reducible apply fm_I | with_reducible apply sl_S | with_reducible apply aev1 | with_reducible apply aev2 | with_reducible apply aev3 | with_reducible apply aevf1 | with_reducible apply aevf2 | with_reducible apply aevf3 | with_reducible exact eva_nil | with_reducible exact evt_yes | with_reducible exact evp_no | with_reducible exact ev_jsN | with_reducible exact itr_L | with_reducible exact itr_T | with_reducible exact sl_L | with_reducible exact sl_T | with_reducible exact jn_eq | with_reducible exact jn_int | with_reducible exact jn_str | with_reducible exact jn_bl | with_reducible exact jn_tup | with_reducible exact jn_lst | with_reducible exact jn_any | with_reducible exact o_eqI | with_reducible exact o_neI | with_reducible exact o_eqS | with_reducible exact o_neS | with_reducible exact o_eqB | with_reducible exact o_neB | with_reducible exact o_all | with_reducible exact o_eqT2 | with_reducible exact o_neT2 | with_reducible exact o_inS | with_reducible exact o_ninS | with_reducible exact o_eqL | with_reducible exact o_eqTu | with_reducible exact o_max2 | with_reducible exact o_tup | with_reducible exact o_tup2 | with_reducible exact o_lst | with_reducible exact o_lst2 | ((with_reducible apply ev_varT); exact rfl) | ((with_reducible apply ev_varO); exact rfl) | ((with_reducible apply o2_i); exact fun _ q => q) | ((with_reducible apply o2_i); refine fun _ zq_ => ⟨?_, zq_⟩) | ((with_reducible apply o1_i); exact fun _ q => q) | ((with_reducible apply o1_i); refine fun _ zq_ => ⟨?_, zq_⟩) | ((with_reducible apply on_i); exact fun _ q => q) | ((with_reducible apply on_i); refine fun _ zq_ => ⟨?_, zq_⟩) | ((with_reducible apply fi_i); exact rfl) | ((with_reducible apply pk_i); exact rfl) | exact pairs_ints _ _ | ((with_reducible apply mp_i); exact rfl) | with_reducible apply ev_lc | with_reducible apply ev_lcF | with_reducible apply sr_gcd | with_reducible apply sr_low | with_reducible apply sr_is_number | with_reducible apply sri_Rinit | with_reducible apply sr_name | with_reducible apply sr_pair | with_reducible apply sr_Req_r | with_reducible apply sr_Req_i | with_reducible apply sr_Req_o | with_reducible apply sr_Fterms | with_reducible apply sr_Fnames | with_reducible apply sr_sameL | with_reducible apply sr_Ffac | with_reducible apply sr_Feq | with_reducible apply sr_FeqO | with_reducible apply sr_Fof | with_reducible apply sr_Radd_r | with_reducible apply sr_Radd_i | with_reducible intro _) <;> (try (show (_ : Prop); (fail_if_success (with_reducible show Ev _ _ _)); first | ((with_reducible apply sle); first | (simp only [str_len2]; omega) | with_reducible assumption | omega | decide) | ((fail_if_success (with_reducible apply sle)); first | assumption | ((with_reducible refine And.intro ?_ ?_) <;> omega) | ((fail_if_success (with_reducible refine And.intro ?_ ?_)); first | rfl | exact List.cons_ne_nil _ _ | exact Nat.le_of_ble_eq_true rfl | decide | omega | exact MulOk.right (by omega) | exact MulOk.left (by omega) | exact MulOk.of (by assumption) (by assumption) (by decide) | exact Sz.mono (by assumption) (by decide) | exact szLog (by assumption) | exact szLog (Sms.get (by assumption) (by assumption)) | exact szW (by decide) | (simp only [List.length_map, List.length_cons, List.length_nil, List.length_append, List.length_reverse]; omega))))))); done))) | with_reducible refine c_cons ?_ | with_reducible refine c_tup ?_ | with_reducible refine c_lst ?_ | with_reducible refine c_g2 ?_ | with_reducible refine c_g1 ?_ | with_reducible refine c_app ?_ | with_reducible refine c_addI ?_ | with_reducible refine c_subI ?_ | with_reducible refine c_ca ?_ | with_reducible refine c_mk ?_ | with_reducible refine c_lc1 ?_ | with_reducible refine c_rng2 ?_ | with_reducible refine c_rng3 ?_ | with_reducible refine c_nil ?_ | with_reducible refine c_c ?_ | with_reducible refine c_lc0 ?_ | ((with_reducible first | apply as1 | apply as2 | apply as3 | apply as2l | apply as3l); (repeat' first | with_reducible exact pt0 | with_reducible apply pts | with_reducible apply ns_put | with_reducible apply ns_wipe | with_reducible apply ns_wipe0 | with_reducible exact ns_id)) | ((with_reducible refine c_pow ?_ ?_ ?_ ?_); decide; decide; decide) | (with_reducible refine c_o2 o_eqI ?_) | ((with_reducible refine c_len ?_ ?_); exact rfl) | ((with_reducible refine c_lt ?_ ?_); exact rfl) | ((with_reducible refine c_mulI ?_ ?_); (first | exact MulOk.right (by omega) | exact MulOk.left (by omega)))); (try simp only [List.nil_append, List.cons_append]); (try (with_reducible apply n_st; (focus (repeat' first | with_reducible exact pt0 | with_reducible apply pts | with_reducible apply ns_put | with_reducible apply ns_wipe | with_reducible apply ns_wipe0 | with_reducible exact ns_id))))
    rename_i p p0 p1 q q0 q1
    refine c_sr (q_low (by omega) (Sz.of_lt (by omega) (by omega)) (Sz.of_lt (by omega) (by omega))) ?_
    have zC : QZ 4 (Rat.divInt (p - 6) (1 + q)) := qz_div (Sz.of_lt (by omega) (by omega)) (Sz.of_lt (by omega) (by omega)) (by omega)
    revert zC
    generalize Rat.divInt (p - 6) (1 + q) = C
    intro zC
    (first | (with_reducible show Stp _) | refine Stp.run ?_); (try with_reducible refine nx_mk ?_); (with_reducible apply n_st); (focus (repeat' first | with_reducible exact pt0 | with_reducible apply pts | with_reducible apply ns_put | with_reducible apply ns_wipe | with_reducible apply ns_wipe0 | with_reducible exact ns_id))
    have mark2 : True := trivial
    refine c_asgDN ?_
    refine c_lc (evi_it (ev_var rfl) itr_L) (Stp.mk ?_)
    refine lcD_rel (fun d y => ∃ (x : Str) (v : D), d = .str x ∧ isPQ v (cf l x) ∧ y = .tup [d, v]) _ _ _ (fun d hd kk hkk => ?_) (by rw [List.length_map, List.length_nil]; omega) (fun ys hys => Stp.run ?_)
    · obtain ⟨x, hx, rfl⟩ := List.mem_map.mp hd
      refine Stp.run ?_
      (first | (with_reducible show Stp _) | refine Stp.run ?_); (with_reducible first | apply as1 | apply as2 | apply as3 | apply as2l | apply as3l); (repeat' first | with_reducible exact pt0 | with_reducible apply pts | with_reducible apply ns_put | with_reducible apply ns_wipe | with_reducible apply ns_wipe0 | with_reducible exact ns_id)
      refine c_tup ?_
      refine c_cons ?_
      refine c_ev (ev_var rfl) ?_
      refine c_cons ?_
      have mark3 : True := trivial
      refine c_ifdraw rfl (by decide) (divW (by decide) (by decide)) fun n n0 n1 => ?_
      have hv := hvL x hx
      have hi := hiL x hx
      cases c : (n == 0 || decide (((cf l x).den : Int) > 1)) with
      | true =>
        refine c_ev (ev_ifT (evt_or (evt_B (ev_g2 ev_c ev_c o_eqI)) fun _ => evt_B (ev_g2 (ev_g2 (ev_g2 (ev_var rfl) (ev_var rfl) (o_dgetS hi hv)) ev_c o_ix21) ev_c (.mk fun k q => q))) c (ev_mk (eva_cons (ev_g2 (ev_g2 (ev_var rfl) (ev_var rfl) (o_dgetS hi hv)) ev_c o_ix20) (eva_cons (ev_g2 (ev_g2 (ev_var rfl) (ev_var rfl) (o_dgetS hi hv)) ev_c o_ix21) eva_nil)) (sri_shp (es := [.int (cf l x).num, .int ((cf l x).den : Int)]) (q_ratioQ _ (zL x hx) (by decide)) rfl rfl))) ?_
        exact ⟨⟨by show 2 ≤ 1000; decide, hkk _ ⟨x, _, rfl, isPQ_rat _, rfl⟩⟩⟩
      | false =>
        refine c_ev (ev_ifF (evt_or (evt_B (ev_g2 ev_c ev_c o_eqI)) fun _ => evt_B (ev_g2 (ev_g2 (ev_g2 (ev_var rfl) (ev_var rfl) (o_dgetS hi hv)) ev_c o_ix21) ev_c (.mk fun k q => q))) c (ev_g2 (ev_g2 (ev_var rfl) (ev_var rfl) (o_dgetS hi hv)) ev_c o_ix20)) ?_
        rw [Bool.or_eq_false_iff] at c
        exact ⟨⟨by show 2 ≤ 1000; decide, hkk _ ⟨x, _, rfl, .inr ⟨_, rfl, den1 c.2⟩, rfl⟩⟩⟩
    have mark4 : True := trivial
    obtain ⟨m, rfl, mx, mq⟩ := fa2_isPQ (f := cf l) (xs := xs) rfl hys
    rw [List.nil_append]
    refine c_dictPO (by rw [mx]; exact xd) ?_
    (first | (with_reducible show Stp _) | refine Stp.run ?_); (try with_reducible refine nx_mk ?_); (with_reducible apply n_st); (focus (repeat' first | with_reducible exact pt0 | with_reducible apply pts | with_reducible apply ns_put | with_reducible apply ns_wipe | with_reducible apply ns_wipe0 | with_reducible exact ns_id))
    have hES : ∃ ES : List Str, ES = (sortStr xs).filter fun n => decide (cf l n ≠ 0) := ⟨_, rfl⟩
    obtain ⟨ES, hES⟩ := hES
    have eM : termsQ m = ES.map fun n => (n, cf l n) := by
      rw [hES, ← mx]
      exact termsQ_fun fun n hn => (mq _ (valS_mem hn)).part
    have eX : ∀ n ∈ ES, n ∈ xs := fun n hn => by rw [hES] at hn; exact sort_mem.mp (List.mem_filter.mp hn).1
    have e5 : ES.length ≤ 5 := by
      rw [hES]
      refine Nat.le_trans (List.length_filter_le _ _) ?_
      rw [sort_len]; exact x5
    have en : ES.Nodup := by rw [hES]; exact ((sortStr_perm _).nodup_iff.mpr xd).filter _
    have es : sortStr ES = ES := sort_self (by rw [hES]; exact (sortStr_pw _).filter _)
    have ez : ∀ n ∈ ES, cf l n ≠ 0 := fun n hn => by rw [hES] at hn; exact of_decide_eq_true (List.mem_filter.mp hn).2
    have m5 : m.length ≤ 5 := by have := congrArg List.length mx; rw [List.length_map] at this; omega
    have qM := q_FinitF (l := m) (z := ratQ C) (q := C) (by rw [mx]; exact xd) (by omega) (fun p hp => ⟨xn _ (by rw [← mx]; exact List.mem_map_of_mem hp), by rw [(mq p hp).part]; exact mq p hp⟩) (isPQ_rat C)
    rw [eM] at qM
    have kT : ((ES.map fun n => (n, cf l n)).map (·.1)) = ES := keys_fun _ _
    have mark5 : True := trivial
    with_reducible apply s_asg (d := frm C (ES.map fun n => (n, cf l n)))
    · exact ev_ldD rfl (ev_mk (eva_app (eva_cons (ev_var rfl) eva_nil) (eva_cons (ev_mk (eva_cons (ev_g2 (ev_var rfl) ev_c o_ix20) (eva_cons (ev_g2 (ev_var rfl) ev_c o_ix21) eva_nil)) (sri_shp (es := [.int C.num, .int (C.den : Int)]) (q_ratioQ C zC (by decide)) rfl rfl)) eva_nil)) (sri_shp (es := [frdS m, ratQ C]) qM rfl rfl)) (noF_frm _ _)
    · (focus (repeat' first | with_reducible exact pt0 | with_reducible apply pts | with_reducible intro _))
    with_reducible apply s_dclr (l := m)
    · rfl
    · (focus (repeat' first | with_reducible exact pt0 | with_reducible apply pts | with_reducible intro _))
    with_reducible apply s_pubD (l := [])
    · rfl
    · (focus (repeat' first | with_reducible exact pt0 | with_reducible apply pts | with_reducible intro _))
    have mark6 : True := trivial
    with_reducible apply s_asg (d := dicS (ES.map fun n => (n, pairQ (cf l n))))
    · refine ev_g1 (Ev.eq (ev_lcF (l := sortStr xs) (gg := D.str) (f := fun n => .tup [.str n, pairQ (cf l n)]) (p := fun n => decide (cf l n ≠ 0)) (evi_it (ev_g1 (ev_var rfl) (o_sortS (by omega))) itr_L) rfl (fun n hn => aevf1 (EvT.eq (evt_B (ev_g2 (ev_g2 (ev_g2 (ev_var rfl) (ev_var rfl) (o_dgetS (hiL n (sort_mem.mp hn)) (hvL n (sort_mem.mp hn)))) ev_c o_ix20) ev_c o_neI)) ?_) (fun _ => ev_tup (eva_cons (ev_var rfl) (eva_cons (ev_g2 (ev_var rfl) (ev_var rfl) (o_dgetS (hiL n (sort_mem.mp hn)) (hvL n (sort_mem.mp hn)))) eva_nil)) (Nat.le_of_ble_eq_true rfl))) (by rw [sort_len]; omega)) ?_) (o_dictPS (l := ES.map fun n => (n, pairQ (cf l n))) (by rw [keys_fun]; exact en))
      · rw [num0]; simp
      · rw [← hES, List.map_map]; rfl
    · (focus (repeat' first | with_reducible exact pt0 | with_reducible apply pts | with_reducible intro _))
    have mark7 : True := trivial
    have kU : ((ES.map fun n => (n, ratQ (cf l n))).map (·.1)) = ES := keys_fun _ _
    have kD : ((ES.map fun n => (n, pairQ (cf l n))).map (·.1)) = ES := keys_fun _ _
    have dQ : dicQ (ES.map fun n => (n, cf l n)) = dicS (ES.map fun n => (n, ratQ (cf l n))) := by
      show dicS _ = dicS _
      rw [List.map_map]; rfl
    have fL : ∀ n ∈ ES, valS (ES.map fun n => (n, ratQ (cf l n))) n = ratQ (cf l n) := fun n hn => valS_fun hn
    have fD : ∀ n ∈ ES, valS (ES.map fun n => (n, pairQ (cf l n))) n = pairQ (cf l n) := fun n hn => valS_fun hn
    with_reducible apply s_for
    · exact evi_rng ev_c (by decide)
    refine forS_inv (fun σ => ∃ b10 b11, σ = [SD.unset, SD.sh D.bag, SD.sh d, SD.sh (.lst (xs.map .str)), SD.sh (dicS (l.map fun p => (p.1, pairQ p.2))), a5, SD.sh (pairQ C), SD.sh (dicS []), SD.sh (frm C (ES.map fun n => (n, cf l n))), SD.sh (dicS (ES.map fun n => (n, pairQ (cf l n)))), b10, b11, a12, a13, a14, a15, a16, a17, a18, a19, a20, a21]) (fun sd hsd σ D2 hI hN2 hR2 => ?_) _ ⟨_, _, rfl⟩ (fun σ hI => ?_)
    · obtain ⟨b10, b11, rfl⟩ := hI
      (first | (with_reducible show Stp _) | refine Stp.run ?_); (with_reducible first | apply as1 | apply as2 | apply as3 | apply as2l | apply as3l); (repeat' first | with_reducible exact pt0 | with_reducible apply pts | with_reducible apply ns_put | with_reducible apply ns_wipe | with_reducible apply ns_wipe0 | with_reducible exact ns_id)
      with_reducible apply s_asgFD (l := ES.map fun n => (n, ratQ (cf l n)))
      · exact Ev.eq (ev_mc (ev_var rfl) (by decide) eva_nil sr_Fterms) dQ
      · (focus (repeat' first | with_reducible exact pt0 | with_reducible apply pts | with_reducible intro _))
      have mark8 : True := trivial
      have gL : goodL (.lst [.lst (ES.map .str), .lst (ES.map .str), .lst (ES.map fun n => pairQ (cf l n)), pairQ C]) = true := by
        simp [goodL, goodLs, good_strs, good_prs]
        omega
      have dL : dep (.lst [.lst (ES.map .str), .lst (ES.map .str), .lst (ES.map fun n => pairQ (cf l n)), pairQ C]) < 8 := by
        show max (deps (ES.map .str) + 1) (max (deps (ES.map .str) + 1) (max (deps (ES.map fun n => pairQ (cf l n)) + 1) (max 1 0))) + 1 < 8
        have := deps_prs (cf l) ES
        rw [deps_strs]; omega
      refine s_ifFN (evt_not (evt_B (ev_ca (eva_cons (d := .lst [.lst (ES.map .str), .lst (ES.map .str), .lst (ES.map fun n => pairQ (cf l n)), pairQ C]) ?_ (eva_cons (d := .lst [.lst (ES.map .str), .lst (ES.map .str), .lst (ES.map fun n => pairQ (cf l n)), pairQ C]) ?_ eva_nil)) (sr_sameL rfl gL dL)))) rfl ?_
      · refine ev_lst (eva_cons (Ev.eq (ev_mc (ev_var rfl) (by decide) eva_nil sr_Fnames) (by rw [kT])) (eva_cons (Ev.eq (ev_g1 (ev_lkD rfl (Ev.eq (ev_g1 (ev_var rfl) o_listS) (y := .lst (ES.map .str)) (by rw [kU])) (noK_strs ES)) (o_sortS (by omega))) (by rw [es])) (eva_cons (ev_lkD rfl (Ev.eq (ev_lc (l := ES) (gg := D.str) (f := fun n => pairQ (cf l n)) (evi_it (Ev.eq (ev_g1 (Ev.eq (ev_g1 (ev_var rfl) o_listS) (y := .lst (ES.map .str)) (by rw [kU])) (o_sortS (by omega))) (by rw [es])) itr_L) rfl (fun n hn => aev1 (ev_mc (ev_g2 (ev_var rfl) (ev_var rfl) (o_dgetS (by rw [kU]; exact hn) (fL n hn))) (by decide) eva_nil sr_pair)) (by omega)) rfl) (noK_prs (cf l) ES)) (eva_cons (ev_mc (ev_fld (ev_var rfl) rfl) (by decide) eva_nil sr_pair) eva_nil)))) (Nat.le_of_ble_eq_true rfl)
      · refine ev_lst (eva_cons (Ev.eq (ev_g1 (ev_var rfl) o_listS) (by rw [kD])) (eva_cons (Ev.eq (ev_g1 (ev_var rfl) o_listS) (by rw [kD])) (eva_cons (Ev.eq (ev_lc (l := ES) (gg := D.str) (f := fun n => pairQ (cf l n)) (evi_keysS (ev_var rfl)) (by rw [List.map_map]; rfl) (fun n hn => aev1 (ev_g2 (ev_var rfl) (ev_var rfl) (o_dgetS (by rw [kD]; exact hn) (fD n hn)))) (by omega)) rfl) (eva_cons (ev_var rfl) eva_nil)))) (Nat.le_of_ble_eq_true rfl)
      have mark9 : True := trivial
      with_reducible apply s_dclr (l := ES.map fun n => (n, ratQ (cf l n)))
      · rfl
      · (focus (repeat' first | with_reducible exact pt0 | with_reducible apply pts | with_reducible intro _))
      with_reducible apply s_pubD (l := [])
      · rfl
      · (focus (repeat' first | with_reducible exact pt0 | with_reducible apply pts | with_reducible intro _))
      with_reducible apply s_apFL
      · exact ev_mc (ev_var rfl) (by decide) eva_nil sr_Fnames
      · exact ev_c
      · rw [List.length_map, kT]; omega
      exact ⟨hN2 _ ⟨_, _, rfl⟩⟩
    obtain ⟨b10, b11, rfl⟩ := hI
    (try with_reducible refine nx_mk ?_)
    have mark10 : True := trivial
    refine c_asg ?_
    refine c_ca ?_
    refine c_eva (eva_cons (ev_var rfl) (eva_cons (ev_lst (eva_cons ev_c (eva_cons ev_c (eva_cons ev_c (eva_cons (ev_tup (eva_cons ev_c eva_nil) (Nat.le_of_ble_eq_true rfl)) (eva_cons (ev_lst (eva_cons ev_c eva_nil) (Nat.le_of_ble_eq_true rfl)) (eva_cons (ev_g2 (ev_g2 (ev_var rfl) ev_c (o_ixS0 ex)) ev_c (o_catS' (by have := nameB_len (xn x0 x0m); show _ + 1 ≤ _; omega))) eva_nil)))))) (Nat.le_of_ble_eq_true rfl)) eva_nil)) ?_
    (first | (with_reducible show Stp _) | refine Stp.run ?_); refine c_sof (List.cons_ne_nil _ _) (Nat.le_of_ble_eq_true rfl) fun od hod => ?_
    have cT : ∀ n ∈ xs, cf (ES.map fun n => (n, cf l n)) n = cf l n := fun n hn => by
      by_cases h : n ∈ ES
      · exact cf_fun (cf l) h
      · rw [cf_out (by rw [kT]; exact h)]
        by_cases z : cf l n = 0
        · exact z.symm
        · exact absurd (by rw [hES]; exact List.mem_filter.mpr ⟨sort_mem.mpr hn, decide_eq_true z⟩) h
    have aeo : ("aeo" : Str) ∉ xs := fun h => by
      have := xv _ h
      revert this
      decide +kernel
    have odF : askD CLS od = true ∧ cfD (ES.map fun n => (n, cf l n)) od = 0 := by
      have hod : od ∈ [D.non, .int 3, .str "aeo", .tup [.str "a"], .lst [.str "a"], .str (x0 ++ "?")] := hod
      simp only [List.mem_cons, List.not_mem_nil, or_false] at hod
      rcases hod with rfl | rfl | rfl | rfl | rfl | rfl
      · exact ⟨rfl, rfl⟩
      · exact ⟨rfl, rfl⟩
      · exact ⟨rfl, cf_out (by rw [kT]; exact fun h => aeo (eX _ h))⟩
      · exact ⟨rfl, rfl⟩
      · exact ⟨rfl, rfl⟩
      · exact ⟨rfl, cf_out (by rw [kT]; exact fun h => by have := xn _ (eX _ h); rw [nameQ] at this; cases this)⟩
    obtain ⟨oda, odz⟩ := odF
    (first | (with_reducible show Stp _) | refine Stp.run ?_); (try with_reducible refine nx_mk ?_); (with_reducible apply n_st); (focus (repeat' first | with_reducible exact pt0 | with_reducible apply pts | with_reducible apply ns_put | with_reducible apply ns_wipe | with_reducible apply ns_wipe0 | with_reducible exact ns_id))
    have mark11 : True := trivial
    have gP : goodL (.lst ((xs.map fun n => pairQ (cf l n)) ++ [pairQ 0])) = true := by
      show (decide (((xs.map fun n => pairQ (cf l n)) ++ [pairQ 0]).length ≤ 100000) && goodLs ((xs.map fun n => pairQ (cf l n)) ++ [pairQ 0])) = true
      rw [goodLs_app _ _ (good_prs (cf l) xs) rfl, List.length_append, List.length_map, decide_eq_true (by show xs.length + 1 ≤ 100000; omega)]; rfl
    have dP : dep (.lst ((xs.map fun n => pairQ (cf l n)) ++ [pairQ 0])) < 8 := by
      show deps ((xs.map fun n => pairQ (cf l n)) ++ [pairQ 0]) + 1 < 8
      have := deps_prs2 (cf l) 0 xs; omega
    refine s_ifFN (evt_not (evt_B (ev_ca (eva_cons (d := .lst ((xs.map fun n => pairQ (cf l n)) ++ [pairQ 0])) ?_ (eva_cons (d := .lst ((xs.map fun n => pairQ (cf l n)) ++ [pairQ 0])) ?_ eva_nil)) (sr_sameL rfl gP dP)))) rfl ?_
    · refine ev_g2 (ev_lc (l := xs) (gg := D.str) (f := fun n => pairQ (cf l n)) (evi_it (ev_var rfl) itr_L) rfl (fun n hn => aev1 (Ev.eq (ev_mc (ev_mc (ev_var rfl) (by decide) (eva_cons (ev_var rfl) eva_nil) (sr_Ffac rfl (by rw [kT]; exact en))) (by decide) eva_nil sr_pair) (by show pairQ (cf _ n) = _; rw [cT n hn]))) (by omega)) (ev_lst (eva_cons (Ev.eq (ev_mc (ev_mc (ev_var rfl) (by decide) (eva_cons (ev_var rfl) eva_nil) (sr_shp (es := [frm C (ES.map fun n => (n, cf l n)), od]) (sr_Ffac oda (by rw [kT]; exact en)) rfl rfl)) (by decide) eva_nil sr_pair) (by rw [odz])) eva_nil) (Nat.le_of_ble_eq_true rfl)) (o_addL (by rw [List.length_map]; show xs.length + 1 ≤ _; omega))
    · refine ev_g2 (ev_lc (l := xs) (gg := D.str) (f := fun n => pairQ (cf l n)) (evi_it (ev_var rfl) itr_L) rfl (fun n hn => aev1 (ev_g2 (ev_var rfl) (ev_var rfl) (o_dgetS (hiL n hn) (hvL n hn)))) (by omega)) (ev_lst (eva_cons (ev_tup (eva_cons ev_c (eva_cons ev_c eva_nil)) (Nat.le_of_ble_eq_true rfl)) eva_nil) (Nat.le_of_ble_eq_true rfl)) (o_addL (by rw [List.length_map]; show xs.length + 1 ≤ _; omega))
    have mark12 : True := trivial
    with_reducible apply s_asg (d := dicS (ES.map fun n => (n, ratQ (cf l n))))
    · refine ev_g1 (Ev.eq (ev_lc (l := ES) (gg := D.str) (f := fun n => .tup [.str n, ratQ (cf l n)]) (evi_keysS (ev_var rfl)) (by rw [List.map_map]; rfl) (fun n hn => aev1 ?_) (by omega)) ?_) (o_dictPS (l := ES.map fun n => (n, ratQ (cf l n))) (by rw [keys_fun]; exact en))
      · exact ev_tup (eva_cons (ev_var rfl) (eva_cons (ev_mk (eva_cons (ev_g2 (ev_g2 (ev_var rfl) (ev_var rfl) (o_dgetS (by rw [kD]; exact hn) (fD n hn))) ev_c o_ix20) (eva_cons (ev_g2 (ev_g2 (ev_var rfl) (ev_var rfl) (o_dgetS (by rw [kD]; exact hn) (fD n hn))) ev_c o_ix21) eva_nil)) (sri_shp (es := [.int (cf l n).num, .int ((cf l n).den : Int)]) (q_ratioQ _ (zL n (eX n hn)) (by decide)) rfl rfl)) eva_nil)) (Nat.le_of_ble_eq_true rfl)
      · rw [List.map_map]; rfl
    · (focus (repeat' first | with_reducible exact pt0 | with_reducible apply pts | with_reducible intro _))
    with_reducible apply s_asg (d := ratQ C)
    · exact ev_mk (eva_cons (ev_g2 (ev_var rfl) ev_c o_ix20) (eva_cons (ev_g2 (ev_var rfl) ev_c o_ix21) eva_nil)) (sri_shp (es := [.int C.num, .int (C.den : Int)]) (q_ratioQ C zC (by decide)) rfl rfl)
    · (focus (repeat' first | with_reducible exact pt0 | with_reducible apply pts | with_reducible intro _))
    have mark13 : True := trivial
    have eU : termsQ (ES.map fun n => (n, ratQ (cf l n))) = ES.map fun n => (n, cf l n) := by
      rw [termsQ_fun (f := cf l) (fun n hn => by rw [kU] at hn; rw [fL n hn, partQ_rat]), kU, es, List.filter_eq_self.mpr fun n hn => decide_eq_true (ez n hn)]
    have qO : ∀ c : Rat, SRI s_Finit "Form" [dicS (ES.map fun n => (n, ratQ (cf l n))), ratQ c] FNS [ratQ c, dicQ (ES.map fun n => (n, cf l n))] := fun c => by
      have := q_Finit (l := ES.map fun n => (n, ratQ (cf l n))) (z := ratQ c) (q := c) (by rw [kU]; exact en) (by rw [List.length_map]; omega) (fun p hp => by
        obtain ⟨n, hn, rfl⟩ := List.mem_map.mp hp
        exact ⟨xn _ (eX n hn), by rw [partQ_rat]; exact isPQ_rat _⟩) (isPQ_rat c)
      rwa [eU] at this
    have eq1 : (.bl (eqT (ES.map fun n => (n, cf l n)) (ES.map fun n => (n, cf l n)) && decide (C = C)) : D) = .bl true := by rw [eqT_self (by rw [kT]; exact en), decide_eq_true rfl]; rfl
    have eq2 : (.bl (eqT (ES.map fun n => (n, cf l n)) (ES.map fun n => (n, cf l n)) && decide (C = C + ((1 : Int) : Rat))) : D) = .bl false := by
      rw [decide_eq_false (fun h => by have : C = C + 1 := h; have h2 : (0 : Rat) = 1 := by grind
                                       exact absurd h2 (by decide +kernel)), Bool.and_false]
    have t1n : ((termsQ [(x0, D.int 1)]).map (·.1)).Nodup := by
      unfold termsQ
      rw [List.map_map]
      show ((List.filter _ (sortStr [x0])).map fun x => x).Nodup
      rw [List.map_id']
      exact ((sortStr_perm _).nodup_iff.mpr (List.pairwise_singleton _ _)).filter _
    have eq3 : (.bl (eqT (termsQ [(x0, D.int 1)]) (termsQ [(x0, D.int 1)]) && decide ((0 : Rat) = ((0 : Int) : Rat))) : D) = .bl true := by rw [eqT_self t1n]; rfl
    have q1 := q_Finit (l := [(x0, D.int 1)]) (z := .int 0) (q := ((0 : Int) : Rat)) (List.pairwise_singleton _ _) (by show 1 < 64; decide) (fun p hp => by rw [List.mem_singleton.mp hp]; exact ⟨xn _ x0m, isPQ_int 1⟩) (isPQ_int 0)
    with_reducible apply s_asg (d := .lst [.bl true, .bl false, .bl false, .bl true])
    · refine ev_lst (eva_cons ?_ (eva_cons ?_ (eva_cons ?_ (eva_cons ?_ eva_nil)))) (Nat.le_of_ble_eq_true rfl)
      · exact ev_ownQ (ev_var rfl) (ev_mk (eva_app (eva_cons (ev_var rfl) eva_nil) (eva_cons (ev_var rfl) eva_nil)) (sri_shp (es := [dicS (ES.map fun n => (n, ratQ (cf l n))), ratQ C]) (qO C) rfl rfl)) (sr_Feq.eq eq1)
      · exact ev_ownQ (ev_var rfl) (ev_mk (eva_app (eva_cons (ev_var rfl) eva_nil) (eva_cons (ev_own2 (ev_var rfl) ev_c (ow2_int (sr_QaddP (isPQ_int 1) (zC.mono (by decide)) (QZ.int (szW (by decide)) (by decide))))) eva_nil)) (sri_shp (es := [dicS (ES.map fun n => (n, ratQ (cf l n))), ratQ (C + ((1 : Int) : Rat))]) (qO _) rfl rfl)) (sr_Feq.eq eq2)
      · exact ev_ownE (ev_var rfl) (ev_var rfl) rfl (sr_FeqO rfl (fun a b c h => by cases h))
      · exact ev_ownQ (ev_ca (eva_cons (ev_g2 (ev_var rfl) ev_c (o_ixS0 ex)) eva_nil) (sr_Fof (xn _ x0m))) (ev_mk (eva_cons (ev_disp (l := [(.inr x0, .int 1)]) (evpr_cons rfl (ev_g2 (ev_var rfl) ev_c (o_ixS0 ex)) ev_c evpr_nil) (Nat.le_of_ble_eq_true rfl)) eva_nil) (sri_shp (es := [dicS [(x0, .int 1)], .int 0]) q1 rfl rfl)) (sr_Feq.eq eq3)
    · (focus (repeat' first | with_reducible exact pt0 | with_reducible apply pts | with_reducible intro _))
    refine s_ifFN (evt_not (evt_B (ev_ca (eva_cons (ev_var rfl) (eva_cons (d := .lst [.bl true, .bl false, .bl false, .bl true]) (ev_lst (eva_cons ev_c (eva_cons ev_c (eva_cons ev_c (eva_cons ev_c eva_nil)))) (Nat.le_of_ble_eq_true rfl)) eva_nil)) (sr_sameL rfl rfl (Nat.le_of_ble_eq_true rfl))))) rfl ?_
    have mark14 : True := trivial
    refine c_tgt ?_
    refine c_tup ?_
    refine c_cons ?_
    refine c_ca ?_
    refine c_eva (eva_cons (ev_var rfl) (eva_cons (ev_lst (eva_cons ev_c (eva_cons ev_c (eva_cons ev_c (eva_cons ev_c eva_nil)))) (Nat.le_of_ble_eq_true rfl)) eva_nil)) ?_
    (first | (with_reducible show Stp _) | refine Stp.run ?_); refine c_sof (List.cons_ne_nil _ _) (Nat.le_of_ble_eq_true rfl) fun bd hbd => ?_
    refine c_cons ?_
    refine c_ca ?_
    refine c_eva (eva_cons (ev_var rfl) (eva_cons (ev_lst (eva_cons ev_c (eva_cons ev_c (eva_cons ev_c (eva_cons (ev_tup (eva_cons ev_c eva_nil) (Nat.le_of_ble_eq_true rfl)) eva_nil)))) (Nat.le_of_ble_eq_true rfl)) eva_nil)) ?_
    (first | (with_reducible show Stp _) | refine Stp.run ?_); refine c_sof (List.cons_ne_nil _ _) (Nat.le_of_ble_eq_true rfl) fun W hW => ?_
    refine c_nil ?_
    refine c_len rfl ?_
    obtain ⟨b, rfl, bn, bl⟩ : ∃ b : Str, bd = .str b ∧ nameB b = false ∧ b.length ≤ 10 := by
      have hbd : bd ∈ [D.str "", .str "A", .str "toolong", .str "a b"] := hbd
      simp only [List.mem_cons, List.not_mem_nil, or_false] at hbd
      rcases hbd with rfl | rfl | rfl | rfl <;> exact ⟨_, rfl, by decide +kernel, by decide +kernel⟩
    obtain ⟨wv, wp, wg, wd⟩ : okV W ∧ partB W = false ∧ goodL W = true ∧ dep W ≤ 1 := by
      have hW : W ∈ [D.non, .bl true, .str "1", .tup [.int 1]] := hW
      simp only [List.mem_cons, List.not_mem_nil, or_false] at hW
      rcases hW with rfl | rfl | rfl | rfl <;> exact ⟨⟨rfl, fun c ns xs e => nomatch e⟩, rfl, rfl, Nat.le_of_ble_eq_true rfl⟩
    have bx : b ∉ xs := fun h => by rw [xn _ h] at bn; cases bn
    (first | (with_reducible show Stp _) | refine Stp.run ?_); (with_reducible first | apply as1 | apply as2 | apply as3 | apply as2l | apply as3l); (repeat' first | with_reducible exact pt0 | with_reducible apply pts | with_reducible apply ns_put | with_reducible apply ns_wipe | with_reducible apply ns_wipe0 | with_reducible exact ns_id)
    have mark15 : True := trivial
    have kW : ((xs.map fun x => (x, W)).map (·.1)) = xs := keys_fun _ _
    with_reducible apply s_asgDP (l := xs.map fun x => (x, W))
    · refine Ev.eq (ev_lc (l := xs) (gg := D.str) (f := fun x => .tup [.str x, W]) (evi_it (ev_var rfl) itr_L) rfl (fun x hx => aev1 (ev_tup (eva_cons (ev_var rfl) (eva_cons (ev_var rfl) eva_nil)) (Nat.le_of_ble_eq_true rfl))) (by omega)) (by rw [List.map_map]; rfl)
    · rw [kW]; exact xd
    · (focus (repeat' first | with_reducible exact pt0 | with_reducible apply pts | with_reducible intro _))
    with_reducible apply s_dputS (l := xs.map fun x => (x, W)) (n := b) (z := .int 1)
    · rfl
    · exact ev_var rfl
    · exact ev_c
    · rw [kW]; exact bx
    · rw [List.length_map]; omega
    · (focus (repeat' first | with_reducible exact pt0 | with_reducible apply pts | with_reducible intro _))
    have mark16 : True := trivial
    generalize hl5 : (xs.map fun x => (x, W)) ++ [(b, D.int 1)] = l5 at *
    have k5 : l5.map (·.1) = xs ++ [b] := by rw [← hl5, List.map_append, kW]; rfl
    have n5 : (l5.map (·.1)).Nodup := by
      rw [k5]
      exact List.nodup_append.mpr ⟨xd, List.pairwise_singleton _ _, fun a ha c hc e => bx (by rw [← List.mem_singleton.mp hc, ← e]; exact ha)⟩
    have z5 : l5.length ≤ 6 := by have := congrArg List.length k5; rw [List.length_map, List.length_append, List.length_singleton] at this; omega
    with_reducible apply s_pubD (l := l5)
    · rfl
    · (focus (repeat' first | with_reducible exact pt0 | with_reducible apply pts | with_reducible intro _))
    obtain ⟨n0, nr, en0⟩ : ∃ n0 nr, sortStr (l5.map (·.1)) = n0 :: nr := by
      cases e : sortStr (l5.map (·.1)) with
      | nil =>
        have := sort_len (l5.map (·.1))
        rw [e, k5, List.length_append] at this
        cases this
      | cons a r => exact ⟨a, r, rfl⟩
    with_reducible apply s_asg (d := .str n0)
    · exact ev_g2 (ev_g1 (ev_g1 (ev_var rfl) o_listS) (o_sortS (by rw [List.length_map]; omega))) ev_c (o_ixS0 en0)
    · (focus (repeat' first | with_reducible exact pt0 | with_reducible apply pts | with_reducible intro _))
    have mark17 : True := trivial
    have okl : ∀ p ∈ l5, p.1.length ≤ 1000000 ∧ okV p.2 := fun p hp => by
      rw [← hl5] at hp
      rcases List.mem_append.mp hp with hp | hp
      · obtain ⟨x, hx, rfl⟩ := List.mem_map.mp hp
        exact ⟨by have := nameB_len (xn x hx); show x.length ≤ _; omega, wv⟩
      · rw [List.mem_singleton.mp hp]
        exact ⟨by show b.length ≤ _; omega, ⟨rfl, fun c ns xs e => nomatch e⟩⟩
    have hn0 : n0 ∈ l5.map (·.1) := sort_mem.mp (by rw [en0]; exact List.mem_cons_self)
    obtain ⟨cd, fld, y1, hX, hc1, hc2, hc3, hE, g1, d1⟩ : ∃ (cd fld : Str) (y1 : D), badT l5 n0 = some (errX cd cd [fld] [y1]) ∧ cd ∈ ERRS ∧ whyX (errX cd cd [fld] [y1]) = some (cd, [y1]) ∧ (cd == ("told" : Str)) = false ∧ ((D.tup [.str cd, .tup [y1]]) = bif n0 == b then D.tup [.str "InvalidName", .tup [.str b]] else D.tup [.str "InvalidNumber", .tup [W]]) ∧ goodL y1 = true ∧ dep y1 ≤ 1 := by
      by_cases h : n0 = b
      · subst h
        exact ⟨"InvalidName", "name", .str n0, by unfold badT; rw [bn]; rfl, by decide, whyX1 rfl rfl, rfl, by rw [beq_self_eq_true]; rfl, rfl, Nat.le_of_ble_eq_true rfl⟩
      · have hx : n0 ∈ xs := by
          rw [k5] at hn0
          rcases List.mem_append.mp hn0 with h2 | h2
          · exact h2
          · exact absurd (List.mem_singleton.mp h2) h
        have hv : valS l5 n0 = W := valS_of (p := (n0, W)) n5 (by rw [← hl5]; exact List.mem_append_left _ (List.mem_map.mpr ⟨n0, hx, rfl⟩))
        exact ⟨"InvalidNumber", "given", W, by unfold badT; rw [xn _ hx, hv, wp]; rfl, by decide, whyX1 rfl rfl, rfl, by rw [beq_eq_false_iff_ne.mpr h]; rfl, wg, wd⟩
    have s1 : SXI s_Finit "Form" [dicS l5, W] (errX cd cd [fld] [y1]) := sxi_Finit (pre := []) (suf := nr) n5 (by omega) okl wv en0 (fun m hm => by cases hm) hX
    have s2 : SXI s_Finit "Form" [dicS [(x0, W)], .non] (errX "InvalidNumber" "InvalidNumber" ["given"] [W]) := sxi_Finit (l := [(x0, W)]) (pre := []) (suf := []) (List.pairwise_singleton _ _) (by show 1 < 64; decide) (fun p hp => by rw [List.mem_singleton.mp hp]; exact ⟨by have := nameB_len (xn x0 x0m); show x0.length ≤ _; omega, wv⟩) ⟨rfl, fun c ns xs e => nomatch e⟩ (sort_self (List.pairwise_singleton _ _)) (fun m hm => by cases hm) (by
      have hv : valS [(x0, W)] x0 = W := valS_of (l := [(x0, W)]) (p := (x0, W)) (List.pairwise_singleton _ _) List.mem_cons_self
      unfold badT; rw [xn _ x0m, hv, wp]; rfl)
    have s3 := sxi_FinitZ wv wp
    (first | (with_reducible show Stp _) | refine Stp.run ?_); (try with_reducible refine nx_mk ?_); (with_reducible refine c_asg ?_); (with_reducible refine c_lst ?_); (with_reducible refine c_cons ?_); (with_reducible refine c_lam ?_); intro o1 h1; (with_reducible refine c_cons ?_); (with_reducible refine c_lam ?_); intro o2 h2; (with_reducible refine c_cons ?_); (with_reducible refine c_lam ?_); intro o3 h3; (with_reducible refine c_cons ?_); (with_reducible refine c_lam ?_); intro o4 h4; (with_reducible refine c_cons ?_); (with_reducible refine c_lam ?_); intro o5 h5; (with_reducible refine c_nil ?_); ((with_reducible refine c_len ?_ ?_); exact rfl); (try (with_reducible apply n_st; (focus (repeat' first | with_reducible exact pt0 | with_reducible apply pts | with_reducible apply ns_put | with_reducible exact ns_id))))
    have mark18 : True := trivial
    refine c_asg ?_
    refine c_whys [o1, o2, o3, o4, o5] (ev_var rfl) rfl (Nat.le_of_ble_eq_true rfl) ?_
    refine c_ansX (.head _) h1 (fun eo => evx_mk (eva_app (eva_cons (ev_var rfl) eva_nil) (eva_cons (ev_var rfl) eva_nil)) (sxi_shp (es := [dicS l5, W]) rfl s1 rfl)) hc1 hc2 hc3 ?_
    refine c_ansX (.tail _ (.head _)) h2 (fun eo => evx_mk (eva_cons (ev_disp (l := [(.inr x0, W)]) (evpr_cons rfl (ev_g2 (ev_var rfl) ev_c (o_ixS0 ex)) (ev_var rfl) evpr_nil) (Nat.le_of_ble_eq_true rfl)) (eva_cons ev_c eva_nil)) (sxi_shp (es := [dicS [(x0, W)], .non]) rfl s2 rfl)) (by show ("InvalidNumber" : Str) ∈ ERRS; decide) (whyX1 rfl rfl) rfl ?_
    refine c_ansX (.tail _ (.tail _ (.head _))) h3 (fun eo => evx_mk (eva_cons (ev_var rfl) eva_nil) (sxi_shp (es := [.non, W]) rfl s3 rfl)) (by show ("InvalidNumber" : Str) ∈ ERRS; decide) (whyX1 rfl rfl) rfl ?_
    refine c_ansC (.tail _ (.tail _ (.tail _ (.head _)))) h4 (fun eo kk hh => ?_)
    refine c_ca ?_
    refine c_cons ?_
    refine c_ca ?_
    refine c_eva (eva_cons (ev_var rfl) (eva_cons (ev_lst (eva_cons ev_c (eva_cons ev_c (eva_cons (ev_var rfl) (eva_cons (ev_lst (eva_cons ev_c eva_nil) (Nat.le_of_ble_eq_true rfl)) (eva_cons (ev_tup (eva_cons ev_c eva_nil) (Nat.le_of_ble_eq_true rfl)) eva_nil))))) (Nat.le_of_ble_eq_true rfl)) eva_nil)) ?_
    (first | (with_reducible show Stp _) | refine Stp.run ?_); refine c_sof (List.cons_ne_nil _ _) (Nat.le_of_ble_eq_true rfl) fun y hy => ?_
    refine c_nil ?_
    have mark19 : True := trivial
    obtain ⟨ya, yi, yl, yn, yg, yd⟩ : askD CLS y = true ∧ (∀ a b c, y ≠ .ins a b c) ∧ (∀ x, y = .str x → x.length ≤ 1000000) ∧ nameD y = false ∧ goodL y = true ∧ dep y ≤ 1 := by
      have hy : y ∈ [D.non, .int 3, .str b, .lst [.str "a"], .tup [.str "a"]] := hy
      simp only [List.mem_cons, List.not_mem_nil, or_false] at hy
      rcases hy with rfl | rfl | rfl | rfl | rfl
      · exact ⟨rfl, fun a b c => nofun, fun x => nofun, rfl, rfl, Nat.le_of_ble_eq_true rfl⟩
      · exact ⟨rfl, fun a b c => nofun, fun x => nofun, rfl, rfl, Nat.le_of_ble_eq_true rfl⟩
      · exact ⟨rfl, fun a b c => nofun, fun x e => by cases e; omega, bn, rfl, Nat.le_of_ble_eq_true rfl⟩
      · exact ⟨rfl, fun a b c => nofun, fun x => nofun, rfl, rfl, Nat.le_of_ble_eq_true rfl⟩
      · exact ⟨rfl, fun a b c => nofun, fun x => nofun, rfl, rfl, Nat.le_of_ble_eq_true rfl⟩
    refine ⟨⟨y, rfl, ya, yi, yl, fun _ => hh _ "InvalidName" [y] (by show ("InvalidName" : Str) ∈ ERRS; decide) (whyX1 rfl rfl) rfl (Stp.run ?_), fun x e n => by rw [e, show nameD (.str x) = nameB x from rfl, n] at yn; cases yn⟩⟩
    refine c_ansT (.tail _ (.tail _ (.tail _ (.tail _ (.head _))))) h5 (fun eo => ev_mk eva_nil (sri_shp (es := [.non, .int 0]) (q_FinitN (isPQ_int 0)) rfl rfl)) ?_
    refine c_ansN ?_
    simp only [List.nil_append, List.cons_append]
    (first | (with_reducible show Stp _) | refine Stp.run ?_); (try with_reducible refine nx_mk ?_); (with_reducible apply n_st); (focus (repeat' first | with_reducible exact pt0 | with_reducible apply pts | with_reducible apply ns_put | with_reducible apply ns_wipe | with_reducible apply ns_wipe0 | with_reducible exact ns_id))
    have mark20 : True := trivial
    with_reducible apply s_asg (d := .lst [.tup [.str cd, .tup [y1]], .tup [.str "InvalidNumber", .tup [W]], .tup [.str "InvalidNumber", .tup [W]], .tup [.str "InvalidName", .tup [y]], .str "told"])
    · refine ev_lst (eva_cons ?_ (eva_cons (ev_tup (eva_cons ev_c (eva_cons (ev_tup (eva_cons (ev_var rfl) eva_nil) (Nat.le_of_ble_eq_true rfl)) eva_nil)) (Nat.le_of_ble_eq_true rfl)) (eva_cons (ev_tup (eva_cons ev_c (eva_cons (ev_tup (eva_cons (ev_var rfl) eva_nil) (Nat.le_of_ble_eq_true rfl)) eva_nil)) (Nat.le_of_ble_eq_true rfl)) (eva_cons (ev_g2 (ev_var rfl) ev_c (.mk fun k q => q)) (eva_cons ev_c eva_nil))))) (Nat.le_of_ble_eq_true rfl)
      cases hc : n0 == b with
      | true => exact Ev.eq (ev_ifT (evt_B (ev_g2 (ev_var rfl) (ev_var rfl) o_eqS)) hc (ev_tup (eva_cons ev_c (eva_cons (ev_tup (eva_cons (ev_var rfl) eva_nil) (Nat.le_of_ble_eq_true rfl)) eva_nil)) (Nat.le_of_ble_eq_true rfl))) (by rw [hE, hc]; rfl)
      | false => exact Ev.eq (ev_ifF (evt_B (ev_g2 (ev_var rfl) (ev_var rfl) o_eqS)) hc (ev_tup (eva_cons ev_c (eva_cons (ev_tup (eva_cons (ev_var rfl) eva_nil) (Nat.le_of_ble_eq_true rfl)) eva_nil)) (Nat.le_of_ble_eq_true rfl))) (by rw [hE, hc]; rfl)
    · (focus (repeat' first | with_reducible exact pt0 | with_reducible apply pts | with_reducible intro _))
    have mark21 : True := trivial
    refine s_ifLFN (evt_or (evt_not (evt_B (ev_ca (eva_cons (ev_var rfl) (eva_cons (ev_var rfl) eva_nil)) (sr_sameL rfl ?_ ?_)))) fun _ => evt_B (ev_g2 (ev_g2 (ev_g2 (ev_var rfl) ev_c (z := .tup [.str "InvalidName", .tup [y]]) (.mk fun k q => q)) ev_c o_ix20) ev_c o_neS)) rfl ?_
    · simp [goodL, goodLs, g1, wg, yg]
    · show max (max 0 (max (dep y1) 0 + 1) + 1) (max (max 0 (max (dep W) 0 + 1) + 1) (max (max 0 (max (dep W) 0 + 1) + 1) (max (max 0 (max (dep y) 0 + 1) + 1) (max 0 0)))) + 1 < 8
      omega
    exact ⟨hN _ ⟨_, _, _, _, _, _, _, _, _, _, _, _, _, _, _, _, _, _, _, _, rfl⟩⟩
  · rintro σ ⟨a2, a3, a4, a5, a6, a7, a8, a9, a10, a11, a12, a13, a14, a15, a16, a17, a18, a19, a20, a21, rfl⟩
    refine Stp.run ?_
    have mark99 : True := trivial
    (try with_reducible refine nx_mk ?_)
    have qN := q_FinitN (isPQ_int 0)
    with_reducible apply s_ret (d := .bl true)
    · refine ev_ca (eva_cons (d := .lst [.dic [] [], pairQ 0, .lst []]) ?_ (eva_cons (ev_lst (eva_cons ev_c (eva_cons (ev_tup (eva_cons ev_c (eva_cons ev_c eva_nil)) (Nat.le_of_ble_eq_true rfl)) (eva_cons (ev_lst eva_nil (Nat.le_of_ble_eq_true rfl)) eva_nil))) (Nat.le_of_ble_eq_true rfl)) eva_nil)) (sr_sameL rfl rfl (Nat.le_of_ble_eq_true rfl))
      exact ev_lst (eva_cons (ev_mc (ev_mk eva_nil (sri_shp (es := [.non, .int 0]) qN rfl rfl)) (by decide) eva_nil sr_Fterms) (eva_cons (ev_mc (ev_fld (ev_mk eva_nil (sri_shp (es := [.non, .int 0]) qN rfl rfl)) rfl) (by decide) eva_nil sr_pair) (eva_cons (ev_mc (ev_mk (eva_cons ev_c eva_nil) (sri_shp (es := [.non, .int 0]) qN rfl rfl)) (by decide) eva_nil sr_Fnames) eva_nil))) (Nat.le_of_ble_eq_true rfl)
    · exact ⟨rfl⟩
end LK
/-! K31E -/
section
set_option Elab.async false
set_option linter.all false
set_option maxRecDepth 100000
set_option maxHeartbeats 0
open PySem PySem.W PySem.Calls PyProof.Rows
theorem PySem.Challenge.cw_anystride_k31_forms_told_holds : PySem.Challenge.rw_anystride_k31_forms_told.Holds := by
  w_on; o_law
  refine HandSHeadRun.head_imp (r := OpenLaw.row PySem.Challenge.rw_anystride_k31_forms_told) (q := view (OpenLaw.row PySem.Challenge.rw_anystride_k31_forms_told).prog [0, 37]) (H := LK.hk) (ob := LK.ob) (M := 20000) (loose := LK.names) (d := HandSHeadRun.topDef (OpenLaw.row PySem.Challenge.rw_anystride_k31_forms_told).prog 37) (kwd := []) LK.ob_eq
    LK.run (by kernel_rfl) (by kernel_rfl) (by kernel_rfl) (by rfl) (by first | assumption | decide +kernel) (by decide +kernel) ⟨rfl, rfl, rfl, rfl, rfl, by decide +kernel⟩ ?hw ?hc
  case hw => w_witness2
  case hc =>
    haveI : DL.TabC := ⟨[]⟩
    refine DL.walk_ofX (l := PySem.Challenge.rw_anystride_k31_forms_told) (n := 63) (k := 19) (x := "_law_script") (CX := fun w => L2.CX (PySem.Challenge.rw_anystride_k31_forms_told).prog w) rfl (by decide) (by kernel_rfl) ⟨rfl, by decide, by decide⟩ ?F (fun w H s e s' h => by
      obtain ⟨_, _, _, _, _, _, _, _, _, _, _, _, q⟩ := h
      exact q)
    intro w mg fa h Y G hmg0
    obtain ⟨K, KX, c, c2, _⟩ := Y
    letI : DL.TabC := ⟨[((He.cT K ("law", none)).2, LK.lamQ)]⟩
    have F := LK.facts_of KX G c c2
    have e : fa = He.ga K "law" := by
      have e1 : (HandSHeadRun.topDef (OpenLaw.row PySem.Challenge.rw_anystride_k31_forms_told).prog 37).name = ("law" : PySem.Str) := by kernel_rfl
      rw [e1, F.g_law] at hmg0
      cases hmg0
      rfl
    subst e
    have one : ∀ p ∈ [He.cT K (("law", none) : He.Defn)], p = He.cT K ("law", none) := fun p hp => by simpa using hp
    have mem : ((("law", none) : He.Defn)) ∈ LK.tf := by simp [LK.tf]
    refine ⟨K, KX, DL.fdOf K (He.ga K "law"), [He.cT K ("law", none)], DL.spLaw K, fun p hp => ?_, fun p hp => ?_, fun p hp => ?_, fun s u => ?_, fun H a ns hl hb hT hS => ?_, fun base hK hN tb => ?_⟩
    · rw [one p hp]; exact c.empty _ mem
    · rw [one p hp]; exact c.out _ mem
    · rw [one p hp]; exact PySem.W.codeHd_of_K KX (c.hd _ mem)
    · exact F.d_law.bindsA (ps := ["_law_script"]) (fun _ _ _ _ _ _ us hl => match us, hl with | [_], _ => rfl) s [u] rfl
    · exact ⟨a, ns, rfl, hS, by omega, fun p hp => by
        have ep : p = ((He.cT K ("law", none)).2, LK.lamQ) := List.mem_singleton.mp hp
        rw [ep]
        exact LamX.TabS.nil (hT _ List.mem_cons_self), fun H' => rfl⟩
    · exact LK.ok_law F rfl (tb _ List.mem_cons_self)
end
