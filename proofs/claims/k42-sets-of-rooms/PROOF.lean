import PyProof.Rows.All
import Wide.All
import OpenK.AllK
import Wide.FinOn
import HandS.ForMost
import HandS.Nested
import HandS.NestedK
import HandS.TupAny
import HandS.Walk
import HandS.Deep
import HandS.SortInts
import HandS.TupLen
import KE.GoesZip
import HandS.Zip
import HandS.Rev
import HandS.Defaults
import HandS.CallLocal
import HandS.IsInst
import HandS.Style
import HandS.Replace
import HandS.TryOnly
import KE.KDictDisplayH
import HandS.Set
import HandS.SetFor
import HandS.ExcValue
import PyProof.Rows.SortShellAny
import HandS.Strs
import HandS.TupMul
import HandS.More
import HandS.HeadHook4
import HandS.EndTab
import HandS.HeadWalk
import HandS.Head0
import HandS.Head1
import HandS.Head2
import PySem.Challenge.RW_figurejudge_k42_sets_of_rooms
set_option Elab.async false
set_option linter.all false
set_option maxRecDepth 100000
set_option maxHeartbeats 2000000
/-! The data layer: values with tuples by value; what the hand layer's readings ask, said of data alone. -/
namespace DL
open PySem L2 NdefX LamX

/-- a datum: tuples by value, mutable things by address, made functions by their words -/
inductive U where
  | non | bl (b : Bool) | int (i : Int) | str (x : Str) | tup (xs : List U) | ref (a : Addr) | ty (n : String) | clo (F : NF)
  /-- a tuple whose object is known -/
  | ft (xs : List U)

/-- what stands at an address that data tracks -/
inductive UO where
  | lst (xs : List U) | lck (xs : List U)
  | dK (kvs : List (Key × U)) | dT (kvs : List (List Key × U))
  | ins (C dx : Addr) (fs : List (Str × U)) | xd (fs : List (Str × U))

abbrev HU := Addr → Option UO
abbrev SU := List (Option U)
def updU (h : HU) (a : Addr) (o : UO) : HU := fun b => if b = a then some o else h b
@[simp] theorem updU_same {h : HU} {a : Addr} {o : UO} : updU h a o a = some o := by unfold updU; rw [if_pos rfl]
theorem updU_ne {h : HU} {a b : Addr} {o : UO} (e : b ≠ a) : updU h a o b = h b := by unfold updU; rw [if_neg e]
@[simp] theorem updU_updU {h : HU} {a : Addr} {o u : UO} : updU (updU h a o) a u = updU h a u := by
  funext b
  unfold updU
  split <;> rfl
theorem neU {h : HU} {a b : Addr} {o : UO} (e : h a = some o) (e' : h b = none) : a ≠ b := by
  intro z
  subst z
  rw [e] at e'
  cases e'

mutual
def RU (K : PySem.W.Frag) (H : Hp) : U → V → Prop
  | .non, v => v = .non
  | .bl b, v => v = .bl b
  | .int i, v => v = .int i
  | .str x, v => v = .str x
  | .ref a, v => v = .ref a
  | .ty n, v => v = .ty n
  | .clo F, v => ∃ f, v = .ref f ∧ H f = some (FnO f F) ∧ H F.c = some (CodeO F.c F.qual)
  | .tup us, v => ∃ a vs, v = .ref a ∧ H a = some (.tup vs) ∧ RUs K H us vs
  | .ft us, v => ∃ a vs, ∃ ob : Obj, v = .ref a ∧ H a = some (.frz ob (.tup vs)) ∧ ob.cls = .type "tuple" ∧ ob.dict = Option.none ∧ RUs K H us vs
def RUs (K : PySem.W.Frag) (H : Hp) : List U → List V → Prop
  | [], vs => vs = []
  | u :: us, vs => ∃ v r, vs = v :: r ∧ RU K H u v ∧ RUs K H us r
end
abbrev RKV (K : PySem.W.Frag) (H : Hp) {κ : Type} : List (κ × U) → List (κ × V) → Prop := Paired fun (p : κ × U) (q : κ × V) => p.1 = q.1 ∧ RU K H p.2 q.2

/-- what is kept by every step: tuples, made functions, code objects -/
structure TM (K : PySem.W.Frag) (H H' : Hp) : Prop where
  tup : ∀ a vs, H a = some (.tup vs) → H' a = some (.tup vs)
  fn : ∀ f F, H f = some (FnO f F) → H' f = some (FnO f F)
  code : ∀ c q, H c = some (CodeO c q) → H' c = some (CodeO c q)
  live : ∀ a, H a ≠ none → H' a ≠ none
  frz : ∀ a ob o, H a = some (.frz ob o) → H' a = some (.frz ob o)
theorem TM.refl (K : PySem.W.Frag) (H : Hp) : TM K H H := ⟨fun _ _ h => h, fun _ _ h => h, fun _ _ h => h, fun _ h => h, fun _ _ _ h => h⟩
theorem TM.trans {K : PySem.W.Frag} {H H1 H2 : Hp} (a : TM K H H1) (b : TM K H1 H2) : TM K H H2 :=
  ⟨fun x vs h => b.tup _ _ (a.tup _ _ h), fun f F h => b.fn _ _ (a.fn _ _ h), fun c q h => b.code _ _ (a.code _ _ h), fun x h => b.live _ (a.live _ h), fun x ob o h => b.frz _ _ _ (a.frz _ _ _ h)⟩
/-- objects that may be written over: none that a datum by value leans on -/
def Soft : Option HO → Prop
  | none => True
  | some (.lst _) => True
  | some (.dK _) => True
  | some (.dT _) => True
  | some (.ins _ _ _) => True
  | some (.xd _) => True
  | _ => False
theorem TM.upd {K : PySem.W.Frag} {H : Hp} {a : Addr} {o : HO} (s : Soft (H a)) : TM K H (upd H a o) := by
  refine ⟨fun b vs h => ?_, fun f F h => ?_, fun c q h => ?_, fun b h => ?_, fun b ob o h => ?_⟩
  · rw [upd_ne]
    · exact h
    · intro z
      rw [← z, h] at s
      exact s
  · rw [upd_ne]
    · exact h
    · intro z
      rw [← z, h] at s
      exact s
  · rw [upd_ne]
    · exact h
    · intro z
      rw [← z, h] at s
      exact s
  · by_cases z : b = a
    · rw [z, upd_same]
      exact fun q => nomatch q
    · rw [upd_ne z]
      exact h
  · rw [upd_ne]
    · exact h
    · intro z
      rw [← z, h] at s
      exact s
section
variable {K : PySem.W.Frag} {H H' : Hp}
mutual
theorem RU.mono (t : TM K H H') : ∀ (u : U) (v : V), RU K H u v → RU K H' u v
  | .non, _, h => h
  | .bl _, _, h => h
  | .int _, _, h => h
  | .str _, _, h => h
  | .ref _, _, h => h
  | .ty _, _, h => h
  | .clo F, _, h => by
    unfold RU at h ⊢
    obtain ⟨f, e, h1, h2⟩ := h
    exact ⟨f, e, t.fn _ _ h1, t.code _ _ h2⟩
  | .tup us, _, h => by
    unfold RU at h ⊢
    obtain ⟨a, vs, e, h1, h2⟩ := h
    exact ⟨a, vs, e, t.tup _ _ h1, RUs.mono t us vs h2⟩
  | .ft us, _, h => by
    unfold RU at h ⊢
    obtain ⟨a, vs, ob, e, h1, hc, hd, h2⟩ := h
    exact ⟨a, vs, ob, e, t.frz _ _ _ h1, hc, hd, RUs.mono t us vs h2⟩
theorem RUs.mono (t : TM K H H') : ∀ (us : List U) (vs : List V), RUs K H us vs → RUs K H' us vs
  | [], _, h => h
  | u :: us, _, h => by
    unfold RUs at h ⊢
    obtain ⟨v, r, e, h1, h2⟩ := h
    exact ⟨v, r, e, RU.mono t u v h1, RUs.mono t us r h2⟩
end
theorem RUs.nil : RUs K H [] [] := rfl
theorem RUs.cons {u : U} {us : List U} {v : V} {vs : List V} (h : RU K H u v) (t : RUs K H us vs) : RUs K H (u :: us) (v :: vs) := by
  unfold RUs
  exact ⟨v, vs, rfl, h, t⟩
theorem RUs.uncons {u : U} {us : List U} {vs : List V} (h : RUs K H (u :: us) vs) : ∃ v r, vs = v :: r ∧ RU K H u v ∧ RUs K H us r := by
  unfold RUs at h
  exact h
theorem RUs.length : ∀ {us : List U} {vs : List V}, RUs K H us vs → vs.length = us.length
  | [], vs, h => by
    have e : vs = [] := h
    rw [e]
    rfl
  | u :: us, vs, h => by
    obtain ⟨v, r, e, _, t⟩ := h.uncons
    rw [e, List.length_cons, List.length_cons, RUs.length t]
theorem RUs.get : ∀ {us : List U} {vs : List V} {i : Nat} {u : U}, RUs K H us vs → us[i]? = some u → ∃ v, vs[i]? = some v ∧ RU K H u v
  | [], _, _, _, _, e => by simp at e
  | u :: us, vs, 0, w, h, e => by
    obtain ⟨v, r, e1, q, t⟩ := h.uncons
    subst e1
    have e2 : u = w := by simpa using e
    subst e2
    exact ⟨v, rfl, q⟩
  | u :: us, vs, i + 1, w, h, e => by
    obtain ⟨v, r, e1, q, t⟩ := h.uncons
    subst e1
    obtain ⟨v2, g1, g2⟩ := RUs.get (i := i) t (by simpa using e)
    exact ⟨v2, by simpa using g1, g2⟩
theorem RUs.back : ∀ {us : List U} {vs : List V} {i : Nat} {v : V}, RUs K H us vs → vs[i]? = some v → ∃ u, us[i]? = some u ∧ RU K H u v
  | [], vs, i, v, h, e => by
    have z : vs = [] := h
    rw [z] at e
    simp at e
  | u :: us, vs, 0, w, h, e => by
    obtain ⟨v, r, e1, q, t⟩ := h.uncons
    subst e1
    have e2 : v = w := by simpa using e
    subst e2
    exact ⟨u, rfl, q⟩
  | u :: us, vs, i + 1, w, h, e => by
    obtain ⟨v, r, e1, q, t⟩ := h.uncons
    subst e1
    obtain ⟨v2, g1, g2⟩ := RUs.back (i := i) t (by simpa using e)
    exact ⟨v2, by simpa using g1, g2⟩
theorem RUs.append : ∀ {us ws : List U} {vs xs : List V}, RUs K H us vs → RUs K H ws xs → RUs K H (us ++ ws) (vs ++ xs)
  | [], _, vs, _, h, t => by
    have e : vs = [] := h
    subst e
    exact t
  | u :: us, ws, vs, xs, h, t => by
    obtain ⟨v, r, e1, q, t1⟩ := h.uncons
    subst e1
    exact .cons q (RUs.append t1 t)
theorem RUs.take : ∀ {us : List U} {vs : List V} (n : Nat), RUs K H us vs → RUs K H (us.take n) (vs.take n)
  | _, _, 0, _ => rfl
  | [], vs, n + 1, h => by
    have e : vs = [] := h
    subst e
    exact rfl
  | u :: us, vs, n + 1, h => by
    obtain ⟨v, r, e1, q, t1⟩ := h.uncons
    subst e1
    exact .cons q (RUs.take n t1)
theorem RUs.drop : ∀ {us : List U} {vs : List V} (n : Nat), RUs K H us vs → RUs K H (us.drop n) (vs.drop n)
  | _, _, 0, h => h
  | [], vs, n + 1, h => by
    have e : vs = [] := h
    subst e
    exact rfl
  | u :: us, vs, n + 1, h => by
    obtain ⟨v, r, e1, q, t1⟩ := h.uncons
    subst e1
    exact RUs.drop n t1
theorem RUs.set {u : U} {v : V} (q : RU K H u v) : ∀ {us : List U} {vs : List V} (i : Nat), RUs K H us vs → RUs K H (us.set i u) (vs.set i v)
  | [], vs, i, h => by
    have e : vs = [] := h
    subst e
    exact rfl
  | w :: us, vs, 0, h => by
    obtain ⟨v1, r, e1, q1, t1⟩ := h.uncons
    subst e1
    exact .cons q t1
  | w :: us, vs, i + 1, h => by
    obtain ⟨v1, r, e1, q1, t1⟩ := h.uncons
    subst e1
    exact .cons q1 (RUs.set q i t1)
theorem RUs.reverse : ∀ {us : List U} {vs : List V}, RUs K H us vs → RUs K H us.reverse vs.reverse
  | [], vs, h => by
    have e : vs = [] := h
    subst e
    exact rfl
  | u :: us, vs, h => by
    obtain ⟨v, r, e1, q, t1⟩ := h.uncons
    subst e1
    rw [List.reverse_cons, List.reverse_cons]
    exact RUs.append (RUs.reverse t1) (.cons q .nil)
theorem RKV.mono {κ : Type} (t : TM K H H') {a : List (κ × U)} {b : List (κ × V)} (h : RKV K H a b) : RKV K H' a b := Paired.mapP h fun p q z => ⟨z.1, RU.mono t _ _ z.2⟩
end

/-- how the objects lie -/
def RO (K : PySem.W.Frag) (H : Hp) : UO → HO → Prop
  | .lst us, o => ∃ vs, o = .lst vs ∧ RUs K H us vs
  | .lck us, o => ∃ ob vs, o = .frz ob (.lst vs) ∧ RUs K H us vs
  | .dK kvs, o => ∃ kw, o = .dK kw ∧ RKV K H kvs kw
  | .dT kvs, o => ∃ kw, o = .dT kw ∧ RKV K H kvs kw
  | .ins C dx fs, o => ∃ fw, o = .ins C dx fw ∧ RKV K H fs fw
  | .xd fs, o => ∃ fw, o = .xd fw ∧ RKV K H fs fw
theorem RO.mono {K : PySem.W.Frag} {H H' : Hp} (t : TM K H H') : ∀ {u : UO} {o : HO}, RO K H u o → RO K H' u o
  | .lst _, _, ⟨vs, e, h⟩ => ⟨vs, e, RUs.mono t _ _ h⟩
  | .lck _, _, ⟨ob, vs, e, h⟩ => ⟨ob, vs, e, RUs.mono t _ _ h⟩
  | .dK _, _, ⟨kw, e, h⟩ => ⟨kw, e, RKV.mono t h⟩
  | .dT _, _, ⟨kw, e, h⟩ => ⟨kw, e, RKV.mono t h⟩
  | .ins _ _ _, _, ⟨kw, e, h⟩ => ⟨kw, e, RKV.mono t h⟩
  | .xd _, _, ⟨kw, e, h⟩ => ⟨kw, e, RKV.mono t h⟩
theorem RO.notbl {K : PySem.W.Frag} {H : Hp} : ∀ {u : UO} {o : HO}, RO K H u o → ∀ ps, o ≠ .tbl ps
  | .lst _, _, ⟨_, e, _⟩, _, z => by rw [e] at z; cases z
  | .lck _, _, ⟨_, _, e, _⟩, _, z => by rw [e] at z; cases z
  | .dK _, _, ⟨_, e, _⟩, _, z => by rw [e] at z; cases z
  | .dT _, _, ⟨_, e, _⟩, _, z => by rw [e] at z; cases z
  | .ins _ _ _, _, ⟨_, e, _⟩, _, z => by rw [e] at z; cases z
  | .xd _, _, ⟨_, e, _⟩, _, z => by rw [e] at z; cases z
def MutU : Option UO → Prop
  | some (.lck _) => False
  | none => False
  | _ => True
theorem RO.soft {K : PySem.W.Frag} {H : Hp} {u : UO} {o : HO} (h : RO K H u o) (m : MutU (some u)) : Soft (some o) := by
  cases u with
  | lck us => exact m.elim
  | lst us => obtain ⟨_, rfl, _⟩ := h; trivial
  | dK us => obtain ⟨_, rfl, _⟩ := h; trivial
  | dT us => obtain ⟨_, rfl, _⟩ := h; trivial
  | ins C dx us => obtain ⟨_, rfl, _⟩ := h; trivial
  | xd us => obtain ⟨_, rfl, _⟩ := h; trivial

def Sub (h h' : HU) : Prop := ∀ a o, h a = some o → h' a = some o
theorem Sub.refl (h : HU) : Sub h h := fun _ _ e => e
theorem Sub.trans {h h1 h2 : HU} (a : Sub h h1) (b : Sub h1 h2) : Sub h h2 := fun x o e => b x o (a x o e)
theorem Sub.new {h : HU} {p : Addr} {o : UO} (n : h p = none) : Sub h (updU h p o) := fun a u e => by
  rw [updU_ne (neU e n)]
  exact e
theorem Sub.upd {h h' : HU} (s : Sub h h') (p : Addr) (o : UO) : Sub (updU h p o) (updU h' p o) := fun a u e => by
  by_cases z : a = p
  · subst z
    rw [updU_same] at e ⊢
    exact e
  · rw [updU_ne z] at e ⊢
    exact s _ _ e
/-- a step: from (H, h) to (H', h'); what data does not track stays as it is, but the tables of code -/
structure Stp (K : PySem.W.Frag) (H : Hp) (h : HU) (H' : Hp) (h' : HU) : Prop where
  tm : TM K H H'
  own : ∀ a, H a ≠ none → h a = none → h' a = none
  rest : ∀ a o, H a = some o → (∀ ps, o ≠ .tbl ps) → h a = none → H' a = some o
section
variable {K : PySem.W.Frag} {H H1 H2 : Hp} {h h1 h2 : HU}
theorem Stp.refl : Stp K H h H h := ⟨TM.refl K H, fun _ _ e => e, fun _ _ e _ _ => e⟩
theorem Stp.trans (a : Stp K H h H1 h1) (b : Stp K H1 h1 H2 h2) : Stp K H h H2 h2 :=
  ⟨a.tm.trans b.tm, fun x l e => b.own x (a.tm.live x l) (a.own x l e), fun x o e n z => b.rest x o (a.rest x o e n z) n (a.own x (by rw [e]; exact fun q => nomatch q) z)⟩
theorem Sub.none {h' : HU} (s : Sub h' h) {x : Addr} (e : h x = none) : h' x = none := by
  cases q : h' x with
  | none => rfl
  | some o =>
    have z := s x o q
    rw [e] at z
    cases z
theorem Stp.less {h' : HU} (a : Stp K H h H1 h1) (s : Sub h' h1) : Stp K H h H1 h' := ⟨a.tm, fun x l e => s.none (a.own x l e), a.rest⟩
theorem Stp.more {h' : HU} (a : Stp K H h H1 h1) (s : Sub h h') : Stp K H h' H1 h1 := ⟨a.tm, fun x l e => a.own x l (s.none e), fun x o e n z => a.rest x o e n (s.none z)⟩
theorem Stp.skip {p : Addr} {ho : HO} (n : H p = none) : Stp K H h (upd H p ho) h := ⟨TM.upd (by rw [n]; trivial), fun _ _ e => e, fun a o e _ _ => by
  rw [upd_ne (ne_of_none e n)]
  exact e⟩
theorem Stp.new {p : Addr} {ho : HO} {o : UO} (n : H p = none) : Stp K H h (upd H p ho) (updU h p o) := ⟨TM.upd (by rw [n]; trivial), fun a l e => by
  rw [updU_ne (fun z => l (by rw [z]; exact n))]
  exact e, fun a o e _ _ => by
  rw [upd_ne (ne_of_none e n)]
  exact e⟩
theorem Stp.put {p : Addr} {ho : HO} {o o0 : UO} (n : h p = some o0) (t : TM K H (upd H p ho)) : Stp K H h (upd H p ho) (updU h p o) := ⟨t, fun a l e => by
  rw [updU_ne (fun z => by rw [z, n] at e; cases e)]
  exact e, fun a o e _ z => by
  rw [upd_ne (fun q => by rw [q, n] at z; cases z)]
  exact e⟩
end
/-- what a def's run starts from: the tables of code, the heap at its entry -/
structure ZC where
  tabs : List NTab
  h0 : Hp
  u0 : HU
/-- the heap of data is held -/
structure RH (K : PySem.W.Frag) (T : ZC) (h : HU) (H : Hp) : Prop where
  obj : ∀ a o, h a = some o → ∃ ho, H a = some ho ∧ RO K H o ho
  tab : TabsN T.tabs H
  st0 : Stp K T.h0 T.u0 H h
section
variable {K : PySem.W.Frag} {T : ZC} {H H1 H2 : Hp} {h h1 h2 : HU}
theorem RH.free (r : RH K T h H) {p : Addr} (n : H p = none) : h p = none := by
  cases e : h p with
  | none => rfl
  | some o =>
    obtain ⟨ho, z, _⟩ := r.obj p o e
    rw [n] at z
    cases z
theorem TabN.upd {P : Addr} {nm : Nat → Nat → Str} {a : Addr} {o : HO} (t : TabN H P nm) (s : Soft (H a)) : TabN (upd H a o) P nm := by
  obtain ⟨ps, h1, h2, h3⟩ := t
  have n1 : P ≠ a := fun z => by
    rw [← z, h1] at s
    exact s
  refine ⟨ps, by rw [upd_ne n1]; exact h1, h2, fun pos cv hc => ?_⟩
  obtain ⟨c, e1, e2⟩ := h3 pos cv hc
  have n2 : c ≠ a := fun z => by
    rw [← z, e2] at s
    exact s
  exact ⟨c, e1, by rw [upd_ne n2]; exact e2⟩
theorem RH.sub (r : RH K T h H) (s : Sub h1 h) : RH K T h1 H := ⟨fun a o e => r.obj a o (s a o e), r.tab, r.st0.less s⟩
/-- a new object of the heap, told or not -/
theorem RH.skip (r : RH K T h H) {p : Addr} {ho : HO} (n : H p = none) : RH K T h (upd H p ho) := by
  have t : TM K H (upd H p ho) := TM.upd (by rw [n]; trivial)
  refine ⟨fun a o e => ?_, fun q hq => TabN.upd (r.tab q hq) (by rw [n]; trivial), r.st0.trans (Stp.skip n)⟩
  obtain ⟨ho', z, q⟩ := r.obj a o e
  exact ⟨ho', by rw [upd_ne (ne_of_none z n)]; exact z, q.mono t⟩
theorem RH.new (r : RH K T h H) {p : Addr} {ho : HO} {o : UO} (n : H p = none) (x : RO K H o ho) : RH K T (updU h p o) (upd H p ho) := by
  have t : TM K H (upd H p ho) := TM.upd (by rw [n]; trivial)
  refine ⟨fun a o' e => ?_, fun q hq => TabN.upd (r.tab q hq) (by rw [n]; trivial), r.st0.trans (Stp.new n)⟩
  by_cases z : a = p
  · subst z
    rw [updU_same] at e
    cases e
    exact ⟨ho, upd_same, x.mono t⟩
  · rw [updU_ne z] at e
    obtain ⟨ho', z', q⟩ := r.obj a o' e
    exact ⟨ho', by rw [upd_ne z]; exact z', q.mono t⟩
/-- an object of data is written -/
theorem RH.put (r : RH K T h H) {p : Addr} {ho : HO} {o o0 : UO} (n : h p = some o0) (m : MutU (some o0)) (x : RO K H o ho) : RH K T (updU h p o) (upd H p ho) ∧ TM K H (upd H p ho) := by
  obtain ⟨ho0, e0, q0⟩ := r.obj p o0 n
  have sf : Soft (H p) := by
    rw [e0]
    exact q0.soft m
  have t : TM K H (upd H p ho) := TM.upd sf
  refine ⟨⟨fun a o' e => ?_, fun q hq => TabN.upd (r.tab q hq) sf, r.st0.trans (Stp.put n t)⟩, t⟩
  by_cases z : a = p
  · subst z
    rw [updU_same] at e
    cases e
    exact ⟨ho, upd_same, x.mono t⟩
  · rw [updU_ne z] at e
    obtain ⟨ho', z', q⟩ := r.obj a o' e
    exact ⟨ho', by rw [upd_ne z]; exact z', q.mono t⟩
end

/-! ### the slots -/
structure RS (K : PySem.W.Frag) (H : Hp) (s : SU) (σ : St) : Prop where
  len : s.length = σ.length
  all : ∀ (i : Nat) (u : U), s[i]? = some (some u) → ∃ v, σ[i]? = some (some v) ∧ RU K H u v
theorem RS.mono {K : PySem.W.Frag} {H H' : Hp} {s : SU} {σ : St} (r : RS K H s σ) (t : TM K H H') : RS K H' s σ := ⟨r.len, fun i u e => by
  obtain ⟨v, h1, h2⟩ := r.all i u e
  exact ⟨v, h1, RU.mono t u v h2⟩⟩
theorem RS.set {K : PySem.W.Frag} {H : Hp} {s : SU} {σ : St} {u : U} {v : V} (r : RS K H s σ) (i : Nat) (q : RU K H u v) : RS K H (s.set i (some u)) (σ.set i (some v)) := by
  refine ⟨by rw [List.length_set, List.length_set]; exact r.len, fun j w e => ?_⟩
  by_cases z : i = j
  · subst z
    have hl : i < s.length := by
      have := (List.getElem?_eq_some_iff.mp e).1
      rwa [List.length_set] at this
    rw [List.getElem?_set_self hl] at e
    have e2 : u = w := Option.some.inj (Option.some.inj e)
    subst e2
    exact ⟨v, by rw [List.getElem?_set_self (by rw [← r.len]; exact hl)], q⟩
  · rw [List.getElem?_set_ne z] at e
    obtain ⟨v', h1, h2⟩ := r.all j w e
    exact ⟨v', by rw [List.getElem?_set_ne z]; exact h1, h2⟩
theorem RS.unset {K : PySem.W.Frag} {H : Hp} {s : SU} {σ : St} (r : RS K H s σ) (i : Nat) : RS K H (s.set i none) (σ.set i none) := by
  refine ⟨by rw [List.length_set, List.length_set]; exact r.len, fun j w e => ?_⟩
  by_cases z : i = j
  · subst z
    have hl : i < s.length := by
      have := (List.getElem?_eq_some_iff.mp e).1
      rwa [List.length_set] at this
    rw [List.getElem?_set_self hl] at e
    cases Option.some.inj e
  · rw [List.getElem?_set_ne z] at e
    obtain ⟨v', h1, h2⟩ := r.all j w e
    exact ⟨v', by rw [List.getElem?_set_ne z]; exact h1, h2⟩
/-- less is known of the slots -/
def SubS (s s' : SU) : Prop := s.length = s'.length ∧ ∀ (i : Nat) (u : U), s[i]? = some (some u) → s'[i]? = some (some u)
theorem SubS.refl (s : SU) : SubS s s := ⟨rfl, fun _ _ e => e⟩
theorem RS.sub {K : PySem.W.Frag} {H : Hp} {s s' : SU} {σ : St} (r : RS K H s σ) (q : SubS s' s) : RS K H s' σ := ⟨q.1.trans r.len, fun i u e => r.all i u (q.2 i u e)⟩

/-! ### readings over data -/
abbrev DV := U → HU → Prop
abbrev DE := SU → HU → DV → Prop
abbrev DT := SU → HU → (Bool → HU → Prop) → Prop
abbrev DA := SU → HU → (List U → HU → Prop) → Prop
structure DEnds where
  nx : SU → HU → Prop
  rt : DV
  bk : SU → HU → Prop := fun _ _ => False
  ct : SU → HU → Prop := fun _ _ => False
abbrev DS := DEnds → SU → HU → Prop
abbrev DG := U → SU → HU → (SU → HU → Prop) → Prop
section
variable (K : PySem.W.Frag) (T : ZC)
def LE (t : DE) : TE := fun σ H Q => ∃ s h q, RS K H s σ ∧ RH K T h H ∧ t s h q ∧ ∀ u h' v H', q u h' → RU K H' u v → RH K T h' H' → Stp K H h H' h' → Q v H'
def LT (t : DT) : TT := fun σ H Q => ∃ s h q, RS K H s σ ∧ RH K T h H ∧ t s h q ∧ ∀ b h' H', q b h' → RH K T h' H' → Stp K H h H' h' → Q b H'
def LA (t : DA) : TA := fun σ H Q => ∃ s h q, RS K H s σ ∧ RH K T h H ∧ t s h q ∧ ∀ us h' vs H', q us h' → RUs K H' us vs → RH K T h' H' → Stp K H h H' h' → Q vs H'
/-- the ends of a block -/
structure LEnds (E : DEnds) (D : Ends) (h : HU) (H : Hp) : Prop where
  nx : ∀ s' h' σ' H', E.nx s' h' → RS K H' s' σ' → RH K T h' H' → Stp K H h H' h' → D.nx σ' H'
  rt : ∀ u h' v H', E.rt u h' → RU K H' u v → RH K T h' H' → Stp K H h H' h' → D.rt v H'
  bk : ∀ s' h' σ' H', E.bk s' h' → RS K H' s' σ' → RH K T h' H' → Stp K H h H' h' → D.bk σ' H'
  ct : ∀ s' h' σ' H', E.ct s' h' → RS K H' s' σ' → RH K T h' H' → Stp K H h H' h' → D.ct σ' H'
def LS (t : DS) : TS := fun D σ H => ∃ s h E, RS K H s σ ∧ RH K T h H ∧ t E s h ∧ LEnds K T E D h H
def LG (g : DG) : TG := fun v σ H Q => ∃ u s h q, RU K H u v ∧ RS K H s σ ∧ RH K T h H ∧ g u s h q ∧ ∀ s' h' σ' H', q s' h' → RS K H' s' σ' → RH K T h' H' → Stp K H h H' h' → Q σ' H'
end
theorem LEnds.step {K : PySem.W.Frag} {T : ZC} {E : DEnds} {D : Ends} {h h' : HU} {H H' : Hp} (l : LEnds K T E D h H) (s : Stp K H h H' h') : LEnds K T E D h' H' :=
  ⟨fun a b c d q r1 r2 t => l.nx a b c d q r1 r2 (s.trans t), fun a b c d q r1 r2 t => l.rt a b c d q r1 r2 (s.trans t), fun a b c d q r1 r2 t => l.bk a b c d q r1 r2 (s.trans t), fun a b c d q r1 r2 t => l.ct a b c d q r1 r2 (s.trans t)⟩

theorem PE.weak {X : Cx} {e : Expr} {t t' : TE} (h : PE X e t) (w : ∀ σ H Q, t' σ H Q → t σ H Q) : PE X e t' := ⟨fun pins s σ H Q I q => h.run pins s σ H Q I (w σ H Q q)⟩
theorem PT.weak {X : Cx} {e : Expr} {t t' : TT} (h : PT X e t) (w : ∀ σ H Q, t' σ H Q → t σ H Q) : PT X e t' := ⟨fun pins s σ H Q I q => h.run pins s σ H Q I (w σ H Q q)⟩
theorem PA.weak {X : Cx} {e : List Expr} {t t' : TA} (h : PA X e t) (w : ∀ σ H Q, t' σ H Q → t σ H Q) : PA X e t' := ⟨fun pos pins s σ H Q I q => h.run pos pins s σ H Q I (w σ H Q q)⟩
theorem PS.weak {X : Cx} {e : Stmt} {t t' : TS} (h : PS X e t) (w : ∀ D σ H, t' D σ H → t D σ H) : PS X e t' := ⟨fun pins s σ H D I q => h.run pins s σ H D I (w D σ H q)⟩
theorem PSs.weak {X : Cx} {e : List Stmt} {t t' : TS} (h : PSs X e t) (w : ∀ D σ H, t' D σ H → t D σ H) : PSs X e t' := ⟨fun pins s σ H D I q => h.run pins s σ H D I (w D σ H q)⟩
theorem PG.weak {X : Cx} {e : Expr} {t t' : TG} (h : PG X e t) (w : ∀ v σ H Q, t' v σ H Q → t v σ H Q) : PG X e t' := ⟨fun pins s σ H v u Q I r q => h.run pins s σ H v u Q I r (w v σ H Q q)⟩
end DL

set_option Elab.async false
set_option linter.all false
set_option maxRecDepth 100000
set_option maxHeartbeats 2000000
/-! The data layer: expressions, tests, operators. -/
namespace DL
open PySem L2 NdefX LamX

abbrev PD (X : Cx) (T : ZC) (e : Expr) (t : DE) : Prop := PE X e (LE X.K T t)
abbrev PDT (X : Cx) (T : ZC) (e : Expr) (t : DT) : Prop := PT X e (LT X.K T t)
abbrev PDW (X : Cx) (T : ZC) (e : Expr) (t : DT) : Prop := PW X e (LT X.K T t)
abbrev PDA (X : Cx) (T : ZC) (es : List Expr) (t : DA) : Prop := PA X es (LA X.K T t)
abbrev PDS (X : Cx) (T : ZC) (st : Stmt) (t : DS) : Prop := PS X st (LS X.K T t)
abbrev PDSs (X : Cx) (T : ZC) (st : List Stmt) (t : DS) : Prop := PSs X st (LS X.K T t)
abbrev PDG (X : Cx) (T : ZC) (e : Expr) (g : DG) : Prop := PG X e (LG X.K T g)

def slot : SU → Nat → Option U
  | [], _ => none
  | u :: _, 0 => u
  | _ :: r, n + 1 => slot r n
theorem slot_get : ∀ (s : SU) (i : Nat) (u : U), slot s i = some u → s[i]? = some (some u)
  | [], _, _, h => nomatch h
  | v :: r, 0, u, h => by
    have e : v = some u := h
    rw [e]
    rfl
  | v :: r, i + 1, u, h => by
    have e := slot_get r i u h
    simpa using e

/-! ### names, constants -/
def dVar (i : Nat) (s : SU) (h : HU) (Q : DV) : Prop := match slot s i with
  | some u => Q u h
  | none => False
def dC (u : U) (s : SU) (h : HU) (Q : DV) : Prop := Q u h
section
variable {X : Cx} {T : ZC}
theorem d_var {i : Nat} {x : Str} {pos : Pos} (hN : X.N[i]? = some x) (hv : Vis X.env.scope x) (hd : (x == ("__debug__" : Str)) = false := by decide) (hcd : (x == ("__classdict__" : Str)) = false := by decide) : PD X T (.Name x pos) (dVar i) := by
  refine PE.weak (pe_var (i := i) hN hv hd hcd) fun σ H Q ⟨s, h, q, rs, rh, hq, k⟩ => ?_
  unfold dVar at hq
  split at hq
  · rename_i u e
    obtain ⟨v, e1, r⟩ := rs.all i u (slot_get s i u e)
    exact ⟨v, e1, k u h v H hq r rh Stp.refl⟩
  · exact hq.elim
theorem d_const {e : Expr} {v : V} {u : U} (p : PE X e (tC v)) (r : ∀ H, RU X.K H u v) : PD X T e (dC u) :=
  PE.weak p fun σ H Q ⟨s, h, q, rs, rh, hq, k⟩ => k u h v H hq (r H) rh Stp.refl
theorem d_int {i j pos} : PD X T (.Constant (.int i) j pos) (dC (.int i)) := d_const pe_int fun _ => rfl
theorem d_bl {b j pos} : PD X T (.Constant (.bool b) j pos) (dC (.bl b)) := d_const pe_bl fun _ => rfl
theorem d_non {j pos} : PD X T (.Constant .none j pos) (dC .non) := d_const pe_non fun _ => rfl
theorem d_str {x j pos} : PD X T (.Constant (.str x) j pos) (dC (.str x)) := d_const pe_str fun _ => rfl
/-- a module's thing -/
theorem d_glob {x : Str} {a : Addr} {pos : Pos} (hg : Gl X x) (hm : X.mg x = some (.ref a)) (hd : (x == ("__debug__" : Str)) = false := by decide) : PD X T (.Name x pos) (dC (.ref a)) := d_const (pe_glob (v := .ref a) hg hm rfl hd) fun _ => rfl
theorem d_globI {x : Str} {i : Int} {t : Tok} {pos : Pos} (hg : Gl X x) (hm : X.mg x = some (.int i t)) (hd : (x == ("__debug__" : Str)) = false := by decide) : PD X T (.Name x pos) (dC (.int i)) := d_const (pe_glob (v := .int i) hg hm ⟨t, rfl⟩ hd) fun _ => rfl
theorem d_globS {x : Str} {i : Str} {t : Tok} {pos : Pos} (hg : Gl X x) (hm : X.mg x = some (.str i t)) (hd : (x == ("__debug__" : Str)) = false := by decide) : PD X T (.Name x pos) (dC (.str i)) := d_const (pe_glob (v := .str i) hg hm ⟨t, rfl⟩ hd) fun _ => rfl
theorem d_bty {x : Str} {n : String} {pos : Pos} (hg : Gl X x) (hm : X.mg x = none) (hv : bootBuiltins x = some (.type n)) (hn : x ≠ "__name__" := by decide) (hd : (x == ("__debug__" : Str)) = false := by decide) : PD X T (.Name x pos) (dC (.ty n)) := d_const (pe_bltn (v := .ty n) hg hm hv rfl hn hd) fun _ => rfl
end

/-! ### operations on values -/
abbrev D2 := U → U → HU → DV → Prop
abbrev D1 := U → HU → DV → Prop
def LO (K : PySem.W.Frag) (T : ZC) (r : D2) : R2 := fun x y H Q => ∃ a b h q, RU K H a x ∧ RU K H b y ∧ RH K T h H ∧ r a b h q ∧ ∀ u h' v H', q u h' → RU K H' u v → RH K T h' H' → Stp K H h H' h' → Q v H'
def LU (K : PySem.W.Frag) (T : ZC) (r : D1) : V → Hp → VK → Prop := fun x H Q => ∃ a h q, RU K H a x ∧ RH K T h H ∧ r a h q ∧ ∀ u h' v H', q u h' → RU K H' u v → RH K T h' H' → Stp K H h H' h' → Q v H'
def dOp (r : D2) (ta tb : DE) (s : SU) (h : HU) (Q : DV) : Prop := ta s h fun x h1 => tb s h1 fun y h2 => r x y h2 Q
def dUn (r : D1) (ta : DE) (s : SU) (h : HU) (Q : DV) : Prop := ta s h fun x h1 => r x h1 Q
section
variable {X : Cx} {T : ZC} {a b c : Expr} {ta tb tc : DE} {pos : Pos}
theorem bin2 {r : D2} {σ : L2.St} {H : Hp} {Q : VK} (q : LE X.K T (dOp r ta tb) σ H Q) : tOp (LO X.K T r) (LE X.K T ta) (LE X.K T tb) σ H Q := by
  obtain ⟨s, h, q, rs, rh, hq, k⟩ := q
  refine ⟨s, h, _, rs, rh, hq, fun x h1 v1 H1 q1 r1 rh1 st1 => ?_⟩
  refine ⟨s, h1, _, rs.mono st1.tm, rh1, q1, fun y h2 v2 H2 q2 r2 rh2 st2 => ?_⟩
  exact ⟨x, y, h2, q, RU.mono st2.tm _ _ r1, r2, rh2, q2, fun u h' v H' hu ru rh' st' => k u h' v H' hu ru rh' (st1.trans (st2.trans st'))⟩
theorem d_op {op : Operator} {r : D2} (ho : OpR X (binaryOp op) (LO X.K T r)) (ha : PD X T a ta) (hb : PD X T b tb) : PD X T (.BinOp a op b pos) (dOp r ta tb) := PE.weak (pe_op ho ha hb) fun _ _ _ q => bin2 q
theorem d_cmp {op : CmpOp} {r : D2} (ho : OpR X (compareOp op) (LO X.K T r)) (ha : PD X T a ta) (hb : PD X T b tb) (hm : behindInMarks op b = false) : PD X T (.Compare a [op] [b] pos) (dOp r ta tb) := PE.weak (pe_cmpR ho ha hb hm) fun _ _ _ q => bin2 q
theorem d_ix {r : D2} (hr : IxR X (LO X.K T r)) (ha : PD X T a ta) (hb : PD X T b tb) (hs : PlainIx b) : PD X T (.Subscript a b pos) (dOp r ta tb) := PE.weak (pe_ix hr ha hb hs) fun _ _ _ q => bin2 q
theorem d_un {op : UnaryOp} {r : D1} (ho : UnR X (unaryOp op) (LU X.K T r)) (ha : PD X T a ta) : PD X T (.UnaryOp op a pos) (dUn r ta) := PE.weak (pe_un ho ha) fun σ H Q ⟨s, h, q, rs, rh, hq, k⟩ =>
  ⟨s, h, _, rs, rh, hq, fun x h1 v1 H1 q1 r1 rh1 st1 => ⟨x, h1, q, r1, rh1, q1, fun u h' v H' hu ru rh' st' => k u h' v H' hu ru rh' (st1.trans st')⟩⟩

/-! ### tests -/
def dB (t : DE) (s : SU) (h : HU) (Q : Bool → HU → Prop) : Prop := t s h fun u h1 => match u with
  | .bl b => Q b h1
  | _ => False
theorem d_testC {op : CmpOp} {r : D2} (ho : OpR X (compareOp op) (LO X.K T r)) (ha : PD X T a ta) (hb : PD X T b tb) (hm : behindInMarks op b = false) : PDT X T (.Compare a [op] [b] pos) (dB (dOp r ta tb)) := by
  refine PT.weak (pt_cmpR ho ha hb hm) fun σ H Q ⟨s, h, q, rs, rh, hq, k⟩ => ?_
  refine bin2 (T := T) ⟨s, h, _, rs, rh, hq, fun u h' v H' hu ru rh' st => ?_⟩
  cases u with
  | bl c =>
    cases (show v = V.bl c from ru)
    exact ⟨c, rfl, k c h' H' hu rh' st⟩
  | _ => exact hu.elim
theorem d_testV {t : DE} (p : PD X T a t) (he : ∀ whole, isTrue a X.env whole = (do let v ← whole; standAt a.pos; holding [v] (truthy v)) := by intro _; rfl) : PDT X T a (dB t) := by
  refine PT.weak (pt_val p he) fun σ H Q ⟨s, h, q, rs, rh, hq, k⟩ => ?_
  refine ⟨s, h, _, rs, rh, hq, fun u h' v H' hu ru rh' st => ?_⟩
  cases u with
  | bl c =>
    cases (show v = V.bl c from ru)
    exact ⟨c, rfl, k c h' H' hu rh' st⟩
  | _ => exact hu.elim
def dAnd (t u : DT) (s : SU) (h : HU) (Q : Bool → HU → Prop) : Prop := t s h fun c h1 => (c = true → u s h1 Q) ∧ (c = false → Q false h1)
def dOr (t u : DT) (s : SU) (h : HU) (Q : Bool → HU → Prop) : Prop := t s h fun c h1 => (c = true → Q true h1) ∧ (c = false → u s h1 Q)
def dNot (t : DT) (s : SU) (h : HU) (Q : Bool → HU → Prop) : Prop := t s h fun c h1 => Q (!c) h1
theorem PW.weak {e : Expr} {t t' : TT} (h : PW X e t) (w : ∀ σ H Q, t' σ H Q → t σ H Q) : PW X e t' := ⟨fun wh pins s σ H Q I q => h.run wh pins s σ H Q I (w σ H Q q)⟩
variable {t u : DT} {rest : List Expr}
theorem d_and1 (ha : PDT X T a t) : PDW X T (.BoolOp .And [a] pos) t := pw_and1 ha
theorem d_or1 (ha : PDT X T a t) : PDW X T (.BoolOp .Or [a] pos) t := pw_or1 ha
theorem d_and (ha : PDT X T a t) (hb : PDW X T (.BoolOp .And (b :: rest) pos) u) : PDW X T (.BoolOp .And (a :: b :: rest) pos) (dAnd t u) := PW.weak (pw_and ha hb) fun σ H Q ⟨s, h, q, rs, rh, hq, k⟩ =>
  ⟨s, h, _, rs, rh, hq, fun c h1 H1 q1 rh1 st1 => by
    cases c with
    | true => exact ⟨s, h1, q, rs.mono st1.tm, rh1, q1.1 rfl, fun c' h' H' hu rh' st' => k c' h' H' hu rh' (st1.trans st')⟩
    | false => exact k false h1 H1 (q1.2 rfl) rh1 st1⟩
theorem d_or (ha : PDT X T a t) (hb : PDW X T (.BoolOp .Or (b :: rest) pos) u) : PDW X T (.BoolOp .Or (a :: b :: rest) pos) (dOr t u) := PW.weak (pw_or ha hb) fun σ H Q ⟨s, h, q, rs, rh, hq, k⟩ =>
  ⟨s, h, _, rs, rh, hq, fun c h1 H1 q1 rh1 st1 => by
    cases c with
    | false => exact ⟨s, h1, q, rs.mono st1.tm, rh1, q1.2 rfl, fun c' h' H' hu rh' st' => k c' h' H' hu rh' (st1.trans st')⟩
    | true => exact k true h1 H1 (q1.1 rfl) rh1 st1⟩
theorem d_not (ha : PDT X T a t) : PDT X T (.UnaryOp .Not a pos) (dNot t) := PT.weak (pt_not ha) fun σ H Q ⟨s, h, q, rs, rh, hq, k⟩ =>
  ⟨s, h, _, rs, rh, hq, fun c h1 H1 q1 rh1 st1 => k (!c) h1 H1 q1 rh1 st1⟩
/-- as values -/
def dAndV (ta tb : DE) (s : SU) (h : HU) (Q : DV) : Prop := ta s h fun x h1 => match x with
  | .bl true => tb s h1 Q
  | .bl false => Q (.bl false) h1
  | _ => False
def dOrV (ta tb : DE) (s : SU) (h : HU) (Q : DV) : Prop := ta s h fun x h1 => match x with
  | .bl false => tb s h1 Q
  | .bl true => Q (.bl true) h1
  | _ => False
def rNot : D1 := fun x h Q => match x with
  | .bl b => Q (.bl (!b)) h
  | _ => False
theorem d_oneV {op} (ha : PD X T a ta) : PD X T (.BoolOp op [a] pos) ta := pe_one ha
theorem d_andV (ha : PD X T a ta) (hb : PD X T (.BoolOp .And (b :: rest) pos) tb) : PD X T (.BoolOp .And (a :: b :: rest) pos) (dAndV ta tb) := PE.weak (pe_and ha hb) fun σ H Q ⟨s, h, q, rs, rh, hq, k⟩ =>
  ⟨s, h, _, rs, rh, hq, fun x h1 v1 H1 q1 r1 rh1 st1 => by
    cases x with
    | bl c =>
      cases (show v1 = V.bl c from r1)
      refine ⟨c, rfl, ?_⟩
      cases c with
      | true => exact ⟨s, h1, q, rs.mono st1.tm, rh1, q1, fun u h' v H' hu ru rh' st' => k u h' v H' hu ru rh' (st1.trans st')⟩
      | false => exact k _ h1 _ H1 q1 rfl rh1 st1
    | _ => exact q1.elim⟩
theorem d_orV (ha : PD X T a ta) (hb : PD X T (.BoolOp .Or (b :: rest) pos) tb) : PD X T (.BoolOp .Or (a :: b :: rest) pos) (dOrV ta tb) := PE.weak (pe_or ha hb) fun σ H Q ⟨s, h, q, rs, rh, hq, k⟩ =>
  ⟨s, h, _, rs, rh, hq, fun x h1 v1 H1 q1 r1 rh1 st1 => by
    cases x with
    | bl c =>
      cases (show v1 = V.bl c from r1)
      refine ⟨c, rfl, ?_⟩
      cases c with
      | false => exact ⟨s, h1, q, rs.mono st1.tm, rh1, q1, fun u h' v H' hu ru rh' st' => k u h' v H' hu ru rh' (st1.trans st')⟩
      | true => exact k _ h1 _ H1 q1 rfl rh1 st1
    | _ => exact q1.elim⟩
theorem d_notV (ha : PD X T a ta) : PD X T (.UnaryOp .Not a pos) (dUn rNot ta) := PE.weak (pe_not ha) fun σ H Q ⟨s, h, q, rs, rh, hq, k⟩ =>
  ⟨s, h, _, rs, rh, hq, fun x h1 v1 H1 q1 r1 rh1 st1 => by
    cases x with
    | bl c =>
      cases (show v1 = V.bl c from r1)
      exact ⟨c, rfl, k _ h1 _ H1 q1 rfl rh1 st1⟩
    | _ => exact q1.elim⟩
def dIf (t : DT) (ta tb : DE) (s : SU) (h : HU) (Q : DV) : Prop := t s h fun c h1 => (c = true → ta s h1 Q) ∧ (c = false → tb s h1 Q)
theorem d_ifExp (hc : PDT X T c t) (ha : PD X T a ta) (hb : PD X T b tb) : PD X T (.IfExp c a b pos) (dIf t ta tb) := PE.weak (pe_ifExp hc ha hb) fun σ H Q ⟨s, h, q, rs, rh, hq, k⟩ =>
  ⟨s, h, _, rs, rh, hq, fun c h1 H1 q1 rh1 st1 => by
    cases c with
    | true => exact ⟨s, h1, q, rs.mono st1.tm, rh1, q1.1 rfl, fun u h' v H' hu ru rh' st' => k u h' v H' hu ru rh' (st1.trans st')⟩
    | false => exact ⟨s, h1, q, rs.mono st1.tm, rh1, q1.2 rfl, fun u h' v H' hu ru rh' st' => k u h' v H' hu ru rh' (st1.trans st')⟩⟩
end

/-! ### arguments, displays -/
def dNil (s : SU) (h : HU) (Q : List U → HU → Prop) : Prop := Q [] h
def dCons (te : DE) (tr : DA) (s : SU) (h : HU) (Q : List U → HU → Prop) : Prop := te s h fun x h1 => tr s h1 fun xs h2 => Q (x :: xs) h2
def dTup (t : DA) (s : SU) (h : HU) (Q : DV) : Prop := t s h fun us h1 => us.length ≤ sizeLine ∧ Q (.tup us) h1
def dLst (t : DA) (s : SU) (h : HU) (Q : DV) : Prop := t s h fun us h1 => us.length ≤ sizeLine ∧ ∀ p, h1 p = none → Q (.ref p) (updU h1 p (.lst us))
section
variable {X : Cx} {T : ZC} {e : Expr} {es : List Expr} {te : DE} {t : DA} {pos : Pos}
theorem d_nil : PDA X T [] dNil := PA.weak pa_nil fun σ H Q ⟨s, h, q, rs, rh, hq, k⟩ => k [] h [] H hq rfl rh Stp.refl
theorem d_cons (ha : PD X T e te) (hr : PDA X T es t) (hs : starEach (e :: es) X.env = (false, eval e X.env) :: starEach es X.env := by rfl) : PDA X T (e :: es) (dCons te t) := PA.weak (pa_cons ha hr hs) fun σ H Q ⟨s, h, q, rs, rh, hq, k⟩ =>
  ⟨s, h, _, rs, rh, hq, fun x h1 v1 H1 q1 r1 rh1 st1 => ⟨s, h1, _, rs.mono st1.tm, rh1, q1, fun us h2 vs H2 q2 r2 rh2 st2 => k (x :: us) h2 (v1 :: vs) H2 q2 (.cons (RU.mono st2.tm _ _ r1) r2) rh2 (st1.trans st2)⟩⟩
theorem d_tup {x1} (p : PDA X T es t) : PD X T (.Tuple es x1 pos) (dTup t) := PE.weak (pe_tup p) fun σ H Q ⟨s, h, q, rs, rh, hq, k⟩ =>
  ⟨s, h, _, rs, rh, hq, fun us h1 vs H1 q1 r1 rh1 st1 => ⟨by rw [r1.length]; exact q1.1, fun p np => by
    have st2 : Stp X.K H1 h1 (upd H1 p (.tup vs)) h1 := Stp.skip np
    exact k (.tup us) h1 (.ref p) _ q1.2 (by unfold RU; exact ⟨p, vs, rfl, upd_same, RUs.mono st2.tm _ _ r1⟩) (rh1.skip np) (st1.trans st2)⟩⟩
theorem d_lst (p : PDA X T es t) : PD X T (.List es pos) (dLst t) := PE.weak (pe_lst p) fun σ H Q ⟨s, h, q, rs, rh, hq, k⟩ =>
  ⟨s, h, _, rs, rh, hq, fun us h1 vs H1 q1 r1 rh1 st1 => ⟨by rw [r1.length]; exact q1.1, fun p np => by
    have st2 : Stp X.K H1 h1 (upd H1 p (.lst vs)) (updU h1 p (.lst us)) := Stp.new np
    exact k (.ref p) _ (.ref p) _ (q1.2 p (rh1.free np)) rfl (rh1.new np ⟨vs, rfl, r1⟩) (st1.trans st2)⟩⟩
end
end DL

set_option Elab.async false
set_option linter.all false
set_option maxRecDepth 100000
set_option maxHeartbeats 2000000
/-! The data layer: operators by what stands at their sides. -/
namespace DL
open PySem L2 NdefX LamX
section
variable {X : Cx} {T : ZC}
/-- a rule that leaves the heap as it is -/
theorem stay {K : PySem.W.Frag} {h : HU} {H : Hp} {q : DV} {Q : VK} {u : U} {v : V} (k : ∀ u h' v H', q u h' → RU K H' u v → RH K T h' H' → Stp K H h H' h' → Q v H') (hq : q u h) (r : RU K H u v) (rh : RH K T h H) : Q v H := k u h v H hq r rh Stp.refl
theorem ru_tup {K : PySem.W.Frag} {H : Hp} {us : List U} {v : V} (r : RU K H (.tup us) v) : ∃ a vs, v = .ref a ∧ H a = some (.tup vs) ∧ RUs K H us vs := by
  unfold RU at r
  exact r
theorem ru_ft {K : PySem.W.Frag} {H : Hp} {us : List U} {v : V} (r : RU K H (.ft us) v) : ∃ a vs, v = .ref a ∧ SqT K H a vs ∧ RUs K H us vs ∧ ∃ ob : Obj, H a = some (.frz ob (.tup vs)) ∧ ob.cls = .type "tuple" ∧ ob.dict = Option.none := by
  unfold RU at r
  obtain ⟨a, vs, ob, e, h1, hc, hd, h2⟩ := r
  exact ⟨a, vs, e, .inl (.inr ⟨ob, h1⟩), h2, ob, h1, hc, hd⟩
theorem ru_mk {K : PySem.W.Frag} {H : Hp} {us : List U} {a : Addr} {vs : List V} (e : H a = some (.tup vs)) (r : RUs K H us vs) : RU K H (.tup us) (.ref a) := by
  unfold RU
  exact ⟨a, vs, rfl, e, r⟩
theorem RH.lst {K : PySem.W.Frag} {h : HU} {H : Hp} (rh : RH K T h H) {p : Addr} {us : List U} (e : h p = some (.lst us)) : ∃ vs, H p = some (.lst vs) ∧ RUs K H us vs := by
  obtain ⟨ho, e1, vs, e2, r⟩ := rh.obj p _ e
  subst e2
  exact ⟨vs, e1, r⟩
/-- a list that is read: of data, or locked -/
def lstU (h : HU) (p : Addr) : Option (List U) := match h p with
  | some (.lst us) => some us
  | some (.lck us) => some us
  | _ => none
theorem RH.sql {K : PySem.W.Frag} {h : HU} {H : Hp} (rh : RH K T h H) {p : Addr} {us : List U} (e : lstU h p = some us) : ∃ vs, SqL K H p vs ∧ RUs K H us vs := by
  unfold lstU at e
  split at e
  · rename_i ws e'
    cases e
    obtain ⟨vs, e1, r⟩ := rh.lst e'
    exact ⟨vs, SqL.of e1, r⟩
  · rename_i ws e'
    cases e
    obtain ⟨ho, e1, ob, vs, e2, r⟩ := rh.obj p _ e'
    subst e2
    exact ⟨vs, .inl (.inr ⟨ob, e1⟩), r⟩
  · cases e

def oAdd : D2 := fun x y h Q => match x, y with
  | .int i, .int j => Q (.int (i + j)) h
  | .str a, .str b => a.length + b.length ≤ sizeLine ∧ Q (.str (a ++ b)) h
  | .tup a, .tup b => a.length + b.length ≤ sizeLine ∧ Q (.tup (a ++ b)) h
  | .ref p, .ref q => match h p, h q with
    | some (.lst a), some (.lst b) => a.length + b.length ≤ sizeLine ∧ ∀ r, h r = none → Q (.ref r) (updU h r (.lst (a ++ b)))
    | _, _ => False
  | _, _ => False
theorem o_add : OpR X (binaryOp .Add) (LO X.K T oAdd) := by
  intro pins s σ H x y v u Q I rx ry hh
  obtain ⟨a, b, h, q, ra, rb, rh, hr, k⟩ := hh
  cases a <;> cases b <;> try exact hr.elim
  · rename_i i j
    cases (show x = V.int i from ra)
    cases (show y = V.int j from rb)
    exact op_add pins s σ H _ _ v u Q I rx ry ⟨i, j, rfl, rfl, stay k hr rfl rh⟩
  · rename_i i j
    cases (show x = V.str i from ra)
    cases (show y = V.str j from rb)
    exact op_add_str pins s σ H _ _ v u Q I rx ry ⟨i, j, rfl, rfl, hr.1, stay k hr.2 rfl rh⟩
  · rename_i i j
    obtain ⟨a1, v1, e1, t1, r1⟩ := ru_tup ra
    obtain ⟨a2, v2, e2, t2, r2⟩ := ru_tup rb
    subst e1 e2
    refine op_catA pins s σ H _ _ v u Q I rx ry ⟨a1, a2, v1, v2, rfl, rfl, SqT.of t1, SqT.of t2, by rw [r1.length, r2.length]; exact hr.1, fun z => ?_, fun z z2 => ?_, fun z z2 p np => ?_⟩
    · subst z
      have z1 : i = [] := List.eq_nil_of_length_eq_zero (by rw [← r1.length]; rfl)
      subst z1
      exact stay k hr.2 (ru_mk t2 r2) rh
    · subst z2
      have z1 : j = [] := List.eq_nil_of_length_eq_zero (by rw [← r2.length]; rfl)
      subst z1
      refine stay k hr.2 ?_ rh
      rw [List.append_nil]
      exact ru_mk t1 r1
    · have st : Stp X.K H h (upd H p (.tup (v1 ++ v2))) h := Stp.skip np
      exact k _ h _ _ hr.2 (ru_mk upd_same (RUs.mono st.tm _ _ (r1.append r2))) (rh.skip np) st
  · rename_i p1 p2
    cases (show x = V.ref p1 from ra)
    cases (show y = V.ref p2 from rb)
    have hr' : match h p1, h p2 with
      | some (.lst a), some (.lst b) => a.length + b.length ≤ sizeLine ∧ ∀ r, h r = none → q (.ref r) (updU h r (.lst (a ++ b)))
      | _, _ => False := hr
    split at hr'
    · rename_i a b e1 e2
      obtain ⟨v1, t1, r1⟩ := rh.lst e1
      obtain ⟨v2, t2, r2⟩ := rh.lst e2
      exact op_cat pins s σ H _ _ v u Q I rx ry ⟨p1, p2, v1, v2, rfl, rfl, t1, t2, by rw [r1.length, r2.length]; exact hr'.1, fun p np => k _ _ _ _ (hr'.2 p (rh.free np)) rfl (rh.new np ⟨_, rfl, r1.append r2⟩) (Stp.new np)⟩
    · exact hr'.elim
def oSub : D2 := fun x y h Q => match x, y with
  | .int i, .int j => Q (.int (i - j)) h
  | _, _ => False
theorem o_sub : OpR X (binaryOp .Sub) (LO X.K T oSub) := by
  intro pins s σ H x y v u Q I rx ry ⟨a, b, h, q, ra, rb, rh, hr, k⟩
  cases a <;> cases b <;> try exact hr.elim
  rename_i i j
  cases (show x = V.int i from ra)
  cases (show y = V.int j from rb)
  exact op_sub pins s σ H _ _ v u Q I rx ry ⟨i, j, rfl, rfl, stay k hr rfl rh⟩
/-- list * int, tuple * int are rules of their own -/
def oMul : D2 := fun x y h Q => match x, y with
  | .int i, .int j => CMul i j ∧ Q (.int (i * j)) h
  | .ref p, .int n => match h p with
    | some (.lst a) => -(2 ^ 63) ≤ n ∧ n < 2 ^ 63 ∧ a.length * n.toNat ≤ sizeLine ∧ ∀ r, h r = none → Q (.ref r) (updU h r (.lst (List.replicate n.toNat a).flatten))
    | _ => False
  | _, _ => False
theorem RUs.rep {K : PySem.W.Frag} {H : Hp} {us : List U} {vs : List V} (r : RUs K H us vs) : ∀ n : Nat, RUs K H (List.replicate n us).flatten (List.replicate n vs).flatten
  | 0 => rfl
  | n + 1 => by
    rw [List.replicate_succ, List.replicate_succ, List.flatten_cons, List.flatten_cons]
    exact r.append (RUs.rep r n)
theorem o_mul : OpR X (binaryOp .Mult) (LO X.K T oMul) := by
  intro pins s σ H x y v u Q I rx ry ⟨a, b, h, q, ra, rb, rh, hr, k⟩
  cases a <;> cases b <;> try exact hr.elim
  · rename_i i j
    cases (show x = V.int i from ra)
    cases (show y = V.int j from rb)
    exact op_mul pins s σ H _ _ v u Q I rx ry ⟨i, j, rfl, rfl, hr.1, stay k hr.2 rfl rh⟩
  · rename_i p n
    cases (show x = V.ref p from ra)
    cases (show y = V.int n from rb)
    have hr' : match h p with
      | some (.lst a) => -(2 ^ 63) ≤ n ∧ n < 2 ^ 63 ∧ a.length * n.toNat ≤ sizeLine ∧ ∀ r, h r = none → q (.ref r) (updU h r (.lst (List.replicate n.toNat a).flatten))
      | _ => False := hr
    split at hr'
    · rename_i a e1
      obtain ⟨v1, t1, r1⟩ := rh.lst e1
      exact op_rep pins s σ H _ _ v u Q I rx ry ⟨p, n, v1, rfl, rfl, t1, hr'.1, hr'.2.1, by rw [r1.length]; exact hr'.2.2.1, fun r nr => k _ _ _ _ (hr'.2.2.2 r (rh.free nr)) rfl (rh.new nr ⟨_, rfl, r1.rep _⟩) (Stp.new nr)⟩
    · exact hr'.elim
/-- by a positive divisor -/
def oDiv : D2 := fun x y h Q => match x, y with
  | .int i, .int j => 0 < j ∧ j < 1073741824 ∧ Q (.int (i / j)) h
  | _, _ => False
theorem o_div : OpR X (binaryOp .FloorDiv) (LO X.K T oDiv) := by
  intro pins s σ H x y v u Q I rx ry ⟨a, b, h, q, ra, rb, rh, hr, k⟩
  cases a <;> cases b <;> try exact hr.elim
  rename_i i j
  cases (show x = V.int i from ra)
  cases (show y = V.int j from rb)
  exact op_fdiv pins s σ H _ _ v u Q I rx ry ⟨i, j, rfl, rfl, ⟨hr.1, hr.2.1⟩, stay k hr.2.2 rfl rh⟩
def oMod : D2 := fun x y h Q => match x, y with
  | .int i, .int j => 0 < j ∧ Q (.int (i % j)) h
  | _, _ => False
theorem o_mod : OpR X (binaryOp .Mod) (LO X.K T oMod) := by
  intro pins s σ H x y v u Q I rx ry ⟨a, b, h, q, ra, rb, rh, hr, k⟩
  cases a <;> cases b <;> try exact hr.elim
  rename_i i j
  cases (show x = V.int i from ra)
  cases (show y = V.int j from rb)
  exact op_mod pins s σ H _ _ v u Q I rx ry ⟨i, j, rfl, rfl, hr.1, stay k hr.2 rfl rh⟩
def oPow : D2 := fun x y h Q => match x, y with
  | .int i, .int j => CPow i j ∧ Q (.int (i ^ j.toNat)) h
  | _, _ => False
theorem o_pow : OpR X (binaryOp .Pow) (LO X.K T oPow) := by
  intro pins s σ H x y v u Q I rx ry ⟨a, b, h, q, ra, rb, rh, hr, k⟩
  cases a <;> cases b <;> try exact hr.elim
  rename_i i j
  cases (show x = V.int i from ra)
  cases (show y = V.int j from rb)
  exact op_pow pins s σ H _ _ v u Q I rx ry ⟨i, j, rfl, rfl, hr.1, stay k hr.2 rfl rh⟩
def oShl : D2 := fun x y h Q => match x, y with
  | .int i, .int j => CPow i j ∧ Q (.int (i * 2 ^ j.toNat)) h
  | _, _ => False
theorem o_shl : OpR X (binaryOp .LShift) (LO X.K T oShl) := by
  intro pins s σ H x y v u Q I rx ry ⟨a, b, h, q, ra, rb, rh, hr, k⟩
  cases a <;> cases b <;> try exact hr.elim
  rename_i i j
  cases (show x = V.int i from ra)
  cases (show y = V.int j from rb)
  exact op_shl pins s σ H _ _ v u Q I rx ry ⟨i, j, rfl, rfl, hr.1, stay k hr.2 rfl rh⟩
def oNeg : D1 := fun x h Q => match x with
  | .int i => Q (.int (-i)) h
  | _ => False
theorem o_neg : UnR X (unaryOp .USub) (LU X.K T oNeg) := by
  intro pins s σ H x v Q I rx ⟨a, h, q, ra, rh, hr, k⟩
  cases a <;> try exact hr.elim
  rename_i i
  cases (show x = V.int i from ra)
  exact un_neg pins s σ H _ v Q I rx ⟨i, rfl, stay k hr rfl rh⟩

/-! ### comparisons -/
mutual
def toPy : U → Option PyData
  | .non => some .none
  | .bl b => some (.bool b)
  | .int i => some (.int i)
  | .str x => if PyData.strOk x = true then some (.str x) else none
  | .tup us => match toPys us with
    | some ds => some (.tuple ds)
    | none => none
  | .ft us => match toPys us with
    | some ds => some (.tuple ds)
    | none => none
  | _ => none
def toPys : List U → Option (List PyData)
  | [] => some []
  | u :: us => match toPy u, toPys us with
    | some d, some ds => some (d :: ds)
    | _, _ => none
end
/-- a list of plain data too -/
def toD (h : HU) : U → Option PyData
  | .ref p => match lstU h p with
    | some us => match toPys us with
      | some ds => some (.list ds)
      | none => none
    | none => none
  | u => toPy u
mutual
theorem toPy_dp {K : PySem.W.Frag} {H : Hp} : ∀ (u : U) (d : PyData) (v : V), toPy u = some d → RU K H u v → Dp K H v d
  | .non, d, v, e, r => by
    cases (show v = V.non from r)
    cases (show some PyData.none = some d from e)
    exact .non
  | .bl b, d, v, e, r => by
    cases (show v = V.bl b from r)
    cases (show some (PyData.bool b) = some d from e)
    exact .bl b
  | .int b, d, v, e, r => by
    cases (show v = V.int b from r)
    cases (show some (PyData.int b) = some d from e)
    exact .int b
  | .str b, d, v, e, r => by
    cases (show v = V.str b from r)
    unfold toPy at e
    split at e
    · cases e
      exact .str b
    · cases e
  | .tup us, d, v, e, r => by
    unfold toPy at e
    split at e
    · rename_i ds e1
      cases e
      obtain ⟨a, vs, rfl, t, rr⟩ := ru_tup r
      exact .tup (SqT.of t) (toPys_dp us ds vs e1 rr)
    · cases e
  | .ft us, d, v, e, r => by
    unfold toPy at e
    split at e
    · rename_i ds e1
      cases e
      obtain ⟨a, vs, rfl, t, rr, _⟩ := ru_ft r
      exact .tup t (toPys_dp us ds vs e1 rr)
    · cases e
  | .ref _, _, _, e, _ => by cases e
  | .ty _, _, _, e, _ => by cases e
  | .clo _, _, _, e, _ => by cases e
theorem toPys_dp {K : PySem.W.Frag} {H : Hp} : ∀ (us : List U) (ds : List PyData) (vs : List V), toPys us = some ds → RUs K H us vs → DpAll K H vs ds
  | [], ds, vs, e, r => by
    cases (show vs = [] from r)
    cases (show some ([] : List PyData) = some ds from e)
    exact .nil
  | u :: us, ds, vs, e, r => by
    unfold toPys at e
    split at e
    · rename_i d es e1 e2
      cases e
      obtain ⟨v, w, rfl, r1, r2⟩ := r.uncons
      exact .cons (toPy_dp u d v e1 r1) (toPys_dp us es w e2 r2)
    · cases e
end
mutual
theorem toPy_lay : ∀ (u : U) (d : PyData), toPy u = some d → d.canLay0 = true
  | .non, d, e => by cases (show some PyData.none = some d from e); rfl
  | .bl b, d, e => by cases (show some (PyData.bool b) = some d from e); rfl
  | .int b, d, e => by cases (show some (PyData.int b) = some d from e); rfl
  | .str b, d, e => by
    unfold toPy at e
    split at e
    · rename_i z
      cases e
      simpa [PyData.canLay0] using z
    · cases e
  | .tup us, d, e => by
    unfold toPy at e
    split at e
    · rename_i ds e1
      cases e
      have z := toPys_lay us ds e1
      simpa [PyData.canLay0] using z
    · cases e
  | .ft us, d, e => by
    unfold toPy at e
    split at e
    · rename_i ds e1
      cases e
      have z := toPys_lay us ds e1
      simpa [PyData.canLay0] using z
    · cases e
  | .ref _, _, e => by cases e
  | .ty _, _, e => by cases e
  | .clo _, _, e => by cases e
theorem toPys_lay : ∀ (us : List U) (ds : List PyData), toPys us = some ds → PyData.canLayAll0 ds = true
  | [], ds, e => by cases (show some ([] : List PyData) = some ds from e); rfl
  | u :: us, ds, e => by
    unfold toPys at e
    split at e
    · rename_i d es e1 e2
      cases e
      have z1 := toPy_lay u d e1
      have z2 := toPys_lay us es e2
      simp [PyData.canLayAll0, z1, z2]
    · cases e
end
theorem toD_lay {h : HU} : ∀ (u : U) (d : PyData), toD h u = some d → d.canLay0 = true
  | .ref p, d, e => by
    have e : (match lstU h p with
      | some us => match toPys us with
        | some ds => some (PyData.list ds)
        | none => none
      | none => none) = some d := e
    split at e
    · split at e
      · rename_i ds e1
        cases e
        have z := toPys_lay _ ds e1
        simpa [PyData.canLay0] using z
      · cases e
    · cases e
  | .non, d, e => toPy_lay _ _ e
  | .bl b, d, e => toPy_lay _ _ e
  | .int b, d, e => toPy_lay _ _ e
  | .str b, d, e => toPy_lay _ _ e
  | .tup us, d, e => toPy_lay _ _ e
  | .ft us, d, e => toPy_lay _ _ e
  | .ty _, _, e => by cases e
  | .clo _, _, e => by cases e
theorem toD_dp {K : PySem.W.Frag} {h : HU} {H : Hp} (rh : RH K T h H) : ∀ (u : U) (d : PyData) (v : V), toD h u = some d → RU K H u v → Dp K H v d
  | .ref p, d, v, e, r => by
    have e : (match lstU h p with
      | some us => match toPys us with
        | some ds => some (PyData.list ds)
        | none => none
      | none => none) = some d := e
    cases (show v = V.ref p from r)
    split at e
    · rename_i us e0
      split at e
      · rename_i ds e1
        cases e
        obtain ⟨vs, sq, rr⟩ := rh.sql e0
        exact .lst sq (toPys_dp us ds vs e1 rr)
      · cases e
    · cases e
  | .non, d, v, e, r => toPy_dp _ _ _ e r
  | .bl b, d, v, e, r => toPy_dp _ _ _ e r
  | .int b, d, v, e, r => toPy_dp _ _ _ e r
  | .str b, d, v, e, r => toPy_dp _ _ _ e r
  | .tup us, d, v, e, r => toPy_dp _ _ _ e r
  | .ft us, d, v, e, r => toPy_dp _ _ _ e r
  | .ty _, _, _, e, _ => by cases e
  | .clo _, _, _, e, _ => by cases e
theorem shaped_of {d : PyData} (h : d.canLay0 = true) (l : d.depth ≤ 64) : SeqAt.shaped d = true := by
  unfold SeqAt.shaped
  rw [h, decide_eq_true l]
  rfl
def oEqD (f : Bool → Bool) (x y : U) (h : HU) (Q : DV) : Prop := match toD h x, toD h y with
  | some d, some e => d.depth ≤ 64 ∧ e.depth ≤ 64 ∧ Q (.bl (f (PyData.eqv d e))) h
  | _, _ => False
def oEq : D2 := fun x y h Q => match x, y with
  | .int i, .int j => Q (.bl (decide (i = j))) h
  | .str i, .str j => Q (.bl (decide (i = j))) h
  | .bl i, .bl j => Q (.bl (decide (i = j))) h
  | x, y => oEqD id x y h Q
def oNe : D2 := fun x y h Q => match x, y with
  | .int i, .int j => Q (.bl (!decide (i = j))) h
  | .str i, .str j => Q (.bl (!decide (i = j))) h
  | .bl i, .bl j => Q (.bl (!decide (i = j))) h
  | x, y => oEqD not x y h Q
theorem dec_vint {i j : Int} : decide (V.int i = V.int j) = decide (i = j) := by
  by_cases e : i = j
  · rw [decide_eq_true e, e]
    simp
  · rw [decide_eq_false e, decide_eq_false (fun z => e (V.int.inj z))]
theorem dec_vstr {i j : Str} : decide (V.str i = V.str j) = decide (i = j) := by
  by_cases e : i = j
  · rw [decide_eq_true e, e]
    simp
  · rw [decide_eq_false e, decide_eq_false (fun z => e (V.str.inj z))]
theorem dec_vbl {i j : Bool} : decide (V.bl i = V.bl j) = decide (i = j) := by
  by_cases e : i = j
  · rw [decide_eq_true e, e]
    simp
  · rw [decide_eq_false e, decide_eq_false (fun z => e (V.bl.inj z))]
theorem o_eq (hu : X.A.units + 64 < cLine) : OpR X (compareOp .Eq) (LO X.K T oEq) := by
  intro pins s σ H x y v u Q I rx ry ⟨a, b, h, q, ra, rb, rh, hr, k⟩
  have gen : oEqD id a b h q → wpAny (model X.prog X.w) X.A (compareOp .Eq v u) (EP X pins σ Q) X.xe s := fun hg => by
    unfold oEqD at hg
    split at hg
    · rename_i d e e1 e2
      exact op_eqD hu pins s σ H x y v u Q I rx ry ⟨d, e, toD_dp rh a d x e1 ra, toD_dp rh b e y e2 rb, shaped_of (toD_lay a d e1) hg.1, shaped_of (toD_lay b e e2) hg.2.1, stay k hg.2.2 rfl rh⟩
    · exact hg.elim
  unfold oEq at hr
  split at hr
  · rename_i i j
    cases (show x = V.int i from ra)
    cases (show y = V.int j from rb)
    exact op_eq pins s σ H _ _ v u Q I rx ry ⟨rfl, by rw [dec_vint]; exact stay k hr rfl rh⟩
  · rename_i i j
    cases (show x = V.str i from ra)
    cases (show y = V.str j from rb)
    exact op_eq pins s σ H _ _ v u Q I rx ry ⟨rfl, by rw [dec_vstr]; exact stay k hr rfl rh⟩
  · rename_i i j
    cases (show x = V.bl i from ra)
    cases (show y = V.bl j from rb)
    exact op_eq pins s σ H _ _ v u Q I rx ry ⟨rfl, by rw [dec_vbl]; exact stay k hr rfl rh⟩
  · exact gen hr
theorem o_ne (hu : X.A.units + 64 < cLine) : OpR X (compareOp .NotEq) (LO X.K T oNe) := by
  intro pins s σ H x y v u Q I rx ry ⟨a, b, h, q, ra, rb, rh, hr, k⟩
  have gen : oEqD not a b h q → wpAny (model X.prog X.w) X.A (compareOp .NotEq v u) (EP X pins σ Q) X.xe s := fun hg => by
    unfold oEqD at hg
    split at hg
    · rename_i d e e1 e2
      exact op_neD hu pins s σ H x y v u Q I rx ry ⟨d, e, toD_dp rh a d x e1 ra, toD_dp rh b e y e2 rb, shaped_of (toD_lay a d e1) hg.1, shaped_of (toD_lay b e e2) hg.2.1, stay k hg.2.2 rfl rh⟩
    · exact hg.elim
  unfold oNe at hr
  split at hr
  · rename_i i j
    cases (show x = V.int i from ra)
    cases (show y = V.int j from rb)
    exact op_ne pins s σ H _ _ v u Q I rx ry ⟨rfl, by rw [dec_vint]; exact stay k hr rfl rh⟩
  · rename_i i j
    cases (show x = V.str i from ra)
    cases (show y = V.str j from rb)
    exact op_ne pins s σ H _ _ v u Q I rx ry ⟨rfl, by rw [dec_vstr]; exact stay k hr rfl rh⟩
  · rename_i i j
    cases (show x = V.bl i from ra)
    cases (show y = V.bl j from rb)
    exact op_ne pins s σ H _ _ v u Q I rx ry ⟨rfl, by rw [dec_vbl]; exact stay k hr rfl rh⟩
  · exact gen hr
def oLt : D2 := fun x y h Q => match x, y with
  | .int i, .int j => Q (.bl (decide (i < j))) h
  | .str i, .str j => Q (.bl (decide (i.cps.toList < j.cps.toList))) h
  | _, _ => False
def oLe : D2 := fun x y h Q => match x, y with
  | .int i, .int j => Q (.bl (decide (i ≤ j))) h
  | .str i, .str j => Q (.bl (!decide (j.cps.toList < i.cps.toList))) h
  | _, _ => False
def oGt : D2 := fun x y h Q => match x, y with
  | .int i, .int j => Q (.bl (decide (j < i))) h
  | .str i, .str j => Q (.bl (decide (j.cps.toList < i.cps.toList))) h
  | _, _ => False
def oGe : D2 := fun x y h Q => match x, y with
  | .int i, .int j => Q (.bl (decide (j ≤ i))) h
  | .str i, .str j => Q (.bl (!decide (i.cps.toList < j.cps.toList))) h
  | _, _ => False
theorem cmp2 {op : CmpOp} {f : Int → Int → Bool} {g : Str → Str → Bool} (hi : OpR X (compareOp op) (rI0 fun i j => .bl (f i j))) (hs : OpR X (compareOp op) (fun x y H Q => ∃ i j, x = .str i ∧ y = .str j ∧ Q (.bl (g i j)) H)) :
    OpR X (compareOp op) (LO X.K T fun x y h Q => match x, y with
      | .int i, .int j => Q (.bl (f i j)) h
      | .str i, .str j => Q (.bl (g i j)) h
      | _, _ => False) := by
  intro pins s σ H x y v u Q I rx ry ⟨a, b, h, q, ra, rb, rh, hr, k⟩
  cases a <;> cases b <;> try exact hr.elim
  · rename_i i j
    cases (show x = V.int i from ra)
    cases (show y = V.int j from rb)
    exact hi pins s σ H _ _ v u Q I rx ry ⟨i, j, rfl, rfl, stay k hr rfl rh⟩
  · rename_i i j
    cases (show x = V.str i from ra)
    cases (show y = V.str j from rb)
    exact hs pins s σ H _ _ v u Q I rx ry ⟨i, j, rfl, rfl, stay k hr rfl rh⟩
theorem o_lt : OpR X (compareOp .Lt) (LO X.K T oLt) := cmp2 op_lt op_lt_str
theorem o_le : OpR X (compareOp .LtE) (LO X.K T oLe) := cmp2 op_le op_le_str
theorem o_gt : OpR X (compareOp .Gt) (LO X.K T oGt) := cmp2 op_gt op_gt_str
theorem o_ge : OpR X (compareOp .GtE) (LO X.K T oGe) := cmp2 op_ge op_ge_str
def isNonU : U → Bool
  | .non => true
  | _ => false
theorem isNonU_of {K : PySem.W.Frag} {H : Hp} {a : U} {x : V} (r : RU K H a x) : decide (x = .non) = isNonU a := by
  cases a with
  | non => cases (show x = .non from r); rfl
  | bl i => cases (show x = .bl i from r); rfl
  | int i => cases (show x = .int i from r); rfl
  | str i => cases (show x = .str i from r); rfl
  | ref i => cases (show x = .ref i from r); rfl
  | ty i => cases (show x = .ty i from r); rfl
  | tup us =>
    obtain ⟨p, vs, rfl, _⟩ := ru_tup r
    rfl
  | ft us =>
    obtain ⟨p, vs, rfl, _⟩ := ru_ft r
    rfl
  | clo F =>
    unfold RU at r
    obtain ⟨f, rfl, _⟩ := r
    rfl
def oIsN : D2 := fun x y h Q => match y with
  | .non => Q (.bl (isNonU x)) h
  | _ => False
def oNotN : D2 := fun x y h Q => match y with
  | .non => Q (.bl (!isNonU x)) h
  | _ => False
theorem o_isN : OpR X (compareOp .Is) (LO X.K T oIsN) := by
  intro pins s σ H x y v u Q I rx ry ⟨a, b, h, q, ra, rb, rh, hr, k⟩
  cases b <;> try exact hr.elim
  cases (show y = V.non from rb)
  exact op_isN pins s σ H _ _ v u Q I rx ry ⟨rfl, by rw [isNonU_of ra]; exact stay k hr rfl rh⟩
theorem o_notN : OpR X (compareOp .IsNot) (LO X.K T oNotN) := by
  intro pins s σ H x y v u Q I rx ry ⟨a, b, h, q, ra, rb, rh, hr, k⟩
  cases b <;> try exact hr.elim
  cases (show y = V.non from rb)
  exact op_notN pins s σ H _ _ v u Q I rx ry ⟨rfl, by rw [isNonU_of ra]; exact stay k hr rfl rh⟩
end
end DL

set_option Elab.async false
set_option linter.all false
set_option maxRecDepth 100000
set_option maxHeartbeats 2000000
/-! The data layer: subscripts, slices, in, calls of built-ins, their methods. -/
namespace DL
open PySem L2 NdefX LamX

/-! ### dicts -/
def keyU : U → Option Key
  | .int i => some (.inl i)
  | .str x => some (.inr x)
  | _ => none
def keysU : List U → Option (List Key)
  | [] => some []
  | u :: us => match keyU u, keysU us with
    | some k, some ks => some (k :: ks)
    | _, _ => none
def keyT : U → Option (List Key)
  | .tup us => keysU us
  | _ => none
def uOfKey : Key → U
  | .inl i => .int i
  | .inr x => .str x
section
variable {κ : Type} [DecidableEq κ]
def valU (kvs : List (κ × U)) (k : κ) : Option U := match kvs with
  | [] => none
  | p :: r => if p.1 = k then some p.2 else valU r k
def putU (kvs : List (κ × U)) (k : κ) (v : U) : List (κ × U) := match kvs with
  | [] => [(k, v)]
  | p :: r => if p.1 = k then (k, v) :: r else p :: putU r k v
def dropU (kvs : List (κ × U)) (k : κ) : List (κ × U) := kvs.filter fun kv => decide (kv.1 ≠ k)
end
section
variable {K : PySem.W.Frag} {H : Hp} {κ : Type} [DecidableEq κ]
theorem RKV.val : ∀ {kvs : List (κ × U)} {kw : List (κ × V)} (k : κ), RKV K H kvs kw → (∀ u, valU kvs k = some u → ∃ v, valV kw k = some v ∧ RU K H u v) ∧ (valU kvs k = none → valV kw k = none)
  | _, _, k, .nil => ⟨fun u e => (nomatch e), fun _ => rfl⟩
  | p :: kvs, q :: kw, k, .cons r t => by
    obtain ⟨h1, h2⟩ := RKV.val k t
    by_cases e : p.1 = k
    · have e' : q.1 = k := r.1.symm.trans e
      have a1 : valU (p :: kvs) k = some p.2 := by
        show (if p.1 = k then some p.2 else valU kvs k) = _
        rw [if_pos e]
      rw [a1, valV_pos e']
      exact ⟨fun u z => by cases z; exact ⟨_, rfl, r.2⟩, fun z => by cases z⟩
    · have e' : ¬ q.1 = k := fun z => e (r.1.trans z)
      have a1 : valU (p :: kvs) k = valU kvs k := by
        show (if p.1 = k then some p.2 else valU kvs k) = _
        rw [if_neg e]
      rw [a1, valV_neg e']
      exact ⟨h1, h2⟩
theorem putK_put : ∀ (kw : List (κ × V)) (k : κ) (v : V), (kw.map (·.1)).Nodup → putK kw k v = (match kw with
    | [] => [(k, v)]
    | p :: r => if p.1 = k then (k, v) :: r else p :: putK r k v)
  | [], k, v, _ => rfl
  | p :: r, k, v, nd => by
    rw [List.map_cons, List.nodup_cons] at nd
    by_cases e : p.1 = k
    · show putK (p :: r) k v = if p.1 = k then _ else _
      rw [if_pos e]
      unfold putK
      have h1 : ((p :: r).any fun kv => decide (kv.1 = k)) = true := by simp [e]
      rw [if_pos h1, List.map_cons, if_pos e, e]
      congr 1
      have h2 : ∀ l : List (κ × V), k ∉ l.map (·.1) → l.map (fun kv => if kv.1 = k then (kv.1, v) else kv) = l := by
        intro l
        induction l with
        | nil => intro _; rfl
        | cons x l ih =>
          intro hn
          rw [List.map_cons, List.mem_cons] at hn
          rw [List.map_cons, ih (fun z => hn (.inr z)), if_neg (fun z => hn (.inl z.symm))]
      exact h2 r (e ▸ nd.1)
    · show putK (p :: r) k v = if p.1 = k then _ else _
      rw [if_neg e]
      unfold putK
      by_cases c : (r.any fun kv => decide (kv.1 = k)) = true
      · have h1 : ((p :: r).any fun kv => decide (kv.1 = k)) = true := by rw [List.any_cons, c, Bool.or_true]
        rw [if_pos h1, if_pos c, List.map_cons, if_neg e]
      · have h1 : ¬ ((p :: r).any fun kv => decide (kv.1 = k)) = true := by
          rw [List.any_cons, decide_eq_false e, Bool.false_or]
          exact c
        rw [if_neg h1, if_neg c]
        rfl
theorem RKV.keys : ∀ {kvs : List (κ × U)} {kw : List (κ × V)}, RKV K H kvs kw → kvs.map (·.1) = kw.map (·.1)
  | _, _, .nil => rfl
  | _, _, .cons r t => by rw [List.map_cons, List.map_cons, r.1, RKV.keys t]
theorem RKV.put : ∀ {kvs : List (κ × U)} {kw : List (κ × V)} (k : κ) {u : U} {v : V}, RKV K H kvs kw → (kvs.map (·.1)).Nodup → RU K H u v → RKV K H (putU kvs k u) (putK kw k v)
  | _, _, k, u, v, .nil, _, r => .cons ⟨rfl, r⟩ .nil
  | p :: kvs, q :: kw, k, u, v, .cons r t, nd, ru => by
    have nd2 : ((q :: kw).map (·.1)).Nodup := by
      rw [← RKV.keys (.cons r t)]
      exact nd
    rw [putK_put _ _ _ nd2]
    have nd3 := nd
    rw [List.map_cons, List.nodup_cons] at nd3
    by_cases e : p.1 = k
    · show RKV K H (if p.1 = k then _ else _) (if q.1 = k then _ else _)
      rw [if_pos e, if_pos (r.1.symm.trans e)]
      exact .cons ⟨rfl, ru⟩ t
    · show RKV K H (if p.1 = k then _ else _) (if q.1 = k then _ else _)
      rw [if_neg e, if_neg (fun z => e (r.1.trans z))]
      exact .cons r (RKV.put k t nd3.2 ru)
theorem RKV.drop (k : κ) : ∀ {kvs : List (κ × U)} {kw : List (κ × V)}, RKV K H kvs kw → RKV K H (dropU kvs k) (dropK kw k)
  | _, _, .nil => .nil
  | p :: kvs, q :: kw, .cons r t => by
    have ih := RKV.drop k t
    unfold dropU dropK at ih ⊢
    rw [List.filter_cons, List.filter_cons, r.1]
    split
    · exact .cons r ih
    · exact ih
theorem RKV.length {kvs : List (κ × U)} {kw : List (κ × V)} (r : RKV K H kvs kw) : kvs.length = kw.length := Paired.length r
end
theorem keyU_v {K : PySem.W.Frag} {H : Hp} {u : U} {k : Key} {v : V} (e : keyU u = some k) (r : RU K H u v) : v = kV k := by
  cases u <;> first | cases e | skip
  · exact r
  · exact r
theorem keysU_v {K : PySem.W.Frag} {H : Hp} : ∀ {us : List U} {ks : List Key} {vs : List V}, keysU us = some ks → RUs K H us vs → vs = ks.map kV
  | [], ks, vs, e, r => by
    cases (show some ([] : List Key) = some ks from e)
    exact r
  | u :: us, ks, vs, e, r => by
    unfold keysU at e
    split at e
    · rename_i k es e1 e2
      cases e
      obtain ⟨v, w, rfl, r1, r2⟩ := r.uncons
      rw [keyU_v e1 r1, keysU_v e2 r2]
      rfl
    · cases e
/-- what a dict tells of a key -/
def getU (h : HU) (p : Addr) (y : U) : Option (Option U) := match h p with
  | some (.dK kvs) => match keyU y with
    | some k => some (valU kvs k)
    | none => none
  | some (.dT kvs) => match keyT y with
    | some k => some (valU kvs k)
    | none => none
  | _ => none
section
variable {X : Cx} {T : ZC}
theorem getU_some {K : PySem.W.Frag} {h : HU} {H : Hp} {p : Addr} {y u : U} {v : V} (rh : RH K T h H) (ry : RU K H y v) (e : getU h p y = some (some u)) : ∃ w, DGet H p v (some w) ∧ RU K H u w := by
  unfold getU at e
  split at e
  · rename_i kvs e1
    obtain ⟨ho, e2, kw, rfl, r⟩ := rh.obj p _ e1
    split at e
    · rename_i k e3
      obtain ⟨w, e4, r4⟩ := (RKV.val k r).1 u (Option.some.inj e)
      refine ⟨w, ?_, r4⟩
      rw [keyU_v e3 ry, ← e4]
      exact DGet.k e2
    · cases e
  · rename_i kvs e1
    obtain ⟨ho, e2, kw, rfl, r⟩ := rh.obj p _ e1
    split at e
    · rename_i k e3
      obtain ⟨w, e4, r4⟩ := (RKV.val k r).1 u (Option.some.inj e)
      refine ⟨w, ?_, r4⟩
      cases y <;> first | cases e3 | skip
      rename_i us
      obtain ⟨b, vs, rfl, t, rr⟩ := ru_tup ry
      rw [← e4]
      refine DGet.t e2 ?_
      rw [t, keysU_v e3 rr]
    · cases e
  · cases e
theorem getU_none {K : PySem.W.Frag} {h : HU} {H : Hp} {p : Addr} {y : U} {v : V} (rh : RH K T h H) (ry : RU K H y v) (e : getU h p y = some none) : DGet H p v none := by
  unfold getU at e
  split at e
  · rename_i kvs e1
    obtain ⟨ho, e2, kw, rfl, r⟩ := rh.obj p _ e1
    split at e
    · rename_i k e3
      have e4 := (RKV.val k r).2 (Option.some.inj e)
      rw [keyU_v e3 ry, ← e4]
      exact DGet.k e2
    · cases e
  · rename_i kvs e1
    obtain ⟨ho, e2, kw, rfl, r⟩ := rh.obj p _ e1
    split at e
    · rename_i k e3
      have e4 := (RKV.val k r).2 (Option.some.inj e)
      cases y <;> first | cases e3 | skip
      rename_i us
      obtain ⟨b, vs, rfl, t, rr⟩ := ru_tup ry
      rw [← e4]
      refine DGet.t e2 ?_
      rw [t, keysU_v e3 rr]
    · cases e
  · cases e

/-! ### subscripts -/
def oIx : D2 := fun x y h Q => match x, y with
  | .tup us, .int i => match atI us i with
    | some u => Q u h
    | none => False
  | .ft us, .int i => match atI us i with
    | some u => Q u h
    | none => False
  | .str z, .int i => match atI z.cps.toList i with
    | some c => z.length ≤ sizeLine ∧ Q (.str ⟨#[c]⟩) h
    | none => False
  | .ref p, y => match lstU h p with
    | some us => match y with
      | .int i => match atI us i with
        | some u => Q u h
        | none => False
      | _ => False
    | none => match getU h p y with
      | some (some u) => Q u h
      | _ => False
  | _, _ => False
theorem atI_rel {K : PySem.W.Frag} {H : Hp} {us : List U} {vs : List V} {i : Int} {u : U} (r : RUs K H us vs) (e : atI us i = some u) : ∃ v, atI vs i = some v ∧ RU K H u v := by
  unfold atI at e ⊢
  rw [r.length]
  cases q : ixN us.length i with
  | none => rw [q] at e; cases e
  | some j =>
    rw [q] at e
    exact r.get e
theorem ix_dict (hu : X.A.units + 1 < cLine) : IxR X (fun x y H Q => ∃ a v, x = .ref a ∧ DGet H a y (some v) ∧ Q v H) := by
  intro value slice pins s σ H x y v u Q I rx ry hh hs
  obtain ⟨a, w, rfl, g, q⟩ := hh
  cases rx
  exact PyProof.Rows.tail_any (dict_typeIs I g) PySem.F.slot_dict_getitem.lookup (d_getItem hu I g ry fun w' s3 I3 rw' => ⟨w, H, I3, rw', q⟩) hs
theorem o_ix (hu : X.A.units + 1 < cLine) : IxR X (LO X.K T oIx) := by
  intro value slice pins s σ H x y v u Q I rx ry ⟨a, b, h, q, ra, rb, rh, hr, k⟩ hs
  unfold oIx at hr
  split at hr
  · rename_i us i
    split at hr
    · rename_i w e
      obtain ⟨p, vs, rfl, t, rr⟩ := ru_tup ra
      cases (show y = V.int i from rb)
      obtain ⟨v1, e1, r1⟩ := atI_rel rr e
      exact ix_tup value slice pins s σ H _ _ v u Q I rx ry ⟨p, vs, i, v1, rfl, rfl, SqT.of t, e1, stay k hr r1 rh⟩ hs
    · exact hr.elim
  · rename_i us i
    split at hr
    · rename_i w e
      obtain ⟨p, vs, rfl, t, rr, _⟩ := ru_ft ra
      cases (show y = V.int i from rb)
      obtain ⟨v1, e1, r1⟩ := atI_rel rr e
      exact ix_tup value slice pins s σ H _ _ v u Q I rx ry ⟨p, vs, i, v1, rfl, rfl, t, e1, stay k hr r1 rh⟩ hs
    · exact hr.elim
  · rename_i z i
    split at hr
    · rename_i c e
      cases (show x = V.str z from ra)
      cases (show y = V.int i from rb)
      exact ix_str value slice pins s σ H _ _ v u Q I rx ry ⟨z, i, c, rfl, rfl, hr.1, e, stay k hr.2 rfl rh⟩ hs
    · exact hr.elim
  · rename_i p
    cases (show x = V.ref p from ra)
    split at hr
    · rename_i us e
      split at hr
      · rename_i i
        split at hr
        · rename_i w e1
          cases (show y = V.int i from rb)
          obtain ⟨vs, sq, rr⟩ := rh.sql e
          obtain ⟨v1, e2, r1⟩ := atI_rel rr e1
          exact ix_list value slice pins s σ H _ _ v u Q I rx ry ⟨p, vs, i, v1, rfl, rfl, sq, e2, stay k hr r1 rh⟩ hs
        · exact hr.elim
      · exact hr.elim
    · split at hr
      · rename_i w e1
        obtain ⟨v1, g, r1⟩ := getU_some rh rb e1
        exact ix_dict hu value slice pins s σ H _ _ v u Q I rx ry ⟨p, v1, rfl, g, stay k hr r1 rh⟩ hs
      · exact hr.elim
  · exact hr.elim

/-! ### in -/
def flatU : U → Bool
  | .non => true
  | .bl _ => true
  | .int _ => true
  | .str _ => true
  | _ => false
def eqF : U → U → Bool
  | .non, .non => true
  | .bl a, .bl b => a == b
  | .bl a, .int b => (if a then 1 else 0) == b
  | .int a, .bl b => a == (if b then 1 else 0)
  | .int a, .int b => a == b
  | .str a, .str b => a == b
  | _, _ => false
def inF (x : U) (us : List U) : Bool := us.any fun y => eqF y x
theorem flatU_v {K : PySem.W.Frag} {H : Hp} {u : U} {v : V} (f : flatU u = true) (r : RU K H u v) : flatV v = true := by
  cases u <;> first | cases f | skip
  all_goals (cases r; rfl)
theorem eqF_v {K : PySem.W.Frag} {H : Hp} {u w : U} {v x : V} (f : flatU u = true) (g : flatU w = true) (r : RU K H u v) (r2 : RU K H w x) : eqV v x = eqF u w := by
  cases u <;> first | cases f | skip
  all_goals (cases w <;> first | cases g | skip)
  all_goals (cases r; cases r2; rfl)
theorem inF_v {K : PySem.W.Frag} {H : Hp} {u : U} {v : V} (f : flatU u = true) (r : RU K H u v) : ∀ {us : List U} {vs : List V}, us.all flatU = true → RUs K H us vs → inV v vs = inF u us ∧ vs.all flatV = true
  | [], vs, _, rr => by
    cases (show vs = [] from rr)
    exact ⟨rfl, rfl⟩
  | w :: us, vs, g, rr => by
    obtain ⟨x, ws, rfl, r1, r2⟩ := rr.uncons
    rw [List.all_cons, Bool.and_eq_true] at g
    obtain ⟨i1, i2⟩ := inF_v f r g.2 r2
    refine ⟨?_, ?_⟩
    · show (eqV x v || inV v ws) = (eqF w u || inF u us)
      rw [eqF_v g.1 f r1 r, i1]
    · rw [List.all_cons, flatU_v g.1 r1, i2]
      rfl
def oInX (f : Bool → Bool) (x y : U) (h : HU) (Q : DV) : Prop := match y with
  | .tup us => flatU x = true ∧ us.all flatU = true ∧ Q (.bl (f (inF x us))) h
  | .ft us => flatU x = true ∧ us.all flatU = true ∧ Q (.bl (f (inF x us))) h
  | .str z => match x with
    | .str w => match w.cps.toList with
      | [c] => Q (.bl (f (decide (c ∈ z.cps.toList)))) h
      | _ => False
    | _ => False
  | .ref p => match lstU h p with
    | some us => (flatU x = true ∧ us.all flatU = true ∧ Q (.bl (f (inF x us))) h) ∨ ∃ d ds, toPy x = some d ∧ toPys us = some ds ∧ d.depth ≤ 64 ∧ PyData.depthAll ds ≤ 63 ∧ Q (.bl (f (ds.any fun z => PyData.eqv z d))) h
    | none => match getU h p x with
      | some o => Q (.bl (f o.isSome)) h
      | none => False
  | _ => False
def oIn : D2 := oInX id
def oNotIn : D2 := oInX not
theorem one_sign {w : Str} {c : Nat} (e : w.cps.toList = [c]) : w = ⟨#[c]⟩ := by
  cases w with
  | mk cps =>
    have e' : cps.toList = [c] := e
    have e2 : cps = #[c] := by
      apply Array.ext'
      rw [e']
    rw [e2]
theorem in_go {f : Bool → Bool} {op : CmpOp} {pins : List (Addr × Obj)} {s : Shared} {σ : L2.St} {H : Hp} {x y : V} {v u : Value} {Q : VK} (I : Inv X pins σ H s) (rx : RelV x v) (ry : RelV y u) {a b : U} {h : HU} {q : DV} (ra : RU X.K H a x) (rb : RU X.K H b y) (rh : RH X.K T h H) (hr : oInX f a b h q)
    (k : ∀ u h' v H', q u h' → RU X.K H' u v → RH X.K T h' H' → Stp X.K H h H' h' → Q v H')
    (o1 : ∀ (p : Addr) (xs : List V), y = .ref p → (SqL X.K H p xs ∨ SqT X.K H p xs) → flatV x = true → xs.all flatV = true → Q (.bl (f (inV x xs))) H → wpAny (model X.prog X.w) X.A (compareOp op v u) (EP X pins σ Q) X.xe s)
    (o2 : ∀ (c : Nat) (z : Str), x = .str ⟨#[c]⟩ → y = .str z → Q (.bl (f (decide (c ∈ z.cps.toList)))) H → wpAny (model X.prog X.w) X.A (compareOp op v u) (EP X pins σ Q) X.xe s)
    (o3 : ∀ (d : PyData) (ds : List PyData), Dp X.K H x d → Dp X.K H y (.list ds) → SeqAt.shaped d = true → SeqAt.shaped (.list ds) = true → Q (.bl (f (ds.any fun z => PyData.eqv z d))) H → wpAny (model X.prog X.w) X.A (compareOp op v u) (EP X pins σ Q) X.xe s)
    (o4 : ∀ (p : Addr) (o : Option V), y = .ref p → DGet H p x o → Q (.bl (f o.isSome)) H → wpAny (model X.prog X.w) X.A (compareOp op v u) (EP X pins σ Q) X.xe s) :
    wpAny (model X.prog X.w) X.A (compareOp op v u) (EP X pins σ Q) X.xe s := by
  unfold oInX at hr
  split at hr
  · rename_i us
    obtain ⟨p, vs, rfl, t, rr⟩ := ru_tup rb
    obtain ⟨i1, i2⟩ := inF_v hr.1 ra hr.2.1 rr
    exact o1 p vs rfl (.inr (SqT.of t)) (flatU_v hr.1 ra) i2 (by rw [i1]; exact stay k hr.2.2 rfl rh)
  · rename_i us
    obtain ⟨p, vs, rfl, t, rr, _⟩ := ru_ft rb
    obtain ⟨i1, i2⟩ := inF_v hr.1 ra hr.2.1 rr
    exact o1 p vs rfl (.inr t) (flatU_v hr.1 ra) i2 (by rw [i1]; exact stay k hr.2.2 rfl rh)
  · rename_i z
    cases (show y = V.str z from rb)
    split at hr
    · rename_i w
      cases (show x = V.str w from ra)
      split at hr
      · rename_i c e
        exact o2 c z (by rw [one_sign e]) rfl (stay k hr rfl rh)
      · exact hr.elim
    · exact hr.elim
  · rename_i p
    cases (show y = V.ref p from rb)
    split at hr
    · rename_i us e
      obtain ⟨vs, sq, rr⟩ := rh.sql e
      rcases hr with hr | ⟨d, ds, e1, e2, l1, l2, hr⟩
      · obtain ⟨i1, i2⟩ := inF_v hr.1 ra hr.2.1 rr
        exact o1 p vs rfl (.inl sq) (flatU_v hr.1 ra) i2 (by rw [i1]; exact stay k hr.2.2 rfl rh)
      · refine o3 d ds (toPy_dp a d x e1 ra) (.lst sq (toPys_dp us ds vs e2 rr)) (shaped_of (toPy_lay a d e1) l1) (shaped_of ?_ ?_) (stay k hr rfl rh)
        · have z := toPys_lay us ds e2
          simpa [PyData.canLay0] using z
        · show PyData.depthAll ds + 1 ≤ 64
          omega
    · split at hr
      · rename_i o e
        cases o with
        | some w =>
          obtain ⟨v1, g, r1⟩ := getU_some rh ra e
          exact o4 p _ rfl g (stay k hr rfl rh)
        | none => exact o4 p _ rfl (getU_none rh ra e) (stay k hr rfl rh)
      · exact hr.elim
  · exact hr.elim
theorem o_in (hu : X.A.units + 65 < cLine) : OpR X (compareOp .In) (LO X.K T oIn) := by
  intro pins s σ H x y v u Q I rx ry ⟨a, b, h, q, ra, rb, rh, hr, k⟩
  refine in_go (f := id) I rx ry ra rb rh hr k (fun p xs e sq fx fs q => ?_) (fun c z e1 e2 q => ?_) (fun d ds h1 h2 s1 s2 q => ?_) (fun p o e g q => ?_)
  · subst e
    exact op_in_seq pins s σ H _ _ v u Q I rx ry ⟨p, xs, rfl, sq, fx, fs, q⟩
  · exact op_in_sign pins s σ H _ _ v u Q I rx ry ⟨c, z, e1, e2, q⟩
  · exact op_inD hu pins s σ H _ _ v u Q I rx ry ⟨d, ds, h1, h2, s1, s2, q⟩
  · subst e
    cases ry
    exact d_in (by omega) I g rx fun s' I' => ⟨.bl _, H, I', rfl, q⟩
theorem o_notIn (hu : X.A.units + 65 < cLine) : OpR X (compareOp .NotIn) (LO X.K T oNotIn) := by
  intro pins s σ H x y v u Q I rx ry ⟨a, b, h, q, ra, rb, rh, hr, k⟩
  refine in_go (f := not) I rx ry ra rb rh hr k (fun p xs e sq fx fs q => ?_) (fun c z e1 e2 q => ?_) (fun d ds h1 h2 s1 s2 q => ?_) (fun p o e g q => ?_)
  · subst e
    exact op_notIn_seq pins s σ H _ _ v u Q I rx ry ⟨p, xs, rfl, sq, fx, fs, q⟩
  · exact op_notIn_sign pins s σ H _ _ v u Q I rx ry ⟨c, z, e1, e2, q⟩
  · exact op_notInD hu pins s σ H _ _ v u Q I rx ry ⟨d, ds, h1, h2, s1, s2, q⟩
  · subst e
    cases ry
    exact d_notIn (by omega) I g rx fun s' I' => ⟨.bl _, H, I', rfl, q⟩

/-! ### slices -/
abbrev DO := SU → HU → (Option Int → HU → Prop) → Prop
def LP (K : PySem.W.Frag) (T : ZC) (t : DO) : TO := fun σ H Q => ∃ s h q, RS K H s σ ∧ RH K T h H ∧ t s h q ∧ ∀ o h' H', q o h' → RH K T h' H' → Stp K H h H' h' → Q o H'
def dNoP (s : SU) (h : HU) (Q : Option Int → HU → Prop) : Prop := Q none h
def dPart (t : DE) (s : SU) (h : HU) (Q : Option Int → HU → Prop) : Prop := t s h fun u h1 => match u with
  | .int i => Q (some i) h1
  | _ => False
theorem PO.weak {X : Cx} {e : Option Expr} {t t' : TO} (h : PO X e t) (w : ∀ σ H Q, t' σ H Q → t σ H Q) : PO X e t' := ⟨fun pins s σ H Q I q => h.run pins s σ H Q I (w σ H Q q)⟩
theorem d_noP : PO X none (LP X.K T dNoP) := PO.weak po_none fun σ H Q ⟨s, h, q, rs, rh, hq, k⟩ => k none h H hq rh Stp.refl
theorem d_part {e : Expr} {t : DE} (p : PD X T e t) : PO X (some e) (LP X.K T (dPart t)) := PO.weak (po_some p) fun σ H Q ⟨s, h, q, rs, rh, hq, k⟩ =>
  ⟨s, h, _, rs, rh, hq, fun u h1 v H1 q1 r1 rh1 st1 => by
    cases u <;> first | exact q1.elim | skip
    rename_i i
    exact ⟨i, r1, k _ h1 H1 q1 rh1 st1⟩⟩
def cutU (xs : List U) (lo hi : Option Int) : List U := (xs.drop (HT.sIx xs.length 0 lo)).take (HT.sIx xs.length xs.length hi - HT.sIx xs.length 0 lo)
theorem cutU_v {K : PySem.W.Frag} {H : Hp} {us : List U} {vs : List V} (r : RUs K H us vs) (lo hi : Option Int) : RUs K H (cutU us lo hi) (cutV vs lo hi) := by
  unfold cutU cutV
  rw [r.length]
  exact (r.drop _).take _
def oSl (x : U) (lo hi : Option Int) (h : HU) (Q : DV) : Prop := match x with
  | .tup us => Q (.tup (cutU us lo hi)) h
  | .ft us => (HT.sIx us.length 0 lo = 0 ∧ HT.sIx us.length us.length hi = us.length → Q (.ft us) h) ∧ (¬ (HT.sIx us.length 0 lo = 0 ∧ HT.sIx us.length us.length hi = us.length) → Q (.tup (cutU us lo hi)) h)
  | .str z => z.length ≤ sizeLine ∧ Q (.str (cutS z lo hi)) h
  | .ref p => match lstU h p with
    | some us => ∀ r, h r = none → Q (.ref r) (updU h r (.lst (cutU us lo hi)))
    | none => False
  | _ => False
def LSl (K : PySem.W.Frag) (T : ZC) : V → Option Int → Option Int → Hp → VK → Prop := fun x lo hi H Q => ∃ a h q, RU K H a x ∧ RH K T h H ∧ oSl a lo hi h q ∧ ∀ u h' v H', q u h' → RU K H' u v → RH K T h' H' → Stp K H h H' h' → Q v H'
theorem cutU_whole {us : List U} {lo hi : Option Int} (h : HT.sIx us.length 0 lo = 0 ∧ HT.sIx us.length us.length hi = us.length) : cutU us lo hi = us := by
  unfold cutU
  rw [h.1, h.2, List.drop_zero, Nat.sub_zero, List.take_length]
theorem o_sl : SlR X (LSl X.K T) := by
  intro pins s σ H x v vl vu lo hi sl Q I rx hs pl pu ⟨a, h, q, ra, rh, hr, k⟩
  unfold oSl at hr
  split at hr
  · rename_i us
    obtain ⟨p, vs, rfl, t, rr⟩ := ru_tup ra
    refine sl_tupA pins s σ H _ v vl vu lo hi sl Q I rx hs pl pu ⟨p, vs, rfl, SqT.of t, fun hw => ?_, fun hw r nr => ?_⟩
    · rw [rr.length] at hw
      rw [cutU_whole hw] at hr
      exact stay k hr ra rh
    · have st : Stp X.K H h (upd H r (.tup (cutV vs lo hi))) h := Stp.skip nr
      exact k _ h _ _ hr (ru_mk upd_same (RUs.mono st.tm _ _ (cutU_v rr lo hi))) (rh.skip nr) st
  · rename_i us
    obtain ⟨p, vs, rfl, t, rr, _⟩ := ru_ft ra
    refine sl_tupA pins s σ H _ v vl vu lo hi sl Q I rx hs pl pu ⟨p, vs, rfl, t, fun hw => ?_, fun hw r nr => ?_⟩
    · rw [rr.length] at hw
      exact stay k (hr.1 hw) ra rh
    · rw [rr.length] at hw
      have st : Stp X.K H h (upd H r (.tup (cutV vs lo hi))) h := Stp.skip nr
      exact k _ h _ _ (hr.2 hw) (ru_mk upd_same (RUs.mono st.tm _ _ (cutU_v rr lo hi))) (rh.skip nr) st
  · rename_i z
    cases (show x = V.str z from ra)
    exact sl_str pins s σ H _ v vl vu lo hi sl Q I rx hs pl pu ⟨z, rfl, hr.1, stay k hr.2 rfl rh⟩
  · rename_i p
    cases (show x = V.ref p from ra)
    split at hr
    · rename_i us e
      obtain ⟨vs, sq, rr⟩ := rh.sql e
      exact sl_list pins s σ H _ v vl vu lo hi sl Q I rx hs pl pu ⟨p, vs, rfl, sq, fun r nr => k _ _ _ _ (hr r (rh.free nr)) rfl (rh.new nr ⟨_, rfl, cutU_v rr lo hi⟩) (Stp.new nr)⟩
    · exact hr.elim
  · exact hr.elim
def dSl (te : DE) (tl th : DO) (s : SU) (h : HU) (Q : DV) : Prop := te s h fun x h1 => tl s h1 fun lo h2 => th s h2 fun hi h3 => oSl x lo hi h3 Q
theorem d_slice {e : Expr} {lo hi : Option Expr} {te : DE} {tl th : DO} {pos p2 : Pos} (he : PD X T e te) (hl : PO X lo (LP X.K T tl)) (hu : PO X hi (LP X.K T th)) : PD X T (.Subscript e (.Slice lo hi none p2) pos) (dSl te tl th) :=
  PE.weak (pe_slice (o_sl (T := T)) he hl hu) fun σ H Q ⟨s, h, q, rs, rh, hq, k⟩ =>
    ⟨s, h, _, rs, rh, hq, fun x h1 v1 H1 q1 r1 rh1 st1 => ⟨s, h1, _, rs.mono st1.tm, rh1, q1, fun l h2 H2 q2 rh2 st2 => ⟨s, h2, _, rs.mono (st1.trans st2).tm, rh2, q2, fun g h3 H3 q3 rh3 st3 =>
      ⟨x, h3, q, RU.mono (st2.trans st3).tm _ _ r1, rh3, q3, fun u h' v H' hu ru rh' st' => k u h' v H' hu ru rh' (st1.trans (st2.trans (st3.trans st')))⟩⟩⟩⟩

/-! ### calls of built-ins -/
abbrev DC1 := List U → HU → DV → Prop
def LC (K : PySem.W.Frag) (T : ZC) (r : DC1) : List V → Hp → VK → Prop := fun xs H Q => ∃ us h q, RUs K H us xs ∧ RH K T h H ∧ r us h q ∧ ∀ u h' v H', q u h' → RU K H' u v → RH K T h' H' → Stp K H h H' h' → Q v H'
def dCB (r : DC1) (t : DA) (s : SU) (h : HU) (Q : DV) : Prop := t s h fun us h1 => r us h1 Q
theorem cb_go {r : DC1} {t : DA} {σ : L2.St} {H : Hp} {Q : VK} (q : LE X.K T (dCB r t) σ H Q) : tCB (LC X.K T r) (LA X.K T t) σ H Q := by
  obtain ⟨s, h, q, rs, rh, hq, k⟩ := q
  exact ⟨s, h, _, rs, rh, hq, fun us h1 vs H1 q1 r1 rh1 st1 => ⟨us, h1, q, r1, rh1, q1, fun u h' v H' hu ru rh' st' => k u h' v H' hu ru rh' (st1.trans st')⟩⟩
theorem d_callB {id : String} {r : DC1} {x : Str} {p pos : Pos} {e : Expr} {es : List Expr} {t : DA} (hc : CallR X (.builtin id) (LC X.K T r)) (hg : Gl X x) (hm : X.mg x = none) (hv : bootBuiltins x = some (.builtin id)) (ha : PDA X T (e :: es) t) (hn : x ≠ "__name__" := by decide) (hdb : (x == ("__debug__" : Str)) = false := by decide)
    (he : starEach (e :: es) X.env = (false, eval e X.env) :: starEach es X.env := by rfl) (hpl : (backTo pos (starEach es X.env)).any (·.1) = false := by rfl) : PD X T (.Call (.Name x p) (e :: es) [] pos) (dCB r t) :=
  PE.weak (pe_callB hc hg hm hv ha hn hdb he hpl) fun σ H Q q => cb_go q
theorem d_callTy {id : String} {r : DC1} {x : Str} {p pos : Pos} {e : Expr} {es : List Expr} {t : DA} (hc : CallR X (.type id) (LC X.K T r)) (hg : Gl X x) (hm : X.mg x = none) (hv : bootBuiltins x = some (.type id)) (ha : PDA X T (e :: es) t) (hn : x ≠ "__name__" := by decide) (hdb : (x == ("__debug__" : Str)) = false := by decide)
    (he : starEach (e :: es) X.env = (false, eval e X.env) :: starEach es X.env := by rfl) (hpl : (backTo pos (starEach es X.env)).any (·.1) = false := by rfl) : PD X T (.Call (.Name x p) (e :: es) [] pos) (dCB r t) :=
  PE.weak (pe_callTy hc hg hm hv ha hn hdb he hpl) fun σ H Q q => cb_go q
theorem ru1 {K : PySem.W.Frag} {H : Hp} {u : U} {xs : List V} (r : RUs K H [u] xs) : ∃ v, xs = [v] ∧ RU K H u v := by
  obtain ⟨v, w, rfl, r1, r2⟩ := r.uncons
  cases (show w = [] from r2)
  exact ⟨v, rfl, r1⟩
theorem ru2 {K : PySem.W.Frag} {H : Hp} {u w : U} {xs : List V} (r : RUs K H [u, w] xs) : ∃ v x, xs = [v, x] ∧ RU K H u v ∧ RU K H w x := by
  obtain ⟨v, w, rfl, r1, r2⟩ := r.uncons
  obtain ⟨x, rfl, r3⟩ := ru1 r2
  exact ⟨v, x, rfl, r1, r3⟩
def cLen : DC1 := fun us h Q => match us with
  | [.tup xs] => Q (.int xs.length) h
  | [.ft xs] => Q (.int xs.length) h
  | [.str z] => z.length ≤ sizeLine ∧ Q (.int z.length) h
  | [.ref p] => match h p with
    | some (.lst xs) => Q (.int xs.length) h
    | some (.lck xs) => Q (.int xs.length) h
    | some (.dK kvs) => Q (.int kvs.length) h
    | some (.dT kvs) => Q (.int kvs.length) h
    | _ => False
  | _ => False
theorem c_len : CallR X (.builtin "len") (LC X.K T cLen) := by
  intro pins s σ H xs ws Q I rv ⟨us, h, q, ru, rh, hr, k⟩
  unfold cLen at hr
  split at hr
  · rename_i ys
    obtain ⟨v, rfl, r1⟩ := ru1 ru
    obtain ⟨p, vs, rfl, t, rr⟩ := ru_tup r1
    exact call_len_seq pins s σ H _ ws Q I rv ⟨p, vs, rfl, .inr (SqT.of t), by rw [rr.length]; exact stay k hr rfl rh⟩
  · rename_i ys
    obtain ⟨v, rfl, r1⟩ := ru1 ru
    obtain ⟨p, vs, rfl, t, rr, _⟩ := ru_ft r1
    exact call_len_seq pins s σ H _ ws Q I rv ⟨p, vs, rfl, .inr t, by rw [rr.length]; exact stay k hr rfl rh⟩
  · rename_i z
    obtain ⟨v, rfl, r1⟩ := ru1 ru
    cases (show v = V.str z from r1)
    exact call_len_str pins s σ H _ ws Q I rv ⟨z, rfl, hr.1, stay k hr.2 rfl rh⟩
  · rename_i p
    obtain ⟨v, rfl, r1⟩ := ru1 ru
    cases (show v = V.ref p from r1)
    split at hr
    · rename_i ys e
      obtain ⟨vs, sq, rr⟩ := rh.sql (p := p) (us := ys) (by unfold lstU; rw [e])
      exact call_len_seq pins s σ H _ ws Q I rv ⟨p, vs, rfl, .inl sq, by rw [rr.length]; exact stay k hr rfl rh⟩
    · rename_i ys e
      obtain ⟨vs, sq, rr⟩ := rh.sql (p := p) (us := ys) (by unfold lstU; rw [e])
      exact call_len_seq pins s σ H _ ws Q I rv ⟨p, vs, rfl, .inl sq, by rw [rr.length]; exact stay k hr rfl rh⟩
    · rename_i kvs e
      obtain ⟨ho, e1, kw, rfl, r⟩ := rh.obj p _ e
      exact call_lenD pins s σ H _ ws Q I rv ⟨p, kw, rfl, e1, by rw [← r.length]; exact stay k hr rfl rh⟩
    · rename_i kvs e
      obtain ⟨ho, e1, kw, rfl, r⟩ := rh.obj p _ e
      exact call_len_dT pins s σ H _ ws Q I rv ⟨p, kw, rfl, e1, by rw [← r.length]; exact stay k hr rfl rh⟩
    · exact hr.elim
  · exact hr.elim
/-- tuple(x) -/
def cTuple : DC1 := fun us h Q => match us with
  | [.tup xs] => Q (.tup xs) h
  | [.ft xs] => Q (.ft xs) h
  | [.ref p] => match lstU h p with
    | some xs => Q (.tup xs) h
    | none => False
  | _ => False
theorem c_tuple : CallR X (.type "tuple") (LC X.K T cTuple) := by
  intro pins s σ H xs ws Q I rv ⟨us, h, q, ru, rh, hr, k⟩
  unfold cTuple at hr
  split at hr
  · obtain ⟨v, rfl, r1⟩ := ru1 ru
    obtain ⟨p, vs, rfl, t, rr⟩ := ru_tup r1
    exact call_tuple_of pins s σ H _ ws Q I rv ⟨p, vs, rfl, .inr ⟨SqT.of t, stay k hr r1 rh⟩⟩
  · obtain ⟨v, rfl, r1⟩ := ru1 ru
    obtain ⟨p, vs, rfl, t, rr, _⟩ := ru_ft r1
    exact call_tuple_of pins s σ H _ ws Q I rv ⟨p, vs, rfl, .inr ⟨t, stay k hr r1 rh⟩⟩
  · rename_i p
    obtain ⟨v, rfl, r1⟩ := ru1 ru
    cases (show v = V.ref p from r1)
    split at hr
    · rename_i ys e
      obtain ⟨vs, sq, rr⟩ := rh.sql e
      refine call_tuple_of pins s σ H _ ws Q I rv ⟨p, vs, rfl, .inl ⟨sq, fun l nl => ?_⟩⟩
      have st : Stp X.K H h (upd H l (.tup vs)) h := Stp.skip nl
      exact k _ h _ _ hr (ru_mk upd_same (RUs.mono st.tm _ _ rr)) (rh.skip nl) st
    · exact hr.elim
  · exact hr.elim
/-- list(x) -/
def cList : DC1 := fun us h Q => match us with
  | [.tup xs] => ∀ r, h r = none → Q (.ref r) (updU h r (.lst xs))
  | [.ref p] => match lstU h p with
    | some xs => ∀ r, h r = none → Q (.ref r) (updU h r (.lst xs))
    | none => False
  | _ => False
theorem c_list : CallR X (.type "list") (LC X.K T cList) := by
  intro pins s σ H xs ws Q I rv ⟨us, h, q, ru, rh, hr, k⟩
  unfold cList at hr
  split at hr
  · obtain ⟨v, rfl, r1⟩ := ru1 ru
    obtain ⟨p, vs, rfl, t, rr⟩ := ru_tup r1
    exact call_list_of pins s σ H _ ws Q I rv ⟨p, vs, rfl, .inr (SqT.of t), fun l nl => k _ _ _ _ (hr l (rh.free nl)) rfl (rh.new nl ⟨_, rfl, rr⟩) (Stp.new nl)⟩
  · rename_i p
    obtain ⟨v, rfl, r1⟩ := ru1 ru
    cases (show v = V.ref p from r1)
    split at hr
    · rename_i ys e
      obtain ⟨vs, sq, rr⟩ := rh.sql e
      exact call_list_of pins s σ H _ ws Q I rv ⟨p, vs, rfl, .inl sq, fun l nl => k _ _ _ _ (hr l (rh.free nl)) rfl (rh.new nl ⟨_, rfl, rr⟩) (Stp.new nl)⟩
    · exact hr.elim
  · exact hr.elim
def cAbs : DC1 := fun us h Q => match us with
  | [.int i] => Q (.int (if i < 0 then -i else i)) h
  | _ => False
theorem c_abs : CallR X (.builtin "abs") (LC X.K T cAbs) := by
  intro pins s σ H xs ws Q I rv ⟨us, h, q, ru, rh, hr, k⟩
  unfold cAbs at hr
  split at hr
  · rename_i i
    obtain ⟨v, rfl, r1⟩ := ru1 ru
    cases (show v = V.int i from r1)
    exact call_abs pins s σ H _ ws Q I rv ⟨i, rfl, stay k hr rfl rh⟩
  · exact hr.elim
def cInt : DC1 := fun us h Q => match us with
  | [.int i] => Q (.int i) h
  | [.bl b] => Q (.int (if b then 1 else 0)) h
  | [.str z] => ∃ n, PySem.intText? z = some n ∧ z.length ≤ 640 ∧ Q (.int n) h
  | _ => False
theorem c_int : CallR X (.type "int") (LC X.K T cInt) := by
  intro pins s σ H xs ws Q I rv ⟨us, h, q, ru, rh, hr, k⟩
  unfold cInt at hr
  split at hr
  · rename_i i
    obtain ⟨v, rfl, r1⟩ := ru1 ru
    cases (show v = V.int i from r1)
    exact call_int1 pins s σ H _ ws Q I rv (.inl ⟨i, rfl, stay k hr rfl rh⟩)
  · rename_i i
    obtain ⟨v, rfl, r1⟩ := ru1 ru
    cases (show v = V.bl i from r1)
    exact call_int1 pins s σ H _ ws Q I rv (.inr ⟨i, rfl, stay k hr rfl rh⟩)
  · rename_i z
    obtain ⟨v, rfl, r1⟩ := ru1 ru
    cases (show v = V.str z from r1)
    obtain ⟨n, e, l, hr⟩ := hr
    exact call_int_str pins s σ H _ ws Q I rv ⟨z, n, rfl, e, l, stay k hr rfl rh⟩
  · exact hr.elim
def cStr : DC1 := fun us h Q => match us with
  | [.int i] => i.natAbs.log2 < 1920 ∧ Q (.str (toString i)) h
  | _ => False
theorem c_str : CallR X (.type "str") (LC X.K T cStr) := by
  intro pins s σ H xs ws Q I rv ⟨us, h, q, ru, rh, hr, k⟩
  unfold cStr at hr
  split at hr
  · rename_i i
    obtain ⟨v, rfl, r1⟩ := ru1 ru
    cases (show v = V.int i from r1)
    exact call_str_int pins s σ H _ ws Q I rv ⟨i, rfl, hr.1, stay k hr.2 rfl rh⟩
  · exact hr.elim
/-- all ints; all texts; all truths -/
def intsU : List U → Option (List Int)
  | [] => some []
  | .int i :: r => (intsU r).map (i :: ·)
  | _ => none
def strsU : List U → Option (List Str)
  | [] => some []
  | .str i :: r => (strsU r).map (i :: ·)
  | _ => none
def blsU : List U → Option (List Bool)
  | [] => some []
  | .bl i :: r => (blsU r).map (i :: ·)
  | _ => none
theorem intsU_v {K : PySem.W.Frag} {H : Hp} : ∀ {us : List U} {ns : List Int} {vs : List V}, intsU us = some ns → RUs K H us vs → vs = ns.map V.int
  | [], ns, vs, e, r => by
    cases (show some ([] : List Int) = some ns from e)
    exact r
  | .int i :: us, ns, vs, e, r => by
    obtain ⟨v, w, rfl, r1, r2⟩ := r.uncons
    have e' : (intsU us).map (i :: ·) = some ns := e
    obtain ⟨ms, e1, rfl⟩ := Option.map_eq_some_iff.mp e'
    cases (show v = V.int i from r1)
    rw [intsU_v e1 r2]
    rfl
  | .non :: _, _, _, e, _ => by cases e
  | .bl _ :: _, _, _, e, _ => by cases e
  | .str _ :: _, _, _, e, _ => by cases e
  | .tup _ :: _, _, _, e, _ => by cases e
  | .ref _ :: _, _, _, e, _ => by cases e
  | .ty _ :: _, _, _, e, _ => by cases e
  | .clo _ :: _, _, _, e, _ => by cases e
theorem strsU_v {K : PySem.W.Frag} {H : Hp} : ∀ {us : List U} {ns : List Str} {vs : List V}, strsU us = some ns → RUs K H us vs → vs = ns.map V.str
  | [], ns, vs, e, r => by
    cases (show some ([] : List Str) = some ns from e)
    exact r
  | .str i :: us, ns, vs, e, r => by
    obtain ⟨v, w, rfl, r1, r2⟩ := r.uncons
    have e' : (strsU us).map (i :: ·) = some ns := e
    obtain ⟨ms, e1, rfl⟩ := Option.map_eq_some_iff.mp e'
    cases (show v = V.str i from r1)
    rw [strsU_v e1 r2]
    rfl
  | .non :: _, _, _, e, _ => by cases e
  | .bl _ :: _, _, _, e, _ => by cases e
  | .int _ :: _, _, _, e, _ => by cases e
  | .tup _ :: _, _, _, e, _ => by cases e
  | .ref _ :: _, _, _, e, _ => by cases e
  | .ty _ :: _, _, _, e, _ => by cases e
  | .clo _ :: _, _, _, e, _ => by cases e
theorem blsU_v {K : PySem.W.Frag} {H : Hp} : ∀ {us : List U} {ns : List Bool} {vs : List V}, blsU us = some ns → RUs K H us vs → vs = ns.map V.bl
  | [], ns, vs, e, r => by
    cases (show some ([] : List Bool) = some ns from e)
    exact r
  | .bl i :: us, ns, vs, e, r => by
    obtain ⟨v, w, rfl, r1, r2⟩ := r.uncons
    have e' : (blsU us).map (i :: ·) = some ns := e
    obtain ⟨ms, e1, rfl⟩ := Option.map_eq_some_iff.mp e'
    cases (show v = V.bl i from r1)
    rw [blsU_v e1 r2]
    rfl
  | .non :: _, _, _, e, _ => by cases e
  | .str _ :: _, _, _, e, _ => by cases e
  | .int _ :: _, _, _, e, _ => by cases e
  | .tup _ :: _, _, _, e, _ => by cases e
  | .ref _ :: _, _, _, e, _ => by cases e
  | .ty _ :: _, _, _, e, _ => by cases e
  | .clo _ :: _, _, _, e, _ => by cases e
def lst1 (h : HU) : List U → Option (List U)
  | [.ref p] => lstU h p
  | _ => none
def cSum : DC1 := fun us h Q => ∃ ys ns, lst1 h us = some ys ∧ intsU ys = some ns ∧ Q (.int ns.sum) h
def cMin : DC1 := fun us h Q => ∃ ys ns, lst1 h us = some ys ∧ intsU ys = some ns ∧ 0 < ns.length ∧ ∀ m, m ∈ ns → (∀ y, y ∈ ns → m ≤ y) → Q (.int m) h
def cMax : DC1 := fun us h Q => ∃ ys ns, lst1 h us = some ys ∧ intsU ys = some ns ∧ 0 < ns.length ∧ ∀ m, m ∈ ns → (∀ y, y ∈ ns → y ≤ m) → Q (.int m) h
def cAny : DC1 := fun us h Q => ∃ ys ns, lst1 h us = some ys ∧ blsU ys = some ns ∧ Q (.bl (ns.any id)) h
def cAll : DC1 := fun us h Q => ∃ ys ns, lst1 h us = some ys ∧ blsU ys = some ns ∧ Q (.bl (ns.all id)) h
def cSortI : DC1 := fun us h Q => ∃ ys ns, lst1 h us = some ys ∧ intsU ys = some ns ∧ ∀ ns' : List Int, ns'.Perm ns → ns'.Pairwise (· ≤ ·) → ∀ r, h r = none → Q (.ref r) (updU h r (.lst (ns'.map U.int)))
def cSortS : DC1 := fun us h Q => ∃ ys ns, lst1 h us = some ys ∧ strsU ys = some ns ∧ ns.length < 64 ∧ ∀ ns' : List Str, ns'.Perm ns → PyProof.Rows.sortedS ns' = true → ∀ r, h r = none → Q (.ref r) (updU h r (.lst (ns'.map U.str)))
theorem lst1_v {K : PySem.W.Frag} {h : HU} {H : Hp} {us ys : List U} {xs : List V} (rh : RH K T h H) (e : lst1 h us = some ys) (r : RUs K H us xs) : ∃ p vs, xs = [.ref p] ∧ SqL K H p vs ∧ RUs K H ys vs := by
  unfold lst1 at e
  split at e
  · rename_i p
    obtain ⟨v, rfl, r1⟩ := ru1 r
    cases (show v = V.ref p from r1)
    obtain ⟨vs, sq, rr⟩ := rh.sql e
    exact ⟨p, vs, rfl, sq, rr⟩
  · cases e
theorem ints_ru {K : PySem.W.Frag} {H : Hp} : ∀ ns : List Int, RUs K H (ns.map U.int) (ns.map V.int)
  | [] => rfl
  | n :: ns => .cons rfl (ints_ru ns)
theorem strs_ru {K : PySem.W.Frag} {H : Hp} : ∀ ns : List Str, RUs K H (ns.map U.str) (ns.map V.str)
  | [] => rfl
  | n :: ns => .cons rfl (strs_ru ns)
theorem c_sum (hc : X.calm = true) : CallR X (.builtin "sum") (LC X.K T cSum) := by
  intro pins s σ H xs ws Q I rv ⟨us, h, q, ru, rh, ⟨ys, ns, e1, e2, hr⟩, k⟩
  obtain ⟨p, vs, rfl, sq, rr⟩ := lst1_v rh e1 ru
  rw [intsU_v e2 rr] at sq
  exact cr_sum hc pins s σ H _ ws Q I rv ⟨p, ns, rfl, sq, stay k hr rfl rh⟩
theorem c_min (hc : X.calm = true) : CallR X (.builtin "min") (LC X.K T cMin) := by
  intro pins s σ H xs ws Q I rv ⟨us, h, q, ru, rh, ⟨ys, ns, e1, e2, l, hr⟩, k⟩
  obtain ⟨p, vs, rfl, sq, rr⟩ := lst1_v rh e1 ru
  rw [intsU_v e2 rr] at sq
  exact cr_min hc pins s σ H _ ws Q I rv ⟨p, ns, rfl, sq, l, fun m h1 h2 => stay k (hr m h1 h2) rfl rh⟩
theorem c_max (hc : X.calm = true) : CallR X (.builtin "max") (LC X.K T cMax) := by
  intro pins s σ H xs ws Q I rv ⟨us, h, q, ru, rh, ⟨ys, ns, e1, e2, l, hr⟩, k⟩
  obtain ⟨p, vs, rfl, sq, rr⟩ := lst1_v rh e1 ru
  rw [intsU_v e2 rr] at sq
  exact cr_max hc pins s σ H _ ws Q I rv ⟨p, ns, rfl, sq, l, fun m h1 h2 => stay k (hr m h1 h2) rfl rh⟩
theorem c_any (hc : X.calm = true) : CallR X (.builtin "any") (LC X.K T cAny) := by
  intro pins s σ H xs ws Q I rv ⟨us, h, q, ru, rh, ⟨ys, ns, e1, e2, hr⟩, k⟩
  obtain ⟨p, vs, rfl, sq, rr⟩ := lst1_v rh e1 ru
  rw [blsU_v e2 rr] at sq
  exact cr_any hc pins s σ H _ ws Q I rv ⟨p, ns, rfl, sq, stay k hr rfl rh⟩
theorem c_all (hc : X.calm = true) : CallR X (.builtin "all") (LC X.K T cAll) := by
  intro pins s σ H xs ws Q I rv ⟨us, h, q, ru, rh, ⟨ys, ns, e1, e2, hr⟩, k⟩
  obtain ⟨p, vs, rfl, sq, rr⟩ := lst1_v rh e1 ru
  rw [blsU_v e2 rr] at sq
  exact cr_all hc pins s σ H _ ws Q I rv ⟨p, ns, rfl, sq, stay k hr rfl rh⟩
theorem c_sortI : CallR X (.builtin "sorted") (LC X.K T cSortI) := by
  intro pins s σ H xs ws Q I rv ⟨us, h, q, ru, rh, ⟨ys, ns, e1, e2, hr⟩, k⟩
  obtain ⟨p, vs, rfl, sq, rr⟩ := lst1_v rh e1 ru
  rw [intsU_v e2 rr] at sq
  exact cr_sortedI pins s σ H _ ws Q I rv ⟨p, ns, rfl, sq, fun ns' r h1 h2 nr => k _ _ _ _ (hr ns' h1 h2 r (rh.free nr)) rfl (rh.new nr ⟨_, rfl, ints_ru ns'⟩) (Stp.new nr)⟩
theorem c_sortS : CallR X (.builtin "sorted") (LC X.K T cSortS) := by
  intro pins s σ H xs ws Q I rv ⟨us, h, q, ru, rh, ⟨ys, ns, e1, e2, l, hr⟩, k⟩
  obtain ⟨p, vs, rfl, sq, rr⟩ := lst1_v rh e1 ru
  rw [strsU_v e2 rr] at sq
  exact cr_sortedS pins s σ H _ ws Q I rv ⟨p, ns, rfl, sq, l, fun ns' r h1 h2 nr => k _ _ _ _ (hr ns' h1 h2 r (rh.free nr)) rfl (rh.new nr ⟨_, rfl, strs_ru ns'⟩) (Stp.new nr)⟩
end
end DL

set_option Elab.async false
set_option linter.all false
set_option maxRecDepth 100000
set_option maxHeartbeats 2000000
/-! The data layer: methods of built-ins, statements, loops, comprehensions. -/
namespace DL
open PySem L2 NdefX LamX
section
variable {X : Cx} {T : ZC}
/-! ### methods -/
abbrev DM := U → List U → HU → DV → Prop
def LM (K : PySem.W.Frag) (T : ZC) (r : DM) : V → List V → Hp → VK → Prop := fun x xs H Q => ∃ a us h q, RU K H a x ∧ RUs K H us xs ∧ RH K T h H ∧ r a us h q ∧ ∀ u h' v H', q u h' → RU K H' u v → RH K T h' H' → Stp K H h H' h' → Q v H'
/-- the kind of a thing, for its methods -/
def isLst (h : HU) : U → Prop
  | .ref p => match h p with
    | some (.lst _) => True
    | some (.lck _) => True
    | _ => False
  | _ => False
def isDct (h : HU) : U → Prop
  | .ref p => match h p with
    | some (.dK _) => True
    | some (.dT _) => True
    | _ => False
  | _ => False
def isTxt (_ : HU) : U → Prop
  | .str _ => True
  | _ => False
theorem isLst_v {K : PySem.W.Frag} {h : HU} {H : Hp} {u : U} {v : V} (rh : RH K T h H) (r : RU K H u v) (e : isLst h u) : tyV K "list" v H := by
  unfold isLst at e
  split at e
  · rename_i p
    cases (show v = V.ref p from r)
    split at e
    · rename_i us e1
      obtain ⟨vs, sq, _⟩ := rh.sql (p := p) (us := us) (by unfold lstU; rw [e1])
      exact .inl ⟨rfl, vs, sq⟩
    · rename_i us e1
      obtain ⟨vs, sq, _⟩ := rh.sql (p := p) (us := us) (by unfold lstU; rw [e1])
      exact .inl ⟨rfl, vs, sq⟩
    · exact e.elim
  · exact e.elim
theorem isDct_v {K : PySem.W.Frag} {h : HU} {H : Hp} {u : U} {v : V} (rh : RH K T h H) (r : RU K H u v) (e : isDct h u) : tyV K "dict" v H := by
  unfold isDct at e
  split at e
  · rename_i p
    cases (show v = V.ref p from r)
    split at e
    · rename_i us e1
      obtain ⟨ho, e2, kw, rfl, _⟩ := rh.obj p _ e1
      exact .inr (.inr (.inl ⟨rfl, .inl ⟨kw, e2⟩⟩))
    · rename_i us e1
      obtain ⟨ho, e2, kw, rfl, _⟩ := rh.obj p _ e1
      exact .inr (.inr (.inl ⟨rfl, .inr ⟨kw, e2⟩⟩))
    · exact e.elim
  · exact e.elim
theorem isTxt_v {K : PySem.W.Frag} {h : HU} {H : Hp} {u : U} {v : V} (rh : RH K T h H) (r : RU K H u v) (e : isTxt h u) : tyV K "str" v H := by
  unfold isTxt at e
  split at e
  · cases r
    rfl
  · exact e.elim
def dBM0 (ty : HU → U → Prop) (r : DM) (to : DE) (s : SU) (h : HU) (Q : DV) : Prop := to s h fun x h1 => ty h1 x ∧ r x [] h1 Q
def dBM (ty : HU → U → Prop) (r : DM) (to : DE) (t : DA) (s : SU) (h : HU) (Q : DV) : Prop := to s h fun x h1 => ty h1 x ∧ t s h1 fun us h2 => r x us h2 Q
theorem d_bm0 {Ty : String} {ty : HU → U → Prop} {id : String} {name : Str} {r : DM} {o : Expr} {to : DE} {apos cpos : Pos} (tv : ∀ (h : HU) (H : Hp) (u : U) (v : V), RH X.K T h H → RU X.K H u v → ty h u → tyV X.K Ty v H)
    (pa : PlainAttrs Ty) (slot : Slot Ty name id) (hty : typeOf (.builtin id) = pure (.type "method_descriptor")) (hm : MtR X id (LM X.K T r)) (ho : PD X T o to)
    (hbase : attributeBase o name X.env (eval o X.env) = eval o X.env := by rfl) (hline : (apos.endLine == cpos.line) = true := by rfl) : PD X T (.Call (.Attribute o name apos) [] [] cpos) (dBM0 ty r to) :=
  PE.weak (pe_bm0 pa slot hty hm ho hbase hline) fun σ H Q ⟨s, h, q, rs, rh, hq, k⟩ =>
    ⟨s, h, _, rs, rh, hq, fun x h1 v1 H1 q1 r1 rh1 st1 => ⟨tv h1 H1 x v1 rh1 r1 q1.1, x, [], h1, q, r1, rfl, rh1, q1.2, fun u h' v H' hu ru rh' st' => k u h' v H' hu ru rh' (st1.trans st')⟩⟩
theorem d_bm {Ty : String} {ty : HU → U → Prop} {id : String} {name : Str} {r : DM} {o e : Expr} {es : List Expr} {to : DE} {t : DA} {apos cpos : Pos} (tv : ∀ (h : HU) (H : Hp) (u : U) (v : V), RH X.K T h H → RU X.K H u v → ty h u → tyV X.K Ty v H)
    (pa : PlainAttrs Ty) (slot : Slot Ty name id) (hty : typeOf (.builtin id) = pure (.type "method_descriptor")) (hm : MtR X id (LM X.K T r)) (ho : PD X T o to) (ha : PDA X T (e :: es) t)
    (hbase : attributeBase o name X.env (eval o X.env) = eval o X.env := by rfl)
    (hfew : ((backTo cpos (starEach (e :: es) X.env)).all (fun x => !x.1) && (backToKw cpos (keywordEach [] X.env)).all (fun x => x.1.isSome)
      && decide ((e :: es).length + ([] : List Keyword).length + (if ([] : List Keyword).isEmpty then 0 else 1) < 30)) = true := by rfl)
    (hline : (apos.endLine == cpos.line) = true := by rfl) (hs : starEach (e :: es) X.env = (false, eval e X.env) :: starEach es X.env := by rfl) (hplain : (backTo cpos (starEach es X.env)).any (·.1) = false := by rfl) :
    PD X T (.Call (.Attribute o name apos) (e :: es) [] cpos) (dBM ty r to t) :=
  PE.weak (pe_bm pa slot hty hm ho ha hbase hfew hline hs hplain) fun σ H Q ⟨s, h, q, rs, rh, hq, k⟩ =>
    ⟨s, h, _, rs, rh, hq, fun x h1 v1 H1 q1 r1 rh1 st1 => ⟨tv h1 H1 x v1 rh1 r1 q1.1, s, h1, _, rs.mono st1.tm, rh1, q1.2, fun us h2 vs H2 q2 r2 rh2 st2 =>
      ⟨x, us, h2, q, RU.mono st2.tm _ _ r1, r2, rh2, q2, fun u h' v H' hu ru rh' st' => k u h' v H' hu ru rh' (st1.trans (st2.trans st'))⟩⟩⟩
/-- what a list's method writes -/
theorem put_lst {K : PySem.W.Frag} {h : HU} {H : Hp} {p : Addr} {us ws : List U} {xs : List V} (rh : RH K T h H) (e : h p = some (.lst us)) (r : RUs K H ws xs) : RH K T (updU h p (.lst ws)) (upd H p (.lst xs)) ∧ Stp K H h (upd H p (.lst xs)) (updU h p (.lst ws)) := by
  obtain ⟨a, b⟩ := rh.put e (o := .lst ws) (ho := .lst xs) trivial ⟨xs, rfl, r⟩
  exact ⟨a, Stp.put e b⟩
def mAppend : DM := fun x us h Q => match x, us with
  | .ref p, [y] => match h p with
    | some (.lst xs) => xs.length < sizeLine ∧ Q .non (updU h p (.lst (xs ++ [y])))
    | _ => False
  | _, _ => False
theorem m_append : MtR X "list.append" (LM X.K T mAppend) := by
  intro pins s σ H x xs v ws Q I rx rv ⟨a, us, h, q, ra, ru, rh, hr, k⟩
  unfold mAppend at hr
  split at hr
  · rename_i p y
    cases (show x = V.ref p from ra)
    obtain ⟨w, rfl, r1⟩ := ru1 ru
    split at hr
    · rename_i zs e
      obtain ⟨vs, e1, rr⟩ := rh.lst e
      obtain ⟨a1, a2⟩ := put_lst rh e (rr.append (.cons r1 .nil))
      exact mt_append pins s σ H _ _ v ws Q I rx rv ⟨p, vs, w, rfl, rfl, e1, by rw [rr.length]; exact hr.1, k _ _ _ _ hr.2 rfl a1 a2⟩
    · exact hr.elim
  · exact hr.elim
def mExtend : DM := fun x us h Q => match x, us with
  | .ref p, [.ref b] => match h p, h b with
    | some (.lst xs), some (.lst ys) => xs.length + ys.length ≤ sizeLine ∧ Q .non (updU h p (.lst (xs ++ ys)))
    | _, _ => False
  | _, _ => False
theorem m_extend : MtR X "list.extend" (LM X.K T mExtend) := by
  intro pins s σ H x xs v ws Q I rx rv ⟨a, us, h, q, ra, ru, rh, hr, k⟩
  unfold mExtend at hr
  split at hr
  · rename_i p b
    cases (show x = V.ref p from ra)
    obtain ⟨w, rfl, r1⟩ := ru1 ru
    cases (show w = V.ref b from r1)
    split at hr
    · rename_i zs ys e e2
      obtain ⟨vs, e1, rr⟩ := rh.lst e
      obtain ⟨vs2, e12, rr2⟩ := rh.lst e2
      obtain ⟨a1, a2⟩ := put_lst rh e (rr.append rr2)
      exact mt_extend pins s σ H _ _ v ws Q I rx rv ⟨p, b, vs, vs2, rfl, rfl, e1, e12, by rw [rr.length, rr2.length]; exact hr.1, k _ _ _ _ hr.2 rfl a1 a2⟩
    · exact hr.elim
  · exact hr.elim
theorem RUs.dropLast {K : PySem.W.Frag} {H : Hp} {us : List U} {vs : List V} (r : RUs K H us vs) : RUs K H us.dropLast vs.dropLast := by
  rw [List.dropLast_eq_take, List.dropLast_eq_take, r.length]
  exact r.take _
theorem RUs.erase {K : PySem.W.Frag} {H : Hp} {us : List U} {vs : List V} (r : RUs K H us vs) (j : Nat) : RUs K H (us.eraseIdx j) (vs.eraseIdx j) := by
  rw [List.eraseIdx_eq_take_drop_succ, List.eraseIdx_eq_take_drop_succ]
  exact (r.take _).append (r.drop _)
/-- xs.pop(), xs.pop(i) -/
def mPop : DM := fun x us h Q => match x, us with
  | .ref p, [] => match h p with
    | some (.lst xs) => match xs[xs.length - 1]? with
      | some y => Q y (updU h p (.lst xs.dropLast))
      | none => False
    | _ => False
  | .ref p, [.int i] => match h p with
    | some (.lst xs) => -(2 ^ 63) ≤ i ∧ i < 2 ^ 63 ∧ ∃ j y, seqIndex? i xs.length = some j ∧ xs[j]? = some y ∧ Q y (updU h p (.lst (xs.eraseIdx j)))
    | _ => False
  | _, _ => False
theorem m_pop : MtR X "list.pop" (LM X.K T mPop) := by
  intro pins s σ H x xs v ws Q I rx rv ⟨a, us, h, q, ra, ru, rh, hr, k⟩
  unfold mPop at hr
  split at hr
  · rename_i p
    cases (show x = V.ref p from ra)
    cases (show xs = [] from ru)
    split at hr
    · rename_i zs e
      split at hr
      · rename_i y ey
        obtain ⟨vs, e1, rr⟩ := rh.lst e
        obtain ⟨w, e2, r2⟩ := rr.get ey
        obtain ⟨a1, a2⟩ := put_lst rh e rr.dropLast
        exact mt_pop pins s σ H _ _ v ws Q I rx rv ⟨p, vs, w, rfl, rfl, e1, by rw [rr.length]; exact e2, k _ _ _ _ hr (RU.mono a2.tm _ _ r2) a1 a2⟩
      · exact hr.elim
    · exact hr.elim
  · rename_i p i
    cases (show x = V.ref p from ra)
    obtain ⟨w, rfl, r1⟩ := ru1 ru
    cases (show w = V.int i from r1)
    split at hr
    · rename_i zs e
      obtain ⟨l1, l2, j, y, ej, ey, hr⟩ := hr
      obtain ⟨vs, e1, rr⟩ := rh.lst e
      obtain ⟨w, e2, r2⟩ := rr.get ey
      obtain ⟨a1, a2⟩ := put_lst rh e (rr.erase j)
      exact mt_popAt pins s σ H _ _ v ws Q I rx rv ⟨p, vs, i, j, w, rfl, rfl, e1, l1, l2, by rw [rr.length]; exact ej, e2, k _ _ _ _ hr (RU.mono a2.tm _ _ r2) a1 a2⟩
    · exact hr.elim
  · exact hr.elim
def mReverse : DM := fun x us h Q => match x, us with
  | .ref p, [] => match h p with
    | some (.lst xs) => Q .non (updU h p (.lst xs.reverse))
    | _ => False
  | _, _ => False
theorem m_reverse : MtR X "list.reverse" (LM X.K T mReverse) := by
  intro pins s σ H x xs v ws Q I rx rv ⟨a, us, h, q, ra, ru, rh, hr, k⟩
  unfold mReverse at hr
  split at hr
  · rename_i p
    cases (show x = V.ref p from ra)
    cases (show xs = [] from ru)
    split at hr
    · rename_i zs e
      obtain ⟨vs, e1, rr⟩ := rh.lst e
      obtain ⟨a1, a2⟩ := put_lst rh e rr.reverse
      exact mt_reverse pins s σ H _ _ v ws Q I rx rv ⟨p, vs, rfl, rfl, e1, k _ _ _ _ hr rfl a1 a2⟩
    · exact hr.elim
  · exact hr.elim
/-- sep.join(xs) -/
def mJoin : DM := fun x us h Q => match x with
  | .str a => ∃ ys ns, lst1 h us = some ys ∧ strsU ys = some ns ∧ (ns.map (·.length)).sum + ns.length * a.length ≤ 16777216 ∧ Q (.str (Txt.join a ns)) h
  | _ => False
theorem m_join : MtR X "str.join" (LM X.K T mJoin) := by
  intro pins s σ H x xs v ws Q I rx rv ⟨a, us, h, q, ra, ru, rh, hr, k⟩
  unfold mJoin at hr
  split at hr
  · rename_i z
    cases (show x = V.str z from ra)
    obtain ⟨ys, ns, e1, e2, l, hr⟩ := hr
    obtain ⟨p, vs, rfl, sq, rr⟩ := lst1_v rh e1 ru
    rw [strsU_v e2 rr] at sq
    exact mt_join pins s σ H _ _ v ws Q I rx rv ⟨z, p, ns, rfl, rfl, .inl sq, l, stay k hr rfl rh⟩
  · exact hr.elim

/-! ### statements -/
def dNext (D : DEnds) (s : SU) (h : HU) : Prop := D.nx s h
def dSeq (t u : DS) (D : DEnds) (s : SU) (h : HU) : Prop := t { D with nx := u D } s h
variable {st : Stmt} {rest : List Stmt} {t u : DS}
theorem d_end : PDSs X T [] dNext := PSs.weak pss_nil fun D σ H ⟨s, h, E, rs, rh, hq, l⟩ => l.nx s h σ H hq rs rh Stp.refl
theorem d_seq (h1 : PDS X T st t) (h2 : PDSs X T rest u) : PDSs X T (st :: rest) (dSeq t u) := PSs.weak (pss_cons h1 h2) fun D σ H ⟨s, h, E, rs, rh, hq, l⟩ =>
  ⟨s, h, { E with nx := u E }, rs, rh, hq, ⟨fun s' h' σ' H' q r1 r2 st => ⟨s', h', E, r1, r2, q, l.step st⟩, l.rt, l.bk, l.ct⟩⟩
theorem d_one (h1 : PDS X T st t) : PDSs X T [st] t := pss_one h1
/-- less may be told from here on -/
def WkS (P : SU → HU → Prop) (s : SU) (h : HU) : Prop := ∃ s' h', SubS s' s ∧ Sub h' h ∧ P s' h'
theorem WkS.of {P : SU → HU → Prop} {s : SU} {h : HU} (q : P s h) : WkS P s h := ⟨s, h, SubS.refl s, Sub.refl h, q⟩
def dWk (u : DS) (D : DEnds) (s : SU) (h : HU) : Prop := WkS (u D) s h
theorem d_wk (h2 : PDSs X T rest u) : PDSs X T rest (dWk u) := PSs.weak h2 fun D σ H ⟨s, h, E, rs, rh, ⟨s1, h1, a, b, hq⟩, l⟩ => ⟨s1, h1, E, rs.sub a, rh.sub b, hq,
  ⟨fun s' h' σ' H' q r1 r2 st => l.nx s' _ σ' H' q r1 r2 (st.more b), fun u h' v H' q r1 r2 st => l.rt u _ v H' q r1 r2 (st.more b), fun s' h' σ' H' q r1 r2 st => l.bk s' _ σ' H' q r1 r2 (st.more b), fun s' h' σ' H' q r1 r2 st => l.ct s' _ σ' H' q r1 r2 (st.more b)⟩⟩
def dBreak (D : DEnds) (s : SU) (h : HU) : Prop := D.bk s h
def dCont (D : DEnds) (s : SU) (h : HU) : Prop := D.ct s h
theorem d_pass {pos} : PDS X T (.Pass pos) dNext := PS.weak ps_pass fun D σ H ⟨s, h, E, rs, rh, hq, l⟩ => l.nx s h σ H hq rs rh Stp.refl
theorem d_break {pos} : PDS X T (.Break pos) dBreak := PS.weak ps_break fun D σ H ⟨s, h, E, rs, rh, hq, l⟩ => l.bk s h σ H hq rs rh Stp.refl
theorem d_cont {pos} : PDS X T (.Continue pos) dCont := PS.weak ps_continue fun D σ H ⟨s, h, E, rs, rh, hq, l⟩ => l.ct s h σ H hq rs rh Stp.refl
variable {e : Expr} {te : DE} {pos : Pos}
def dDrop (te : DE) (D : DEnds) (s : SU) (h : HU) : Prop := te s h fun _ h1 => D.nx s h1
theorem d_expr (he : PD X T e te) (hs : swapsWith e none pos.line X.env = pure false := by rfl) : PDS X T (.Expr e pos) (dDrop te) := PS.weak (ps_expr he hs) fun D σ H ⟨s, h, E, rs, rh, hq, l⟩ =>
  ⟨s, h, _, rs, rh, hq, fun u h1 v H1 q1 r1 rh1 st1 => l.nx s h1 σ H1 q1 (rs.mono st1.tm) rh1 st1⟩
def dRet (te : DE) (D : DEnds) (s : SU) (h : HU) : Prop := te s h D.rt
theorem d_ret (he : PD X T e te) : PDS X T (.Return (some e) pos) (dRet te) := PS.weak (ps_ret he) fun D σ H ⟨s, h, E, rs, rh, hq, l⟩ => ⟨s, h, _, rs, rh, hq, fun u h1 v H1 q1 r1 rh1 st1 => l.rt u h1 v H1 q1 r1 rh1 st1⟩
def dRetN (D : DEnds) (s : SU) (h : HU) : Prop := D.rt .non h
theorem d_retN : PDS X T (.Return none pos) dRetN := PS.weak ps_retN fun D σ H ⟨s, h, E, rs, rh, hq, l⟩ => l.rt .non h _ H hq rfl rh Stp.refl
def dIfS (c : DT) (t u : DS) (D : DEnds) (s : SU) (h : HU) : Prop := c s h fun b h1 => (b = true → t D s h1) ∧ (b = false → u D s h1)
theorem d_if {c : Expr} {a b : List Stmt} {tc : DT} (hc : PDT X T c tc) (ha : PDSs X T a t) (hb : PDSs X T b u) : PDS X T (.If c a b pos) (dIfS tc t u) := PS.weak (ps_if hc ha hb) fun D σ H ⟨s, h, E, rs, rh, hq, l⟩ =>
  ⟨s, h, _, rs, rh, hq, fun b h1 H1 q1 rh1 st1 => by
    cases b with
    | true => exact ⟨s, h1, E, rs.mono st1.tm, rh1, q1.1 rfl, l.step st1⟩
    | false => exact ⟨s, h1, E, rs.mono st1.tm, rh1, q1.2 rfl, l.step st1⟩⟩
/-- targets -/
def gNm (i : Nat) (u : U) (s : SU) (h : HU) (Q : SU → HU → Prop) : Prop := Q (s.set i (some u)) h
theorem d_name {i : Nat} {x : Str} (hN : X.N.Nodup) (hi : X.N[i]? = some x) (hx : Loc X.env.scope x) (hf : X.fn x = true ∨ X.env.scope.names.lookup x = some .local := by first | exact .inl rfl | exact .inr rfl | assumption) : PDG X T (.Name x pos) (gNm i) :=
  PG.weak (pg_name hN hi hx hf) fun v σ H Q ⟨u, s, h, q, ru, rs, rh, hq, k⟩ => k _ h _ H hq (rs.set i ru) rh Stp.refl
/-- a, b, .. = a tuple: the slots in order -/
def gNms : List Nat → List U → SU → HU → (SU → HU → Prop) → Prop
  | [], [], s, h, Q => Q s h
  | i :: is, u :: us, s, h, Q => gNms is us (s.set i (some u)) h Q
  | _, _, _, _, _ => False
def gUnp (is : List Nat) (u : U) (s : SU) (h : HU) (Q : SU → HU → Prop) : Prop := match u with
  | .tup us => gNms is us s h Q
  | _ => False
def gVs : List Nat → TGs
  | [] => gNil
  | i :: is => gCons (gName i) (gVs is)
theorem gVs_go {K : PySem.W.Frag} : ∀ (is : List Nat) (us : List U) (vs : List V) (s : SU) (h : HU) (q : SU → HU → Prop) (σ : L2.St) (H : Hp) (Q : L2.St → Hp → Prop), RUs K H us vs → RS K H s σ → gNms is us s h q → (∀ s' σ', q s' h → RS K H s' σ' → Q σ' H) → gVs is vs σ H Q
  | [], [], vs, s, h, q, σ, H, Q, ru, rs, hq, k => by
    cases (show vs = [] from ru)
    exact ⟨rfl, k s σ hq rs⟩
  | i :: is, u :: us, vs, s, h, q, σ, H, Q, ru, rs, hq, k => by
    obtain ⟨v, w, rfl, r1, r2⟩ := ru.uncons
    exact ⟨v, w, rfl, gVs_go is us w _ h q _ H Q r2 (rs.set i r1) hq k⟩
  | [], _ :: _, _, _, _, _, _, _, _, _, _, hq, _ => hq.elim
  | _ :: _, [], _, _, _, _, _, _, _, _, _, hq, _ => hq.elim
theorem gNms_len : ∀ (is : List Nat) (us : List U) (s : SU) (h : HU) (q : SU → HU → Prop), gNms is us s h q → us.length = is.length
  | [], [], _, _, _, _ => rfl
  | i :: is, u :: us, s, h, q, hq => by rw [List.length_cons, List.length_cons, gNms_len is us _ h q hq]
  | [], _ :: _, _, _, _, hq => hq.elim
  | _ :: _, [], _, _, _, hq => hq.elim
theorem d_unpack {es : List Expr} {k : Nat} {is : List Nat} {n : Nat} (hc : X.calm = true) (g : PGs X es (gVs is)) (hl : is.length = n := by rfl)
    (hn : (assignEach es X.env).length = n := by rfl) (hst : (assignEach es X.env).findIdx? (·.1) = none := by rfl) : PDG X T (.Tuple es k pos) (gUnp is) :=
  PG.weak (pg_tup hc g hn hst) fun v σ H Q ⟨u, s, h, q, ru, rs, rh, hq, k⟩ => by
    unfold gUnp at hq
    split at hq
    · rename_i us
      obtain ⟨a, vs, rfl, t, rr⟩ := ru_tup ru
      exact ⟨a, vs, rfl, SqT.of t, by rw [rr.length, gNms_len _ _ _ _ _ hq, hl], gVs_go is us vs s h q σ H Q rr rs hq fun s' σ' q' r' => k s' h σ' H q' r' rh Stp.refl⟩
    · exact hq.elim
/-- o[i] = v: a list's place, a dict's key -/
def oSet (o i v : U) (h : HU) (Q : HU → Prop) : Prop := match o with
  | .ref p => match h p with
    | some (.lst xs) => match i with
      | .int j => match ixN xs.length j with
        | some n => Q (updU h p (.lst (xs.set n v)))
        | none => False
      | _ => False
    | some (.dK kvs) => match keyU i with
      | some k => kvs.length < sizeLine ∧ Q (updU h p (.dK (putU kvs k v)))
      | none => False
    | some (.dT kvs) => match keyT i with
      | some k => kvs.length < sizeLine ∧ Q (updU h p (.dT (putU kvs k v)))
      | none => False
    | _ => False
  | _ => False
def LSet (K : PySem.W.Frag) (T : ZC) : TSet := fun o i v H Q => ∃ a b c h q, RU K H a o ∧ RU K H b i ∧ RU K H c v ∧ RH K T h H ∧ oSet a b c h q ∧ ∀ h' H', q h' → RH K T h' H' → Stp K H h H' h' → Q H'
theorem dK_nodup {pins : List (Addr × Obj)} {s : Shared} {σ : L2.St} {H : Hp} (I : Inv X pins σ H s) {p : Addr} {kw : List (Key × V)} (e : H p = some (.dK kw)) : (kw.map (·.1)).Nodup := by
  obtain ⟨_, _, vs, r, ob, es, ep, _, _, _, _, _, nd⟩ := I.hok p _ e
  rw [KV.keys r]
  exact nd
theorem paired_keys {κ α β : Type} {R : κ × α → κ × β → Prop} (hR : ∀ a b, R a b → a.1 = b.1) : ∀ {l : List (κ × α)} {m : List (κ × β)}, Paired R l m → l.map (·.1) = m.map (·.1)
  | _, _, .nil => rfl
  | _, _, .cons r t => by rw [List.map_cons, List.map_cons, hR _ _ r, paired_keys hR t]
theorem dT_nodup {pins : List (Addr × Obj)} {s : Shared} {σ : L2.St} {H : Hp} (I : Inv X pins σ H s) {p : Addr} {kw : List (List Key × V)} (e : H p = some (.dT kw)) : (kw.map (·.1)).Nodup := by
  obtain ⟨_, _, xs, r, ob, es, ep, _, _, _, _, nd⟩ := I.hok p _ e
  have q : kw.map (·.1) = xs.map (·.1) := paired_keys (fun _ _ z => z.1) r
  rw [q]
  exact nd
theorem o_set (hu : X.A.units + 1 < cLine) : PSet X (LSet X.K T) := by
  intro pins s σ H o i v ov iv vv Q I ro ri rv ⟨a, b, c, h, q, ra, rb, rc, rh, hr, k⟩
  unfold oSet at hr
  split at hr
  · rename_i p
    cases (show o = V.ref p from ra)
    split at hr
    · rename_i xs e
      split at hr
      · rename_i j
        cases (show i = V.int j from rb)
        split at hr
        · rename_i n en
          obtain ⟨vs, e1, rr⟩ := rh.lst e
          obtain ⟨a1, a2⟩ := put_lst rh e (RUs.set rc n rr)
          exact set_list pins s σ H _ _ v ov iv vv Q I ro ri rv ⟨p, vs, j, n, rfl, rfl, e1, by rw [rr.length]; exact en, k _ _ hr a1 a2⟩
        · exact hr.elim
      · exact hr.elim
    · rename_i kvs e
      split at hr
      · rename_i kk ek
        obtain ⟨ho, e1, kw, rfl, r⟩ := rh.obj p _ e
        have nd := dK_nodup I e1
        rw [← RKV.keys r] at nd
        obtain ⟨a1, a2⟩ := rh.put e (o := .dK (putU kvs kk c)) (ho := .dK (putK kw kk v)) trivial ⟨_, rfl, RKV.put kk r nd rc⟩
        have ei := keyU_v ek rb
        subst ei
        cases (show ov = Value.ref p from ro)
        exact d_setItem hu I (DPut.k e1 (by rw [← r.length]; exact hr.1)) ri rv fun s' I' => ⟨_, I', k _ _ hr.2 a1 (Stp.put e a2)⟩
      · exact hr.elim
    · rename_i kvs e
      split at hr
      · rename_i kk ek
        obtain ⟨ho, e1, kw, rfl, r⟩ := rh.obj p _ e
        have nd := dT_nodup I e1
        rw [← RKV.keys r] at nd
        obtain ⟨a1, a2⟩ := rh.put e (o := .dT (putU kvs kk c)) (ho := .dT (putK kw kk v)) trivial ⟨_, rfl, RKV.put kk r nd rc⟩
        cases b <;> first | cases ek | skip
        rename_i us
        obtain ⟨bb, vs, rfl, t, rr⟩ := ru_tup rb
        cases (show ov = Value.ref p from ro)
        exact d_setItem hu I (DPut.t e1 (by rw [t, keysU_v ek rr]) (by rw [← r.length]; exact hr.1)) ri rv fun s' I' => ⟨_, I', k _ _ hr.2 a1 (Stp.put e a2)⟩
      · exact hr.elim
    · exact hr.elim
  · exact hr.elim
def gSb (to ti : DE) (v : U) (s : SU) (h : HU) (Q : SU → HU → Prop) : Prop := to s h fun o h1 => ti s h1 fun i h2 => oSet o i v h2 fun h3 => Q s h3
theorem d_sub {o i : Expr} {to ti : DE} (hu : X.A.units + 1 < cLine) (ho : PD X T o to) (hi : PD X T i ti)
    (ha : ∀ v, assign (.Subscript o i pos) X.env v = (do
      let ov ← holding [v] (eval o X.env)
      let iv ← holding [v, ov] (eval i X.env)
      standAt pos
      holding [v, ov, iv] (setItem ov iv v)
      release [v, ov, iv] []) := by intro _; rfl) : PDG X T (.Subscript o i pos) (gSb to ti) :=
  PG.weak (pg_sub ho hi (o_set (T := T) hu) ha) fun v σ H Q ⟨u, s, h, q, ru, rs, rh, hq, k⟩ =>
    ⟨s, h, _, rs, rh, hq, fun x h1 v1 H1 q1 r1 rh1 st1 => ⟨s, h1, _, rs.mono st1.tm, rh1, q1, fun y h2 v2 H2 q2 r2 rh2 st2 =>
      ⟨x, y, u, h2, _, RU.mono st2.tm _ _ r1, r2, RU.mono (st1.trans st2).tm _ _ ru, rh2, q2, fun h3 H3 q3 rh3 st3 => k s h3 σ H3 q3 (rs.mono (st1.trans (st2.trans st3)).tm) rh3 (st1.trans (st2.trans st3))⟩⟩⟩
def dAsg (te : DE) (g : DG) (D : DEnds) (s : SU) (h : HU) : Prop := te s h fun x h1 => g x s h1 D.nx
theorem d_asg {tg : Expr} {g : DG} (he : PD X T e te) (hg : PDG X T tg g) (hs : swapsWithSole [tg] e pos.line X.env = pure false := by rfl) (hw : swappedStores [tg] e X.env = pure none := by rfl)
    (h1 : (assignEach [tg] X.env).map (·.2) = [assign tg X.env] := by rfl) : PDS X T (.Assign [tg] e pos) (dAsg te g) := PS.weak (ps_asg he hg hs hw h1) fun D σ H ⟨s, h, E, rs, rh, hq, l⟩ =>
  ⟨s, h, _, rs, rh, hq, fun u h1 v H1 q1 r1 rh1 st1 => ⟨u, s, h1, _, r1, rs.mono st1.tm, rh1, q1, fun s' h' σ' H' q2 r2 rh2 st2 => l.nx s' h' σ' H' q2 r2 rh2 (st1.trans st2)⟩⟩
theorem d_set {i : Nat} {x : Str} {pos' : Pos} (hN : X.N.Nodup) (hi : X.N[i]? = some x) (hx : Loc X.env.scope x) (he : PD X T e te) (hs : swapsWith e (some (.Name x pos')) pos.line X.env = pure false := by rfl) (hf : X.fn x = true ∨ X.env.scope.names.lookup x = some .local := by first | exact .inl rfl | exact .inr rfl | assumption) :
    PDS X T (.Assign [.Name x pos'] e pos) (dAsg te (gNm i)) := PS.weak (ps_set hN hi hx he hs hf) fun D σ H ⟨s, h, E, rs, rh, hq, l⟩ =>
  ⟨s, h, _, rs, rh, hq, fun u h1 v H1 q1 r1 rh1 st1 => l.nx _ h1 _ H1 q1 ((rs.mono st1.tm).set i r1) rh1 st1⟩
/-- a, b = x, y, plain locals -/
def dPar (i j : Nat) (ta : DA) (D : DEnds) (s : SU) (h : HU) : Prop := ta s h fun us h1 => match us with
  | [v, w] => D.nx ((s.set i (some v)).set j (some w)) h1
  | _ => False
theorem d_par {i j : Nat} {x y : Str} {a b : Expr} {ta : DA} {px py pt : Pos} {kt k2 pt2} (hc : X.calm = true) (hN : X.N.Nodup) (hi : X.N[i]? = some x) (hj : X.N[j]? = some y) (hij : i ≠ j)
    (hx : X.env.scope.names.lookup x = some .local) (hy : X.env.scope.names.lookup y = some .local) (ha : PDA X T [a, b] ta)
    (hw : swappedStores [.Tuple [.Name x px, .Name y py] kt pt] (.Tuple [a, b] k2 pt2) X.env = pure (some [x, y]))
    (hs : swapsWithSole [.Tuple [.Name x px, .Name y py] kt pt] (.Tuple [a, b] k2 pt2) pos.line X.env = pure false := by rfl) :
    PDS X T (.Assign [.Tuple [.Name x px, .Name y py] kt pt] (.Tuple [a, b] k2 pt2) pos) (dPar i j ta) := PS.weak (ps_par hc hN hi hj hij hx hy ha hw hs) fun D σ H ⟨s, h, E, rs, rh, hq, l⟩ =>
  ⟨s, h, _, rs, rh, hq, fun us h1 vs H1 q1 r1 rh1 st1 => by
    split at q1
    · rename_i v w
      obtain ⟨a1, a2, rfl, b1, b2⟩ := ru2 r1
      exact ⟨a1, a2, rfl, l.nx _ h1 _ H1 q1 (((rs.mono st1.tm).set i b1).set j b2) rh1 st1⟩
    · exact q1.elim⟩

/-! ### while -/
def dWhile (c : DT) (tb : DS) (D : DEnds) (s : SU) (h : HU) : Prop := ∃ W : Nat → SU → HU → Prop, (∃ m, W m s h) ∧ ∀ m s h, W m s h →
  c s h fun b h1 => (b = true → tb { D with nx := WkS (fun s' h' => ∃ m', m' < m ∧ W m' s' h'), ct := WkS (fun s' h' => ∃ m', m' < m ∧ W m' s' h'), bk := D.nx } s h1) ∧ (b = false → D.nx s h1)
theorem d_while {c : Expr} {body : List Stmt} {tc : DT} {tb : DS} (hp : PassesOwn (model X.prog X.w) X.A X.env X.xe) (hc : PDT X T c tc) (hb : PDSs X T body tb) : PDS X T (.While c body [] pos) (dWhile tc tb) :=
  PS.weak (ps_while hp hc hb) fun D σ H ⟨s, h, E, rs, rh, ⟨W, ⟨m0, w0⟩, turn⟩, l⟩ => by
    refine ⟨fun m σ' H' => ∃ s' h', RS X.K H' s' σ' ∧ RH X.K T h' H' ∧ Stp X.K H h H' h' ∧ W m s' h', ⟨m0, s, h, rs, rh, Stp.refl, w0⟩, ?_⟩
    rintro m σ1 H1 ⟨s1, h1, rs1, rh1, st1, w1⟩
    refine ⟨s1, h1, _, rs1, rh1, turn m s1 h1 w1, fun b h2 H2 q2 rh2 st2 => ?_⟩
    cases b with
    | false => exact l.nx s1 h2 σ1 H2 (q2.2 rfl) (rs1.mono st2.tm) rh2 (st1.trans st2)
    | true =>
      refine ⟨_, fun _ _ z => z, ?_⟩
      have go : ∀ s' h' σ' H', WkS (fun s' h' => ∃ m', m' < m ∧ W m' s' h') s' h' → RS X.K H' s' σ' → RH X.K T h' H' → Stp X.K H2 h2 H' h' → ∃ m', m' < m ∧ ∃ s' h', RS X.K H' s' σ' ∧ RH X.K T h' H' ∧ Stp X.K H h H' h' ∧ W m' s' h' :=
        fun s' h' σ' H' ⟨s3, h3, a, b, m', lm, w'⟩ r1 r2 st => ⟨m', lm, s3, h3, r1.sub a, r2.sub b, (st1.trans (st2.trans st)).less b, w'⟩
      exact ⟨s1, h2, _, rs1.mono st2.tm, rh2, q2.1 rfl, ⟨go, (l.step (st1.trans st2)).rt, (l.step (st1.trans st2)).nx, go⟩⟩

/-! ### what is walked -/
structure WalkU (K : PySem.W.Frag) (T : ZC) (H0 : Hp) (J : It) (us : List U) (keep : HU → Prop) : Prop where
  goes : ∀ i H h, TM K H0 H → RH K T h H → keep h → i < us.length → J.go i H
  stops : ∀ H h, TM K H0 H → RH K T h H → keep h → J.stop us.length H
  yields : ∀ i H h x H', TM K H0 H → RH K T h H → keep h → i < us.length → J.yld i H x H' → ∃ u, us[i]? = some u ∧ RU K H' u x ∧ RH K T h H' ∧ Stp K H h H' h
abbrev DI := SU → HU → (List U → (HU → Prop) → HU → Prop) → Prop
def LI (K : PySem.W.Frag) (T : ZC) (wi : DI) : TI := fun σ H R => ∃ s h r, RS K H s σ ∧ RH K T h H ∧ wi s h r ∧ ∀ us keep h' J H', r us keep h' → RH K T h' H' → Stp K H h H' h' → WalkU K T H' J us keep → R J H'
abbrev PDI (X : Cx) (T : ZC) (tg iter : Expr) (wi : DI) : Prop := PI X tg iter (LI X.K T wi)
theorem PI.weak {tg iter : Expr} {t t' : TI} (h : PI X tg iter t) (w : ∀ σ H R, t' σ H R → t σ H R) : PI X tg iter t' := ⟨fun pins s σ H R I q => h.run pins s σ H R I (w σ H R q)⟩
/-- a for over what is told -/
def dFor (wi : DI) (g : DG) (tb : DS) (D : DEnds) (s : SU) (h : HU) : Prop := wi s h fun us keep h1 => ∃ Pv : Nat → SU → HU → Prop, Pv 0 s h1 ∧ (∀ i s h, i ≤ us.length → Pv i s h → keep h) ∧
  (∀ i u s h, us[i]? = some u → Pv i s h → g u s h fun s2 h2 => tb { D with nx := WkS (Pv (i + 1)), ct := WkS (Pv (i + 1)), bk := D.nx } s2 h2) ∧ ∀ s h, Pv us.length s h → D.nx s h
theorem d_for {tg iter : Expr} {body : List Stmt} {wi : DI} {g : DG} {tb : DS} (hp : PassesOwn (model X.prog X.w) X.A X.env X.xe) (hc : X.calm = true) (hi : PDI X T tg iter wi) (hg : PDG X T tg g) (hb : PDSs X T body tb)
    (hs : ∀ x, foldedSetIterable iter X.env x = pure x := by intro _; rfl) : PDS X T (.For tg iter body [] pos) (dFor wi g tb) :=
  PS.weak (ps_for hp hc hi hg hb hs) fun D σ H ⟨s, h, E, rs, rh, hq, l⟩ => by
    refine ⟨s, h, _, rs, rh, hq, fun us keep h1 J H1 q1 rh1 st1 wk => ?_⟩
    obtain ⟨Pv, p0, pk, ps, pd⟩ := q1
    refine ⟨fun i m σ' H' => m = us.length - i ∧ i ≤ us.length ∧ ∃ s' h', RS X.K H' s' σ' ∧ RH X.K T h' H' ∧ Stp X.K H1 h1 H' h' ∧ Pv i s' h', ⟨us.length, by simp, Nat.zero_le _, s, h1, rs.mono st1.tm, rh1, Stp.refl, p0⟩, ?_⟩
    rintro i m σ2 H2 ⟨rfl, hi, s2, h2, rs2, rh2, st2, p2⟩
    have kp := pk i s2 h2 hi p2
    by_cases hlt : i < us.length
    · refine .inr ⟨wk.goes i H2 h2 st2.tm rh2 kp hlt, fun σ' H' => ∃ s' h', RS X.K H' s' σ' ∧ RH X.K T h' H' ∧ Stp X.K H1 h1 H' h' ∧ Pv (i + 1) s' h', fun σ' H' z => ⟨us.length - (i + 1), by omega, rfl, hlt, z⟩, fun x H3 y => ?_⟩
      obtain ⟨u, eu, ru, rh3, st3⟩ := wk.yields i H2 h2 x H3 st2.tm rh2 kp hlt y
      refine ⟨u, s2, h2, _, ru, rs2.mono st3.tm, rh3, ps i u s2 h2 eu p2, fun s4 h4 σ4 H4 q4 rs4 rh4 st4 => ?_⟩
      have go : ∀ s' h' σ' H', WkS (Pv (i + 1)) s' h' → RS X.K H' s' σ' → RH X.K T h' H' → Stp X.K H4 h4 H' h' → ∃ s' h', RS X.K H' s' σ' ∧ RH X.K T h' H' ∧ Stp X.K H1 h1 H' h' ∧ Pv (i + 1) s' h' :=
        fun s' h' σ' H' ⟨s5, h5, a, b, w'⟩ r1 r2 st => ⟨s5, h5, r1.sub a, r2.sub b, (st2.trans (st3.trans (st4.trans st))).less b, w'⟩
      have st5 := st1.trans (st2.trans (st3.trans st4))
      exact ⟨s4, h4, _, rs4, rh4, q4, ⟨go, (l.step st5).rt, (l.step st5).nx, go⟩⟩
    · have e : i = us.length := by omega
      subst e
      exact .inl ⟨wk.stops H2 h2 st2.tm rh2 kp, l.nx s2 h2 σ2 H2 (pd s2 h2 p2) rs2 rh2 (st1.trans st2)⟩
/-- a list (as it stands while it is walked), a tuple -/
def iSeq (te : DE) (s : SU) (h : HU) (R : List U → (HU → Prop) → HU → Prop) : Prop := te s h fun u h1 => match u with
  | .ref p => match lstU h1 p with
    | some us => R us (fun h2 => lstU h2 p = some us) h1
    | none => False
  | _ => False
def iTu (te : DE) (s : SU) (h : HU) (R : List U → (HU → Prop) → HU → Prop) : Prop := te s h fun u h1 => match u with
  | .tup us => R us (fun _ => True) h1
  | _ => False
theorem sq_unique {K : PySem.W.Frag} {H : Hp} {p : Addr} {xs ys : List V} (e : Rd H p (.lst xs)) (e2 : Rd H p (.lst ys)) : xs = ys := by
  rcases e with e | ⟨o, e⟩ <;> rcases e2 with e2 | ⟨o2, e2⟩ <;> (rw [e] at e2; cases e2; try rfl)
theorem d_iSeq {tg l : Expr} {te : DE} (hl : PD X T l te) : PDI X T tg l (iSeq te) := PI.weak (pi_list hl) fun σ H R ⟨s, h, r, rs, rh, hr, k⟩ =>
  ⟨s, h, _, rs, rh, hr, fun u h1 v H1 q1 r1 rh1 st1 => by
    split at q1
    · rename_i p
      cases (show v = V.ref p from r1)
      split at q1
      · rename_i us e
        obtain ⟨vs, sq, rr⟩ := rh1.sql e
        refine ⟨p, rfl, ⟨vs, sq⟩, k us _ h1 _ H1 q1 rh1 st1 ⟨fun i H2 h2 tm rh2 kp lt => ?_, fun H2 h2 tm rh2 kp => ?_, fun i H2 h2 x H3 tm rh2 kp lt y => ?_⟩⟩
        · obtain ⟨ws, sq2, rr2⟩ := rh2.sql kp
          have hl2 := rr2.length
          exact ⟨ws, ws[i]'(by omega), sq2, by simp [show i < ws.length by omega]⟩
        · obtain ⟨ws, sq2, rr2⟩ := rh2.sql kp
          exact ⟨ws, sq2, by rw [rr2.length]; exact Nat.le_refl _⟩
        · obtain ⟨ws, sq2, rr2⟩ := rh2.sql kp
          obtain ⟨rfl, y2⟩ := y
          obtain ⟨u, eu, ru⟩ := rr2.back (y2 ws sq2)
          exact ⟨u, eu, ru, rh2, Stp.refl⟩
      · exact q1.elim
    · exact q1.elim⟩
theorem d_iTu {tg l : Expr} {te : DE} (hl : PD X T l te) : PDI X T tg l (iTu te) := PI.weak (pi_tup hl) fun σ H R ⟨s, h, r, rs, rh, hr, k⟩ =>
  ⟨s, h, _, rs, rh, hr, fun u h1 v H1 q1 r1 rh1 st1 => by
    split at q1
    · rename_i us
      obtain ⟨p, vs, rfl, t, rr⟩ := ru_tup r1
      refine ⟨p, rfl, ⟨vs, SqT.of t⟩, k us _ h1 _ H1 q1 rh1 st1 ⟨fun i H2 h2 tm rh2 kp lt => ?_, fun H2 h2 tm rh2 kp => ?_, fun i H2 h2 x H3 tm rh2 kp lt y => ?_⟩⟩
      · have hl2 := rr.length
        exact ⟨vs, vs[i]'(by omega), SqT.of (tm.tup _ _ t), by simp [show i < vs.length by omega]⟩
      · exact ⟨vs, SqT.of (tm.tup _ _ t), by rw [rr.length]; exact Nat.le_refl _⟩
      · obtain ⟨rfl, y2⟩ := y
        obtain ⟨u, eu, ru⟩ := (RUs.mono tm _ _ rr).back (y2 vs (SqT.of (tm.tup _ _ t)))
        exact ⟨u, eu, ru, rh2, Stp.refl⟩
    · exact q1.elim⟩
/-- range(n), range(a, b) -/
def rngU (lo : Int) (n : Nat) : List U := (List.range n).map fun (i : Nat) => U.int (lo + (i : Int))
def iRng1 (ta : DA) (s : SU) (h : HU) (R : List U → (HU → Prop) → HU → Prop) : Prop := ta s h fun us h1 => match us with
  | [.int j] => -(2 ^ 62) ≤ j ∧ j < 2 ^ 62 ∧ R (rngU 0 j.toNat) (fun _ => True) h1
  | _ => False
def iRng2 (ta : DA) (s : SU) (h : HU) (R : List U → (HU → Prop) → HU → Prop) : Prop := ta s h fun us h1 => match us with
  | [.int i, .int j] => (-(2 ^ 62) ≤ i ∧ i < 2 ^ 62 ∧ -(2 ^ 62) ≤ j ∧ j < 2 ^ 62) ∧ R (rngU i (j - i).toNat) (fun _ => True) h1
  | _ => False
theorem rng_len (lo : Int) (n : Nat) : (rngU lo n).length = n := by
  unfold rngU
  rw [List.length_map, List.length_range]
theorem rng_get (lo : Int) (n i : Nat) (h : i < n) : (rngU lo n)[i]? = some (.int (lo + i)) := by
  unfold rngU
  rw [List.getElem?_map, List.getElem?_range h]
  rfl
theorem walk_rng {K : PySem.W.Frag} {H0 : Hp} {lo : Int} {n : Nat} {keep : HU → Prop} : WalkU K T H0 (Itr lo n) (rngU lo n) keep :=
  ⟨fun i H2 h2 tm rh2 kp lt => by rw [rng_len] at lt; exact lt, fun H2 h2 tm rh2 kp => by rw [rng_len]; exact Nat.le_refl n, fun i H2 h2 x H3 tm rh2 kp lt y => by
    rw [rng_len] at lt
    obtain ⟨e1, e2⟩ := y
    subst e1
    subst e2
    exact ⟨_, rng_get lo n i lt, rfl, rh2, Stp.refl⟩⟩
theorem d_iRng1 {tg a : Expr} {ta : DA} {p : Pos} (hg : Gl X "range") (hm : X.mg "range" = none) (ha : PDA X T [a] ta) (hs : starEach [a] X.env = [(false, eval a X.env)] := by rfl) : PDI X T tg (.Call (.Name "range" p) [a] [] pos) (iRng1 ta) :=
  PI.weak (pi_range1 hg hm ha hs) fun σ H R ⟨s, h, r, rs, rh, hr, k⟩ => ⟨s, h, _, rs, rh, hr, fun us h1 vs H1 q1 r1 rh1 st1 => by
    split at q1
    · rename_i j
      obtain ⟨v, rfl, r2⟩ := ru1 r1
      cases (show v = V.int j from r2)
      exact ⟨j, rfl, q1.1, q1.2.1, k _ _ h1 _ H1 q1.2.2 rh1 st1 walk_rng⟩
    · exact q1.elim⟩
theorem d_iRng2 {tg a b : Expr} {ta : DA} {p : Pos} (hg : Gl X "range") (hm : X.mg "range" = none) (ha : PDA X T [a, b] ta) (hs : starEach [a, b] X.env = [(false, eval a X.env), (false, eval b X.env)] := by rfl) (hs2 : starEach [b] X.env = [(false, eval b X.env)] := by rfl) :
    PDI X T tg (.Call (.Name "range" p) [a, b] [] pos) (iRng2 ta) :=
  PI.weak (pi_range2 hg hm ha hs hs2) fun σ H R ⟨s, h, r, rs, rh, hr, k⟩ => ⟨s, h, _, rs, rh, hr, fun us h1 vs H1 q1 r1 rh1 st1 => by
    split at q1
    · rename_i i j
      obtain ⟨v, w, rfl, r2, r3⟩ := ru2 r1
      cases (show v = V.int i from r2)
      cases (show w = V.int j from r3)
      exact ⟨i, j, rfl, q1.1, k _ _ h1 _ H1 q1.2 rh1 st1 walk_rng⟩
    · exact q1.elim⟩
/-- the signs of a text -/
def signsU (z : Str) : List U := z.cps.toList.map fun c => U.str ⟨#[c]⟩
def iTxt (te : DE) (s : SU) (h : HU) (R : List U → (HU → Prop) → HU → Prop) : Prop := te s h fun u h1 => match u with
  | .str z => R (signsU z) (fun _ => True) h1
  | _ => False
theorem d_iTxt {tg l : Expr} {te : DE} (hl : PD X T l te) : PDI X T tg l (iTxt te) := PI.weak (pi_str hl) fun σ H R ⟨s, h, r, rs, rh, hr, k⟩ =>
  ⟨s, h, _, rs, rh, hr, fun u h1 v H1 q1 r1 rh1 st1 => by
    split at q1
    · rename_i z
      cases (show v = V.str z from r1)
      have hl : (signsU z).length = z.cps.size := by
        unfold signsU
        rw [List.length_map, Array.length_toList]
      refine ⟨z, rfl, k (signsU z) _ h1 _ H1 q1 rh1 st1 ⟨fun i H2 h2 tm rh2 kp lt => ?_, fun H2 h2 tm rh2 kp => ?_, fun i H2 h2 x H3 tm rh2 kp lt y => ?_⟩⟩
      · rw [hl] at lt
        exact walk_str.goes i H2 lt True.intro
      · rw [hl]
        exact walk_str.stops H2 True.intro
      · rw [hl] at lt
        obtain ⟨rfl, c, ec, rfl⟩ := walk_str.yields i H2 x H3 lt True.intro y
        refine ⟨.str ⟨#[c]⟩, ?_, rfl, rh2, Stp.refl⟩
        unfold signsU
        rw [List.getElem?_map, Array.getElem?_toList, ec]
        rfl
    · exact q1.elim⟩

/-! ### comprehensions -/
def wipeU (s : SU) : List Nat → SU
  | [] => s
  | v :: vs => (wipeU s vs).set v none
theorem RS.wipe {K : PySem.W.Frag} {H : Hp} {s : SU} {σ : L2.St} (r : RS K H s σ) : ∀ vs : List Nat, RS K H (wipeU s vs) (wipe σ vs)
  | [] => r
  | v :: vs => (RS.wipe r vs).unset v
abbrev PDTs (X : Cx) (T : ZC) (ifs : List Expr) (t : DT) : Prop := PTs X ifs (LT X.K T t)
theorem PTs.weak {ifs : List Expr} {t t' : TT} (h : PTs X ifs t) (w : ∀ σ H Q, t' σ H Q → t σ H Q) : PTs X ifs t' := ⟨fun pins s σ H Q I q => h.run pins s σ H Q I (w σ H Q q)⟩
def dYes (s : SU) (h : HU) (Q : Bool → HU → Prop) : Prop := Q true h
theorem d_tests0 : PDTs X T [] dYes := PTs.weak pts_nil fun σ H Q ⟨s, h, q, rs, rh, hq, k⟩ => k true h H hq rh Stp.refl
theorem d_tests1 {c : Expr} {t : DT} (p : PDT X T c t) : PDTs X T [c] t := pts_one p
def WkH (P : HU → Prop) (h : HU) : Prop := ∃ h', Sub h' h ∧ P h'
theorem WkH.of {P : HU → Prop} {h : HU} (q : P h) : WkH P h := ⟨h, Sub.refl h, q⟩
/-- the new list is made of what the element comes to; the slots is are the target's -/
def dLc (wi : DI) (gs : U → SU → HU → (SU → HU → Prop) → Prop) (tt : DT) (te : DE) (vs : List Nat) (s : SU) (h : HU) (Q : DV) : Prop := wi s h fun us keep h1 => ∃ Pv : Nat → List U → HU → Prop, us.length < sizeLine ∧ Pv 0 [] h1 ∧ (∀ i acc h, i ≤ us.length → Pv i acc h → keep h) ∧
  (∀ i u acc h, us[i]? = some u → Pv i acc h → gs u (wipeU s vs) h fun s2 h2 => tt s2 h2 fun b h3 => (b = true → te s2 h3 fun y h4 => WkH (Pv (i + 1) (acc ++ [y])) h4) ∧ (b = false → WkH (Pv (i + 1) acc) h3)) ∧
  ∀ acc h, Pv us.length acc h → ∀ p, h p = none → Q (.ref p) (updU h p (.lst acc))
/-- targets of a comprehension: a name; a tuple of names -/
structure CompTg (K : PySem.W.Frag) (T : ZC) (g : TG) (gs : DG) (vs : List Nat) : Prop where
  go : ∀ (v : V) (u : U) (s : SU) (h : HU) (q : SU → HU → Prop) (σ : L2.St) (H : Hp) (Q : L2.St → Hp → Prop), RU K H u v → RS K H (wipeU s vs) (wipe σ vs) → gs u (wipeU s vs) h q → (∀ s' σ', q s' h → RS K H s' σ' → wipe σ' vs = wipe σ vs → Q σ' H) → g v (wipe σ vs) H Q
theorem wipe_set {σ : L2.St} {v : Nat} {x : Option V} : ∀ {vs : List Nat}, v ∈ vs → wipe ((σ).set v x) vs = wipe σ vs
  | [], h => nomatch h
  | w :: vs, h => by
    show (wipe (σ.set v x) vs).set w none = (wipe σ vs).set w none
    by_cases e : v = w
    · subst e
      by_cases e2 : v ∈ vs
      · rw [wipe_set e2]
      · have q : ∀ (l : List Nat) (τ : L2.St) (y : Option V), v ∉ l → wipe (τ.set v y) l = (wipe τ l).set v y := by
          intro l
          induction l with
          | nil => intro τ y _; rfl
          | cons a l ih =>
            intro τ y hn
            show (wipe (τ.set v y) l).set a none = ((wipe τ l).set a none).set v y
            rw [ih τ y (fun z => hn (List.mem_cons_of_mem _ z)), List.set_comm _ _ (fun z => hn (by rw [z]; exact List.mem_cons_self))]
        rw [q vs σ x e2, List.set_set]
    · rw [wipe_set (by
        rcases List.mem_cons.mp h with z | z
        · exact absurd z e
        · exact z)]
theorem wipe_wipe {σ : L2.St} (vs : List Nat) : wipe (wipe σ vs) vs = wipe σ vs := by
  have q : ∀ (l : List Nat) (τ : L2.St), (∀ v ∈ l, v ∈ vs) → wipe (wipe τ l) vs = wipe τ vs := by
    intro l
    induction l with
    | nil => intro τ _; rfl
    | cons a l ih =>
      intro τ hl
      show wipe ((wipe τ l).set a none) vs = wipe τ vs
      rw [wipe_set (hl a List.mem_cons_self), ih τ (fun v hv => hl v (List.mem_cons_of_mem _ hv))]
  exact q vs σ (fun _ h => h)
theorem tg_name {K : PySem.W.Frag} {j : Nat} {vs : List Nat} (hj : j ∈ vs) : CompTg K T (gName j) (gNm j) vs := ⟨fun v u s h q σ H Q ru rs hq k => by
  refine k _ _ hq (rs.set j ru) ?_
  rw [wipe_set hj, wipe_wipe]⟩
theorem gVs_wipe {K : PySem.W.Frag} {wv : List Nat} : ∀ (is : List Nat) (us : List U) (vs : List V) (s : SU) (h : HU) (q : SU → HU → Prop) (σ : L2.St) (H : Hp) (Q : L2.St → Hp → Prop), (∀ i ∈ is, i ∈ wv) → RUs K H us vs → RS K H s σ → gNms is us s h q → (∀ s' σ', q s' h → RS K H s' σ' → wipe σ' wv = wipe σ wv → Q σ' H) → gVs is vs σ H Q
  | [], [], vs, s, h, q, σ, H, Q, _, ru, rs, hq, k => by
    cases (show vs = [] from ru)
    exact ⟨rfl, k s σ hq rs rfl⟩
  | i :: is, u :: us, vs, s, h, q, σ, H, Q, hi, ru, rs, hq, k => by
    obtain ⟨v, w, rfl, r1, r2⟩ := ru.uncons
    exact ⟨v, w, rfl, gVs_wipe is us w _ h q _ H Q (fun j hj => hi j (List.mem_cons_of_mem _ hj)) r2 (rs.set i r1) hq fun s' σ' q' r' e => k s' σ' q' r' (by rw [e, wipe_set (hi i List.mem_cons_self)])⟩
  | [], _ :: _, _, _, _, _, _, _, _, _, _, _, hq, _ => hq.elim
  | _ :: _, [], _, _, _, _, _, _, _, _, _, _, hq, _ => hq.elim
theorem tg_tup {K : PySem.W.Frag} {is vs : List Nat} {n : Nat} (hj : ∀ i ∈ is, i ∈ vs) (hn : is.length = n) : CompTg K T (gTup K n (gVs is)) (gUnp is) vs := ⟨fun v u s h q σ H Q ru rs hq k => by
  unfold gUnp at hq
  split at hq
  · rename_i us
    obtain ⟨a, ws, rfl, t, rr⟩ := ru_tup ru
    exact ⟨a, ws, rfl, SqT.of t, by rw [rr.length, gNms_len _ _ _ _ _ hq, hn], gVs_wipe is us ws _ h q _ H Q hj rr rs hq fun s' σ' q' r' e => k s' σ' q' r' (by rw [e, wipe_wipe])⟩
  · exact hq.elim⟩
theorem lc_go {wi : DI} {g : TG} {gs : DG} {tt : DT} {te : DE} {vs : List Nat} (cg : CompTg X.K T g gs vs) {σ : L2.St} {H : Hp} {Q : VK} (q : LE X.K T (dLc wi gs tt te vs) σ H Q) : tLc (LI X.K T wi) g (LT X.K T tt) (LE X.K T te) vs σ H Q := by
  obtain ⟨s, h, q, rs, rh, hq, k⟩ := q
  refine ⟨s, h, _, rs, rh, hq, fun us keep h1 J H1 q1 rh1 st1 wk D nD => ?_⟩
  obtain ⟨Pv, lz, p0, pk, ps, pd⟩ := q1
  refine ⟨fun i m H' => m = us.length - i ∧ i ≤ us.length ∧ ∃ acc ws h', RH X.K T h' H' ∧ Stp X.K H1 h1 H' h' ∧ H' D = some (.lst ws) ∧ h' D = none ∧ RUs X.K H' acc ws ∧ acc.length ≤ i ∧ Pv i acc h', ⟨us.length, by simp, Nat.zero_le _, [], [], h1, rh1.skip nD, Stp.skip nD, upd_same, rh1.free nD, rfl, Nat.le_refl _, p0⟩, ?_⟩
  rintro i m H2 ⟨rfl, hi, acc, ws, h2, rh2, st2, eD, nD2, ra, la, p2⟩
  have kp := pk i acc h2 hi p2
  by_cases hlt : i < us.length
  · refine .inr ⟨wk.goes i H2 h2 st2.tm rh2 kp hlt, fun H' => ∃ acc ws h', RH X.K T h' H' ∧ Stp X.K H1 h1 H' h' ∧ H' D = some (.lst ws) ∧ h' D = none ∧ RUs X.K H' acc ws ∧ acc.length ≤ i + 1 ∧ Pv (i + 1) acc h', fun H' z => ⟨us.length - (i + 1), by omega, rfl, hlt, z⟩, fun x H3 y => ?_⟩
    obtain ⟨u, eu, ru, rh3, st3⟩ := wk.yields i H2 h2 x H3 st2.tm rh2 kp hlt y
    have nt : ∀ zs ps, HO.lst zs ≠ .tbl ps := fun zs ps z => nomatch z
    refine cg.go x u s h2 _ σ H3 _ ru ((rs.mono (st1.trans (st2.trans st3)).tm).wipe vs) (ps i u acc h2 eu p2) fun s4 σ4 q4 rs4 ew => ⟨ew, ?_⟩
    refine ⟨s4, h2, _, rs4, rh3, q4, fun b h5 H5 q5 rh5 st5 => ?_⟩
    have eD5 : H5 D = some (.lst ws) := st5.rest D _ (st3.rest D _ eD (nt ws) nD2) (nt ws) nD2
    have nD5 : h5 D = none := st5.own D (by rw [st3.rest D _ eD (nt ws) nD2]; exact fun z => nomatch z) nD2
    cases b with
    | true =>
      refine ⟨s4, h5, _, rs4.mono st5.tm, rh5, q5.1 rfl, fun y h6 v6 H6 q6 r6 rh6 st6 => ?_⟩
      have eD6 : H6 D = some (.lst ws) := st6.rest D _ eD5 (nt ws) nD5
      have nD6 : h6 D = none := st6.own D (by rw [eD5]; exact fun z => nomatch z) nD5
      have rw6 : RUs X.K H6 acc ws := RUs.mono (st3.tm.trans (st5.tm.trans st6.tm)) _ _ ra
      refine ⟨ws, eD6, by rw [rw6.length]; omega, ?_⟩
      obtain ⟨h7, sb, p7⟩ := q6
      have sf : Soft (H6 D) := by
        rw [eD6]
        trivial
      have tm7 : TM X.K H6 (upd H6 D (.lst (ws ++ [v6]))) := TM.upd sf
      have rh7 : RH X.K T h7 (upd H6 D (.lst (ws ++ [v6]))) := by
        have rb := rh6.sub sb
        refine ⟨fun a o e => ?_, fun z hz => TabN.upd (rb.tab z hz) sf, ⟨rb.st0.tm.trans tm7, rb.st0.own, fun a o e n z => ?_⟩⟩
        · obtain ⟨ho, e1, r1⟩ := rb.obj a o e
          have na : a ≠ D := fun z => by
            rw [z, sb.none nD6] at e
            cases e
          exact ⟨ho, by rw [upd_ne na]; exact e1, r1.mono tm7⟩
        · have na : a ≠ D := fun z' => by
            have l0 := rh1.st0.tm.live a (by rw [e]; exact fun q => nomatch q)
            rw [z', nD] at l0
            exact l0 rfl
          rw [upd_ne na]
          exact rb.st0.rest a o e n z
      have stA : Stp X.K H1 h1 H6 h7 := (st2.trans (st3.trans (st5.trans st6))).less sb
      refine ⟨acc ++ [y], ws ++ [v6], h7, rh7, ?_, upd_same, sb.none nD6, RUs.mono tm7 _ _ (rw6.append (.cons r6 .nil)), by rw [List.length_append]; simp; omega, p7⟩
      exact ⟨stA.tm.trans tm7, stA.own, fun a o e n z => by
        have na : a ≠ D := fun z' => by
          rw [z', nD] at e
          cases e
        rw [upd_ne na]
        exact stA.rest a o e n z⟩
    | false =>
      obtain ⟨h7, sb, p7⟩ := q5.2 rfl
      exact ⟨acc, ws, h7, rh5.sub sb, (st2.trans (st3.trans st5)).less sb, eD5, sb.none nD5, RUs.mono (st3.tm.trans st5.tm) _ _ ra, by omega, p7⟩
  · have e : i = us.length := by omega
    subst e
    refine .inl ⟨wk.stops H2 h2 st2.tm rh2 kp, ?_⟩
    have rh3 : RH X.K T (updU h2 D (.lst acc)) H2 := ⟨fun a o e => by
      by_cases z : a = D
      · subst z
        rw [updU_same] at e
        cases e
        exact ⟨_, eD, ws, rfl, ra⟩
      · rw [updU_ne z] at e
        exact rh2.obj a o e, rh2.tab, ⟨rh2.st0.tm, fun a l e => by
      have l0 := rh1.st0.tm.live a l
      rw [updU_ne (fun z => l0 (by rw [z]; exact nD))]
      exact rh2.st0.own a l e, rh2.st0.rest⟩⟩
    refine k (.ref D) _ (.ref D) H2 (pd acc h2 p2 D nD2) rfl rh3 (st1.trans ⟨st2.tm, fun a l e => ?_, st2.rest⟩)
    rw [updU_ne (fun z => l (by rw [z]; exact nD))]
    exact st2.own a l e
abbrev BlkPG (X : Cx) (scope : Scope) (tg : Expr) (g : TG) : Prop := ∀ (s : Shared) (H : Hp) (C : Addr) (cl : List (Str × Addr)) (fp : List Addr), PG (X.blk s H scope (compEnvC scope cl C X.env) fp) tg g
theorem d_lc {elt tg iter : Expr} {ifs : List Expr} {scope : Scope} {own : List (Str × Nat)} {pos : Pos} {wi : DI} {g : TG} {gs : DG} {tt : DT} {te : DE} (hc : X.calm = true) (hN : X.N.Nodup) (cg : CompTg X.K T g gs (own.map (·.2))) (hi : PDI X T tg iter wi) (ok : BlkOk X.N X.env.scope scope own)
    (hg : BlkPG X scope tg g) (ht : ∀ (s : Shared) (H : Hp) (C : Addr) (cl : List (Str × Addr)) (fp : List Addr), PDTs (X.blk s H scope (compEnvC scope cl C X.env) fp) T ifs tt)
    (he : ∀ (s : Shared) (H : Hp) (C : Addr) (cl : List (Str × Addr)) (fp : List Addr), PD (X.blk s H scope (compEnvC scope cl C X.env) fp) T elt te) (hs : ∀ x, foldedSetIterable iter X.env x = pure x := by intro _; rfl) :
    PD X T (.ListComp elt [⟨tg, iter, ifs, 0⟩] scope pos) (dLc wi gs tt te (own.map (·.2))) := PE.weak (pe_lc hc hN hi ok hg ht he hs) fun σ H Q q => lc_go cg q
theorem d_setLc {i : Nat} {y : Str} {py : Pos} {elt tg iter : Expr} {ifs : List Expr} {scope : Scope} {own : List (Str × Nat)} {pos spos : Pos} {wi : DI} {g : TG} {gs : DG} {tt : DT} {te : DE} (hc : X.calm = true) (hN : X.N.Nodup) (hy : X.N[i]? = some y) (hyl : X.env.scope.names.lookup y = some .local)
    (hsw : swapsWith (.ListComp elt [⟨tg, iter, ifs, 0⟩] scope pos) (some (.Name y py)) spos.line X.env = pure true) (cg : CompTg X.K T g gs (own.map (·.2))) (hi : PDI X T tg iter wi) (ok : BlkOk X.N X.env.scope scope own)
    (hg : BlkPG X scope tg g) (ht : ∀ (s : Shared) (H : Hp) (C : Addr) (cl : List (Str × Addr)) (fp : List Addr), PDTs (X.blk s H scope (compEnvC scope cl C X.env) fp) T ifs tt)
    (he : ∀ (s : Shared) (H : Hp) (C : Addr) (cl : List (Str × Addr)) (fp : List Addr), PD (X.blk s H scope (compEnvC scope cl C X.env) fp) T elt te) (hs : ∀ x, foldedSetIterable iter X.env x = pure x := by intro _; rfl) :
    PDS X T (.Assign [.Name y py] (.ListComp elt [⟨tg, iter, ifs, 0⟩] scope pos) spos) (dAsg (dLc wi gs tt te (own.map (·.2))) (gNm i)) := PS.weak (ps_setLc hc hN hy hyl hsw hi ok hg ht he hs) fun D σ H ⟨s, h, E, rs, rh, hq, l⟩ =>
  lc_go cg ⟨s, h, _, rs, rh, hq, fun u h1 v H1 q1 r1 rh1 st1 => l.nx _ h1 _ H1 q1 ((rs.mono st1.tm).set i r1) rh1 st1⟩
end
end DL

set_option Elab.async false
set_option linter.all false
set_option maxRecDepth 100000
set_option maxHeartbeats 2000000
/-! The data layer: defs and their promises, defs within defs and their calls. -/
namespace DL
open PySem L2 NdefX LamX

abbrev DXK := Value → Option Addr → HU → Prop
/-- a plain promise; a made function's; one of a def that is handed made functions -/
abbrev DP := List U → HU → DV → DXK → Prop
abbrev DFp := List U → HU → DV → Prop
abbrev DSp := (NF → DFp → Prop) → List U → HU → DV → DXK → Prop
structure Ev where
  P : Program
  w : World
  K : PySem.W.Frag
  mg : Str → Option Value
  tb : List NTab
abbrev Cxev (X : Cx) (T : ZC) : Ev := ⟨X.prog, X.w, X.K, X.mg, T.tabs⟩
/-- what captured cells hold -/
def RW (K : PySem.W.Frag) (H : Hp) : List (Option U) → List (Option V) → Prop
  | [], vs => vs = []
  | u :: us, vs => ∃ v r, vs = v :: r ∧ (∀ x, u = some x → ∃ y, v = some y ∧ RU K H x y) ∧ RW K H us r
theorem RW.mono {K : PySem.W.Frag} {H H' : Hp} (t : TM K H H') : ∀ {us : List (Option U)} {vs : List (Option V)}, RW K H us vs → RW K H' us vs
  | [], _, h => h
  | u :: us, _, ⟨v, r, e, h1, h2⟩ => ⟨v, r, e, fun x z => by
    obtain ⟨y, e1, e2⟩ := h1 x z
    exact ⟨y, e1, RU.mono t _ _ e2⟩, RW.mono t h2⟩
theorem RW.length {K : PySem.W.Frag} {H : Hp} : ∀ {us : List (Option U)} {vs : List (Option V)}, RW K H us vs → vs.length = us.length
  | [], _, h => by
    cases (show _ = [] from h)
    rfl
  | u :: us, _, ⟨v, r, e, h1, h2⟩ => by
    rw [e, List.length_cons, List.length_cons, RW.length h2]
theorem RW.get {K : PySem.W.Frag} {H : Hp} : ∀ {us : List (Option U)} {vs : List (Option V)} {i : Nat} {u : U}, RW K H us vs → us[i]? = some (some u) → ∃ v, vs[i]? = some (some v) ∧ RU K H u v
  | [], _, _, _, _, e => by simp at e
  | u :: us, _, 0, w, ⟨v, r, rfl, h1, h2⟩, e => by
    obtain ⟨y, e1, e2⟩ := h1 w (by simpa using e)
    exact ⟨y, by simp [e1], e2⟩
  | u :: us, _, i + 1, w, ⟨v, r, rfl, h1, h2⟩, e => by
    obtain ⟨y, e1, e2⟩ := RW.get (i := i) h2 (by simpa using e)
    exact ⟨y, by simpa using e1, e2⟩
/-- nothing is lost of the end -/
def WkV (q : DV) (u : U) (h : HU) : Prop := ∃ h', Sub h' h ∧ q u h'
theorem WkV.of {q : DV} {u : U} {h : HU} (z : q u h) : WkV q u h := ⟨h, Sub.refl h, z⟩
def LPl (e : Ev) (sp : DP) : Sp := fun vs H Q E => ∃ us h q x, RUs e.K H us vs ∧ RH e.K ⟨e.tb, H, h⟩ h H ∧ sp us h q x ∧
  (∀ u h' v H', q u h' → RU e.K H' u v → RH e.K ⟨e.tb, H, h⟩ h' H' → Q v H') ∧ ∀ c d h' H', x c d h' → RH e.K ⟨e.tb, H, h⟩ h' H' → E c d H'
def LF (e : Ev) (sp : List (Option U) → DFp) : List (Option V) → Sp := fun ws vs H Q _ => ∃ cs us h q, RW e.K H cs ws ∧ RUs e.K H us vs ∧ RH e.K ⟨e.tb, H, h⟩ h H ∧ sp cs us h q ∧
  ∀ u h' v H', q u h' → RU e.K H' u v → RH e.K ⟨e.tb, H, h⟩ h' H' → Q v H'
/-- the captured cells stand in the base -/
structure CellsB (base : Heap) (cl : List (Str × Addr)) (fr : List Str) (ws : List (Option V)) : Prop where
  len : ws.length = fr.length
  all : ∀ y c, cl.lookup y = some c → ∃ v, base.IsCell c v
  inj : ∀ x y c, cl.lookup x = some c → cl.lookup y = some c → x = y
  has : ∀ (i : Nat) (y : Str), fr[i]? = some y → ∃ c, cl.lookup y = some c ∧ ∀ v, ws[i]? = some (some v) → ∃ u, L2.RelV v u ∧ base.IsCell c (some u)
theorem CellsB.at {base h : Heap} {H : Hp} {cl : List (Str × Addr)} {fr : List Str} {ws : List (Option V)} (c : CellsB base cl fr ws) (k : ∀ b o, base.get? b = some o → h.get? b = some o ∧ H b = none) : CellsAt cl fr ws h H :=
  ⟨c.len, fun y a e => by
    obtain ⟨v, o, ho, hd⟩ := c.all y a e
    exact ⟨(k _ _ ho).2, v, o, (k _ _ ho).1, hd⟩, c.inj, fun i y e => by
    obtain ⟨a, e1, e2⟩ := c.has i y e
    refine ⟨a, e1, fun v ev => ?_⟩
    obtain ⟨u, ru, o, ho, hd⟩ := e2 v ev
    exact ⟨u, ru, o, (k _ _ ho).1, hd⟩⟩
theorem CellsB.grow {base base' : Heap} {cl : List (Str × Addr)} {fr : List Str} {ws : List (Option V)} (c : CellsB base cl fr ws) (k : ∀ b o, base.get? b = some o → base'.get? b = some o) : CellsB base' cl fr ws :=
  ⟨c.len, fun y a e => by
    obtain ⟨v, o, ho, hd⟩ := c.all y a e
    exact ⟨v, o, k _ _ ho, hd⟩, c.inj, fun i y e => by
    obtain ⟨a, e1, e2⟩ := c.has i y e
    refine ⟨a, e1, fun v ev => ?_⟩
    obtain ⟨u, ru, o, ho, hd⟩ := e2 v ev
    exact ⟨u, ru, o, k _ _ ho, hd⟩⟩
abbrev Grown (base base' : Heap) : Prop := ∀ b o, base.get? b = some o → base'.get? b = some o
/-- a made function that may be called: what it promises -/
def Callable (e : Ev) (base : Heap) (k : Nat) (H : Hp) (F : NF) (s : DFp) : Prop := ∃ (ps fr : List Str) (ws : List (Option V)) (cs : List (Option U)) (sp : List (Option U) → DFp),
  (∀ base' f, Grown base base' → NOk e.P e.w e.K e.mg base' CX0 k f F ps fr (LF e sp)) ∧ CellsB base F.cl fr ws ∧ RW e.K H cs ws ∧ ∀ us h q, s us h q → sp cs us h q
theorem Callable.later {e : Ev} {base base' : Heap} {k : Nat} {H H' : Hp} {F : NF} {s : DFp} (c : Callable e base k H F s) (g : Grown base base') (t : TM e.K H H') : Callable e base' k H' F s := by
  obtain ⟨ps, fr, ws, cs, sp, h1, h2, h3, h4⟩ := c
  exact ⟨ps, fr, ws, cs, sp, fun b f z => h1 b f (fun x o e => z x o (g x o e)), h2.grow g, h3.mono t, h4⟩
def LSp (e : Ev) (base : Heap) (k : Nat) (sp : DSp) : Sp := fun vs H Q E => ∃ us h q x, RUs e.K H us vs ∧ RH e.K ⟨e.tb, H, h⟩ h H ∧ sp (Callable e base k H) us h q x ∧
  (∀ u h' v H', q u h' → RU e.K H' u v → RH e.K ⟨e.tb, H, h⟩ h' H' → Q v H') ∧ ∀ c d h' H', x c d h' → RH e.K ⟨e.tb, H, h⟩ h' H' → E c d H'
def startU (N : List Str) (us : List U) : SU := us.map some ++ List.replicate (N.length - us.length) none
theorem rs_start {K : PySem.W.Frag} {H : Hp} {N : List Str} {us : List U} {vs : List V} (r : RUs K H us vs) : RS K H (startU N us) (L2.start N vs) := by
  have hl := r.length
  unfold startU L2.start
  refine ⟨by simp [hl], fun i u e => ?_⟩
  by_cases h : i < us.length
  · rw [List.getElem?_append_left (by simpa using h), List.getElem?_map] at e
    obtain ⟨w, e1, e2⟩ := Option.map_eq_some_iff.mp e
    cases e2
    obtain ⟨v, e3, r3⟩ := r.get e1
    exact ⟨v, by rw [List.getElem?_append_left (by rw [List.length_map]; omega), List.getElem?_map, e3]; rfl, r3⟩
  · rw [List.getElem?_append_right (by simpa using h), List.getElem?_replicate] at e
    split at e <;> cases e
/-- a state that only less is told of -/
theorem rh_from {K : PySem.W.Frag} {T : ZC} {h h1 : HU} {H : Hp} {H1 : Hp} {tb : List NTab} (rh : RH K T h H) (e : tb = T.tabs) : RH K ⟨tb, H, h⟩ h H := ⟨rh.obj, e ▸ rh.tab, Stp.refl⟩
theorem rh_back {K : PySem.W.Frag} {T : ZC} {h h1 : HU} {H H1 : Hp} (rh : RH K T h H) (r1 : RH K ⟨T.tabs, H, h⟩ h1 H1) : RH K T h1 H1 := ⟨r1.obj, r1.tab, rh.st0.trans r1.st0⟩
section
variable {e : Ev} {base : Heap}
/-- THE RULE of a def (no exception leaves it) -/
theorem def_ok {x qual : Str} {st : Stmt} {f : Addr} {fd : FuncData} {N ps : List Str} {k : Nat} {sp : DP} (F : Fun e.K x qual st f fd) (S : FnScope N ps (defScope st)) (len : ∀ us h q y, sp us h q y → us.length = ps.length)
    (hbody : ∀ (cdv : Value) (A : Around) (outer : List Env) (s : Shared) (H : Hp) (h0 : HU) (E : XK), Room k (A.deeper (PyProof.Rows.envOfC qual (defScope st) s.heap.objs.size f cdv)) →
      ∃ t, PDSs (cxOf CX0 e.P e.w e.K e.mg base N qual (defScope st) f cdv A outer s H E).nox ⟨e.tb, H, h0⟩ (defBody st) t ∧ ∀ us q y, sp us h0 q y → t { nx := fun _ h' => WkV q .non h', rt := WkV q } (startU N us) h0) :
    FnOk e.P e.w e.K e.mg base CX0 (k + 1) f fd ps (LPl e sp) := by
  refine F.ok S (fun vs H Q E ⟨us, h, q, y, r, _, s, _⟩ => by rw [r.length]; exact len us h q y s) fun cdv A outer s H vs Q E hr ⟨us, h, q, y, ru, rh, hs, kq, ky⟩ => ?_
  obtain ⟨t, ht, hq⟩ := hbody cdv A outer s H h E hr
  refine ⟨_, ht, startU N us, h, _, rs_start ru, rh, hq us q y hs, ?_⟩
  refine ⟨fun s' h' σ' H' ⟨h1, sb, z⟩ _ r2 _ => kq .non h1 .non H' z rfl (r2.sub sb), fun u h' v H' ⟨h1, sb, z⟩ r1 r2 _ => kq u h1 v H' z r1 (r2.sub sb), fun _ _ _ _ z => z.elim, fun _ _ _ _ z => z.elim⟩
/-- .. handed made functions -/
theorem def_okC {x qual : Str} {st : Stmt} {f : Addr} {fd : FuncData} {N ps : List Str} {k kc : Nat} {sp : DSp} (F : Fun e.K x qual st f fd) (S : FnScope N ps (defScope st)) (len : ∀ C us h q y, sp C us h q y → us.length = ps.length)
    (hbody : ∀ (cdv : Value) (A : Around) (outer : List Env) (s : Shared) (H : Hp) (h0 : HU) (E : XK), Room k (A.deeper (PyProof.Rows.envOfC qual (defScope st) s.heap.objs.size f cdv)) →
      ∃ t, PDSs (cxOf CX0 e.P e.w e.K e.mg base N qual (defScope st) f cdv A outer s H E).nox ⟨e.tb, H, h0⟩ (defBody st) t ∧ ∀ us q y, sp (Callable e base kc H) us h0 q y → t { nx := fun _ h' => WkV q .non h', rt := WkV q } (startU N us) h0) :
    FnOk e.P e.w e.K e.mg base CX0 (k + 1) f fd ps (LSp e base kc sp) := by
  refine F.ok S (fun vs H Q E ⟨us, h, q, y, r, _, s, _⟩ => by rw [r.length]; exact len _ us h q y s) fun cdv A outer s H vs Q E hr ⟨us, h, q, y, ru, rh, hs, kq, ky⟩ => ?_
  obtain ⟨t, ht, hq⟩ := hbody cdv A outer s H h E hr
  refine ⟨_, ht, startU N us, h, _, rs_start ru, rh, hq us q y hs, ?_⟩
  refine ⟨fun s' h' σ' H' ⟨h1, sb, z⟩ _ r2 _ => kq .non h1 .non H' z rfl (r2.sub sb), fun u h' v H' ⟨h1, sb, z⟩ r1 r2 _ => kq u h1 v H' z r1 (r2.sub sb), fun _ _ _ _ z => z.elim, fun _ _ _ _ z => z.elim⟩
end

/-! ### calls -/
section
variable {X : Cx} {T : ZC} {CX : CXT}
/-- f(..), du the defaults that are left -/
def dCall (sp : DP) (du : List U) (x : DXK) (t : DA) (s : SU) (h : HU) (Q : DV) : Prop := t s h fun us h1 => sp (us ++ du) h1 Q x
/-- what is asked of the def's own way out -/
def XOk (X : Cx) (T : ZC) (E : XK) (x : DXK) : Prop := ∀ c d h' H', x c d h' → RH X.K T h' H' → E c d H'
abbrev x0 : DXK := fun _ _ _ => False
theorem xok0 : XOk X T E0 x0 := fun _ _ _ _ z => z.elim
theorem d_call {k : Nat} {f : Addr} {fd : FuncData} {ps : List Str} {sp : DP} {du : List U} {dvs : List V} {ds : List Value} {E : XK} {y : DXK} {x : Str} {p pos : Pos} {a : Expr} {es : List Expr} {t : DA}
    (F : FnOk X.prog X.w X.K X.mg X.base CX k f fd ps (LPl (Cxev X T) sp)) (hr : Room k X.A) (hg : Gl X x) (hm : X.mg x = some (.ref f)) (hk : PySem.W.keepIn X.K (.ref f) = true) (hb : Binds X.K fd ps ds) (hd : Vals dvs ds) (hu : ∀ H, RUs X.K H du dvs) (hx : Passes CX X E) (xo : XOk X T E y)
    (ha : PDA X T (a :: es) t) (hdb : (x == ("__debug__" : Str)) = false := by decide) (he : starEach (a :: es) X.env = (false, eval a X.env) :: starEach es X.env := by rfl) (hpl : (backTo pos (starEach es X.env)).any (·.1) = false := by rfl) :
    PD X T (.Call (.Name x p) (a :: es) [] pos) (dCall sp du y t) :=
  PE.weak (pe_call F hr hg hm hk hb hd hx ha hdb he hpl) fun σ H Q ⟨s, h, q, rs, rh, hq, k⟩ =>
    ⟨s, h, _, rs, rh, hq, fun us h1 vs H1 q1 r1 rh1 st1 => ⟨us ++ du, h1, q, y, r1.append (hu H1), rh_from (h1 := h1) (H1 := H1) rh1 rfl, q1, fun u h' v H' hu' ru rh' => k u h' v H' hu' ru (rh_back rh1 rh') (st1.trans rh'.st0), fun c d h' H' hx' rh' => xo c d h' H' hx' (rh_back rh1 rh')⟩⟩
theorem d_call0 {k : Nat} {f : Addr} {fd : FuncData} {ps : List Str} {sp : DP} {du : List U} {dvs : List V} {ds : List Value} {E : XK} {y : DXK} {x : Str} {p pos : Pos}
    (F : FnOk X.prog X.w X.K X.mg X.base CX k f fd ps (LPl (Cxev X T) sp)) (hr : Room k X.A) (hg : Gl X x) (hm : X.mg x = some (.ref f)) (hk : PySem.W.keepIn X.K (.ref f) = true) (hb : Binds X.K fd ps ds) (hd : Vals dvs ds) (hu : ∀ H, RUs X.K H du dvs) (hx : Passes CX X E) (xo : XOk X T E y)
    (hdb : (x == ("__debug__" : Str)) = false := by decide) :
    PD X T (.Call (.Name x p) [] [] pos) (dCall sp du y dNil) :=
  PE.weak (pe_call0 F hr hg hm hk hb hd hx hdb) fun σ H Q ⟨s, h, q, rs, rh, hq, k⟩ =>
    ⟨[] ++ du, h, q, y, by simpa using hu H, rh_from (h1 := h) (H1 := H) rh rfl, hq, fun u h' v H' hu' ru rh' => k u h' v H' hu' ru (rh_back rh rh') rh'.st0, fun c d h' H' hx' rh' => xo c d h' H' hx' (rh_back rh rh')⟩

/-! ### a def within a def -/
def dNdef (i : Nat) (mk : Addr → NF) (D : DEnds) (s : SU) (h : HU) : Prop := ∀ c, D.nx (s.set i (some (.clo (mk c)))) h
theorem d_ndef {st : Stmt} {nm : Nat → Nat → Str} {c P : Addr} {name : Str} {pos : Pos} {i : Nat} (hst : st = .FunctionDef name (C8.fnArgs st) (C8.fnBody st) [] none [] (C8.fnScope st) none name pos) (TB : TabB X.base X.mg c P) (hcode : X.env.code = .ref c) (hm : (P, nm) ∈ T.tabs) (hn : nm pos.line pos.col = X.env.qual ++ name)
    (hu : ∀ p ∈ T.tabs, p.1 = P → p.2 = nm) (hfree : ∀ y ∈ (C8.fnScope st).names, y.2 = .free → X.env.scope.names.lookup y.1 = some .cell ∨ X.env.scope.names.lookup y.1 = some .free) (hd0 : (C8.fnArgs st).defaults = []) (hk0 : (C8.fnArgs st).kw_defaults = []) (ha : annTrees (C8.fnArgs st) none X.env = [])
    (hN : X.N.Nodup) (hi : X.N[i]? = some name) (hx : Loc X.env.scope name) (hf : X.fn name = true ∨ X.env.scope.names.lookup name = some .local) :
    PDS X T st (dNdef i (NF.of st name (X.env.qual ++ name) (cloFrom X.env.cells (C8.fnScope st).names []))) :=
  PS.weak (ps_ndefMS hst TB hcode hm hn hu hfree hd0 hk0 ha hN hi hx hf) fun D σ H ⟨s, h, E, rs, rh, hq, l⟩ => ⟨rh.tab, fun f c' H1 ex lv tb1 nf hf hc => by
    have tm : TM X.K H H1 := ⟨fun a vs e => ex a _ e (fun ps z => nomatch z), fun g F e => ex g _ e (fnO_ne), fun c q e => ex c _ e (codeO_ne), fun a z z' => z (lv a z'), fun a ob o e => ex a _ e (fun ps z => nomatch z)⟩
    have st : Stp X.K H h H1 h := ⟨tm, fun _ _ e => e, fun a o e n _ => ex a o e n⟩
    have rh1 : RH X.K T h H1 := ⟨fun a o e => by
      obtain ⟨ho, e1, r1⟩ := rh.obj a o e
      exact ⟨ho, ex a ho e1 r1.notbl, r1.mono tm⟩, tb1, rh.st0.trans st⟩
    exact l.nx _ h _ H1 (hq c') ((rs.mono tm).set i (by unfold RU; exact ⟨f, rfl, hf, hc⟩)) rh1 st⟩
/-- its promise, by its body -/
def startFU (N : List Str) (us : List U) (cs : List (Option U)) : SU := us.map some ++ (cs ++ List.replicate (N.length - us.length - cs.length) none)
theorem rs_startF {K : PySem.W.Frag} {H : Hp} {N : List Str} {us : List U} {vs : List V} {cs : List (Option U)} {ws : List (Option V)} (r : RUs K H us vs) (q : RW K H cs ws) : RS K H (startFU N us cs) (startF N vs ws) := by
  have hl := r.length
  have hl2 := q.length
  unfold startFU startF
  refine ⟨by simp [hl, hl2], fun i u e => ?_⟩
  by_cases h : i < us.length
  · rw [List.getElem?_append_left (by simpa using h), List.getElem?_map] at e
    obtain ⟨w, e1, e2⟩ := Option.map_eq_some_iff.mp e
    cases e2
    obtain ⟨v, e3, r3⟩ := r.get e1
    exact ⟨v, by rw [List.getElem?_append_left (by rw [List.length_map]; omega), List.getElem?_map, e3]; rfl, r3⟩
  · rw [List.getElem?_append_right (by simpa using h), List.length_map] at e
    by_cases h2 : i - us.length < cs.length
    · rw [List.getElem?_append_left h2] at e
      obtain ⟨v, e1, r1⟩ := q.get e
      exact ⟨v, by rw [List.getElem?_append_right (by rw [List.length_map]; omega), List.length_map, List.getElem?_append_left (by omega), hl]; exact e1, r1⟩
    · rw [List.getElem?_append_right (by omega), List.getElem?_replicate] at e
      split at e <;> cases e
theorem ndef_ok {e : Ev} {base : Heap} {N ps fr : List Str} {F : NF} {f : Addr} {k : Nat} {sp : List (Option U) → DFp} (S : NScope N ps fr F.scope) (hb : ∀ (doc pm ctv : Value) (us : List Value), us.length = ps.length → bindArgs (F.fd doc pm ctv) ⟨us, []⟩ = pure (ps.zip us)) (len : ∀ cs us h q, sp cs us h q → us.length = ps.length)
    (hbody : ∀ (A : Around) (outer : List Env) (s : Shared) (H : Hp) (h0 : HU) (E : XK), Room k (A.deeper (envF F f s.heap.objs.size)) →
      ∃ t, PDSs (ncx CX0 e.P e.w e.K e.mg base N F f A outer s H E).nox ⟨e.tb, H, h0⟩ F.body t ∧ ∀ cs us q, sp cs us h0 q → t { nx := fun _ h' => WkV q .non h', rt := WkV q } (startFU N us cs) h0) :
    NOk e.P e.w e.K e.mg base CX0 (k + 1) f F ps fr (LF e sp) :=
  nok_of S hb (fun ws vs H Q E ⟨cs, us, h, q, _, r, _, s, _⟩ => by rw [r.length]; exact len cs us h q s) fun A outer s H vs ws Q E hr _ _ _ ⟨cs, us, h, q, rw', ru, rh, hs, kq⟩ => by
    obtain ⟨t, ht, hq⟩ := hbody A outer s H h E hr
    refine ⟨_, ht.nox, startFU N us cs, h, _, rs_startF ru rw', rh, hq cs us q hs, ?_⟩
    exact ⟨fun s' h' σ' H' ⟨h1, sb, z⟩ _ r2 _ => kq .non h1 .non H' z rfl (r2.sub sb), fun u h' v H' ⟨h1, sb, z⟩ r1 r2 _ => kq u h1 v H' z r1 (r2.sub sb), fun _ _ _ _ z => z.elim, fun _ _ _ _ z => z.elim⟩
end
end DL

set_option Elab.async false
set_option linter.all false
set_option maxRecDepth 100000
set_option maxHeartbeats 2000000
/-! The data layer: made functions handed on and called. -/
namespace DL
open PySem L2 NdefX LamX
section
variable {X : Cx} {T : ZC} {CX : CXT}
/-- f(..), f a name that holds a made function that was handed in -/
def dCallR (C : NF → DFp → Prop) (i : Nat) (t : DA) (s : SU) (h : HU) (Q : DV) : Prop := match slot s i with
  | some (.clo F) => t s h fun us h1 => ∃ sp, C F sp ∧ sp us h1 Q
  | _ => False
abbrev Recv (X : Cx) (T : ZC) (kc : Nat) : NF → DFp → Prop := Callable (Cxev X T) X.base kc T.h0
theorem d_callR {kc j i : Nat} {x : Str} {p pos : Pos} {a : Expr} {es : List Expr} {t : DA} (hr : Room j X.A) (hk : kc ≤ j) (hN : X.N[i]? = some x) (hv : Vis X.env.scope x) (ha : PDA X T (a :: es) t)
    (hd : (x == ("__debug__" : Str)) = false := by decide) (hcd : (x == ("__classdict__" : Str)) = false := by decide)
    (he : starEach (a :: es) X.env = (false, eval a X.env) :: starEach es X.env := by rfl) (hpl : (backTo pos (starEach es X.env)).any (·.1) = false := by rfl) :
    PD X T (.Call (.Name x p) (a :: es) [] pos) (dCallR (Recv X T kc) i t) := by
  refine ⟨fun pins s σ H Q I ⟨su, h, q, rs, rh, hq, k⟩ => ?_⟩
  unfold dCallR at hq
  split at hq
  · rename_i F ei
    obtain ⟨v, ev, rv⟩ := rs.all i _ (slot_get su i _ ei)
    unfold RU at rv
    obtain ⟨f, rfl, hf, hc⟩ := rv
    have named := (pe_var (X := X) (pos := p) hN hv hd hcd).run pins s σ H (fun v H1 => v = V.ref f ∧ H1 = H) I ⟨V.ref f, ev, rfl, rfl⟩
    refine wpAny_Call_Name_kw (thn named fun u s1 got => ?_)
    obtain ⟨w, H1, I1, r1, e1, e2⟩ := got
    subst e1
    subst e2
    cases (show u = Value.ref f from r1)
    refine PySem.W.callWith_F (first := []) (fnAt_of I1 hf) (thn (ha.run pos pins s1 σ H1 (fun vs H' => ∃ us h', (∃ sp, Recv X T kc F sp ∧ sp us h' q) ∧ RUs X.K H' us vs ∧ RH X.K T h' H' ∧ Stp X.K H1 h H' h') I1 ⟨su, h, _, rs, rh, hq, fun us h' vs H' z1 z2 z3 z4 => ⟨us, h', z1, z2, z3, z4⟩⟩) fun us s2 got2 => ?_) he hpl
    obtain ⟨vs, H2, I2, r, us', h2, ⟨sp, cl, hsp⟩, z2, z3, z4⟩ := got2
    have hf2 := z4.tm.fn _ _ hf
    refine ⟨fnAt_of I2 hf2, ?_⟩
    show wpAny _ _ (call (.ref f) us) _ _ _
    obtain ⟨ps, fr, ws, cs, sp2, c1, c2, c3, c4⟩ := cl
    have run := (c1 X.base f (fun _ _ e => e)).run X.A X.stack s2 H2 us vs ws Q (fun _ _ _ => False) (hr.mono hk) I2.env0 hf2 (z4.tm.code _ _ hc) (c2.at I2.bs) r
      ⟨cs, us', h2, q, c3.mono z3.st0.tm, z2, rh_from (h1 := h2) (H1 := H2) z3 rfl, c4 _ _ _ hsp, fun u h' v H' hu ru rh' => k u h' v H' hu ru (rh_back z3 rh') (z4.trans rh'.st0)⟩
    refine wpAny_call (codeAny_mono run fun r s' hq => ?_)
    cases r with
    | error e => exact (show False from hq).elim
    | ok fl =>
      cases fl with
      | ret u => exact I2.after hq
      | next => exact (show False from hq).elim
      | brk => exact (show False from hq).elim
      | cont => exact (show False from hq).elim
  · exact hq.elim

/-! ### a def that is handed made functions -/
/-- the base and the running def's own cells -/
theorem with_cells {pins : List (Addr × Obj)} {σ : L2.St} {H : Hp} {s : Shared} (I : Inv X pins σ H s) (hfn : ∀ x, X.fn x = true) :
    ∃ base' : Heap, Grown X.base base' ∧ Env0 X.prog X.w X.K X.mg base' X.A X.stack s H ∧ ∀ y c o, X.env.cells.lookup y = some c → s.heap.get? c = some o → base'.get? c = some o := by
  let keep : Addr → Bool := fun b => (X.base.get? b).isSome || X.env.cells.any fun p => X.env.cells.lookup p.1 == some b && p.2 == b
  let l := (List.range s.heap.objs.size).filter fun b => !keep b
  have ml : ∀ b, b ∈ l → keep b = false := fun b hb => by
    have z := (List.mem_filter.mp hb).2
    simpa using z
  let G := PySem.W.hideAll s.heap l
  have got : ∀ b o, G.get? b = some o → s.heap.get? b = some o ∧ keep b = true := fun b o e => by
    refine ⟨PySem.W.of_hideAll l e, ?_⟩
    cases q : keep b with
    | true => rfl
    | false =>
      have lt := Heap.lt_size (PySem.W.of_hideAll l e)
      have m : b ∈ l := List.mem_filter.mpr ⟨List.mem_range.mpr lt, by rw [q]; rfl⟩
      rw [show G.get? b = none from PySem.W.hideAll_none l m] at e
      cases e
  have put : ∀ b o, s.heap.get? b = some o → keep b = true → G.get? b = some o := fun b o e kb => PySem.W.hideAll_get l e fun m => by
    rw [ml b m] at kb
    cases kb
  have isCell : ∀ b, keep b = true → (X.base.get? b).isSome = true ∨ ∃ y, X.env.cells.lookup y = some b := fun b kb => by
    rcases Bool.or_eq_true_iff.mp kb with z | z
    · exact .inl z
    · obtain ⟨p, _, hp⟩ := List.any_eq_true.mp z
      rw [Bool.and_eq_true] at hp
      exact .inr ⟨p.1, by simpa using hp.1⟩
  have grown : Grown X.base G := fun b o e => put b o (I.bk b o e) (by
    show ((X.base.get? b).isSome || _) = true
    rw [e]
    rfl)
  refine ⟨G, grown, ?_, fun y c o e eo => put c o eo ?_⟩
  · refine ⟨I.ok.frames, ⟨I.ok.mod.kin.keeps grown, I.ok.mod.glob.keeps grown, ?_, I.ok.mod.nolimit.keeps grown⟩, fun b o e => ?_, by rw [show G.objs.size = s.heap.objs.size from PySem.W.hideAll_size _ _]; exact Nat.le_refl _, ?_, I.stkFree, I.hok, I.bare⟩
    · obtain ⟨mb, h1, h2⟩ := I.ok.mod.blt
      exact ⟨mb, h1.keeps grown, h2⟩
    · obtain ⟨e1, kb⟩ := got b o e
      refine ⟨e1, ?_⟩
      rcases isCell b kb with z | ⟨y, z⟩
      · obtain ⟨o', e'⟩ := Option.isSome_iff_exists.mp z
        exact (I.bs b o' e').2
      · exact I.freeC y b z
    · have fresh : ∀ L ∈ frs X.stack, G.get? L = none := fun L hL => by
        cases e : G.get? L with
        | none => rfl
        | some o =>
          obtain ⟨e1, kb⟩ := got L o e
          rcases isCell L kb with z | ⟨y, z⟩
          · have nb := (I.stack.mem hL).1
            rw [nb] at z
            cases z
          · rcases List.mem_cons.mp (I.stkSub L hL) with q | q
            · exact absurd q (I.cne y L z)
            · obtain ⟨_, o', eo, _⟩ := I.ok.funs.mem q
              exact absurd (Nat.lt_of_lt_of_le (Heap.lt_size eo) (I.ok.cab y L (hfn y) z)) (Nat.lt_irrefl _)
      have go : ∀ (fl : List Env), s.heap.FunFrames X.base fl → (∀ L ∈ frs fl, G.get? L = none) → s.heap.FunFrames G fl := by
        intro fl
        induction fl with
        | nil => intro _ _; trivial
        | cons env r ih =>
          intro hl hf
          obtain ⟨hk, ⟨L, o, ef, en, eo, ed⟩, hr⟩ := hl
          have hm : L ∈ frs (env :: r) := by
            unfold frs
            rw [List.filterMap_cons, ef]
            exact List.mem_cons_self
          refine ⟨hk, ⟨L, o, ef, hf L hm, eo, ed⟩, ih hr fun M hM => hf M ?_⟩
          unfold frs
          rw [List.filterMap_cons, ef]
          exact List.mem_cons_of_mem _ hM
      exact go X.stack I.stack fresh
  · show ((X.base.get? c).isSome || X.env.cells.any fun p => X.env.cells.lookup p.1 == some c && p.2 == c) = true
    rw [Bool.or_eq_true]
    right
    have m := PySem.mem_of_lookup e
    refine List.any_eq_true.mpr ⟨(y, c), m, ?_⟩
    simp [e]
/-- a function that the running def makes: its words, where what it captures stands, its promise -/
structure Own (X : Cx) (T : ZC) (kc : Nat) where
  make : Addr → NF
  ps : List Str
  fr : List Str
  js : List Nat
  cl : List (Str × Addr)
  sp : List (Option U) → DFp
  ok : ∀ base' f c, Grown X.base base' → NOk X.prog X.w X.K X.mg base' CX0 kc f (make c) ps fr (LF (Cxev X T) sp)
  hcl : ∀ c, (make c).cl = cl
  cp : X.Ok → Caps X cl fr js
def slotsU (s : SU) (js : List Nat) : List (Option U) := js.map (slot s)
/-- the made functions that may be handed on: those that were handed in, one's own -/
def Hand (X : Cx) (T : ZC) (kc : Nat) (os : List (Own X T kc)) (s : SU) (F : NF) (sp : DFp) : Prop := Recv X T kc F sp ∨ ∃ o ∈ os, ∃ c, F = o.make c ∧ sp = o.sp (slotsU s o.js)
def dCallC (C : SU → NF → DFp → Prop) (sp : DSp) (du : List U) (t : DA) (s : SU) (h : HU) (Q : DV) : Prop := t s h fun us h1 => sp (C s) (us ++ du) h1 Q (fun _ _ _ => False)
theorem slot_none : ∀ (s : SU) (σ : L2.St) (j : Nat), s.length = σ.length → slot s j = none → True := fun _ _ _ _ _ => trivial
theorem rw_slots {K : PySem.W.Frag} {H : Hp} {s : SU} {σ : L2.St} (rs : RS K H s σ) : ∀ js : List Nat, RW K H (slotsU s js) (js.map (slotAt σ))
  | [] => rfl
  | j :: js => ⟨slotAt σ j, js.map (slotAt σ), rfl, fun x e => by
    obtain ⟨v, e1, r1⟩ := rs.all j x (slot_get s j x e)
    exact ⟨v, slotAt_of e1, r1⟩, rw_slots rs js⟩
theorem d_callC {kc k : Nat} {os : List (Own X T kc)} {f : Addr} {fd : FuncData} {ps : List Str} {sp : DSp} {du : List U} {dvs : List V} {ds : List Value} {x : Str} {p pos : Pos} {a : Expr} {es : List Expr} {t : DA} (hfn : ∀ x, X.fn x = true)
    (F : ∀ base', Grown X.base base' → FnOk X.prog X.w X.K X.mg base' CX0 k f fd ps (LSp (Cxev X T) base' kc sp)) (hr : Room k X.A) (hg : Gl X x) (hm : X.mg x = some (.ref f)) (hk : PySem.W.keepIn X.K (.ref f) = true) (hb : Binds X.K fd ps ds) (hd : Vals dvs ds) (hu : ∀ H, RUs X.K H du dvs)
    (mono : ∀ C C' : NF → DFp → Prop, (∀ F s, C F s → C' F s) → ∀ us h q y, sp C us h q y → sp C' us h q y)
    (ha : PDA X T (a :: es) t) (hdb : (x == ("__debug__" : Str)) = false := by decide) (he : starEach (a :: es) X.env = (false, eval a X.env) :: starEach es X.env := by rfl) (hpl : (backTo pos (starEach es X.env)).any (·.1) = false := by rfl) :
    PD X T (.Call (.Name x p) (a :: es) [] pos) (dCallC (Hand X T kc os) sp du t) := by
  refine ⟨fun pins s σ H Q I ⟨su, h, q, rs, rh, hq, kk⟩ => ?_⟩
  refine wpAny_Call_Name_kw (ld_glob I hg hm ?_ hdb)
  refine PySem.W.callWith_K (h₀ := X.base) I.ok.mod.kin hk (thn (ha.run pos pins s σ H (fun vs H' => ∃ us h', sp (Hand X T kc os su) (us ++ du) h' q (fun _ _ _ => False) ∧ RUs X.K H' us vs ∧ RH X.K T h' H' ∧ Stp X.K H h H' h') I ⟨su, h, _, rs, rh, hq, fun us h' vs H' z1 z2 z3 z4 => ⟨us, h', z1, z2, z3, z4⟩⟩) fun us s1 got => ?_) he hpl
  obtain ⟨vs, H1, I1, r, us', h1, z1, z2, z3, z4⟩ := got
  refine ⟨I1.kIn, ?_⟩
  obtain ⟨base', grown, e0, cells⟩ := with_cells I1 hfn
  have rall : Vals (vs ++ dvs) (us ++ ds) := r.append hd
  have ruall : RUs X.K H1 (us' ++ du) (vs ++ dvs) := z2.append (hu H1)
  have can : ∀ F s, Hand X T kc os su F s → Callable (Cxev X T) base' kc H1 F s := fun F s hF => by
    rcases hF with hF | ⟨o, _, c, eF, es'⟩
    · exact hF.later grown z3.st0.tm
    · subst eF
      subst es'
      have at1 := cells_of I1 (o.cp I1.ok)
      refine ⟨o.ps, o.fr, o.js.map (slotAt σ), slotsU su o.js, o.sp, fun b f' z => o.ok b f' c (fun x' o' e' => z x' o' (grown x' o' e')), ?_, rw_slots (rs.mono z4.tm) o.js, fun _ _ _ z => z⟩
      rw [o.hcl c]
      have sub := (o.cp I1.ok).sub
      refine ⟨at1.len, fun y c' e => ?_, at1.inj, fun i y e => ?_⟩
      · obtain ⟨_, v, ob, ho, hd'⟩ := at1.all y c' e
        exact ⟨v, ob, cells y c' ob (sub y c' e) ho, hd'⟩
      · obtain ⟨c', e1, e2⟩ := at1.has i y e
        refine ⟨c', e1, fun v ev => ?_⟩
        obtain ⟨u, ru, ob, ho, hd'⟩ := e2 v ev
        exact ⟨u, ru, ob, cells y c' ob (sub y c' e1) ho, hd'⟩
  have hs := mono _ _ can _ _ _ _ z1
  have lsp : LSp (Cxev X T) base' kc sp (vs ++ dvs) H1 Q (fun _ _ _ => False) := ⟨us' ++ du, h1, q, _, ruall, rh_from (h1 := h1) (H1 := H1) z3 rfl, hs, fun u h' v H' hu' ru rh' => kk u h' v H' hu' ru (rh_back z3 rh') (z4.trans rh'.st0), fun _ _ _ _ z => z.elim⟩
  have F' := F base' grown
  have hl : (us ++ ds).length = ps.length := by
    rw [← rall.length]
    exact F'.len _ _ _ _ lsp
  show wpAny _ _ (call (.ref f) us) _ _ _
  refine wpAny_call (codeAny_mono (F'.run X.A X.stack s1 H1 ⟨us, []⟩ (us ++ ds) (vs ++ dvs) Q _ hr e0 (hb s1 us I1.kIn hl) rall lsp) fun r' s' hq' => ?_)
  cases r' with
  | error e => exact (show False from hq').elim
  | ok fl =>
    cases fl with
    | ret u => exact I1.after hq'
    | next => exact (show False from hq').elim
    | brk => exact (show False from hq').elim
    | cont => exact (show False from hq').elim
end
end DL

set_option Elab.async false
set_option linter.all false
set_option maxRecDepth 100000
set_option maxHeartbeats 2000000
/-! The data layer: what is walked, of any kind: lists, tuples, texts; zip, enumerate of any kinds. -/
namespace DL
open PySem L2 NdefX LamX

/-- what an iterator draws from -/
inductive Src where
  | lst (a : Addr) | tup (a : Addr) | txt (z : Str)
def Src.v : Src → V
  | .lst a => .ref a
  | .tup a => .ref a
  | .txt z => .str z
def Src.it : Src → Addr → Nat → Heap → Prop
  | .lst a, c, i, h => h.IsListIter c a i
  | .tup a, c, i, h => h.IsTupleIter c a i
  | .txt z, c, i, h => ∃ t ty, (ty = "str_ascii_iterator" ∨ ty = "str_iterator") ∧ h.IsStrIter c ty z t i
def sgnV (z : Str) : List V := z.cps.toList.map fun c => V.str ⟨#[c]⟩
def Src.has (K : PySem.W.Frag) (H : Hp) : Src → List V → Prop
  | .lst a, xs => SqL K H a xs
  | .tup a, xs => SqT K H a xs
  | .txt z, xs => xs = sgnV z
def Src.addr : Src → Option Addr
  | .lst a => some a
  | .tup a => some a
  | .txt _ => none
/-- pyIter lays one object -/
def IterPush (v : Value) (o : Obj) (h : Heap) : Prop := ∀ (prog : Program) (w : World) (A : Around) (E : Value → Shared → Prop) (s : Shared) (Q : Value → Shared → Prop), (∀ b ob, h.get? b = some ob → s.heap.get? b = some ob) →
  Q (.ref s.heap.objs.size) { s with heap := s.heap.push o } → wpAny (model prog w) A (pyIter v) Q E s
theorem IterPush.grow {v : Value} {o : Obj} {h h' : Heap} (p : IterPush v o h) (g : ∀ b ob, h.get? b = some ob → h'.get? b = some ob) : IterPush v o h' := fun prog w A E s Q k q => p prog w A E s Q (fun b ob e => k b ob (g b ob e)) q
section
variable {X : Cx} {pins : List (Addr × Obj)} {σ : L2.St} {H : Hp} {s : Shared}
theorem isStr_at {h h' : Heap} {c : Addr} {ty : String} {z : Str} {t : Tok} {i : Nat} (st : h.IsStrIter c ty z t i) (k : ∀ o, h.get? c = some o → h'.get? c = some o) : h'.IsStrIter c ty z t i := by
  obtain ⟨o, ho, r⟩ := st
  exact ⟨o, k o ho, r⟩
theorem Src.it_at {src : Src} {h h' : Heap} {c : Addr} {i : Nat} (st : src.it c i h) (k : ∀ o, h.get? c = some o → h'.get? c = some o) : src.it c i h' := by
  cases src with
  | lst a => exact Heap.IsListIter.at st k
  | tup a => exact Heap.IsTupleIter.at st k
  | txt z =>
    obtain ⟨t, ty, e, st⟩ := st
    exact ⟨t, ty, e, isStr_at st k⟩
theorem Src.it_obj {src : Src} {h : Heap} {c : Addr} {i : Nat} (st : src.it c i h) : ∃ o, h.get? c = some o ∧ ∀ v, o.data ≠ .cell v := by
  cases src with
  | lst a =>
    obtain ⟨o, e, _, d⟩ := st
    exact ⟨o, e, fun v q => by rw [d] at q; cases q⟩
  | tup a =>
    obtain ⟨o, e, _, d⟩ := st
    exact ⟨o, e, fun v q => by rw [d] at q; cases q⟩
  | txt z =>
    obtain ⟨t, ty, _, o, e, _, d⟩ := st
    exact ⟨o, e, fun v q => by rw [d] at q; cases q⟩
theorem iter_push {src : Src} {xs : List V} {u : Value} (I : Inv X pins σ H s) (hs : src.has X.K H xs) (r : RelV src.v u) : ∃ o, IterPush u o s.heap ∧ o.isFreed = false ∧ (∀ (h : Heap) (c : Addr), h.get? c = some o → src.it c 0 h) ∧ ∀ a, src.addr = some a → a < s.heap.objs.size := by
  cases src with
  | lst a =>
    cases (show u = Value.ref a from r)
    obtain ⟨its, rv, p, hz⟩ := I.list hs
    refine ⟨_, fun prog w A E s2 Q k q => wpAny_pyIter_list (p.isList.at (k _)) q, rfl, fun h c e => ⟨_, e, rfl, rfl⟩, fun b e => by cases e; exact p.lt⟩
  | tup a =>
    cases (show u = Value.ref a from r)
    obtain ⟨its, rv, p, hz⟩ := I.tuple hs
    obtain ⟨o, e, _⟩ := id p
    refine ⟨_, fun prog w A E s2 Q k q => wpAny_pyIter_tuple (Heap.IsTuple.at (show s.heap.IsTuple a its.toArray from p) (k _)) q, rfl, fun h c e => ⟨_, e, rfl, rfl⟩, fun b e' => by cases e'; exact Heap.lt_size e⟩
  | txt z =>
    obtain ⟨t, rfl⟩ := (show ∃ t, u = Value.str z t from r)
    refine ⟨_, fun prog w A E s2 Q k q => wpAny_pyIter_strU q, rfl, fun h c e => ⟨t, _, ?_, _, e, rfl, rfl⟩, fun b e => by cases e⟩
    unfold strIterType
    split
    · exact .inl rfl
    · exact .inr rfl

theorem vals_at {xs : List V} {us : List Value} {i : Nat} {v : Value} (r : Vals xs us) (e : us.toArray[i]? = some v) : ∃ x, xs[i]? = some x ∧ RelV x v := by
  have e' : us[i]? = some v := by simpa using e
  clear e
  induction r generalizing i with
  | nil => simp at e'
  | cons h t ih =>
    cases i with
    | zero =>
      cases (show some _ = some v from e')
      exact ⟨_, rfl, h⟩
    | succ i => exact ih (by simpa using e')
/-- a source, drawn from in the heap as it stands -/
theorem src_draws {A : Around} (hh : A.handled = none) {src : Src} {xs : List V} (I : Inv X pins σ H s) (hs : src.has X.K H xs) {c : Addr} (hc : ∀ a, src.addr = some a → a ≠ c) {i0 : Nat} (st0 : src.it c i0 s.heap) :
    ∃ (fp : List Addr) (St : Nat → Heap → Prop), Draws X.prog X.w A c fp xs.length (fun i v => ∃ x, xs[i]? = some x ∧ RelV x v) St ∧ c ∈ fp ∧ (∀ b ∈ fp, b = c ∨ src.addr = some b) ∧ St i0 s.heap ∧ (∀ i h, St i h → src.it c i h) := by
  cases src with
  | lst a =>
    obtain ⟨its, rv, p, hz⟩ := I.list hs
    have D := Draws.list (prog := X.prog) (w := X.w) hh c a (hc a rfl) its.toArray
    have el : its.toArray.size = xs.length := by rw [List.size_toArray, rv.length]
    rw [el] at D
    refine ⟨_, _, ⟨D.live, D.frame, fun i s Q E hi st hQ => D.item i s Q E hi st fun x h' tk hx => hQ x h' tk (vals_at rv hx), D.done⟩, by simp, fun b hb => ?_, ⟨st0, p.isList⟩, fun i h st => st.1⟩
    have hb' : b = c ∨ b = a := by simpa using hb
    rcases hb' with e | e
    · exact .inl e
    · exact .inr (by rw [e]; rfl)
  | tup a =>
    obtain ⟨its, rv, p, hz⟩ := I.tuple hs
    have p' : s.heap.IsTuple a its.toArray := p
    have el : its.toArray.size = xs.length := by rw [List.size_toArray, rv.length]
    have D : Draws X.prog X.w A c [c, a] its.toArray.size (fun i v => its.toArray[i]? = some v) (fun i h => h.IsTupleIter c a i ∧ h.IsTuple a its.toArray) :=
      { live := fun _ _ st => let ⟨o, ho, _⟩ := st.1; ⟨o, ho⟩
        frame := fun _ _ _ st hk => ⟨st.1.at fun o e => hk c (by simp) o e, st.2.at fun o e => hk a (by simp) o e⟩
        item := fun i s Q E hi st hQ => by
          refine RZ.nextOf_tuple_item st.1 st.2 (x := its.toArray[i]) (by simp [hi]) fun h' hit' hs' => ?_
          exact hQ _ h' s.toks (by simp [hi]) ⟨hit', st.2.at fun o e => hs'.extBut _ _ (hc a rfl) e⟩ hs'
        done := fun s Q E st hE => RZ.nextOf_tuple_end hh st.1 st.2 (by simp) hE }
    rw [el] at D
    refine ⟨_, _, ⟨D.live, D.frame, fun i s Q E hi st hQ => D.item i s Q E hi st fun x h' tk hx => hQ x h' tk (vals_at rv hx), D.done⟩, by simp, fun b hb => ?_, ⟨st0, p'⟩, fun i h st => st.1⟩
    have hb' : b = c ∨ b = a := by simpa using hb
    rcases hb' with e | e
    · exact .inl e
    · exact .inr (by rw [e]; rfl)
  | txt z =>
    have ex : xs = sgnV z := hs
    have el : z.cps.size = xs.length := by rw [ex]; unfold sgnV; simp
    have conv : ∀ i v, (∃ cc u, z.cps[i]? = some cc ∧ v = Value.str ⟨#[cc]⟩ u) → ∃ x, xs[i]? = some x ∧ RelV x v := fun i v hv => by
      obtain ⟨cc, u, e, ev⟩ := hv
      exact ⟨.str ⟨#[cc]⟩, by rw [ex]; unfold sgnV; rw [List.getElem?_map, Array.getElem?_toList, e]; rfl, by rw [ev]; exact ⟨u, rfl⟩⟩
    obtain ⟨t, ty, ety, st⟩ := st0
    rcases ety with e | e
    · subst e
      have D := Draws.strAscii (prog := X.prog) (w := X.w) hh c z t
      rw [el] at D
      exact ⟨_, _, ⟨D.live, D.frame, fun i s Q E hi st hQ => D.item i s Q E hi st fun x h' tk hx => hQ x h' tk (conv i x hx), D.done⟩, by simp, fun b hb => .inl (by simpa using hb), st, fun i h st => ⟨t, _, .inl rfl, st⟩⟩
    · subst e
      have D := Draws.strWide (prog := X.prog) (w := X.w) hh c z t
      rw [el] at D
      exact ⟨_, _, ⟨D.live, D.frame, fun i s Q E hi st hQ => D.item i s Q E hi st fun x h' tk hx => hQ x h' tk (conv i x hx), D.done⟩, by simp, fun b hb => .inl (by simpa using hb), st, fun i h st => ⟨t, _, .inr rfl, st⟩⟩
theorem has_inj (I : Inv X pins σ H s) {src : Src} {xs ys : List V} (h1 : src.has X.K H xs) (h2 : src.has X.K H ys) : xs = ys := by
  cases src with
  | lst a => exact I.list_inj h1 h2
  | tup a => exact I.tuple_inj h1 h2
  | txt z => exact h1.trans h2.symm
end
/-! ### zip -/
def Itzm (K : PySem.W.Frag) (s1 s2 : Src) : It :=
  ⟨fun i H => ∃ (xs ys : List V) (x y : V), s1.has K H xs ∧ s2.has K H ys ∧ xs[i]? = some x ∧ ys[i]? = some y,
    fun i H v H' => ∃ T x y, v = .ref T ∧ H T = none ∧ H' = upd H T (.tup [x, y]) ∧ (∀ xs, s1.has K H xs → xs[i]? = some x) ∧ ∀ ys, s2.has K H ys → ys[i]? = some y,
    fun i H => ∃ xs ys : List V, s1.has K H xs ∧ s2.has K H ys ∧ i ≤ xs.length ∧ i ≤ ys.length ∧ (i = xs.length ∨ i = ys.length)⟩
structure ZipFar (z TI TO i1 i2 : Addr) (s1 s2 : Src) : Prop where
  nd : [z, TI, TO, i1, i2].Nodup
  a1 : ∀ a, s1.addr = some a → a ∉ [z, TI, TO, i1, i2]
  a2 : ∀ a, s2.addr = some a → a ∉ [z, TI, TO, i1, i2]
theorem ZipFar.sep {z TI TO i1 i2 : Addr} {s1 s2 : Src} (D : ZipFar z TI TO i1 i2 s1 s2) {fp1 fp2 : List Addr} (m1 : i1 ∈ fp1) (m2 : i2 ∈ fp2) (f1 : ∀ b ∈ fp1, b = i1 ∨ s1.addr = some b) (f2 : ∀ b ∈ fp2, b = i2 ∨ s2.addr = some b) : ZipSep2 z TI TO i1 i2 fp1 fp2 := by
  have nd := D.nd
  simp only [List.nodup_cons, List.mem_cons, not_or, List.not_mem_nil, not_false_eq_true, and_true, List.nodup_nil] at nd
  obtain ⟨⟨n1, n2, n3, n4⟩, ⟨n5, n6, n7⟩, ⟨n8, n9⟩, n10⟩ := nd
  have far1 : ∀ x, x ∈ [z, TI, TO, i1, i2] → x ≠ i1 → x ∉ fp1 := fun x hx hn hm => by
    rcases f1 x hm with e | e
    · exact hn e
    · exact D.a1 x e hx
  have far2 : ∀ x, x ∈ [z, TI, TO, i1, i2] → x ≠ i2 → x ∉ fp2 := fun x hx hn hm => by
    rcases f2 x hm with e | e
    · exact hn e
    · exact D.a2 x e hx
  exact ⟨Ne.symm n1, Ne.symm n2, n5, n6, m1, far1 _ (by simp) n3, far1 _ (by simp) n8, n7, m2, far2 _ (by simp) n4, far2 _ (by simp) n9, far2 _ (by simp) n10, far1 _ (by simp) (Ne.symm n10)⟩
theorem turn_zipM {P : Program} {w : World} {K : PySem.W.Frag} {elts : List Expr} {kk : Nat} {tpos : Pos} {s1 s2 : Src} {z TI TO i1 i2 : Addr} (D : ZipFar z TI TO i1 i2 s1 s2) :
    Turn P w K (.Tuple elts kk tpos) (Itzm K s1 s2) [z, TI, TO, i1, i2] z (fun i h => IsZip h z TI TO .none ∧ IsTupOf2 h TI (.ref i1) (.ref i2) ∧ (∃ x y, IsTupOf2 h TO x y) ∧ s1.it i1 i h ∧ s2.it i2 i h) where
  mem := by simp
  obj := fun i h st c hc => by
    obtain ⟨hz, hTI, ⟨x, y, hTO⟩, t1, t2⟩ := st
    have e' : c = z ∨ c = TI ∨ c = TO ∨ c = i1 ∨ c = i2 := by simpa using hc
    rcases e' with q | q | q | q | q
    · rw [q]; exact ⟨_, hz, fun v q => nomatch q⟩
    · rw [q]; exact ⟨_, hTI, fun v q => nomatch q⟩
    · rw [q]; exact ⟨_, hTO, fun v q => nomatch q⟩
    · rw [q]; exact Src.it_obj t1
    · rw [q]; exact Src.it_obj t2
  keep := fun i h h' st k => by
    obtain ⟨hz, hTI, ⟨x, y, hTO⟩, h1, h2⟩ := st
    exact ⟨k z (by simp) _ hz, k TI (by simp) _ hTI, ⟨x, y, k TO (by simp) _ hTO⟩, Src.it_at h1 fun o q => k i1 (by simp) o q, Src.it_at h2 fun o q => k i2 (by simp) o q⟩
  item := by
    intro X hP hw hK hc i pins s σ H E I hf st hg
    subst hP hw hK
    obtain ⟨hz, hTI, ⟨x0, y0, hTO⟩, h1, h2⟩ := st
    obtain ⟨xs, ys, x, y, hqx, hqy, hx, hy⟩ := hg
    have hh : X.A.in1.handled = none := I.ok.hd hc
    have lx := (List.getElem?_eq_some_iff.mp hx).1
    have ly := (List.getElem?_eq_some_iff.mp hy).1
    obtain ⟨fp1, St1, D1, m1, f1, st1, back1⟩ := src_draws hh I hqx (c := i1) (fun a ea e => D.a1 a ea (by rw [e]; simp)) h1
    obtain ⟨fp2, St2, D2, m2, f2, st2, back2⟩ := src_draws hh I hqy (c := i2) (fun a ea e => D.a2 a ea (by rw [e]; simp)) h2
    have S := D.sep m1 m2 f1 f2
    refine wpAny_pyNext_zipD2_item S D1 D2 hz hTI hTO st1 st2 lx ly fun u u2 h' tk ⟨x', ex', ru⟩ ⟨y', ey', ru2⟩ z' TO' t1' t2' hT hsz hk => ?_
    rw [hx] at ex'
    rw [hy] at ey'
    cases ex'
    cases ey'
    have hzl : z < s.heap.objs.size := Heap.lt_size hz
    refine ⟨_, rfl, wpAny_letOwnedTupleGo_zip (s := { s with heap := h', toks := tk }) z' fun h'' z'' sb => ?_⟩
    have hT2 : h''.get? s.heap.objs.size = some { cls := .type "tuple", data := .seq #[u, u2] } := (sb.2 _ (Nat.ne_of_gt hzl)).trans hT
    have new : ObjOk X.prog X.w (upd H s.heap.objs.size (.tup [x, y])) h'' s.heap.objs.size (.tup [x, y]) :=
      ⟨by show 2 ≤ sizeLine; decide, [u, u2], .cons ru (.cons ru2 .nil), ⟨_, hT2, rfl, _, rfl⟩⟩
    have I1 : Inv X pins σ (upd H s.heap.objs.size (.tup [x, y])) { s with heap := h'', toks := tk } :=
      I.turnedNew (t' := tk) (ch := [z, TI, TO, i1, i2]) (fun c o hb q => (sb.2 c (fun q' => hb (by simp [q']))).trans (hk c o (fun q' => hb (by simp [q'])) (fun q' => hb (by simp [q'])) (fun q' => hb (by simp [q'])) (fun q' => hb (by simp [q'])) q)) hf (Nat.le_refl _) new
    refine ⟨.ref s.heap.objs.size, _, I1, rfl, ⟨_, x, y, rfl, I.hok.fresh (Nat.le_refl _), rfl, fun l hl => by rw [has_inj I hl hqx]; exact hx, fun l hl => by rw [has_inj I hl hqy]; exact hy⟩, ⟨z'', ?_, ⟨u, u2, ?_⟩, ?_, ?_⟩, fun c hcm => ?_⟩
    · exact (sb.2 _ S.TIz).trans (hk _ _ S.TIz S.TITO S.TIi1 S.TIi2 hTI)
    · exact (sb.2 _ S.TOz).trans TO'
    · exact Src.it_at (back1 _ _ t1') fun o q => (sb.2 _ S.zi1.symm).trans q
    · exact Src.it_at (back2 _ _ t2') fun o q => (sb.2 _ S.zi2.symm).trans q
    · have hlt : c < s.heap.objs.size := by
        have e' : c = z ∨ c = TI ∨ c = TO ∨ c = i1 ∨ c = i2 := by simpa using hcm
        rcases e' with q | q | q | q | q
        · rw [q]; exact hzl
        · rw [q]; exact Heap.lt_size hTI
        · rw [q]; exact Heap.lt_size hTO
        · rw [q]; obtain ⟨_, e1, _⟩ := Src.it_obj h1; exact Heap.lt_size e1
        · rw [q]; obtain ⟨_, e2, _⟩ := Src.it_obj h2; exact Heap.lt_size e2
      rw [upd_ne (Nat.ne_of_lt hlt)]
      exact (hf c hcm).1
  done := by
    intro X hP hw hK hc i pins s σ H E I hf st hg
    subst hP hw hK
    obtain ⟨hz, hTI, ⟨x0, y0, hTO⟩, h1, h2⟩ := st
    obtain ⟨xs, ys, hqx, hqy, l1, l2, hend⟩ := hg
    have hh : X.A.in1.handled = none := I.ok.hd hc
    obtain ⟨fp1, St1, D1, m1, f1, st1, back1⟩ := src_draws hh I hqx (c := i1) (fun a ea e => D.a1 a ea (by rw [e]; simp)) h1
    obtain ⟨fp2, St2, D2, m2, f2, st2, back2⟩ := src_draws hh I hqy (c := i2) (fun a ea e => D.a2 a ea (by rw [e]; simp)) h2
    exact wpAny_pyNext_zipD2_end (D.sep m1 m2 f1 f2) D1 D2 hz hTI hTO st1 st2 l1 l2 hend fun h' tk hk => ⟨rfl, I.turnedL (t' := tk) (ch := [z, TI, TO, i1, i2]) (fun c o hb q =>
      hk c o (fun q' => hb (by simp [q'])) (fun q' => hb (by simp [q'])) (fun q' => hb (by simp [q'])) (fun q' => hb (by simp [q'])) q) hf⟩
  self := fun A i s Q E st h => wpAny_pyIter_zip st.1 h
end DL

set_option Elab.async false
set_option linter.all false
set_option maxRecDepth 100000
set_option maxHeartbeats 4000000
/-! The data layer: for x in anything; zip, enumerate, reversed. -/
namespace DL
open PySem L2 NdefX LamX

/-! ### making a zip, an enumerate -/
abbrev zH1 (h : Heap) (o1 : Obj) : Heap := h.push o1
abbrev zH2 (h : Heap) (o1 o2 : Obj) : Heap := (zH1 h o1).push o2
abbrev zH3 (h : Heap) (o1 o2 : Obj) : Heap := (zH2 h o1 o2).push { cls := .type "tuple", data := .seq #[.ref h.objs.size, .ref (zH1 h o1).objs.size] }
abbrev zH4 (h : Heap) (o1 o2 : Obj) : Heap := (zH3 h o1 o2).push { cls := .type "tuple", data := .seq #[.none, .none] }
abbrev zH5 (h : Heap) (o1 o2 : Obj) : Heap := (zH4 h o1 o2).push { cls := .type "zip", data := .fields #[.none, .bool false, .bool false, .ref (zH2 h o1 o2).objs.size, .ref (zH3 h o1 o2).objs.size] }
theorem meets_zipM (v1 v2 : Value) (o1 o2 : Obj) :
    Meets (Builtin.«zip.__new__» ⟨[.type "zip", v1, v2], []⟩) (fun _ R s => IterPush v1 o1 s.heap ∧ IterPush v2 o2 s.heap ∧
      R (.ok (.ret (.ref (zH4 s.heap o1 o2).objs.size))) { s with heap := zH5 s.heap o1 o2 }) :=
  .of_wp fun prog w A R s h => by
    obtain ⟨hp, g, d, tk, os⟩ := s; obtain ⟨hl1, hl2, h⟩ := h
    have hsub := sub_zip
    have hL1 : ∀ {A : Around} {E : Value → Shared → Prop} {Q : Value → Shared → Prop}, Q (.ref hp.objs.size) ⟨hp.push o1, g, d, tk, os⟩ → wpAny (model prog w) A (pyIter v1) Q E ⟨hp, g, d, tk, os⟩ :=
      fun {A E Q} q => hl1 prog w A E ⟨hp, g, d, tk, os⟩ Q (fun _ _ e => e) q
    have hL2 : ∀ {A : Around} {E : Value → Shared → Prop} {Q : Value → Shared → Prop}, Q (.ref (hp.push o1).objs.size) ⟨(hp.push o1).push o2, g, d, tk, os⟩ → wpAny (model prog w) A (pyIter v2) Q E ⟨hp.push o1, g, d, tk, os⟩ :=
      fun {A E Q} q => hl2 prog w A E ⟨hp.push o1, g, d, tk, os⟩ Q (fun _ _ e => Heap.get?_push_of_some _ e) q
    wp_walk using hL1, hL2
    exact ⟨_, rfl, h⟩
theorem meets_enumM (v1 : Value) (o1 : Obj) :
    Meets (Builtin.«enumerate.__new__» ⟨[.type "enumerate", v1], []⟩) (fun _ R s => IterPush v1 o1 s.heap ∧
      R (.ok (.ret (.ref (s.heap.push o1).objs.size))) { s with heap := (s.heap.push o1).push { cls := .type "enumerate", data := .fields #[.none, .bool false, .ref s.heap.objs.size, rawInt 0, .none, .none] } }) :=
  .of_wp fun prog w A R s h => by
    obtain ⟨hp, g, d, tk, os⟩ := s; obtain ⟨hl1, h⟩ := h
    have hsub := sub_enumerate
    have hL1 : ∀ {A : Around} {E : Value → Shared → Prop} {Q : Value → Shared → Prop}, Q (.ref hp.objs.size) ⟨hp.push o1, g, d, tk, os⟩ → wpAny (model prog w) A (pyIter v1) Q E ⟨hp, g, d, tk, os⟩ :=
      fun {A E Q} q => hl1 prog w A E ⟨hp, g, d, tk, os⟩ Q (fun _ _ e => e) q
    wp_walk
    refine wpAny_stack_any fun st => wpAny_pure ?_
    split
    · rename_i c _ _ _ _ _
      cases (c == Value.type "enumerate")
      · wp_walk using hL1
        exact ⟨_, rfl, h⟩
      · wp_walk using hL1
        exact ⟨_, rfl, h⟩
    · wp_walk using hL1
      exact ⟨_, rfl, h⟩


section
variable {prog : Program} {w : World} {A : Around} {E : Value → Shared → Prop} {s : Shared}
theorem call_zipM {v1 v2 : Value} {o1 o2 : Obj} {Q : Value → Shared → Prop} (hl1 : IterPush v1 o1 s.heap) (hl2 : IterPush v2 o2 s.heap) (f1 : o1.isFreed = false) (f2 : o2.isFreed = false)
    (h : ∀ h', IsZip h' (s.heap.objs.size + 4) (s.heap.objs.size + 2) (s.heap.objs.size + 3) .none → IsTupOf2 h' (s.heap.objs.size + 2) (.ref s.heap.objs.size) (.ref (s.heap.objs.size + 1)) →
      IsTupOf2 h' (s.heap.objs.size + 3) .none .none → h'.get? s.heap.objs.size = some o1 → h'.get? (s.heap.objs.size + 1) = some o2 →
      (∀ c o, s.heap.get? c = some o → h'.get? c = some o) → Q (.ref (s.heap.objs.size + 4)) { s with heap := h' }) :
    wpAny (model prog w) A (call (.type "zip") [v1, v2]) Q E s := by
  refine callType_new F.called_zip (by decide) (F.typeCall_zip_2 _ _) (F.newCall_zip_2 _ _) (fun obj => F.args_object_init_3 obj _ _) F.entry_zip_new
    (meets_zipM v1 v2 o1 o2) ⟨hl1, hl2, ?_⟩
  have z1 : (zH1 s.heap o1).objs.size = s.heap.objs.size + 1 := Heap.size_push ..
  have z2 : (zH2 s.heap o1 o2).objs.size = s.heap.objs.size + 2 := by rw [Heap.size_push, z1]
  have z3 : (zH3 s.heap o1 o2).objs.size = s.heap.objs.size + 3 := by rw [Heap.size_push, z2]
  have z4 : (zH4 s.heap o1 o2).objs.size = s.heap.objs.size + 4 := by rw [Heap.size_push, z3]
  have g5 : (zH5 s.heap o1 o2).get? (zH4 s.heap o1 o2).objs.size = some _ := Heap.get?_push_size _ rfl
  have g4 : (zH5 s.heap o1 o2).get? (zH3 s.heap o1 o2).objs.size = some _ := Heap.get?_push_of_some _ (Heap.get?_push_size _ rfl)
  have g3 : (zH5 s.heap o1 o2).get? (zH2 s.heap o1 o2).objs.size = some _ := Heap.get?_push_of_some _ (Heap.get?_push_of_some _ (Heap.get?_push_size _ rfl))
  have g2 : (zH5 s.heap o1 o2).get? (zH1 s.heap o1).objs.size = some o2 := Heap.get?_push_of_some _ (Heap.get?_push_of_some _ (Heap.get?_push_of_some _ (Heap.get?_push_size _ f2)))
  have g1 : (zH5 s.heap o1 o2).get? s.heap.objs.size = some o1 := Heap.get?_push_of_some _ (Heap.get?_push_of_some _ (Heap.get?_push_of_some _ (Heap.get?_push_of_some _ (Heap.get?_push_size _ f1))))
  show _ ∧ _
  rw [z2, z3, z4] at g5
  rw [z1, z2] at g3
  rw [z3] at g4
  rw [z1] at g2
  rw [z4]
  exact ⟨⟨_, g5, rfl⟩, h _ g5 g3 g4 g1 g2 fun c o x =>
    Heap.get?_push_of_some _ (Heap.get?_push_of_some _ (Heap.get?_push_of_some _ (Heap.get?_push_of_some _ (Heap.get?_push_of_some _ x))))⟩
theorem call_enumM {v1 : Value} {o1 : Obj} {Q : Value → Shared → Prop} (hl1 : IterPush v1 o1 s.heap) (f1 : o1.isFreed = false)
    (h : ∀ h', IsEnum h' (s.heap.objs.size + 1) s.heap.objs.size 0 .none → h'.get? s.heap.objs.size = some o1 →
      (∀ b o, s.heap.get? b = some o → h'.get? b = some o) → Q (.ref (s.heap.objs.size + 1)) { s with heap := h' }) :
    wpAny (model prog w) A (call (.type "enumerate") [v1]) Q E s := by
  refine callType_new F.called_enumerate (by decide) (F.typeCall_enumerate_1 _) (F.newCall_enumerate_1 _) (fun obj => F.args_object_init_2 obj _) F.entry_enumerate_new
    (meets_enumM v1 o1) ⟨hl1, ?_⟩
  have hz : (s.heap.push o1).objs.size = s.heap.objs.size + 1 := Heap.size_push ..
  show _ ∧ _
  rw [hz]
  have he : IsEnum ((s.heap.push o1).push { cls := .type "enumerate", data := .fields #[.none, .bool false, .ref s.heap.objs.size, rawInt 0, .none, .none] }) (s.heap.objs.size + 1) s.heap.objs.size 0 .none := by
    have := Heap.get?_push_size (s.heap.push o1) (o := { cls := .type "enumerate", data := .fields #[.none, .bool false, .ref s.heap.objs.size, rawInt 0, .none, .none] }) rfl
    rw [hz] at this; exact this
  refine ⟨⟨_, he, rfl⟩, h _ he (Heap.get?_push_of_some _ (Heap.get?_push_size _ f1)) fun b o x => Heap.get?_push_of_some _ (Heap.get?_push_of_some _ x)⟩
end

/-! ### enumerate -/
def Item (K : PySem.W.Frag) (s1 : Src) : It :=
  ⟨fun i H => ∃ (xs : List V) (x : V), s1.has K H xs ∧ xs[i]? = some x,
    fun i H v H' => ∃ T x, v = .ref T ∧ H T = none ∧ H' = upd H T (.tup [.int (i : Nat), x]) ∧ ∀ xs, s1.has K H xs → xs[i]? = some x,
    fun i H => ∃ xs : List V, s1.has K H xs ∧ i = xs.length⟩
theorem turn_enumM {P : Program} {w : World} {K : PySem.W.Frag} {elts : List Expr} {kk : Nat} {tpos : Pos} {s1 : Src} {e it : Addr} (hne : e ≠ it) (a1 : ∀ a, s1.addr = some a → a ≠ e ∧ a ≠ it) :
    Turn P w K (.Tuple elts kk tpos) (Item K s1) [e, it] e (fun i h => (∃ old, IsEnum h e it ((i : Nat) : Int) old) ∧ s1.it it i h) where
  mem := by simp
  obj := fun i h st c hc => by
    obtain ⟨⟨old, he⟩, t1⟩ := st
    have e' : c = e ∨ c = it := by simpa using hc
    rcases e' with q | q
    · rw [q]; exact ⟨_, he, fun v q => nomatch q⟩
    · rw [q]; exact Src.it_obj t1
  keep := fun i h h' st k => by
    obtain ⟨⟨old, he⟩, h1⟩ := st
    exact ⟨⟨old, k e (by simp) _ he⟩, Src.it_at h1 fun o q => k it (by simp) o q⟩
  item := by
    intro X hP hw hK hc i pins s σ H E I hf st hg
    subst hP hw hK
    obtain ⟨⟨old, he⟩, h1⟩ := st
    obtain ⟨xs, x, hqx, hx⟩ := hg
    have hh : X.A.in1.handled = none := I.ok.hd hc
    have lx := (List.getElem?_eq_some_iff.mp hx).1
    obtain ⟨fp1, St1, D1, m1, f1, st1, back1⟩ := src_draws hh I hqx (c := it) (fun a ea => (a1 a ea).2) h1
    have hef : e ∉ fp1 := fun z => by
      rcases f1 e z with q | q
      · exact hne q
      · exact (a1 e q).1 rfl
    have hel : e < s.heap.objs.size := Heap.lt_size he
    refine wpAny_pyNext_enum_itemD D1 he st1 lx hne hef fun u h' tk ⟨x', ex', ru⟩ ho st1' hT hsz hk => ?_
    rw [hx] at ex'
    cases ex'
    refine ⟨_, rfl, wpAny_letOwnedTupleGo_enum (s := { s with heap := h', toks := tk + 1 }) ho fun h'' he' sb => ?_⟩
    have hT2 : h''.get? s.heap.objs.size = some { cls := .type "tuple", data := .seq #[.int i tk, u] } := (sb.2 _ (Nat.ne_of_gt hel)).trans hT
    have new : ObjOk X.prog X.w (upd H s.heap.objs.size (.tup [.int (i : Nat), x])) h'' s.heap.objs.size (.tup [.int (i : Nat), x]) :=
      ⟨by show 2 ≤ sizeLine; decide, [.int i tk, u], .cons ⟨_, rfl⟩ (.cons ru .nil), ⟨_, hT2, rfl, _, rfl⟩⟩
    have I1 : Inv X pins σ (upd H s.heap.objs.size (.tup [.int (i : Nat), x])) { s with heap := h'', toks := tk + 1 } :=
      I.turnedNew (t' := tk + 1) (ch := [e, it]) (fun b o hb q => (sb.2 b (fun z => hb (by simp [z]))).trans (hk b o (fun z => hb (by simp [z])) (fun z => hb (by simp [z])) q)) hf (Nat.le_refl _) new
    refine ⟨.ref s.heap.objs.size, _, I1, rfl, ⟨_, x, rfl, I.hok.fresh (Nat.le_refl _), rfl, fun l hl => by rw [has_inj I hl hqx]; exact hx⟩, ⟨⟨u, ?_⟩, ?_⟩, fun b hb => ?_⟩
    · have e1 : ((i + 1 : Nat) : Int) = (i : Int) + 1 := by omega
      rw [e1]; exact he'
    · exact Src.it_at (back1 _ _ st1') fun o q => (sb.2 it (Ne.symm hne)).trans q
    · have hb' : b < s.heap.objs.size := by
        have e' : b = e ∨ b = it := by simpa using hb
        rcases e' with z | z
        · rw [z]; exact hel
        · rw [z]; obtain ⟨_, e1, _⟩ := Src.it_obj h1; exact Heap.lt_size e1
      rw [upd_ne (Nat.ne_of_lt hb')]
      exact (hf b hb).1
  done := by
    intro X hP hw hK hc i pins s σ H E I hf st hg
    subst hP hw hK
    obtain ⟨⟨old, he⟩, h1⟩ := st
    obtain ⟨xs, hqx, ei⟩ := hg
    have hh : X.A.in1.handled = none := I.ok.hd hc
    obtain ⟨fp1, St1, D1, m1, f1, st1, back1⟩ := src_draws hh I hqx (c := it) (fun a ea => (a1 a ea).2) h1
    obtain ⟨f0, f1', f2, f3, f4, f5⟩ := hf it (by simp)
    rw [ei] at st1
    exact wpAny_pyNext_enum_endD D1 he st1 fun h' eb => ⟨rfl, I.turned (t' := s.toks) (fun b o hb q => eb b o hb q) f0 f1' f3 f4 f5⟩
  self := fun A i s Q E st h => let ⟨⟨_, he⟩, _⟩ := st; wpAny_pyIter_enum he h

/-! ### over data -/
def srcU (h : HU) : U → Option (List U)
  | .tup us => some us
  | .ft us => some us
  | .ref p => lstU h p
  | .str z => some (signsU z)
  | _ => none
theorem sgn_rel {K : PySem.W.Frag} {H : Hp} (z : Str) : RUs K H (signsU z) (sgnV z) := by
  unfold signsU sgnV
  generalize z.cps.toList = l
  induction l with
  | nil => rfl
  | cons c l ih => exact .cons rfl ih
theorem srcU_v {K : PySem.W.Frag} {T : ZC} {h : HU} {H : Hp} {u : U} {v : V} {us : List U} (rh : RH K T h H) (r : RU K H u v) (e : srcU h u = some us) : ∃ src xs, Src.v src = v ∧ src.has K H xs ∧ RUs K H us xs ∧
    ∀ H2 h2, TM K H H2 → RH K T h2 H2 → srcU h2 u = some us → ∃ ys, src.has K H2 ys ∧ RUs K H2 us ys := by
  cases u <;> first | cases e | skip
  · rename_i z
    cases (show v = V.str z from r)
    exact ⟨.txt z, _, rfl, rfl, sgn_rel z, fun H2 h2 _ _ _ => ⟨_, rfl, sgn_rel z⟩⟩
  · obtain ⟨a, vs, rfl, t, rr⟩ := ru_tup r
    exact ⟨.tup a, vs, rfl, SqT.of t, rr, fun H2 h2 tm _ _ => ⟨vs, SqT.of (tm.tup _ _ t), RUs.mono tm _ _ rr⟩⟩
  · rename_i p
    cases (show v = V.ref p from r)
    obtain ⟨vs, sq, rr⟩ := rh.sql (p := p) e
    exact ⟨.lst p, vs, rfl, sq, rr, fun H2 h2 _ rh2 e2 => rh2.sql (p := p) e2⟩
  · obtain ⟨a, vs, rfl, t, rr, ob, e1, _⟩ := ru_ft r
    exact ⟨.tup a, vs, rfl, t, rr, fun H2 h2 tm _ _ => ⟨vs, .inl (.inr ⟨ob, tm.frz _ _ _ e1⟩), RUs.mono tm _ _ rr⟩⟩
section
variable {X : Cx} {T : ZC}
/-- a list, a tuple, a text -/
def iAny (te : DE) (s : SU) (h : HU) (R : List U → (HU → Prop) → HU → Prop) : Prop := te s h fun u h1 => match u with
  | .tup us => R us (fun _ => True) h1
  | .ft us => R us (fun _ => True) h1
  | .str z => R (signsU z) (fun _ => True) h1
  | .ref p => match lstU h1 p with
    | some us => R us (fun h2 => lstU h2 p = some us) h1
    | none => False
  | _ => False
theorem walk_lst {K : PySem.W.Frag} {p : Addr} {H1 : Hp} {us : List U} : WalkU K T H1 (Itl K p) us (fun h2 => lstU h2 p = some us) := ⟨fun i H2 h2 tm rh2 kp lt => by
  obtain ⟨ws, sq2, rr2⟩ := rh2.sql kp
  have hl2 := rr2.length
  exact ⟨ws, ws[i]'(by omega), sq2, by simp [show i < ws.length by omega]⟩, fun H2 h2 tm rh2 kp => by
  obtain ⟨ws, sq2, rr2⟩ := rh2.sql kp
  exact ⟨ws, sq2, by rw [rr2.length]; exact Nat.le_refl _⟩, fun i H2 h2 x H3 tm rh2 kp lt y => by
  obtain ⟨ws, sq2, rr2⟩ := rh2.sql kp
  obtain ⟨rfl, y2⟩ := y
  obtain ⟨u, eu, ru⟩ := rr2.back (y2 ws sq2)
  exact ⟨u, eu, ru, rh2, Stp.refl⟩⟩
theorem walk_tup {K : PySem.W.Frag} {p : Addr} {H1 : Hp} {us : List U} {vs : List V} (t : H1 p = some (.tup vs)) (rr : RUs K H1 us vs) : WalkU K T H1 (Itt K p) us (fun _ => True) := ⟨fun i H2 h2 tm rh2 kp lt => by
  have hl2 := rr.length
  exact ⟨vs, vs[i]'(by omega), SqT.of (tm.tup _ _ t), by simp [show i < vs.length by omega]⟩, fun H2 h2 tm rh2 kp => ⟨vs, SqT.of (tm.tup _ _ t), by rw [rr.length]; exact Nat.le_refl _⟩, fun i H2 h2 x H3 tm rh2 kp lt y => by
  obtain ⟨rfl, y2⟩ := y
  obtain ⟨u, eu, ru⟩ := (RUs.mono tm _ _ rr).back (y2 vs (SqT.of (tm.tup _ _ t)))
  exact ⟨u, eu, ru, rh2, Stp.refl⟩⟩
theorem walk_ft {K : PySem.W.Frag} {p : Addr} {H1 : Hp} {us : List U} {vs : List V} (t : ∀ H2, TM K H1 H2 → SqT K H2 p vs) (rr : RUs K H1 us vs) : WalkU K T H1 (Itt K p) us (fun _ => True) := ⟨fun i H2 h2 tm rh2 kp lt => by
  have hl2 := rr.length
  exact ⟨vs, vs[i]'(by omega), t _ tm, by simp [show i < vs.length by omega]⟩, fun H2 h2 tm rh2 kp => ⟨vs, t _ tm, by rw [rr.length]; exact Nat.le_refl _⟩, fun i H2 h2 x H3 tm rh2 kp lt y => by
  obtain ⟨rfl, y2⟩ := y
  obtain ⟨u, eu, ru⟩ := (RUs.mono tm _ _ rr).back (y2 vs (t _ tm))
  exact ⟨u, eu, ru, rh2, Stp.refl⟩⟩
theorem walk_txt {K : PySem.W.Frag} {z : Str} {H1 : Hp} : WalkU K T H1 (Its z) (signsU z) (fun _ => True) := by
  have hl : (signsU z).length = z.cps.size := by
    unfold signsU
    rw [List.length_map, Array.length_toList]
  refine ⟨fun i H2 h2 tm rh2 kp lt => ?_, fun H2 h2 tm rh2 kp => ?_, fun i H2 h2 x H3 tm rh2 kp lt y => ?_⟩
  · rw [hl] at lt
    exact walk_str.goes i H2 lt True.intro
  · rw [hl]
    exact walk_str.stops H2 True.intro
  · rw [hl] at lt
    obtain ⟨rfl, c, ec, rfl⟩ := walk_str.yields i H2 x H3 lt True.intro y
    refine ⟨.str ⟨#[c]⟩, ?_, rfl, rh2, Stp.refl⟩
    unfold signsU
    rw [List.getElem?_map, Array.getElem?_toList, ec]
    rfl
theorem d_iAny {tg l : Expr} {te : DE} (hl : PD X T l te) : PDI X T tg l (iAny te) := by
  refine ⟨fun pins s σ H R I ⟨su, h, r, rs, rh, hr, k⟩ => ?_⟩
  refine thn (hl.run pins s σ H (fun v H1 => ∃ u h1, RU X.K H1 u v ∧ RH X.K T h1 H1 ∧ Stp X.K H h H1 h1 ∧ (match u with
    | .tup us => r us (fun _ => True) h1
    | .ft us => r us (fun _ => True) h1
    | .str z => r (signsU z) (fun _ => True) h1
    | .ref p => (match lstU h1 p with
      | some us => r us (fun h2 => lstU h2 p = some us) h1
      | none => False)
    | _ => False)) I ⟨su, h, _, rs, rh, hr, fun u h1 v H1 q1 r1 rh1 st1 => ⟨u, h1, r1, rh1, st1, q1⟩⟩) fun v s1 ⟨x, H1, I1, rv, u, h1, r1, rh1, st1, q1⟩ => ?_
  split at q1
  · rename_i us
    obtain ⟨a, vs, rfl, t, rr⟩ := ru_tup r1
    cases rv
    obtain ⟨its, rv, p, hz⟩ := I1.tuple (SqT.of t)
    refine wpAny_pyIter_tuple (show s1.heap.IsTuple a its.toArray from p) ?_
    exact pi_one (tk := s1.toks) I1 _ (turn_tuple a _) ⟨_, Heap.get?_push_size _ rfl, rfl, rfl⟩ (k us _ h1 _ H1 q1 rh1 st1 (walk_tup t rr))
  · rename_i us
    obtain ⟨a, vs, rfl, t, rr, ob, e1, _⟩ := ru_ft r1
    cases rv
    obtain ⟨its, rv, p, hz⟩ := I1.tuple t
    refine wpAny_pyIter_tuple (show s1.heap.IsTuple a its.toArray from p) ?_
    exact pi_one (tk := s1.toks) I1 _ (turn_tuple a _) ⟨_, Heap.get?_push_size _ rfl, rfl, rfl⟩ (k us _ h1 _ H1 q1 rh1 st1 (walk_ft (fun H2 tm => .inl (.inr ⟨ob, tm.frz _ _ _ e1⟩)) rr))
  · rename_i z
    cases (show x = V.str z from r1)
    obtain ⟨t, rfl⟩ := rv
    cases ha : z.cps.all (· < 128)
    · exact wpAny_pyIter_wide ha (pi_one (tk := s1.toks) I1 _ (turn_str _ z t "str_iterator" (.inr rfl)) ⟨_, Heap.get?_push_size _ rfl, rfl, rfl⟩ (k _ _ h1 _ H1 q1 rh1 st1 walk_txt))
    · exact wpAny_pyIter_ascii ha (pi_one (tk := s1.toks) I1 _ (turn_str _ z t "str_ascii_iterator" (.inl rfl)) ⟨_, Heap.get?_push_size _ rfl, rfl, rfl⟩ (k _ _ h1 _ H1 q1 rh1 st1 walk_txt))
  · rename_i p
    cases (show x = V.ref p from r1)
    cases rv
    split at q1
    · rename_i us e
      obtain ⟨vs, sq, rr⟩ := rh1.sql e
      obtain ⟨its, rv, pp, hz⟩ := I1.list sq
      refine wpAny_pyIter_list pp.isList ?_
      exact pi_one (tk := s1.toks) I1 _ (turn_list p _) ⟨_, Heap.get?_push_size _ rfl, rfl, rfl⟩ (k us _ h1 _ H1 q1 rh1 st1 walk_lst)
    · exact q1.elim
  · exact q1.elim
def zipU (xs ys : List U) : List U := List.zipWith (fun a b => U.tup [a, b]) xs ys
def enuU : Nat → List U → List U
  | _, [] => []
  | n, x :: xs => .tup [.int n, x] :: enuU (n + 1) xs
theorem enuU_len : ∀ (n : Nat) (xs : List U), (enuU n xs).length = xs.length
  | _, [] => rfl
  | n, x :: xs => by
    show (enuU (n + 1) xs).length + 1 = xs.length + 1
    rw [enuU_len (n + 1) xs]
theorem enuU_get : ∀ (n : Nat) (xs : List U) (i : Nat) (u : U), xs[i]? = some u → (enuU n xs)[i]? = some (.tup [.int ((n + i : Nat) : Int), u])
  | _, [], _, _, e => by simp at e
  | n, x :: xs, 0, u, e => by
    cases (show some x = some u by simpa using e)
    rfl
  | n, x :: xs, i + 1, u, e => by
    have := enuU_get (n + 1) xs i u (by simpa using e)
    rw [show n + 1 + i = n + (i + 1) by omega] at this
    exact this
/-- zip(a, b), any of lists, tuples, texts -/
def iZip (ta : DA) (s : SU) (h : HU) (R : List U → (HU → Prop) → HU → Prop) : Prop := ta s h fun us h1 => match us with
  | [x, y] => match srcU h1 x, srcU h1 y with
    | some xs, some ys => R (zipU xs ys) (fun h2 => srcU h2 x = some xs ∧ srcU h2 y = some ys) h1
    | _, _ => False
  | _ => False
def iEnu (ta : DA) (s : SU) (h : HU) (R : List U → (HU → Prop) → HU → Prop) : Prop := ta s h fun us h1 => match us with
  | [x] => match srcU h1 x with
    | some xs => R (enuU 0 xs) (fun h2 => srcU h2 x = some xs) h1
    | _ => False
  | _ => False
theorem far5 {n a : Nat} (h : a < n) : a ∉ [n + 4, n + 2, n + 3, n, n + 1] := by
  simp only [List.mem_cons, List.not_mem_nil, or_false, not_or]
  omega
theorem nd5 {n : Nat} : [n + 4, n + 2, n + 3, n, n + 1].Nodup := by
  simp only [List.nodup_cons, List.mem_cons, List.not_mem_nil, or_false, not_or, not_false_eq_true, List.nodup_nil, and_true]
  omega
theorem d_iZip {e e2 : Expr} {ta : DA} {p pos tpos : Pos} {elts : List Expr} {kk : Nat} (hg : Gl X "zip") (hm : X.mg "zip" = none) (ha : PDA X T [e, e2] ta)
    (hs : starEach [e, e2] X.env = (false, eval e X.env) :: starEach [e2] X.env := by rfl) (hpl : (backTo pos (starEach [e2] X.env)).any (·.1) = false := by rfl) :
    PDI X T (.Tuple elts kk tpos) (.Call (.Name "zip" p) [e, e2] [] pos) (iZip ta) := by
  refine ⟨fun pins s σ H R I ⟨su, h, r, rs, rh, hr, k⟩ => ?_⟩
  refine PyProof.Rows.Call_ (ld_blt I hg hm PyProof.Rows.boot_zip (PyProof.Rows.callWith_type1 (thn (ha.run pos pins s σ H (fun vs H1 => ∃ us h1, RUs X.K H1 us vs ∧ RH X.K T h1 H1 ∧ Stp X.K H h H1 h1 ∧ (match us with
    | [x, y] => (match srcU h1 x, srcU h1 y with
      | some xs, some ys => r (zipU xs ys) (fun h2 => srcU h2 x = some xs ∧ srcU h2 y = some ys) h1
      | _, _ => False)
    | _ => False)) I ⟨su, h, _, rs, rh, hr, fun us h1 vs H1 q1 r1 rh1 st1 => ⟨us, h1, r1, rh1, st1, q1⟩⟩) fun ws s1 ⟨vs, H1, I1, rv, us, h1, r1, rh1, st1, q1⟩ => ?_) hs hpl))
  split at q1
  · rename_i x y
    split at q1
    · rename_i xs ys e1 e2
      obtain ⟨v1, v2, rfl, ra, rb⟩ := ru2 r1
      obtain ⟨src1, zs1, ev1, hh1, rr1, k1⟩ := srcU_v rh1 ra e1
      obtain ⟨src2, zs2, ev2, hh2, rr2, k2⟩ := srcU_v rh1 rb e2
      cases rv with
      | cons w1 rv =>
        cases rv with
        | cons w2 rv =>
          cases rv
          rw [← ev1] at w1
          rw [← ev2] at w2
          obtain ⟨o1, p1, f1, i1, b1⟩ := iter_push I1 hh1 w1
          obtain ⟨o2, p2, f2, i2, b2⟩ := iter_push I1 hh2 w2
          refine call_zipM p1 p2 f1 f2 fun h' hz hTI hTO g1 g2 hk => wpAny_pyIter_zip hz ?_
          have I2 : Inv X pins σ H1 { s1 with heap := h' } := I1.kept (t' := s1.toks) hk
          refine ⟨s1.heap.objs.size + 4, [s1.heap.objs.size + 4, s1.heap.objs.size + 2, s1.heap.objs.size + 3, s1.heap.objs.size, s1.heap.objs.size + 1], _, _, H1, rfl, I2,
            turn_zipM (s1 := src1) (s2 := src2) ⟨nd5, fun a e => far5 (b1 a e), fun a e => far5 (b2 a e)⟩, ⟨hz, hTI, ⟨_, _, hTO⟩, i1 _ _ g1, i2 _ _ g2⟩, fun c hcm => ?_, k (zipU xs ys) _ h1 _ H1 q1 rh1 st1 ⟨fun i H2 h2 tm rh2 kp lt => ?_, fun H2 h2 tm rh2 kp => ?_, fun i H2 h2 x' H3 tm rh2 kp lt yy => ?_⟩⟩
          · have hle : s1.heap.objs.size ≤ c := by
              have e' : c = s1.heap.objs.size + 4 ∨ c = s1.heap.objs.size + 2 ∨ c = s1.heap.objs.size + 3 ∨ c = s1.heap.objs.size ∨ c = s1.heap.objs.size + 1 := by simpa using hcm
              rcases e' with z | z | z | z | z
              · rw [z]; exact Nat.le_add_right _ _
              · rw [z]; exact Nat.le_add_right _ _
              · rw [z]; exact Nat.le_add_right _ _
              · rw [z]; exact Nat.le_refl _
              · rw [z]; exact Nat.le_add_right _ _
            exact I1.fpOk hle (I1.hok.fresh hle)
          · obtain ⟨z1, c1, d1⟩ := k1 H2 h2 tm rh2 kp.1
            obtain ⟨z2, c2, d2⟩ := k2 H2 h2 tm rh2 kp.2
            have l1 := d1.length
            have l2 := d2.length
            have lt' : i < xs.length ∧ i < ys.length := by
              unfold zipU at lt
              rw [List.length_zipWith] at lt
              omega
            exact ⟨z1, z2, z1[i]'(by omega), z2[i]'(by omega), c1, c2, List.getElem?_eq_getElem (by omega), List.getElem?_eq_getElem (by omega)⟩
          · obtain ⟨z1, c1, d1⟩ := k1 H2 h2 tm rh2 kp.1
            obtain ⟨z2, c2, d2⟩ := k2 H2 h2 tm rh2 kp.2
            have l1 := d1.length
            have l2 := d2.length
            refine ⟨z1, z2, c1, c2, ?_⟩
            unfold zipU
            rw [List.length_zipWith]
            omega
          · obtain ⟨z1, c1, d1⟩ := k1 H2 h2 tm rh2 kp.1
            obtain ⟨z2, c2, d2⟩ := k2 H2 h2 tm rh2 kp.2
            obtain ⟨TT, a, b, rfl, nT, rfl, y1, y2⟩ := yy
            obtain ⟨u1, m1, n1⟩ := d1.back (y1 z1 c1)
            obtain ⟨u2, m2, n2⟩ := d2.back (y2 z2 c2)
            have sk : Stp X.K H2 h2 (upd H2 TT (.tup [a, b])) h2 := Stp.skip nT
            refine ⟨.tup [u1, u2], ?_, ru_mk upd_same (RUs.mono sk.tm _ _ (.cons n1 (.cons n2 .nil))), rh2.skip nT, sk⟩
            unfold zipU
            rw [List.getElem?_zipWith, m1, m2]
    · exact q1.elim
  · exact q1.elim
theorem d_iEnu {e : Expr} {ta : DA} {p pos tpos : Pos} {elts : List Expr} {kk : Nat} (hg : Gl X "enumerate") (hm : X.mg "enumerate" = none) (ha : PDA X T [e] ta)
    (hs : starEach [e] X.env = [(false, eval e X.env)] := by rfl) : PDI X T (.Tuple elts kk tpos) (.Call (.Name "enumerate" p) [e] [] pos) (iEnu ta) := by
  refine ⟨fun pins s σ H R I ⟨su, h, r, rs, rh, hr, k⟩ => ?_⟩
  refine PyProof.Rows.Call_ (ld_blt I hg hm PyProof.Rows.boot_enumerate (PyProof.Rows.callWith_type1 (thn (ha.run pos pins s σ H (fun vs H1 => ∃ us h1, RUs X.K H1 us vs ∧ RH X.K T h1 H1 ∧ Stp X.K H h H1 h1 ∧ (match us with
    | [x] => (match srcU h1 x with
      | some xs => r (enuU 0 xs) (fun h2 => srcU h2 x = some xs) h1
      | _ => False)
    | _ => False)) I ⟨su, h, _, rs, rh, hr, fun us h1 vs H1 q1 r1 rh1 st1 => ⟨us, h1, r1, rh1, st1, q1⟩⟩) fun ws s1 ⟨vs, H1, I1, rv, us, h1, r1, rh1, st1, q1⟩ => ?_) hs rfl))
  split at q1
  · rename_i x
    split at q1
    · rename_i xs e1
      obtain ⟨v1, rfl, ra⟩ := ru1 r1
      obtain ⟨src1, zs1, ev1, hh1, rr1, k1⟩ := srcU_v rh1 ra e1
      cases rv with
      | cons w1 rv =>
        cases rv
        rw [← ev1] at w1
        obtain ⟨o1, p1, f1, i1, b1⟩ := iter_push I1 hh1 w1
        refine call_enumM p1 f1 fun h' he g1 hk => wpAny_pyIter_enum he ?_
        have I2 : Inv X pins σ H1 { s1 with heap := h' } := I1.kept (t' := s1.toks) hk
        refine ⟨s1.heap.objs.size + 1, [s1.heap.objs.size + 1, s1.heap.objs.size], _, _, H1, rfl, I2, turn_enumM (s1 := src1) (Nat.succ_ne_self _) (fun a ea => ?_), ⟨⟨_, he⟩, i1 _ _ g1⟩, fun c hcm => ?_,
          k (enuU 0 xs) _ h1 _ H1 q1 rh1 st1 ⟨fun i H2 h2 tm rh2 kp lt => ?_, fun H2 h2 tm rh2 kp => ?_, fun i H2 h2 x' H3 tm rh2 kp lt yy => ?_⟩⟩
        · have := b1 a ea
          exact ⟨Nat.ne_of_lt (Nat.lt_succ_of_lt this), Nat.ne_of_lt this⟩
        · have hle : s1.heap.objs.size ≤ c := by
            have e' : c = s1.heap.objs.size + 1 ∨ c = s1.heap.objs.size := by simpa using hcm
            rcases e' with e' | e'
            · rw [e']; exact Nat.le_succ _
            · rw [e']; exact Nat.le_refl _
          exact I1.fpOk hle (I1.hok.fresh hle)
        · obtain ⟨z1, c1, d1⟩ := k1 H2 h2 tm rh2 kp
          have l1 := d1.length
          rw [enuU_len] at lt
          exact ⟨z1, z1[i]'(by omega), c1, List.getElem?_eq_getElem (by omega)⟩
        · obtain ⟨z1, c1, d1⟩ := k1 H2 h2 tm rh2 kp
          exact ⟨z1, c1, by rw [enuU_len, d1.length]⟩
        · obtain ⟨z1, c1, d1⟩ := k1 H2 h2 tm rh2 kp
          obtain ⟨TT, a, rfl, nT, rfl, y1⟩ := yy
          obtain ⟨u1, m1, n1⟩ := d1.back (y1 z1 c1)
          have sk : Stp X.K H2 h2 (upd H2 TT (.tup [.int (i : Nat), a])) h2 := Stp.skip nT
          refine ⟨.tup [.int (i : Nat), u1], ?_, ru_mk upd_same (RUs.mono sk.tm _ _ (.cons rfl (.cons n1 .nil))), rh2.skip nT, sk⟩
          have := enuU_get 0 xs i u1 m1
          rw [Nat.zero_add] at this
          exact this
    · exact q1.elim
  · exact q1.elim
end
end DL

set_option Elab.async false
set_option linter.all false
set_option maxRecDepth 100000
set_option maxHeartbeats 2000000
/-! The data layer: defs as facts, calls by name. -/
namespace DL
open PySem L2 NdefX LamX

abbrev XT (e : Ev) (base : Heap) (N : List Str) (qual : Str) (sc : Scope) (f : Addr) (cdv : Value) (A : Around) (outer : List Env) (s : Shared) (H : Hp) (E : XK) : Cx := (cxOf CX0 e.P e.w e.K e.mg base N qual sc f cdv A outer s H E).nox
/-- the room of a def's body -/
abbrev RoomB (k : Nat) (qual : Str) (sc : Scope) (f : Addr) (cdv : Value) (A : Around) (s : Shared) : Prop := Room k (A.deeper (PyProof.Rows.envOfC qual sc s.heap.objs.size f cdv))
/-- a def of the text's top -/
structure DF (e : Ev) (x : Str) (st : Stmt) (dvs : List V) : Prop where
  ex : ∃ f fd, FunD e.K x x (defArgs st) (defBody st) (defScope st) dvs [] f fd ∧ e.mg x = some (.ref f)
/-- a def that may be called by its name: k its room, sp its promise, du the defaults that are left -/
structure Cal (e : Ev) (k : Nat) (x : Str) (ps : List Str) (du : List U) (sp : DP) : Prop where
  ex : ∃ f fd ds dvs, (∀ base, FnOk e.P e.w e.K e.mg base CX0 k f fd ps (LPl e sp)) ∧ e.mg x = some (.ref f) ∧ PySem.W.keepIn e.K (.ref f) = true ∧ Binds e.K fd ps ds ∧ Vals dvs ds ∧ ∀ H, RUs e.K H du dvs
section
variable {e : Ev}
theorem def_okD {base : Heap} {x : Str} {st : Stmt} {f : Addr} {fd : FuncData} {N ps : List Str} {k : Nat} {sp : DP} {dvs : List V} (F : FunD e.K x x (defArgs st) (defBody st) (defScope st) dvs [] f fd) (S : FnScope N ps (defScope st)) (len : ∀ us h q y, sp us h q y → us.length = ps.length)
    (hbody : ∀ (cdv : Value) (A : Around) (outer : List Env) (s : Shared) (H : Hp) (h0 : HU) (E : XK), RoomB k x (defScope st) f cdv A s →
      ∃ t, PDSs (XT e base N x (defScope st) f cdv A outer s H E) ⟨e.tb, H, h0⟩ (defBody st) t ∧ ∀ us q y, sp us h0 q y → t { nx := fun _ h' => WkV q .non h', rt := WkV q } (startU N us) h0) :
    FnOk e.P e.w e.K e.mg base CX0 (k + 1) f fd ps (LPl e sp) := by
  refine F.ok S (fun vs H Q E ⟨us, h, q, y, r, _, s, _⟩ => by rw [r.length]; exact len us h q y s) fun cdv A outer s H vs Q E hr ⟨us, h, q, y, ru, rh, hs, kq, ky⟩ => ?_
  obtain ⟨t, ht, hq⟩ := hbody cdv A outer s H h E hr
  refine ⟨_, PSs.nox ht, startU N us, h, _, rs_start ru, rh, hq us q y hs, ?_⟩
  exact ⟨fun s' h' σ' H' ⟨h1, sb, z⟩ _ r2 _ => kq .non h1 .non H' z rfl (r2.sub sb), fun u h' v H' ⟨h1, sb, z⟩ r1 r2 _ => kq u h1 v H' z r1 (r2.sub sb), fun _ _ _ _ z => z.elim, fun _ _ _ _ z => z.elim⟩
/-- a def's promise, from its body -/
theorem cal_of {x : Str} {st : Stmt} {N ps : List Str} {k : Nat} {sp : DP} (d : DF e x st []) (S : FnScope N ps (defScope st)) (len : ∀ us h q y, sp us h q y → us.length = ps.length)
    (hb : ∀ (kV doc pm : Value) (an : Option Addr) (cdv ct : Value) (us : List Value), us.length = ps.length → bindArgs (PySem.W.fnOf x x (defArgs st) (defBody st) (defScope st) .none kV doc pm an cdv ct) ⟨us, []⟩ = pure (ps.zip us))
    (hbody : ∀ (f : Addr) (base : Heap) (cdv : Value) (A : Around) (outer : List Env) (s : Shared) (H : Hp) (h0 : HU) (E : XK), RoomB k x (defScope st) f cdv A s →
      ∃ t, PDSs (XT e base N x (defScope st) f cdv A outer s H E) ⟨e.tb, H, h0⟩ (defBody st) t ∧ ∀ us q y, sp us h0 q y → t { nx := fun _ h' => WkV q .non h', rt := WkV q } (startU N us) h0) : Cal e (k + 1) x ps [] sp := by
  obtain ⟨f, fd, F, hm⟩ := d.ex
  exact ⟨f, fd, [], [], fun base => def_okD F S len (hbody f base), hm, F.kp, F.bindsN hb, .nil, fun _ => RUs.nil⟩
/-- less is asked, less is promised -/
theorem Cal.mono {k : Nat} {x : Str} {ps : List Str} {du : List U} {sp : DP} (c : Cal e k x ps du sp) {k' : Nat} (h : k ≤ k') (hk : ∀ {base f fd} , FnOk e.P e.w e.K e.mg base CX0 k f fd ps (LPl e sp) → FnOk e.P e.w e.K e.mg base CX0 k' f fd ps (LPl e sp)) : Cal e k' x ps du sp := by
  obtain ⟨f, fd, ds, dvs, F, r⟩ := c.ex
  exact ⟨f, fd, ds, dvs, fun b => hk (F b), r⟩
end
section
variable {X : Cx} {T : ZC}
theorem d_callF {k j : Nat} {x : Str} {ps : List Str} {du : List U} {sp : DP} {p pos : Pos} {a : Expr} {es : List Expr} {t : DA} (c : Cal (Cxev X T) k x ps du sp) (hr : Room j X.A) (hk : k ≤ j) (ha : PDA X T (a :: es) t) (hg : Gl X x := by rfl)
    (hdb : (x == ("__debug__" : Str)) = false := by decide) (he : starEach (a :: es) X.env = (false, eval a X.env) :: starEach es X.env := by rfl) (hpl : (backTo pos (starEach es X.env)).any (·.1) = false := by rfl) :
    PD X T (.Call (.Name x p) (a :: es) [] pos) (dCall sp du x0 t) := by
  obtain ⟨f, fd, ds, dvs, F, hm, kp, hb, hd, hu⟩ := c.ex
  exact d_call (F X.base) (hr.mono hk) hg hm kp hb hd hu pass0 xok0 ha hdb he hpl
theorem dv (i : Nat) {x : Str} {pos : Pos} (hN : X.N[i]? = some x := by rfl) (hv : Vis X.env.scope x := by first | exact Or.inl rfl | exact Or.inr (Or.inl rfl) | exact Or.inr (Or.inr rfl)) (hd : (x == ("__debug__" : Str)) = false := by decide)
    (hcd : (x == ("__classdict__" : Str)) = false := by decide) : PD X T (.Name x pos) (dVar i) := d_var hN hv hd hcd
theorem hu1 {k : Nat} {A : Around} (hr : Room k A) : A.units + 1 < cLine := by have := hr.un; omega
theorem hu64 {k : Nat} {A : Around} (hr : Room k A) : A.units + 64 < cLine := by have := hr.un; omega
theorem hu65 {k : Nat} {A : Around} (hr : Room k A) : A.units + 65 < cLine := by have := hr.un; omega
theorem dn (i : Nat) {x : Str} {pos : Pos} (hN : X.N.Nodup) (hi : X.N[i]? = some x := by rfl) (hx : Loc X.env.scope x := by first | exact Or.inl rfl | exact Or.inr rfl) (hf : X.fn x = true ∨ X.env.scope.names.lookup x = some .local := by first | exact .inl rfl | exact .inr rfl) : PDG X T (.Name x pos) (gNm i) := d_name hN hi hx hf
theorem pn (i : Nat) {x : Str} {pos : Pos} (hN : X.N.Nodup) (hi : X.N[i]? = some x := by rfl) (hx : Loc X.env.scope x := by first | exact Or.inl rfl | exact Or.inr rfl) (hf : X.fn x = true ∨ X.env.scope.names.lookup x = some .local := by first | exact .inl rfl | exact .inr rfl) : PG X (.Name x pos) (gName i) := pg_name hN hi hx hf
theorem dset (i : Nat) {x : Str} {e : Expr} {te : DE} {pos pos' : Pos} (hN : X.N.Nodup) (he : PD X T e te) (hi : X.N[i]? = some x := by rfl) (hx : Loc X.env.scope x := by first | exact Or.inl rfl | exact Or.inr rfl) (hs : swapsWith e (some (.Name x pos')) pos.line X.env = pure false := by rfl) (hf : X.fn x = true ∨ X.env.scope.names.lookup x = some .local := by first | exact .inl rfl | exact .inr rfl) :
    PDS X T (.Assign [.Name x pos'] e pos) (dAsg te (gNm i)) := d_set hN hi hx he hs hf
end
end DL

set_option Elab.async false
set_option linter.all false
set_option maxRecDepth 100000
set_option maxHeartbeats 2000000
/-! The data layer: displays of dicts, reversed slices, isinstance, held defs. -/
namespace DL
open PySem L2 NdefX LamX
section
variable {X : Cx} {T : ZC}
/-! ### {k: v, ..} -/
def dKv0 (s : SU) (h : HU) (Q : List (U × U) → HU → Prop) : Prop := Q [] h
def dKv (tk tv : DE) (r : SU → HU → (List (U × U) → HU → Prop) → Prop) (s : SU) (h : HU) (Q : List (U × U) → HU → Prop) : Prop := tk s h fun x h1 => tv s h1 fun y h2 => r s h2 fun ps h3 => Q ((x, y) :: ps) h3
def keyPs : List (U × U) → Option (List (Key × U))
  | [] => some []
  | (k, v) :: r => match keyU k, keyPs r with
    | some a, some b => some ((a, v) :: b)
    | _, _ => none
def mergeU (kvs : List (Key × U)) : List (Key × U) → List (Key × U)
  | [] => kvs
  | p :: r => mergeU (putU kvs p.1 p.2) r
abbrev RPs (K : PySem.W.Frag) (H : Hp) : List (U × U) → List (V × V) → Prop := Paired fun p q => RU K H p.1 q.1 ∧ RU K H p.2 q.2
structure PKv (X : Cx) (T : ZC) (pos : Pos) (keys : List (Option Expr)) (values : List Expr) (t : SU → HU → (List (U × U) → HU → Prop) → Prop) : Prop where
  run : ∀ (pins : List (Addr × Obj)) (s : Shared) (σ : L2.St) (H : Hp) (su : SU) (h : HU) (q : List (U × U) → HU → Prop), Inv X pins σ H s → RS X.K H su σ → RH X.K T h H → t su h q →
    wpAny (model X.prog X.w) X.A (evalPairs (pairTrees keys values X.env pos)) (fun vs s' => ∃ ps H' us h', Inv X pins σ H' s' ∧ VV ps vs ∧ RPs X.K H' us ps ∧ RH X.K T h' H' ∧ Stp X.K H h H' h' ∧ q us h') X.xe s
theorem d_kv0 {pos : Pos} : PKv X T pos [] [] dKv0 := ⟨fun pins s σ H su h q I rs rh hq => pairTrees_nil_walk ⟨[], H, [], h, I, .nil, .nil, rh, Stp.refl, hq⟩⟩
theorem d_kv {pos : Pos} {k v : Expr} {ks : List (Option Expr)} {vs : List Expr} {tk tv : DE} {r : SU → HU → (List (U × U) → HU → Prop) → Prop} (hk : PD X T k tk) (hv : PD X T v tv) (hr : PKv X T pos ks vs r) : PKv X T pos (some k :: ks) (v :: vs) (dKv tk tv r) := by
  refine ⟨fun pins s σ H su h q I rs rh hq => ?_⟩
  refine pairTrees_cons_walk (thn (hk.run pins s σ H (fun a H1 => ∃ u h1, RU X.K H1 u a ∧ RH X.K T h1 H1 ∧ Stp X.K H h H1 h1 ∧ tv su h1 fun y h2 => r su h2 fun ps h3 => q ((u, y) :: ps) h3) I ⟨su, h, _, rs, rh, hq, fun u h1 a H1 q1 r1 rh1 st1 => ⟨u, h1, r1, rh1, st1, q1⟩⟩)
    fun u s1 ⟨a, H1, I1, ra, u1, h1, r1, rh1, st1, q1⟩ => ?_)
  refine thn (hv.run pins s1 σ H1 (fun b H2 => ∃ u2 h2, RU X.K H2 u2 b ∧ RH X.K T h2 H2 ∧ Stp X.K H1 h1 H2 h2 ∧ r su h2 fun ps h3 => q ((u1, u2) :: ps) h3) I1 ⟨su, h1, _, rs.mono st1.tm, rh1, q1, fun u h2 a H2 q2 r2 rh2 st2 => ⟨u, h2, r2, rh2, st2, q2⟩⟩)
    fun w2 s2 ⟨b, H2, I2, rb, u2, h2, r2, rh2, st2, q2⟩ => ?_
  refine thn (hr.run pins s2 σ H2 su h2 _ I2 (rs.mono (st1.trans st2).tm) rh2 q2) fun ws s3 ⟨ps, H3, us, h3, I3, rel, rp, rh3, st3, q3⟩ => ?_
  exact ⟨(a, b) :: ps, H3, (u1, u2) :: us, h3, I3, .cons ⟨ra, rb⟩ rel, .cons ⟨RU.mono (st2.trans st3).tm _ _ r1, RU.mono st3.tm _ _ r2⟩ rp, rh3, st1.trans (st2.trans st3), q3⟩
/-- keys ints and texts -/
def dDis (t : SU → HU → (List (U × U) → HU → Prop) → Prop) (s : SU) (h : HU) (Q : DV) : Prop := t s h fun ps h1 => ∃ kvs, keyPs ps = some kvs ∧ kvs.length ≤ 15 ∧ ∀ p, h1 p = none → Q (.ref p) (updU h1 p (.dK (mergeU [] kvs)))
theorem keyPs_v {K : PySem.W.Frag} {H : Hp} : ∀ {us : List (U × U)} {kvs : List (Key × U)} {ps : List (V × V)}, keyPs us = some kvs → RPs K H us ps → ∃ kw : List (Key × V), ps = kw.map (fun kv => (kV kv.1, kv.2)) ∧ RKV K H kvs kw
  | [], kvs, ps, e, r => by
    cases (show some ([] : List (Key × U)) = some kvs from e)
    cases r
    exact ⟨[], rfl, .nil⟩
  | (k, v) :: us, kvs, ps, e, r => by
    cases r with
    | @cons _ q _ qs r1 t =>
      unfold keyPs at e
      split at e
      · rename_i a b e1 e2
        cases e
        obtain ⟨kw, e3, r3⟩ := keyPs_v e2 t
        exact ⟨(a, q.2) :: kw, by rw [List.map_cons, ← e3, ← keyU_v e1 r1.1], .cons ⟨rfl, r1.2⟩ r3⟩
      · cases e
theorem putU_nodup : ∀ {kvs : List (Key × U)} {k : Key} {v : U}, (kvs.map (·.1)).Nodup → ((putU kvs k v).map (·.1)).Nodup
  | [], k, v, _ => by
    show [k].Nodup
    exact List.nodup_cons.mpr ⟨List.not_mem_nil, List.nodup_nil⟩
  | p :: r, k, v, nd => by
    rw [List.map_cons, List.nodup_cons] at nd
    show ((if p.1 = k then (k, v) :: r else p :: putU r k v).map (·.1)).Nodup
    split
    · rename_i e
      rw [List.map_cons, List.nodup_cons]
      exact ⟨by rw [← e]; exact nd.1, nd.2⟩
    · rename_i e
      rw [List.map_cons, List.nodup_cons]
      refine ⟨fun m => ?_, putU_nodup nd.2⟩
      have sub : ∀ {l : List (Key × U)} {x : Key}, x ∈ (putU l k v).map (·.1) → x = k ∨ x ∈ l.map (·.1) := by
        intro l
        induction l with
        | nil => intro x hx; exact .inl (by simpa [putU] using hx)
        | cons q l ih =>
          intro x hx
          have hx' : x ∈ (if q.1 = k then (k, v) :: l else q :: putU l k v).map (·.1) := hx
          split at hx'
          · rcases List.mem_cons.mp hx' with z | z
            · exact .inl z
            · exact .inr (List.mem_cons_of_mem _ z)
          · rcases List.mem_cons.mp hx' with z | z
            · exact .inr (by rw [z]; exact List.mem_cons_self)
            · rcases ih z with w | w
              · exact .inl w
              · exact .inr (List.mem_cons_of_mem _ w)
      rcases sub m with z | z
      · exact e z
      · exact nd.1 z
theorem merge_rel {K : PySem.W.Frag} {H : Hp} : ∀ {more kvs : List (Key × U)} {mw kw : List (Key × V)}, RKV K H more mw → RKV K H kvs kw → (kvs.map (·.1)).Nodup → RKV K H (mergeU kvs more) (mergeK kw mw)
  | [], kvs, mw, kw, r, q, _ => by
    cases r
    exact q
  | p :: r, kvs, mw, kw, rr, q, nd => by
    cases rr with
    | @cons _ b _ bs h t =>
      show RKV K H (mergeU (putU kvs p.1 p.2) r) (mergeK (putK kw b.1 b.2) bs)
      rw [← h.1]
      exact merge_rel t (RKV.put p.1 q nd h.2) (putU_nodup nd)
theorem d_dis {pos : Pos} {keys : List (Option Expr)} {values : List Expr} {t : SU → HU → (List (U × U) → HU → Prop) → Prop} (hp : PKv X T pos keys values t) (hall : keys.all (·.isSome) = true := by rfl) (hl : keys.length = values.length := by rfl) (h0 : keys ≠ [] := by exact List.cons_ne_nil _ _)
    (h15 : keys.length ≤ 15 := by decide) : PD X T (.Dict keys values pos) (dDis t) := by
  refine ⟨fun pins s σ H Q I ⟨su, h, q, rs, rh, hq, k⟩ => ?_⟩
  have hn := I.hok.fresh (Nat.le_refl s.heap.objs.size)
  have I1 := I.laid (a := s.heap.objs.size) (o := .dK []) (h' := s.heap.push { cls := .type "dict", data := .dict #[] }) (t' := s.toks) (fun _ _ q => Heap.get?_push_of_some _ q) (Nat.le_refl _) (dk_empty s.heap I.big)
  have st0 : Stp X.K H h (upd H s.heap.objs.size (.dK [])) h := Stp.skip hn
  refine wpAny_Dict_walk (knd := mixKind X.prog X.w) hall hl h0 h15 (thn (hp.run pins _ σ _ su h _ I1 (rs.mono st0.tm) (rh.skip hn) hq) fun ws s2 ⟨ps, H2, us, h2, I2, rel, rp, rh2, st2, kvs, ek, lk, q2⟩ => ?_)
  obtain ⟨kw, ew, rw'⟩ := keyPs_v ek rp
  subst ew
  have hfree : h s.heap.objs.size = none := rh.free hn
  have e : H2 s.heap.objs.size = some (.dK []) := st2.rest _ _ upd_same (fun ps z => nomatch z) hfree
  have nf : h2 s.heap.objs.size = none := st2.own _ (by rw [upd_same]; exact fun z => nomatch z) hfree
  obtain ⟨rs', c, rk⟩ := carries_of (P := X.prog) (w := X.w) rel
  obtain ⟨z, hd, vs0, r0, dd⟩ := dk_of I2.hok e
  cases r0
  refine ⟨rs', c, dd, fun h' dd' hs => ?_⟩
  have lw : kw.length ≤ 15 := by rw [← RKV.length rw']; exact lk
  have hz : (mergeK [] kw).length ≤ sizeLine := by
    have h1 := length_mergeK kw []
    rw [List.length_nil] at h1
    have := small1000 (n := (mergeK [] kw).length) (by omega)
    omega
  have he : ∃ q, h'.get? s.heap.objs.size = some q := let ⟨q, _, _, hq, _⟩ := dd'; ⟨q, hq⟩
  have sf : Soft (H2 s.heap.objs.size) := by rw [e]; trivial
  have tm : TM X.K H2 (upd H2 s.heap.objs.size (.dK (mergeK [] kw))) := TM.upd sf
  have rh3 : RH X.K T (updU h2 s.heap.objs.size (.dK (mergeU [] kvs))) (upd H2 s.heap.objs.size (.dK (mergeK [] kw))) := by
    refine ⟨fun a o ea => ?_, fun p hp => TabN.upd (rh2.tab p hp) sf, ⟨rh2.st0.tm.trans tm, fun a l ea => ?_, fun a o ea n z => ?_⟩⟩
    · by_cases z : a = s.heap.objs.size
      · rw [z, updU_same] at ea
        cases ea
        exact ⟨_, by rw [z]; exact upd_same, _, rfl, RKV.mono tm (merge_rel rw' .nil List.nodup_nil)⟩
      · rw [updU_ne z] at ea
        obtain ⟨ho, e1, r1⟩ := rh2.obj a o ea
        exact ⟨ho, by rw [upd_ne z]; exact e1, r1.mono tm⟩
    · have l0 := rh.st0.tm.live a l
      rw [updU_ne (fun z => l0 (by rw [z]; exact hn))]
      exact rh2.st0.own a l ea
    · have l0 := rh.st0.tm.live a (by rw [ea]; exact fun q => nomatch q)
      rw [upd_ne (fun z => l0 (by rw [z]; exact hn))]
      exact rh2.st0.rest a o ea n z
  have I3 := d_write (t' := s2.toks + ws.length) I2 (by rw [e]; exact True.intro) hs he (dk_new hz hd (rk.merge .nil) dd')
  have st02 := st0.trans st2
  refine ⟨.ref s.heap.objs.size, _, I3, rfl, k _ _ _ _ (q2 _ nf) rfl rh3 ⟨st02.tm.trans tm, fun a l ea => ?_, fun a o ea n z => ?_⟩⟩
  · rw [updU_ne (fun z => l (by rw [z]; exact hn))]
    exact st02.own a l ea
  · rw [upd_ne (fun z => by rw [z, hn] at ea; cases ea)]
    exact st02.rest a o ea n z
/-- one pair, its key a tuple of ints and texts -/
def dDisT (t : SU → HU → (List (U × U) → HU → Prop) → Prop) (s : SU) (h : HU) (Q : DV) : Prop := t s h fun ps h1 => match ps with
  | [(k, v)] => match keyT k with
    | some ks => ∀ p, h1 p = none → Q (.ref p) (updU h1 p (.dT [(ks, v)]))
    | none => False
  | _ => False
theorem d_disT {pos : Pos} {ke ve : Expr} {t : SU → HU → (List (U × U) → HU → Prop) → Prop} (hu : X.A.units + 1 < cLine) (hp : PKv X T pos [some ke] [ve] t) : PD X T (.Dict [some ke] [ve] pos) (dDisT t) := by
  refine ⟨fun pins s σ H Q I ⟨su, h, q, rs, rh, hq, k⟩ => ?_⟩
  have hn := I.hok.fresh (Nat.le_refl s.heap.objs.size)
  have I1 := I.laid (a := s.heap.objs.size) (o := .dT []) (h' := s.heap.push { cls := .type "dict", data := .dict #[] }) (t' := s.toks) (fun _ _ q => Heap.get?_push_of_some _ q) (Nat.le_refl _) (dt_empty s.heap I.big)
  have st0 : Stp X.K H h (upd H s.heap.objs.size (.dT [])) h := Stp.skip hn
  have hle : (pairTrees [some ke] [ve] X.env pos).length ≤ 15 := by
    show (1 : Nat) ≤ 15
    decide
  rw [arm_eval_Dict, zip_pairTrees [some ke] [ve] X.env pos rfl rfl, dictDisplay_pairs (pairTrees [some ke] [ve] X.env pos) (fun z => nomatch z) (by omega)]
  refine wpAny_bind (wpAny_standAt (wpAny_bind (wpAny_subDictH (knd := tupleKind (mixKind X.prog X.w)) (show X.A.units < cLine from Nat.lt_of_le_of_lt (Nat.le_add_right _ _) hu) hle (thn (hp.run pins _ σ _ su h _ I1 (rs.mono st0.tm) (rh.skip hn) hq) fun ws s2 ⟨ps, H2, us, h2, I2, rel, rp, rh2, st2, q2⟩ => ?_))))
  split at q2
  · rename_i ku vu
    split at q2
    · rename_i ks ek
      cases rp with
      | @cons _ pv _ ps1 r1 tl =>
        cases tl
        cases rel with
        | @cons _ w1 _ ws1 r2 tl2 =>
          cases tl2
          obtain ⟨w1k, w1v⟩ := w1
          obtain ⟨pk, pw⟩ := pv
          have hfree : h s.heap.objs.size = none := rh.free hn
          have e : H2 s.heap.objs.size = some (.dT []) := st2.rest _ _ upd_same (fun ps z => nomatch z) hfree
          have nf : h2 s.heap.objs.size = none := st2.own _ (by rw [upd_same]; exact fun z => nomatch z) hfree
          obtain ⟨z, hd, xs, r0, dd⟩ := dt_of I2.hok e
          cases r0
          cases ku <;> first | cases ek | skip
          rename_i kus
          obtain ⟨b, bs, eb, tb, rb⟩ := ru_tup r1.1
          have ebs := keysU_v ek rb
          have eb' : pk = V.ref b := eb
          subst eb'
          subst ebs
          have r21 : RelV (V.ref b) w1k := r2.1
          cases r21
          refine ⟨[(ks, b, w1v)], ⟨rfl, rfl, key_of I2.hok tb, trivial⟩, dd, fun h' tk dd' hs => wpAny_pure ?_⟩
          obtain ⟨ob, es, ep, ho, hx, hdat, he, his, hnd⟩ := dd'
          have sf : Soft (H2 s.heap.objs.size) := by rw [e]; trivial
          have tm : TM X.K H2 (upd H2 s.heap.objs.size (.dT [(ks, pw)])) := TM.upd sf
          have I3 : Inv X pins σ (upd H2 s.heap.objs.size (.dT [(ks, pw)])) { s2 with heap := h', toks := tk } := d_write (t' := tk) I2 (by rw [e]; exact True.intro) hs ⟨ob, ho⟩
            ⟨Nat.le_of_lt (small1000 (show (1 : Nat) ≤ 1000 by decide)), hd, [(ks, b, w1v)], .cons ⟨rfl, tm.tup _ _ tb, r2.2⟩ .nil, ob, es, ep, ho, hx, hdat, he, hnd⟩
          have st02 := st0.trans st2
          have rh3 : RH X.K T (updU h2 s.heap.objs.size (.dT [(ks, vu)])) (upd H2 s.heap.objs.size (.dT [(ks, pw)])) := by
            refine ⟨fun a o ea => ?_, fun p hp => TabN.upd (rh2.tab p hp) sf, ⟨rh2.st0.tm.trans tm, fun a l ea => ?_, fun a o ea n z => ?_⟩⟩
            · by_cases z : a = s.heap.objs.size
              · rw [z, updU_same] at ea
                cases ea
                exact ⟨_, by rw [z]; exact upd_same, _, rfl, RKV.mono tm (.cons ⟨rfl, r1.2⟩ .nil)⟩
              · rw [updU_ne z] at ea
                obtain ⟨ho, e1, r1⟩ := rh2.obj a o ea
                exact ⟨ho, by rw [upd_ne z]; exact e1, r1.mono tm⟩
            · have l0 := rh.st0.tm.live a l
              rw [updU_ne (fun z => l0 (by rw [z]; exact hn))]
              exact rh2.st0.own a l ea
            · have l0 := rh.st0.tm.live a (by rw [ea]; exact fun q => nomatch q)
              rw [upd_ne (fun z => l0 (by rw [z]; exact hn))]
              exact rh2.st0.rest a o ea n z
          refine ⟨.ref s.heap.objs.size, _, I3, rfl, k _ _ _ _ (q2 _ nf) rfl rh3 ⟨st02.tm.trans tm, fun a l ea => ?_, fun a o ea n z => ?_⟩⟩
          · rw [updU_ne (fun z => l (by rw [z]; exact hn))]
            exact st02.own a l ea
          · rw [upd_ne (fun z => by rw [z, hn] at ea; cases ea)]
            exact st02.rest a o ea n z
    · exact q2.elim
  · exact q2.elim
end
end DL

set_option Elab.async false
set_option linter.all false
set_option maxRecDepth 100000
set_option maxHeartbeats 2000000
/-! The data layer: isinstance, reversed slices, held defs, lists unpacked. -/
namespace DL
open PySem L2 NdefX LamX
section
variable {X : Cx} {T : ZC}
/-! ### isinstance(x, a built-in type) -/
def tyU (h : HU) : U → Option String
  | .non => some "NoneType"
  | .bl _ => some "bool"
  | .int _ => some "int"
  | .str _ => some "str"
  | .tup _ => some "tuple"
  | .ft _ => some "tuple"
  | .ref p => match h p with
    | some (.lst _) => some "list"
    | some (.lck _) => some "list"
    | some (.dK _) => some "dict"
    | some (.dT _) => some "dict"
    | _ => none
  | _ => none
def isTy (t n : String) : Bool := t == n || (t == "bool" && n == "int")
def okTy (n : String) : Bool := n == "tuple" || n == "list" || n == "bool" || n == "int" || n == "str" || n == "dict"
theorem tyU_v {K : PySem.W.Frag} {h : HU} {H : Hp} {u : U} {v : V} {t : String} (rh : RH K T h H) (r : RU K H u v) (e : tyU h u = some t) : TyX K H v (.type t) ∧ (t = "NoneType" ∨ t = "bool" ∨ t = "int" ∨ t = "str" ∨ t = "tuple" ∨ t = "list" ∨ t = "dict") := by
  cases u with
  | non => cases (show some "NoneType" = some t from e); cases (show v = V.non from r); exact ⟨.base .non, by simp⟩
  | bl b => cases (show some "bool" = some t from e); cases (show v = V.bl b from r); exact ⟨.base (.bl b), by simp⟩
  | int b => cases (show some "int" = some t from e); cases (show v = V.int b from r); exact ⟨.base (.int b), by simp⟩
  | str b => cases (show some "str" = some t from e); cases (show v = V.str b from r); exact ⟨.base (.str b), by simp⟩
  | tup us =>
    cases (show some "tuple" = some t from e)
    obtain ⟨a, vs, rfl, e1, _⟩ := ru_tup r
    exact ⟨.base (.tup e1), by simp⟩
  | ft us =>
    cases (show some "tuple" = some t from e)
    obtain ⟨a, vs, rfl, _, _, ob, e1, _⟩ := ru_ft r
    exact ⟨.fTuple e1, by simp⟩
  | ref p =>
    cases (show v = V.ref p from r)
    have e : (match h p with
      | some (.lst _) => some "list"
      | some (.lck _) => some "list"
      | some (.dK _) => some "dict"
      | some (.dT _) => some "dict"
      | _ => none) = some t := e
    split at e
    · rename_i us e1
      cases e
      obtain ⟨ho, e2, vs, rfl, _⟩ := rh.obj p _ e1
      exact ⟨.base (.lst e2), by simp⟩
    · rename_i us e1
      cases e
      obtain ⟨ho, e2, ob, vs, rfl, _⟩ := rh.obj p _ e1
      exact ⟨.base (.frz e2), by simp⟩
    · rename_i us e1
      cases e
      obtain ⟨ho, e2, vs, rfl, _⟩ := rh.obj p _ e1
      exact ⟨.base (.dK e2), by simp⟩
    · rename_i us e1
      cases e
      obtain ⟨ho, e2, vs, rfl, _⟩ := rh.obj p _ e1
      exact ⟨.base (.dT e2), by simp⟩
    · cases e
  | ty n => cases e
  | clo F => cases e
theorem kit_all {K : PySem.W.Frag} {t n : String} (ht : t = "NoneType" ∨ t = "bool" ∨ t = "int" ∨ t = "str" ∨ t = "tuple" ∨ t = "list" ∨ t = "dict") (hn : okTy n = true) : PySem.W.kitOne K (.type t) (.type n) = some (isTy t n) := by
  have hn' : n = "tuple" ∨ n = "list" ∨ n = "bool" ∨ n = "int" ∨ n = "str" ∨ n = "dict" := by
    unfold okTy at hn
    simp only [Bool.or_eq_true, beq_iff_eq, or_assoc] at hn
    exact hn
  refine kit_ty ?_
  rcases ht with rfl | rfl | rfl | rfl | rfl | rfl | rfl <;> rcases hn' with rfl | rfl | rfl | rfl | rfl | rfl <;> decide +kernel
def cIsi : DC1 := fun us h Q => match us with
  | [x, .ty n] => match tyU h x with
    | some t => okTy n = true ∧ Q (.bl (isTy t n)) h
    | none => False
  | _ => False
theorem c_isi : CallR X (.builtin "isinstance") (LC X.K T cIsi) := by
  intro pins s σ H xs ws Q I rv ⟨us, h, q, ru, rh, hr, k⟩
  unfold cIsi at hr
  split at hr
  · rename_i x n
    obtain ⟨v, w, rfl, r1, r2⟩ := ru2 ru
    cases (show w = V.ty n from r2)
    split at hr
    · rename_i t et
      obtain ⟨ty, ht⟩ := tyU_v rh r1 et
      exact call_isi pins s σ H _ ws Q I rv ⟨v, .ty n, .type t, .type n, _, rfl, .ty n, ty, kit_all ht hr.1, stay k hr.2 rfl rh⟩
    · exact hr.elim
  · exact hr.elim
/-! ### x[::-1] -/
def dRev (te : DE) (s : SU) (h : HU) (Q : DV) : Prop := te s h fun u h1 => match u with
  | .ref p => match lstU h1 p with
    | some us => ∀ r, h1 r = none → Q (.ref r) (updU h1 r (.lst us.reverse))
    | none => False
  | _ => False
theorem d_rev {e : Expr} {te : DE} {k : Nat} {p1 p2 p3 pos : Pos} (he : PD X T e te) : PD X T (.Subscript e (.Slice none none (some (.UnaryOp .USub (.Constant (.int 1) k p1) p2)) p3) pos) (dRev te) := PE.weak (pe_revL he) fun σ H Q ⟨s, h, q, rs, rh, hq, k⟩ =>
  ⟨s, h, _, rs, rh, hq, fun u h1 v H1 q1 r1 rh1 st1 => by
    split at q1
    · rename_i p
      cases (show v = V.ref p from r1)
      split at q1
      · rename_i us e
        obtain ⟨vs, sq, rr⟩ := rh1.sql e
        exact ⟨p, vs, rfl, sq, fun r nr => k _ _ _ _ (q1 r (rh1.free nr)) rfl (rh1.new nr ⟨_, rfl, rr.reverse⟩) (st1.trans (Stp.new nr))⟩
      · exact q1.elim
    · exact q1.elim⟩
/-- a text -/
def revS (z : Str) : Str := ⟨z.cps.toList.reverse.toArray⟩
def dRevS (te : DE) (s : SU) (h : HU) (Q : DV) : Prop := te s h fun u h1 => match u with
  | .str z => z.length ≤ sizeLine ∧ Q (.str (revS z)) h1
  | _ => False
theorem sliceBy_rev (z : Str) (t : Tok) : Txt.sliceBy z none none (-1, t) = revS z := by
  have e := PyProof.Rows.step_rev_list z t
  have e2 : (Txt.sliceBy z none none (-1, t)).cps.toList = z.cps.toList.reverse := by
    rw [e]
    apply List.ext_getElem?
    intro i
    rw [List.getElem?_map]
    by_cases hi : i < z.cps.toList.length
    · have hl : z.length = z.cps.toList.length := by
        show z.cps.size = _
        rw [Array.length_toList]
      rw [List.getElem?_range (by omega), List.getElem?_reverse hi, hl]
      show some (z.cps.getD (z.cps.toList.length - 1 - i) 0) = _
      have hlt : z.cps.toList.length - 1 - i < z.cps.toList.length := by omega
      rw [List.getElem?_eq_getElem hlt, Array.getD_eq_getD_getElem?, ← Array.getElem?_toList, List.getElem?_eq_getElem hlt]
      rfl
    · have hl : z.length = z.cps.toList.length := by
        show z.cps.size = _
        rw [Array.length_toList]
      rw [List.getElem?_eq_none (by rw [List.length_range]; omega), List.getElem?_eq_none (by rw [List.length_reverse]; omega)]
      rfl
  unfold revS
  rw [← e2]
theorem d_revS {e : Expr} {te : DE} {k : Nat} {p1 p2 p3 pos : Pos} (he : PD X T e te) : PD X T (.Subscript e (.Slice none none (some (.UnaryOp .USub (.Constant (.int 1) k p1) p2)) p3) pos) (dRevS te) := by
  refine ⟨fun pins s σ H Q I ⟨su, h, q, rs, rh, hq, kk⟩ => ?_⟩
  refine PyProof.Rows.Subscript_ (thn (he.run pins s σ H (fun v H1 => ∃ z h1, v = V.str z ∧ RH X.K T h1 H1 ∧ Stp X.K H h H1 h1 ∧ z.length ≤ sizeLine ∧ q (.str (revS z)) h1) I ⟨su, h, _, rs, rh, hq, fun u h1 v H1 q1 r1 rh1 st1 => ?_⟩) fun v s1 ⟨x, H1, I1, rx, z, h1, ez, rh1, st1, hz, q1⟩ => ?_)
  · split at q1
    · rename_i z
      exact ⟨z, h1, r1, rh1, st1, q1.1, q1.2⟩
    · exact q1.elim
  subst ez
  obtain ⟨t, rfl⟩ := rx
  have hst : PO X (some (.UnaryOp .USub (.Constant (.int 1) k p1) p2)) (tPart (tUn (rU fun i => .int (-i)) (tC (.int 1)))) := po_some (pe_un un_neg pe_int)
  refine wpAny_Slice (thn (po_none.run pins s1 σ H1 (fun o H2 => o = none ∧ H2 = H1) I1 ⟨rfl, rfl⟩) fun vl s2 ⟨l, H2, I2, pl, el, e2⟩ => ?_)
  subst el e2
  refine thn (po_none.run pins s2 σ H2 (fun o H3 => o = none ∧ H3 = H2) I2 ⟨rfl, rfl⟩) fun vu s3 ⟨u, H3, I3, pu, eu, e3⟩ => ?_
  subst eu e3
  refine thn (hst.run pins s3 σ H3 (fun o H4 => o = some (-1) ∧ H4 = H3) I3 ⟨1, rfl, -1, rfl, rfl, rfl⟩) fun vs s4 ⟨o, H4, I4, ps, eo, e4⟩ => ?_
  subst eo e4
  cases pl
  cases pu
  cases ps with
  | int _ tk =>
  have I5 : Inv X pins σ H4 { s4 with heap := s4.heap.push { cls := .type "slice", data := .fields #[.none, .none, .int (-1) tk] } } := I4.kept (t' := s4.toks) fun b ob q => Heap.get?_push_of_some _ q
  show wpAny (model X.prog X.w) X.A (PyProof.Rows.subscriptTail e (.Slice none none (some (.UnaryOp .USub (.Constant (.int 1) k p1) p2)) p3) (.str z t) (.ref s4.heap.objs.size)) (EP X pins σ Q) X.xe { s4 with heap := s4.heap.push { cls := .type "slice", data := .fields #[.none, .none, .int (-1) tk] } }
  refine PyProof.Rows.tail_any (ops := [.ref s4.heap.objs.size, .str z t]) (typeIs_str _ _ _) (PySem.F.slot_str_getitem.lookup) ?_ (by with_unfolding_all rfl)
  refine wpAny_getItem_str_slice (l := none) (u := none) (st := some (-1, tk)) ⟨_, Heap.get?_push_size _ rfl, rfl, rfl⟩ rfl ?_
  have er := sliceBy_rev z tk
  refine post_val_or_str ⟨Nat.le_trans (Txt.sliceBy_le z none none (-1, tk) (show (-1 : Int) ≠ 0 by decide)) hz, fun t' c => ?_⟩
  show EP X pins σ Q (.str (Txt.sliceBy z none none (-1, tk)) t') _
  rw [er]
  exact ⟨.str (revS z), H4, I5.tok _, ⟨_, rfl⟩, kk _ _ _ _ q1 rfl rh1 st1⟩
/-! ### a, b = a list -/
def gUnpL (is : List Nat) (u : U) (s : SU) (h : HU) (Q : SU → HU → Prop) : Prop := match u with
  | .ref p => match lstU h p with
    | some us => gNms is us s h Q
    | none => False
  | _ => False
theorem d_unpackL {pos : Pos} {es : List Expr} {k : Nat} {is : List Nat} {n : Nat} (hc : X.calm = true) (g : PGs X es (gVs is)) (hl : is.length = n := by rfl)
    (hn : (assignEach es X.env).length = n := by rfl) (hst : (assignEach es X.env).findIdx? (·.1) = none := by rfl) : PDG X T (.Tuple es k pos) (gUnpL is) :=
  PG.weak (pg_lst hc g hn hst) fun v σ H Q ⟨u, s, h, q, ru, rs, rh, hq, k⟩ => by
    unfold gUnpL at hq
    split at hq
    · rename_i p
      cases (show v = V.ref p from ru)
      split at hq
      · rename_i us e
        obtain ⟨vs, sq, rr⟩ := rh.sql e
        exact ⟨p, vs, rfl, sq, by rw [rr.length, gNms_len _ _ _ _ _ hq, hl], gVs_go is us vs s h q σ H Q rr rs hq fun s' σ' q' r' => k s' h σ' H q' r' rh Stp.refl⟩
      · exact hq.elim
    · exact hq.elim
/-! ### methods of texts -/
def mSidx : DM := fun x us h Q => match x, us with
  | .str a, [.str b] => ∃ i rest, Builtin.Str.occurrences a b 0 a.length 1 = i :: rest ∧ Q (.int (i : Nat)) h
  | _, _ => False
theorem m_sidx : MtR X "str.index" (LM X.K T mSidx) := by
  intro pins s σ H x xs v ws Q I rx rv ⟨a, us, h, q, ra, ru, rh, hr, k⟩
  unfold mSidx at hr
  split at hr
  · rename_i a b
    cases (show x = V.str a from ra)
    obtain ⟨w, rfl, r1⟩ := ru1 ru
    cases (show w = V.str b from r1)
    obtain ⟨i, rest, e, hr⟩ := hr
    exact mt_sindex pins s σ H _ _ v ws Q I rx rv ⟨a, b, i, rest, rfl, rfl, e, stay k hr rfl rh⟩
  · exact hr.elim
/-! ### a text, so many times: none or one -/
def oMulS : D2 := fun x y h Q => match x, y with
  | .str z, .int n => (n = 0 ∧ Q (.str ⟨#[]⟩) h) ∨ (n = 1 ∧ z.length ≤ sizeLine ∧ Q (.str z) h)
  | _, _ => False
theorem o_mulS : OpR X (binaryOp .Mult) (LO X.K T oMulS) := by
  intro pins s σ H x y v u Q I rx ry ⟨a, b, h, q, ra, rb, rh, hr, k⟩
  cases a <;> cases b <;> try exact hr.elim
  rename_i z n
  cases (show x = V.str z from ra)
  cases (show y = V.int n from rb)
  obtain ⟨t, rfl⟩ := rx
  obtain ⟨t2, rfl⟩ := ry
  rcases hr with ⟨rfl, hr⟩ | ⟨rfl, hz, hr⟩
  · refine P.mul_str_none (by decide) (by decide) ?_
    exact ⟨.str ⟨#[]⟩, H, I.tok _, ⟨_, rfl⟩, stay k hr rfl rh⟩
  · refine P.mul_str (by decide) (fun _ e => by simp at e) (fun _ e => by simp at e) ?_
    rw [if_neg (by decide), if_pos (by rfl)]
    exact ⟨.str z, H, I, ⟨_, rfl⟩, stay k hr rfl rh⟩
end
end DL

set_option Elab.async false
set_option linter.all false
set_option maxRecDepth 100000
set_option maxHeartbeats 4000000
/-! The data layer: sets of ints and texts, as they are made and walked; sorted(set(..)). -/
namespace DL
open PySem L2 NdefX LamX
open PyProof.Rows (SetOf_congr)
/-- a member's key -/
def kOf : Value → Key
  | .int i _ => .inl i
  | .str x _ => .inr x
  | _ => .inl 0
theorem kOf_rel {k : Key} {v : Value} (r : RelV (kV k) v) : kOf v = k := by
  cases k with
  | inl i =>
    obtain ⟨t, e⟩ := (show ∃ t, v = Value.int i t from r)
    rw [e]
    rfl
  | inr x =>
    obtain ⟨t, e⟩ := (show ∃ t, v = Value.str x t from r)
    rw [e]
    rfl
theorem rel_scan {k : Key} {v : Value} (r : RelV (kV k) v) : v.scannable = true := by
  cases k with
  | inl i =>
    obtain ⟨t, e⟩ := (show ∃ t, v = Value.int i t from r)
    rw [e]
    rfl
  | inr x =>
    obtain ⟨t, e⟩ := (show ∃ t, v = Value.str x t from r)
    rw [e]
    rfl
def OkE (P : Program) (w : World) (e : Int × Value) : Prop := ∃ k, RelV (kV k) e.2 ∧ e.1 = (mixKind P w).hash k
def kE (e : Int × Value) : Key := kOf e.2
/-- the set of keys at a: ks its members (each once, in any order); its table can be walked -/
structure SetM (P : Program) (w : World) (h : Heap) (a : Addr) (ks : List Key) : Prop where
  ex : ∃ o es ep t, h.get? a = some o ∧ o.ExactSet ∧ o.data = .set es ep t ∧ (∀ e ∈ es.toList, OkE P w e) ∧ (es.toList.map kE).Perm ks ∧ es.size < scanBound ∧ t.fits es.size = true ∧ Ris t.place.toList ∧ (w.params.followText "set-order" = true ∨ t.led = true)
  nd : ks.Nodup
section
variable {P : Program} {w : World} {h h' : Heap} {a : Addr} {ks : List Key}
theorem SetM.keep (R : SetM P w h a ks) (k : ∀ o, h.get? a = some o → h'.get? a = some o) : SetM P w h' a ks := by
  obtain ⟨⟨o, es, ep, t, ho, r⟩, nd⟩ := R
  exact ⟨⟨o, es, ep, t, k o ho, r⟩, nd⟩
theorem ok_elems {l : List (Int × Value)} (g : ∀ e ∈ l, OkE P w e) : ElemsOf (mixKind P w) l := fun e he => by
  obtain ⟨k, r, hh⟩ := g e he
  exact ⟨⟨k, kV_is r, hh⟩, rel_scan r⟩
theorem ok_mem {l : List (Int × Value)} (g : ∀ e ∈ l, OkE P w e) (k : Key) : k ∈ l.map kE ↔ ∃ e ∈ l, (mixKind P w).is k e.2 = true := by
  have one : ∀ e ∈ l, (mixKind P w).is k e.2 = true ↔ kE e = k := fun e he => by
    obtain ⟨k0, r, _⟩ := g e he
    rw [KeyKind.is_eq_decide (kV_is r) k]
    unfold kE
    rw [kOf_rel r, decide_eq_true_eq]
    exact eq_comm
  rw [List.mem_map]
  exact ⟨fun ⟨e, he, q⟩ => ⟨e, he, (one e he).2 q⟩, fun ⟨e, he, q⟩ => ⟨e, he, (one e he).1 q⟩⟩
theorem SetM.fresh (w : World) {h : Heap} {a : Addr} (ho : h.get? a = some { cls := .type "set", dict := none, data := .set #[] 0 (.fresh 0 0 (!w.params.followText "set-order")) }) : SetM P w h a [] :=
  ⟨⟨_, #[], 0, _, ho, ⟨rfl, rfl, rfl⟩, rfl, (fun e he => by simp at he), .nil, (by decide), (by rfl), List.Pairwise.nil, by
    show _ ∨ (!w.params.followText "set-order") = true
    cases w.params.followText "set-order"
    · exact .inr rfl
    · exact .inl rfl⟩, List.nodup_nil⟩
end
section
variable {P : Program} {w : World} {A : Around} {E : Value → Shared → Prop} {s : Shared} {a : Addr} {ks : List Key}
def hasK (ks : List Key) (k : Key) : Bool := ks.any fun y => decide (y = k)
theorem hasK_iff {ks : List Key} {k : Key} : hasK ks k = true ↔ k ∈ ks := by
  unfold hasK
  rw [List.any_eq_true]
  exact ⟨fun ⟨y, h, e⟩ => of_decide_eq_true e ▸ h, fun h => ⟨k, h, decide_eq_true rfl⟩⟩
def addK (ks : List Key) (k : Key) : List Key := if hasK ks k = true then ks else k :: ks
theorem addK_nd {ks : List Key} {k : Key} (nd : ks.Nodup) : (addK ks k).Nodup := by
  unfold addK
  split
  · exact nd
  · rename_i z
    exact List.nodup_cons.mpr ⟨fun m => z (hasK_iff.mpr m), nd⟩
theorem addK_mem {ks : List Key} {k x : Key} : x ∈ addK ks k ↔ x = k ∨ x ∈ ks := by
  unfold addK
  split
  · rename_i z
    exact ⟨.inr, fun q => q.elim (fun e => e ▸ hasK_iff.mp z) id⟩
  · exact List.mem_cons
theorem addK_len (ks : List Key) (k : Key) : (addK ks k).length ≤ ks.length + 1 := by
  unfold addK
  split
  · omega
  · simp
theorem setM_tail {g : Bool → Sem Unit} (hg : ∀ (b : Bool) (s₁ : Shared) (Q' : Unit → Shared → Prop), Q' () s₁ → wpAny (model P w) A (g b) Q' E s₁)
    {o : Obj} {es : Array (Int × Value)} {ep : Nat} {t : SetTable} (ho : s.heap.get? a = some o) (hex : o.ExactSet) (hd : o.data = .set es ep t)
    {es1 : Array (Int × Value)} {t2 : SetTable} {ks1 : List Key} (g1 : ∀ e ∈ es1.toList, OkE P w e) (m1 : (es1.toList.map kE).Perm ks1) (nd1 : ks1.Nodup)
    (hb1 : es1.size < scanBound) (hf2 : t2.fits es1.size = true) (hr : Ris t2.place.toList) (hl : w.params.followText "set-order" = true ∨ t2.led = true) {wasDummy : Bool} {R : Option Bool → Shared → Prop}
    (hR : ∀ h', Heap.SameBut a s.heap h' → SetM P w h' a ks1 → R (some true) { s with heap := h' }) :
    wpAny (model P w) A (do
        storeSet a es1 t2
        if (!wasDummy && t2.tooFull) = true then do
            g (relayAll t2 es1 (SetTable.grown es1.size)).2.2
            storeSet a (relayAll t2 es1 (SetTable.grown es1.size)).1 (relayAll t2 es1 (SetTable.grown es1.size)).2.1
            pure (some true)
          else pure (some true)) R E s := by
  refine wpAny_bind (wpAny_storeSet_of ho hd ?_ (fits_of_scanBound hb1))
  have first := store_at (es' := es1) (t' := t2) ho hd
  have same1 := Heap.SameBut.update s.heap a (Obj.putSet es1 t2)
  split
  · have pm := relayAll_perm t2 es1 (SetTable.grown es1.size)
    have fits3 := relayAll_fits t2 es1 (SetTable.grown es1.size)
    have ris3 := relayAll_ris t2 es1 (SetTable.grown es1.size)
    have led3 := relayAll_led t2 es1 (SetTable.grown es1.size)
    generalize relayAll t2 es1 (SetTable.grown es1.size) = Z at pm fits3 ris3 led3 ⊢
    obtain ⟨es2, t3, gave⟩ := Z
    dsimp only at pm fits3 ris3 led3 ⊢
    have size2 : es2.size = es1.size := by rw [← Array.length_toList, pm.length_eq, Array.length_toList]
    have few2 : es2.size < scanBound := by rw [size2]; exact hb1
    refine wpAny_bind (hg _ _ _ ?_)
    refine wpAny_bind (wpAny_storeSet_of first rfl ?_ (fits_of_scanBound few2))
    have second := store_at (es' := es2) (t' := t3) first rfl
    refine wpAny_pure (hR _ (same1.trans (Heap.SameBut.update _ a _)) ⟨⟨_, es2, _, t3, second, hex, rfl, fun e he => g1 e (pm.mem_iff.mp he), (pm.map kE).trans m1, few2, fits3, ris3, hl.imp id fun z => by rw [led3]; exact z⟩, nd1⟩)
  · exact wpAny_pure (hR _ same1 ⟨⟨_, es1, _, t2, first, hex, rfl, g1, m1, hb1, hf2, hr, hl⟩, nd1⟩)
theorem SetM.len (R : SetM P w s.heap a ks) : ∃ o es ep t, s.heap.get? a = some o ∧ o.data = .set es ep t ∧ es.size = ks.length := by
  obtain ⟨⟨o, es, ep, t, ho, _, hd, _, pm, _⟩, _⟩ := R
  exact ⟨o, es, ep, t, ho, hd, by rw [← pm.length_eq, List.length_map, Array.length_toList]⟩
theorem setM_add {k : Key} {x : Value} {Q : Bool → Shared → Prop} (R : SetM P w s.heap a ks) (rx : RelV (kV k) x) (room : ks.length + 1 < scanBound)
    (hQ : ∀ h' b, Heap.SameBut a s.heap h' → SetM P w h' a (addK ks k) → Q b { s with heap := h' }) :
    wpAny (model P w) A (setAddHashed a x ((mixKind P w).hash k)) Q E s := by
  obtain ⟨⟨o, es, ep, t, ho, hex, hd, g, hm, hb, hf, hr, hl⟩, nd⟩ := R
  have hkey : (mixKind P w).is k x = true := kV_is rx
  have hsc : x.scannable = true := rel_scan rx
  have hel : ElemsOf (mixKind P w) es.toList := ok_elems g
  have hn : es.size = ks.length := by rw [← hm.length_eq, List.length_map, Array.length_toList]
  unfold setAddHashed setAddHashedIn
  refine wpAny_holding (wpAny_bind (wpAny_setState_of ho hd hf ?_))
  dsimp only
  rw [byScan_of hsc hb hel]
  simp only [↓reduceIte]
  unfold setAddByScan
  refine wpAny_bind ?_
  refine wpAny_bind (wpAny_rule ?_)
  refine wpAny_bind (wpAny_setScan_of hkey ho hd hf hel ?_)
  cases hfi : List.findIdx? (fun e => (mixKind P w).is k e.2) es.toList with
  | some j =>
    dsimp only
    obtain ⟨hj, pj, _⟩ := List.findIdx?_eq_some_iff_getElem.mp hfi
    have there : k ∈ ks := hm.mem_iff.mp ((ok_mem g k).2 ⟨es.toList[j], List.getElem_mem hj, pj⟩)
    refine wpAny_pure (wpAny_pure ?_)
    refine hQ s.heap _ (Heap.SameBut.refl a s.heap) ?_
    unfold addK
    rw [if_pos (hasK_iff.mpr there)]
    exact ⟨⟨o, es, ep, t, ho, hex, hd, g, hm, hb, hf, hr, hl⟩, nd⟩
  | none =>
    dsimp only
    have gone : k ∉ es.toList.map kE := fun z => by
      obtain ⟨e, he, q⟩ := (ok_mem g k).1 z
      have c := List.findIdx?_eq_none_iff.mp hfi e he
      rw [q] at c
      cases c
    have gone2 : k ∉ ks := fun z => gone (hm.mem_iff.mpr z)
    have hgw : ∀ (b : Bool) {s₁ : Shared} {Q' : Unit → Shared → Prop}, Q' () s₁ → wpAny (model P w) A (match b with | true => rule "set.scan.the-table-gave-way" | false => pure ()) Q' E s₁ :=
      fun b s₁ Q' q => by cases b <;> first | exact wpAny_pure q | exact wpAny_rule q
    have pm := layNew_perm t es ((mixKind P w).hash k) x
    have fits1 := layNew_fits t es ((mixKind P w).hash k) x
    have ris1 := layNew_ris t es ((mixKind P w).hash k) x hr
    have led1 := layNew_led t es ((mixKind P w).hash k) x
    generalize layNew t es ((mixKind P w).hash k) x = Z at pm fits1 ris1 led1 ⊢
    obtain ⟨es1, t1, wasDummy, gave⟩ := Z
    dsimp only at pm fits1 ris1 led1 ⊢
    rw [Array.toList_push] at pm
    have pc : es1.toList.Perm (((mixKind P w).hash k, x) :: es.toList) := pm.trans (List.perm_append_singleton _ _)
    have ek : kE ((mixKind P w).hash k, x) = k := kOf_rel rx
    have pk : (es1.toList.map kE).Perm (addK ks k) := by
      unfold addK
      rw [if_neg fun z => gone2 (hasK_iff.mp z)]
      refine (pc.map kE).trans ?_
      rw [List.map_cons, ek]
      exact hm.cons k
    have g1 : ∀ e ∈ es1.toList, OkE P w e := fun e he => by
      rcases List.mem_cons.mp (pc.mem_iff.mp he) with z | z
      · rw [z]; exact ⟨k, rx, rfl⟩
      · exact g e z
    have hsz : es1.size = ks.length + 1 := by rw [← Array.length_toList, pc.length_eq, List.length_cons, Array.length_toList, hn]
    have hb1 : es1.size < scanBound := by rw [hsz]; exact room
    have hled : w.params.followText "set-order" = true ∨ t1.led = true := hl.imp id fun z => by rw [led1]; exact z
    have nd1 : (addK ks k).Nodup := addK_nd nd
    refine wpAny_bind (hgw _ ?_)
    split
    · refine wpAny_bind ?_
      rw [hashByValue_scannable 8 hsc]
      refine wpAny_pure ?_
      refine setM_tail ?_ ho hex hd g1 pk nd1 hb1 ?_ ?_ ?_ ?_
      · intro b s₁ Q' q; cases b <;> first | exact wpAny_pure q | exact wpAny_rule q
      · first | (split <;> first | exact fits1 | exact SetTable.fits_plain_off fits1) | exact fits1
      · first | (split <;> exact ris1) | exact ris1
      · first | (split <;> exact hled) | exact hled
      · intro h' sb r; dsimp only; exact wpAny_pure (hQ h' _ sb r)
    · refine wpAny_bind (wpAny_pure ?_)
      simp only [↓reduceIte]
      refine setM_tail ?_ ho hex hd g1 pk nd1 hb1 fits1 ris1 hled ?_
      · intro b s₁ Q' q; cases b <;> first | exact wpAny_pure q | exact wpAny_rule q
      · intro h' sb r; dsimp only; exact wpAny_pure (hQ h' _ sb r)
/-- all keys of a list, added -/
def addAll (ks : List Key) : List Key → List Key
  | [] => ks
  | k :: r => addAll (addK ks k) r
theorem addAll_mem : ∀ (l ks : List Key) (x : Key), x ∈ addAll ks l ↔ x ∈ ks ∨ x ∈ l
  | [], ks, x => by simp [addAll]
  | k :: r, ks, x => by
    show x ∈ addAll (addK ks k) r ↔ _
    rw [addAll_mem r, addK_mem, List.mem_cons]
    exact ⟨fun h => h.elim (fun h => h.elim (fun e => .inr (.inl e)) .inl) (fun h => .inr (.inr h)), fun h => h.elim (fun e => .inl (.inr e)) (fun h => h.elim (fun e => .inl (.inl e)) .inr)⟩
theorem addAll_snoc : ∀ (l ks : List Key) (x : Key), addAll ks (l ++ [x]) = addK (addAll ks l) x
  | [], ks, x => rfl
  | k :: r, ks, x => addAll_snoc r (addK ks k) x
theorem addAll_len : ∀ (l ks : List Key), (addAll ks l).length ≤ ks.length + l.length
  | [], ks => by simp [addAll]
  | k :: r, ks => by
    have h1 := addAll_len r (addK ks k)
    have h2 := addK_len ks k
    show (addAll (addK ks k) r).length ≤ _
    rw [List.length_cons]
    omega
abbrev fsO (w : World) : Obj := { cls := .type "set", dict := none, data := .set #[] 0 (.fresh 0 0 (!w.params.followText "set-order")) }
theorem set_loop {I : Addr} {fp wr : List Addr} {G : Array GenState → Array GenState → Prop} {n : Nat} {Pv : Nat → Value → Prop} {St : Nat → Shared → Prop} {R : Result → Shared → Prop}
    (W : WalksS P w A.in1 I fp wr G n Pv St) (S : Addr) (hSf : S ∉ fp) (l : List Key) (hn : n = l.length) (hb : l.length + 1 < scanBound) (hval : ∀ i v, Pv i v → ∃ k, l[i]? = some k ∧ RelV (kV k) v) :
    ∀ (m i : Nat) (s : Shared), n - i = m → i ≤ n → St i s → SetM P w s.heap S (addAll [] (l.take i)) →
      (∀ s', Moved (S :: wr) G s s' → SetM P w s'.heap S (addAll [] l) → R (.ok (.ret .none)) s') →
      codeAny (model P w) A (.builtin "set.update.loop" ⟨[.ref S, .ref I], []⟩) R s := by
  have away : S ∉ wr := fun h => hSf (W.sub _ h)
  have wider : ∀ b ∈ wr, b ∈ S :: wr := fun b hb => List.mem_cons_of_mem _ hb
  intro m
  induction m with
  | zero =>
    intro i s hk hi hst hS hR
    have hin : i = n := by omega
    subst hin
    refine codeAny_builtin PyProof.Rows.F.entry_set_update_loop ?_
    rw [Around.under_plainId PyProof.Rows.F.plain_set_update_loop _]
    show wpAny _ A.in1 (pyNext (.ref I) >>= _) _ _ s
    refine wpAny_bind (W.done s _ _ hst fun s' hm => ?_)
    show wpAny _ A.in1 (ret Value.none) _ _ s'
    rw [List.take_of_length_le (by omega)] at hS
    exact wpAny_pure (hR s' (hm.mono wider) (hS.keep fun o e => hm.heap S o away e))
  | succ m ih =>
    intro i s hk hi hst hS hR
    have hlt : i < n := by omega
    refine codeAny_builtin PyProof.Rows.F.entry_set_update_loop ?_
    rw [Around.under_plainId PyProof.Rows.F.plain_set_update_loop _]
    show wpAny _ A.in1 (pyNext (.ref I) >>= _) _ _ s
    refine wpAny_bind (W.item i s _ _ hlt hst fun v s' hP hst' hm => ?_)
    obtain ⟨k, hz, rk⟩ := hval i v hP
    have hS' : SetM P w s'.heap S (addAll [] (l.take i)) := hS.keep fun o e => hm.heap S o away e
    show wpAny _ A.in1 (holding [v] (setAdd S v) >>= _) _ _ s'
    refine wpAny_bind (wpAny_holding ?_)
    unfold setAdd
    refine wpAny_holding ?_
    refine wpAny_bind ((mixKind P w).pyHash (k := k) (kV_is rk) ?_)
    have few : (addAll [] (l.take i)).length + 1 < scanBound := by
      have := addAll_len (l.take i) []
      rw [List.length_take, List.length_nil] at this
      omega
    refine setM_add (s := { s' with toks := s'.toks + 1 }) hS' rk few fun h' bb hsb hS2 => ?_
    have et : l.take (i + 1) = l.take i ++ [k] := by rw [List.take_add_one, hz] <;> rfl
    rw [← addAll_snoc, ← et] at hS2
    refine wpAny_pure ⟨plainId_quiet PyProof.Rows.F.plain_set_update_loop _, ih (i + 1) _ (by omega) hlt (W.frame _ s' _ _ hst' (Nat.le_succ _) fun b hb o e => ?_) hS2 fun s'' hm'' hS'' => ?_⟩
    · rw [hsb.2 b (fun h : b = S => hSf (by rw [← h]; exact hb))]; exact e
    · refine hR s'' (Moved.trans W.gtrans ((hm.mono wider).then_heap (Nat.le_succ _) fun b o hb e => ?_) hm'') hS''
      rw [hsb.2 b (fun h : b = S => hb (by rw [h]; exact List.mem_cons_self))]; exact e
end
end DL

set_option Elab.async false
set_option linter.all false
set_option maxRecDepth 100000
set_option maxHeartbeats 4000000
/-! The data layer: set(..) of a list or a tuple, sorted(..) of it. -/
namespace DL
open PySem L2 NdefX LamX
section
variable {P : Program} {w : World} {A : Around} {E : Value → Shared → Prop} {s : Shared}
/-- the two kinds of sequences that a set is made of -/
structure SeqK (T TI : String) : Prop where
  s1 : isSubtype (.type T) (.type "set") = pure false
  s2 : isSubtype (.type T) (.type "frozenset") = pure false
  ne : (Value.type T == Value.type "dict") = false
theorem seqK_list : SeqK "list" "list_iterator" := ⟨PySem.F.sub_list_set, PySem.F.sub_list_frozenset, by decide⟩
theorem seqK_tuple : SeqK "tuple" "tuple_iterator" := ⟨PySem.F.sub_tuple_set, PySem.F.sub_tuple_frozenset, by decide⟩
theorem call_setK {T TI : String} (SK : SeqK T TI) {l : Addr} {od : Option Addr} {data : Data} {sl : Array (Option Value)} (ks : List Key) {Q : Value → Shared → Prop} (hol : s.heap.get? l = some ⟨.type T, od, data, sl⟩) (hb : ks.length + 1 < scanBound)
    (iter : ∀ (A : Around) (E : Value → Shared → Prop) (h : Heap) (s2 : Shared) (Q : Value → Shared → Prop), s2.heap = h → (∀ b o, s.heap.get? b = some o → h.get? b = some o) → Q (.ref h.objs.size) { s2 with heap := h.push { cls := .type TI, data := .fields #[.ref l, .int 0 0] } } → wpAny (model P w) A (pyIter (.ref l)) Q E s2)
    (walk : ∀ (A : Around) (I : Addr), A.handled = none → l ≠ I → ∃ (n : Nat) (Pv : Nat → Value → Prop) (St : Nat → Shared → Prop) (wr : List Addr), WalksS P w A I [I, l] wr (fun a b => b = a) n Pv St ∧ wr = [I] ∧ n = ks.length ∧ (∀ i v, Pv i v → ∃ k, ks[i]? = some k ∧ RelV (kV k) v) ∧
      ∀ h : Heap, ∀ s2 : Shared, (∀ b o, s.heap.get? b = some o → h.get? b = some o) → s2.heap = h.push { cls := .type TI, data := .fields #[.ref l, .int 0 0] } → I = h.objs.size → St 0 s2)
    (hh : A.handled = none)
    (h : ∀ (h' : Heap) (tk : Nat), SetM P w h' s.heap.objs.size (addAll [] ks) → (∀ b o, s.heap.get? b = some o → h'.get? b = some o) → Q (.ref s.heap.objs.size) { s with heap := h', toks := tk }) :
    wpAny (model P w) A (call (.type "set") [.ref l]) Q E s := by
  obtain ⟨c, tl, hmro⟩ := PySem.F.called_set.mro
  have hmade := PySem.F.called_set.made
  have hsub := PySem.F.called_set.sub
  refine wpAny_call (codeAny_of_tree ?_)
  show wpAny _ _ (callAny (.type "set") _) _ _ _
  refine wpAny_pure ⟨Code.quiet_builtin _ (by decide +kernel), codeAny_builtin PySem.F.entry_type_call ?_⟩
  rw [Around.under_plain (weight_type_call_type "set" [.ref l] []) rfl]
  have h1 := PySem.F.called_set.notType
  have h2 := PySem.F.called_set.canCreate
  have hct := PySem.F.typeCall_set_1 (.ref l)
  repeat (any_goals (first | assumption | wp_step))
  refine codeAny_mono (code_set_led1 (.ref l) (E := E) (Q₁ := fun obj s₁ => obj = .ref s.heap.objs.size ∧ s₁ = { s with heap := s.heap.push (fsO w) }) ⟨rfl, rfl⟩) fun r s₁ hr => ?_
  cases r with
  | error e => exact hr
  | ok fl =>
    cases fl with
    | ret obj =>
      obtain ⟨rfl, rfl⟩ := hr
      have hS : (s.heap.push (fsO w)).get? s.heap.objs.size = some (fsO w) := Heap.get?_push_size _ rfl
      have hT : Shared.TypeIs { s with heap := s.heap.push (fsO w) } (.ref s.heap.objs.size) "set" := ⟨_, hS, rfl⟩
      have hli := PySem.F.called_set.init.lookup
      have hbi := PySem.F.called_set.init.bind (.ref s.heap.objs.size)
      repeat (any_goals (first | assumption | wp_step))
      refine codeAny_mono (codeAny_call_builtin (R := wants (fun r s₂ => r = .none ∧ ∃ h' tk, s₂ = { s with heap := h', toks := tk } ∧ SetM P w h' s.heap.objs.size (addAll [] ks) ∧
          (∀ b o, s.heap.get? b = some o → h'.get? b = some o)) E) PySem.F.called_set.init.plain PySem.F.entry_set_init (check_set_init_1 hT ?_)) fun r₂ s₂ hr₂ => ?_
      · have hol' : (s.heap.push (fsO w)).get? l = some ⟨.type T, od, data, sl⟩ := Heap.get?_push_of_some _ hol
        have hsls := SK.s1
        have hslf := SK.s2
        have hne := SK.ne
        unfold Builtin.«set.__init__» noKeywords Builtin.Frozenset.updateFrom
        generalize hPI : pyIter = PI
        wp_walk
        subst hPI
        have hlS : l < s.heap.objs.size := Heap.lt_size hol
        refine iter _ _ (s.heap.push (fsO w)) _ _ rfl (fun b o e => Heap.get?_push_of_some _ e) ?_
        refine wpAny_bind (wpAny_runValue ?_)
        have hh3 : A.in1.in1.in1.handled = none := by simp [hh]
        have hz : (s.heap.push (fsO w)).objs.size = s.heap.objs.size + 1 := Heap.size_push ..
        have hneI : l ≠ (s.heap.push (fsO w)).objs.size := by
          rw [hz]; exact Nat.ne_of_lt (Nat.lt_succ_of_lt hlS)
        have hSf : s.heap.objs.size ∉ [(s.heap.push (fsO w)).objs.size, l] := by
          rw [hz]
          simp only [List.mem_cons, List.not_mem_nil, or_false, not_or]
          exact ⟨Nat.ne_of_lt (Nat.lt_succ_self _), Nat.ne_of_gt hlS⟩
        obtain ⟨n, Pv, St, wr, W, ewr, en, hval, start⟩ := walk _ (s.heap.push (fsO w)).objs.size hh3 hneI
        refine set_loop W s.heap.objs.size hSf ks en hb hval (n - 0) 0 _ (by omega) (Nat.zero_le _) (start (s.heap.push (fsO w)) _ (fun b o e => Heap.get?_push_of_some _ e) rfl rfl) (SetM.fresh w (Heap.get?_push_of_some _ hS)) fun s' hm hS' => ?_
        obtain ⟨h', g', d', tk', os'⟩ := s'
        have eg : g' = s.gens := hm.gens
        have ed : d' = s.drawn := hm.drawn
        have eo : os' = s.os := hm.os
        subst eg; subst ed; subst eo
        show wpAny _ _ _ _ _ _
        refine wpAny_pure ?_
        show wpAny _ _ (ret Value.none) _ _ _
        refine wpAny_pure ⟨rfl, h', tk', rfl, hS', fun b o e => ?_⟩
        have hb0 : b < s.heap.objs.size := Heap.lt_size e
        refine hm.heap b o ?_ (Heap.get?_push_of_some _ (Heap.get?_push_of_some _ e))
        rw [ewr, hz]
        simp only [List.mem_cons, List.not_mem_nil, or_false, not_or]
        exact ⟨Nat.ne_of_lt hb0, Nat.ne_of_lt (Nat.lt_succ_of_lt hb0)⟩
      · cases r₂ with
        | error e => exact hr₂
        | ok fl₂ =>
          cases fl₂ with
          | ret r =>
            obtain ⟨rfl, h', tk, rfl, hS', hk'⟩ := hr₂
            repeat (any_goals (first | assumption | wp_step))
            exact h _ _ hS' hk'
          | _ => exact hr₂.elim
    | _ => exact hr.elim
end
section
variable {X : Cx} {pins : List (Addr × Obj)} {σ : L2.St} {H : Hp} {s : Shared}
theorem vals_key {ks : List Key} {us : List Value} {i : Nat} {v : Value} (r : Vals (ks.map kV) us) (e : us.toArray[i]? = some v) : ∃ k, ks[i]? = some k ∧ RelV (kV k) v := by
  obtain ⟨x, ex, rx⟩ := vals_at r e
  rw [List.getElem?_map] at ex
  obtain ⟨k, ek, rfl⟩ := Option.map_eq_some_iff.mp ex
  exact ⟨k, ek, rx⟩
/-- set(x), x a list or a tuple of ints and texts -/
theorem call_setS {src : Src} {ks : List Key} {u : Value} {E : Value → Shared → Prop} {Q : Value → Shared → Prop} (I : Inv X pins σ H s) (hc : X.calm = true) (ht : ∀ z, src ≠ .txt z) (hs : src.has X.K H (ks.map kV)) (r : RelV src.v u) (hb : ks.length + 1 < scanBound)
    (h : ∀ (h' : Heap) (tk : Nat), SetM X.prog X.w h' s.heap.objs.size (addAll [] ks) → (∀ b o, s.heap.get? b = some o → h'.get? b = some o) → Q (.ref s.heap.objs.size) { s with heap := h', toks := tk }) :
    wpAny (model X.prog X.w) X.A (call (.type "set") [u]) Q E s := by
  cases src with
  | lst a =>
    cases (show u = Value.ref a from r)
    obtain ⟨its, rv, p, hz⟩ := I.list hs
    have hL := p.isList
    obtain ⟨⟨cl, od, data, sl⟩, ho, hcl, n, hd⟩ := id hL
    simp only at hcl hd
    subst hcl
    refine call_setK seqK_list ks ho hb (fun A E h s2 Q eh k q => ?_) (fun A I' hh hne => ?_) (I.ok.hd hc) h
    · subst eh
      exact wpAny_pyIter_list (hL.at (k _)) q
    · refine ⟨_, _, _, _, (Walks.list hh I' a hne its.toArray).toS, rfl, ?_, fun i v e => vals_key rv e, fun h s2 k e1 e2 => ?_⟩
      · rw [List.size_toArray, ← rv.length, List.length_map]
      · show s2.heap.IsListIter I' a 0 ∧ s2.heap.IsList a its.toArray
        rw [e1, e2]
        exact ⟨⟨_, Heap.get?_push_size _ rfl, rfl, rfl⟩, hL.at fun o e => Heap.get?_push_of_some _ (k _ _ e)⟩
  | tup a =>
    cases (show u = Value.ref a from r)
    obtain ⟨its, rv, p, hz⟩ := I.tuple hs
    have hL : s.heap.IsTuple a its.toArray := p
    obtain ⟨⟨cl, od, data, sl⟩, ho, hcl, n, hd⟩ := id hL
    simp only at hcl hd
    subst hcl
    refine call_setK seqK_tuple ks ho hb (fun A E h s2 Q eh k q => ?_) (fun A I' hh hne => ?_) (I.ok.hd hc) h
    · subst eh
      exact wpAny_pyIter_tuple (hL.at (k _)) q
    · refine ⟨_, _, _, _, (Walks.tuple hh I' a hne its.toArray).toS, rfl, ?_, fun i v e => vals_key rv e, fun h s2 k e1 e2 => ?_⟩
      · rw [List.size_toArray, ← rv.length, List.length_map]
      · show s2.heap.IsTupleIter I' a 0 ∧ s2.heap.IsTuple a its.toArray
        rw [e1, e2]
        exact ⟨⟨_, Heap.get?_push_size _ rfl, rfl, rfl⟩, hL.at fun o e => Heap.get?_push_of_some _ (k _ _ e)⟩
  | txt z => exact absurd rfl (ht z)
end
/-- a tracked object is there -/
theorem obj_there {P : Program} {w : World} {H : Hp} {h : Heap} {a : Addr} {o : HO} (x : ObjOk P w H h a o) : ∃ u, h.get? a = some u := by
  cases o with
  | tup xs =>
    obtain ⟨_, _, _, u, e, _⟩ := x
    exact ⟨u, e⟩
  | frz ob u => exact ⟨_, x.1⟩
  | tbl ps => exact ⟨_, (show h.get? a = some _ from x)⟩
  | met f y => exact ⟨_, (show h.get? a = some _ from x)⟩
  | ext φ =>
    obtain ⟨_, ⟨u, e⟩, _⟩ := x
    exact ⟨u, e⟩
  | lst xs =>
    obtain ⟨_, _, _, _, e⟩ := x
    exact ⟨_, e⟩
  | dK kvs =>
    obtain ⟨_, _, _, _, u, _, _, e, _⟩ := x
    exact ⟨u, e⟩
  | dT kvs =>
    obtain ⟨_, _, _, _, u, _, _, e, _⟩ := x
    exact ⟨u, e⟩
  | set S n =>
    obtain ⟨u, _, _, _, e, _⟩ := x
    exact ⟨u, e⟩
  | ins C dx fs =>
    obtain ⟨_, _, _, e, _⟩ := x
    exact ⟨_, e⟩
  | own y => exact x
  | xd fs =>
    obtain ⟨_, ⟨u, _, _, e, _⟩, _⟩ := x
    exact ⟨u, e⟩
  | rng lo hi =>
    obtain ⟨_, _, _, e⟩ := x
    exact ⟨_, e⟩
open PyProof.Rows in
section
variable {P : Program} {w : World} {A : Around} {E : Value → Shared → Prop} {s : Shared}
/-- sorted(x) of texts: C tells what collecting x gives -/
theorem sorted_by {v : Value} {Q : Value → Shared → Prop} (ok : List Str → Prop)
    (C : ∀ (E : Value → Shared → Prop) (R : List Value → Shared → Prop), (∀ vs ss s1, StrsAre vs ss → ok ss → vs.length ≤ sizeLine → (∀ b o, s.heap.get? b = some o → s1.heap.get? b = some o) → s1.gens = s.gens → s1.os = s.os → R vs s1) → wpAny (model P w) A.in1 (collect v) R E s)
    (hQ : ∀ s' p (out : Array Value) (c : Nat) (ss ss' : List Str), (∀ b o, s.heap.get? b = some o → s'.heap.get? b = some o) → s'.gens = s.gens → s'.os = s.os → s.heap.get? p = none →
      s'.heap.get? p = some (seqObj "list" out c) → StrsAre out.toList ss' → ok ss → ss'.Perm ss → sortedS ss' = true → Q (.ref p) s') :
    wpAny (model P w) A (call (.builtin "sorted") [v]) Q E s := by
  refine Calls.call_function_entry kind_sorted plain_sorted entry_sorted (args_sorted1 _) ?_
  unfold Builtin.«sorted»
  refine wpAny_bind (m := checkCount "sorted" 1 1 _) (wpAny_pure ?_)
  refine wpAny_bind (C _ _ fun vs ss s1 hS hok hlen grow g1 o1 => ?_)
  refine wpAny_bind (wpAny_newList ?_ hlen)
  have hoL : (s1.heap.push (seqObj "list" vs.toArray 0)).get? s1.heap.objs.size = some (seqObj "list" vs.toArray 0) := Heap.get?_push_size _ rfl
  refine wpAny_bind (wpAny_holding (wpAny_call_entry slot_list_sort ⟨_, hoL, rfl⟩ entry_list_sort (list_sort_treeKAny strKind_oneLt hoL hS.keysOf (fun v₁ v₂ rest e => keyKind_strs (by rw [← e]; exact hS)) hlen fun st' hp hs => ⟨_, rfl, ?_⟩) (args_list_sort _)))
  obtain ⟨ss', a1, a2, a3⟩ := sorted_out_str hS hp hs
  obtain ⟨c, hc⟩ := sortedHeap_at (vs := vs) (out := (arrOf st').map (·.2)) hoL
  refine wpAny_pure ⟨_, rfl, hQ _ s1.heap.objs.size _ c ss ss' (fun b u e => ?_) g1 o1 (by
    cases z : s.heap.get? s1.heap.objs.size with
    | none => rfl
    | some u => exact absurd (Heap.lt_size (grow _ _ z)) (Nat.lt_irrefl _)) hc a1 hok a2 a3⟩
  have q := grow b u e
  have hlt := Heap.lt_size q
  show (sortedHeap (s1.heap.push (seqObj "list" vs.toArray 0)) s1.heap.objs.size vs _).get? b = some u
  rw [sortedHeap_old (Nat.ne_of_lt hlt) (by rw [size_push']; exact Nat.lt_succ_of_lt hlt)]
  exact Heap.get?_push_of_some _ q
end
open PyProof.Rows in
section
variable {X : Cx} {T : ZC}
/-- what sorted leaves: a new list -/
theorem sorted_end {pins : List (Addr × Obj)} {σ : L2.St} {H : Hp} {s s' : Shared} {p : Addr} {out : Array Value} {c : Nat} {ss : List Str} {Q : VK} (I : Inv X pins σ H s) (grow : ∀ b o, s.heap.get? b = some o → s'.heap.get? b = some o) (eg : s'.gens = s.gens) (eo : s'.os = s.os) (hp : s.heap.get? p = none)
    (hs : s'.heap.get? p = some (seqObj "list" out c)) (ho : StrsAre out.toList ss) (hl : ss.length ≤ sizeLine) (q : H p = none → Q (.ref p) (upd H p (.lst (ss.map V.str)))) : EP X pins σ Q (.ref p) s' := by
  have hn : H p = none := by
    cases z : H p with
    | none => rfl
    | some u =>
      obtain ⟨ob, e⟩ := obj_there (I.hok p u z)
      rw [hp] at e
      cases e
  have J : Inv X pins σ (upd H p (.lst (ss.map V.str))) { s with heap := s'.heap, gens := s'.gens, drawn := s'.drawn, toks := s'.toks } :=
    I.call (ch := []) (Un.laidN grow hp hn) (I.hok.laidN grow hn ⟨by rw [List.length_map]; exact hl, out.toList, c, vals_of_strs ho, hs⟩) (by rw [eg]; exact I.bare) (fun _ z => nomatch z)
  have e : s' = { s with heap := s'.heap, gens := s'.gens, drawn := s'.drawn, toks := s'.toks } := by
    cases s'
    cases s
    cases eo
    rfl
  rw [e]
  exact ⟨.ref p, _, J, rfl, q hn⟩
/-- sorted(x), x a list or a tuple of texts, of any length -/
def cSortA : DC1 := fun us h Q => match us with
  | [x] => match x with
    | .str _ => False
    | _ => ∃ ys ns, srcU h x = some ys ∧ strsU ys = some ns ∧ ∀ ns' : List Str, ns'.Perm ns → sortedS ns' = true → ∀ r, h r = none → Q (.ref r) (updU h r (.lst (ns'.map U.str)))
  | _ => False
theorem c_sortA : CallR X (.builtin "sorted") (LC X.K T cSortA) := by
  intro pins s σ H xs ws Q I rv ⟨us, h, q, ru, rh, hr, k⟩
  unfold cSortA at hr
  split at hr
  · rename_i x
    obtain ⟨v, rfl, r1⟩ := ru1 ru
    have main : ∀ ys ns, srcU h x = some ys → strsU ys = some ns → (∀ z, x ≠ .str z) → (∀ ns' : List Str, ns'.Perm ns → sortedS ns' = true → ∀ r, h r = none → q (.ref r) (updU h r (.lst (ns'.map U.str)))) → wpAny (model X.prog X.w) X.A (call (.builtin "sorted") ws) (EP X pins σ Q) X.xe s := by
      intro ys ns e1 e2 nz hq
      obtain ⟨src, zs, ev, hs, rr, _⟩ := srcU_v rh r1 e1
      have ez := strsU_v e2 rr
      subst ez
      have fin : ∀ (s' : Shared) (p : Addr) (out : Array Value) (c : Nat) (ss ss' : List Str), (∀ b o, s.heap.get? b = some o → s'.heap.get? b = some o) → s'.gens = s.gens → s'.os = s.os → s.heap.get? p = none →
          s'.heap.get? p = some (seqObj "list" out c) → StrsAre out.toList ss' → (ss = ns ∧ ns.length ≤ sizeLine) → ss'.Perm ss → sortedS ss' = true → EP X pins σ Q (.ref p) s' := by
        intro s' p out c ss ss' grow eg eo hp hg ho ⟨es, el⟩ pm so
        subst es
        exact sorted_end I grow eg eo hp hg ho (by rw [pm.length_eq]; exact el) fun hn => k _ _ _ _ (hq ss' pm so p (rh.free hn)) rfl (rh.new hn ⟨_, rfl, strs_ru ss'⟩) (Stp.new hn)
      cases rv with
      | cons w1 rv =>
        cases rv
        rw [← ev] at w1
        cases src with
        | lst a =>
          cases (show _ = Value.ref a from w1)
          obtain ⟨its, rv, p, hz⟩ := I.list hs
          have hst := rv.strs
          have hl := rv.length
          rw [List.length_map] at hl hz
          obtain ⟨o, ho, hc, n, hd⟩ := p.isList
          refine sorted_by (fun ss => ss = ns ∧ ns.length ≤ sizeLine) (fun E R hR => ?_) fin
          exact wpAny_collect_seq a (.inl rfl) ho hc hd (fun h' g => hR _ ns { s with heap := h' } hst ⟨rfl, hz⟩ (by show its.toArray.toList.length ≤ _; simp; omega) g rfl rfl) (by rw [List.size_toArray]; omega)
        | tup a =>
          cases (show _ = Value.ref a from w1)
          obtain ⟨its, rv, p, hz⟩ := I.tuple hs
          have hst := rv.strs
          have hl := rv.length
          rw [List.length_map] at hl hz
          obtain ⟨o, ho, hc, n, hd⟩ := (show s.heap.IsTuple a its.toArray from p)
          refine sorted_by (fun ss => ss = ns ∧ ns.length ≤ sizeLine) (fun E R hR => ?_) fin
          exact wpAny_collect_seq a (.inr rfl) ho hc hd (fun h' g => hR _ ns { s with heap := h' } hst ⟨rfl, hz⟩ (by show its.toArray.toList.length ≤ _; simp; omega) g rfl rfl) (by rw [List.size_toArray]; omega)
        | txt z =>
          exfalso
          have evs : V.str z = v := ev
          subst evs
          cases x with
          | str y => exact nz y rfl
          | tup us =>
            obtain ⟨_, _, e, _⟩ := ru_tup r1
            cases e
          | ref p => cases (show V.str z = V.ref p from r1)
          | non => cases e1
          | bl b => cases e1
          | int i => cases e1
          | ty n => cases e1
          | clo F => cases e1
          | ft us =>
            obtain ⟨_, _, e, _⟩ := ru_ft r1
            cases e
    split at hr
    · exact hr.elim
    · rename_i nz
      obtain ⟨ys, ns, e1, e2, hq⟩ := hr
      exact main ys ns e1 e2 nz hq
  · exact hr.elim
end
end DL

set_option Elab.async false
set_option linter.all false
set_option maxRecDepth 100000
set_option maxHeartbeats 4000000
/-! The data layer: sorted(set(..)) of texts; calls of a name that holds a def. -/
namespace DL
open PySem L2 NdefX LamX
def txOf : Value → Str
  | .str x _ => x
  | _ => ⟨#[]⟩
section
open PyProof.Rows
theorem strs_all {P : Program} {w : World} : ∀ {vs : List Value}, (∀ v ∈ vs, ∃ x t, v = Value.str x t) → StrsAre vs (vs.map txOf)
  | [], _ => .nil
  | v :: vs, h => by
    obtain ⟨x, t, e⟩ := h v List.mem_cons_self
    subst e
    exact .cons x t (strs_all (P := P) (w := w) fun u hu => h u (List.mem_cons_of_mem _ hu))
theorem addAll_nd : ∀ (l ks : List Key), ks.Nodup → (addAll ks l).Nodup
  | [], _, h => h
  | k :: r, ks, h => addAll_nd r (addK ks k) (addK_nd h)
section
variable {P : Program} {w : World} {A : Around} {E : Value → Shared → Prop} {s : Shared}
theorem collect_texts {S : Addr} {ks : List Key} {R : List Value → Shared → Prop} (hh : A.handled = none) (M : SetM P w s.heap S ks) (ht : ∀ k ∈ ks, ∃ x, k = Sum.inr x)
    (hR : ∀ vs ss s1, StrsAre vs ss → (ss.map (fun x => (Sum.inr x : Key))).Perm ks → vs.length < scanBound → (∀ b o, s.heap.get? b = some o → s1.heap.get? b = some o) → s1.gens = s.gens → s1.os = s.os → R vs s1) :
    wpAny (model P w) A (collect (.ref S)) R E s := by
  obtain ⟨⟨o, es, ep, t, ho, hex, hd, g, pm, hb, hf, hr, hl⟩, nd⟩ := M
  refine collect_set hh ⟨o, ho, hex.1, hd⟩ hf hb hr hl fun s1 vs k1 hz g1 o1 pv => ?_
  have one : ∀ v ∈ vs, ∃ e ∈ es.toList, e.2 = v := fun v hv => List.mem_map.mp (pv.mem_iff.mp hv)
  have txt : ∀ e ∈ es.toList, ∃ x tk, e.2 = Value.str x tk := fun e he => by
    obtain ⟨k, rk, _⟩ := g e he
    have ek : kE e = k := kOf_rel rk
    obtain ⟨x, ex⟩ := ht k (pm.mem_iff.mp (List.mem_map.mpr ⟨e, he, ek⟩))
    subst ex
    obtain ⟨tk, e2⟩ := (show ∃ tk, e.2 = Value.str x tk from rk)
    exact ⟨x, tk, e2⟩
  have all : ∀ v ∈ vs, ∃ x tk, v = Value.str x tk := fun v hv => by
    obtain ⟨e, he, e2⟩ := one v hv
    rw [← e2]
    exact txt e he
  refine hR vs (vs.map txOf) s1 (strs_all (P := P) (w := w) all) ?_ (by rw [pv.length_eq, List.length_map, Array.length_toList]; exact hb) k1 g1 o1
  rw [List.map_map]
  have p2 : (vs.map kOf).Perm ks := by
    refine (pv.map kOf).trans ?_
    rw [List.map_map]
    exact pm
  have e3 : vs.map ((fun x => (Sum.inr x : Key)) ∘ txOf) = vs.map kOf := List.map_congr_left fun v hv => by
    obtain ⟨x, tk, e⟩ := all v hv
    subst e
    rfl
  rw [e3]
  exact p2
end
theorem nodup_of_inr : ∀ {l : List Str}, (l.map (fun x => (Sum.inr x : Key))).Nodup → l.Nodup
  | [], _ => List.nodup_nil
  | x :: l, h => by
    obtain ⟨a, b⟩ := List.nodup_cons.mp h
    exact List.nodup_cons.mpr ⟨fun m => a (List.mem_map.mpr ⟨x, m, rfl⟩), nodup_of_inr b⟩
end
open PyProof.Rows in
section
variable {X : Cx} {T : ZC}
/-- sorted(set(e)) of texts -/
def dSortSet (te : DE) (s : SU) (h : HU) (Q : DV) : Prop := te s h fun x h1 => (∀ z, x ≠ .str z) ∧ ∃ ys ns, srcU h1 x = some ys ∧ strsU ys = some ns ∧ ns.length ≤ 1000 ∧
  ∀ ns' : List Str, ns'.Nodup → (∀ y, y ∈ ns' ↔ y ∈ ns) → sortedS ns' = true → ∀ r, h1 r = none → Q (.ref r) (updU h1 r (.lst (ns'.map U.str)))
theorem nodup_le : ∀ {l m : List Str}, l.Nodup → (∀ x ∈ l, x ∈ m) → l.length ≤ m.length
  | [], _, _, _ => Nat.zero_le _
  | x :: l, m, nd, h => by
    obtain ⟨a, b⟩ := List.nodup_cons.mp nd
    have hx := h x List.mem_cons_self
    have := nodup_le (m := m.erase x) b fun y hy => (List.mem_erase_of_ne (fun (z : y = x) => a (z ▸ hy))).mpr (h y (List.mem_cons_of_mem _ hy))
    rw [List.length_erase_of_mem hx] at this
    have : 0 < m.length := List.length_pos_of_mem hx
    rw [List.length_cons]
    omega
theorem d_sortSet {e : Expr} {te : DE} {p1 p2 pos1 pos2 : Pos} (hc : X.calm = true) (hg1 : Gl X "sorted") (hm1 : X.mg "sorted" = none) (hg2 : Gl X "set") (hm2 : X.mg "set" = none) (he : PD X T e te)
    (hs1 : starEach [.Call (.Name "set" p2) [e] [] pos2] X.env = (false, eval (.Call (.Name "set" p2) [e] [] pos2) X.env) :: starEach [] X.env := by rfl) (hs2 : starEach [e] X.env = (false, eval e X.env) :: starEach [] X.env := by rfl)
    (hpl1 : (backTo pos1 (starEach [] X.env)).any (·.1) = false := by rfl) (hpl2 : (backTo pos2 (starEach [] X.env)).any (·.1) = false := by rfl) :
    PD X T (.Call (.Name "sorted" p1) [.Call (.Name "set" p2) [e] [] pos2] [] pos1) (dSortSet te) := by
  refine ⟨fun pins s σ H Q I ⟨su, h, q, rs, rh, hq, k⟩ => ?_⟩
  have hd1 : (("sorted" : Str) == ("__debug__" : Str)) = false := by decide
  have hd2 : (("set" : Str) == ("__debug__" : Str)) = false := by decide
  refine wpAny_Call_Name_kw (ld_blt I hg1 hm1 boot_sorted ?_)
  refine PyProof.Rows.callWith_builtin1 ?_ hs1 hpl1
  rw [hs1]
  show wpAny _ _ (spliced ((false, eval (.Call (.Name "set" p2) [e] [] pos2) X.env) :: backTo pos1 (starEach [] X.env))) _ _ s
  refine Calls.spliced_cons ?_
  refine wpAny_Call_Name_kw (ld_blt I hg2 hm2 boot_set ?_)
  refine PyProof.Rows.callWith_type1 ?_ hs2 hpl2
  rw [hs2]
  show wpAny _ _ (spliced ((false, eval e X.env) :: backTo pos2 (starEach [] X.env))) _ _ s
  refine Calls.spliced_cons (thn (he.run pins s σ H (fun v H1 => ∃ u h1, ((∀ z, u ≠ .str z) ∧ ∃ ys ns, srcU h1 u = some ys ∧ strsU ys = some ns ∧ ns.length ≤ 1000 ∧
      ∀ ns' : List Str, ns'.Nodup → (∀ y, y ∈ ns' ↔ y ∈ ns) → sortedS ns' = true → ∀ r, h1 r = none → q (.ref r) (updU h1 r (.lst (ns'.map U.str)))) ∧ RU X.K H1 u v ∧ RH X.K T h1 H1 ∧ Stp X.K H h H1 h1) I
    ⟨su, h, _, rs, rh, hq, fun u h1 v H1 q1 r1 rh1 st1 => ⟨u, h1, q1, r1, rh1, st1⟩⟩) fun w s1 got => ?_)
  obtain ⟨v, H1, I1, rv, u, h1, ⟨nz, ys, ns, e1, e2, hl, hq⟩, ru, rh1, st1⟩ := got
  refine Calls.spliced_nil ?_
  obtain ⟨src, zs, ev, hs, rr, _⟩ := srcU_v rh1 ru e1
  have ez : zs = (ns.map (fun x => (Sum.inr x : Key))).map kV := by
    rw [strsU_v e2 rr, List.map_map]
    rfl
  subst ez
  rw [← ev] at rv
  have nt : ∀ z, src ≠ .txt z := by
    intro z ez
    subst ez
    have evs : V.str z = v := ev
    subst evs
    cases u with
    | str y => exact nz y rfl
    | tup us =>
      obtain ⟨_, _, e, _⟩ := ru_tup ru
      cases e
    | ref p => cases (show V.str z = V.ref p from ru)
    | non => cases e1
    | bl b => cases e1
    | int i => cases e1
    | ty n => cases e1
    | clo F => cases e1
    | ft us =>
      obtain ⟨_, _, e, _⟩ := ru_ft ru
      cases e
  refine call_setS I1 hc nt hs rv (by rw [List.length_map]; unfold scanBound; omega) fun h' tk M grow => ?_
  refine Calls.spliced_nil ?_
  have hh : X.A.in1.handled = none := by
    have z := I1.ok.hd hc
    simp [z]
  refine sorted_by (s := { s1 with heap := h', toks := tk }) (fun ss => (ss.map (fun x => (Sum.inr x : Key))).Perm (addAll [] (ns.map (fun x => (Sum.inr x : Key))))) (fun E R hR => ?_) fun s' p out c ss ss' grow2 eg eo hp hg ho hok pm so => ?_
  · have lz : scanBound ≤ sizeLine := by decide
    refine collect_texts (s := { s1 with heap := h', toks := tk }) hh M (fun k hk => ?_) fun vs ss s2 a1 a2 a3 a4 a5 a6 => hR vs ss s2 a1 a2 (Nat.le_of_lt (Nat.lt_of_lt_of_le a3 lz)) a4 a5 a6
    rcases (addAll_mem _ _ _).mp hk with z | z
    · cases z
    · obtain ⟨x, _, e⟩ := List.mem_map.mp z
      exact ⟨x, e.symm⟩
  · have pk := (pm.map (fun x => (Sum.inr x : Key))).trans hok
    have nd' : ss'.Nodup := nodup_of_inr (pk.nodup_iff.mpr (addAll_nd _ _ List.nodup_nil))
    have mem' : ∀ y, y ∈ ss' ↔ y ∈ ns := fun y => by
      have a := pk.mem_iff (a := (Sum.inr y : Key))
      rw [addAll_mem] at a
      constructor
      · intro hy
        rcases a.mp (List.mem_map.mpr ⟨y, hy, rfl⟩) with z | z
        · cases z
        · obtain ⟨x, hx, e⟩ := List.mem_map.mp z
          cases e
          exact hx
      · intro hy
        obtain ⟨x, hx, e⟩ := List.mem_map.mp (a.mpr (.inr (List.mem_map.mpr ⟨y, hy, rfl⟩)))
        cases e
        exact hx
    refine sorted_end I1 (fun b o z => grow2 b o (grow b o z)) eg eo (by
      cases z : s1.heap.get? p with
      | none => rfl
      | some o =>
        have := grow p o z
        rw [show h'.get? p = none from hp] at this
        cases this) hg ho (by
      have := nodup_le nd' fun x hx => (mem' x).mp hx
      have : (1000:Nat) ≤ sizeLine := by decide
      omega) fun hn => k _ _ _ _ (hq ss' nd' mem' so p (rh1.free hn)) rfl (rh1.new hn ⟨_, rfl, strs_ru ss'⟩) (st1.trans (Stp.new hn))
end
section
variable {X : Cx} {T : ZC}
/-- a def that a name may hold -/
structure HeldD (e : Ev) (k : Nat) (a : Addr) (du : List U) (sp : DP) : Prop where
  ex : ∃ fd ps ds dvs, (∀ base, FnOk e.P e.w e.K e.mg base CX0 k a fd ps (LPl e sp)) ∧ PySem.W.keepIn e.K (.ref a) = true ∧ Binds e.K fd ps ds ∧ Vals dvs ds ∧ ∀ H, RUs e.K H du dvs
theorem Cal.held {e : Ev} {k : Nat} {x : Str} {ps : List Str} {du : List U} {sp : DP} (c : Cal e k x ps du sp) {a : Addr} (hm : e.mg x = some (.ref a)) : HeldD e k a du sp := by
  obtain ⟨f, fd, ds, dvs, F, hm', kp, hb, hd, hu⟩ := c.ex
  rw [hm] at hm'
  cases hm'
  exact ⟨fd, ps, ds, dvs, F, kp, hb, hd, hu⟩
/-- f(..), f a name that holds one of the defs S -/
def dCallV (i : Nat) (S : Addr → Option (List U × DP)) (t : DA) (s : SU) (h : HU) (Q : DV) : Prop := match slot s i with
  | some (.ref a) => match S a with
    | some (du, sp) => t s h fun us h1 => sp (us ++ du) h1 Q x0
    | none => False
  | _ => False
theorem d_callV {k j i : Nat} {S : Addr → Option (List U × DP)} {x : Str} {p pos : Pos} {a : Expr} {es : List Expr} {t : DA} (hS : ∀ a du sp, S a = some (du, sp) → HeldD (Cxev X T) k a du sp) (hr : Room j X.A) (hk : k ≤ j) (hN : X.N[i]? = some x) (hv : Vis X.env.scope x) (ha : PDA X T (a :: es) t)
    (hd : (x == ("__debug__" : Str)) = false := by decide) (hcd : (x == ("__classdict__" : Str)) = false := by decide)
    (he : starEach (a :: es) X.env = (false, eval a X.env) :: starEach es X.env := by rfl) (hpl : (backTo pos (starEach es X.env)).any (·.1) = false := by rfl) :
    PD X T (.Call (.Name x p) (a :: es) [] pos) (dCallV i S t) := by
  refine ⟨fun pins s σ H Q I ⟨su, h, q, rs, rh, hq, kk⟩ => ?_⟩
  unfold dCallV at hq
  split at hq
  · rename_i f ei
    split at hq
    · rename_i du sp eS
      obtain ⟨fd, ps, ds, dvs, F, hkp, hb, hdv, hu⟩ := (hS f du sp eS).ex
      obtain ⟨v, ev, rv⟩ := rs.all i _ (slot_get su i _ ei)
      cases (show v = V.ref f from rv)
      have named := (pe_var (X := X) (pos := p) hN hv hd hcd).run pins s σ H (fun v H1 => v = V.ref f ∧ H1 = H) I ⟨V.ref f, ev, rfl, rfl⟩
      refine wpAny_Call_Name_kw (thn named fun u s1 got => ?_)
      obtain ⟨w, H1, I1, r1, e1, e2⟩ := got
      subst e1
      subst e2
      cases (show u = Value.ref f from r1)
      refine PySem.W.callWith_K (h₀ := X.base) I1.ok.mod.kin hkp (thn (ha.run pos pins s1 σ H1 (fun vs H' => ∃ us h', sp (us ++ du) h' q x0 ∧ RUs X.K H' us vs ∧ RH X.K T h' H' ∧ Stp X.K H1 h H' h') I1 ⟨su, h, _, rs, rh, hq, fun us h' vs H' z1 z2 z3 z4 => ⟨us, h', z1, z2, z3, z4⟩⟩) fun us s2 got2 => ?_) he hpl
      obtain ⟨vs, H2, I2, r, us', h2, z1, z2, z3, z4⟩ := got2
      refine ⟨I2.kIn, ?_⟩
      show wpAny _ _ (call (.ref f) us) _ _ _
      have rall : Vals (vs ++ dvs) (us ++ ds) := r.append hdv
      have ruall : RUs X.K H2 (us' ++ du) (vs ++ dvs) := z2.append (hu H2)
      have lsp : LPl (Cxev X T) sp (vs ++ dvs) H2 Q (fun _ _ _ => False) := ⟨us' ++ du, h2, q, _, ruall, rh_from (h1 := h2) (H1 := H2) z3 rfl, z1, fun u h' v H' hu' ru rh' => kk u h' v H' hu' ru (rh_back z3 rh') (z4.trans rh'.st0), fun _ _ _ _ z => z.elim⟩
      have F' := F X.base
      have hl : (us ++ ds).length = ps.length := by
        rw [← rall.length]
        exact F'.len _ _ _ _ lsp
      have run := F'.run X.A X.stack s2 H2 ⟨us, []⟩ (us ++ ds) (vs ++ dvs) Q _ (hr.mono hk) I2.env0 (hb s2 us I2.kIn hl) rall lsp
      refine wpAny_call (codeAny_mono run fun r s' hq => ?_)
      cases r with
      | error e => exact (show False from hq).elim
      | ok fl =>
        cases fl with
        | ret u => exact I2.after hq
        | next => exact (show False from hq).elim
        | brk => exact (show False from hq).elim
        | cont => exact (show False from hq).elim
    · exact hq.elim
  · exact hq.elim
end
end DL

set_option Elab.async false
set_option linter.all false
set_option maxRecDepth 100000
set_option maxHeartbeats 4000000
/-! The data layer: tuples whose objects are known; more of dicts, sorted. -/
namespace DL
open PySem L2 NdefX LamX
section
variable {X : Cx} {T : ZC}
abbrev tupO (its : List Value) : Obj := { cls := .type "tuple", data := .seq its.toArray }
theorem laid_ft {pins : List (Addr × Obj)} {σ : L2.St} {H : Hp} {s : Shared} {h' : Heap} {xs : List V} {its : List Value} {t' : Nat} (I : Inv X pins σ H s) (k : ∀ b u, s.heap.get? b = some u → h'.get? b = some u) (hs : s.heap.objs.size ≤ h'.objs.size) (hz : xs.length ≤ sizeLine) (r : Vals xs its) :
    Inv X pins σ (upd H h'.objs.size (.frz (tupO its) (.tup xs))) { s with heap := h'.push (tupO its), toks := t' } :=
  I.laid (a := h'.objs.size) (fun b u e => Heap.get?_push_of_some _ (k b u e)) hs ⟨Heap.get?_push_size _ rfl, hz, its, r, ⟨_, Heap.get?_push_size _ rfl, rfl, _, rfl⟩⟩
theorem ru_ftm {K : PySem.W.Frag} {H : Hp} {a : Addr} {us : List U} {vs : List V} {its : List Value} (e : H a = some (.frz (tupO its) (.tup vs))) (r : RUs K H us vs) : RU K H (.ft us) (.ref a) := by
  unfold RU
  exact ⟨a, vs, tupO its, rfl, e, rfl, rfl, r⟩
/-! ### makers -/
/-- tuple(a list) -/
def cTupleF : DC1 := fun us h Q => match us with
  | [.ref p] => match lstU h p with
    | some xs => Q (.ft xs) h
    | none => False
  | _ => False
theorem c_tupleF : CallR X (.type "tuple") (LC X.K T cTupleF) := by
  intro pins s σ H xs ws Q I rv ⟨us, h, q, ru, rh, hr, k⟩
  unfold cTupleF at hr
  split at hr
  · rename_i p
    obtain ⟨v, rfl, r1⟩ := ru1 ru
    cases (show v = V.ref p from r1)
    split at hr
    · rename_i ys e
      obtain ⟨vs, sq, rr⟩ := rh.sql e
      obtain ⟨u, rfl, rx⟩ := vals1 rv
      cases rx
      obtain ⟨its, r', pl, hz⟩ := I.list sq
      have hlen := r'.length
      refine call_tuple_list pl.isList (fun h' kp => ?_) (by simp only [List.size_toArray] <;> omega)
      have I1 : Inv X pins σ H { s with heap := h' } := I.kept (t' := s.toks) kp
      have nf : H h'.objs.size = none := I1.hok.fresh (Nat.le_refl _)
      have I2 := laid_ft (t' := s.toks) I1 (h' := h') (fun b o e => e) (Nat.le_refl _) hz r'
      have st : Stp X.K H h (upd H h'.objs.size (.frz (tupO its) (.tup vs))) h := Stp.skip nf
      exact ⟨.ref h'.objs.size, _, I2, rfl, k _ h _ _ hr (ru_ftm upd_same (RUs.mono st.tm _ _ rr)) (rh.skip nf) st⟩
    · exact hr.elim
  · exact hr.elim
/-- a written tuple -/
def dTupF (t : DA) (s : SU) (h : HU) (Q : DV) : Prop := t s h fun us h1 => us.length ≤ sizeLine ∧ Q (.ft us) h1
theorem d_tupF {es : List Expr} {t : DA} {x1} {pos : Pos} (p : PDA X T es t) : PD X T (.Tuple es x1 pos) (dTupF t) := by
  refine ⟨fun pins s σ H Q I ⟨su, h, q, rs, rh, hq, k⟩ => ?_⟩
  refine wpAny_Tuple_spliced (thn (p.run pos pins s σ H (fun vs H1 => ∃ us h1, (us.length ≤ sizeLine ∧ q (.ft us) h1) ∧ RUs X.K H1 us vs ∧ RH X.K T h1 H1 ∧ Stp X.K H h H1 h1) I ⟨su, h, _, rs, rh, hq, fun us h1 vs H1 q1 r1 rh1 st1 => ⟨us, h1, q1, r1, rh1, st1⟩⟩) fun us s1 ⟨xs, H1, I1, r, ys, h1, ⟨z, q1⟩, ru, rh1, st1⟩ => ⟨by rw [← r.length, ru.length]; exact z, ?_⟩)
  have nf : H1 s1.heap.objs.size = none := I1.hok.fresh (Nat.le_refl _)
  have I2 := laid_ft (t' := s1.toks) I1 (h' := s1.heap) (fun b o e => e) (Nat.le_refl _) (by rw [ru.length]; exact z) r
  have st : Stp X.K H1 h1 (upd H1 s1.heap.objs.size (.frz (tupO us) (.tup xs))) h1 := Stp.skip nf
  exact ⟨.ref s1.heap.objs.size, _, I2, rfl, k _ h1 _ _ q1 (ru_ftm upd_same (RUs.mono st.tm _ _ ru)) (rh1.skip nf) (st1.trans st)⟩
/-- a part of a tuple, not the whole -/
def oSlF (x : U) (lo hi : Option Int) (h : HU) (Q : DV) : Prop := ∃ us, (x = .tup us ∨ x = .ft us) ∧ ¬ (HT.sIx us.length 0 lo = 0 ∧ HT.sIx us.length us.length hi = us.length) ∧ Q (.ft (cutU us lo hi)) h
def LSlF (K : PySem.W.Frag) (T : ZC) : V → Option Int → Option Int → Hp → VK → Prop := fun x lo hi H Q => ∃ a h q, RU K H a x ∧ RH K T h H ∧ oSlF a lo hi h q ∧ ∀ u h' v H', q u h' → RU K H' u v → RH K T h' H' → Stp K H h H' h' → Q v H'
theorem o_slF : SlR X (LSlF X.K T) := by
  intro pins s σ H x v vl vu lo hi sl Q I rx hs pl pu ⟨a, h, q, ra, rh, ⟨us, ea, hw, hq⟩, k⟩
  obtain ⟨p, vs, rfl, t, rr⟩ : ∃ p vs, x = V.ref p ∧ SqT X.K H p vs ∧ RUs X.K H us vs := by
    rcases ea with rfl | rfl
    · obtain ⟨p, vs, e, t, rr⟩ := ru_tup ra
      exact ⟨p, vs, e, SqT.of t, rr⟩
    · obtain ⟨p, vs, e, t, rr, _⟩ := ru_ft ra
      exact ⟨p, vs, e, t, rr⟩
  cases rx
  obtain ⟨its, r, ht, hz⟩ := I.tuple t
  have hlen : its.toArray.size = vs.length := by rw [List.size_toArray]; exact r.length.symm
  have hlu : vs.length = us.length := rr.length
  refine ⟨"tuple", _, PyProof.Rows.slot_tuple_getitem.lookup, ht.typeIs, ?_⟩
  refine HT.getItem_tuple_cut ht hs pl pu (by rw [hlen, hlu]; exact hw) ?_ (by rw [hlen]; exact hz)
  rw [hlen]
  have nf : H s.heap.objs.size = none := I.hok.fresh (Nat.le_refl _)
  have I2 := laid_ft (t' := s.toks) I (h' := s.heap) (fun b o e => e) (Nat.le_refl _) (Nat.le_trans (cutV_length vs lo hi) hz) ((r.drop (HT.sIx vs.length 0 lo)).take (HT.sIx vs.length vs.length hi - HT.sIx vs.length 0 lo))
  have st : Stp X.K H h (upd H s.heap.objs.size (.frz (tupO ((its.drop (HT.sIx vs.length 0 lo)).take (HT.sIx vs.length vs.length hi - HT.sIx vs.length 0 lo))) (.tup (cutV vs lo hi)))) h := Stp.skip nf
  exact ⟨.ref s.heap.objs.size, _, I2, rfl, k _ h _ _ hq (ru_ftm upd_same (RUs.mono st.tm _ _ (cutU_v rr lo hi))) (rh.skip nf) st⟩
def dSlF (te : DE) (tl th : DO) (s : SU) (h : HU) (Q : DV) : Prop := te s h fun x h1 => tl s h1 fun lo h2 => th s h2 fun hi h3 => oSlF x lo hi h3 Q
theorem d_slF {e : Expr} {lo hi : Option Expr} {te : DE} {tl th : DO} {pos p2 : Pos} (he : PD X T e te) (hl : PO X lo (LP X.K T tl)) (hu : PO X hi (LP X.K T th)) : PD X T (.Subscript e (.Slice lo hi none p2) pos) (dSlF te tl th) :=
  PE.weak (pe_slice (o_slF (T := T)) he hl hu) fun σ H Q ⟨s, h, q, rs, rh, hq, k⟩ =>
    ⟨s, h, _, rs, rh, hq, fun x h1 v1 H1 q1 r1 rh1 st1 => ⟨s, h1, _, rs.mono st1.tm, rh1, q1, fun l h2 H2 q2 rh2 st2 => ⟨s, h2, _, rs.mono (st1.trans st2).tm, rh2, q2, fun g h3 H3 q3 rh3 st3 =>
      ⟨x, h3, q, RU.mono (st2.trans st3).tm _ _ r1, rh3, q3, fun u h' v H' hu ru rh' st' => k u h' v H' hu ru rh' (st1.trans (st2.trans (st3.trans st')))⟩⟩⟩⟩
/-- two known tuples, one behind the other -/
def oAddF : D2 := fun x y h Q => match x, y with
  | .ft a, .ft b => a.length + b.length ≤ sizeLine ∧ Q (.ft (a ++ b)) h
  | _, _ => False
theorem o_addF : OpR X (binaryOp .Add) (LO X.K T oAddF) := by
  intro pins s σ H x y v u Q I rx ry ⟨a, b, h, q, ra, rb, rh, hr, k⟩
  cases a <;> cases b <;> try exact hr.elim
  rename_i us ws
  obtain ⟨hl, hq⟩ := hr
  obtain ⟨a1, v1, e1, t1, r1, _⟩ := ru_ft ra
  obtain ⟨a2, v2, e2, t2, r2, _⟩ := ru_ft rb
  subst e1
  subst e2
  by_cases hx : v1 = []
  · refine op_catA pins s σ H _ _ v u Q I rx ry ⟨a1, a2, v1, v2, rfl, rfl, t1, t2, by rw [r1.length, r2.length]; exact hl, fun _ => ?_, fun z => absurd hx z, fun z => absurd hx z⟩
    subst hx
    have : us = [] := List.eq_nil_of_length_eq_zero r1.length.symm
    subst this
    exact stay k hq rb rh
  · by_cases hy : v2 = []
    · refine op_catA pins s σ H _ _ v u Q I rx ry ⟨a1, a2, v1, v2, rfl, rfl, t1, t2, by rw [r1.length, r2.length]; exact hl, fun z => absurd z hx, fun _ _ => ?_, fun _ z => absurd hy z⟩
      subst hy
      have : ws = [] := List.eq_nil_of_length_eq_zero r2.length.symm
      subst this
      rw [List.append_nil] at hq
      exact stay k hq ra rh
    · cases rx
      cases ry
      obtain ⟨its, i1, p1, _⟩ := I.tuple t1
      obtain ⟨its2, i2, p2, _⟩ := I.tuple t2
      refine HT.cat_tup p1 p2 (fun z => hx (i1.nil_iff.mp z)) (fun z => absurd (i2.nil_iff.mp z) hy) (fun z => ?_) (by rw [← i1.length, ← i2.length, r1.length, r2.length]; exact hl)
      have nf : H s.heap.objs.size = none := I.hok.fresh (Nat.le_refl _)
      have I2 := laid_ft (t' := s.toks) I (h' := s.heap) (fun b o e => e) (Nat.le_refl _) (by rw [List.length_append, r1.length, r2.length]; exact hl) (i1.append i2)
      have st : Stp X.K H h (upd H s.heap.objs.size (.frz (tupO (its ++ its2)) (.tup (v1 ++ v2)))) h := Stp.skip nf
      exact ⟨.ref s.heap.objs.size, _, I2, rfl, k _ h _ _ hq (ru_ftm upd_same (RUs.mono st.tm _ _ (r1.append r2))) (rh.skip nf) st⟩
/-! ### t.index(x) -/
def dTix (to te : DE) (s : SU) (h : HU) (Q : DV) : Prop := to s h fun x h1 => (∃ us, x = .ft us) ∧ te s h1 fun y h2 => ∃ ys : List Str, ∃ z j, x = .ft (ys.map U.str) ∧ y = .str z ∧ ys[j]? = some z ∧ (∀ m, m < j → ys[m]? ≠ some z) ∧ Q (.int (j : Nat)) h2
theorem strs_ruv {K : PySem.W.Frag} {H : Hp} : ∀ {ys : List Str} {vs : List V}, RUs K H (ys.map U.str) vs → vs = ys.map V.str
  | [], vs, r => r
  | y :: ys, vs, r => by
    obtain ⟨v, w, rfl, r1, r2⟩ := r.uncons
    cases (show v = V.str y from r1)
    rw [strs_ruv r2]
    rfl
theorem d_tix {o a : Expr} {to te : DE} {apos cpos : Pos} (ho : PD X T o to) (ha : PD X T a te)
    (hbase : attributeBase o "index" X.env (eval o X.env) = eval o X.env := by rfl)
    (hfew : ((backTo cpos (starEach [a] X.env)).all (fun x => !x.1) && (backToKw cpos (keywordEach [] X.env)).all (fun x => x.1.isSome)
      && decide ([a].length + ([] : List Keyword).length + (if ([] : List Keyword).isEmpty then 0 else 1) < 30)) = true := by rfl)
    (hline : (apos.endLine == cpos.line) = true := by rfl) (hs : starEach [a] X.env = (false, eval a X.env) :: starEach [] X.env := by rfl) (hplain : (backTo cpos (starEach [] X.env)).any (·.1) = false := by rfl) :
    PD X T (.Call (.Attribute o "index" apos) [a] [] cpos) (dTix to te) := by
  refine ⟨fun pins s σ H Q I ⟨su, h, q, rs, rh, hq, k⟩ => ?_⟩
  refine wpAny_Call_method_late hbase hfew hline rfl (thn (ho.run pins s σ H (fun v H1 => ∃ x h1, RU X.K H1 x v ∧ RH X.K T h1 H1 ∧ Stp X.K H h H1 h1 ∧ ((∃ us, x = .ft us) ∧ te su h1 fun y h2 => ∃ ys : List Str, ∃ z j, x = .ft (ys.map U.str) ∧ y = .str z ∧ ys[j]? = some z ∧ (∀ m, m < j → ys[m]? ≠ some z) ∧ q (.int (j : Nat)) h2)) I ⟨su, h, _, rs, rh, hq, fun x h1 v1 H1 q1 r1 rh1 st1 => ⟨x, h1, r1, rh1, st1, q1⟩⟩) fun v s1 ⟨x, H1, I1, r1, u, h1, ru, rh1, st1, ⟨us, eu⟩, q1⟩ => ?_)
  subst eu
  obtain ⟨p, vs, rfl, t, rr, ob, e1, e2, e3⟩ := ru_ft ru
  cases r1
  have hob : s1.heap.get? p = some ob := (I1.hok p _ e1).1
  refine ⟨"tuple", "tuple.index", PySem.F.plainAttrs_tuple, PySem.F.slot_tuple_index, PySem.F.type_tuple_index, ⟨ob, hob, e2⟩, fun b eb => by cases eb; exact ⟨ob, hob, e3⟩, ?_⟩
  rw [hs]
  refine Calls.callWith_builtin (by show (false || (backTo cpos (starEach [] X.env)).any (·.1)) = false; rw [hplain] <;> rfl) (Calls.evalArgs_plain ?_)
  show wpAny _ _ (spliced ((false, eval a X.env) :: backTo cpos (starEach [] X.env))) _ _ s1
  refine Calls.spliced_cons (thn (ha.run pins s1 σ H1 (fun w H2 => ∃ y h2, RU X.K H2 y w ∧ RH X.K T h2 H2 ∧ Stp X.K H1 h1 H2 h2 ∧ ∃ ys : List Str, ∃ z j, U.ft us = .ft (ys.map U.str) ∧ y = .str z ∧ ys[j]? = some z ∧ (∀ m, m < j → ys[m]? ≠ some z) ∧ q (.int (j : Nat)) h2) I1 ⟨su, h1, _, rs.mono st1.tm, rh1, q1, fun y h2 w H2 q2 r2 rh2 st2 => ⟨y, h2, r2, rh2, st2, q2⟩⟩) fun w s2 ⟨w1, H2, I2, rw1, y, h2, ry, rh2, st2, ys, z, j, ex, ey, hj, hno, q2⟩ => ?_)
  refine Calls.spliced_nil ?_
  subst ey
  cases (show w1 = V.str z from ry)
  cases ex
  have rr2 := RUs.mono st2.tm _ _ rr
  have ev := strs_ruv rr2
  subst ev
  exact mt_tup_index pins s2 σ H2 (.ref p) [.str z] (.ref p) [w] Q I2 rfl (.cons rw1 .nil) ⟨p, ys, z, j, rfl, rfl, .inl (.inr ⟨ob, st2.tm.frz _ _ _ e1⟩), hj, hno, k _ h2 _ _ q2 rfl rh2 (st1.trans st2)⟩
/-! ### dicts -/
/-- {}: keys ints, texts -/
def dDict0 (s : SU) (h : HU) (Q : DV) : Prop := ∀ p, h p = none → Q (.ref p) (updU h p (.dK []))
theorem d_dict0 {pos : Pos} : PD X T (.Dict [] [] pos) dDict0 := PE.weak pe_dnewK fun σ H Q ⟨s, h, q, rs, rh, hq, k⟩ p np => k _ _ _ _ (hq p (rh.free np)) rfl (rh.new np ⟨[], rfl, .nil⟩) (Stp.new np)
/-- sorted(d), its keys ints -/
def cSortDI : DC1 := fun us h Q => match us with
  | [.ref p] => match h p with
    | some (.dK kvs) => ∃ ks : List Int, kvs.map (·.1) = ks.map Sum.inl ∧ ks.length < 64 ∧ ∀ ys : List Int, ys.Perm ks → ys.Pairwise (· ≤ ·) → ∀ r, h r = none → Q (.ref r) (updU h r (.lst (ys.map U.int)))
    | _ => False
  | _ => False
theorem c_sortDI (hc : X.calm = true) : CallR X (.builtin "sorted") (LC X.K T cSortDI) := by
  intro pins s σ H xs ws Q I rv ⟨us, h, q, ru, rh, hr, k⟩
  unfold cSortDI at hr
  split at hr
  · rename_i p
    obtain ⟨v, rfl, r1⟩ := ru1 ru
    cases (show v = V.ref p from r1)
    split at hr
    · rename_i kvs e
      obtain ⟨ks, e1, l1, hr⟩ := hr
      obtain ⟨ho, e2, kw, rfl, r⟩ := rh.obj p _ e
      exact call_sortedDI hc pins s σ H _ ws Q I rv ⟨p, kw, ks, rfl, .inl e2, (RKV.keys r).symm.trans e1, l1, fun ys r' g1 g2 n => k _ _ _ _ (hr ys g1 g2 r' (rh.free n)) rfl (rh.new n ⟨_, rfl, ints_ru ys⟩) (Stp.new n)⟩
    · exact hr.elim
  · exact hr.elim
/-! ### t * n -/
def oMulT : D2 := fun x y h Q => match x, y with
  | .tup us, .int k => us ≠ [] ∧ 2 ≤ k ∧ k ≤ 1000 ∧ us.length ≤ 1000 ∧ Q (.tup (List.replicate k.toNat us).flatten) h
  | _, _ => False
theorem o_mulT : OpR X (binaryOp .Mult) (LO X.K T oMulT) := by
  intro pins s σ H x y v u Q I rx ry ⟨a, b, h, q, ra, rb, rh, hr, k⟩
  cases a <;> cases b <;> try exact hr.elim
  rename_i us n
  obtain ⟨hne, h2, h1000, hl, hq⟩ := hr
  obtain ⟨p, vs, rfl, t, rr⟩ := ru_tup ra
  cases (show y = V.int n from rb)
  refine op_repT pins s σ H _ _ v u Q I rx ry ⟨p, n, vs, rfl, rfl, SqT.of t, fun z => hne (List.eq_nil_of_length_eq_zero (by rw [← rr.length, z]; rfl)), h2, h1000, by rw [rr.length]; exact hl, fun r nr => ?_⟩
  have st : Stp X.K H h (upd H r (.tup (List.replicate n.toNat vs).flatten)) h := Stp.skip nr
  exact k _ h _ _ hq (ru_mk upd_same (RUs.mono st.tm _ _ (rr.rep n.toNat))) (rh.skip nr) st
end
/-! ### sorted(set(..)) of ints -/
def inOf : Value → Int
  | .int x _ => x
  | _ => 0
section
open PyProof.Rows
theorem ints_all : ∀ {vs : List Value}, (∀ v ∈ vs, ∃ x t, v = Value.int x t) → IntsAre vs (vs.map inOf)
  | [], _ => .nil
  | v :: vs, h => by
    obtain ⟨x, t, e⟩ := h v List.mem_cons_self
    subst e
    exact .cons x t (ints_all fun u hu => h u (List.mem_cons_of_mem _ hu))
theorem collect_ints {P : Program} {w : World} {A : Around} {E : Value → Shared → Prop} {s : Shared} {S : Addr} {ks : List Key} {R : List Value → Shared → Prop} (hh : A.handled = none) (M : SetM P w s.heap S ks) (ht : ∀ k ∈ ks, ∃ x, k = Sum.inl x)
    (hR : ∀ vs ss s1, IntsAre vs ss → (ss.map (fun x => (Sum.inl x : Key))).Perm ks → (∀ b o, s.heap.get? b = some o → s1.heap.get? b = some o) → s1.gens = s.gens → s1.os = s.os → R vs s1) :
    wpAny (model P w) A (collect (.ref S)) R E s := by
  obtain ⟨⟨o, es, ep, t, ho, hex, hd, g, pm, hb, hf, hr, hl⟩, nd⟩ := M
  refine collect_set hh ⟨o, ho, hex.1, hd⟩ hf hb hr hl fun s1 vs k1 hz g1 o1 pv => ?_
  have one : ∀ v ∈ vs, ∃ e ∈ es.toList, e.2 = v := fun v hv => List.mem_map.mp (pv.mem_iff.mp hv)
  have txt : ∀ e ∈ es.toList, ∃ x tk, e.2 = Value.int x tk := fun e he => by
    obtain ⟨k, rk, _⟩ := g e he
    have ek : kE e = k := kOf_rel rk
    obtain ⟨x, ex⟩ := ht k (pm.mem_iff.mp (List.mem_map.mpr ⟨e, he, ek⟩))
    subst ex
    obtain ⟨tk, e2⟩ := (show ∃ tk, e.2 = Value.int x tk from rk)
    exact ⟨x, tk, e2⟩
  have all : ∀ v ∈ vs, ∃ x tk, v = Value.int x tk := fun v hv => by
    obtain ⟨e, he, e2⟩ := one v hv
    rw [← e2]
    exact txt e he
  refine hR vs (vs.map inOf) s1 (ints_all all) ?_ k1 g1 o1
  rw [List.map_map]
  have p2 : (vs.map kOf).Perm ks := by
    refine (pv.map kOf).trans ?_
    rw [List.map_map]
    exact pm
  have e3 : vs.map ((fun x => (Sum.inl x : Key)) ∘ inOf) = vs.map kOf := List.map_congr_left fun v hv => by
    obtain ⟨x, tk, e⟩ := all v hv
    subst e
    rfl
  rw [e3]
  exact p2
theorem nodup_of_inl : ∀ {l : List Int}, (l.map (fun x => (Sum.inl x : Key))).Nodup → l.Nodup
  | [], _ => List.nodup_nil
  | x :: l, h => by
    obtain ⟨a, b⟩ := List.nodup_cons.mp h
    exact List.nodup_cons.mpr ⟨fun m => a (List.mem_map.mpr ⟨x, m, rfl⟩), nodup_of_inl b⟩
theorem nodup_leI : ∀ {l m : List Int}, l.Nodup → (∀ x ∈ l, x ∈ m) → l.length ≤ m.length
  | [], _, _, _ => Nat.zero_le _
  | x :: l, m, nd, h => by
    obtain ⟨a, b⟩ := List.nodup_cons.mp nd
    have hx := h x List.mem_cons_self
    have := nodup_leI (m := m.erase x) b fun y hy => (List.mem_erase_of_ne (fun (z : y = x) => a (z ▸ hy))).mpr (h y (List.mem_cons_of_mem _ hy))
    rw [List.length_erase_of_mem hx] at this
    have : 0 < m.length := List.length_pos_of_mem hx
    rw [List.length_cons]
    omega
end
open PyProof.Rows in
/-- what sorted leaves: a new list -/
theorem sorted_endV {X : Cx} {pins : List (Addr × Obj)} {σ : L2.St} {H : Hp} {s s' : Shared} {p : Addr} {out : Array Value} {c : Nat} {xs : List V} {Q : VK} (I : Inv X pins σ H s) (grow : ∀ b o, s.heap.get? b = some o → s'.heap.get? b = some o) (eg : s'.gens = s.gens) (eo : s'.os = s.os) (hp : s.heap.get? p = none)
    (hs : s'.heap.get? p = some (seqObj "list" out c)) (ho : Vals xs out.toList) (hl : xs.length ≤ sizeLine) (q : H p = none → Q (.ref p) (upd H p (.lst xs))) : EP X pins σ Q (.ref p) s' := by
  have hn : H p = none := by
    cases z : H p with
    | none => rfl
    | some u =>
      obtain ⟨ob, e⟩ := obj_there (I.hok p u z)
      rw [hp] at e
      cases e
  have J : Inv X pins σ (upd H p (.lst xs)) { s with heap := s'.heap, gens := s'.gens, drawn := s'.drawn, toks := s'.toks } :=
    I.call (ch := []) (Un.laidN grow hp hn) (I.hok.laidN grow hn ⟨hl, out.toList, c, ho, hs⟩) (by rw [eg]; exact I.bare) (fun _ z => nomatch z)
  have e : s' = { s with heap := s'.heap, gens := s'.gens, drawn := s'.drawn, toks := s'.toks } := by
    cases s'
    cases s
    cases eo
    rfl
  rw [e]
  exact ⟨.ref p, _, J, rfl, q hn⟩
open PyProof.Rows in
section
variable {X : Cx} {T : ZC}
def dSortSetI (te : DE) (s : SU) (h : HU) (Q : DV) : Prop := te s h fun x h1 => (∀ z, x ≠ .str z) ∧ ∃ ys ns, ∃ B : List Int, srcU h1 x = some ys ∧ intsU ys = some ns ∧ ns.length ≤ 1000 ∧ B.length < 64 ∧ (∀ n ∈ ns, n ∈ B) ∧
  ∀ ns' : List Int, ns'.Nodup → (∀ y, y ∈ ns' ↔ y ∈ ns) → ns'.Pairwise (· ≤ ·) → ∀ r, h1 r = none → Q (.ref r) (updU h1 r (.lst (ns'.map U.int)))
theorem d_sortSetI {e : Expr} {te : DE} {p1 p2 pos1 pos2 : Pos} (hc : X.calm = true) (hg1 : Gl X "sorted") (hm1 : X.mg "sorted" = none) (hg2 : Gl X "set") (hm2 : X.mg "set" = none) (he : PD X T e te)
    (hs1 : starEach [.Call (.Name "set" p2) [e] [] pos2] X.env = (false, eval (.Call (.Name "set" p2) [e] [] pos2) X.env) :: starEach [] X.env := by rfl) (hs2 : starEach [e] X.env = (false, eval e X.env) :: starEach [] X.env := by rfl)
    (hpl1 : (backTo pos1 (starEach [] X.env)).any (·.1) = false := by rfl) (hpl2 : (backTo pos2 (starEach [] X.env)).any (·.1) = false := by rfl) :
    PD X T (.Call (.Name "sorted" p1) [.Call (.Name "set" p2) [e] [] pos2] [] pos1) (dSortSetI te) := by
  refine ⟨fun pins s σ H Q I ⟨su, h, q, rs, rh, hq, k⟩ => ?_⟩
  refine wpAny_Call_Name_kw (ld_blt I hg1 hm1 boot_sorted ?_)
  refine PyProof.Rows.callWith_builtin1 ?_ hs1 hpl1
  rw [hs1]
  show wpAny _ _ (spliced ((false, eval (.Call (.Name "set" p2) [e] [] pos2) X.env) :: backTo pos1 (starEach [] X.env))) _ _ s
  refine Calls.spliced_cons ?_
  refine wpAny_Call_Name_kw (ld_blt I hg2 hm2 boot_set ?_)
  refine PyProof.Rows.callWith_type1 ?_ hs2 hpl2
  rw [hs2]
  show wpAny _ _ (spliced ((false, eval e X.env) :: backTo pos2 (starEach [] X.env))) _ _ s
  refine Calls.spliced_cons (thn (he.run pins s σ H (fun v H1 => ∃ u h1, ((∀ z, u ≠ .str z) ∧ ∃ ys ns, ∃ B : List Int, srcU h1 u = some ys ∧ intsU ys = some ns ∧ ns.length ≤ 1000 ∧ B.length < 64 ∧ (∀ n ∈ ns, n ∈ B) ∧
      ∀ ns' : List Int, ns'.Nodup → (∀ y, y ∈ ns' ↔ y ∈ ns) → ns'.Pairwise (· ≤ ·) → ∀ r, h1 r = none → q (.ref r) (updU h1 r (.lst (ns'.map U.int)))) ∧ RU X.K H1 u v ∧ RH X.K T h1 H1 ∧ Stp X.K H h H1 h1) I
    ⟨su, h, _, rs, rh, hq, fun u h1 v H1 q1 r1 rh1 st1 => ⟨u, h1, q1, r1, rh1, st1⟩⟩) fun w s1 got => ?_)
  obtain ⟨v, H1, I1, rv, u, h1, ⟨nz, ys, ns, B, e1, e2, hl, hB, hsub, hq⟩, ru, rh1, st1⟩ := got
  refine Calls.spliced_nil ?_
  obtain ⟨src, zs, ev, hs, rr, _⟩ := srcU_v rh1 ru e1
  have ez : zs = (ns.map (fun x => (Sum.inl x : Key))).map kV := by
    rw [intsU_v e2 rr, List.map_map]
    rfl
  subst ez
  rw [← ev] at rv
  have nt : ∀ z, src ≠ .txt z := by
    intro z ez
    subst ez
    have evs : V.str z = v := ev
    subst evs
    cases u with
    | str y => exact nz y rfl
    | tup us =>
      obtain ⟨_, _, e, _⟩ := ru_tup ru
      cases e
    | ft us =>
      obtain ⟨_, _, e, _⟩ := ru_ft ru
      cases e
    | ref p => cases (show V.str z = V.ref p from ru)
    | non => cases e1
    | bl b => cases e1
    | int i => cases e1
    | ty n => cases e1
    | clo F => cases e1
  refine call_setS I1 hc nt hs rv (by rw [List.length_map]; unfold scanBound; omega) fun h' tk M grow => ?_
  refine Calls.spliced_nil ?_
  have hh : X.A.in1.handled = none := by
    have z := I1.ok.hd hc
    simp [z]
  refine Calls.call_function_entry kind_sorted plain_sorted entry_sorted (args_sorted1 _) ?_
  unfold Builtin.«sorted»
  refine wpAny_bind (m := checkCount "sorted" 1 1 _) (wpAny_pure ?_)
  refine wpAny_bind (collect_ints (s := { s1 with heap := h', toks := tk }) hh M (fun k hk => ?_) fun vs ss s2 hI pk k1 g1 o1 => ?_)
  · rcases (addAll_mem _ _ _).mp hk with z | z
    · cases z
    · obtain ⟨x, _, e⟩ := List.mem_map.mp z
      exact ⟨x, e.symm⟩
  have nds : ss.Nodup := nodup_of_inl (pk.nodup_iff.mpr (addAll_nd _ _ List.nodup_nil))
  have mems : ∀ y, y ∈ ss ↔ y ∈ ns := fun y => by
    have a := pk.mem_iff (a := (Sum.inl y : Key))
    rw [addAll_mem] at a
    constructor
    · intro hy
      rcases a.mp (List.mem_map.mpr ⟨y, hy, rfl⟩) with z | z
      · cases z
      · obtain ⟨x, hx, e⟩ := List.mem_map.mp z
        cases e
        exact hx
    · intro hy
      obtain ⟨x, hx, e⟩ := List.mem_map.mp (a.mpr (.inr (List.mem_map.mpr ⟨y, hy, rfl⟩)))
      cases e
      exact hx
  have slen : ss.length < 64 := Nat.lt_of_le_of_lt (nodup_leI nds fun x hx => hsub x ((mems x).mp hx)) hB
  have vlen : vs.length = ss.length := hI.length
  refine wpAny_bind (wpAny_newList ?_ (by rw [vlen, sizeLine_eq]; omega))
  have hoL : (s2.heap.push (seqObj "list" vs.toArray 0)).get? s2.heap.objs.size = some (seqObj "list" vs.toArray 0) := Heap.get?_push_size _ rfl
  refine wpAny_bind (wpAny_holding (wpAny_call_entry slot_list_sort ⟨_, hoL, rfl⟩ entry_list_sort (list_sort_tree hoL hI (by rw [vlen]; exact slen) fun out ns' a1 a2 a3 => ⟨_, rfl, ?_⟩) (args_list_sort _)))
  obtain ⟨c, hc'⟩ := sortedHeap_at (vs := vs) (out := out) hoL
  have hn : s1.heap.get? s2.heap.objs.size = none := by
    cases z : s1.heap.get? s2.heap.objs.size with
    | none => rfl
    | some o => exact absurd (Heap.lt_size (k1 _ _ (grow _ _ z))) (Nat.lt_irrefl _)
  have l64 : (ns'.map V.int).length ≤ sizeLine := by
    rw [List.length_map, a2.length_eq, sizeLine_eq]
    omega
  refine wpAny_pure ⟨_, rfl, sorted_endV I1 (fun b u z => ?_) g1 o1 hn hc' (vals_of_ints a1) l64 fun hN => k _ _ _ _ (hq ns' (a2.nodup_iff.mpr nds) (fun y => by rw [a2.mem_iff, mems]) a3 _ (rh1.free hN)) rfl (rh1.new hN ⟨_, rfl, ints_ru ns'⟩) (st1.trans (Stp.new hN))⟩
  have q := k1 _ _ (grow b u z)
  have hlt := Heap.lt_size q
  show (sortedHeap (s2.heap.push (seqObj "list" vs.toArray 0)) s2.heap.objs.size vs out).get? b = some u
  rw [sortedHeap_old (Nat.ne_of_lt hlt) (by rw [size_push']; exact Nat.lt_succ_of_lt hlt)]
  exact Heap.get?_push_of_some _ q
end
end DL

set_option Elab.async false
set_option linter.all false
set_option maxRecDepth 100000
set_option maxHeartbeats 2000000
/-! The data layer: defs whose code's table is known, defs that are handed made functions. -/
namespace DL
open PySem L2 NdefX LamX
abbrev XTc (e : Ev) (base : Heap) (N : List Str) (qual : Str) (sc : Scope) (f c : Addr) (A : Around) (outer : List Env) (s : Shared) (H : Hp) (E : XK) : Cx := XT e base N qual sc f (.ref c) A outer s H E
/-- a def whose code object c has the table P -/
structure FunC (e : Ev) (x : Str) (st : Stmt) (dvs : List V) (c P : Addr) (nm : Nat → Nat → Str) : Prop where
  ex : ∃ f fd, FunD e.K x x (defArgs st) (defBody st) (defScope st) dvs [] f fd ∧ e.mg x = some (.ref f) ∧ fd.code = .ref c
  tb : ∀ base, e.K.In base → TabB base e.mg c P
  mem : (P, nm) ∈ e.tb
  one : ∀ p ∈ e.tb, p.1 = P → p.2 = nm
section
variable {e : Ev}
theorem def_okX {base : Heap} {x : Str} {st : Stmt} {f c P : Addr} {fd : FuncData} {N ps : List Str} {k : Nat} {sp : Sp} {dvs : List V} (F : FunD e.K x x (defArgs st) (defBody st) (defScope st) dvs [] f fd) (hc : fd.code = .ref c) (tb : e.K.In base → TabB base e.mg c P) (S : FnScope N ps (defScope st)) (len : ∀ vs H Q E, sp vs H Q E → vs.length = ps.length)
    (hbody : TabB base e.mg c P → ∀ (A : Around) (outer : List Env) (s : Shared) (H : Hp) (vs : List V) (Q : VK) (E : XK), RoomB k x (defScope st) f (.ref c) A s → sp vs H Q E →
      ∃ t, PSs (cxOf CX0 e.P e.w e.K e.mg base N x (defScope st) f (.ref c) A outer s H E) (defBody st) t ∧ t { nx := fun _ H' => Q .non H', rt := Q } (start N vs) H) :
    FnOk e.P e.w e.K e.mg base CX0 (k + 1) f fd ps sp := by
  obtain ⟨oc, od, dV, kV, doc, pm, an, cdv, ct, osl, rfl, lk, hcd, _, _⟩ := F.ex
  have ec : cdv = .ref c := hc
  subst ec
  refine ⟨len, fun A outer s H args us vs Q E hr e0 hb r hsp => ?_⟩
  exact (fn_of lk hcd S len fun A outer s H vs Q E hr hsp => hbody (tb e0.mod.kin) A outer s H vs Q E hr hsp).run A outer s H args us vs Q E hr e0 hb r hsp
/-- .. its body a reading, nothing handed in that is made -/
theorem def_okXP {base : Heap} {x : Str} {st : Stmt} {f c P : Addr} {fd : FuncData} {N ps : List Str} {k : Nat} {sp : DP} {dvs : List V} (F : FunD e.K x x (defArgs st) (defBody st) (defScope st) dvs [] f fd) (hc : fd.code = .ref c) (tb : e.K.In base → TabB base e.mg c P) (S : FnScope N ps (defScope st)) (len : ∀ us h q y, sp us h q y → us.length = ps.length)
    (hbody : TabB base e.mg c P → ∀ (A : Around) (outer : List Env) (s : Shared) (H : Hp) (h0 : HU) (E : XK), RoomB k x (defScope st) f (.ref c) A s →
      ∃ t, PDSs (XTc e base N x (defScope st) f c A outer s H E) ⟨e.tb, H, h0⟩ (defBody st) t ∧ ∀ us q y, sp us h0 q y → t { nx := fun _ h' => WkV q .non h', rt := WkV q } (startU N us) h0) :
    FnOk e.P e.w e.K e.mg base CX0 (k + 1) f fd ps (LPl e sp) := by
  refine def_okX F hc tb S (fun vs H Q E ⟨us, h, q, y, r, _, s, _⟩ => by rw [r.length]; exact len us h q y s) fun TB A outer s H vs Q E hr ⟨us, h, q, y, ru, rh, hs, kq, ky⟩ => ?_
  obtain ⟨t, ht, hq⟩ := hbody TB A outer s H h E hr
  refine ⟨_, PSs.nox ht, startU N us, h, _, rs_start ru, rh, hq us q y hs, ?_⟩
  exact ⟨fun s' h' σ' H' ⟨h1, sb, z⟩ _ r2 _ => kq .non h1 .non H' z rfl (r2.sub sb), fun u h' v H' ⟨h1, sb, z⟩ r1 r2 _ => kq u h1 v H' z r1 (r2.sub sb), fun _ _ _ _ z => z.elim, fun _ _ _ _ z => z.elim⟩
/-- .. handed made functions -/
theorem def_okXC {base : Heap} {x : Str} {st : Stmt} {f c P : Addr} {fd : FuncData} {N ps : List Str} {k kc : Nat} {sp : DSp} {dvs : List V} (F : FunD e.K x x (defArgs st) (defBody st) (defScope st) dvs [] f fd) (hc : fd.code = .ref c) (tb : e.K.In base → TabB base e.mg c P) (S : FnScope N ps (defScope st)) (len : ∀ C us h q y, sp C us h q y → us.length = ps.length)
    (hbody : TabB base e.mg c P → ∀ (A : Around) (outer : List Env) (s : Shared) (H : Hp) (h0 : HU) (E : XK), RoomB k x (defScope st) f (.ref c) A s →
      ∃ t, PDSs (XTc e base N x (defScope st) f c A outer s H E) ⟨e.tb, H, h0⟩ (defBody st) t ∧ ∀ us q y, sp (Callable e base kc H) us h0 q y → t { nx := fun _ h' => WkV q .non h', rt := WkV q } (startU N us) h0) :
    FnOk e.P e.w e.K e.mg base CX0 (k + 1) f fd ps (LSp e base kc sp) := by
  refine def_okX F hc tb S (fun vs H Q E ⟨us, h, q, y, r, _, s, _⟩ => by rw [r.length]; exact len _ us h q y s) fun TB A outer s H vs Q E hr ⟨us, h, q, y, ru, rh, hs, kq, ky⟩ => ?_
  obtain ⟨t, ht, hq⟩ := hbody TB A outer s H h E hr
  refine ⟨_, PSs.nox ht, startU N us, h, _, rs_start ru, rh, hq us q y hs, ?_⟩
  exact ⟨fun s' h' σ' H' ⟨h1, sb, z⟩ _ r2 _ => kq .non h1 .non H' z rfl (r2.sub sb), fun u h' v H' ⟨h1, sb, z⟩ r1 r2 _ => kq u h1 v H' z r1 (r2.sub sb), fun _ _ _ _ z => z.elim, fun _ _ _ _ z => z.elim⟩
/-- the same of a def without a table -/
theorem def_okDC {base : Heap} {x : Str} {st : Stmt} {f : Addr} {fd : FuncData} {N ps : List Str} {k kc : Nat} {sp : DSp} {dvs : List V} (F : FunD e.K x x (defArgs st) (defBody st) (defScope st) dvs [] f fd) (S : FnScope N ps (defScope st)) (len : ∀ C us h q y, sp C us h q y → us.length = ps.length)
    (hbody : ∀ (cdv : Value) (A : Around) (outer : List Env) (s : Shared) (H : Hp) (h0 : HU) (E : XK), RoomB k x (defScope st) f cdv A s →
      ∃ t, PDSs (XT e base N x (defScope st) f cdv A outer s H E) ⟨e.tb, H, h0⟩ (defBody st) t ∧ ∀ us q y, sp (Callable e base kc H) us h0 q y → t { nx := fun _ h' => WkV q .non h', rt := WkV q } (startU N us) h0) :
    FnOk e.P e.w e.K e.mg base CX0 (k + 1) f fd ps (LSp e base kc sp) := by
  refine F.ok S (fun vs H Q E ⟨us, h, q, y, r, _, s, _⟩ => by rw [r.length]; exact len _ us h q y s) fun cdv A outer s H vs Q E hr ⟨us, h, q, y, ru, rh, hs, kq, ky⟩ => ?_
  obtain ⟨t, ht, hq⟩ := hbody cdv A outer s H h E hr
  refine ⟨_, PSs.nox ht, startU N us, h, _, rs_start ru, rh, hq us q y hs, ?_⟩
  exact ⟨fun s' h' σ' H' ⟨h1, sb, z⟩ _ r2 _ => kq .non h1 .non H' z rfl (r2.sub sb), fun u h' v H' ⟨h1, sb, z⟩ r1 r2 _ => kq u h1 v H' z r1 (r2.sub sb), fun _ _ _ _ z => z.elim, fun _ _ _ _ z => z.elim⟩
/-- a def that may be called, handed made functions -/
structure CalC (e : Ev) (k : Nat) (x : Str) (ps : List Str) (du : List U) (kc : Nat) (sp : DSp) : Prop where
  ex : ∃ f fd ds dvs, (∀ base, FnOk e.P e.w e.K e.mg base CX0 k f fd ps (LSp e base kc sp)) ∧ e.mg x = some (.ref f) ∧ PySem.W.keepIn e.K (.ref f) = true ∧ Binds e.K fd ps ds ∧ Vals dvs ds ∧ ∀ H, RUs e.K H du dvs
  mono : ∀ C C' : NF → DFp → Prop, (∀ F s, C F s → C' F s) → ∀ us h q y, sp C us h q y → sp C' us h q y
/-- how defaults are bound, once for all: none, or a last one -/
def BindsAll (ps : List Str) (st : Stmt) (x : Str) : Prop := ∀ (kV doc pm : Value) (an : Option Addr) (cdv ct : Value) (us : List Value), us.length = ps.length → bindArgs (PySem.W.fnOf x x (defArgs st) (defBody st) (defScope st) .none kV doc pm an cdv ct) ⟨us, []⟩ = pure (ps.zip us)
theorem cal_ofC {x : Str} {st : Stmt} {N ps : List Str} {k kc : Nat} {sp : DSp} (d : DF e x st []) (S : FnScope N ps (defScope st)) (len : ∀ C us h q y, sp C us h q y → us.length = ps.length) (mono : ∀ C C' : NF → DFp → Prop, (∀ F s, C F s → C' F s) → ∀ us h q y, sp C us h q y → sp C' us h q y)
    (hb : BindsAll ps st x)
    (hbody : ∀ (f : Addr) (base : Heap) (cdv : Value) (A : Around) (outer : List Env) (s : Shared) (H : Hp) (h0 : HU) (E : XK), RoomB k x (defScope st) f cdv A s →
      ∃ t, PDSs (XT e base N x (defScope st) f cdv A outer s H E) ⟨e.tb, H, h0⟩ (defBody st) t ∧ ∀ us q y, sp (Callable e base kc H) us h0 q y → t { nx := fun _ h' => WkV q .non h', rt := WkV q } (startU N us) h0) : CalC e (k + 1) x ps [] kc sp := by
  obtain ⟨f, fd, F, hm⟩ := d.ex
  exact ⟨⟨f, fd, [], [], fun base => def_okDC F S len (hbody f base), hm, F.kp, F.bindsN hb, .nil, fun _ => RUs.nil⟩, mono⟩
theorem cal_ofX {x : Str} {st : Stmt} {N ps : List Str} {k kc : Nat} {sp : DSp} {c P : Addr} {nm : Nat → Nat → Str} (d : FunC e x st [] c P nm) (S : FnScope N ps (defScope st)) (len : ∀ C us h q y, sp C us h q y → us.length = ps.length) (mono : ∀ C C' : NF → DFp → Prop, (∀ F s, C F s → C' F s) → ∀ us h q y, sp C us h q y → sp C' us h q y)
    (hb : BindsAll ps st x)
    (hbody : ∀ (f : Addr) (base : Heap) (A : Around) (outer : List Env) (s : Shared) (H : Hp) (h0 : HU) (E : XK), TabB base e.mg c P → RoomB k x (defScope st) f (.ref c) A s →
      ∃ t, PDSs (XTc e base N x (defScope st) f c A outer s H E) ⟨e.tb, H, h0⟩ (defBody st) t ∧ ∀ us q y, sp (Callable e base kc H) us h0 q y → t { nx := fun _ h' => WkV q .non h', rt := WkV q } (startU N us) h0) : CalC e (k + 1) x ps [] kc sp := by
  obtain ⟨f, fd, F, hm, hc⟩ := d.ex
  exact ⟨⟨f, fd, [], [], fun base => def_okXC F hc (d.tb base) S len fun TB A outer s H h0 E => hbody f base A outer s H h0 E TB, hm, F.kp, F.bindsN hb, .nil, fun _ => RUs.nil⟩, mono⟩
theorem cal_ofXP {x : Str} {st : Stmt} {N ps : List Str} {k : Nat} {sp : DP} {c P : Addr} {nm : Nat → Nat → Str} (d : FunC e x st [] c P nm) (S : FnScope N ps (defScope st)) (len : ∀ us h q y, sp us h q y → us.length = ps.length)
    (hb : BindsAll ps st x)
    (hbody : ∀ (f : Addr) (base : Heap) (A : Around) (outer : List Env) (s : Shared) (H : Hp) (h0 : HU) (E : XK), TabB base e.mg c P → RoomB k x (defScope st) f (.ref c) A s →
      ∃ t, PDSs (XTc e base N x (defScope st) f c A outer s H E) ⟨e.tb, H, h0⟩ (defBody st) t ∧ ∀ us q y, sp us h0 q y → t { nx := fun _ h' => WkV q .non h', rt := WkV q } (startU N us) h0) : Cal e (k + 1) x ps [] sp := by
  obtain ⟨f, fd, F, hm, hc⟩ := d.ex
  exact ⟨f, fd, [], [], fun base => def_okXP F hc (d.tb base) S len fun TB A outer s H h0 E => hbody f base A outer s H h0 E TB, hm, F.kp, F.bindsN hb, .nil, fun _ => RUs.nil⟩
/-- with the last j defaults, or all of them, left to the def -/
def BindsLast (ps : List Str) (st : Stmt) (x : Str) (n j d : Nat) : Prop := ∀ (T : Addr) (kV doc pm : Value) (an : Option Addr) (cdv ct : Value) (us its : List Value), us.length = n → its.length = d →
      ∃ k, bindArgs (PySem.W.fnOf x x (defArgs st) (defBody st) (defScope st) (.ref T) kV doc pm an cdv ct) ⟨us, []⟩ = seqItems? (.ref T) >>= k ∧ k (some its.toArray) = pure (ps.zip (us ++ its.drop j))
theorem cal_ofXPd {x : Str} {st : Stmt} {N ps : List Str} {k : Nat} {sp : DP} {c P : Addr} {nm : Nat → Nat → Str} {dvs : List V} {du : List U} (n j : Nat) (d : FunC e x st dvs c P nm) (S : FnScope N ps (defScope st)) (len : ∀ us h q y, sp us h q y → us.length = ps.length)
    (hd : dvs ≠ []) (hn : n + (dvs.length - j) = ps.length) (hb : BindsLast ps st x n j dvs.length) (hu : ∀ H, RUs e.K H du (dvs.drop j))
    (hbody : ∀ (f : Addr) (base : Heap) (A : Around) (outer : List Env) (s : Shared) (H : Hp) (h0 : HU) (E : XK), TabB base e.mg c P → RoomB k x (defScope st) f (.ref c) A s →
      ∃ t, PDSs (XTc e base N x (defScope st) f c A outer s H E) ⟨e.tb, H, h0⟩ (defBody st) t ∧ ∀ us q y, sp us h0 q y → t { nx := fun _ h' => WkV q .non h', rt := WkV q } (startU N us) h0) : Cal e (k + 1) x ps du sp := by
  obtain ⟨f, fd, F, hm, hc⟩ := d.ex
  obtain ⟨ds, v, b⟩ := F.binds1 n j hd hn hb
  exact ⟨f, fd, ds, dvs.drop j, fun base => def_okXP F hc (d.tb base) S len fun TB A outer s H h0 E => hbody f base A outer s H h0 E TB, hm, F.kp, b, v, hu⟩
theorem cal_ofCd {x : Str} {st : Stmt} {N ps : List Str} {k kc : Nat} {sp : DSp} {dvs : List V} {du : List U} (n j : Nat) (d : DF e x st dvs) (S : FnScope N ps (defScope st)) (len : ∀ C us h q y, sp C us h q y → us.length = ps.length) (mono : ∀ C C' : NF → DFp → Prop, (∀ F s, C F s → C' F s) → ∀ us h q y, sp C us h q y → sp C' us h q y)
    (hd : dvs ≠ []) (hn : n + (dvs.length - j) = ps.length) (hb : BindsLast ps st x n j dvs.length) (hu : ∀ H, RUs e.K H du (dvs.drop j))
    (hbody : ∀ (f : Addr) (base : Heap) (cdv : Value) (A : Around) (outer : List Env) (s : Shared) (H : Hp) (h0 : HU) (E : XK), RoomB k x (defScope st) f cdv A s →
      ∃ t, PDSs (XT e base N x (defScope st) f cdv A outer s H E) ⟨e.tb, H, h0⟩ (defBody st) t ∧ ∀ us q y, sp (Callable e base kc H) us h0 q y → t { nx := fun _ h' => WkV q .non h', rt := WkV q } (startU N us) h0) : CalC e (k + 1) x ps du kc sp := by
  obtain ⟨f, fd, F, hm⟩ := d.ex
  obtain ⟨ds, v, b⟩ := F.binds1 n j hd hn hb
  exact ⟨⟨f, fd, ds, dvs.drop j, fun base => def_okDC F S len (hbody f base), hm, F.kp, b, v, hu⟩, mono⟩
theorem cal_ofD {x : Str} {st : Stmt} {N ps : List Str} {k : Nat} {sp : DP} {dvs : List V} {du : List U} (n j : Nat) (d : DF e x st dvs) (S : FnScope N ps (defScope st)) (len : ∀ us h q y, sp us h q y → us.length = ps.length)
    (hd : dvs ≠ []) (hn : n + (dvs.length - j) = ps.length) (hb : BindsLast ps st x n j dvs.length) (hu : ∀ H, RUs e.K H du (dvs.drop j))
    (hbody : ∀ (f : Addr) (base : Heap) (cdv : Value) (A : Around) (outer : List Env) (s : Shared) (H : Hp) (h0 : HU) (E : XK), RoomB k x (defScope st) f cdv A s →
      ∃ t, PDSs (XT e base N x (defScope st) f cdv A outer s H E) ⟨e.tb, H, h0⟩ (defBody st) t ∧ ∀ us q y, sp us h0 q y → t { nx := fun _ h' => WkV q .non h', rt := WkV q } (startU N us) h0) : Cal e (k + 1) x ps du sp := by
  obtain ⟨f, fd, F, hm⟩ := d.ex
  obtain ⟨ds, v, b⟩ := F.binds1 n j hd hn hb
  exact ⟨f, fd, ds, dvs.drop j, fun base => def_okD F S len (hbody f base), hm, F.kp, b, v, hu⟩
end
section
variable {X : Cx} {T : ZC}
theorem d_callCF {k j kc : Nat} {os : List (Own X T kc)} {x : Str} {ps : List Str} {du : List U} {sp : DSp} {p pos : Pos} {a : Expr} {es : List Expr} {t : DA} (c : CalC (Cxev X T) k x ps du kc sp) (hfn : ∀ x, X.fn x = true) (hr : Room j X.A) (hk : k ≤ j) (ha : PDA X T (a :: es) t) (hg : Gl X x := by rfl)
    (hdb : (x == ("__debug__" : Str)) = false := by decide) (he : starEach (a :: es) X.env = (false, eval a X.env) :: starEach es X.env := by rfl) (hpl : (backTo pos (starEach es X.env)).any (·.1) = false := by rfl) :
    PD X T (.Call (.Name x p) (a :: es) [] pos) (dCallC (Hand X T kc os) sp du t) := by
  obtain ⟨f, fd, ds, dvs, F, hm, kp, hb, hd, hu⟩ := c.ex
  exact d_callC hfn (fun base' _ => F base') (hr.mono hk) hg hm kp hb hd hu c.mono ha hdb he hpl
/-- a def that is made in X -/
abbrev mkOf (X : Cx) (st : Stmt) (name : Str) : Addr → NF := NF.of st name (X.env.qual ++ name) (cloFrom X.env.cells (C8.fnScope st).names [])
end
end DL

set_option Elab.async false
set_option linter.all false
set_option maxRecDepth 100000
set_option maxHeartbeats 2000000
/-! The data layer: the head's facts, the law's end. -/
namespace DL
open PySem L2 NdefX LamX
abbrev TbS : Type := List (He.Defn × (Nat → Nat → Str))
def bltIn (K : PySem.W.Frag) : Bool := match PySem.W.nsIn K mainGlobals "__builtins__" with
  | some (some (.ref bm)) => decide (bm ≠ builtinsNs) && (decide (bm ≠ mainGlobals) && (match K.lookup bm with
    | some ⟨.type c, some d, .plain, _⟩ => decide (c = "module") && decide (d = builtinsNs)
    | _ => false))
  | _ => false
def noLst (K : PySem.W.Frag) : Bool := K.all fun q => match q.2 with
  | ⟨.type c, _, .seq _ _, _⟩ => decide (c ≠ "list")
  | _ => true
/-- what the end asks besides -/
def exH (tf : List He.Defn) (K : PySem.W.Frag) : Bool := bltIn K && (noLst K && (tf.all (fun p => decide (mainGlobals ≠ (He.cT K p).2)) && decide ((tf.map fun p => (He.cT K p).2).Nodup)))
section
variable {K : PySem.W.Frag} {h : Heap} {mg : Str → Option Value}
theorem blt_of {P : Addr} (b : bltIn K = true) (X : K.In h) (G : h.Ns mainGlobals mg) (out : K.lookup P = none) (base : Heap) (XB : K.In base) : base.BuiltinsAt mg P := by
  unfold bltIn at b
  split at b
  · rename_i bm e1
    obtain ⟨b1, b2⟩ := He.ba b
    obtain ⟨b2, b3⟩ := He.ba b2
    split at b3
    · rename_i c d sl e2
      obtain ⟨c1, c2⟩ := He.ba b3
      have ec := of_decide_eq_true c1
      have ed := of_decide_eq_true c2
      subst ec
      subst ed
      exact ⟨bm, _, PySem.W.mg_of X G e1, of_decide_eq_true b1, of_decide_eq_true b2, (fun z => by rw [z, out] at e2; cases e2), XB _ _ e2, rfl, rfl, rfl⟩
    · cases b3
  · cases b
theorem sql_tracked {H : Hp} {a : Addr} {xs : List V} (n : noLst K = true) (s : SqL K H a xs) : H a = some (.lst xs) ∨ ∃ ob, H a = some (.frz ob (.lst xs)) := by
  rcases s with s | ⟨o, its, m, e, c, d, e2, _⟩
  · exact s
  · exfalso
    have q := List.all_eq_true.mp n _ (He.lookup_mem e)
    obtain ⟨oc, od, dt, sl⟩ := o
    simp only at c e2
    subst c
    subst e2
    simp at q
end
section
variable {fa : List He.Fa} {fn : List He.DefD} {ts : List He.Tab} {tbs : TbS} {w : World} {h : Heap} {K : PySem.W.Frag} {mg : Str → Option Value} {P : Program}
abbrev evOf (P : Program) (w : World) (K : PySem.W.Frag) (mg : Str → Option Value) (tbs : TbS) : Ev := ⟨P, w, K, mg, tbs.map fun q => ((He.cT K q.1).2, q.2)⟩
/-- the head's word of all -/
structure Head (fa : List He.Fa) (fn : List He.DefD) (ts : List He.Tab) (tbs : TbS) (w : World) (h : Heap) (K : PySem.W.Frag) (mg : Str → Option Value) : Prop where
  c : He.SaysX fa fn ts (tbs.map (·.1)) (exH (tbs.map (·.1))) w h K
  X : K.In h
  G : h.Ns mainGlobals mg
theorem Head.d (A : Head fa fn ts tbs w h K mg) : He.SaysD fa fn K := congrArg (fun z : He.AlT => z.1) A.c.t
theorem Head.glo (A : Head fa fn ts tbs w h K mg) {x : Str} (m : He.Fa.glo x ∈ fa) : mg x = some (.ref (He.ga K x)) := He.glo_ok A.X A.G (A.d.facts m)
theorem Head.free (A : Head fa fn ts tbs w h K mg) {x : Str} (m : He.Fa.free x ∈ fa) : mg x = none := He.free_ok A.X A.G (A.d.facts m)
/-- a def of the text's top -/
abbrev dOf (x : Str) (st : Stmt) (dfl : List He.Dv) : He.DefD := ⟨(x, none), x, x, defArgs st, defBody st, defScope st, dfl, []⟩
theorem Head.df (A : Head fa fn ts tbs w h K mg) {x : Str} {st : Stmt} {dfl : List He.Dv} (m : dOf x st dfl ∈ fn) (g : He.Fa.glo x ∈ fa) : DF (evOf P w K mg tbs) x st (dfl.map (He.Dv.v K)) := by
  obtain ⟨fd, F⟩ := A.d.defs m
  exact ⟨He.ga K x, fd, F, A.glo g⟩
theorem Head.ex (A : Head fa fn ts tbs w h K mg) : bltIn K = true ∧ noLst K = true ∧ (∀ q ∈ tbs, mainGlobals ≠ (He.cT K q.1).2) ∧ (tbs.map fun q => (He.cT K q.1).2).Nodup := by
  obtain ⟨a, b⟩ := He.ba A.c.more
  obtain ⟨b, c⟩ := He.ba b
  obtain ⟨c, d⟩ := He.ba c
  refine ⟨a, b, fun q hq => of_decide_eq_true (List.all_eq_true.mp c q.1 (List.mem_map.mpr ⟨q, hq, rfl⟩)), ?_⟩
  have := of_decide_eq_true d
  rw [List.map_map] at this
  exact this
theorem Head.dc (A : Head fa fn ts tbs w h K mg) {x : Str} {st : Stmt} {dfl : List He.Dv} {nm : Nat → Nat → Str} (m : dOf x st dfl ∈ fn) (g : He.Fa.glo x ∈ fa) (t : ((x, none), nm) ∈ tbs) : FunC (evOf P w K mg tbs) x st (dfl.map (He.Dv.v K)) (He.cT K (x, none)).1 (He.cT K (x, none)).2 nm := by
  obtain ⟨fd, F⟩ := A.d.defs m
  obtain ⟨e1, e2, e3, e4⟩ := A.ex
  have mt : ((x, none) : He.Defn) ∈ tbs.map (·.1) := List.mem_map.mpr ⟨_, t, rfl⟩
  refine ⟨⟨He.ga K x, fd, F, A.glo g, ?_⟩, fun base XB => tabB_of_K XB (A.c.hd _ mt) (blt_of e1 A.X A.G (A.c.out _ mt) base XB) (e3 _ t), List.mem_map.mpr ⟨_, t, rfl⟩, fun p hp ep => ?_⟩
  · obtain ⟨oc, od, dV, kV, doc, pm, an, cdv, ct, osl, rfl, lk, hcd, _, _⟩ := F.ex
    obtain ⟨c, ec⟩ := He.codeIn_ref hcd
    subst ec
    have := He.codeOf_eq (p := (x, none)) lk (c := c) rfl
    show Value.ref c = .ref (He.codeOf K (x, none))
    rw [this]
  · obtain ⟨q, hq, rfl⟩ := List.mem_map.mp hp
    obtain ⟨i, hi, ei⟩ := List.mem_iff_getElem.mp hq
    obtain ⟨j, hj, ej⟩ := List.mem_iff_getElem.mp t
    have nd := List.pairwise_iff_getElem.mp e4
    have same : i = j := by
      rcases Nat.lt_trichotomy i j with z | z | z
      · exact absurd (by rw [List.getElem_map, List.getElem_map, ei, ej]; exact ep) (nd i j (by simpa using hi) (by simpa using hj) z)
      · exact z
      · exact absurd (by rw [List.getElem_map, List.getElem_map, ei, ej]; exact ep.symm) (nd j i (by simpa using hj) (by simpa using hi) z)
    subst same
    rw [ei] at ej
    rw [ej]
/-- what a law's def promises, at its end -/
theorem Head.law (A : Head fa fn ts tbs w h K mg) {l : PySem.W.OpenLaw} {k n : Nat} {x : Str} {f : Addr} {fd : FuncData} {sp : DP} (hp : P = l.prog) (hb : ∀ (s : Shared) (u : Value), BindsTo s fd ⟨[u], []⟩ [(x, u)])
    (hsp : ∀ (a : Addr) (ns : List Int) (h0 : HU) (q : DV), ns.length ≤ n → (∀ z ∈ ns, Builtin.Int.intBits z ≤ 1048576) → lstU h0 a = some (ns.map U.int) → (∀ h', q (.bl true) h') → sp [.ref a] h0 q x0)
    (F : ∀ base, FnOk P w K mg base CX0 k f fd [x] (LPl (evOf P w K mg tbs) sp)) : LawAtS l w K CX0 k n x mg f h := by
  obtain ⟨e1, e2, e3, e4⟩ := A.ex
  refine ⟨fd, tbs.map (fun q => He.cT K q.1), LPl (evOf P w K mg tbs) sp, fun p hp => ?_, fun p hp => ?_, fun p hp => ?_, hb, fun H a ns hl hbt hH hS => ?_, fun base _ _ _ => hp ▸ F base⟩
  · obtain ⟨q, hq, rfl⟩ := List.mem_map.mp hp
    exact A.c.empty _ (List.mem_map.mpr ⟨_, hq, rfl⟩)
  · obtain ⟨q, hq, rfl⟩ := List.mem_map.mp hp
    exact A.c.out _ (List.mem_map.mpr ⟨_, hq, rfl⟩)
  · obtain ⟨q, hq, rfl⟩ := List.mem_map.mp hp
    exact PySem.W.codeHd_of_K A.X (A.c.hd _ (List.mem_map.mpr ⟨_, hq, rfl⟩))
  · have tabs : TabsN (evOf P w K mg tbs).tb H := fun p hp => by
      obtain ⟨q, hq, rfl⟩ := List.mem_map.mp hp
      exact TabN.nil (hH _ (List.mem_map.mpr ⟨q, hq, rfl⟩))
    have rus : RUs K H (ns.map U.int) (ns.map V.int) := ints_ru ns
    have go : ∀ (o : UO) (ho : HO), H a = some ho → RO K H o ho → lstU (fun p => if p = a then some o else none) a = some (ns.map U.int) → LPl (evOf P w K mg tbs) sp [.ref a] H (fun v _ => v = .bl true) (fun _ _ _ => False) := fun o ho e r lu => by
      refine ⟨[.ref a], fun p => if p = a then some o else none, fun u _ => u = .bl true, fun _ _ _ => False, .cons rfl .nil, ⟨fun b ob eb => ?_, tabs, Stp.refl⟩, hsp a ns _ _ hl hbt lu fun _ => rfl, fun u h' v H' hu ru _ => ?_, fun _ _ _ _ z => z.elim⟩
      · by_cases z : b = a
        · subst z
          have eo : some o = some ob := (if_pos rfl).symm.trans eb
          cases eo
          exact ⟨ho, e, r⟩
        · have := (if_neg z).symm.trans eb
          cases this
      · subst hu
        exact ru
    rcases sql_tracked e2 hS with z | ⟨ob, z⟩
    · exact go (.lst (ns.map U.int)) _ z ⟨_, rfl, rus⟩ (by simp [lstU])
    · exact go (.lck (ns.map U.int)) _ z ⟨_, _, rfl, rus⟩ (by simp [lstU])
end
end DL

set_option Elab.async false
set_option linter.all false
set_option maxRecDepth 100000
set_option maxHeartbeats 2000000
/-! The data layer: nested defs that have cells of their own (names that a comprehension in them captures). -/
namespace DL
open PySem PySem.Spec PyProof.Rows L2 NdefX LamX
theorem cells_app : ∀ (names : List (Str × NameKind)) (n : Nat) (acc : List (Str × Addr)), cellsFrom n names acc = cellsFrom n names [] ++ acc
  | [], n, acc => rfl
  | (name, kind) :: r, n, acc => by
    unfold cellsFrom
    split
    · rw [cells_app r (n + 1) ((name, n) :: acc), cells_app r (n + 1) [(name, n)], List.append_assoc]
      rfl
    · exact cells_app r n acc
theorem cells_kind : ∀ {names : List (Str × NameKind)} {n : Nat} {x : Str} {c : Addr}, (x, c) ∈ cellsFrom n names [] → (x, NameKind.cell) ∈ names
  | [], n, x, c, h => nomatch h
  | (name, kind) :: r, n, x, c, h => by
    unfold cellsFrom at h
    split at h
    · rename_i hk
      rw [cells_app, List.mem_append] at h
      rcases h with h | h
      · exact List.mem_cons_of_mem _ (cells_kind h)
      · cases List.mem_singleton.mp h
        have : kind = .cell := by simpa using hk
        rw [this]
        exact List.mem_cons_self
    · exact List.mem_cons_of_mem _ (cells_kind h)
/-- a new frame: cells of its own, cells it was made with -/
theorem newEnvB {M : Model} {A : Around} {E : Value → Shared → Prop} {s : Shared} {scope : Scope} {globals : Addr} {closure : List (Str × Addr)} {binds : List (Str × Value)} {qual : Str} {func : Option Addr} {code : Value} {builtins : Addr} {Q : Env → Shared → Prop}
    (hl : ∀ x ∈ binds, scope.names.lookup x.1 = some .local) (hk : scope.kind = .function)
    (hQ : ∀ h', h'.Ns s.heap.objs.size (fun x => binds.reverse.lookup x) → Heap.SameBut s.heap.objs.size (pushCells (s.heap.push { cls := .type "frame", data := .dict #[] }) scope.names) h' →
      Q (newEnv scope s.heap.objs.size globals (cellsFrom (s.heap.objs.size + 1) scope.names closure) qual func code none builtins) { s with heap := h', toks := s.toks + binds.length }) :
    wpAny M A (newFunctionEnv scope globals closure binds qual func code none builtins) Q E s := by
  simp only [newFunctionEnv, Option.isSome_none, Bool.false_eq_true, if_false]
  refine wpAny_bind (wpAny_alloc ?_)
  refine wpAny_bind (wpAny_layCells _ (fun name kind cells => by cases hkc : kind == NameKind.cell <;> simp [hkc]) _ _ _ _ ?_)
  rw [show ({ s with heap := s.heap.push { cls := .type "frame", data := .dict #[] } } : Shared).heap.objs.size = s.heap.objs.size + 1 from Heap.size_push ..]
  refine wpAny_bind ?_
  refine wpAny_forIn_list _
    (fun rest _ s' => ∃ done h', binds = done ++ rest ∧ s' = { s with heap := h', toks := s.toks + done.length } ∧
      h'.Ns s.heap.objs.size (fun x => done.reverse.lookup x) ∧
      Heap.SameBut s.heap.objs.size (pushCells (s.heap.push { cls := .type "frame", data := .dict #[] }) scope.names) h') _ ?_ ?_ binds _
    ⟨[], _, rfl, rfl, (Heap.Ns.new s.heap (.type "frame")).keeps (pushCells_keeps _ _), Heap.SameBut.refl ..⟩
  · rintro ⟨name, v⟩ rest _ s' ⟨done, h', hb, rfl, hns, hsb⟩
    have hk' : Env.kindOf ({ scope, locals := s.heap.objs.size, globals, cells := cellsFrom (s.heap.objs.size + 1) scope.names closure, qual, func, code, frame := some s.heap.objs.size, builtins } : Env) name = some .local :=
      hl (name, v) (by rw [hb]; simp)
    have hp : (({ scope, locals := s.heap.objs.size, globals, cells := cellsFrom (s.heap.objs.size + 1) scope.names closure, qual, func, code, frame := some s.heap.objs.size, builtins } : Env).scope.kind == .class || (({ scope, locals := s.heap.objs.size, globals, cells := cellsFrom (s.heap.objs.size + 1) scope.names closure, qual, func, code, frame := some s.heap.objs.size, builtins } : Env).scope.kind == .module &&
        ({ scope, locals := s.heap.objs.size, globals, cells := cellsFrom (s.heap.objs.size + 1) scope.names closure, qual, func, code, frame := some s.heap.objs.size, builtins } : Env).locals != ({ scope, locals := s.heap.objs.size, globals, cells := cellsFrom (s.heap.objs.size + 1) scope.names closure, qual, func, code, frame := some s.heap.objs.size, builtins } : Env).globals)) = false := by
      show (scope.kind == .class || (scope.kind == .module && _)) = false
      rw [hk]; rfl
    simp only [storeName_local hk' hp]
    refine wpAny_bind (wpAny_nsSet hns fun h'' hns' hsb' => wpAny_pure ⟨done ++ [(name, v)], h'', by simp [hb], ?_, ?_, hsb.trans hsb'⟩)
    · simp [Nat.add_assoc]
    · rw [lookup_reverse_snoc]; exact hns'
  · rintro _ s' ⟨done, h', hb, rfl, hns, hsb⟩
    rw [List.append_nil] at hb; subst hb
    exact wpAny_pure (hQ h' hns hsb)
structure NScopeC (N ps fr : List Str) (sc : Scope) : Prop where
  kind : sc.kind = .function
  co : sc.isCoroutine = false
  gen : sc.isGenerator = false
  nd : N.Nodup
  pre : N.take (ps.length + fr.length) = ps ++ fr
  par : ∀ x ∈ ps, sc.names.lookup x = some .local
  free : ∀ y ∈ sc.names, y.2 = .free → y.1 ∈ fr
  frk : ∀ x ∈ fr, sc.names.lookup x = some .free
  frn : ∀ x ∈ fr, (x, NameKind.cell) ∉ sc.names
def nscC (N ps fr : List Str) (sc : Scope) : Bool :=
  decide (sc.kind = .function) && !sc.isCoroutine && !sc.isGenerator && decide N.Nodup && decide (N.take (ps.length + fr.length) = ps ++ fr) && ps.all (fun x => decide (sc.names.lookup x = some .local)) && fr.all (fun x => sc.names.all fun y => !(decide (y.1 = x) && decide (y.2 = .cell))) && sc.names.all (fun y => !decide (y.2 = .free) || decide (y.1 ∈ fr)) && fr.all (fun x => decide (sc.names.lookup x = some .free))
theorem nscopeC_by {N ps fr : List Str} {sc : Scope} (h : nscC N ps fr sc = true) : NScopeC N ps fr sc := by
  unfold nscC at h
  simp only [Bool.and_eq_true, Bool.not_eq_true', decide_eq_true_eq, List.all_eq_true, Bool.or_eq_true, decide_eq_false_iff_not] at h
  obtain ⟨⟨⟨⟨⟨⟨⟨⟨h1, h2⟩, h3⟩, h4⟩, h5⟩, h6⟩, h7⟩, h8⟩, h9⟩ := h
  refine ⟨h1, h2, h3, h4, h5, h6, fun y hy e => (h8 y hy).elim (fun z => absurd e z) id, h9, fun x hx hm => ?_⟩
  have := h7 x hx _ hm
  simp at this
abbrev envFC (F : NF) (f L : Addr) : Env := PySem.W.envX F.qual F.scope L f (.ref F.c) (cellsFrom (L + 1) F.scope.names F.cl)
/-- the context of its body, at its entry -/
def ncxC (CX : CXT) (P : Program) (w : World) (K : PySem.W.Frag) (mg : Str → Option Value) (base : Heap) (N : List Str) (F : NF) (f : Addr) (A : Around) (outer : List Env) (s : Shared) (H : Hp) (E : XK) : Cx where
  prog := P
  w := w
  K := K
  mg := mg
  base := base
  A := A.deeper (envFC F f s.heap.objs.size)
  N := N
  s_0 := s
  H_0 := H
  env := envFC F f s.heap.objs.size
  outer := outer
  stack := envFC F f s.heap.objs.size :: outer
  ex := []
  calm := true
  fn := fun x => match F.scope.names.lookup x with
    | some .cell => true
    | _ => false
  pn := []
  xe := fun e s' => wpAny (model P w) (A.deeper (envFC F f s.heap.objs.size)) (leaving (envFC F f s.heap.objs.size) e) (fun _ s'' => CX outer H s E e s'') (fun e' s'' => CX outer H s E e' s'') s'
section
variable {CX : CXT} {P : Program} {w : World} {K : PySem.W.Frag} {mg : Str → Option Value} {base : Heap} {N ps fr : List Str} {F : NF} {f : Addr} {A : Around} {outer : List Env} {s : Shared} {H : Hp} {E : XK} {us : List Value} {vs : List V} {ws : List (Option V)}
theorem inv_startNC {h₁ : Heap} {tk : Nat} (S : NScopeC N ps fr F.scope) (hd : A.handled = none) (e0 : Env0 P w K mg base A outer s H) (hl : vs.length = ps.length) (r : Vals vs us) (C : CellsAt F.cl fr ws s.heap H) (hns : h₁.Ns s.heap.objs.size fun y => (ps.zip us).reverse.lookup y)
    (hsb : Heap.SameBut s.heap.objs.size (pushCells (s.heap.push { cls := .type "frame", data := .dict #[] }) F.scope.names) h₁) : Inv (ncxC CX P w K mg base N F f A outer s H E) [] (startF N vs ws) H { s with heap := h₁, toks := tk } := by
  have hpl : ps.length + fr.length ≤ N.length := by
    have q := congrArg List.length S.pre
    rw [List.length_take, List.length_append] at q
    omega
  have ok := cellsFrom_ok F.scope.names (s.heap.push { cls := .type "frame", data := .dict #[] }) (s.heap.objs.size + 1) [] ⟨fun _ _ hm => (nomatch hm), List.Pairwise.nil⟩ (by rw [Heap.size_push]; exact Nat.le_refl _)
  rw [Heap.size_push] at ok
  have kp : ∀ b o, s.heap.get? b = some o → h₁.get? b = some o := fun b o e => hsb.extBut b o (Nat.ne_of_lt (Heap.lt_size e)) (pushCells_keeps _ _ b o (Heap.get?_push_of_some _ e))
  have noA : ∀ b : Addr, b ∉ (ncxC CX P w K mg base N F f A outer s H E).ex := fun b z => absurd (show b ∈ ([] : List Addr) from z) (by simp)
  have cellK : ∀ {c : Addr} {v : Option Value}, s.heap.IsCell c v → h₁.IsCell c v := fun {c v} ⟨o, ho, hd⟩ => ⟨o, kp _ _ ho, hd⟩
  -- a cell is an own one, or one it was made with
  have split : ∀ y c, (cellsFrom (s.heap.objs.size + 1) F.scope.names F.cl).lookup y = some c → ((y, c) ∈ cellsFrom (s.heap.objs.size + 1) F.scope.names [] ∧ s.heap.objs.size + 1 ≤ c ∧ h₁.IsCell c none) ∨ (F.cl.lookup y = some c ∧ c < s.heap.objs.size) := fun y c e => by
    rw [cells_app, List.lookup_append] at e
    cases e1 : (cellsFrom (s.heap.objs.size + 1) F.scope.names []).lookup y with
    | some c1 =>
      rw [e1] at e
      cases e
      have hm := PySem.mem_of_lookup e1
      obtain ⟨q1, q2⟩ := ok.empty y c hm
      exact .inl ⟨hm, q2, q1.sameBut hsb (Nat.ne_of_gt q2)⟩
    | none =>
      rw [e1] at e
      have e : F.cl.lookup y = some c := e
      obtain ⟨_, z⟩ := (C.all y c e).2
      exact .inr ⟨e, z.lt⟩
  have frl : ∀ y ∈ fr, ∀ c, F.cl.lookup y = some c → (cellsFrom (s.heap.objs.size + 1) F.scope.names F.cl).lookup y = some c := fun y hy c e => by
    rw [cells_app, List.lookup_append]
    cases e1 : (cellsFrom (s.heap.objs.size + 1) F.scope.names []).lookup y with
    | some c1 => exact absurd (cells_kind (PySem.mem_of_lookup e1)) (S.frn y hy)
    | none => exact e
  refine ⟨⟨e0.mod, S.kind, rfl, rfl, Nat.le_refl _, fun x y c h1 h2 => ?_, fun y hy => ?_, fun y c z e => ?_, fun _ => hd, Around.frames_deeper e0.frames, .inr ⟨rfl, rfl⟩, fun b z => absurd z (noA b), e0.bs, e0.bsz, fun b _ _ => noA b,
      fun b z => absurd z (noA b), e0.funs, e0.frf⟩,
    rfl, e0.bare, Un.kept kp, ⟨_, hns, fun i y v e1 e2 e3 => ?_⟩, fun y c e => ?_, e0.hok.fresh (Nat.le_refl _), fun y c e => ?_, fun q hq => absurd (show q ∈ ([] : List (Addr × Obj)) ++ [] from hq) (by simp), e0.hok.kept kp, ?_⟩
  · rcases split x c h1 with ⟨m1, l1, _⟩ | ⟨m1, l1⟩ <;> rcases split y c h2 with ⟨m2, l2, _⟩ | ⟨m2, l2⟩
    · exact name_of_addr ok.apart m1 m2
    · exact absurd l2 (Nat.not_lt.mpr (Nat.le_of_succ_le l1))
    · exact absurd l1 (Nat.not_lt.mpr (Nat.le_of_succ_le l2))
    · exact C.inj x y c m1 m2
  · have hy : F.scope.names.lookup y = some .cell ∨ F.scope.names.lookup y = some .free := hy
    rcases hy with hy | hy
    · exact Option.isSome_iff_exists.mp (PySem.W.cellsFrom_some F.scope.names (s.heap.objs.size + 1) F.cl (.inl hy))
    · have hm := S.free _ (PySem.mem_of_lookup hy) rfl
      obtain ⟨i, hi⟩ := List.mem_iff_getElem?.mp hm
      obtain ⟨c, hc, _⟩ := C.has i y hi
      exact ⟨c, frl y hm c hc⟩
  · have hk : F.scope.names.lookup y = some .cell := by
      have z : (match F.scope.names.lookup y with
        | some .cell => true
        | _ => false) = true := z
      split at z
      · assumption
      · cases z
    obtain ⟨c1, e1⟩ := Option.isSome_iff_exists.mp (PySem.W.cellsFrom_some F.scope.names (s.heap.objs.size + 1) [] (.inl hk))
    have e : (cellsFrom (s.heap.objs.size + 1) F.scope.names F.cl).lookup y = some c := e
    rw [cells_app, List.lookup_append, e1] at e
    cases e
    have := (ok.empty y c (PySem.mem_of_lookup e1)).2
    show s.heap.objs.size ≤ c
    omega
  · have e1 : N[i]? = some y := e1
    have clen := C.len
    unfold startF at e2
    by_cases h1 : i < ps.length
    · have hq : (ps ++ fr)[i]? = some y := by
        rw [← S.pre, List.getElem?_take_of_lt (by omega)]
        exact e1
      rw [List.getElem?_append_left h1] at hq
      rw [List.getElem?_append_left (by rw [List.length_map]; omega), List.getElem?_map] at e2
      have ha : vs[i]? = some v := by
        cases e : vs[i]? with
        | none => rw [e] at e2; cases e2
        | some a => rw [e] at e2; cases e2; rfl
      obtain ⟨u, hu, rv⟩ := r.get ha
      have ndP : ps.Nodup := by
        have q := S.nd.sublist (List.take_sublist (ps.length + fr.length) N)
        rw [S.pre] at q
        exact (List.nodup_append.mp q).1
      exact ⟨u, rv, .inl ⟨S.par y (List.mem_of_getElem? hq), zip_look ndP hq hu⟩⟩
    · rw [List.getElem?_append_right (by rw [List.length_map]; omega), List.length_map] at e2
      by_cases h2 : i < ps.length + fr.length
      · have hq : (ps ++ fr)[i]? = some y := by
          rw [← S.pre, List.getElem?_take_of_lt (by omega)]
          exact e1
        rw [List.getElem?_append_right (by omega)] at hq
        rw [List.getElem?_append_left (by omega), hl] at e2
        obtain ⟨c, hc, hv⟩ := C.has (i - ps.length) y hq
        obtain ⟨u, ru, hu⟩ := hv v e2
        exact ⟨u, ru, .inr ⟨.inr (S.frk y (List.mem_of_getElem? hq)), c, frl y (List.mem_of_getElem? hq) c hc, cellK hu⟩⟩
      · rw [List.getElem?_append_right (by omega), List.getElem?_replicate] at e2
        split at e2 <;> cases e2
  · rcases split y c e with ⟨_, _, z⟩ | ⟨m1, _⟩
    · exact ⟨_, z⟩
    · obtain ⟨v, z⟩ := (C.all y c m1).2
      exact ⟨v, cellK z⟩
  · rcases split y c e with ⟨_, l1, _⟩ | ⟨m1, _⟩
    · exact e0.hok.fresh (by omega)
    · exact (C.all y c m1).1
  · have clen := C.len
    unfold startF
    show _ = N.length
    rw [List.length_append, List.length_append, List.length_map, List.length_replicate]
    omega
end
section
variable {CX : CXT} {P : Program} {w : World} {K : PySem.W.Frag} {mg : Str → Option Value} {base : Heap} {N ps fr : List Str} {F : NF} {f : Addr} {k j : Nat} {sp sp' : List (Option V) → Sp}
theorem nok_ofC (S : NScopeC N ps fr F.scope) (hb : ∀ (doc pm ctv : Value) (us : List Value), us.length = ps.length → bindArgs (F.fd doc pm ctv) ⟨us, []⟩ = pure (ps.zip us)) (len : ∀ ws vs H Q E, sp ws vs H Q E → vs.length = ps.length)
    (hbody : ∀ (A : Around) (outer : List Env) (s : Shared) (H : Hp) (vs : List V) (ws : List (Option V)) (Q : VK) (E : XK), Room k (A.deeper (envFC F f s.heap.objs.size)) → H f = some (FnO f F) → H F.c = some (CodeO F.c F.qual) → ws.length = fr.length → sp ws vs H Q E →
      ∃ t, PSs (ncxC CX P w K mg base N F f A outer s H E) F.body t ∧ t { nx := fun _ H' => Q .non H', rt := Q } (startF N vs ws) H) :
    NOk P w K mg base CX (k + 1) f F ps fr sp := by
  refine ⟨len, fun A outer s H us vs ws Q E hr e0 hf hc C r hsp => ?_⟩
  have hl := len _ _ _ _ _ hsp
  have lim : s.heap.NoLimit := e0.mod.nolimit.keeps fun b o e => (e0.bs b o e).1
  obtain ⟨od, sl, doc, pm, ctv, ho⟩ := fnO_at e0.hok hf
  refine codeAny_call_function hr.depth ho rfl S.co S.gen rfl (codeO_at e0.hok hc) ?_
  rw [hb doc pm ctv us (by rw [← r.length]; exact hl)]
  refine wpAny_pure (newEnvB (fun ⟨n, _⟩ hy => S.par n (List.of_mem_zip hy).1) S.kind (fun h₁ hns hsb => ?_))
  have kp : ∀ b o, s.heap.get? b = some o → h₁.get? b = some o := fun b o e => hsb.extBut b o (Nat.ne_of_lt (Heap.lt_size e)) (pushCells_keeps _ _ b o (Heap.get?_push_of_some _ e))
  refine ⟨lim.keeps kp, ?_⟩
  show codeAny _ _ (.func F.body (envFC F f s.heap.objs.size)) _ _
  refine codeAny_func ?_
  obtain ⟨t, ht, hq⟩ := hbody A outer s H vs ws Q E (hr.deeper _) hf hc C.len hsp
  have I : Inv (ncxC CX P w K mg base N F f A outer s H E) [] (startF N vs ws) H { s with heap := h₁, toks := s.toks + (ps.zip us).length } := inv_startNC S hr.hd e0 hl r C hns hsb
  refine wpAny_mono (ht.run [] _ (startF N vs ws) H _ I hq) (fun fl s' hs => ?_) fun e s' hs => hs
  have fin : ∀ {σ' : L2.St} {H' : Hp} {v : V} {u : Value}, Inv (ncxC CX P w K mg base N F f A outer s H E) [] σ' H' s' → L2.RelV v u → Q v H' → CE outer P w H s Q u s' :=
    fun {σ' H' v u} J rv q => ⟨v, H', J.os, J.bare, J.base, J.hok, rv, q⟩
  cases fl with
  | ret u =>
    obtain ⟨v, σ', H', J, rv, q⟩ := hs
    exact fin J rv q
  | next =>
    obtain ⟨σ', H', J, q⟩ := hs
    exact fin (v := V.non) (u := Value.none) J rfl q
  | brk =>
    obtain ⟨_, _, _, q⟩ := hs
    exact False.elim q
  | cont =>
    obtain ⟨_, _, _, q⟩ := hs
    exact False.elim q
end
theorem ndef_okC {e : Ev} {base : Heap} {N ps fr : List Str} {F : NF} {f : Addr} {k : Nat} {sp : List (Option U) → DFp} (S : NScopeC N ps fr F.scope) (hb : ∀ (doc pm ctv : Value) (us : List Value), us.length = ps.length → bindArgs (F.fd doc pm ctv) ⟨us, []⟩ = pure (ps.zip us)) (len : ∀ cs us h q, sp cs us h q → us.length = ps.length)
    (hbody : ∀ (A : Around) (outer : List Env) (s : Shared) (H : Hp) (h0 : HU) (E : XK), Room k (A.deeper (envFC F f s.heap.objs.size)) →
      ∃ t, PDSs (ncxC CX0 e.P e.w e.K e.mg base N F f A outer s H E).nox ⟨e.tb, H, h0⟩ F.body t ∧ ∀ cs us q, sp cs us h0 q → t { nx := fun _ h' => WkV q .non h', rt := WkV q } (startFU N us cs) h0) :
    NOk e.P e.w e.K e.mg base CX0 (k + 1) f F ps fr (LF e sp) :=
  nok_ofC S hb (fun ws vs H Q E ⟨cs, us, h, q, _, r, _, s, _⟩ => by rw [r.length]; exact len cs us h q s) fun A outer s H vs ws Q E hr _ _ _ ⟨cs, us, h, q, rw', ru, rh, hs, kq⟩ => by
    obtain ⟨t, ht, hq⟩ := hbody A outer s H h E hr
    refine ⟨_, ht.nox, startFU N us cs, h, _, rs_startF ru rw', rh, hq cs us q hs, ?_⟩
    exact ⟨fun s' h' σ' H' ⟨h1, sb, z⟩ _ r2 _ => kq .non h1 .non H' z rfl (r2.sub sb), fun u h' v H' ⟨h1, sb, z⟩ r1 r2 _ => kq u h1 v H' z r1 (r2.sub sb), fun _ _ _ _ z => z.elim, fun _ _ _ _ z => z.elim⟩
end DL

set_option Elab.async false
set_option linter.all false
set_option maxRecDepth 100000
set_option maxHeartbeats 2000000
/-! The data layer's steps: what stands where; each construct of a reading, one lemma. -/
namespace DL
open PySem L2 NdefX LamX
/-- what stands where: l, over what is left as it was (h0) -/
structure Sep (h0 : HU) (l : List (Addr × UO)) (h : HU) : Prop where
  at_ : ∀ p o, (p, o) ∈ l → h p = some o
  nd : (l.map (·.1)).Nodup
  fr : ∀ p o, h0 p = some o → h p = some o
  out : ∀ x ∈ l, h0 x.1 = none
def pickL (l : List (Addr × UO)) : List Nat → Option (List (Addr × UO))
  | [] => some []
  | i :: r => match l[i]?, pickL l r with
    | some x, some xs => some (x :: xs)
    | _, _ => none
section
variable {h0 h h1 : HU} {l l' : List (Addr × UO)} {p r : Addr} {o o0 : UO} {us : List U}
theorem Sep.nil (h : HU) : Sep h [] h := ⟨fun _ _ z => absurd z List.not_mem_nil, List.nodup_nil, fun _ _ z => z, fun _ z => absurd z List.not_mem_nil⟩
theorem Sep.get (S : Sep h0 l h) (i : Nat) (e : l[i]? = some (p, o)) : h p = some o := S.at_ _ _ (List.mem_of_getElem? e)
theorem Sep.lget (S : Sep h0 l h) (i : Nat) (e : l[i]? = some (p, .lst us)) : lstU h p = some us := by
  unfold lstU
  rw [S.get i e]
theorem Sep.fresh (S : Sep h0 l h) (n : h r = none) : h0 r = none ∧ ∀ x ∈ l, x.1 ≠ r := by
  refine ⟨?_, fun x hx z => ?_⟩
  · cases z : h0 r with
    | none => rfl
    | some o =>
      rw [S.fr r o z] at n
      cases n
  · have e := S.at_ x.1 x.2 hx
    rw [z, n] at e
    cases e
theorem Sep.new (S : Sep h0 l h) (n : h r = none) : Sep h0 ((r, o) :: l) (updU h r o) := by
  obtain ⟨a, b⟩ := S.fresh n
  refine ⟨fun p o' m => ?_, ?_, fun p o' z => ?_, fun x hx => ?_⟩
  · rcases List.mem_cons.mp m with e | e
    · cases e
      exact updU_same
    · rw [updU_ne (b _ e)]
      exact S.at_ _ _ e
  · show (r :: l.map (·.1)).Nodup
    refine List.nodup_cons.mpr ⟨fun m => ?_, S.nd⟩
    obtain ⟨x, hx, e⟩ := List.mem_map.mp m
    exact b x hx e
  · rw [updU_ne (neU z a)]
    exact S.fr _ _ z
  · rcases List.mem_cons.mp hx with e | e
    · rw [e]
      exact a
    · exact S.out x e
theorem nd_inj {α : Type} {l : List α} (nd : l.Nodup) {i j : Nat} (hi : i < l.length) (hj : j < l.length) (e : l[i] = l[j]) : i = j := by
  have p := List.pairwise_iff_getElem.mp nd
  rcases Nat.lt_trichotomy i j with z | z | z
  · exact absurd e (p i j hi hj z)
  · exact z
  · exact absurd e.symm (p j i hj hi z)
theorem nd_at : ∀ {l : List (Addr × UO)} {i j : Nat} {x y : Addr × UO}, (l.map (·.1)).Nodup → l[i]? = some x → l[j]? = some y → x.1 = y.1 → i = j := by
  intro l i j x y nd e1 e2 e
  have a1 : (l.map (·.1))[i]? = some x.1 := by rw [List.getElem?_map, e1]; rfl
  have a2 : (l.map (·.1))[j]? = some y.1 := by rw [List.getElem?_map, e2]; rfl
  obtain ⟨l1, q1⟩ := List.getElem?_eq_some_iff.mp a1
  obtain ⟨l2, q2⟩ := List.getElem?_eq_some_iff.mp a2
  exact nd_inj nd l1 l2 (q1.trans (e.trans q2.symm))
theorem Sep.put (S : Sep h0 l h) (i : Nat) (e : l[i]? = some (p, o0)) (o : UO) : Sep h0 (l.set i (p, o)) (updU h p o) := by
  have hi := (List.getElem?_eq_some_iff.mp e).1
  have hp : h0 p = none := S.out _ (List.mem_of_getElem? e)
  refine ⟨fun q o' m => ?_, ?_, fun q o' z => ?_, fun x hx => ?_⟩
  · obtain ⟨j, hj, ej⟩ := List.mem_iff_getElem.mp m
    have ej' : (l.set i (p, o))[j]? = some (q, o') := by rw [List.getElem?_eq_getElem hj, ej]
    by_cases z : i = j
    · subst z
      rw [List.getElem?_set_self hi] at ej'
      cases ej'
      exact updU_same
    · rw [List.getElem?_set_ne z] at ej'
      rw [updU_ne fun q' => z (nd_at S.nd e ej' q'.symm)]
      exact S.get j ej'
  · rw [List.map_set]
    have e2 : (l.map (·.1)).set i p = l.map (·.1) := by
      apply List.ext_getElem?
      intro j
      by_cases z : i = j
      · subst z
        rw [List.getElem?_set_self (by rw [List.length_map]; exact hi), List.getElem?_map, e]
        rfl
      · rw [List.getElem?_set_ne z]
    show ((l.map (·.1)).set i p).Nodup
    rw [e2]
    exact S.nd
  · rw [updU_ne (neU z hp)]
    exact S.fr _ _ z
  · rcases List.mem_or_eq_of_mem_set hx with z | z
    · exact S.out x z
    · rw [z]
      exact hp
theorem pickL_mem : ∀ {is : List Nat} {l' : List (Addr × UO)}, pickL l is = some l' → l'.length = is.length ∧ ∀ (j : Nat) x, l'[j]? = some x → ∃ i, is[j]? = some i ∧ l[i]? = some x
  | [], l', e => by
    cases e
    exact ⟨rfl, fun j x z => by simp at z⟩
  | i :: r, l', e => by
    unfold pickL at e
    split at e
    · rename_i x xs e1 e2
      cases e
      obtain ⟨a, b⟩ := pickL_mem e2
      refine ⟨by simp [a], fun j y z => ?_⟩
      cases j with
      | zero =>
        have : x = y := by simpa using z
        subst this
        exact ⟨i, rfl, e1⟩
      | succ j =>
        obtain ⟨i', b1, b2⟩ := b j y (by simpa using z)
        exact ⟨i', by simpa using b1, b2⟩
    · cases e
/-- less, in another order -/
theorem Sep.pick (S : Sep h0 l h) (is : List Nat) {l' : List (Addr × UO)} (e : pickL l is = some l' := by rfl) (hn : is.Nodup := by decide) : Sep h0 l' h := by
  obtain ⟨len, all⟩ := pickL_mem e
  have has : ∀ x ∈ l', x ∈ l := fun x hx => by
    obtain ⟨j, hj, ej⟩ := List.mem_iff_getElem.mp hx
    obtain ⟨i, _, e2⟩ := all j x (by rw [List.getElem?_eq_getElem hj, ej])
    exact List.mem_of_getElem? e2
  refine ⟨fun p o m => S.at_ _ _ (has _ m), ?_, S.fr, fun x hx => S.out x (has x hx)⟩
  rw [List.Nodup, List.pairwise_iff_getElem]
  intro a b ha hb hab z
  rw [List.length_map] at ha hb
  rw [List.getElem_map, List.getElem_map] at z
  obtain ⟨i, i1, i2⟩ := all a l'[a] (List.getElem?_eq_getElem ha)
  obtain ⟨j, j1, j2⟩ := all b l'[b] (List.getElem?_eq_getElem hb)
  have e := nd_at S.nd i2 j2 z
  subst e
  obtain ⟨l1, q1⟩ := List.getElem?_eq_some_iff.mp i1
  obtain ⟨l2, q2⟩ := List.getElem?_eq_some_iff.mp j1
  have := nd_inj hn l1 l2 (q1.trans q2.symm)
  omega
/-- a call that makes new things, and leaves all as it was -/
theorem Sep.more {m : List (Addr × UO)} (S : Sep h0 l h) (S' : Sep h m h1) : Sep h0 (m ++ l) h1 := by
  refine ⟨fun p o hm => ?_, ?_, fun p o z => S'.fr _ _ (S.fr _ _ z), fun x hx => ?_⟩
  · rcases List.mem_append.mp hm with z | z
    · exact S'.at_ _ _ z
    · exact S'.fr _ _ (S.at_ _ _ z)
  · rw [List.map_append, List.nodup_append]
    refine ⟨S'.nd, S.nd, fun a ha b hb z => ?_⟩
    obtain ⟨x, hx, ex⟩ := List.mem_map.mp ha
    obtain ⟨y, hy, ey⟩ := List.mem_map.mp hb
    have e1 := S'.out x hx
    have e2 := S.at_ y.1 y.2 hy
    rw [ex, z, ← ey, e2] at e1
    cases e1
  · rcases List.mem_append.mp hx with z | z
    · have e1 := S'.out x z
      cases q : h0 x.1 with
      | none => rfl
      | some u =>
        rw [S.fr _ _ q] at e1
        cases e1
    · exact S.out x z
/-- a call that writes over what stands at pre -/
theorem Sep.call {pre rest : List (Addr × UO)} (S : Sep h0 (pre ++ rest) h) : ∃ g, Sep g pre h ∧ (∀ a o, h0 a = some o → g a = some o) ∧ (∀ x ∈ rest, g x.1 = some x.2) ∧ ∀ post h', Sep g post h' → Sep h0 (post ++ rest) h' := by
  have nd := S.nd
  rw [List.map_append, List.nodup_append] at nd
  obtain ⟨n1, n2, n3⟩ := nd
  let g : HU := fun a => if a ∈ pre.map (·.1) then none else h a
  have gr : ∀ x ∈ rest, g x.1 = some x.2 := fun x hx => by
    show (if x.1 ∈ pre.map (·.1) then none else h x.1) = _
    rw [if_neg fun m => n3 _ m _ (List.mem_map.mpr ⟨x, hx, rfl⟩) rfl]
    exact S.at_ _ _ (List.mem_append_right _ hx)
  have gf : ∀ a o, h0 a = some o → g a = some o := fun a o z => by
    show (if a ∈ pre.map (·.1) then none else h a) = _
    rw [if_neg]
    · exact S.fr _ _ z
    · intro m
      obtain ⟨x, hx, e⟩ := List.mem_map.mp m
      have := S.out x (List.mem_append_left _ hx)
      rw [e, z] at this
      cases this
  refine ⟨g, ⟨fun p o m => S.at_ _ _ (List.mem_append_left _ m), n1, fun p o z => ?_, fun x hx => ?_⟩, gf, gr, fun post h' S' => ?_⟩
  · have z' : (if p ∈ pre.map (·.1) then none else h p) = some o := z
    split at z'
    · cases z'
    · exact z'
  · show (if x.1 ∈ pre.map (·.1) then none else h x.1) = _
    rw [if_pos (List.mem_map.mpr ⟨x, hx, rfl⟩)]
  · refine ⟨fun p o m => ?_, ?_, fun p o z => S'.fr _ _ (gf _ _ z), fun x hx => ?_⟩
    · rcases List.mem_append.mp m with z | z
      · exact S'.at_ _ _ z
      · exact S'.fr _ _ (gr _ z)
    · rw [List.map_append, List.nodup_append]
      refine ⟨S'.nd, n2, fun a ha b hb z => ?_⟩
      obtain ⟨x, hx, ex⟩ := List.mem_map.mp ha
      obtain ⟨y, hy, ey⟩ := List.mem_map.mp hb
      have e1 := S'.out x hx
      have e2 := gr y hy
      rw [ex, z, ← ey, e2] at e1
      cases e1
    · rcases List.mem_append.mp hx with z | z
      · have e1 := S'.out x z
        cases q : h0 x.1 with
        | none => rfl
        | some u =>
          rw [gf _ _ q] at e1
          cases e1
      · exact S.out x (List.mem_append_right _ z)
/-- the frame may be widened by what is left alone -/
theorem Sep.fix (S : Sep h0 l h) : Sep h [] h := Sep.nil h
theorem Sep.sub (S : Sep h0 l h) : Sub h0 h := S.fr
end
theorem sz {n : Nat} (h : n ≤ 16777216) : n ≤ sizeLine := h
theorem szb {n : Nat} (h : Nat.ble n 16777216 = true) : n ≤ sizeLine := Nat.le_of_ble_eq_true h
theorem szl {n : Nat} (h : n < 16777216) : n < sizeLine := h
section
variable {s : SU} {h : HU}
theorem subS_nil : SubS [] [] := SubS.refl _
theorem subS_none {x : Option U} {s t : SU} (q : SubS s t) : SubS (none :: s) (x :: t) := ⟨by simp [q.1], fun i u e => by
  cases i with
  | zero => simp at e
  | succ i => simpa using q.2 i u (by simpa using e)⟩
theorem subS_same {x : Option U} {s t : SU} (q : SubS s t) : SubS (x :: s) (x :: t) := ⟨by simp [q.1], fun i u e => by
  cases i with
  | zero => simpa using e
  | succ i => simpa using q.2 i u (by simpa using e)⟩
/-! ### statements -/
variable {nx : SU → HU → Prop} {rt : DV} {bk ct : SU → HU → Prop} {t u : DS} {te ta tb : DE}
theorem s_seq (k : t ⟨u ⟨nx, rt, bk, ct⟩, rt, bk, ct⟩ s h) : dSeq t u ⟨nx, rt, bk, ct⟩ s h := k
theorem s_next (k : nx s h) : dNext ⟨nx, rt, bk, ct⟩ s h := k
theorem s_break (k : bk s h) : dBreak ⟨nx, rt, bk, ct⟩ s h := k
theorem s_cont (k : ct s h) : dCont ⟨nx, rt, bk, ct⟩ s h := k
theorem s_drop (k : te s h fun _ h1 => nx s h1) : dDrop te ⟨nx, rt, bk, ct⟩ s h := k
theorem s_ret (k : te s h rt) : dRet te ⟨nx, rt, bk, ct⟩ s h := k
theorem s_retN (k : rt .non h) : dRetN ⟨nx, rt, bk, ct⟩ s h := k
theorem s_asg {g : DG} (k : te s h fun x h1 => g x s h1 nx) : dAsg te g ⟨nx, rt, bk, ct⟩ s h := k
theorem s_if {c : DT} (k : c s h fun b h1 => (b = true → t ⟨nx, rt, bk, ct⟩ s h1) ∧ (b = false → u ⟨nx, rt, bk, ct⟩ s h1)) : dIfS c t u ⟨nx, rt, bk, ct⟩ s h := k
theorem s_while {c : DT} (W : Nat → SU → HU → Prop) (m : Nat) (h0 : W m s h) (k : ∀ m s h, W m s h → c s h fun b h1 => (b = true → t ⟨WkS (fun s' h' => ∃ m', m' < m ∧ W m' s' h'), rt, nx, WkS (fun s' h' => ∃ m', m' < m ∧ W m' s' h')⟩ s h1) ∧ (b = false → nx s h1)) :
    dWhile c t ⟨nx, rt, bk, ct⟩ s h := ⟨W, ⟨m, h0⟩, k⟩
/-- what a for asks, its items us told -/
def kFor (g : DG) (t : DS) (nx : SU → HU → Prop) (rt : DV) (s : SU) (us : List U) (keep : HU → Prop) (h1 : HU) : Prop := ∃ Pv : Nat → SU → HU → Prop, Pv 0 s h1 ∧ (∀ i s h, i ≤ us.length → Pv i s h → keep h) ∧
  (∀ i u s h, us[i]? = some u → Pv i s h → g u s h fun s2 h2 => t ⟨WkS (Pv (i + 1)), rt, nx, WkS (Pv (i + 1))⟩ s2 h2) ∧ ∀ s h, Pv us.length s h → nx s h
theorem s_for {wi : DI} {g : DG} (k : wi s h (kFor g t nx rt s)) : dFor wi g t ⟨nx, rt, bk, ct⟩ s h := k
theorem f_inv {g : DG} {us : List U} {keep : HU → Prop} (Pv : Nat → SU → HU → Prop) (p0 : Pv 0 s h) (pk : ∀ i s h, i ≤ us.length → Pv i s h → keep h) (ps : ∀ i u s h, us[i]? = some u → Pv i s h → g u s h fun s2 h2 => t ⟨WkS (Pv (i + 1)), rt, nx, WkS (Pv (i + 1))⟩ s2 h2)
    (pd : ∀ s h, Pv us.length s h → nx s h) : kFor g t nx rt s us keep h := ⟨Pv, p0, pk, ps, pd⟩
/-- the end of a turn: less told of the slots -/
theorem wk {P : SU → HU → Prop} {s' : SU} (q : SubS s' s) (k : P s' h) : WkS P s h := ⟨s', h, q, Sub.refl h, k⟩
/-! ### expressions -/
variable {Q : DV}
theorem v_var {i : Nat} {x : U} (e : slot s i = some x) (k : Q x h) : dVar i s h Q := by
  unfold dVar
  rw [e]
  exact k
theorem v_c {x : U} (k : Q x h) : dC x s h Q := k
theorem v_op {r : D2} (k : ta s h fun x h1 => tb s h1 fun y h2 => r x y h2 Q) : dOp r ta tb s h Q := k
theorem v_un {r : D1} (k : ta s h fun x h1 => r x h1 Q) : dUn r ta s h Q := k
theorem v_if {c : DT} (k : c s h fun b h1 => (b = true → ta s h1 Q) ∧ (b = false → tb s h1 Q)) : dIf c ta tb s h Q := k
theorem v_nil {R : List U → HU → Prop} (k : R [] h) : dNil s h R := k
theorem v_cons {tr : DA} {R : List U → HU → Prop} (k : te s h fun x h1 => tr s h1 fun xs h2 => R (x :: xs) h2) : dCons te tr s h R := k
theorem v_tup {t : DA} (k : t s h fun us h1 => us.length ≤ sizeLine ∧ Q (.tup us) h1) : dTup t s h Q := k
theorem v_CB {r : DC1} {t : DA} (k : t s h fun us h1 => r us h1 Q) : dCB r t s h Q := k
theorem v_BM0 {ty : HU → U → Prop} {r : DM} {to : DE} (k : to s h fun x h1 => ty h1 x ∧ r x [] h1 Q) : dBM0 ty r to s h Q := k
theorem v_BM {ty : HU → U → Prop} {r : DM} {to : DE} {t : DA} (k : to s h fun x h1 => ty h1 x ∧ t s h1 fun us h2 => r x us h2 Q) : dBM ty r to t s h Q := k
theorem v_call {sp : DP} {du : List U} {x : DXK} {t : DA} (k : t s h fun us h1 => sp (us ++ du) h1 Q x) : dCall sp du x t s h Q := k
def kB (R : Bool → HU → Prop) : DV := fun u h => match u with
  | .bl b => R b h
  | _ => False
theorem v_B {t : DE} {R : Bool → HU → Prop} (k : t s h (kB R)) : dB t s h R := k
theorem k_bl {b : Bool} {R : Bool → HU → Prop} (k : R b h) : kB R (.bl b) h := k
variable {tc td : DT} {R : Bool → HU → Prop}
theorem v_and (k : tc s h fun c h1 => (c = true → td s h1 R) ∧ (c = false → R false h1)) : dAnd tc td s h R := k
theorem v_or (k : tc s h fun c h1 => (c = true → R true h1) ∧ (c = false → td s h1 R)) : dOr tc td s h R := k
theorem v_not (k : tc s h fun c h1 => R (!c) h1) : dNot tc s h R := k
theorem v_yes (k : R true h) : dYes s h R := k
def kAndV (tb : DE) (s : SU) (Q : DV) : DV := fun x h1 => match x with
  | .bl true => tb s h1 Q
  | .bl false => Q (.bl false) h1
  | _ => False
def kOrV (tb : DE) (s : SU) (Q : DV) : DV := fun x h1 => match x with
  | .bl false => tb s h1 Q
  | .bl true => Q (.bl true) h1
  | _ => False
theorem v_andV (k : ta s h (kAndV tb s Q)) : dAndV ta tb s h Q := k
theorem v_orV (k : ta s h (kOrV tb s Q)) : dOrV ta tb s h Q := k
theorem k_and {b : Bool} (k : (b = true → tb s h Q) ∧ (b = false → Q (.bl false) h)) : kAndV tb s Q (.bl b) h := by
  cases b
  · exact k.2 rfl
  · exact k.1 rfl
theorem k_or {b : Bool} (k : (b = true → Q (.bl true) h) ∧ (b = false → tb s h Q)) : kOrV tb s Q (.bl b) h := by
  cases b
  · exact k.2 rfl
  · exact k.1 rfl
theorem v_rNot {b : Bool} (k : Q (.bl (!b)) h) : rNot (.bl b) h Q := k
/-- a new object: told from here on -/
def kNew (o : UO) (Q : DV) (h : HU) : Prop := ∀ r, h r = none → Q (.ref r) (updU h r o)
theorem k_new {o : UO} {g0 : HU} {l : List (Addr × UO)} (S : Sep g0 l h) (k : ∀ p h2, Sep g0 ((p, o) :: l) h2 → Q (.ref p) h2) : kNew o Q h := fun r n => k r _ (S.new n)
theorem v_lst {t : DA} (k : t s h fun us h1 => us.length ≤ sizeLine ∧ kNew (.lst us) Q h1) : dLst t s h Q := k
/-! ### operators -/
variable {i j : Int} {x y : Str} {us ws : List U} {p q : Addr}
theorem i_add (k : Q (.int (i + j)) h) : oAdd (.int i) (.int j) h Q := k
theorem i_sub (k : Q (.int (i - j)) h) : oSub (.int i) (.int j) h Q := k
theorem i_mul (c : CMul i j) (k : Q (.int (i * j)) h) : oMul (.int i) (.int j) h Q := ⟨c, k⟩
theorem i_div (c : 0 < j) (d : j < 1073741824) (k : Q (.int (i / j)) h) : oDiv (.int i) (.int j) h Q := ⟨c, d, k⟩
theorem i_mod (c : 0 < j) (k : Q (.int (i % j)) h) : oMod (.int i) (.int j) h Q := ⟨c, k⟩
theorem i_pow (c : CPow i j) (k : Q (.int (i ^ j.toNat)) h) : oPow (.int i) (.int j) h Q := ⟨c, k⟩
theorem i_neg (k : Q (.int (-i)) h) : oNeg (.int i) h Q := k
theorem i_lt (k : Q (.bl (decide (i < j))) h) : oLt (.int i) (.int j) h Q := k
theorem i_le (k : Q (.bl (decide (i ≤ j))) h) : oLe (.int i) (.int j) h Q := k
theorem i_gt (k : Q (.bl (decide (j < i))) h) : oGt (.int i) (.int j) h Q := k
theorem i_ge (k : Q (.bl (decide (j ≤ i))) h) : oGe (.int i) (.int j) h Q := k
theorem i_eq (k : Q (.bl (decide (i = j))) h) : oEq (.int i) (.int j) h Q := k
theorem i_ne (k : Q (.bl (!decide (i = j))) h) : oNe (.int i) (.int j) h Q := k
theorem s_eq (k : Q (.bl (decide (x = y))) h) : oEq (.str x) (.str y) h Q := k
theorem s_ne (k : Q (.bl (!decide (x = y))) h) : oNe (.str x) (.str y) h Q := k
theorem b_eq {a b : Bool} (k : Q (.bl (decide (a = b))) h) : oEq (.bl a) (.bl b) h Q := k
theorem b_ne {a b : Bool} (k : Q (.bl (!decide (a = b))) h) : oNe (.bl a) (.bl b) h Q := k
theorem n_is {x : U} (k : Q (.bl (isNonU x)) h) : oIsN x .non h Q := k
theorem n_not {x : U} (k : Q (.bl (!isNonU x)) h) : oNotN x .non h Q := k
theorem s_add (l : x.length + y.length ≤ sizeLine) (k : Q (.str (x ++ y)) h) : oAdd (.str x) (.str y) h Q := ⟨l, k⟩
theorem t_add (l : us.length + ws.length ≤ sizeLine) (k : Q (.tup (us ++ ws)) h) : oAdd (.tup us) (.tup ws) h Q := ⟨l, k⟩
theorem t_ix {x : U} (e : atI us i = some x) (k : Q x h) : oIx (.tup us) (.int i) h Q := by
  unfold oIx
  simp only [e]
  exact k
theorem ft_ix {x : U} (e : atI us i = some x) (k : Q x h) : oIx (.ft us) (.int i) h Q := by
  unfold oIx
  simp only [e]
  exact k
theorem l_ix {x : U} (e0 : lstU h p = some us) (e : atI us i = some x) (k : Q x h) : oIx (.ref p) (.int i) h Q := by
  unfold oIx
  simp only [e0]
  simp only [e]
  exact k
theorem s_ix {c : Nat} (e : atI x.cps.toList i = some c) (l : x.length ≤ sizeLine) (k : Q (.str ⟨#[c]⟩) h) : oIx (.str x) (.int i) h Q := by
  unfold oIx
  simp only [e]
  exact ⟨l, k⟩
theorem lst_get {o : Option UO} (e : h p = o) (n : ∀ us, o ≠ some (.lst us)) (n2 : ∀ us, o ≠ some (.lck us)) : lstU h p = none := by
  unfold lstU
  split
  · rename_i e2
    exact absurd (e.symm.trans e2) (n _)
  · rename_i e2
    exact absurd (e.symm.trans e2) (n2 _)
  · rfl
theorem k_ix {kvs : List (Key × U)} {x u : U} {k : Key} (e0 : h p = some (.dK kvs)) (e1 : keyU x = some k) (e : valU kvs k = some u) (c : Q u h) : oIx (.ref p) x h Q := by
  have e2 : lstU h p = none := lst_get e0 (fun _ z => nomatch z) (fun _ z => nomatch z)
  have e3 : getU h p x = some (some u) := by
    unfold getU
    rw [e0]
    simp only [e1, e]
  unfold oIx
  simp only [e2, e3]
  exact c
theorem kt_ix {kvs : List (List Key × U)} {x u : U} {k : List Key} (e0 : h p = some (.dT kvs)) (e1 : keyT x = some k) (e : valU kvs k = some u) (c : Q u h) : oIx (.ref p) x h Q := by
  have e2 : lstU h p = none := lst_get e0 (fun _ z => nomatch z) (fun _ z => nomatch z)
  have e3 : getU h p x = some (some u) := by
    unfold getU
    rw [e0]
    simp only [e1, e]
  unfold oIx
  simp only [e2, e3]
  exact c
theorem kt_inX {f : Bool → Bool} {kvs : List (List Key × U)} {x : U} {k : List Key} (e0 : h p = some (.dT kvs)) (e1 : keyT x = some k) (c : Q (.bl (f (valU kvs k).isSome)) h) : oInX f x (.ref p) h Q := by
  have e2 : lstU h p = none := lst_get e0 (fun _ z => nomatch z) (fun _ z => nomatch z)
  have e3 : getU h p x = some (valU kvs k) := by
    unfold getU
    rw [e0]
    simp only [e1]
  unfold oInX
  simp only [e2, e3]
  exact c
theorem kt_in {kvs : List (List Key × U)} {x : U} {k : List Key} (e0 : h p = some (.dT kvs)) (e1 : keyT x = some k) (c : Q (.bl (valU kvs k).isSome) h) : oIn x (.ref p) h Q := kt_inX (f := id) e0 e1 c
theorem kt_nin {kvs : List (List Key × U)} {x : U} {k : List Key} (e0 : h p = some (.dT kvs)) (e1 : keyT x = some k) (c : Q (.bl (!(valU kvs k).isSome)) h) : oNotIn x (.ref p) h Q := kt_inX (f := not) e0 e1 c
theorem t_inX {f : Bool → Bool} {x : U} (a : flatU x = true) (b : us.all flatU = true) (c : Q (.bl (f (inF x us))) h) : oInX f x (.tup us) h Q := ⟨a, b, c⟩
theorem ft_in {x : U} (a : flatU x = true) (b : us.all flatU = true) (c : Q (.bl (inF x us)) h) : oIn x (.ft us) h Q := ⟨a, b, c⟩
theorem ft_nin {x : U} (a : flatU x = true) (b : us.all flatU = true) (c : Q (.bl (!inF x us)) h) : oNotIn x (.ft us) h Q := ⟨a, b, c⟩
theorem t_in {x : U} (a : flatU x = true) (b : us.all flatU = true) (c : Q (.bl (inF x us)) h) : oIn x (.tup us) h Q := t_inX (f := id) a b c
theorem t_nin {x : U} (a : flatU x = true) (b : us.all flatU = true) (c : Q (.bl (!inF x us)) h) : oNotIn x (.tup us) h Q := t_inX (f := not) a b c
theorem l_in {x : U} (e : lstU h p = some us) (a : flatU x = true) (b : us.all flatU = true) (c : Q (.bl (inF x us)) h) : oIn x (.ref p) h Q := by
  unfold oIn oInX
  simp only [e]
  exact .inl ⟨a, b, c⟩
theorem l_nin {x : U} (e : lstU h p = some us) (a : flatU x = true) (b : us.all flatU = true) (c : Q (.bl (!inF x us)) h) : oNotIn x (.ref p) h Q := by
  unfold oNotIn oInX
  simp only [e]
  exact .inl ⟨a, b, c⟩
/-! ### built-ins -/
theorem l_len (e : lstU h p = some us) (k : Q (.int us.length) h) : cLen [.ref p] h Q := by
  unfold lstU at e
  split at e
  · rename_i e1
    cases e
    unfold cLen
    simp only [e1]
    exact k
  · rename_i e1
    cases e
    unfold cLen
    simp only [e1]
    exact k
  · cases e
theorem ft_len (k : Q (.int us.length) h) : cLen [.ft us] h Q := k
theorem ft_tuple (k : Q (.ft us) h) : cTuple [.ft us] h Q := k
theorem t_len (k : Q (.int us.length) h) : cLen [.tup us] h Q := k
theorem s_len (l : x.length ≤ sizeLine) (k : Q (.int x.length) h) : cLen [.str x] h Q := ⟨l, k⟩
theorem l_tuple (e : lstU h p = some us) (k : Q (.tup us) h) : cTuple [.ref p] h Q := by
  unfold cTuple
  simp only [e]
  exact k
theorem t_tuple (k : Q (.tup us) h) : cTuple [.tup us] h Q := k
theorem i_abs (k : Q (.int (if i < 0 then -i else i)) h) : cAbs [.int i] h Q := k
theorem i_int (k : Q (.int i) h) : cInt [.int i] h Q := k
theorem b_int {b : Bool} (k : Q (.int (if b then 1 else 0)) h) : cInt [.bl b] h Q := k
theorem isL_of (e : h p = some (.lst us)) : isLst h (.ref p) := by
  unfold isLst
  simp only [e]
theorem l_add {q : Addr} (a : h p = some (.lst us)) (b : h q = some (.lst ws)) (l : us.length + ws.length ≤ sizeLine) (k : kNew (.lst (us ++ ws)) Q h) : oAdd (.ref p) (.ref q) h Q := by
  unfold oAdd
  simp only [a, b]
  exact ⟨l, k⟩
theorem t_list (k : kNew (.lst us) Q h) : cList [.tup us] h Q := k
theorem l_list (e : lstU h p = some us) (k : kNew (.lst us) Q h) : cList [.ref p] h Q := by
  unfold cList
  simp only [e]
  exact k
def kRev (Q : DV) : DV := fun u h1 => match u with
  | .ref p => match lstU h1 p with
    | some us => kNew (.lst us.reverse) Q h1
    | none => False
  | _ => False
theorem v_rev (k : te s h (kRev Q)) : dRev te s h Q := k
theorem k_rev (e : lstU h p = some us) (k : kNew (.lst us.reverse) Q h) : kRev Q (.ref p) h := by
  unfold kRev
  simp only [e]
  exact k
def kRevS (Q : DV) : DV := fun u h1 => match u with
  | .str z => z.length ≤ sizeLine ∧ Q (.str (revS z)) h1
  | _ => False
theorem v_revS (k : te s h (kRevS Q)) : dRevS te s h Q := k
theorem k_revS (l : x.length ≤ sizeLine) (k : Q (.str (revS x)) h) : kRevS Q (.str x) h := ⟨l, k⟩
def kPart (R : Option Int → HU → Prop) : DV := fun u h1 => match u with
  | .int i => R (some i) h1
  | _ => False
variable {RO : Option Int → HU → Prop} {lo hi : Option Int}
theorem v_noP (k : RO none h) : dNoP s h RO := k
theorem v_part (k : te s h (kPart RO)) : dPart te s h RO := k
theorem k_part (k : RO (some i) h) : kPart RO (.int i) h := k
theorem v_sl {tl th : DO} (k : te s h fun x h1 => tl s h1 fun lo h2 => th s h2 fun hi h3 => oSl x lo hi h3 Q) : dSl te tl th s h Q := k
theorem t_sl (k : Q (.tup (cutU us lo hi)) h) : oSl (.tup us) lo hi h Q := k
theorem s_sl (l : x.length ≤ sizeLine) (k : Q (.str (cutS x lo hi)) h) : oSl (.str x) lo hi h Q := ⟨l, k⟩
theorem l_sl (e : lstU h p = some us) (k : kNew (.lst (cutU us lo hi)) Q h) : oSl (.ref p) lo hi h Q := by
  unfold oSl
  simp only [e]
  exact k
/-! ### methods -/
variable {g0 : HU} {l : List (Addr × UO)}
theorem isL (e : lstU h p = some us) : isLst h (.ref p) := by
  unfold lstU at e
  unfold isLst
  split at e
  · rename_i z
    simp only [z]
  · rename_i z
    simp only [z]
  · cases e
/-- the method's object, then its arguments -/
theorem k_isL {A : Prop} (e : lstU h p = some us) (k : A) : isLst h (.ref p) ∧ A := ⟨isL e, k⟩
theorem k_isT {A : Prop} (k : A) : isTxt h (.str x) ∧ A := ⟨True.intro, k⟩
theorem m_app {y : U} (S : Sep g0 l h) (i : Nat) (e : l[i]? = some (p, .lst us)) (hl : us.length < sizeLine) (k : ∀ h2, Sep g0 (l.set i (p, .lst (us ++ [y]))) h2 → Q .non h2) : mAppend (.ref p) [y] h Q := by
  unfold mAppend
  simp only [S.get i e]
  exact ⟨hl, k _ (S.put i e _)⟩
theorem m_ext {q : Addr} (S : Sep g0 l h) (i j : Nat) (e : l[i]? = some (p, .lst us)) (e2 : l[j]? = some (q, .lst ws)) (hl : us.length + ws.length ≤ sizeLine) (k : ∀ h2, Sep g0 (l.set i (p, .lst (us ++ ws))) h2 → Q .non h2) : mExtend (.ref p) [.ref q] h Q := by
  unfold mExtend
  simp only [S.get i e, S.get j e2]
  exact ⟨hl, k _ (S.put i e _)⟩
theorem m_pp {y : U} (S : Sep g0 l h) (i : Nat) (e : l[i]? = some (p, .lst (us ++ [y]))) (k : ∀ h2, Sep g0 (l.set i (p, .lst us)) h2 → Q y h2) : mPop (.ref p) [] h Q := by
  unfold mPop
  simp only [S.get i e]
  have e1 : (us ++ [y])[(us ++ [y]).length - 1]? = some y := by simp
  rw [e1]
  have e2 : (us ++ [y]).dropLast = us := by simp
  rw [e2]
  exact k _ (S.put i e _)
/-- o[i] = v -/
theorem g_sb {to ti : DE} {v : U} {R : SU → HU → Prop} (k : to s h fun o h1 => ti s h1 fun i h2 => oSet o i v h2 fun h3 => R s h3) : gSb to ti v s h R := k
variable {RS0 : HU → Prop}
theorem o_setL {v : U} {n : Nat} (S : Sep g0 l h) (j : Nat) (e : l[j]? = some (p, .lst us)) (en : ixN us.length i = some n) (k : ∀ h2, Sep g0 (l.set j (p, .lst (us.set n v))) h2 → RS0 h2) : oSet (.ref p) (.int i) v h RS0 := by
  unfold oSet
  simp only [S.get j e, en]
  exact k _ (S.put j e _)
theorem o_setK {v y : U} {kvs : List (Key × U)} {kk : Key} (S : Sep g0 l h) (j : Nat) (e : l[j]? = some (p, .dK kvs)) (ek : keyU y = some kk) (hl : kvs.length < sizeLine) (k : ∀ h2, Sep g0 (l.set j (p, .dK (putU kvs kk v))) h2 → RS0 h2) : oSet (.ref p) y v h RS0 := by
  unfold oSet
  simp only [S.get j e, ek]
  exact ⟨hl, k _ (S.put j e _)⟩
theorem o_setT {v y : U} {kvs : List (List Key × U)} {kk : List Key} (S : Sep g0 l h) (j : Nat) (e : l[j]? = some (p, .dT kvs)) (ek : keyT y = some kk) (hl : kvs.length < sizeLine) (k : ∀ h2, Sep g0 (l.set j (p, .dT (putU kvs kk v))) h2 → RS0 h2) : oSet (.ref p) y v h RS0 := by
  unfold oSet
  simp only [S.get j e, ek]
  exact ⟨hl, k _ (S.put j e _)⟩
/-! ### displays of dicts -/
theorem v_kv0 {R : List (U × U) → HU → Prop} (k : R [] h) : dKv0 s h R := k
theorem v_kv {tk tv : DE} {r : SU → HU → (List (U × U) → HU → Prop) → Prop} {R : List (U × U) → HU → Prop} (k : tk s h fun x h1 => tv s h1 fun y h2 => r s h2 fun ps h3 => R ((x, y) :: ps) h3) : dKv tk tv r s h R := k
def kDis (Q : DV) (ps : List (U × U)) (h1 : HU) : Prop := ∃ kvs, keyPs ps = some kvs ∧ kvs.length ≤ 15 ∧ kNew (.dK (mergeU [] kvs)) Q h1
theorem v_dis {t : SU → HU → (List (U × U) → HU → Prop) → Prop} (k : t s h (kDis Q)) : dDis t s h Q := k
theorem k_dis {ps : List (U × U)} {kvs : List (Key × U)} (e : keyPs ps = some kvs) (hl : kvs.length ≤ 15) (k : kNew (.dK (mergeU [] kvs)) Q h) : kDis Q ps h := ⟨kvs, e, hl, k⟩
def kDisT (Q : DV) (ps : List (U × U)) (h1 : HU) : Prop := match ps with
  | [(k, v)] => match keyT k with
    | some ks => kNew (.dT [(ks, v)]) Q h1
    | none => False
  | _ => False
theorem v_disT {t : SU → HU → (List (U × U) → HU → Prop) → Prop} (k : t s h (kDisT Q)) : dDisT t s h Q := k
theorem k_disT {x v : U} {ks : List Key} (e : keyT x = some ks) (k : kNew (.dT [(ks, v)]) Q h) : kDisT Q [(x, v)] h := by
  unfold kDisT
  simp only [e]
  exact k
/-! ### iterators -/
variable {RI : List U → (HU → Prop) → HU → Prop}
def kAny (RI : List U → (HU → Prop) → HU → Prop) : DV := fun u h1 => match u with
  | .tup us => RI us (fun _ => True) h1
  | .ft us => RI us (fun _ => True) h1
  | .str z => RI (signsU z) (fun _ => True) h1
  | .ref p => match lstU h1 p with
    | some us => RI us (fun h2 => lstU h2 p = some us) h1
    | none => False
  | _ => False
theorem w_any (k : te s h (kAny RI)) : iAny te s h RI := k
theorem k_anyT (k : RI us (fun _ => True) h) : kAny RI (.tup us) h := k
theorem k_anyFT (k : RI us (fun _ => True) h) : kAny RI (.ft us) h := k
theorem k_anyS (k : RI (signsU x) (fun _ => True) h) : kAny RI (.str x) h := k
theorem k_anyL (e : lstU h p = some us) (k : RI us (fun h2 => lstU h2 p = some us) h) : kAny RI (.ref p) h := by
  unfold kAny
  simp only [e]
  exact k
def kRng1 (RI : List U → (HU → Prop) → HU → Prop) (us : List U) (h1 : HU) : Prop := match us with
  | [.int j] => -(2 ^ 62) ≤ j ∧ j < 2 ^ 62 ∧ RI (rngU 0 j.toNat) (fun _ => True) h1
  | _ => False
theorem w_rng1 {t : DA} (k : t s h (kRng1 RI)) : iRng1 t s h RI := k
theorem k_rng1 (a : -4611686018427387904 ≤ i) (b : i < 4611686018427387904) (k : RI (rngU 0 i.toNat) (fun _ => True) h) : kRng1 RI [.int i] h := ⟨a, b, k⟩
theorem k_rngN {n : Nat} (b : n < 4611686018427387904) (k : RI (rngU 0 n) (fun _ => True) h) : kRng1 RI [.int (n : Int)] h := ⟨by omega, by show (n : Int) < 4611686018427387904; omega, by simpa using k⟩
def kZip (RI : List U → (HU → Prop) → HU → Prop) (us : List U) (h1 : HU) : Prop := match us with
  | [x, y] => match srcU h1 x, srcU h1 y with
    | some xs, some ys => RI (zipU xs ys) (fun h2 => srcU h2 x = some xs ∧ srcU h2 y = some ys) h1
    | _, _ => False
  | _ => False
theorem w_zip {t : DA} (k : t s h (kZip RI)) : iZip t s h RI := k
theorem k_zip {x y : U} (a : srcU h x = some us) (b : srcU h y = some ws) (k : RI (zipU us ws) (fun h2 => srcU h2 x = some us ∧ srcU h2 y = some ws) h) : kZip RI [x, y] h := by
  unfold kZip
  simp only [a, b]
  exact k
/-! ### comprehensions -/
def kLc (gs : DG) (tt : DT) (te : DE) (vs : List Nat) (s : SU) (Q : DV) (us : List U) (keep : HU → Prop) (h1 : HU) : Prop := ∃ Pv : Nat → List U → HU → Prop, us.length < sizeLine ∧ Pv 0 [] h1 ∧ (∀ i acc h, i ≤ us.length → Pv i acc h → keep h) ∧
  (∀ i u acc h, us[i]? = some u → Pv i acc h → gs u (wipeU s vs) h fun s2 h2 => tt s2 h2 fun b h3 => (b = true → te s2 h3 fun y h4 => WkH (Pv (i + 1) (acc ++ [y])) h4) ∧ (b = false → WkH (Pv (i + 1) acc) h3)) ∧
  ∀ acc h, Pv us.length acc h → kNew (.lst acc) Q h
theorem v_lc {wi : DI} {gs : DG} {tt : DT} {vs : List Nat} (k : wi s h (kLc gs tt te vs s Q)) : dLc wi gs tt te vs s h Q := k
/-- a comprehension that touches nothing: what each item gives -/
theorem lc_map {gs : DG} {vs : List Nat} {keep : HU → Prop} (f : Nat → U) (hl : us.length < sizeLine) (hk : keep h)
    (hf : ∀ i u, us[i]? = some u → ∀ (C : DV) (N : HU → Prop), C (f i) h → gs u (wipeU s vs) h fun s2 h2 => (true = true → te s2 h2 C) ∧ (true = false → N h2))
    (k : kNew (.lst ((List.range us.length).map f)) Q h) : kLc gs dYes te vs s Q us keep h := by
  refine ⟨fun i acc h' => h' = h ∧ acc = (List.range i).map f, hl, ⟨rfl, rfl⟩, fun i acc h' _ z => by rw [z.1]; exact hk, fun i u acc h' e z => ?_, fun acc h' z p hp => ?_⟩
  · obtain ⟨rfl, rfl⟩ := z
    exact hf i u e _ _ (WkH.of ⟨rfl, by rw [List.range_succ, List.map_append]; rfl⟩)
  · obtain ⟨rfl, rfl⟩ := z
    exact k p hp
/-- .. with a test -/
theorem lc_fm {gs : DG} {tt : DT} {vs : List Nat} {keep : HU → Prop} (f : Nat → Option U) (hl : us.length < sizeLine) (hk : keep h)
    (hf : ∀ i u, us[i]? = some u → ∀ (C : DV) (N : HU → Prop), (∀ y, f i = some y → C y h) → (f i = none → N h) → gs u (wipeU s vs) h fun s2 h2 => tt s2 h2 fun b h3 => (b = true → te s2 h3 C) ∧ (b = false → N h3))
    (k : kNew (.lst ((List.range us.length).filterMap f)) Q h) : kLc gs tt te vs s Q us keep h := by
  refine ⟨fun i acc h' => h' = h ∧ acc = (List.range i).filterMap f, hl, ⟨rfl, rfl⟩, fun i acc h' _ z => by rw [z.1]; exact hk, fun i u acc h' e z => ?_, fun acc h' z p hp => ?_⟩
  · obtain ⟨rfl, rfl⟩ := z
    refine hf i u e _ _ (fun y ey => WkH.of ⟨rfl, ?_⟩) (fun en => WkH.of ⟨rfl, ?_⟩)
    · rw [List.range_succ, List.filterMap_append]
      simp [ey]
    · rw [List.range_succ, List.filterMap_append]
      simp [en]
  · obtain ⟨rfl, rfl⟩ := z
    exact k p hp
/-- .. over what is made of xs -/
theorem lc_mapA {α : Type} {gs : DG} {vs : List Nat} {keep : HU → Prop} (xs : List α) (enc : α → U) (eu : us = xs.map enc) (f : α → U) (hl : xs.length < sizeLine) (hk : keep h)
    (hf : ∀ x ∈ xs, ∀ (C : DV) (N : HU → Prop), C (f x) h → gs (enc x) (wipeU s vs) h fun s2 h2 => (true = true → te s2 h2 C) ∧ (true = false → N h2))
    (k : kNew (.lst (xs.map f)) Q h) : kLc gs dYes te vs s Q us keep h := by
  subst eu
  refine ⟨fun i acc h' => h' = h ∧ acc = (xs.take i).map f, by rw [List.length_map]; exact hl, ⟨rfl, rfl⟩, fun i acc h' _ z => by rw [z.1]; exact hk, fun i u acc h' e z => ?_, fun acc h' z => ?_⟩
  · obtain ⟨rfl, rfl⟩ := z
    rw [List.getElem?_map] at e
    obtain ⟨x, ex, rfl⟩ := Option.map_eq_some_iff.mp e
    exact hf x (List.mem_of_getElem? ex) _ _ (WkH.of ⟨rfl, by rw [List.take_add_one, ex, List.map_append]; rfl⟩)
  · obtain ⟨rfl, rfl⟩ := z
    rw [List.length_map, List.take_length]
    exact k
theorem lc_fmA {α : Type} {gs : DG} {tt : DT} {vs : List Nat} {keep : HU → Prop} (xs : List α) (enc : α → U) (eu : us = xs.map enc) (f : α → Option U) (hl : xs.length < sizeLine) (hk : keep h)
    (hf : ∀ x ∈ xs, ∀ (C : DV) (N : HU → Prop), (∀ y, f x = some y → C y h) → (f x = none → N h) → gs (enc x) (wipeU s vs) h fun s2 h2 => tt s2 h2 fun b h3 => (b = true → te s2 h3 C) ∧ (b = false → N h3))
    (k : kNew (.lst (xs.filterMap f)) Q h) : kLc gs tt te vs s Q us keep h := by
  subst eu
  refine ⟨fun i acc h' => h' = h ∧ acc = (xs.take i).filterMap f, by rw [List.length_map]; exact hl, ⟨rfl, rfl⟩, fun i acc h' _ z => by rw [z.1]; exact hk, fun i u acc h' e z => ?_, fun acc h' z => ?_⟩
  · obtain ⟨rfl, rfl⟩ := z
    rw [List.getElem?_map] at e
    obtain ⟨x, ex, rfl⟩ := Option.map_eq_some_iff.mp e
    refine hf x (List.mem_of_getElem? ex) _ _ (fun y ey => WkH.of ⟨rfl, ?_⟩) (fun en => WkH.of ⟨rfl, ?_⟩)
    · rw [List.take_add_one, ex, List.filterMap_append]
      simp [ey]
    · rw [List.take_add_one, ex, List.filterMap_append]
      simp [en]
  · obtain ⟨rfl, rfl⟩ := z
    rw [List.length_map, List.take_length]
    exact k
/-- a comprehension whose items may write: the heap's knowledge by R -/
theorem lc_inv {α : Type} {gs : DG} {tt : DT} {vs : List Nat} {keep : HU → Prop} (xs : List α) (enc : α → U) (eu : us = xs.map enc) (R : Nat → List U → HU → Prop) (hl : xs.length < sizeLine) (r0 : R 0 [] h) (hk : ∀ i acc h, R i acc h → keep h)
    (hf : ∀ i x, xs[i]? = some x → ∀ acc h, R i acc h → gs (enc x) (wipeU s vs) h fun s2 h2 => tt s2 h2 fun b h3 => (b = true → te s2 h3 fun y h4 => WkH (R (i + 1) (acc ++ [y])) h4) ∧ (b = false → WkH (R (i + 1) acc) h3))
    (k : ∀ acc h, R xs.length acc h → kNew (.lst acc) Q h) : kLc gs tt te vs s Q us keep h := by
  subst eu
  refine ⟨R, by rw [List.length_map]; exact hl, r0, fun i acc h _ z => hk i acc h z, fun i u acc h' e z => ?_, fun acc h' z => k acc h' (by rw [List.length_map] at z; exact z)⟩
  rw [List.getElem?_map] at e
  obtain ⟨x, ex, rfl⟩ := Option.map_eq_some_iff.mp e
  exact hf i x ex acc h' z
theorem f_invA {α : Type} {g : DG} {keep : HU → Prop} (xs : List α) (enc : α → U) (eu : us = xs.map enc) (Pv : Nat → SU → HU → Prop) (p0 : Pv 0 s h) (pk : ∀ i s h, Pv i s h → keep h) (ps : ∀ i x, xs[i]? = some x → ∀ s h, Pv i s h → g (enc x) s h fun s2 h2 => t ⟨WkS (Pv (i + 1)), rt, nx, WkS (Pv (i + 1))⟩ s2 h2)
    (pd : ∀ s h, Pv xs.length s h → nx s h) : kFor g t nx rt s us keep h := by
  subst eu
  refine ⟨Pv, p0, fun i s h _ z => pk i s h z, fun i u s h e z => ?_, fun s h z => pd s h (by rw [List.length_map] at z; exact z)⟩
  rw [List.getElem?_map] at e
  obtain ⟨x, ex, rfl⟩ := Option.map_eq_some_iff.mp e
  exact ps i x ex s h z
theorem kFor_keep {g : DG} {keep keep' : HU → Prop} (m : ∀ h, keep h → keep' h) (k : kFor g t nx rt s us keep h) : kFor g t nx rt s us keep' h := by
  obtain ⟨Pv, a, b, c, d⟩ := k
  exact ⟨Pv, a, fun i s h l z => m h (b i s h l z), c, d⟩
def noStr : U → Bool
  | .str _ => false
  | _ => true
/-- a for over a list or a tuple, whichever -/
theorem k_anyF {g : DG} {x : U} (e : srcU h x = some us) (n : noStr x = true) (k : kFor g t nx rt s us (fun h2 => srcU h2 x = some us) h) : kAny (kFor g t nx rt s) x h := by
  cases x with
  | tup ws =>
    cases (show some ws = some us from e)
    exact k_anyT (kFor_keep (fun _ _ => True.intro) k)
  | ft ws =>
    cases (show some ws = some us from e)
    exact k_anyFT (kFor_keep (fun _ _ => True.intro) k)
  | ref p => exact k_anyL e k
  | str z => cases n
  | non => cases e
  | bl b => cases e
  | int i => cases e
  | ty n => cases e
  | clo F => cases e
theorem x_len {x : U} (e : srcU h x = some us) (n : noStr x = true) (k : Q (.int us.length) h) : cLen [x] h Q := by
  cases x with
  | tup ws =>
    cases (show some ws = some us from e)
    exact t_len k
  | ft ws =>
    cases (show some ws = some us from e)
    exact k
  | ref p => exact l_len e k
  | str z => cases n
  | non => cases e
  | bl b => cases e
  | int i => cases e
  | ty n => cases e
  | clo F => cases e
def noFt : U → Bool
  | .ft _ => false
  | _ => true
theorem x_tuple {x : U} (e : srcU h x = some us) (n : noStr x = true) (nf : noFt x = true) (k : Q (.tup us) h) : cTuple [x] h Q := by
  cases x with
  | ft ws => cases nf
  | tup ws =>
    cases (show some ws = some us from e)
    exact t_tuple k
  | ref p => exact l_tuple e k
  | str z => cases n
  | non => cases e
  | bl b => cases e
  | int i => cases e
  | ty n => cases e
  | clo F => cases e
theorem lstU_mono {h' : HU} (m : ∀ a o, h a = some o → h' a = some o) (e : lstU h p = some us) : lstU h' p = some us := by
  unfold lstU at e
  split at e
  · rename_i z
    cases e
    unfold lstU
    simp only [m _ _ z]
  · rename_i z
    cases e
    unfold lstU
    simp only [m _ _ z]
  · cases e
theorem srcU_mono {h' : HU} {x : U} (m : ∀ a o, h a = some o → h' a = some o) (e : srcU h x = some us) : srcU h' x = some us := by
  cases x with
  | tup ws => exact e
  | ft ws => exact e
  | str ws => exact e
  | ref p => exact lstU_mono m e
  | non => cases e
  | bl b => cases e
  | int i => cases e
  | ty n => cases e
  | clo F => cases e
theorem atN {α : Type} {xs : List α} {n : Nat} {y : α} (e : xs[n]? = some y) : atI xs (n : Int) = some y := by
  have hl := (List.getElem?_eq_some_iff.mp e).1
  unfold atI ixN
  rw [if_pos (by omega), if_pos (by omega)]
  show xs[(n : Int).toNat]? = _
  rw [Int.toNat_natCast]
  exact e
theorem atLast {α : Type} {xs : List α} {y : α} : atI (xs ++ [y]) (-1) = some y := by
  have hl : (xs ++ [y]).length = xs.length + 1 := by simp
  unfold atI ixN
  rw [if_neg (by decide), if_pos (by rw [hl]; omega)]
  show (xs ++ [y])[((-1 : Int) + ((xs ++ [y]).length : Nat)).toNat]? = _
  rw [hl]
  have : ((-1 : Int) + ((xs.length + 1 : Nat) : Int)).toNat = xs.length := by omega
  rw [this]
  simp
theorem flat_str {α : Type} (f : α → Str) (l : List α) : (l.map fun x => U.str (f x)).all flatU = true := by
  rw [List.all_map]
  exact List.all_eq_true.mpr fun _ _ => rfl
theorem flat_int {α : Type} (f : α → Int) (l : List α) : (l.map fun x => U.int (f x)).all flatU = true := by
  rw [List.all_map]
  exact List.all_eq_true.mpr fun _ _ => rfl
theorem inF_str {x : Str} {l : List Str} : inF (.str x) (l.map U.str) = decide (x ∈ l) := by
  unfold inF
  rw [Bool.eq_iff_iff, List.any_map, List.any_eq_true, decide_eq_true_iff]
  constructor
  · rintro ⟨y, hy, e⟩
    have : (y == x) = true := e
    rw [← beq_iff_eq.mp this]
    exact hy
  · intro hx
    exact ⟨x, hx, (beq_self_eq_true x : (x == x) = true)⟩
theorem inF_int {x : Int} {l : List Int} : inF (.int x) (l.map U.int) = decide (x ∈ l) := by
  unfold inF
  rw [Bool.eq_iff_iff, List.any_map, List.any_eq_true, decide_eq_true_iff]
  constructor
  · rintro ⟨y, hy, e⟩
    have : (y == x) = true := e
    rw [← beq_iff_eq.mp this]
    exact hy
  · intro hx
    exact ⟨x, hx, (beq_self_eq_true x : (x == x) = true)⟩
theorem zip_map {α β : Type} (f : α → U) (g : β → U) (xs : List α) (ys : List β) : zipU (xs.map f) (ys.map g) = (xs.zip ys).map fun p => U.tup [f p.1, g p.2] := by
  unfold zipU
  rw [List.zip, List.map_zipWith, List.zipWith_map]
theorem rng_map (n : Nat) : rngU 0 n = (List.range n).map fun (i : Nat) => U.int (i : Int) := by
  unfold rngU
  exact List.map_congr_left fun i _ => by rw [Int.zero_add]
end
/-! ### targets -/
theorem g_nm0 {x0 : Option U} {r : SU} {u : U} {h : HU} {Q : SU → HU → Prop} (k : Q (some u :: r) h) : gNm 0 u (x0 :: r) h Q := k
theorem g_nm1 {x0 x1 : Option U} {r : SU} {u : U} {h : HU} {Q : SU → HU → Prop} (k : Q (x0 :: some u :: r) h) : gNm 1 u (x0 :: x1 :: r) h Q := k
theorem g_nm2 {x0 x1 x2 : Option U} {r : SU} {u : U} {h : HU} {Q : SU → HU → Prop} (k : Q (x0 :: x1 :: some u :: r) h) : gNm 2 u (x0 :: x1 :: x2 :: r) h Q := k
theorem g_nm3 {x0 x1 x2 x3 : Option U} {r : SU} {u : U} {h : HU} {Q : SU → HU → Prop} (k : Q (x0 :: x1 :: x2 :: some u :: r) h) : gNm 3 u (x0 :: x1 :: x2 :: x3 :: r) h Q := k
theorem g_nm4 {x0 x1 x2 x3 x4 : Option U} {r : SU} {u : U} {h : HU} {Q : SU → HU → Prop} (k : Q (x0 :: x1 :: x2 :: x3 :: some u :: r) h) : gNm 4 u (x0 :: x1 :: x2 :: x3 :: x4 :: r) h Q := k
theorem g_nm5 {x0 x1 x2 x3 x4 x5 : Option U} {r : SU} {u : U} {h : HU} {Q : SU → HU → Prop} (k : Q (x0 :: x1 :: x2 :: x3 :: x4 :: some u :: r) h) : gNm 5 u (x0 :: x1 :: x2 :: x3 :: x4 :: x5 :: r) h Q := k
theorem g_nm6 {x0 x1 x2 x3 x4 x5 x6 : Option U} {r : SU} {u : U} {h : HU} {Q : SU → HU → Prop} (k : Q (x0 :: x1 :: x2 :: x3 :: x4 :: x5 :: some u :: r) h) : gNm 6 u (x0 :: x1 :: x2 :: x3 :: x4 :: x5 :: x6 :: r) h Q := k
theorem g_nm7 {x0 x1 x2 x3 x4 x5 x6 x7 : Option U} {r : SU} {u : U} {h : HU} {Q : SU → HU → Prop} (k : Q (x0 :: x1 :: x2 :: x3 :: x4 :: x5 :: x6 :: some u :: r) h) : gNm 7 u (x0 :: x1 :: x2 :: x3 :: x4 :: x5 :: x6 :: x7 :: r) h Q := k
theorem g_nm8 {x0 x1 x2 x3 x4 x5 x6 x7 x8 : Option U} {r : SU} {u : U} {h : HU} {Q : SU → HU → Prop} (k : Q (x0 :: x1 :: x2 :: x3 :: x4 :: x5 :: x6 :: x7 :: some u :: r) h) : gNm 8 u (x0 :: x1 :: x2 :: x3 :: x4 :: x5 :: x6 :: x7 :: x8 :: r) h Q := k
theorem g_nm9 {x0 x1 x2 x3 x4 x5 x6 x7 x8 x9 : Option U} {r : SU} {u : U} {h : HU} {Q : SU → HU → Prop} (k : Q (x0 :: x1 :: x2 :: x3 :: x4 :: x5 :: x6 :: x7 :: x8 :: some u :: r) h) : gNm 9 u (x0 :: x1 :: x2 :: x3 :: x4 :: x5 :: x6 :: x7 :: x8 :: x9 :: r) h Q := k
theorem g_nm10 {x0 x1 x2 x3 x4 x5 x6 x7 x8 x9 x10 : Option U} {r : SU} {u : U} {h : HU} {Q : SU → HU → Prop} (k : Q (x0 :: x1 :: x2 :: x3 :: x4 :: x5 :: x6 :: x7 :: x8 :: x9 :: some u :: r) h) : gNm 10 u (x0 :: x1 :: x2 :: x3 :: x4 :: x5 :: x6 :: x7 :: x8 :: x9 :: x10 :: r) h Q := k
theorem g_nm11 {x0 x1 x2 x3 x4 x5 x6 x7 x8 x9 x10 x11 : Option U} {r : SU} {u : U} {h : HU} {Q : SU → HU → Prop} (k : Q (x0 :: x1 :: x2 :: x3 :: x4 :: x5 :: x6 :: x7 :: x8 :: x9 :: x10 :: some u :: r) h) : gNm 11 u (x0 :: x1 :: x2 :: x3 :: x4 :: x5 :: x6 :: x7 :: x8 :: x9 :: x10 :: x11 :: r) h Q := k
theorem g_nm12 {x0 x1 x2 x3 x4 x5 x6 x7 x8 x9 x10 x11 x12 : Option U} {r : SU} {u : U} {h : HU} {Q : SU → HU → Prop} (k : Q (x0 :: x1 :: x2 :: x3 :: x4 :: x5 :: x6 :: x7 :: x8 :: x9 :: x10 :: x11 :: some u :: r) h) : gNm 12 u (x0 :: x1 :: x2 :: x3 :: x4 :: x5 :: x6 :: x7 :: x8 :: x9 :: x10 :: x11 :: x12 :: r) h Q := k
theorem g_nm13 {x0 x1 x2 x3 x4 x5 x6 x7 x8 x9 x10 x11 x12 x13 : Option U} {r : SU} {u : U} {h : HU} {Q : SU → HU → Prop} (k : Q (x0 :: x1 :: x2 :: x3 :: x4 :: x5 :: x6 :: x7 :: x8 :: x9 :: x10 :: x11 :: x12 :: some u :: r) h) : gNm 13 u (x0 :: x1 :: x2 :: x3 :: x4 :: x5 :: x6 :: x7 :: x8 :: x9 :: x10 :: x11 :: x12 :: x13 :: r) h Q := k
theorem g_nm14 {x0 x1 x2 x3 x4 x5 x6 x7 x8 x9 x10 x11 x12 x13 x14 : Option U} {r : SU} {u : U} {h : HU} {Q : SU → HU → Prop} (k : Q (x0 :: x1 :: x2 :: x3 :: x4 :: x5 :: x6 :: x7 :: x8 :: x9 :: x10 :: x11 :: x12 :: x13 :: some u :: r) h) : gNm 14 u (x0 :: x1 :: x2 :: x3 :: x4 :: x5 :: x6 :: x7 :: x8 :: x9 :: x10 :: x11 :: x12 :: x13 :: x14 :: r) h Q := k
theorem g_nm15 {x0 x1 x2 x3 x4 x5 x6 x7 x8 x9 x10 x11 x12 x13 x14 x15 : Option U} {r : SU} {u : U} {h : HU} {Q : SU → HU → Prop} (k : Q (x0 :: x1 :: x2 :: x3 :: x4 :: x5 :: x6 :: x7 :: x8 :: x9 :: x10 :: x11 :: x12 :: x13 :: x14 :: some u :: r) h) : gNm 15 u (x0 :: x1 :: x2 :: x3 :: x4 :: x5 :: x6 :: x7 :: x8 :: x9 :: x10 :: x11 :: x12 :: x13 :: x14 :: x15 :: r) h Q := k
theorem g_nm16 {x0 x1 x2 x3 x4 x5 x6 x7 x8 x9 x10 x11 x12 x13 x14 x15 x16 : Option U} {r : SU} {u : U} {h : HU} {Q : SU → HU → Prop} (k : Q (x0 :: x1 :: x2 :: x3 :: x4 :: x5 :: x6 :: x7 :: x8 :: x9 :: x10 :: x11 :: x12 :: x13 :: x14 :: x15 :: some u :: r) h) : gNm 16 u (x0 :: x1 :: x2 :: x3 :: x4 :: x5 :: x6 :: x7 :: x8 :: x9 :: x10 :: x11 :: x12 :: x13 :: x14 :: x15 :: x16 :: r) h Q := k
theorem g_nm17 {x0 x1 x2 x3 x4 x5 x6 x7 x8 x9 x10 x11 x12 x13 x14 x15 x16 x17 : Option U} {r : SU} {u : U} {h : HU} {Q : SU → HU → Prop} (k : Q (x0 :: x1 :: x2 :: x3 :: x4 :: x5 :: x6 :: x7 :: x8 :: x9 :: x10 :: x11 :: x12 :: x13 :: x14 :: x15 :: x16 :: some u :: r) h) : gNm 17 u (x0 :: x1 :: x2 :: x3 :: x4 :: x5 :: x6 :: x7 :: x8 :: x9 :: x10 :: x11 :: x12 :: x13 :: x14 :: x15 :: x16 :: x17 :: r) h Q := k
theorem g_nm18 {x0 x1 x2 x3 x4 x5 x6 x7 x8 x9 x10 x11 x12 x13 x14 x15 x16 x17 x18 : Option U} {r : SU} {u : U} {h : HU} {Q : SU → HU → Prop} (k : Q (x0 :: x1 :: x2 :: x3 :: x4 :: x5 :: x6 :: x7 :: x8 :: x9 :: x10 :: x11 :: x12 :: x13 :: x14 :: x15 :: x16 :: x17 :: some u :: r) h) : gNm 18 u (x0 :: x1 :: x2 :: x3 :: x4 :: x5 :: x6 :: x7 :: x8 :: x9 :: x10 :: x11 :: x12 :: x13 :: x14 :: x15 :: x16 :: x17 :: x18 :: r) h Q := k
theorem g_nm19 {x0 x1 x2 x3 x4 x5 x6 x7 x8 x9 x10 x11 x12 x13 x14 x15 x16 x17 x18 x19 : Option U} {r : SU} {u : U} {h : HU} {Q : SU → HU → Prop} (k : Q (x0 :: x1 :: x2 :: x3 :: x4 :: x5 :: x6 :: x7 :: x8 :: x9 :: x10 :: x11 :: x12 :: x13 :: x14 :: x15 :: x16 :: x17 :: x18 :: some u :: r) h) : gNm 19 u (x0 :: x1 :: x2 :: x3 :: x4 :: x5 :: x6 :: x7 :: x8 :: x9 :: x10 :: x11 :: x12 :: x13 :: x14 :: x15 :: x16 :: x17 :: x18 :: x19 :: r) h Q := k
theorem g_nm20 {x0 x1 x2 x3 x4 x5 x6 x7 x8 x9 x10 x11 x12 x13 x14 x15 x16 x17 x18 x19 x20 : Option U} {r : SU} {u : U} {h : HU} {Q : SU → HU → Prop} (k : Q (x0 :: x1 :: x2 :: x3 :: x4 :: x5 :: x6 :: x7 :: x8 :: x9 :: x10 :: x11 :: x12 :: x13 :: x14 :: x15 :: x16 :: x17 :: x18 :: x19 :: some u :: r) h) : gNm 20 u (x0 :: x1 :: x2 :: x3 :: x4 :: x5 :: x6 :: x7 :: x8 :: x9 :: x10 :: x11 :: x12 :: x13 :: x14 :: x15 :: x16 :: x17 :: x18 :: x19 :: x20 :: r) h Q := k
theorem g_nm21 {x0 x1 x2 x3 x4 x5 x6 x7 x8 x9 x10 x11 x12 x13 x14 x15 x16 x17 x18 x19 x20 x21 : Option U} {r : SU} {u : U} {h : HU} {Q : SU → HU → Prop} (k : Q (x0 :: x1 :: x2 :: x3 :: x4 :: x5 :: x6 :: x7 :: x8 :: x9 :: x10 :: x11 :: x12 :: x13 :: x14 :: x15 :: x16 :: x17 :: x18 :: x19 :: x20 :: some u :: r) h) : gNm 21 u (x0 :: x1 :: x2 :: x3 :: x4 :: x5 :: x6 :: x7 :: x8 :: x9 :: x10 :: x11 :: x12 :: x13 :: x14 :: x15 :: x16 :: x17 :: x18 :: x19 :: x20 :: x21 :: r) h Q := k
theorem g_nm22 {x0 x1 x2 x3 x4 x5 x6 x7 x8 x9 x10 x11 x12 x13 x14 x15 x16 x17 x18 x19 x20 x21 x22 : Option U} {r : SU} {u : U} {h : HU} {Q : SU → HU → Prop} (k : Q (x0 :: x1 :: x2 :: x3 :: x4 :: x5 :: x6 :: x7 :: x8 :: x9 :: x10 :: x11 :: x12 :: x13 :: x14 :: x15 :: x16 :: x17 :: x18 :: x19 :: x20 :: x21 :: some u :: r) h) : gNm 22 u (x0 :: x1 :: x2 :: x3 :: x4 :: x5 :: x6 :: x7 :: x8 :: x9 :: x10 :: x11 :: x12 :: x13 :: x14 :: x15 :: x16 :: x17 :: x18 :: x19 :: x20 :: x21 :: x22 :: r) h Q := k
theorem g_nm23 {x0 x1 x2 x3 x4 x5 x6 x7 x8 x9 x10 x11 x12 x13 x14 x15 x16 x17 x18 x19 x20 x21 x22 x23 : Option U} {r : SU} {u : U} {h : HU} {Q : SU → HU → Prop} (k : Q (x0 :: x1 :: x2 :: x3 :: x4 :: x5 :: x6 :: x7 :: x8 :: x9 :: x10 :: x11 :: x12 :: x13 :: x14 :: x15 :: x16 :: x17 :: x18 :: x19 :: x20 :: x21 :: x22 :: some u :: r) h) : gNm 23 u (x0 :: x1 :: x2 :: x3 :: x4 :: x5 :: x6 :: x7 :: x8 :: x9 :: x10 :: x11 :: x12 :: x13 :: x14 :: x15 :: x16 :: x17 :: x18 :: x19 :: x20 :: x21 :: x22 :: x23 :: r) h Q := k
theorem g_nm24 {x0 x1 x2 x3 x4 x5 x6 x7 x8 x9 x10 x11 x12 x13 x14 x15 x16 x17 x18 x19 x20 x21 x22 x23 x24 : Option U} {r : SU} {u : U} {h : HU} {Q : SU → HU → Prop} (k : Q (x0 :: x1 :: x2 :: x3 :: x4 :: x5 :: x6 :: x7 :: x8 :: x9 :: x10 :: x11 :: x12 :: x13 :: x14 :: x15 :: x16 :: x17 :: x18 :: x19 :: x20 :: x21 :: x22 :: x23 :: some u :: r) h) : gNm 24 u (x0 :: x1 :: x2 :: x3 :: x4 :: x5 :: x6 :: x7 :: x8 :: x9 :: x10 :: x11 :: x12 :: x13 :: x14 :: x15 :: x16 :: x17 :: x18 :: x19 :: x20 :: x21 :: x22 :: x23 :: x24 :: r) h Q := k
theorem g_nm25 {x0 x1 x2 x3 x4 x5 x6 x7 x8 x9 x10 x11 x12 x13 x14 x15 x16 x17 x18 x19 x20 x21 x22 x23 x24 x25 : Option U} {r : SU} {u : U} {h : HU} {Q : SU → HU → Prop} (k : Q (x0 :: x1 :: x2 :: x3 :: x4 :: x5 :: x6 :: x7 :: x8 :: x9 :: x10 :: x11 :: x12 :: x13 :: x14 :: x15 :: x16 :: x17 :: x18 :: x19 :: x20 :: x21 :: x22 :: x23 :: x24 :: some u :: r) h) : gNm 25 u (x0 :: x1 :: x2 :: x3 :: x4 :: x5 :: x6 :: x7 :: x8 :: x9 :: x10 :: x11 :: x12 :: x13 :: x14 :: x15 :: x16 :: x17 :: x18 :: x19 :: x20 :: x21 :: x22 :: x23 :: x24 :: x25 :: r) h Q := k
theorem g_nm26 {x0 x1 x2 x3 x4 x5 x6 x7 x8 x9 x10 x11 x12 x13 x14 x15 x16 x17 x18 x19 x20 x21 x22 x23 x24 x25 x26 : Option U} {r : SU} {u : U} {h : HU} {Q : SU → HU → Prop} (k : Q (x0 :: x1 :: x2 :: x3 :: x4 :: x5 :: x6 :: x7 :: x8 :: x9 :: x10 :: x11 :: x12 :: x13 :: x14 :: x15 :: x16 :: x17 :: x18 :: x19 :: x20 :: x21 :: x22 :: x23 :: x24 :: x25 :: some u :: r) h) : gNm 26 u (x0 :: x1 :: x2 :: x3 :: x4 :: x5 :: x6 :: x7 :: x8 :: x9 :: x10 :: x11 :: x12 :: x13 :: x14 :: x15 :: x16 :: x17 :: x18 :: x19 :: x20 :: x21 :: x22 :: x23 :: x24 :: x25 :: x26 :: r) h Q := k
theorem g_nm27 {x0 x1 x2 x3 x4 x5 x6 x7 x8 x9 x10 x11 x12 x13 x14 x15 x16 x17 x18 x19 x20 x21 x22 x23 x24 x25 x26 x27 : Option U} {r : SU} {u : U} {h : HU} {Q : SU → HU → Prop} (k : Q (x0 :: x1 :: x2 :: x3 :: x4 :: x5 :: x6 :: x7 :: x8 :: x9 :: x10 :: x11 :: x12 :: x13 :: x14 :: x15 :: x16 :: x17 :: x18 :: x19 :: x20 :: x21 :: x22 :: x23 :: x24 :: x25 :: x26 :: some u :: r) h) : gNm 27 u (x0 :: x1 :: x2 :: x3 :: x4 :: x5 :: x6 :: x7 :: x8 :: x9 :: x10 :: x11 :: x12 :: x13 :: x14 :: x15 :: x16 :: x17 :: x18 :: x19 :: x20 :: x21 :: x22 :: x23 :: x24 :: x25 :: x26 :: x27 :: r) h Q := k
theorem g_nm28 {x0 x1 x2 x3 x4 x5 x6 x7 x8 x9 x10 x11 x12 x13 x14 x15 x16 x17 x18 x19 x20 x21 x22 x23 x24 x25 x26 x27 x28 : Option U} {r : SU} {u : U} {h : HU} {Q : SU → HU → Prop} (k : Q (x0 :: x1 :: x2 :: x3 :: x4 :: x5 :: x6 :: x7 :: x8 :: x9 :: x10 :: x11 :: x12 :: x13 :: x14 :: x15 :: x16 :: x17 :: x18 :: x19 :: x20 :: x21 :: x22 :: x23 :: x24 :: x25 :: x26 :: x27 :: some u :: r) h) : gNm 28 u (x0 :: x1 :: x2 :: x3 :: x4 :: x5 :: x6 :: x7 :: x8 :: x9 :: x10 :: x11 :: x12 :: x13 :: x14 :: x15 :: x16 :: x17 :: x18 :: x19 :: x20 :: x21 :: x22 :: x23 :: x24 :: x25 :: x26 :: x27 :: x28 :: r) h Q := k
theorem g_nm29 {x0 x1 x2 x3 x4 x5 x6 x7 x8 x9 x10 x11 x12 x13 x14 x15 x16 x17 x18 x19 x20 x21 x22 x23 x24 x25 x26 x27 x28 x29 : Option U} {r : SU} {u : U} {h : HU} {Q : SU → HU → Prop} (k : Q (x0 :: x1 :: x2 :: x3 :: x4 :: x5 :: x6 :: x7 :: x8 :: x9 :: x10 :: x11 :: x12 :: x13 :: x14 :: x15 :: x16 :: x17 :: x18 :: x19 :: x20 :: x21 :: x22 :: x23 :: x24 :: x25 :: x26 :: x27 :: x28 :: some u :: r) h) : gNm 29 u (x0 :: x1 :: x2 :: x3 :: x4 :: x5 :: x6 :: x7 :: x8 :: x9 :: x10 :: x11 :: x12 :: x13 :: x14 :: x15 :: x16 :: x17 :: x18 :: x19 :: x20 :: x21 :: x22 :: x23 :: x24 :: x25 :: x26 :: x27 :: x28 :: x29 :: r) h Q := k
theorem g_nm30 {x0 x1 x2 x3 x4 x5 x6 x7 x8 x9 x10 x11 x12 x13 x14 x15 x16 x17 x18 x19 x20 x21 x22 x23 x24 x25 x26 x27 x28 x29 x30 : Option U} {r : SU} {u : U} {h : HU} {Q : SU → HU → Prop} (k : Q (x0 :: x1 :: x2 :: x3 :: x4 :: x5 :: x6 :: x7 :: x8 :: x9 :: x10 :: x11 :: x12 :: x13 :: x14 :: x15 :: x16 :: x17 :: x18 :: x19 :: x20 :: x21 :: x22 :: x23 :: x24 :: x25 :: x26 :: x27 :: x28 :: x29 :: some u :: r) h) : gNm 30 u (x0 :: x1 :: x2 :: x3 :: x4 :: x5 :: x6 :: x7 :: x8 :: x9 :: x10 :: x11 :: x12 :: x13 :: x14 :: x15 :: x16 :: x17 :: x18 :: x19 :: x20 :: x21 :: x22 :: x23 :: x24 :: x25 :: x26 :: x27 :: x28 :: x29 :: x30 :: r) h Q := k
theorem g_nm31 {x0 x1 x2 x3 x4 x5 x6 x7 x8 x9 x10 x11 x12 x13 x14 x15 x16 x17 x18 x19 x20 x21 x22 x23 x24 x25 x26 x27 x28 x29 x30 x31 : Option U} {r : SU} {u : U} {h : HU} {Q : SU → HU → Prop} (k : Q (x0 :: x1 :: x2 :: x3 :: x4 :: x5 :: x6 :: x7 :: x8 :: x9 :: x10 :: x11 :: x12 :: x13 :: x14 :: x15 :: x16 :: x17 :: x18 :: x19 :: x20 :: x21 :: x22 :: x23 :: x24 :: x25 :: x26 :: x27 :: x28 :: x29 :: x30 :: some u :: r) h) : gNm 31 u (x0 :: x1 :: x2 :: x3 :: x4 :: x5 :: x6 :: x7 :: x8 :: x9 :: x10 :: x11 :: x12 :: x13 :: x14 :: x15 :: x16 :: x17 :: x18 :: x19 :: x20 :: x21 :: x22 :: x23 :: x24 :: x25 :: x26 :: x27 :: x28 :: x29 :: x30 :: x31 :: r) h Q := k
theorem g_unp {is : List Nat} {us : List U} {s : SU} {h : HU} {Q : SU → HU → Prop} (k : gNms is us s h Q) : gUnp is (.tup us) s h Q := k
theorem g_nms0 {s : SU} {h : HU} {Q : SU → HU → Prop} (k : Q s h) : gNms [] [] s h Q := k
theorem g_nmsS {i : Nat} {is : List Nat} {u : U} {us : List U} {s : SU} {h : HU} {Q : SU → HU → Prop} (k : gNm i u s h fun s' h' => gNms is us s' h' Q) : gNms (i :: is) (u :: us) s h Q := k
theorem if_t {b : Bool} {A B : Prop} (e : b = true) (k : A) : (b = true → A) ∧ (b = false → B) := by
  subst e
  exact ⟨fun _ => k, fun z => absurd z (by decide)⟩
theorem if_f {b : Bool} {A B : Prop} (e : b = false) (k : B) : (b = true → A) ∧ (b = false → B) := by
  subst e
  exact ⟨fun z => absurd z (by decide), fun _ => k⟩
theorem if_d {p : Prop} [Decidable p] {A B : Prop} (a : p → A) (b : ¬ p → B) : (decide p = true → A) ∧ (decide p = false → B) := ⟨fun z => a (of_decide_eq_true z), fun z => b (of_decide_eq_false z)⟩
theorem if_n {p : Prop} [Decidable p] {A B : Prop} (a : ¬ p → A) (b : p → B) : ((!decide p) = true → A) ∧ ((!decide p) = false → B) := ⟨fun z => a (by simpa using z), fun z => b (by simpa using z)⟩
end DL

set_option Elab.async false
set_option linter.all false
set_option maxRecDepth 100000
set_option maxHeartbeats 2000000
/-! More steps. -/
namespace DL
open PySem L2 NdefX LamX
theorem Sep.perm {h0 h : HU} {l l' : List (Addr × UO)} (S : Sep h0 l h) (p : l.Perm l') : Sep h0 l' h := by
  refine ⟨fun a o m => S.at_ a o (p.mem_iff.mpr m), (p.map _).nodup_iff.mp S.nd, S.fr, fun x hx => S.out x (p.mem_iff.mpr hx)⟩
/-- the first thing, put last -/
theorem Sep.last {h0 h : HU} {x : Addr × UO} {l : List (Addr × UO)} (S : Sep h0 (x :: l) h) : Sep h0 (l ++ [x]) h := S.perm (List.perm_append_comm (l₁ := [x]) (l₂ := l))
theorem Sep.drop {h0 h : HU} {l m : List (Addr × UO)} (S : Sep h0 (l ++ m) h) : Sep h0 l h := by
  refine ⟨fun a o e => S.at_ a o (List.mem_append_left _ e), ?_, S.fr, fun x hx => S.out x (List.mem_append_left _ hx)⟩
  have := S.nd
  rw [List.map_append] at this
  exact (List.nodup_append.mp this).1
/-- nothing told of -/
theorem Sep.none {h0 h : HU} {l : List (Addr × UO)} (S : Sep h0 l h) : Sep h0 [] h := Sep.drop (l := []) S
section
variable {s : SU} {h : HU} {Q : DV} {p : Addr} {us ws : List U} {i : Int}
theorem v_dict0 (k : kNew (.dK []) Q h) : dDict0 s h Q := k
theorem v_tupF {t : DA} (k : t s h fun us h1 => us.length ≤ sizeLine ∧ Q (.ft us) h1) : dTupF t s h Q := k
theorem v_slF {te : DE} {tl th : DO} (k : te s h fun x h1 => tl s h1 fun lo h2 => th s h2 fun hi h3 => oSlF x lo hi h3 Q) : dSlF te tl th s h Q := k
theorem t_slF {lo hi : Option Int} (n : ¬ (HT.sIx us.length 0 lo = 0 ∧ HT.sIx us.length us.length hi = us.length)) (k : Q (.ft (cutU us lo hi)) h) : oSlF (.tup us) lo hi h Q := ⟨us, .inl rfl, n, k⟩
theorem ft_add (l : us.length + ws.length ≤ sizeLine) (k : Q (.ft (us ++ ws)) h) : oAddF (.ft us) (.ft ws) h Q := ⟨l, k⟩
def kTix (te : DE) (s : SU) (Q : DV) : DV := fun x h1 => (∃ us, x = .ft us) ∧ te s h1 fun y h2 => ∃ ys : List Str, ∃ z j, x = .ft (ys.map U.str) ∧ y = .str z ∧ ys[j]? = some z ∧ (∀ m, m < j → ys[m]? ≠ some z) ∧ Q (.int (j : Nat)) h2
theorem v_tix {to te : DE} (k : to s h (kTix te s Q)) : dTix to te s h Q := k
theorem k_tix {te : DE} (k : te s h fun y h2 => ∃ ys : List Str, ∃ z j, U.ft us = .ft (ys.map U.str) ∧ y = .str z ∧ ys[j]? = some z ∧ (∀ m, m < j → ys[m]? ≠ some z) ∧ Q (.int (j : Nat)) h2) : kTix te s Q (.ft us) h := ⟨⟨us, rfl⟩, k⟩
theorem l_tupleF (e : lstU h p = some us) (k : Q (.ft us) h) : cTupleF [.ref p] h Q := by
  unfold cTupleF
  simp only [e]
  exact k
theorem l_sortDI {kvs : List (Key × U)} (ks : List Int) (e : h p = some (.dK kvs)) (ek : kvs.map (·.1) = ks.map Sum.inl) (hl : ks.length < 64) (k : ∀ ys : List Int, ys.Perm ks → ys.Pairwise (· ≤ ·) → kNew (.lst (ys.map U.int)) Q h) : cSortDI [.ref p] h Q := by
  unfold cSortDI
  simp only [e]
  exact ⟨ks, ek, hl, k⟩
theorem t_mul {n : Int} (ne : us ≠ []) (a : 2 ≤ n) (b : n ≤ 1000) (l : us.length ≤ 1000) (k : Q (.tup (List.replicate n.toNat us).flatten) h) : oMulT (.tup us) (.int n) h Q := ⟨ne, a, b, l, k⟩
theorem l_mul {g0 : HU} {l : List (Addr × UO)} {n : Int} (S : Sep g0 l h) (j : Nat) (e : l[j]? = some (p, .lst us)) (a : -9223372036854775808 ≤ n) (b : n < 9223372036854775808) (hl : us.length * n.toNat ≤ sizeLine) (k : kNew (.lst (List.replicate n.toNat us).flatten) Q h) : oMul (.ref p) (.int n) h Q := by
  unfold oMul
  simp only [S.get j e]
  exact ⟨a, b, hl, k⟩
def kSSI (Q : DV) : DV := fun x h1 => (∀ z, x ≠ .str z) ∧ ∃ ys ns, ∃ B : List Int, srcU h1 x = some ys ∧ intsU ys = some ns ∧ ns.length ≤ 1000 ∧ B.length < 64 ∧ (∀ n ∈ ns, n ∈ B) ∧
  ∀ ns' : List Int, ns'.Nodup → (∀ y, y ∈ ns' ↔ y ∈ ns) → ns'.Pairwise (· ≤ ·) → ∀ r, h1 r = Option.none → Q (.ref r) (updU h1 r (.lst (ns'.map U.int)))
theorem v_sortSetI {te : DE} (k : te s h (kSSI Q)) : dSortSetI te s h Q := k
theorem intsU_int : ∀ l : List Int, intsU (l.map U.int) = some l
  | [] => rfl
  | x :: l => by
    rw [List.map_cons]
    show (intsU (l.map U.int)).map (x :: ·) = _
    rw [intsU_int l]
    rfl
theorem k_ssi (l B : List Int) (e : lstU h p = some (l.map U.int)) (hl : l.length ≤ 1000) (hB : B.length < 64) (hs : ∀ n ∈ l, n ∈ B) (k : ∀ ns : List Int, ns.Nodup → (∀ y, y ∈ ns ↔ y ∈ l) → ns.Pairwise (· ≤ ·) → kNew (.lst (ns.map U.int)) Q h) : kSSI Q (.ref p) h :=
  ⟨fun z ez => (nomatch ez), _, l, B, e, intsU_int l, hl, hB, hs, k⟩
theorem flat_bl (l : List Bool) : (l.map U.bl).all flatU = true := by
  rw [List.all_map]
  exact List.all_eq_true.mpr fun _ _ => rfl
theorem inF_bl {x : Bool} {l : List Bool} : inF (.bl x) (l.map U.bl) = decide (x ∈ l) := by
  unfold inF
  rw [Bool.eq_iff_iff, List.any_map, List.any_eq_true, decide_eq_true_iff]
  constructor
  · rintro ⟨y, hy, e⟩
    have : (y == x) = true := e
    rw [← beq_iff_eq.mp this]
    exact hy
  · intro hx
    exact ⟨x, hx, (beq_self_eq_true x : (x == x) = true)⟩
theorem enu_map {α : Type} (f : α → U) : ∀ (l : List α) (k : Nat), enuU k (l.map f) = (l.zipIdx k).map fun p => U.tup [.int (p.2 : Nat), f p.1]
  | [], k => rfl
  | x :: l, k => by
    rw [List.map_cons, List.zipIdx_cons, List.map_cons, ← enu_map f l (k + 1)]
    rfl
variable {RI : List U → (HU → Prop) → HU → Prop}
def kEnu (RI : List U → (HU → Prop) → HU → Prop) (us : List U) (h1 : HU) : Prop := match us with
  | [x] => match srcU h1 x with
    | some xs => RI (enuU 0 xs) (fun h2 => srcU h2 x = some xs) h1
    | _ => False
  | _ => False
theorem w_enu {t : DA} (k : t s h (kEnu RI)) : iEnu t s h RI := k
theorem k_enu {x : U} (a : srcU h x = some us) (k : RI (enuU 0 us) (fun h2 => srcU h2 x = some us) h) : kEnu RI [x] h := by
  unfold kEnu
  simp only [a]
  exact k
def kRng2 (RI : List U → (HU → Prop) → HU → Prop) (us : List U) (h1 : HU) : Prop := match us with
  | [.int i, .int j] => (-(2 ^ 62) ≤ i ∧ i < 2 ^ 62 ∧ -(2 ^ 62) ≤ j ∧ j < 2 ^ 62) ∧ RI (rngU i (j - i).toNat) (fun _ => True) h1
  | _ => False
theorem w_rng2 {t : DA} (k : t s h (kRng2 RI)) : iRng2 t s h RI := k
theorem k_rng2 {i j : Int} (a : -4611686018427387904 ≤ i) (b : i < 4611686018427387904) (c : -4611686018427387904 ≤ j) (d : j < 4611686018427387904) (k : RI (rngU i (j - i).toNat) (fun _ => True) h) : kRng2 RI [.int i, .int j] h := ⟨⟨a, b, c, d⟩, k⟩
theorem i_shl {i j : Int} (c : CPow i j) (k : Q (.int (i * 2 ^ j.toNat)) h) : oShl (.int i) (.int j) h Q := ⟨c, k⟩
theorem rng_mapi (i : Int) (n : Nat) : rngU i n = (List.range n).map fun (k : Nat) => U.int (i + k) := rfl
end
end DL

set_option Elab.async false
set_option linter.all false
/-! Growth: the rooms that come up from a first one. Plain Lean. -/
namespace KG
variable {R : Type} [DecidableEq R]
def ixOf : List R → R → Option Nat
  | [], _ => none
  | x :: l, r => if x = r then some 0 else (ixOf l r).map (· + 1)
theorem ixOf_some : ∀ {l : List R} {r : R} {i : Nat}, ixOf l r = some i → l[i]? = some r
  | [], _, _, h => nomatch h
  | x :: l, r, i, h => by
    unfold ixOf at h
    split at h
    · rename_i e
      cases h
      simp [e]
    · obtain ⟨j, ej, rfl⟩ := Option.map_eq_some_iff.mp h
      simpa using ixOf_some ej
theorem ixOf_none : ∀ {l : List R} {r : R}, ixOf l r = none → r ∉ l
  | [], _, _ => by simp
  | x :: l, r, h => by
    unfold ixOf at h
    split at h
    · cases h
    · rename_i n
      intro m
      rcases List.mem_cons.mp m with e | e
      · exact n e.symm
      · exact ixOf_none (by simpa using h) e
theorem ixOf_at : ∀ {l : List R} {r : R} {i : Nat}, l.Nodup → l[i]? = some r → ixOf l r = some i
  | [], _, _, _, h => by simp at h
  | x :: l, r, 0, _, h => by
    have e : x = r := by simpa using h
    unfold ixOf
    rw [if_pos e]
  | x :: l, r, i + 1, nd, h => by
    obtain ⟨a, b⟩ := List.nodup_cons.mp nd
    have h' : l[i]? = some r := by simpa using h
    unfold ixOf
    rw [if_neg (fun e => a (by rw [e]; exact List.mem_of_getElem? h')), ixOf_at b h']
    rfl
theorem ixOf_lt {l : List R} {r : R} {i : Nat} (h : ixOf l r = some i) : i < l.length := by
  have := ixOf_some h
  exact (List.getElem?_eq_some_iff.mp this).1
def stepK (f : R → Nat → R) (room : R) (p : List R × List Nat) (k : Nat) : List R × List Nat := match ixOf p.1 (f room k) with
  | some i => (p.1, p.2 ++ [i])
  | none => (p.1 ++ [f room k], p.2 ++ [p.1.length])
def rowTo (f : R → Nat → R) (room : R) (came : List R) (n : Nat) : List R × List Nat := (List.range n).foldl (stepK f room) (came, [])
theorem rowTo_zero {f : R → Nat → R} {room : R} {came : List R} : rowTo f room came 0 = (came, []) := rfl
theorem rowTo_succ {f : R → Nat → R} {room : R} {came : List R} {n : Nat} : rowTo f room came (n + 1) = stepK f room (rowTo f room came n) n := by
  unfold rowTo
  rw [List.range_succ, List.foldl_append]
  rfl
/-- what holds of a row as it is made -/
structure RowI (f : R → Nat → R) (room : R) (came : List R) (n : Nat) (p : List R × List Nat) : Prop where
  ext : ∃ more, p.1 = came ++ more ∧ more.length ≤ n
  nd : came.Nodup → p.1.Nodup
  len : p.2.length = n
  is : ∀ k, k < n → ∃ i, p.2[k]? = some i ∧ p.1[i]? = some (f room k)
  from_ : ∀ r ∈ p.1, r ∈ came ∨ ∃ k, k < n ∧ r = f room k
theorem get_app {R : Type} {l m : List R} {i : Nat} {r : R} (h : l[i]? = some r) : (l ++ m)[i]? = some r := by
  rw [List.getElem?_append_left (List.getElem?_eq_some_iff.mp h).1]
  exact h
theorem rowI (f : R → Nat → R) (room : R) (came : List R) : ∀ n, RowI f room came n (rowTo f room came n)
  | 0 => ⟨⟨[], by simp [rowTo_zero], Nat.le_refl _⟩, fun h => h, rfl, fun k h => absurd h (Nat.not_lt_zero _), fun r h => .inl h⟩
  | n + 1 => by
    obtain ⟨⟨more, e, l⟩, nd, len, is, fr⟩ := rowI f room came n
    rw [rowTo_succ]
    unfold stepK
    split
    · rename_i i hi
      refine ⟨⟨more, e, by omega⟩, nd, by simp [len], fun k hk => ?_, fun r hr => ?_⟩
      · by_cases h : k < n
        · obtain ⟨j, e1, e2⟩ := is k h
          exact ⟨j, get_app e1, e2⟩
        · have ek : k = n := by omega
          subst ek
          exact ⟨i, by show (_ ++ [i])[k]? = _; rw [List.getElem?_append_right (by omega)]; simp [len], ixOf_some hi⟩
      · rcases fr r hr with h | ⟨k, h1, h2⟩
        · exact .inl h
        · exact .inr ⟨k, by omega, h2⟩
    · rename_i hi
      refine ⟨⟨more ++ [f room n], by show _ ++ _ = _; rw [e, List.append_assoc], by simp; omega⟩, fun h => ?_, by simp [len], fun k hk => ?_, fun r hr => ?_⟩
      · show (_ ++ [_]).Nodup
        rw [List.nodup_append]
        refine ⟨nd h, by simp, fun a ha b hb => ?_⟩
        rw [List.mem_singleton.mp hb]
        exact fun z => ixOf_none hi (z ▸ ha)
      · by_cases h : k < n
        · obtain ⟨j, e1, e2⟩ := is k h
          exact ⟨j, get_app e1, get_app e2⟩
        · have ek : k = n := by omega
          subst ek
          refine ⟨(rowTo f room came k).1.length, ?_, ?_⟩
          · show (_ ++ [_])[k]? = _
            rw [List.getElem?_append_right (by omega)]
            simp [len]
          · show (_ ++ [_])[_]? = _
            rw [List.getElem?_append_right (Nat.le_refl _)]
            simp
      · rcases List.mem_append.mp hr with h | h
        · rcases fr r h with h | ⟨k, h1, h2⟩
          · exact .inl h
          · exact .inr ⟨k, by omega, h2⟩
        · exact .inr ⟨n, by omega, List.mem_singleton.mp h⟩
abbrev Res (R : Type) := Option (List R × List (List Nat))
/-- how the growth goes on, and what it comes to -/
inductive GrowR (f : R → Nat → R) (many : Nat) (most : Int) : List R → List (List Nat) → Res R → Prop
  | done {came moves} : came[moves.length]? = none → GrowR f many most came moves (some (came, moves))
  | over {came moves room} : came[moves.length]? = some room → most < ((rowTo f room came many).1.length : Int) → GrowR f many most came moves none
  | step {came moves room res} : came[moves.length]? = some room → ((rowTo f room came many).1.length : Int) ≤ most → GrowR f many most (rowTo f room came many).1 (moves ++ [(rowTo f room came many).2]) res → GrowR f many most came moves res
section
variable {f : R → Nat → R} {many : Nat} {most : Int}
theorem GrowR.len_le {c : List R} {m : List (List Nat)} {res : Res R} (g : GrowR f many most c m res) : ∀ {came moves}, res = some (came, moves) → c.length ≤ came.length := by
  induction g with
  | done h => intro came moves e; cases e; exact Nat.le_refl _
  | over h l => intro came moves e; cases e
  | @step c m room res h l g ih =>
    intro came moves e
    have := ih e
    obtain ⟨more, e2, _⟩ := (rowI f room c many).ext
    rw [e2, List.length_append] at this
    omega
/-- with another bound -/
theorem GrowR.other {c : List R} {m : List (List Nat)} {res : Res R} (g : GrowR f many most c m res) : ∀ {came moves}, res = some (came, moves) → ∀ {most' : Int} {res' : Res R}, GrowR f many most' c m res' →
    ((came.length : Int) ≤ most' → res' = some (came, moves)) ∧ (most' < (came.length : Int) → m.length < c.length → res' = none) := by
  induction g with
  | done h =>
    intro came moves e most' res' g'
    cases e
    refine ⟨fun hl => ?_, fun hl hm => ?_⟩
    · cases g' with
      | done _ => rfl
      | over h' _ => rw [h] at h'; cases h'
      | step h' _ _ => rw [h] at h'; cases h'
    · exact absurd hm (by
        have := List.getElem?_eq_none_iff.mp h
        omega)
  | over h l => intro came moves e; cases e
  | @step c m room res h l g ih =>
    intro came moves e most' res' g'
    have le := g.len_le e
    cases g' with
    | done h' => rw [h] at h'; cases h'
    | over h' l' =>
      rw [h] at h'
      cases h'
      refine ⟨fun hl => ?_, fun _ _ => rfl⟩
      have le' : ((rowTo f room c many).1.length : Int) ≤ came.length := by exact_mod_cast le
      omega
    | step h' l' g' =>
      rw [h] at h'
      cases h'
      obtain ⟨a, b⟩ := ih e g'
      refine ⟨a, fun hl _ => b hl ?_⟩
      -- not done yet
      cases g with
      | done h2 =>
        cases e
        exact absurd hl (by omega)
      | over h2 _ => exact (List.getElem?_eq_some_iff.mp h2).1
      | step h2 _ _ => exact (List.getElem?_eq_some_iff.mp h2).1
/-- what holds all along -/
structure GI (f : R → Nat → R) (many : Nat) (c : List R) (m : List (List Nat)) : Prop where
  nd : c.Nodup
  le : m.length ≤ c.length
  row : ∀ i, i < m.length → ∃ l, m[i]? = some l ∧ l.length = many ∧ ∀ r, c[i]? = some r → ∀ k, k < many → ∃ j, l[k]? = some j ∧ c[j]? = some (f r k)
theorem GI.start {r : R} : GI f many [r] [] := ⟨by simp, by simp, fun i h => absurd h (Nat.not_lt_zero _)⟩
theorem GI.step {c : List R} {m : List (List Nat)} {room : R} (g : GI f many c m) (h : c[m.length]? = some room) : GI f many (rowTo f room c many).1 (m ++ [(rowTo f room c many).2]) := by
  obtain ⟨⟨more, e, _⟩, nd, len, is, fr⟩ := rowI f room c many
  have hl := (List.getElem?_eq_some_iff.mp h).1
  refine ⟨nd g.nd, by rw [e]; simp; omega, fun i hi => ?_⟩
  by_cases q : i < m.length
  · obtain ⟨l, e1, e2, e3⟩ := g.row i q
    refine ⟨l, get_app e1, e2, fun r hr k hk => ?_⟩
    have hr' : c[i]? = some r := by
      rw [e, List.getElem?_append_left (by omega)] at hr
      exact hr
    obtain ⟨j, j1, j2⟩ := e3 r hr' k hk
    exact ⟨j, j1, by rw [e]; exact get_app j2⟩
  · have ei : i = m.length := by
      rw [List.length_append] at hi
      simp at hi
      omega
    subst ei
    refine ⟨_, by rw [List.getElem?_append_right (Nat.le_refl _)]; simp, len, fun r hr k hk => ?_⟩
    have : r = room := by
      rw [e, List.getElem?_append_left hl, h] at hr
      exact (Option.some.inj hr).symm
    subst this
    exact is k hk
theorem nodup_sub : ∀ {l m : List R}, l.Nodup → (∀ x ∈ l, x ∈ m) → l.length ≤ m.length
  | [], _, _, _ => Nat.zero_le _
  | x :: l, m, nd, h => by
    obtain ⟨a, b⟩ := List.nodup_cons.mp nd
    have hx := h x List.mem_cons_self
    have := nodup_sub (m := m.erase x) b fun y hy => (List.mem_erase_of_ne (fun (z : y = x) => a (z ▸ hy))).mpr (h y (List.mem_cons_of_mem _ hy))
    rw [List.length_erase_of_mem hx] at this
    have : 0 < m.length := List.length_pos_of_mem hx
    rw [List.length_cons]
    omega
/-- what comes up lies in a set that is closed -/
theorem GrowR.closed {S : R → Prop} (hS : ∀ r, S r → ∀ k, k < many → S (f r k)) {c : List R} {m : List (List Nat)} {res : Res R} (g : GrowR f many most c m res) : GI f many c m → (∀ r ∈ c, S r) →
    (∀ came moves, res = some (came, moves) → GI f many came moves ∧ moves.length = came.length ∧ (∀ r ∈ came, S r) ∧ (∃ more, came = c ++ more) ∧ (m.length < c.length → (came.length : Int) ≤ most)) := by
  induction g with
  | @done c m h =>
    intro gi hc came moves e
    cases e
    have := List.getElem?_eq_none_iff.mp h
    exact ⟨gi, by have := gi.le; omega, hc, ⟨[], by simp⟩, fun q => by omega⟩
  | over h l => intro gi hc came moves e; cases e
  | @step c m room res h l g ih =>
    intro gi hc came moves e
    have ri := rowI f room c many
    have hr : S room := hc room (List.mem_of_getElem? h)
    have hc' : ∀ r ∈ (rowTo f room c many).1, S r := fun r hr' => by
      rcases ri.from_ r hr' with q | ⟨k, h1, h2⟩
      · exact hc r q
      · rw [h2]
        exact hS room hr k h1
    obtain ⟨a, b, d, ⟨more, ex⟩, lz⟩ := ih (gi.step h) hc' came moves e
    obtain ⟨more0, e0, _⟩ := ri.ext
    refine ⟨a, b, d, ⟨more0 ++ more, by rw [ex, e0, List.append_assoc]⟩, fun _ => ?_⟩
    by_cases q : (m ++ [(rowTo f room c many).2]).length < (rowTo f room c many).1.length
    · exact lz q
    · -- done at once
      cases g with
      | done h2 =>
        cases e
        exact l
      | over h2 _ => exact absurd (List.getElem?_eq_some_iff.mp h2).1 q
      | step h2 _ _ => exact absurd (List.getElem?_eq_some_iff.mp h2).1 q
theorem GrowR.some_of {S : List R} (hS : ∀ r ∈ S, ∀ k, k < many → f r k ∈ S) (hl : (S.length : Int) ≤ most) {c : List R} {m : List (List Nat)} {res : Res R} (g : GrowR f many most c m res) : GI f many c m → (∀ r ∈ c, r ∈ S) → ∃ came moves, res = some (came, moves) := by
  induction g with
  | @done c m h => intro _ _; exact ⟨_, _, rfl⟩
  | @over c m room h l =>
    intro gi hc
    exfalso
    have ri := rowI f room c many
    have hr : room ∈ S := hc room (List.mem_of_getElem? h)
    have := nodup_sub (ri.nd gi.nd) (fun r hr' => by
      rcases ri.from_ r hr' with q | ⟨k, h1, h2⟩
      · exact hc r q
      · rw [h2]
        exact hS room hr k h1)
    omega
  | @step c m room res h l g ih =>
    intro gi hc
    have ri := rowI f room c many
    have hr : room ∈ S := hc room (List.mem_of_getElem? h)
    exact ih (gi.step h) (fun r hr' => by
      rcases ri.from_ r hr' with q | ⟨k, h1, h2⟩
      · exact hc r q
      · rw [h2]
        exact hS room hr k h1)
end
/-! ### two rings -/
def pr (m : Nat) (i : Nat) : Nat × Nat := (i % m, i % (m + 1))
theorem pr_inj {m : Nat} (h : m = 43 ∨ m = 44 ∨ m = 45) {i j : Nat} (hi : i < m * (m + 1)) (hj : j < m * (m + 1)) (e : pr m i = pr m j) : i = j := by
  unfold pr at e
  simp only [Prod.mk.injEq] at e
  obtain ⟨e1, e2⟩ := e
  rcases h with rfl | rfl | rfl <;> omega
theorem pr_zero {m : Nat} : pr m (m * (m + 1)) = pr m 0 := by
  unfold pr
  simp
theorem prs_nodup {m : Nat} (h : m = 43 ∨ m = 44 ∨ m = 45) {n : Nat} (hn : n ≤ m * (m + 1)) : ((List.range n).map (pr m)).Nodup := by
  rw [List.Nodup, List.pairwise_map]
  refine List.Pairwise.imp_of_mem (fun {a b} ha hb hab => ?_) (List.nodup_range (n := n))
  intro z
  exact hab (pr_inj h (by have := List.mem_range.mp ha; omega) (by have := List.mem_range.mp hb; omega) z)
theorem ring_row {f : Nat × Nat → Nat → Nat × Nat} {m : Nat} (h0 : ∀ i, f (pr m i) 0 = pr m i) (h1 : ∀ i, f (pr m i) 1 = pr m (i + 1)) (h : m = 43 ∨ m = 44 ∨ m = 45) {j : Nat} (hj : j + 1 ≤ m * (m + 1)) :
    (rowTo f (pr m j) ((List.range (j + 1)).map (pr m)) 2).1 = (List.range (min (j + 2) (m * (m + 1)))).map (pr m) := by
  have hm : 0 < m := by omega
  have nd := prs_nodup h hj
  have at0 : ((List.range (j + 1)).map (pr m))[j]? = some (pr m j) := by
    rw [List.getElem?_map, List.getElem?_range (by omega)]
    rfl
  have e0 := h0 j
  have s0 : rowTo f (pr m j) ((List.range (j + 1)).map (pr m)) 1 = ((List.range (j + 1)).map (pr m), [j]) := by
    rw [rowTo_succ, rowTo_zero]
    unfold stepK
    rw [e0, ixOf_at nd at0]
    rfl
  rw [rowTo_succ, s0]
  unfold stepK
  rw [h1 j]
  by_cases q : j + 1 < m * (m + 1)
  · have ne : ixOf ((List.range (j + 1)).map (pr m)) (pr m (j + 1)) = none := by
      cases z : ixOf ((List.range (j + 1)).map (pr m)) (pr m (j + 1)) with
      | none => rfl
      | some i =>
        have := ixOf_some z
        rw [List.getElem?_map] at this
        obtain ⟨i', e1, e2⟩ := Option.map_eq_some_iff.mp this
        obtain ⟨hi, e3⟩ := List.getElem?_eq_some_iff.mp e1
        rw [List.getElem_range] at e3
        rw [List.length_range] at hi
        subst e3
        have := pr_inj h (by omega) q e2
        omega
    rw [ne]
    show _ ++ [_] = _
    rw [Nat.min_eq_left (by omega), List.range_succ (n := j + 1), List.map_append]
    rfl
  · have ej : j + 1 = m * (m + 1) := by omega
    have at1 : ((List.range (j + 1)).map (pr m))[0]? = some (pr m (j + 1)) := by
      rw [List.getElem?_map, List.getElem?_range (by omega), ej, pr_zero]
      rfl
    rw [ixOf_at nd at1]
    show List.map _ _ = _
    rw [Nat.min_eq_right (by omega), ej]
theorem ring_grow {f : Nat × Nat → Nat → Nat × Nat} {m : Nat} (h0 : ∀ i, f (pr m i) 0 = pr m i) (h1 : ∀ i, f (pr m i) 1 = pr m (i + 1)) (h : m = 43 ∨ m = 44 ∨ m = 45) {c : List (Nat × Nat)} {mv : List (List Nat)} {res : Res (Nat × Nat)} (g : GrowR f 2 2000 c mv res) :
    ∀ j, mv.length = j → j ≤ m * (m + 1) → c = (List.range (min (j + 1) (m * (m + 1)))).map (pr m) → (0 < j → min (j + 1) (m * (m + 1)) ≤ 2000) → (m * (m + 1) > 2000 → res = none) ∧ (m * (m + 1) ≤ 2000 → ∃ came moves, res = some (came, moves) ∧ came.length = m * (m + 1) ∧ moves.length = m * (m + 1)) := by
  have hm : 0 < m * (m + 1) := by rcases h with rfl | rfl | rfl <;> decide
  induction g with
  | @done c mv hd =>
    intro j ej hj ec hb
    have z := List.getElem?_eq_none_iff.mp hd
    rw [ec, List.length_map, List.length_range] at z
    have : j = m * (m + 1) := by omega
    refine ⟨fun hb' => ?_, fun hl => ⟨_, _, rfl, ?_, by omega⟩⟩
    · have := hb (by omega)
      omega
    · rw [ec, List.length_map, List.length_range]
      omega
  | @over c mv room hr l =>
    intro j ej hj ec hb
    refine ⟨fun _ => rfl, fun hl => ?_⟩
    have hlt := (List.getElem?_eq_some_iff.mp hr).1
    rw [ec, List.length_map, List.length_range] at hlt
    have hj' : j + 1 ≤ m * (m + 1) := by omega
    have er : room = pr m j := by
      rw [ec, ej, List.getElem?_map, List.getElem?_range (by omega)] at hr
      exact (Option.some.inj hr).symm
    rw [er, ec, Nat.min_eq_left hj', ring_row h0 h1 h hj', List.length_map, List.length_range] at l
    omega
  | @step c mv room res hr l g ih =>
    intro j ej hj ec hb
    have hlt := (List.getElem?_eq_some_iff.mp hr).1
    rw [ec, List.length_map, List.length_range] at hlt
    have hj' : j + 1 ≤ m * (m + 1) := by omega
    have er : room = pr m j := by
      rw [ec, ej, List.getElem?_map, List.getElem?_range (by omega)] at hr
      exact (Option.some.inj hr).symm
    have e1 : (rowTo f room c 2).1 = (List.range (min (j + 2) (m * (m + 1)))).map (pr m) := by
      rw [er, ec, Nat.min_eq_left hj']
      exact ring_row h0 h1 h hj'
    rw [e1, List.length_map, List.length_range] at l
    exact ih (j + 1) (by simp [ej]) hj' e1 fun _ => by omega
end KG

set_option Elab.async false
set_option linter.all false
set_option maxRecDepth 100000
set_option maxHeartbeats 2000000
namespace DL
open PySem L2 NdefX LamX
local macro_rules | `(tactic| infer_instance) => `(tactic| with_reducible first | exact subS_nil | refine subS_same ?_ | refine subS_none ?_ | refine s_seq ?_ | refine s_asg ?_ | refine s_if ?_ | refine s_ret ?_ | refine s_retN ?_ | refine s_drop ?_ | refine s_for ?_ | refine s_next ?_ | refine s_break ?_ | refine s_cont ?_ | refine v_c ?_ | refine v_op ?_ | refine v_un ?_ | refine v_if ?_ | refine v_nil ?_ | refine v_cons ?_ | refine v_CB ?_ | refine v_BM0 ?_ | refine v_BM ?_ | refine v_call ?_ | refine v_B ?_ | refine k_bl ?_ | refine v_and ?_ | refine v_or ?_ | refine v_not ?_ | refine v_yes ?_ | refine v_andV ?_ | refine v_orV ?_ | refine k_and ?_ | refine k_or ?_ | refine v_rNot ?_ | refine w_any ?_ | refine k_anyT ?_ | refine k_anyS ?_ | refine w_rng1 ?_ | refine w_zip ?_ | refine v_lc ?_ | refine v_lst ?_ | refine v_rev ?_ | refine v_revS ?_ | refine v_noP ?_ | refine v_part ?_ | refine k_part ?_ | refine v_sl ?_ | refine t_sl ?_ | refine t_list ?_ | refine k_isT ?_ | refine g_sb ?_ | refine v_kv0 ?_ | refine v_kv ?_ | refine v_dis ?_ | refine v_disT ?_ | refine i_add ?_ | refine i_sub ?_ | refine i_neg ?_ | refine i_lt ?_ | refine i_le ?_ | refine i_gt ?_ | refine i_ge ?_ | refine i_eq ?_ | refine i_ne ?_ | refine s_eq ?_ | refine s_ne ?_ | refine b_eq ?_ | refine b_ne ?_ | refine n_is ?_ | refine n_not ?_ | refine t_len ?_ | refine t_tuple ?_ | refine i_abs ?_ | refine i_int ?_ | refine b_int ?_ | refine g_unp ?_ | refine g_nms0 ?_ | refine g_nmsS ?_ | refine g_nm0 ?_  | refine g_nm1 ?_  | refine g_nm2 ?_  | refine g_nm3 ?_  | refine g_nm4 ?_  | refine g_nm5 ?_  | refine g_nm6 ?_  | refine g_nm7 ?_  | refine g_nm8 ?_  | refine g_nm9 ?_  | refine g_nm10 ?_  | refine g_nm11 ?_  | refine g_nm12 ?_  | refine g_nm13 ?_  | refine g_nm14 ?_  | refine g_nm15 ?_  | refine g_nm16 ?_  | refine g_nm17 ?_  | refine g_nm18 ?_  | refine g_nm19 ?_  | refine g_nm20 ?_  | refine g_nm21 ?_  | refine g_nm22 ?_  | refine g_nm23 ?_  | refine g_nm24 ?_  | refine g_nm25 ?_  | refine g_nm26 ?_  | refine g_nm27 ?_  | refine g_nm28 ?_  | refine g_nm29 ?_  | refine g_nm30 ?_  | refine g_nm31 ?_)
local macro_rules | `(tactic| infer_instance) => `(tactic| first | ((with_reducible apply v_var); rfl) | ((with_reducible apply t_ix); rfl) | ((with_reducible apply l_len); (first | exact Sep.lget ‹_› 0 rfl | exact Sep.lget ‹_› 1 rfl | exact Sep.lget ‹_› 2 rfl | exact Sep.lget ‹_› 3 rfl | exact Sep.lget ‹_› 4 rfl | exact Sep.lget ‹_› 5 rfl | exact Sep.lget ‹_› 6 rfl | exact Sep.lget ‹_› 7 rfl))  | ((with_reducible apply l_tuple); (first | exact Sep.lget ‹_› 0 rfl | exact Sep.lget ‹_› 1 rfl | exact Sep.lget ‹_› 2 rfl | exact Sep.lget ‹_› 3 rfl | exact Sep.lget ‹_› 4 rfl | exact Sep.lget ‹_› 5 rfl | exact Sep.lget ‹_› 6 rfl | exact Sep.lget ‹_› 7 rfl))  | ((with_reducible apply k_anyL); (first | exact Sep.lget ‹_› 0 rfl | exact Sep.lget ‹_› 1 rfl | exact Sep.lget ‹_› 2 rfl | exact Sep.lget ‹_› 3 rfl | exact Sep.lget ‹_› 4 rfl | exact Sep.lget ‹_› 5 rfl | exact Sep.lget ‹_› 6 rfl | exact Sep.lget ‹_› 7 rfl)) | ((with_reducible apply k_isL); (first | exact Sep.lget ‹_› 0 rfl | exact Sep.lget ‹_› 1 rfl | exact Sep.lget ‹_› 2 rfl | exact Sep.lget ‹_› 3 rfl | exact Sep.lget ‹_› 4 rfl | exact Sep.lget ‹_› 5 rfl | exact Sep.lget ‹_› 6 rfl | exact Sep.lget ‹_› 7 rfl))  | ((with_reducible apply l_list); (first | exact Sep.lget ‹_› 0 rfl | exact Sep.lget ‹_› 1 rfl | exact Sep.lget ‹_› 2 rfl | exact Sep.lget ‹_› 3 rfl | exact Sep.lget ‹_› 4 rfl | exact Sep.lget ‹_› 5 rfl | exact Sep.lget ‹_› 6 rfl | exact Sep.lget ‹_› 7 rfl))  | ((with_reducible apply k_rev); (first | exact Sep.lget ‹_› 0 rfl | exact Sep.lget ‹_› 1 rfl | exact Sep.lget ‹_› 2 rfl | exact Sep.lget ‹_› 3 rfl | exact Sep.lget ‹_› 4 rfl | exact Sep.lget ‹_› 5 rfl | exact Sep.lget ‹_› 6 rfl | exact Sep.lget ‹_› 7 rfl))  | ((with_reducible apply l_sl); (first | exact Sep.lget ‹_› 0 rfl | exact Sep.lget ‹_› 1 rfl | exact Sep.lget ‹_› 2 rfl | exact Sep.lget ‹_› 3 rfl | exact Sep.lget ‹_› 4 rfl | exact Sep.lget ‹_› 5 rfl | exact Sep.lget ‹_› 6 rfl | exact Sep.lget ‹_› 7 rfl)) | (with_reducible refine v_tup ?_) | (with_reducible refine And.intro (szb rfl) ?_) | (dsimp only [wipeU, List.set]))
/-- the slots at a def's start -/
abbrev startN (n : Nat) (us : List U) : SU := us.map some ++ List.replicate (n - us.length) none
/-! ### all letters -/
abbrev tupN (l : List Nat) : U := .tup (l.map fun n => U.int (n : Nat))
def letters (b : Nat) : Nat → List (List Nat)
  | 0 => [[]]
  | m + 1 => (letters b m).flatMap fun l => (List.range b).map fun f => l ++ [f]
theorem letters_len (b : Nat) : ∀ m, (letters b m).length = b ^ m
  | 0 => rfl
  | m + 1 => by
    unfold letters
    rw [List.length_flatMap]
    simp only [List.length_map, List.length_range, List.map_const', List.sum_replicate_nat, letters_len b m, Nat.pow_succ]
theorem letters_all (b : Nat) : ∀ m l, l ∈ letters b m → l.length = m ∧ ∀ f ∈ l, f < b
  | 0, l, h => by
    have : l = [] := by simpa [letters] using h
    subst this
    exact ⟨rfl, fun _ z => nomatch z⟩
  | m + 1, l, h => by
    unfold letters at h
    obtain ⟨l0, h0, h1⟩ := List.mem_flatMap.mp h
    obtain ⟨f, hf, rfl⟩ := List.mem_map.mp h1
    obtain ⟨a, b'⟩ := letters_all b m l0 h0
    refine ⟨by simp [a], fun x hx => ?_⟩
    rcases List.mem_append.mp hx with z | z
    · exact b' x z
    · rw [List.mem_singleton.mp z]
      exact List.mem_range.mp hf
theorem pow_mono {b i m : Nat} (hb : 1 ≤ b) (h : i ≤ m) : b ^ i ≤ b ^ m := Nat.pow_le_pow_right hb h
def sp_all_letters : DP := fun us h q _ => ∃ b m : Nat, us = [.int b, .int m] ∧ 1 ≤ b ∧ m ≤ 64 ∧ b ^ m ≤ 100000 ∧ ∀ r h', Sep h [(r, .lst ((letters b m).map tupN))] h' → q (.ref r) h'
def t_all_letters : DS := dSeq (dAsg (dLst (dCons (dTup (dNil)) (dNil))) (gNm 2))
    (dSeq (dFor (iRng1 (dCons (dVar 1) (dNil))) (gNm 3) (dSeq (dAsg (dLst (dNil)) (gNm 4))
    (dSeq (dFor (iAny (dVar 2)) (gNm 5) (dSeq (dDrop (dBM isLst mExtend (dVar 4) (dCons (dLc (iRng1 (dCons (dVar 0) (dNil))) (gNm 6) dYes (dOp oAdd (dVar 5) (dTup (dCons (dVar 6) (dNil)))) [6]) (dNil))))
    (dNext)))
    (dSeq (dAsg (dVar 4) (gNm 2))
    (dNext)))))
    (dSeq (dRet (dVar 2))
    (dNext)))
theorem p_all_letters {us : List U} {h : HU} {q : DV} {y : DXK} {bk ct : SU → HU → Prop} (hs : sp_all_letters us h q y) : t_all_letters ⟨fun _ h' => WkV q .non h', WkV q, bk, ct⟩ (startN 7 us) h := by
  obtain ⟨b, m, rfl, hb, hm, hp, hq⟩ := hs
  show t_all_letters _ [some (.int b), some (.int m), none, none, none, none, none] h
  unfold t_all_letters
  have S := Sep.nil h
  repeat infer_instance
  refine k_new S fun p h1 S => ?_
  repeat infer_instance
  refine k_rngN (by omega) ?_
  refine f_inv (fun i s h' => ∃ p, s = [some (.int b), some (.int m), some (.ref p), none, none, none, none] ∧ Sep h [(p, .lst ((letters b i).map tupN))] h') ⟨p, rfl, S⟩ (fun _ _ _ _ _ => True.intro) ?_ ?_
  · rintro i u s h1 hi ⟨p, rfl, S⟩
    have hi' : i < m := by
      have := (List.getElem?_eq_some_iff.mp hi).1
      rwa [rng_len] at this
    repeat infer_instance
    refine k_new S fun pm h2 S => ?_
    repeat infer_instance
    refine f_inv (fun j s h' => s = [some (.int b), some (.int m), some (.ref p), some u, some (.ref pm), none, none] ∧ Sep h [(pm, .lst (((letters b i).take j).flatMap fun l => (List.range b).map fun f => tupN (l ++ [f]))), (p, .lst ((letters b i).map tupN))] h') ⟨rfl, S⟩ ?_ ?_ ?_
    · rintro j s h' _ ⟨_, S⟩
      exact S.lget 1 rfl
    · rintro j u' s h3 hj ⟨rfl, S⟩
      rw [List.getElem?_map] at hj
      obtain ⟨l, el, rfl⟩ := Option.map_eq_some_iff.mp hj
      have hlen := (letters_all b i l (List.mem_of_getElem? el)).1
      have hbb : b ≤ 100000 := by
        have := pow_mono hb (show 1 ≤ m by omega)
        rw [Nat.pow_one] at this
        omega
      have hsz := pow_mono hb (show i + 1 ≤ m by omega)
      rw [Nat.pow_succ] at hsz
      have hj2 := (List.getElem?_eq_some_iff.mp el).1
      rw [letters_len] at hj2
      have flen : ∀ j, ((List.take j (letters b i)).flatMap fun l => (List.range b).map fun f => tupN (l ++ [f])).length = ((List.take j (letters b i)).length) * b := fun j => by
        rw [List.length_flatMap]
        simp only [List.length_map, List.length_range, List.map_const', List.sum_replicate_nat]
      repeat infer_instance
      refine k_rngN (by omega) ?_
      refine lc_map (fun f => tupN (l ++ [f])) (by rw [rng_len]; exact szl (by omega)) True.intro (fun k u2 hk C N hC => ?_) ?_
      · have hk2 := (List.getElem?_eq_some_iff.mp hk).1
        rw [rng_len] at hk2
        rw [rng_get _ _ _ hk2] at hk
        cases hk
        repeat infer_instance
        refine if_t rfl ?_
        repeat infer_instance
        unfold tupN
        have hz : (List.map (fun n : Nat => U.int n) l).length + 1 ≤ 16777216 := by
          rw [List.length_map]
          omega
        refine t_add ?_ ?_
        · exact sz hz
        have e : List.map (fun n : Nat => U.int n) l ++ [U.int (0 + (k : Int))] = List.map (fun n : Nat => U.int n) (l ++ [k]) := by simp
        rw [e]
        exact hC
      · refine k_new S fun r h4 S => ?_
        repeat infer_instance
        refine m_ext S 1 0 rfl rfl (sz ?_) fun h5 S => ?_
        · rw [flen, List.length_take, letters_len, List.length_map, List.length_range, rng_len, Nat.min_eq_left (by omega)]
          have : (j + 1) * b ≤ b ^ i * b := Nat.mul_le_mul_right b hj2
          have e : (j + 1) * b = j * b + b := Nat.succ_mul j b
          omega
        · have e : ((letters b i).take (j + 1)).flatMap (fun l => (List.range b).map fun f => tupN (l ++ [f])) = ((letters b i).take j).flatMap (fun l => (List.range b).map fun f => tupN (l ++ [f])) ++ (List.range b).map fun f => tupN (l ++ [f]) := by
            rw [List.take_add_one, el, List.flatMap_append]
            simp
          rw [rng_len] at S
          repeat infer_instance
          refine wk ?_ ⟨rfl, ?_⟩
          · repeat infer_instance
          · rw [e]
            exact S.pick [1, 2]
    · rintro s h3 ⟨rfl, S⟩
      repeat infer_instance
      refine wk ?_ ⟨pm, rfl, ?_⟩
      · repeat infer_instance
      · have e : (letters b (i + 1)).map tupN = ((letters b i).take ((letters b i).map tupN).length).flatMap fun l => (List.range b).map fun f => tupN (l ++ [f]) := by
          rw [List.length_map, List.take_length]
          show (List.flatMap _ _).map tupN = _
          rw [List.map_flatMap]
          simp only [List.map_map]
          rfl
        rw [e]
        exact S.pick [0]
  · rintro s h3 ⟨p, rfl, S⟩
    rw [rng_len] at S
    repeat infer_instance
    exact .of (hq p h3 S)
/-! ### the number of a letter -/
def numL (b : Nat) (l : List Nat) : Nat := l.foldl (fun a f => a * b + f) 0
theorem numL_snoc (b : Nat) (l : List Nat) (f : Nat) : numL b (l ++ [f]) = numL b l * b + f := by
  unfold numL
  rw [List.foldl_append]
  rfl
def sp_number_of_letter : DP := fun us h q _ => ∃ (b : Nat) (x : U) (l : List Nat), us = [.int b, x] ∧ srcU h x = some (l.map fun n => U.int (n : Nat)) ∧ noStr x = true ∧ b < 1000000 ∧ ∀ h', Sep h [] h' → q (.int (numL b l : Nat)) h'
def t_number_of_letter : DS := dSeq (dAsg (dC (.int 0)) (gNm 2))
    (dSeq (dFor (iAny (dVar 1)) (gNm 3) (dSeq (dAsg (dOp oAdd (dOp oMul (dVar 2) (dVar 0)) (dVar 3)) (gNm 2))
    (dNext)))
    (dSeq (dRet (dVar 2))
    (dNext)))
theorem p_number_of_letter {us : List U} {h : HU} {q : DV} {y : DXK} {bk ct : SU → HU → Prop} (hs : sp_number_of_letter us h q y) : t_number_of_letter ⟨fun _ h' => WkV q .non h', WkV q, bk, ct⟩ (startN 4 us) h := by
  obtain ⟨b, x, l, rfl, hx, nx, hb, hq⟩ := hs
  show t_number_of_letter _ [some (.int b), some x, none, none] h
  unfold t_number_of_letter
  have S := Sep.nil h
  repeat infer_instance
  refine k_anyF hx nx (f_invA l _ rfl (fun i s h' => s = [some (.int b), some x, some (.int (numL b (l.take i) : Nat)), none] ∧ Sep h [] h') ⟨rfl, S⟩ (fun _ _ _ z => srcU_mono z.2.fr hx) ?_ ?_)
  · rintro i f ef s h1 ⟨rfl, S⟩
    repeat infer_instance
    refine i_mul (.inr ⟨by omega, by omega⟩) ?_
    repeat infer_instance
    refine wk ?_ ⟨rfl, S⟩
    rw [List.take_add_one, ef]
    show SubS [_, _, some (.int (numL b (l.take i ++ [f]) : Nat)), _] _
    rw [numL_snoc, Int.natCast_add, Int.natCast_mul]
    repeat infer_instance
  · rintro s h1 ⟨rfl, S⟩
    rw [List.take_length]
    repeat infer_instance
    exact .of (hq _ S)
/-! ### the own letters -/
def ownPart (ns os : List Str) (l : List Nat) : List Nat := ((ns.zip l).filter fun p => decide (p.1 ∈ os)).map (·.2)
def ownNums (b : Nat) (ns os : List Str) : List Nat := (letters b ns.length).map fun l => numL b (ownPart ns os l)
def sp_own_letters : DP := fun us h q _ => ∃ (b : Nat) (x : U) (ns os : List Str), us = [.int b, x, .tup (os.map U.str)] ∧ srcU h x = some (ns.map U.str) ∧ noStr x = true ∧ 1 ≤ b ∧ b < 1000000 ∧ ns.length ≤ 64 ∧ b ^ ns.length ≤ 100000 ∧ ∀ r h', Sep h [(r, .lst ((ownNums b ns os).map fun n => U.int (n : Nat)))] h' → q (.ref r) h'
def t_own_letters : DS := dSeq (dAsg (dLst (dNil)) (gNm 3))
    (dSeq (dFor (iAny (dCall sp_all_letters [] x0 (dCons (dVar 0) (dCons (dCB cLen (dCons (dVar 1) (dNil))) (dNil))))) (gNm 4) (dSeq (dAsg (dLc (iZip (dCons (dVar 1) (dCons (dVar 4) (dNil)))) (gUnp [6, 7]) (dB (dOp oIn (dVar 6) (dVar 2))) (dVar 7) [6, 7]) (gNm 5))
    (dSeq (dDrop (dBM isLst mAppend (dVar 3) (dCons (dCall sp_number_of_letter [] x0 (dCons (dVar 0) (dCons (dVar 5) (dNil)))) (dNil))))
    (dNext))))
    (dSeq (dRet (dVar 3))
    (dNext)))
theorem p_own_letters {us : List U} {h : HU} {q : DV} {y : DXK} {bk ct : SU → HU → Prop} (hs : sp_own_letters us h q y) : t_own_letters ⟨fun _ h' => WkV q .non h', WkV q, bk, ct⟩ (startN 8 us) h := by
  obtain ⟨b, x, ns, os, rfl, hx, nx, hb, hb2, hn, hp, hq⟩ := hs
  show t_own_letters _ [some (.int b), some x, some (.tup (os.map U.str)), none, none, none, none, none] h
  unfold t_own_letters
  have S := Sep.nil h
  have hll := letters_len b ns.length
  repeat infer_instance
  refine k_new S fun p h1 S => ?_
  repeat infer_instance
  refine x_len (srcU_mono S.fr hx) nx ?_
  repeat infer_instance
  refine ⟨b, ns.length, by simp, hb, hn, hp, fun r h2 S2 => ?_⟩
  have S := S.more S2
  repeat infer_instance
  refine f_invA (letters b ns.length) tupN rfl (fun i s h' => s = [some (.int b), some x, some (.tup (os.map U.str)), some (.ref p), none, none, none, none] ∧
    Sep h [(p, .lst (((letters b ns.length).take i).map fun l => U.int (numL b (ownPart ns os l) : Nat))), (r, .lst ((letters b ns.length).map tupN))] h') ⟨rfl, S.pick [1, 0]⟩ (fun _ _ _ z => z.2.lget 1 rfl) ?_ ?_
  · rintro i l el s h3 ⟨rfl, S⟩
    have hl := letters_all b _ l (List.mem_of_getElem? el)
    have hi := (List.getElem?_eq_some_iff.mp el).1
    repeat infer_instance
    refine k_zip (srcU_mono S.fr hx) rfl ?_
    refine lc_fmA (ns.zip l) (fun p => U.tup [.str p.1, .int (p.2 : Nat)]) (zip_map _ _ _ _) (fun p => if p.1 ∈ os then some (U.int (p.2 : Nat)) else none) (szl (by rw [List.length_zip]; omega)) ⟨srcU_mono S.fr hx, rfl⟩ ?_ ?_
    · rintro ⟨n, f⟩ _ C N hC hN
      repeat infer_instance
      refine t_in rfl (flat_str _ _) ?_
      rw [inF_str]
      repeat infer_instance
      refine if_d (fun hm => ?_) (fun hm => ?_)
      · repeat infer_instance
        exact hC _ (if_pos hm)
      · exact hN (if_neg hm)
    · have e : (ns.zip l).filterMap (fun p => if p.1 ∈ os then some (U.int (p.2 : Nat)) else none) = (ownPart ns os l).map fun n => U.int (n : Nat) := by
        unfold ownPart
        rw [List.map_map]
        generalize ns.zip l = ps
        induction ps with
        | nil => rfl
        | cons a ps ih =>
          rw [List.filterMap_cons, List.filter_cons]
          by_cases q : a.1 ∈ os
          · simp only [q, if_true, decide_true, List.map_cons, ih]
            rfl
          · simp only [q, if_false, decide_false, ih]
            rfl
      rw [e]
      refine k_new S fun po h4 S => ?_
      repeat infer_instance
      refine ⟨b, .ref po, ownPart ns os l, by simp, S.lget 0 rfl, rfl, hb2, fun h5 S5 => ?_⟩
      have S := S.more S5
      repeat infer_instance
      refine m_app S 1 rfl (szl (by rw [List.length_map, List.length_take]; omega)) fun h6 S => ?_
      repeat infer_instance
      refine wk ?_ ⟨rfl, ?_⟩
      · repeat infer_instance
      · rw [List.take_add_one, el, List.map_append]
        exact S.pick [1, 2]
  · rintro s h3 ⟨rfl, S⟩
    rw [List.take_length] at S
    repeat infer_instance
    refine .of (hq p _ ?_)
    unfold ownNums
    rw [List.map_map]
    exact S.pick [0]
/-! ### a machine of what was told -/
def sp_machine_of : DP := fun us h q _ => (∃ x, us = [x, .non] ∧ ∀ h', Sep h [] h' → q .non h') ∨ ∃ x ws a b c, us = [x, .tup [a, b, c]] ∧ srcU h x = some ws ∧ noStr x = true ∧ noFt x = true ∧ ∀ h', Sep h [] h' → q (.tup [.tup ws, b, c]) h'
def t_machine_of : DS := dSeq (dIfS (dB (dOp oIsN (dVar 1) (dC .non))) (dSeq (dRet (dC .non))
    (dNext)) (dNext))
    (dSeq (dRet (dTup (dCons (dCB cTuple (dCons (dVar 0) (dNil))) (dCons (dOp oIx (dVar 1) (dC (.int 1))) (dCons (dOp oIx (dVar 1) (dC (.int 2))) (dNil))))))
    (dNext))
theorem p_machine_of {us : List U} {h : HU} {q : DV} {y : DXK} {bk ct : SU → HU → Prop} (hs : sp_machine_of us h q y) : t_machine_of ⟨fun _ h' => WkV q .non h', WkV q, bk, ct⟩ (startN 2 us) h := by
  unfold t_machine_of
  rcases hs with ⟨x, rfl, hq⟩ | ⟨x, ws, a, b, c, rfl, hx, nx, nf, hq⟩
  · show dSeq _ _ _ [some x, some .non] h
    repeat infer_instance
    refine if_t rfl ?_
    repeat infer_instance
    exact .of (hq _ (Sep.nil h))
  · show dSeq _ _ _ [some x, some (.tup [a, b, c])] h
    repeat infer_instance
    refine if_f rfl ?_
    repeat infer_instance
    refine x_tuple hx nx nf ?_
    repeat infer_instance
    exact .of (hq _ (Sep.nil h))
/-! ### a machine turned about -/
def sp_turned_no : DP := fun us h q _ => ∃ (a c : U) (bs : List Bool), us = [.tup [a, .tup (bs.map U.bl), c]] ∧ bs.length < 1000000 ∧ ∀ h', Sep h [] h' → q (.tup [a, .tup (bs.map fun b => U.bl (!b)), c]) h'
def t_turned_no : DS := dSeq (dRet (dTup (dCons (dOp oIx (dVar 0) (dC (.int 0))) (dCons (dCB cTuple (dCons (dLc (iAny (dOp oIx (dVar 0) (dC (.int 1)))) (gNm 1) dYes (dUn rNot (dVar 1)) [1]) (dNil))) (dCons (dOp oIx (dVar 0) (dC (.int 2))) (dNil))))))
    (dNext)
theorem p_turned_no {us : List U} {h : HU} {q : DV} {y : DXK} {bk ct : SU → HU → Prop} (hs : sp_turned_no us h q y) : t_turned_no ⟨fun _ h' => WkV q .non h', WkV q, bk, ct⟩ (startN 2 us) h := by
  obtain ⟨a, c, bs, rfl, hl, hq⟩ := hs
  show t_turned_no _ [some (.tup [a, .tup (bs.map U.bl), c]), none] h
  unfold t_turned_no
  have S := Sep.nil h
  repeat infer_instance
  refine lc_mapA bs U.bl rfl (fun b => U.bl (!b)) (szl (by omega)) True.intro (fun b _ C N hC => ?_) ?_
  · repeat infer_instance
    refine if_t rfl ?_
    repeat infer_instance
    exact hC
  · refine k_new S fun r h1 S => ?_
    repeat infer_instance
    exact .of (hq _ (S.pick []))
end DL

set_option Elab.async false
set_option linter.all false
set_option maxRecDepth 100000
set_option maxHeartbeats 4000000
namespace DL
open PySem L2 NdefX LamX KG
local macro_rules | `(tactic| infer_instance) => `(tactic| with_reducible first | exact subS_nil | refine subS_same ?_ | refine subS_none ?_ | refine s_seq ?_ | refine s_asg ?_ | refine s_if ?_ | refine s_ret ?_ | refine s_retN ?_ | refine s_drop ?_ | refine s_for ?_ | refine s_next ?_ | refine s_break ?_ | refine s_cont ?_ | refine v_c ?_ | refine v_op ?_ | refine v_un ?_ | refine v_if ?_ | refine v_nil ?_ | refine v_cons ?_ | refine v_CB ?_ | refine v_BM0 ?_ | refine v_BM ?_ | refine v_call ?_ | refine v_B ?_ | refine k_bl ?_ | refine v_and ?_ | refine v_or ?_ | refine v_not ?_ | refine v_yes ?_ | refine v_andV ?_ | refine v_orV ?_ | refine k_and ?_ | refine k_or ?_ | refine v_rNot ?_ | refine w_any ?_ | refine k_anyT ?_ | refine k_anyS ?_ | refine w_rng1 ?_ | refine w_zip ?_ | refine v_lc ?_ | refine v_lst ?_ | refine v_rev ?_ | refine v_revS ?_ | refine v_noP ?_ | refine v_part ?_ | refine k_part ?_ | refine v_sl ?_ | refine t_sl ?_ | refine t_list ?_ | refine k_isT ?_ | refine g_sb ?_ | refine v_kv0 ?_ | refine v_kv ?_ | refine v_dis ?_ | refine v_disT ?_ | refine i_add ?_ | refine i_sub ?_ | refine i_neg ?_ | refine i_lt ?_ | refine i_le ?_ | refine i_gt ?_ | refine i_ge ?_ | refine i_eq ?_ | refine i_ne ?_ | refine s_eq ?_ | refine s_ne ?_ | refine b_eq ?_ | refine b_ne ?_ | refine n_is ?_ | refine n_not ?_ | refine t_len ?_ | refine t_tuple ?_ | refine i_abs ?_ | refine i_int ?_ | refine b_int ?_ | refine g_unp ?_ | refine g_nms0 ?_ | refine g_nmsS ?_ | refine g_nm0 ?_  | refine g_nm1 ?_  | refine g_nm2 ?_  | refine g_nm3 ?_  | refine g_nm4 ?_  | refine g_nm5 ?_  | refine g_nm6 ?_  | refine g_nm7 ?_  | refine g_nm8 ?_  | refine g_nm9 ?_  | refine g_nm10 ?_  | refine g_nm11 ?_  | refine g_nm12 ?_  | refine g_nm13 ?_  | refine g_nm14 ?_  | refine g_nm15 ?_  | refine g_nm16 ?_  | refine g_nm17 ?_  | refine g_nm18 ?_  | refine g_nm19 ?_  | refine g_nm20 ?_  | refine g_nm21 ?_  | refine g_nm22 ?_  | refine g_nm23 ?_  | refine g_nm24 ?_  | refine g_nm25 ?_  | refine g_nm26 ?_  | refine g_nm27 ?_  | refine g_nm28 ?_  | refine g_nm29 ?_  | refine g_nm30 ?_  | refine g_nm31 ?_)
local macro_rules | `(tactic| infer_instance) => `(tactic| first | ((with_reducible apply v_var); rfl) | ((with_reducible apply t_ix); rfl) | ((with_reducible apply l_len); (first | exact Sep.lget ‹_› 0 rfl | exact Sep.lget ‹_› 1 rfl | exact Sep.lget ‹_› 2 rfl | exact Sep.lget ‹_› 3 rfl | exact Sep.lget ‹_› 4 rfl | exact Sep.lget ‹_› 5 rfl | exact Sep.lget ‹_› 6 rfl | exact Sep.lget ‹_› 7 rfl))  | ((with_reducible apply l_tuple); (first | exact Sep.lget ‹_› 0 rfl | exact Sep.lget ‹_› 1 rfl | exact Sep.lget ‹_› 2 rfl | exact Sep.lget ‹_› 3 rfl | exact Sep.lget ‹_› 4 rfl | exact Sep.lget ‹_› 5 rfl | exact Sep.lget ‹_› 6 rfl | exact Sep.lget ‹_› 7 rfl))  | ((with_reducible apply k_anyL); (first | exact Sep.lget ‹_› 0 rfl | exact Sep.lget ‹_› 1 rfl | exact Sep.lget ‹_› 2 rfl | exact Sep.lget ‹_› 3 rfl | exact Sep.lget ‹_› 4 rfl | exact Sep.lget ‹_› 5 rfl | exact Sep.lget ‹_› 6 rfl | exact Sep.lget ‹_› 7 rfl)) | ((with_reducible apply k_isL); (first | exact Sep.lget ‹_› 0 rfl | exact Sep.lget ‹_› 1 rfl | exact Sep.lget ‹_› 2 rfl | exact Sep.lget ‹_› 3 rfl | exact Sep.lget ‹_› 4 rfl | exact Sep.lget ‹_› 5 rfl | exact Sep.lget ‹_› 6 rfl | exact Sep.lget ‹_› 7 rfl))  | ((with_reducible apply l_list); (first | exact Sep.lget ‹_› 0 rfl | exact Sep.lget ‹_› 1 rfl | exact Sep.lget ‹_› 2 rfl | exact Sep.lget ‹_› 3 rfl | exact Sep.lget ‹_› 4 rfl | exact Sep.lget ‹_› 5 rfl | exact Sep.lget ‹_› 6 rfl | exact Sep.lget ‹_› 7 rfl))  | ((with_reducible apply k_rev); (first | exact Sep.lget ‹_› 0 rfl | exact Sep.lget ‹_› 1 rfl | exact Sep.lget ‹_› 2 rfl | exact Sep.lget ‹_› 3 rfl | exact Sep.lget ‹_› 4 rfl | exact Sep.lget ‹_› 5 rfl | exact Sep.lget ‹_› 6 rfl | exact Sep.lget ‹_› 7 rfl))  | ((with_reducible apply l_sl); (first | exact Sep.lget ‹_› 0 rfl | exact Sep.lget ‹_› 1 rfl | exact Sep.lget ‹_› 2 rfl | exact Sep.lget ‹_› 3 rfl | exact Sep.lget ‹_› 4 rfl | exact Sep.lget ‹_› 5 rfl | exact Sep.lget ‹_› 6 rfl | exact Sep.lget ‹_› 7 rfl)) | (with_reducible refine v_tup ?_) | (with_reducible refine And.intro (szb rfl) ?_) | (dsimp only [wipeU, List.set]))
theorem valU_put {κ : Type} [DecidableEq κ] {kvs : List (κ × U)} {k : κ} {v : U} : valU (putU kvs k v) k = some v := by
  induction kvs with
  | nil =>
    show (if k = k then some v else none) = _
    rw [if_pos rfl]
  | cons p r ih =>
    show valU (if p.1 = k then (k, v) :: r else p :: putU r k v) k = _
    by_cases e : p.1 = k
    · rw [if_pos e]
      show (if k = k then some v else _) = _
      rw [if_pos rfl]
    · rw [if_neg e]
      show (if p.1 = k then some p.2 else valU (putU r k v) k) = _
      rw [if_neg e]
      exact ih
theorem v_callR {C : NF → DFp → Prop} {i : Nat} {F : NF} {t : DA} {s : SU} {h : HU} {Q : DV} (e : slot s i = some (.clo F)) (k : t s h fun us h1 => ∃ sp, C F sp ∧ sp us h1 Q) : dCallR C i t s h Q := by
  unfold dCallR
  rw [e]
  exact k
/-! ### growth -/
section
variable {R : Type} [DecidableEq R]
def kvsFrom (key : R → List Key) : Nat → List R → List (List Key × U)
  | _, [] => []
  | n, r :: l => (key r, .int n) :: kvsFrom key (n + 1) l
theorem kvs_len (key : R → List Key) : ∀ n l, (kvsFrom key n l).length = l.length
  | _, [] => rfl
  | n, r :: l => by
    unfold kvsFrom
    rw [List.length_cons, List.length_cons, kvs_len key (n + 1) l]
theorem kvs_val {key : R → List Key} (inj : ∀ a b, key a = key b → a = b) : ∀ n l r, valU (kvsFrom key n l) (key r) = (ixOf l r).map fun i => U.int ((n + i : Nat) : Int)
  | _, [], r => rfl
  | n, x :: l, r => by
    show (if key x = key r then some (U.int n) else valU (kvsFrom key (n + 1) l) (key r)) = _
    unfold ixOf
    by_cases e : x = r
    · subst e
      rw [if_pos rfl, if_pos rfl]
      rfl
    · rw [if_neg (fun z => e (inj _ _ z)), if_neg e, kvs_val inj (n + 1) l r, Option.map_map]
      refine congrArg (fun F => Option.map F (ixOf l r)) (funext fun i => ?_)
      show U.int ((n + 1 + i : Nat) : Int) = U.int ((n + (i + 1) : Nat) : Int)
      rw [show n + 1 + i = n + (i + 1) by omega]
  
theorem kvs_put {key : R → List Key} (inj : ∀ a b, key a = key b → a = b) : ∀ n l r, r ∉ l → putU (kvsFrom key n l) (key r) (.int ((n + l.length : Nat) : Int)) = kvsFrom key n (l ++ [r])
  | n, [], r, _ => rfl
  | n, x :: l, r, hr => by
    show (if key x = key r then (key r, U.int _) :: kvsFrom key (n + 1) l else (key x, .int n) :: putU (kvsFrom key (n + 1) l) (key r) _) = _
    rw [if_neg (fun z => hr (by rw [inj _ _ z]; exact List.mem_cons_self))]
    have := kvs_put inj (n + 1) l r (fun z => hr (List.mem_cons_of_mem _ z))
    have e : n + (x :: l).length = n + 1 + l.length := by
      rw [List.length_cons]
      omega
    rw [e, this]
    rfl
end
/-- what is asked of a growth: its things, how they go on -/
structure GrowA (h : HU) {R : Type} (enc : R → U) (key : R → List Key) (S : R → Prop) (f : R → Nat → R) (many : Nat) (sF : DFp) : Prop where
  kt : ∀ r, keyT (enc r) = some (key r)
  inj : ∀ a b, key a = key b → a = b
  cl : ∀ r, S r → ∀ k, k < many → S (f r k)
  on : ∀ r, S r → ∀ k : Nat, k < many → ∀ h1 q1, (∀ a o, h a = some o → h1 a = some o) → (∀ h2, Sep h1 [] h2 → q1 (enc (f r k)) h2) → sF [enc r, .int k] h1 q1
def sp_grown_from : DSp := fun C us h q _ => ∃ (R : Type) (_ : DecidableEq R) (enc : R → U) (key : R → List Key) (S : R → Prop) (f : R → Nat → R) (many : Nat) (first : R) (g : R → Bool) (F G : NF) (sF sG : DFp) (most : Int),
  us = [enc first, .int many, .clo F, .clo G, .int most] ∧ C F sF ∧ C G sG ∧ GrowA h enc key S f many sF ∧ S first ∧ many ≤ 1000000 ∧ most ≤ 1000000 ∧
  (∀ r, S r → ∀ h1 q1, (∀ a o, h a = some o → h1 a = some o) → (∀ h2, Sep h1 [] h2 → q1 (.bl (g r)) h2) → sG [enc r] h1 q1) ∧
  (GrowR f many most [first] [] none → ∀ h', Sep h [] h' → q .non h') ∧
  ∀ came moves, GrowR f many most [first] [] (some (came, moves)) → ∀ r h', Sep h [(r, .lst (came.map enc))] h' → q (.tup [.ref r, .tup (came.map fun r => .bl (g r)), .tup (moves.map tupN)]) h'
def t_grown_from (C : NF → DFp → Prop) : DS := dSeq (dAsg (dLst (dCons (dVar 0) (dNil))) (gNm 5))
    (dSeq (dAsg (dDisT (dKv (dVar 0) (dC (.int 0)) (dKv0))) (gNm 6))
    (dSeq (dAsg (dLst (dNil)) (gNm 7))
    (dSeq (dWhile (dB (dOp oLt (dCB cLen (dCons (dVar 7) (dNil))) (dCB cLen (dCons (dVar 5) (dNil))))) (dSeq (dAsg (dOp oIx (dVar 5) (dCB cLen (dCons (dVar 7) (dNil)))) (gNm 8))
    (dSeq (dAsg (dLst (dNil)) (gNm 9))
    (dSeq (dFor (iRng1 (dCons (dVar 1) (dNil))) (gNm 10) (dSeq (dAsg (dCallR C 2 (dCons (dVar 8) (dCons (dVar 10) (dNil)))) (gNm 11))
    (dSeq (dIfS (dB (dOp oNotIn (dVar 11) (dVar 6))) (dSeq (dAsg (dCB cLen (dCons (dVar 5) (dNil))) (gSb (dVar 6) (dVar 11)))
    (dSeq (dDrop (dBM isLst mAppend (dVar 5) (dCons (dVar 11) (dNil))))
    (dNext))) (dNext))
    (dSeq (dDrop (dBM isLst mAppend (dVar 9) (dCons (dOp oIx (dVar 6) (dVar 11)) (dNil))))
    (dNext)))))
    (dSeq (dIfS (dB (dOp oGt (dCB cLen (dCons (dVar 5) (dNil))) (dVar 4))) (dSeq (dRet (dC .non))
    (dNext)) (dNext))
    (dSeq (dDrop (dBM isLst mAppend (dVar 7) (dCons (dCB cTuple (dCons (dVar 9) (dNil))) (dNil))))
    (dNext)))))))
    (dSeq (dRet (dTup (dCons (dVar 5) (dCons (dCB cTuple (dCons (dLc (iAny (dVar 5)) (gNm 8) dYes (dCallR C 3 (dCons (dVar 8) (dNil))) [8]) (dNil))) (dCons (dCB cTuple (dCons (dVar 7) (dNil))) (dNil))))))
    (dNext)))))
section
variable {R : Type} [DecidableEq R]
/-- one turn of the inner for, as both growths have it -/
theorem grow_turn {f : R → Nat → R} {room : R} {came0 : List R} {k : Nat} (x : R) (hx : x = f room k) :
    rowTo f room came0 (k + 1) = (match ixOf (rowTo f room came0 k).1 x with
      | some i => ((rowTo f room came0 k).1, (rowTo f room came0 k).2 ++ [i])
      | none => ((rowTo f room came0 k).1 ++ [x], (rowTo f room came0 k).2 ++ [(rowTo f room came0 k).1.length])) := by
  subst hx
  rw [rowTo_succ]
  rfl
end
theorem p_grown_from {C : NF → DFp → Prop} {us : List U} {h : HU} {q : DV} {y : DXK} {bk ct : SU → HU → Prop} (hs : sp_grown_from C us h q y) : t_grown_from C ⟨fun _ h' => WkV q .non h', WkV q, bk, ct⟩ (startN 12 us) h := by
  obtain ⟨R, dec, enc, key, Sr, f, many, first, g, F, G, sF, sG, most, rfl, hF, hG, A, hfirst, hmany, hmost, hyes, hnone, hsome⟩ := hs
  show t_grown_from _ _ [some (enc first), some (.int many), some (.clo F), some (.clo G), some (.int most), none, none, none, none, none, none, none] h
  unfold t_grown_from
  have S := Sep.nil h
  repeat infer_instance
  refine k_new S fun pc h1 S => ?_
  repeat infer_instance
  refine k_disT (A.kt first) ?_
  refine k_new S fun pn h2 S => ?_
  repeat infer_instance
  refine k_new S fun pm h3 S => ?_
  repeat infer_instance
  refine s_while (fun m s h' => ∃ came moves, s = [some (enc first), some (.int many), some (.clo F), some (.clo G), some (.int most), some (.ref pc), some (.ref pn), some (.ref pm), none, none, none, none] ∧
    Sep h [(pm, .lst (moves.map tupN)), (pn, .dT (kvsFrom key 0 came)), (pc, .lst (came.map enc))] h' ∧ (∀ r ∈ came, Sr r) ∧ moves.length ≤ came.length ∧ (came.length : Int) ≤ 1000001 ∧ ((came.length : Int) ≤ most ∨ moves.length = 0 ∧ came.length = 1) ∧ (∀ res, GrowR f many most came moves res → GrowR f many most [first] [] res) ∧
    m + moves.length = most.toNat + 2) (most.toNat + 2) ⟨[first], [], rfl, S, fun r hr => by rw [List.mem_singleton.mp hr]; exact hfirst, by simp, by simp, .inr ⟨rfl, rfl⟩, fun _ z => z, rfl⟩ ?_
  rintro m s h4 ⟨came, moves, rfl, S, hin, hle, hbig, hmo, hgr, hm⟩
  repeat infer_instance
  rw [List.length_map, List.length_map]
  refine if_d (fun hlt => ?_) (fun hge => ?_)
  · have hlt' : moves.length < came.length := by omega
    have er : came[moves.length]? = some came[moves.length] := List.getElem?_eq_getElem hlt'
    generalize came[moves.length] = room at er
    have hroom : Sr room := hin room (List.mem_of_getElem? er)
    repeat infer_instance
    rw [List.length_map]
    refine l_ix (S.lget 2 rfl) (atN (y := enc room) (by rw [List.getElem?_map, er]; rfl)) ?_
    repeat infer_instance
    refine k_new S fun pf h5 S => ?_
    repeat infer_instance
    refine k_rngN (by omega) ?_
    refine f_invA (List.range many) (fun k => U.int (k : Nat)) (rng_map many) (fun k s h' => s = [some (enc first), some (.int many), some (.clo F), some (.clo G), some (.int most), some (.ref pc), some (.ref pn), some (.ref pm), some (enc room), some (.ref pf), none, none] ∧
      Sep h [(pf, .lst ((rowTo f room came k).2.map fun n => U.int (n : Nat))), (pm, .lst (moves.map tupN)), (pn, .dT (kvsFrom key 0 (rowTo f room came k).1)), (pc, .lst ((rowTo f room came k).1.map enc))] h') ⟨rfl, S⟩ (fun _ _ _ _ => True.intro) ?_ ?_
    · rintro k k' ek s h6 ⟨rfl, S⟩
      have hk := (List.getElem?_eq_some_iff.mp ek).1
      rw [List.length_range] at hk
      rw [List.getElem?_range hk] at ek
      cases ek
      have ri := rowI f room came k
      obtain ⟨⟨more, emore, lmore⟩, -, rlen, -, -⟩ := ri
      have clen : (rowTo f room came k).1.length ≤ came.length + k := by
        rw [emore, List.length_append]
        omega
      repeat infer_instance
      refine v_callR rfl ?_
      repeat infer_instance
      refine ⟨sF, hF, A.on room hroom k hk h6 _ S.fr fun h7 S7 => ?_⟩
      have S := S.more S7
      repeat infer_instance
      have turn := grow_turn (f := f) (room := room) (came0 := came) (k := k) _ rfl
      refine kt_nin (S.get 2 rfl) (A.kt _) ?_
      rw [kvs_val A.inj]
      repeat infer_instance
      cases eix : ixOf (rowTo f room came k).1 (f room k) with
      | some i =>
        rw [eix] at turn
        refine if_f rfl ?_
        repeat infer_instance
        refine kt_ix (u := U.int (i : Nat)) (S.get 2 rfl) (A.kt _) (by rw [kvs_val A.inj, eix]; show some (U.int ((0 + i : Nat) : Int)) = _; rw [Nat.zero_add]) ?_
        repeat infer_instance
        refine m_app S 0 rfl (szl (by rw [List.length_map, rlen]; omega)) fun h8 S => ?_
        repeat infer_instance
        refine wk ?_ ⟨rfl, ?_⟩
        · repeat infer_instance
        · rw [turn]
          show Sep h [(pf, .lst (((rowTo f room came k).2 ++ [i]).map fun n => U.int (n : Nat))), _, _, _] h8
          rw [List.map_append]
          exact S
      | none =>
        rw [eix] at turn
        refine if_t rfl ?_
        repeat infer_instance
        rw [List.length_map]
        refine o_setT S 2 rfl (A.kt _) (szl (by rw [kvs_len]; omega)) fun h8 S => ?_
        repeat infer_instance
        refine m_app S 3 rfl (szl (by rw [List.length_map]; omega)) fun h9 S => ?_
        have eput := kvs_put A.inj 0 (rowTo f room came k).1 (f room k) (ixOf_none eix)
        rw [Nat.zero_add] at eput
        rw [eput] at S
        repeat infer_instance
        refine kt_ix (u := U.int ((rowTo f room came k).1.length : Nat)) (S.get 2 rfl) (A.kt _) ?_ ?_
        · rw [← eput]
          exact valU_put
        repeat infer_instance
        refine m_app S 0 rfl (szl (by rw [List.length_map, rlen]; omega)) fun h10 S => ?_
        repeat infer_instance
        refine wk ?_ ⟨rfl, ?_⟩
        · repeat infer_instance
        · rw [turn]
          show Sep h [(pf, .lst (((rowTo f room came k).2 ++ [(rowTo f room came k).1.length]).map fun n => U.int (n : Nat))), _, _, (pc, .lst (((rowTo f room came k).1 ++ [f room k]).map enc))] h10
          rw [List.map_append, List.map_append]
          exact S
    · rintro s h6 ⟨rfl, S⟩
      rw [List.length_range] at S
      obtain ⟨⟨more, emore, lmore⟩, -, rlen, -, rfrom⟩ := rowI f room came many
      have clen : (rowTo f room came many).1.length ≤ came.length + many := by
        rw [emore, List.length_append]
        omega
      have clen2 : came.length ≤ (rowTo f room came many).1.length := by
        rw [emore, List.length_append]
        omega
      repeat infer_instance
      rw [List.length_map]
      refine if_d (fun hov => ?_) (fun hov => ?_)
      · repeat infer_instance
        exact .of (hnone (hgr _ (.over er hov)) _ (S.pick []))
      · repeat infer_instance
        refine m_app S 1 rfl (szl (by rw [List.length_map]; omega)) fun h7 S => ?_
        repeat infer_instance
        refine wk ?_ ⟨m - 1, by omega, (rowTo f room came many).1, moves ++ [(rowTo f room came many).2], rfl, ?_, ?_, ?_, by omega, .inl (by omega), fun res gr => hgr res (.step er (by omega) gr), ?_⟩
        · repeat infer_instance
        · rw [List.map_append]
          exact S.pick [1, 2, 3]
        · intro r hr
          rcases rfrom r hr with z | ⟨k, hk, rfl⟩
          · exact hin r z
          · exact A.cl room hroom k hk
        · rw [List.length_append]
          simp only [List.length_singleton]
          omega
        · rw [List.length_append]
          simp only [List.length_singleton]
          omega
  · have hnone' : came[moves.length]? = none := List.getElem?_eq_none_iff.mpr (by omega)
    have hfin := hsome came moves (hgr _ (.done hnone'))
    repeat infer_instance
    refine lc_inv came enc rfl (fun i acc h' => acc = (came.take i).map (fun r => U.bl (g r)) ∧ Sep h [(pm, .lst (moves.map tupN)), (pn, .dT (kvsFrom key 0 came)), (pc, .lst (came.map enc))] h') (szl (by omega)) ⟨rfl, S⟩ (fun _ _ _ z => z.2.lget 2 rfl) ?_ ?_
    · rintro i r er acc h5 ⟨rfl, S⟩
      repeat infer_instance
      refine if_t rfl ?_
      refine v_callR rfl ?_
      repeat infer_instance
      refine ⟨sG, hG, hyes r (hin r (List.mem_of_getElem? er)) h5 _ S.fr fun h6 S6 => ?_⟩
      refine WkH.of ⟨?_, S.more S6⟩
      rw [List.take_add_one, er, List.map_append]
      rfl
    · rintro acc h5 ⟨rfl, S⟩
      rw [List.take_length]
      refine k_new S fun pb h6 S => ?_
      repeat infer_instance
      exact .of (hfin pc h6 (S.pick [3]))
end DL

set_option Elab.async false
set_option linter.all false
set_option maxRecDepth 100000
set_option maxHeartbeats 4000000
namespace DL
open PySem L2 NdefX LamX KG
local macro_rules | `(tactic| infer_instance) => `(tactic| with_reducible first | exact subS_nil | refine subS_same ?_ | refine subS_none ?_ | refine s_seq ?_ | refine s_asg ?_ | refine s_if ?_ | refine s_ret ?_ | refine s_retN ?_ | refine s_drop ?_ | refine s_for ?_ | refine s_next ?_ | refine s_break ?_ | refine s_cont ?_ | refine v_c ?_ | refine v_op ?_ | refine v_un ?_ | refine v_if ?_ | refine v_nil ?_ | refine v_cons ?_ | refine v_CB ?_ | refine v_BM0 ?_ | refine v_BM ?_ | refine v_call ?_ | refine v_B ?_ | refine k_bl ?_ | refine v_and ?_ | refine v_or ?_ | refine v_not ?_ | refine v_yes ?_ | refine v_andV ?_ | refine v_orV ?_ | refine k_and ?_ | refine k_or ?_ | refine v_rNot ?_ | refine w_any ?_ | refine k_anyT ?_ | refine k_anyS ?_ | refine w_rng1 ?_ | refine w_zip ?_ | refine v_lc ?_ | refine v_lst ?_ | refine v_rev ?_ | refine v_revS ?_ | refine v_noP ?_ | refine v_part ?_ | refine k_part ?_ | refine v_sl ?_ | refine t_sl ?_ | refine t_list ?_ | refine k_isT ?_ | refine g_sb ?_ | refine v_kv0 ?_ | refine v_kv ?_ | refine v_dis ?_ | refine v_disT ?_ | refine i_add ?_ | refine i_sub ?_ | refine i_neg ?_ | refine i_lt ?_ | refine i_le ?_ | refine i_gt ?_ | refine i_ge ?_ | refine i_eq ?_ | refine i_ne ?_ | refine s_eq ?_ | refine s_ne ?_ | refine b_eq ?_ | refine b_ne ?_ | refine n_is ?_ | refine n_not ?_ | refine t_len ?_ | refine t_tuple ?_ | refine i_abs ?_ | refine i_int ?_ | refine b_int ?_ | refine g_unp ?_ | refine g_nms0 ?_ | refine g_nmsS ?_ | refine g_nm0 ?_  | refine g_nm1 ?_  | refine g_nm2 ?_  | refine g_nm3 ?_  | refine g_nm4 ?_  | refine g_nm5 ?_  | refine g_nm6 ?_  | refine g_nm7 ?_  | refine g_nm8 ?_  | refine g_nm9 ?_  | refine g_nm10 ?_  | refine g_nm11 ?_  | refine g_nm12 ?_  | refine g_nm13 ?_  | refine g_nm14 ?_  | refine g_nm15 ?_  | refine g_nm16 ?_  | refine g_nm17 ?_  | refine g_nm18 ?_  | refine g_nm19 ?_  | refine g_nm20 ?_  | refine g_nm21 ?_  | refine g_nm22 ?_  | refine g_nm23 ?_  | refine g_nm24 ?_  | refine g_nm25 ?_  | refine g_nm26 ?_  | refine g_nm27 ?_  | refine g_nm28 ?_  | refine g_nm29 ?_  | refine g_nm30 ?_  | refine g_nm31 ?_)
local macro_rules | `(tactic| infer_instance) => `(tactic| first | ((with_reducible apply v_var); rfl) | ((with_reducible apply t_ix); rfl) | ((with_reducible apply l_len); (first | exact Sep.lget ‹_› 0 rfl | exact Sep.lget ‹_› 1 rfl | exact Sep.lget ‹_› 2 rfl | exact Sep.lget ‹_› 3 rfl | exact Sep.lget ‹_› 4 rfl | exact Sep.lget ‹_› 5 rfl | exact Sep.lget ‹_› 6 rfl | exact Sep.lget ‹_› 7 rfl))  | ((with_reducible apply l_tuple); (first | exact Sep.lget ‹_› 0 rfl | exact Sep.lget ‹_› 1 rfl | exact Sep.lget ‹_› 2 rfl | exact Sep.lget ‹_› 3 rfl | exact Sep.lget ‹_› 4 rfl | exact Sep.lget ‹_› 5 rfl | exact Sep.lget ‹_› 6 rfl | exact Sep.lget ‹_› 7 rfl))  | ((with_reducible apply k_anyL); (first | exact Sep.lget ‹_› 0 rfl | exact Sep.lget ‹_› 1 rfl | exact Sep.lget ‹_› 2 rfl | exact Sep.lget ‹_› 3 rfl | exact Sep.lget ‹_› 4 rfl | exact Sep.lget ‹_› 5 rfl | exact Sep.lget ‹_› 6 rfl | exact Sep.lget ‹_› 7 rfl)) | ((with_reducible apply k_isL); (first | exact Sep.lget ‹_› 0 rfl | exact Sep.lget ‹_› 1 rfl | exact Sep.lget ‹_› 2 rfl | exact Sep.lget ‹_› 3 rfl | exact Sep.lget ‹_› 4 rfl | exact Sep.lget ‹_› 5 rfl | exact Sep.lget ‹_› 6 rfl | exact Sep.lget ‹_› 7 rfl))  | ((with_reducible apply l_list); (first | exact Sep.lget ‹_› 0 rfl | exact Sep.lget ‹_› 1 rfl | exact Sep.lget ‹_› 2 rfl | exact Sep.lget ‹_› 3 rfl | exact Sep.lget ‹_› 4 rfl | exact Sep.lget ‹_› 5 rfl | exact Sep.lget ‹_› 6 rfl | exact Sep.lget ‹_› 7 rfl))  | ((with_reducible apply k_rev); (first | exact Sep.lget ‹_› 0 rfl | exact Sep.lget ‹_› 1 rfl | exact Sep.lget ‹_› 2 rfl | exact Sep.lget ‹_› 3 rfl | exact Sep.lget ‹_› 4 rfl | exact Sep.lget ‹_› 5 rfl | exact Sep.lget ‹_› 6 rfl | exact Sep.lget ‹_› 7 rfl))  | ((with_reducible apply l_sl); (first | exact Sep.lget ‹_› 0 rfl | exact Sep.lget ‹_› 1 rfl | exact Sep.lget ‹_› 2 rfl | exact Sep.lget ‹_› 3 rfl | exact Sep.lget ‹_› 4 rfl | exact Sep.lget ‹_› 5 rfl | exact Sep.lget ‹_› 6 rfl | exact Sep.lget ‹_› 7 rfl)) | (with_reducible refine v_tup ?_) | (with_reducible refine And.intro (szb rfl) ?_) | (dsimp only [wipeU, List.set]))
/-! ### equality of plain things -/
mutual
theorem toPy_refl : ∀ {u : U} {d : PyData}, toPy u = some d → PyData.eqv d d = true
  | .non, d, e => by
    cases e
    simp [PyData.eqv]
  | .bl b, d, e => by
    cases e
    simp [PyData.eqv]
  | .int b, d, e => by
    cases e
    simp [PyData.eqv]
  | .str x, d, e => by
    unfold toPy at e
    split at e
    · cases e
      simp [PyData.eqv]
    · cases e
  | .tup us, d, e => by
    unfold toPy at e
    split at e
    · rename_i ds e2
      cases e
      rw [PyData.eqv]
      exact toPys_refl e2
    · cases e
  | .ft us, d, e => by
    unfold toPy at e
    split at e
    · rename_i ds e2
      cases e
      rw [PyData.eqv]
      exact toPys_refl e2
    · cases e
  | .ref p, d, e => by
    unfold toPy at e
    cases e
  | .ty p, d, e => by
    unfold toPy at e
    cases e
  | .clo p, d, e => by
    unfold toPy at e
    cases e
theorem toPys_refl : ∀ {us : List U} {ds : List PyData}, toPys us = some ds → PyData.eqvAll ds ds = true
  | [], ds, e => by
    cases e
    simp [PyData.eqvAll]
  | u :: us, ds, e => by
    unfold toPys at e
    split at e
    · rename_i a b e1 e2
      cases e
      rw [PyData.eqvAll, toPy_refl e1, toPys_refl e2]
      rfl
    · cases e
end
theorem toD_of {x : U} {d : PyData} {h : HU} (e : toPy x = some d) : toD h x = some d := by
  cases x with
  | ref p =>
    unfold toPy at e
    cases e
  | _ => exact e
theorem x_eq {x : U} {d : PyData} {h : HU} {Q : DV} (e : toPy x = some d) (hd : d.depth ≤ 64) (k : Q (.bl true) h) : oEq x x h Q := by
  have main : oEqD id x x h Q := by
    unfold oEqD
    simp only [toD_of e]
    rw [toPy_refl e]
    exact ⟨hd, hd, k⟩
  cases x with
  | int i => exact i_eq (by rw [decide_eq_true rfl]; exact k)
  | str i => exact s_eq (by rw [decide_eq_true rfl]; exact k)
  | bl i => exact b_eq (by rw [decide_eq_true rfl]; exact k)
  | _ => exact main
theorem x_ne {x : U} {d : PyData} {h : HU} {Q : DV} (e : toPy x = some d) (hd : d.depth ≤ 64) (k : Q (.bl false) h) : oNe x x h Q := by
  have main : oEqD not x x h Q := by
    unfold oEqD
    simp only [toD_of e]
    rw [toPy_refl e]
    exact ⟨hd, hd, k⟩
  cases x with
  | int i => exact i_ne (by rw [decide_eq_true rfl]; exact k)
  | str i => exact s_ne (by rw [decide_eq_true rfl]; exact k)
  | bl i => exact b_ne (by rw [decide_eq_true rfl]; exact k)
  | _ => exact main
theorem toPys_int : ∀ l : List Int, toPys (l.map U.int) = some (l.map PyData.int)
  | [] => rfl
  | i :: l => by
    rw [List.map_cons]
    unfold toPys
    rw [toPys_int l]
    rfl
theorem depth_int : ∀ l : List Int, PyData.depthAll (l.map PyData.int) = 0
  | [] => by simp [PyData.depthAll]
  | i :: l => by
    rw [List.map_cons, PyData.depthAll, depth_int l]
    simp [PyData.depth]
theorem l_ne_nil {p r : Addr} {gs : List Int} {h : HU} {Q : DV} (e : lstU h p = some (gs.map U.int)) (e2 : lstU h r = some []) (k : Q (.bl (!gs.isEmpty)) h) : oNe (.ref p) (.ref r) h Q := by
  show oEqD not (.ref p) (.ref r) h Q
  unfold oEqD toD
  simp only [e, e2, toPys_int]
  rw [show toPys [] = some [] from rfl]
  refine ⟨?_, ?_, ?_⟩
  · show PyData.depth (.list (gs.map PyData.int)) ≤ 64
    rw [PyData.depth, depth_int]
    omega
  · show PyData.depth (.list []) ≤ 64
    rw [PyData.depth, PyData.depthAll]
    omega
  · cases gs with
    | nil =>
      simpa [PyData.eqv, PyData.eqvAll] using k
    | cons g gs =>
      simpa [PyData.eqv, PyData.eqvAll] using k
/-! ### the law's feed -/
abbrev feedO (l : Addr) (n s : Int) : UO := .dK [(.inr "left", .ref l), (.inr "number", .int n), (.inr "seed", .int s)]
structure FeedI (n s : Int) (gs : List Int) : Prop where
  n0 : 0 ≤ n
  s0 : 0 ≤ s
  s1 : s < 2147483648
  g0 : ∀ g ∈ gs, 0 < g
def Feed (g0 : HU) (p : Addr) (L : List (Addr × UO)) (h : HU) : Prop := ∃ l n s gs, FeedI n s gs ∧ Sep g0 ((p, feedO l n s) :: (l, .lst (gs.map U.int)) :: L) h
def sp__law_feed : DP := fun us h q _ => ∃ a ns, us = [.ref a] ∧ lstU h a = some (ns.map U.int) ∧ (ns : List Int).length ≤ 63 ∧ ∀ p h', Feed h p [] h' → q (.ref p) h'
def t__law_feed : DS := dSeq (dAsg (dC (.int 7919)) (gNm 1))
    (dSeq (dFor (iAny (dSl (dVar 0) (dNoP) (dPart (dC (.int 63))))) (gNm 2) (dSeq (dAsg (dOp oMod (dOp oAdd (dOp oMul (dVar 1) (dC (.int 69621))) (dVar 2)) (dC (.int 2147483647))) (gNm 1))
    (dNext)))
    (dSeq (dAsg (dLc (iAny (dSl (dVar 0) (dNoP) (dPart (dC (.int 63))))) (gNm 2) (dB (dOp oGe (dCB cAbs (dCons (dVar 2) (dNil))) (dOp oPow (dC (.int 10)) (dC (.int 18))))) (dCB cAbs (dCons (dVar 2) (dNil))) [2]) (gNm 3))
    (dSeq (dRet (dDis (dKv (dC (.str "left")) (dRev (dVar 3)) (dKv (dC (.str "number")) (dC (.int 0)) (dKv (dC (.str "seed")) (dVar 1) (dKv0))))))
    (dNext))))
theorem cut_map {α : Type} (f : α → U) (l : List α) (lo hi : Option Int) : cutU (l.map f) lo hi = ((l.drop (HT.sIx l.length 0 lo)).take (HT.sIx l.length l.length hi - HT.sIx l.length 0 lo)).map f := by
  unfold cutU
  rw [List.length_map, List.map_take, List.map_drop]
theorem k_lr : (Sum.inr ("left" : Str) : Key) ≠ .inr "number" ∧ (Sum.inr ("left" : Str) : Key) ≠ .inr "seed" ∧ (Sum.inr ("number" : Str) : Key) ≠ .inr "seed" := by decide +kernel
theorem feed_val {l : Addr} {n s : Int} : valU [((Sum.inr ("left" : Str) : Key), U.ref l), (.inr "number", .int n), (.inr "seed", .int s)] (.inr "left") = some (.ref l) ∧ valU [((Sum.inr ("left" : Str) : Key), U.ref l), (.inr "number", .int n), (.inr "seed", .int s)] (.inr "number") = some (.int n) ∧
    valU [((Sum.inr ("left" : Str) : Key), U.ref l), (.inr "number", .int n), (.inr "seed", .int s)] (.inr "seed") = some (.int s) := by
  obtain ⟨a, b, c⟩ := k_lr
  refine ⟨?_, ?_, ?_⟩ <;> simp [valU, a, b, c]
theorem feed_put {l : Addr} {n s m : Int} : putU [((Sum.inr ("left" : Str) : Key), U.ref l), (.inr "number", .int n), (.inr "seed", .int s)] (.inr "number") (.int m) = [((Sum.inr ("left" : Str) : Key), U.ref l), (.inr "number", .int m), (.inr "seed", .int s)] ∧
    putU [((Sum.inr ("left" : Str) : Key), U.ref l), (.inr "number", .int n), (.inr "seed", .int s)] (.inr "seed") (.int m) = [((Sum.inr ("left" : Str) : Key), U.ref l), (.inr "number", .int n), (.inr "seed", .int m)] := by
  obtain ⟨a, b, c⟩ := k_lr
  refine ⟨?_, ?_⟩ <;> simp [putU, a, b, c]
theorem feed_new {l : Addr} {n s : Int} : mergeU [] [((Sum.inr ("left" : Str) : Key), U.ref l), (.inr "number", .int n), (.inr "seed", .int s)] = [((Sum.inr ("left" : Str) : Key), U.ref l), (.inr "number", .int n), (.inr "seed", .int s)] := by
  obtain ⟨a, b, c⟩ := k_lr
  simp [mergeU, putU, a, b, c]
theorem p__law_feed {us : List U} {h : HU} {q : DV} {y : DXK} {bk ct : SU → HU → Prop} (hs : sp__law_feed us h q y) : t__law_feed ⟨fun _ h' => WkV q .non h', WkV q, bk, ct⟩ (startN 4 us) h := by
  obtain ⟨a, ns, rfl, ha, hn, hq⟩ := hs
  show t__law_feed _ [some (.ref a), none, none, none] h
  unfold t__law_feed
  have S := Sep.nil h
  have hcut : ∀ l : List Int, l.length ≤ 63 → ((l.drop (HT.sIx l.length 0 none)).take (HT.sIx l.length l.length (some 63) - HT.sIx l.length 0 none)).length ≤ 63 := fun l hl => by
    rw [List.length_take, List.length_drop]
    omega
  repeat infer_instance
  refine l_sl ha ?_
  rw [cut_map]
  have hcl := hcut ns hn
  generalize ((ns.drop (HT.sIx ns.length 0 none)).take (HT.sIx ns.length ns.length (some 63) - HT.sIx ns.length 0 none)) = cs at hcl
  refine k_new S fun pc h1 S => ?_
  repeat infer_instance
  refine f_invA cs U.int rfl (fun i s h' => (∃ x : Int, 0 ≤ x ∧ x < 2147483648 ∧ s = [some (.ref a), some (.int x), none, none]) ∧ Sep h [(pc, .lst (cs.map U.int))] h') ⟨⟨7919, by decide, by decide, rfl⟩, S⟩ (fun _ _ _ z => z.2.lget 0 rfl) ?_ ?_
  · rintro i c ec s h2 ⟨⟨x, x0, x1, rfl⟩, S⟩
    repeat infer_instance
    refine i_mul (.inr ⟨by decide, by decide⟩) ?_
    repeat infer_instance
    refine i_mod (by decide) ?_
    have b1 := Int.emod_nonneg (x * 69621 + c) (show (2147483647 : Int) ≠ 0 by decide)
    have b2 := Int.emod_lt_of_pos (x * 69621 + c) (show (0 : Int) < 2147483647 by decide)
    generalize (x * 69621 + c) % 2147483647 = x2 at b1 b2
    repeat infer_instance
    refine wk ?_ ⟨⟨x2, b1, by omega, rfl⟩, S⟩
    repeat infer_instance
  · rintro s h2 ⟨⟨x, x0, x1, rfl⟩, S⟩
    repeat infer_instance
    refine l_sl (lstU_mono S.fr ha) ?_
    rw [cut_map]
    have hcl := hcut ns hn
    generalize ((ns.drop (HT.sIx ns.length 0 none)).take (HT.sIx ns.length ns.length (some 63) - HT.sIx ns.length 0 none)) = ds at hcl
    refine k_new S fun pd h3 S => ?_
    repeat infer_instance
    refine lc_fmA ds U.int rfl (fun c => if 10 ^ 18 ≤ (if c < 0 then -c else c) then some (U.int (if c < 0 then -c else c)) else none) (szl (by omega)) (S.lget 0 rfl) ?_ ?_
    · rintro c _ C N hC hN
      repeat infer_instance
      refine i_pow (by unfold CPow; decide) ?_
      repeat infer_instance
      refine if_d (fun hm => ?_) (fun hm => ?_)
      · repeat infer_instance
        exact hC _ (if_pos hm)
      · exact hN (if_neg hm)
    · have e : ∀ ds : List Int, ∃ gs : List Int, (∀ g ∈ gs, 0 < g) ∧ ds.filterMap (fun c => if 10 ^ 18 ≤ (if c < 0 then -c else c) then some (U.int (if c < 0 then -c else c)) else none) = gs.map U.int := by
        intro ds
        induction ds with
        | nil => exact ⟨[], (fun _ z => nomatch z), rfl⟩
        | cons c ds ih =>
          obtain ⟨gs, g1, g2⟩ := ih
          rw [List.filterMap_cons]
          by_cases hm : (10 ^ 18 : Int) ≤ (if c < 0 then -c else c)
          · rw [if_pos hm, g2]
            refine ⟨(if c < 0 then -c else c) :: gs, fun g hg => ?_, rfl⟩
            rcases List.mem_cons.mp hg with z | z
            · rw [z]
              have : (0 : Int) < 10 ^ 18 := by decide
              omega
            · exact g1 g z
          · rw [if_neg hm, g2]
            exact ⟨gs, g1, rfl⟩
      obtain ⟨gs, g1, g2⟩ := e ds
      rw [g2]
      refine k_new S fun pg h4 S => ?_
      repeat infer_instance
      refine k_new S fun pr h5 S => ?_
      repeat infer_instance
      rw [← List.map_reverse] at S
      refine k_dis (kvs := [((Sum.inr ("left" : Str) : Key), U.ref pr), (.inr "number", .int 0), (.inr "seed", .int x)]) rfl (by show (3 : Nat) ≤ 15; decide) ?_
      rw [feed_new]
      refine k_new S fun p h6 S => ?_
      refine .of (hq p h6 ⟨pr, 0, x, gs.reverse, ⟨by decide, x0, x1, fun g hg => g1 g (List.mem_reverse.mp hg)⟩, S.pick [0, 1]⟩)
/-! ### a draw -/
def sp__law_draw : DP := fun us h q _ => ∃ g0 L p m, us = [.ref p, .int (m : Nat)] ∧ Feed g0 p L h ∧ 1 ≤ m ∧ m < 1073741824 ∧ ∀ r : Nat, r < m → ∀ h', Feed g0 p L h' → q (.int r) h'
def t__law_draw : DS := dSeq (dWhile (dAnd (dB (dOp oEq (dOp oIx (dVar 0) (dC (.str "number"))) (dC (.int 0)))) (dB (dOp oNe (dOp oIx (dVar 0) (dC (.str "left"))) (dLst (dNil))))) (dSeq (dAsg (dBM0 isLst mPop (dOp oIx (dVar 0) (dC (.str "left")))) (gSb (dVar 0) (dC (.str "number"))))
    (dNext)))
    (dSeq (dIfS (dB (dOp oGt (dOp oIx (dVar 0) (dC (.str "number"))) (dC (.int 0)))) (dSeq (dAsg (dOp oMod (dOp oIx (dVar 0) (dC (.str "number"))) (dVar 1)) (gNm 2))
    (dSeq (dAsg (dOp oDiv (dOp oIx (dVar 0) (dC (.str "number"))) (dVar 1)) (gSb (dVar 0) (dC (.str "number"))))
    (dSeq (dRet (dVar 2))
    (dNext)))) (dNext))
    (dSeq (dAsg (dOp oMod (dOp oAdd (dOp oMul (dOp oIx (dVar 0) (dC (.str "seed"))) (dC (.int 48271))) (dC (.int 7919))) (dC (.int 2147483647))) (gNm 3))
    (dSeq (dAsg (dOp oMod (dOp oAdd (dOp oMul (dVar 3) (dC (.int 40692))) (dC (.int 104729))) (dC (.int 2147483399))) (gSb (dVar 0) (dC (.str "seed"))))
    (dSeq (dAsg (dOp oMod (dOp oMul (dOp oIx (dVar 0) (dC (.str "seed"))) (dOp oIx (dVar 0) (dC (.str "seed")))) (dC (.int 2147483563))) (gNm 4))
    (dSeq (dRet (dOp oMod (dOp oAdd (dOp oMul (dOp oMod (dOp oMul (dVar 3) (dVar 3)) (dC (.int 2147483629))) (dC (.int 2147483563))) (dVar 4)) (dVar 1)))
    (dNext))))))
theorem emod_nat {a : Int} {m : Nat} (h : 1 ≤ m) : ∃ r : Nat, a % (m : Int) = r ∧ r < m := by
  have h1 := Int.emod_nonneg a (show (m : Int) ≠ 0 by omega)
  have h2 := Int.emod_lt_of_pos a (show (0 : Int) < m by omega)
  exact ⟨(a % (m : Int)).toNat, by omega, by omega⟩
theorem p__law_draw {us : List U} {h : HU} {q : DV} {y : DXK} {bk ct : SU → HU → Prop} (hs : sp__law_draw us h q y) : t__law_draw ⟨fun _ h' => WkV q .non h', WkV q, bk, ct⟩ (startN 5 us) h := by
  obtain ⟨g0, L, p, m, rfl, ⟨l, n, sd, gs, hi, S⟩, m1, m2, hq⟩ := hs
  show t__law_draw _ [some (.ref p), some (.int m), none, none, none] h
  unfold t__law_draw
  obtain ⟨g, S, -, -, back⟩ := Sep.call (pre := [(p, feedO l n sd), (l, .lst (gs.map U.int))]) (rest := L) S
  have fin : ∀ (r : Nat) (h' : HU) (n sd : Int) (gs : List Int), r < m → FeedI n sd gs → Sep g [(p, feedO l n sd), (l, .lst (gs.map U.int))] h' → WkV q (.int r) h' := fun r h' n sd gs hr fi S => .of (hq r hr h' ⟨l, n, sd, gs, fi, back _ _ S⟩)
  repeat infer_instance
  refine s_while (fun k s h' => s = [some (.ref p), some (.int m), none, none, none] ∧ ∃ n sd gs, k = gs.length ∧ FeedI n sd gs ∧ Sep g [(p, feedO l n sd), (l, .lst (gs.map U.int))] h') gs.length ⟨rfl, n, sd, gs, rfl, hi, S⟩ ?_
  rintro k s h1 ⟨rfl, n, sd, gs, rfl, hi, S⟩
  -- behind the loop
  have rest : ∀ h', Sep g [(p, feedO l n sd), (l, .lst (gs.map U.int))] h' → (dSeq (dIfS (dB (dOp oGt (dOp oIx (dVar 0) (dC (.str "number"))) (dC (.int 0)))) (dSeq (dAsg (dOp oMod (dOp oIx (dVar 0) (dC (.str "number"))) (dVar 1)) (gNm 2))
    (dSeq (dAsg (dOp oDiv (dOp oIx (dVar 0) (dC (.str "number"))) (dVar 1)) (gSb (dVar 0) (dC (.str "number"))))
    (dSeq (dRet (dVar 2))
    (dNext)))) (dNext))
    (dSeq (dAsg (dOp oMod (dOp oAdd (dOp oMul (dOp oIx (dVar 0) (dC (.str "seed"))) (dC (.int 48271))) (dC (.int 7919))) (dC (.int 2147483647))) (gNm 3))
    (dSeq (dAsg (dOp oMod (dOp oAdd (dOp oMul (dVar 3) (dC (.int 40692))) (dC (.int 104729))) (dC (.int 2147483399))) (gSb (dVar 0) (dC (.str "seed"))))
    (dSeq (dAsg (dOp oMod (dOp oMul (dOp oIx (dVar 0) (dC (.str "seed"))) (dOp oIx (dVar 0) (dC (.str "seed")))) (dC (.int 2147483563))) (gNm 4))
    (dSeq (dRet (dOp oMod (dOp oAdd (dOp oMul (dOp oMod (dOp oMul (dVar 3) (dVar 3)) (dC (.int 2147483629))) (dC (.int 2147483563))) (dVar 4)) (dVar 1)))
    (dNext)))))) ⟨fun _ h' => WkV q .non h', WkV q, bk, ct⟩ [some (.ref p), some (.int m), none, none, none] h' := by
    intro h' S
    repeat infer_instance
    refine k_ix (S.get 0 rfl) rfl feed_val.2.1 ?_
    repeat infer_instance
    refine if_d (fun hpos => ?_) (fun hz => ?_)
    · repeat infer_instance
      refine k_ix (S.get 0 rfl) rfl feed_val.2.1 ?_
      repeat infer_instance
      refine i_mod (by omega) ?_
      repeat infer_instance
      refine k_ix (S.get 0 rfl) rfl feed_val.2.1 ?_
      repeat infer_instance
      refine i_div (by omega) (by omega) ?_
      repeat infer_instance
      refine o_setK S 0 rfl rfl (szl (by show (3 : Nat) < 16777216; decide)) fun h2 S => ?_
      rw [feed_put.1] at S
      repeat infer_instance
      obtain ⟨r, e1, e2⟩ := emod_nat (a := n) m1
      rw [e1]
      exact fin r _ _ _ _ e2 ⟨Int.ediv_nonneg hi.n0 (by omega), hi.s0, hi.s1, hi.g0⟩ S
    · repeat infer_instance
      refine k_ix (S.get 0 rfl) rfl feed_val.2.2 ?_
      repeat infer_instance
      refine i_mul (.inr ⟨by decide, by decide⟩) ?_
      repeat infer_instance
      refine i_mod (by decide) ?_
      repeat infer_instance
      refine i_mul (.inr ⟨by decide, by decide⟩) ?_
      repeat infer_instance
      refine i_mod (by decide) ?_
      repeat infer_instance
      refine o_setK S 0 rfl rfl (szl (by show (3 : Nat) < 16777216; decide)) fun h2 S => ?_
      rw [feed_put.2] at S
      have b1 := Int.emod_nonneg (sd * 48271 + 7919) (show (2147483647 : Int) ≠ 0 by decide)
      have b2 := Int.emod_lt_of_pos (sd * 48271 + 7919) (show (0 : Int) < 2147483647 by decide)
      generalize (sd * 48271 + 7919) % 2147483647 = one at S b1 b2 ⊢
      have c1 := Int.emod_nonneg (one * 40692 + 104729) (show (2147483399 : Int) ≠ 0 by decide)
      have c2 := Int.emod_lt_of_pos (one * 40692 + 104729) (show (0 : Int) < 2147483399 by decide)
      generalize (one * 40692 + 104729) % 2147483399 = sd2 at S c1 c2 ⊢
      repeat infer_instance
      refine k_ix (S.get 0 rfl) rfl feed_val.2.2 ?_
      repeat infer_instance
      refine k_ix (S.get 0 rfl) rfl feed_val.2.2 ?_
      refine i_mul (.inr ⟨by omega, by omega⟩) ?_
      repeat infer_instance
      refine i_mod (by decide) ?_
      repeat infer_instance
      refine i_mul (.inr ⟨by omega, by omega⟩) ?_
      repeat infer_instance
      refine i_mod (by decide) ?_
      repeat infer_instance
      refine i_mul (.inr ⟨by decide, by decide⟩) ?_
      repeat infer_instance
      refine i_mod (by omega) ?_
      obtain ⟨r, e1, e2⟩ := emod_nat (a := one * one % 2147483629 * 2147483563 + sd2 * sd2 % 2147483563) m1
      rw [e1]
      exact fin r _ _ _ _ e2 ⟨hi.n0, c1, by omega, hi.g0⟩ S
  repeat infer_instance
  refine k_ix (S.get 0 rfl) rfl feed_val.2.1 ?_
  repeat infer_instance
  refine if_d (fun hz => ?_) (fun hz => if_f rfl (rest _ S))
  repeat infer_instance
  refine k_ix (S.get 0 rfl) rfl feed_val.1 ?_
  repeat infer_instance
  refine k_new S fun pe h2 S => ?_
  refine l_ne_nil (S.lget 2 rfl) (S.lget 0 rfl) ?_
  repeat infer_instance
  rcases List.eq_nil_or_concat gs with rfl | ⟨gs, y, ec⟩
  · exact if_f rfl (rest _ (S.pick [1, 2]))
  · rw [List.concat_eq_append] at ec
    subst ec
    refine if_t (by simp) ?_
    repeat infer_instance
    refine k_ix (S.get 1 rfl) rfl feed_val.1 ?_
    repeat infer_instance
    have S : Sep g [(pe, .lst []), (p, feedO l n sd), (l, .lst (gs.map U.int ++ [U.int y]))] h2 := by
      have e : (gs ++ [y]).map U.int = gs.map U.int ++ [U.int y] := by rw [List.map_append]; rfl
      rw [← e]
      exact S
    refine m_pp S 2 rfl fun h3 S => ?_
    repeat infer_instance
    refine o_setK S 1 rfl rfl (szl (by show (3 : Nat) < 16777216; decide)) fun h4 S => ?_
    rw [feed_put.1] at S
    refine wk ?_ ⟨gs.length, by simp, rfl, y, sd, gs, rfl, ⟨?_, hi.s0, hi.s1, fun g hg => hi.g0 g (List.mem_append_left _ hg)⟩, S.pick [1, 2]⟩
    · repeat infer_instance
    · have := hi.g0 y (List.mem_append_right _ (List.mem_singleton.mpr rfl))
      omega
end DL

set_option Elab.async false
set_option linter.all false
set_option maxRecDepth 100000
set_option maxHeartbeats 4000000
namespace DL
open PySem L2 NdefX LamX KG
local macro_rules | `(tactic| infer_instance) => `(tactic| with_reducible first | exact subS_nil | refine subS_same ?_ | refine subS_none ?_ | refine s_seq ?_ | refine s_asg ?_ | refine s_if ?_ | refine s_ret ?_ | refine s_retN ?_ | refine s_drop ?_ | refine s_for ?_ | refine s_next ?_ | refine s_break ?_ | refine s_cont ?_ | refine v_c ?_ | refine v_op ?_ | refine v_un ?_ | refine v_if ?_ | refine v_nil ?_ | refine v_cons ?_ | refine v_CB ?_ | refine v_BM0 ?_ | refine v_BM ?_ | refine v_call ?_ | refine v_B ?_ | refine k_bl ?_ | refine v_and ?_ | refine v_or ?_ | refine v_not ?_ | refine v_yes ?_ | refine v_andV ?_ | refine v_orV ?_ | refine k_and ?_ | refine k_or ?_ | refine v_rNot ?_ | refine w_any ?_ | refine k_anyT ?_ | refine k_anyS ?_ | refine w_rng1 ?_ | refine w_zip ?_ | refine v_lc ?_ | refine v_lst ?_ | refine v_rev ?_ | refine v_revS ?_ | refine v_noP ?_ | refine v_part ?_ | refine k_part ?_ | refine v_sl ?_ | refine t_sl ?_ | refine t_list ?_ | refine k_isT ?_ | refine g_sb ?_ | refine v_kv0 ?_ | refine v_kv ?_ | refine v_dis ?_ | refine v_disT ?_ | refine i_add ?_ | refine i_sub ?_ | refine i_neg ?_ | refine i_lt ?_ | refine i_le ?_ | refine i_gt ?_ | refine i_ge ?_ | refine i_eq ?_ | refine i_ne ?_ | refine s_eq ?_ | refine s_ne ?_ | refine b_eq ?_ | refine b_ne ?_ | refine n_is ?_ | refine n_not ?_ | refine t_len ?_ | refine t_tuple ?_ | refine i_abs ?_ | refine i_int ?_ | refine b_int ?_ | refine g_unp ?_ | refine g_nms0 ?_ | refine g_nmsS ?_ | refine g_nm0 ?_  | refine g_nm1 ?_  | refine g_nm2 ?_  | refine g_nm3 ?_  | refine g_nm4 ?_  | refine g_nm5 ?_  | refine g_nm6 ?_  | refine g_nm7 ?_  | refine g_nm8 ?_  | refine g_nm9 ?_  | refine g_nm10 ?_  | refine g_nm11 ?_  | refine g_nm12 ?_  | refine g_nm13 ?_  | refine g_nm14 ?_  | refine g_nm15 ?_  | refine g_nm16 ?_  | refine g_nm17 ?_  | refine g_nm18 ?_  | refine g_nm19 ?_  | refine g_nm20 ?_  | refine g_nm21 ?_  | refine g_nm22 ?_  | refine g_nm23 ?_  | refine g_nm24 ?_  | refine g_nm25 ?_  | refine g_nm26 ?_  | refine g_nm27 ?_  | refine g_nm28 ?_  | refine g_nm29 ?_  | refine g_nm30 ?_  | refine g_nm31 ?_)
local macro_rules | `(tactic| infer_instance) => `(tactic| first | ((with_reducible apply v_var); rfl) | ((with_reducible apply t_ix); rfl) | ((with_reducible apply l_len); (first | exact Sep.lget ‹_› 0 rfl | exact Sep.lget ‹_› 1 rfl | exact Sep.lget ‹_› 2 rfl | exact Sep.lget ‹_› 3 rfl | exact Sep.lget ‹_› 4 rfl | exact Sep.lget ‹_› 5 rfl | exact Sep.lget ‹_› 6 rfl | exact Sep.lget ‹_› 7 rfl))  | ((with_reducible apply l_tuple); (first | exact Sep.lget ‹_› 0 rfl | exact Sep.lget ‹_› 1 rfl | exact Sep.lget ‹_› 2 rfl | exact Sep.lget ‹_› 3 rfl | exact Sep.lget ‹_› 4 rfl | exact Sep.lget ‹_› 5 rfl | exact Sep.lget ‹_› 6 rfl | exact Sep.lget ‹_› 7 rfl))  | ((with_reducible apply k_anyL); (first | exact Sep.lget ‹_› 0 rfl | exact Sep.lget ‹_› 1 rfl | exact Sep.lget ‹_› 2 rfl | exact Sep.lget ‹_› 3 rfl | exact Sep.lget ‹_› 4 rfl | exact Sep.lget ‹_› 5 rfl | exact Sep.lget ‹_› 6 rfl | exact Sep.lget ‹_› 7 rfl)) | ((with_reducible apply k_isL); (first | exact Sep.lget ‹_› 0 rfl | exact Sep.lget ‹_› 1 rfl | exact Sep.lget ‹_› 2 rfl | exact Sep.lget ‹_› 3 rfl | exact Sep.lget ‹_› 4 rfl | exact Sep.lget ‹_› 5 rfl | exact Sep.lget ‹_› 6 rfl | exact Sep.lget ‹_› 7 rfl))  | ((with_reducible apply l_list); (first | exact Sep.lget ‹_› 0 rfl | exact Sep.lget ‹_› 1 rfl | exact Sep.lget ‹_› 2 rfl | exact Sep.lget ‹_› 3 rfl | exact Sep.lget ‹_› 4 rfl | exact Sep.lget ‹_› 5 rfl | exact Sep.lget ‹_› 6 rfl | exact Sep.lget ‹_› 7 rfl))  | ((with_reducible apply k_rev); (first | exact Sep.lget ‹_› 0 rfl | exact Sep.lget ‹_› 1 rfl | exact Sep.lget ‹_› 2 rfl | exact Sep.lget ‹_› 3 rfl | exact Sep.lget ‹_› 4 rfl | exact Sep.lget ‹_› 5 rfl | exact Sep.lget ‹_› 6 rfl | exact Sep.lget ‹_› 7 rfl))  | ((with_reducible apply l_sl); (first | exact Sep.lget ‹_› 0 rfl | exact Sep.lget ‹_› 1 rfl | exact Sep.lget ‹_› 2 rfl | exact Sep.lget ‹_› 3 rfl | exact Sep.lget ‹_› 4 rfl | exact Sep.lget ‹_› 5 rfl | exact Sep.lget ‹_› 6 rfl | exact Sep.lget ‹_› 7 rfl)) | (with_reducible refine v_tup ?_) | (with_reducible refine And.intro (szb rfl) ?_) | (dsimp only [wipeU, List.set]))
/-! ### the law's letters, numbers -/
abbrev sp__law_letters : DP := sp_all_letters
abbrev t__law_letters : DS := t_all_letters
abbrev sp__law_numbers : DP := sp_own_letters
def t__law_numbers : DS := dSeq (dAsg (dLst (dNil)) (gNm 3))
    (dSeq (dFor (iAny (dCall sp__law_letters [] x0 (dCons (dVar 0) (dCons (dCB cLen (dCons (dVar 1) (dNil))) (dNil))))) (gNm 4) (dSeq (dAsg (dC (.int 0)) (gNm 5))
    (dSeq (dFor (iZip (dCons (dVar 1) (dCons (dVar 4) (dNil)))) (gUnp [6, 7]) (dSeq (dIfS (dB (dOp oIn (dVar 6) (dVar 2))) (dSeq (dAsg (dOp oAdd (dOp oMul (dVar 5) (dVar 0)) (dVar 7)) (gNm 5))
    (dNext)) (dNext))
    (dNext)))
    (dSeq (dDrop (dBM isLst mAppend (dVar 3) (dCons (dVar 5) (dNil))))
    (dNext)))))
    (dSeq (dRet (dVar 3))
    (dNext)))
theorem p__law_numbers {us : List U} {h : HU} {q : DV} {y : DXK} {bk ct : SU → HU → Prop} (hs : sp__law_numbers us h q y) : t__law_numbers ⟨fun _ h' => WkV q .non h', WkV q, bk, ct⟩ (startN 8 us) h := by
  obtain ⟨b, x, ns, os, rfl, hx, nx, hb, hb2, hn, hp, hq⟩ := hs
  show t__law_numbers _ [some (.int b), some x, some (.tup (os.map U.str)), none, none, none, none, none] h
  unfold t__law_numbers
  have S := Sep.nil h
  have hll := letters_len b ns.length
  repeat infer_instance
  refine k_new S fun p h1 S => ?_
  repeat infer_instance
  refine x_len (srcU_mono S.fr hx) nx ?_
  repeat infer_instance
  refine ⟨b, ns.length, by simp, hb, hn, hp, fun r h2 S2 => ?_⟩
  have S := S.more S2
  repeat infer_instance
  refine f_invA (letters b ns.length) tupN rfl (fun i s h' => s = [some (.int b), some x, some (.tup (os.map U.str)), some (.ref p), none, none, none, none] ∧
    Sep h [(p, .lst (((letters b ns.length).take i).map fun l => U.int (numL b (ownPart ns os l) : Nat))), (r, .lst ((letters b ns.length).map tupN))] h') ⟨rfl, S.pick [1, 0]⟩ (fun _ _ _ z => z.2.lget 1 rfl) ?_ ?_
  · rintro i l el s h3 ⟨rfl, S⟩
    have hl := letters_all b _ l (List.mem_of_getElem? el)
    have hi := (List.getElem?_eq_some_iff.mp el).1
    repeat infer_instance
    refine k_zip (srcU_mono S.fr hx) rfl ?_
    refine f_invA (ns.zip l) (fun p => U.tup [.str p.1, .int (p.2 : Nat)]) (zip_map _ _ _ _) (fun j s h' => s = [some (.int b), some x, some (.tup (os.map U.str)), some (.ref p), some (tupN l), some (.int (numL b ((((ns.zip l).take j).filter fun p => decide (p.1 ∈ os)).map (·.2)) : Nat)), none, none] ∧
      Sep h [(p, .lst (((letters b ns.length).take i).map fun l => U.int (numL b (ownPart ns os l) : Nat))), (r, .lst ((letters b ns.length).map tupN))] h') ⟨rfl, S⟩ (fun _ _ _ z => ⟨srcU_mono z.2.fr hx, rfl⟩) ?_ ?_
    · rintro j ⟨n, f⟩ ej s h4 ⟨rfl, S⟩
      repeat infer_instance
      refine t_in rfl (flat_str _ _) ?_
      rw [inF_str]
      repeat infer_instance
      refine if_d (fun hm => ?_) (fun hm => ?_)
      · repeat infer_instance
        refine i_mul (.inr ⟨by omega, by omega⟩) ?_
        repeat infer_instance
        refine wk ?_ ⟨rfl, S⟩
        rw [List.take_add_one, ej, List.filter_append, List.map_append]
        simp only [Option.toList_some, List.filter_cons, hm, decide_true, if_true, List.filter_nil, List.map_cons, List.map_nil]
        rw [numL_snoc, Int.natCast_add, Int.natCast_mul]
        repeat infer_instance
      · repeat infer_instance
        refine wk ?_ ⟨rfl, S⟩
        rw [List.take_add_one, ej, List.filter_append, List.map_append]
        simp only [Option.toList_some, List.filter_cons, hm, decide_false, Bool.false_eq_true, if_false, List.filter_nil, List.map_nil, List.append_nil]
        repeat infer_instance
    · rintro s h4 ⟨rfl, S⟩
      rw [List.take_length]
      repeat infer_instance
      refine m_app S 0 rfl (szl (by rw [List.length_map, List.length_take]; omega)) fun h6 S => ?_
      repeat infer_instance
      refine wk ?_ ⟨rfl, ?_⟩
      · repeat infer_instance
      · rw [List.take_add_one, el, List.map_append]
        exact S
  · rintro s h3 ⟨rfl, S⟩
    rw [List.take_length] at S
    repeat infer_instance
    refine .of (hq p _ ?_)
    unfold ownNums
    rw [List.map_map]
    exact S.pick [0]
/-! ### the law's growth -/
def sp__law_grown : DSp := fun C us h q _ => ∃ (R : Type) (_ : DecidableEq R) (enc : R → U) (key : R → List Key) (S : R → Prop) (f : R → Nat → R) (many : Nat) (first : R) (F : NF) (sF : DFp) (most : Int),
  us = [enc first, .int many, .clo F, .int most] ∧ C F sF ∧ GrowA h enc key S f many sF ∧ S first ∧ many ≤ 1000000 ∧ most ≤ 1000000 ∧
  (GrowR f many most [first] [] none → ∀ h', Sep h [] h' → q .non h') ∧
  ∀ came moves, GrowR f many most [first] [] (some (came, moves)) → ∀ r h', Sep h [(r, .lst (came.map enc))] h' → q (.tup [.ref r, .tup (moves.map tupN)]) h'
def t__law_grown (C : NF → DFp → Prop) : DS := dSeq (dAsg (dLst (dCons (dVar 0) (dNil))) (gNm 4))
    (dSeq (dAsg (dDisT (dKv (dVar 0) (dC (.int 0)) (dKv0))) (gNm 5))
    (dSeq (dAsg (dLst (dNil)) (gNm 6))
    (dSeq (dWhile (dB (dOp oLt (dCB cLen (dCons (dVar 6) (dNil))) (dCB cLen (dCons (dVar 4) (dNil))))) (dSeq (dAsg (dLst (dNil)) (gNm 7))
    (dSeq (dFor (iRng1 (dCons (dVar 1) (dNil))) (gNm 8) (dSeq (dAsg (dCallR C 2 (dCons (dOp oIx (dVar 4) (dCB cLen (dCons (dVar 6) (dNil)))) (dCons (dVar 8) (dNil)))) (gNm 9))
    (dSeq (dIfS (dB (dOp oNotIn (dVar 9) (dVar 5))) (dSeq (dAsg (dCB cLen (dCons (dVar 4) (dNil))) (gSb (dVar 5) (dVar 9)))
    (dSeq (dDrop (dBM isLst mAppend (dVar 4) (dCons (dVar 9) (dNil))))
    (dNext))) (dNext))
    (dSeq (dDrop (dBM isLst mAppend (dVar 7) (dCons (dOp oIx (dVar 5) (dVar 9)) (dNil))))
    (dNext)))))
    (dSeq (dDrop (dBM isLst mAppend (dVar 6) (dCons (dCB cTuple (dCons (dVar 7) (dNil))) (dNil))))
    (dSeq (dIfS (dB (dOp oGt (dCB cLen (dCons (dVar 4) (dNil))) (dVar 3))) (dSeq (dRet (dC .non))
    (dNext)) (dNext))
    (dNext))))))
    (dSeq (dRet (dTup (dCons (dVar 4) (dCons (dCB cTuple (dCons (dVar 6) (dNil))) (dNil)))))
    (dNext)))))
theorem p__law_grown {C : NF → DFp → Prop} {us : List U} {h : HU} {q : DV} {y : DXK} {bk ct : SU → HU → Prop} (hs : sp__law_grown C us h q y) : t__law_grown C ⟨fun _ h' => WkV q .non h', WkV q, bk, ct⟩ (startN 10 us) h := by
  obtain ⟨R, dec, enc, key, Sr, f, many, first, F, sF, most, rfl, hF, A, hfirst, hmany, hmost, hnone, hsome⟩ := hs
  show t__law_grown _ _ [some (enc first), some (.int many), some (.clo F), some (.int most), none, none, none, none, none, none] h
  unfold t__law_grown
  have S := Sep.nil h
  repeat infer_instance
  refine k_new S fun pc h1 S => ?_
  repeat infer_instance
  refine k_disT (A.kt first) ?_
  refine k_new S fun pn h2 S => ?_
  repeat infer_instance
  refine k_new S fun pm h3 S => ?_
  repeat infer_instance
  refine s_while (fun m s h' => ∃ came moves, s = [some (enc first), some (.int many), some (.clo F), some (.int most), some (.ref pc), some (.ref pn), some (.ref pm), none, none, none] ∧
    Sep h [(pm, .lst (moves.map tupN)), (pn, .dT (kvsFrom key 0 came)), (pc, .lst (came.map enc))] h' ∧ (∀ r ∈ came, Sr r) ∧ moves.length ≤ came.length ∧ (came.length : Int) ≤ 1000001 ∧ ((came.length : Int) ≤ most ∨ moves.length = 0 ∧ came.length = 1) ∧ (∀ res, GrowR f many most came moves res → GrowR f many most [first] [] res) ∧
    m + moves.length = most.toNat + 2) (most.toNat + 2) ⟨[first], [], rfl, S, fun r hr => by rw [List.mem_singleton.mp hr]; exact hfirst, by simp, by simp, .inr ⟨rfl, rfl⟩, fun _ z => z, rfl⟩ ?_
  rintro m s h4 ⟨came, moves, rfl, S, hin, hle, hbig, hmo, hgr, hm⟩
  repeat infer_instance
  rw [List.length_map, List.length_map]
  refine if_d (fun hlt => ?_) (fun hge => ?_)
  · have hlt' : moves.length < came.length := by omega
    have er : came[moves.length]? = some came[moves.length] := List.getElem?_eq_getElem hlt'
    generalize came[moves.length] = room at er
    have hroom : Sr room := hin room (List.mem_of_getElem? er)
    repeat infer_instance
    refine k_new S fun pf h5 S => ?_
    repeat infer_instance
    refine k_rngN (by omega) ?_
    refine f_invA (List.range many) (fun k => U.int (k : Nat)) (rng_map many) (fun k s h' => s = [some (enc first), some (.int many), some (.clo F), some (.int most), some (.ref pc), some (.ref pn), some (.ref pm), some (.ref pf), none, none] ∧
      Sep h [(pf, .lst ((rowTo f room came k).2.map fun n => U.int (n : Nat))), (pm, .lst (moves.map tupN)), (pn, .dT (kvsFrom key 0 (rowTo f room came k).1)), (pc, .lst ((rowTo f room came k).1.map enc))] h') ⟨rfl, S⟩ (fun _ _ _ _ => True.intro) ?_ ?_
    · rintro k k' ek s h6 ⟨rfl, S⟩
      have hk := (List.getElem?_eq_some_iff.mp ek).1
      rw [List.length_range] at hk
      rw [List.getElem?_range hk] at ek
      cases ek
      have ri := rowI f room came k
      obtain ⟨⟨more, emore, lmore⟩, -, rlen, -, -⟩ := ri
      have clen : (rowTo f room came k).1.length ≤ came.length + k := by
        rw [emore, List.length_append]
        omega
      have er2 : (rowTo f room came k).1[moves.length]? = some room := by
        rw [emore]
        exact get_app er
      repeat infer_instance
      refine v_callR rfl ?_
      repeat infer_instance
      rw [List.length_map]
      refine l_ix (S.lget 3 rfl) (atN (y := enc room) (by rw [List.getElem?_map, er2]; rfl)) ?_
      repeat infer_instance
      refine ⟨sF, hF, A.on room hroom k hk h6 _ S.fr fun h7 S7 => ?_⟩
      have S := S.more S7
      repeat infer_instance
      have turn := grow_turn (f := f) (room := room) (came0 := came) (k := k) _ rfl
      refine kt_nin (S.get 2 rfl) (A.kt _) ?_
      rw [kvs_val A.inj]
      repeat infer_instance
      cases eix : ixOf (rowTo f room came k).1 (f room k) with
      | some i =>
        rw [eix] at turn
        refine if_f rfl ?_
        repeat infer_instance
        refine kt_ix (u := U.int (i : Nat)) (S.get 2 rfl) (A.kt _) (by rw [kvs_val A.inj, eix]; show some (U.int ((0 + i : Nat) : Int)) = _; rw [Nat.zero_add]) ?_
        repeat infer_instance
        refine m_app S 0 rfl (szl (by rw [List.length_map, rlen]; omega)) fun h8 S => ?_
        repeat infer_instance
        refine wk ?_ ⟨rfl, ?_⟩
        · repeat infer_instance
        · rw [turn]
          show Sep h [(pf, .lst (((rowTo f room came k).2 ++ [i]).map fun n => U.int (n : Nat))), _, _, _] h8
          rw [List.map_append]
          exact S
      | none =>
        rw [eix] at turn
        refine if_t rfl ?_
        repeat infer_instance
        rw [List.length_map]
        refine o_setT S 2 rfl (A.kt _) (szl (by rw [kvs_len]; omega)) fun h8 S => ?_
        repeat infer_instance
        refine m_app S 3 rfl (szl (by rw [List.length_map]; omega)) fun h9 S => ?_
        have eput := kvs_put A.inj 0 (rowTo f room came k).1 (f room k) (ixOf_none eix)
        rw [Nat.zero_add] at eput
        rw [eput] at S
        repeat infer_instance
        refine kt_ix (u := U.int ((rowTo f room came k).1.length : Nat)) (S.get 2 rfl) (A.kt _) ?_ ?_
        · rw [← eput]
          exact valU_put
        repeat infer_instance
        refine m_app S 0 rfl (szl (by rw [List.length_map, rlen]; omega)) fun h10 S => ?_
        repeat infer_instance
        refine wk ?_ ⟨rfl, ?_⟩
        · repeat infer_instance
        · rw [turn]
          show Sep h [(pf, .lst (((rowTo f room came k).2 ++ [(rowTo f room came k).1.length]).map fun n => U.int (n : Nat))), _, _, (pc, .lst (((rowTo f room came k).1 ++ [f room k]).map enc))] h10
          rw [List.map_append, List.map_append]
          exact S
    · rintro s h6 ⟨rfl, S⟩
      rw [List.length_range] at S
      obtain ⟨⟨more, emore, lmore⟩, -, rlen, -, rfrom⟩ := rowI f room came many
      have clen : (rowTo f room came many).1.length ≤ came.length + many := by
        rw [emore, List.length_append]
        omega
      have clen2 : came.length ≤ (rowTo f room came many).1.length := by
        rw [emore, List.length_append]
        omega
      repeat infer_instance
      refine m_app S 1 rfl (szl (by rw [List.length_map]; omega)) fun h7 S => ?_
      repeat infer_instance
      rw [List.length_map]
      refine if_d (fun hov => ?_) (fun hov => ?_)
      · repeat infer_instance
        exact .of (hnone (hgr _ (.over er hov)) _ (S.pick []))
      · repeat infer_instance
        refine wk ?_ ⟨m - 1, by omega, (rowTo f room came many).1, moves ++ [(rowTo f room came many).2], rfl, ?_, ?_, ?_, by omega, .inl (by omega), fun res gr => hgr res (.step er (by omega) gr), ?_⟩
        · repeat infer_instance
        · rw [List.map_append]
          exact S.pick [1, 2, 3]
        · intro r hr
          rcases rfrom r hr with z | ⟨k, hk, rfl⟩
          · exact hin r z
          · exact A.cl room hroom k hk
        · rw [List.length_append]
          simp only [List.length_singleton]
          omega
        · rw [List.length_append]
          simp only [List.length_singleton]
          omega
  · have hnone' : came[moves.length]? = none := List.getElem?_eq_none_iff.mpr (by omega)
    have hfin := hsome came moves (hgr _ (.done hnone'))
    repeat infer_instance
    exact .of (hfin pc _ (S.pick [2]))
/-! ### the rings of a map -/
def itN (f : Nat → Nat) : Nat → Nat → Nat
  | 0, r => r
  | k + 1, r => f (itN f k r)
theorem itN_add (f : Nat → Nat) (a : Nat) : ∀ b i, itN f (a + b) i = itN f b (itN f a i)
  | 0, i => rfl
  | b + 1, i => congrArg f (itN_add f a b i)
theorem itN_lt {f : Nat → Nat} {n : Nat} (hf : ∀ r, r < n → f r < n) {i : Nat} (hi : i < n) : ∀ k, itN f k i < n
  | 0 => hi
  | k + 1 => hf _ (itN_lt hf hi k)
theorem itN_period {f : Nat → Nat} {n : Nat} (hf : ∀ r, r < n → f r < n) {i : Nat} (hi : i < n) : ∃ p, 1 ≤ p ∧ p ≤ n ∧ itN f p (itN f n i) = itN f n i := by
  have two : ∃ a b, a < b ∧ b ≤ n ∧ itN f a i = itN f b i := by
    refine Classical.byContradiction fun hne => ?_
    have nd : ((List.range (n + 1)).map fun k => itN f k i).Nodup := by
      rw [List.Nodup, List.pairwise_map]
      refine List.Pairwise.imp_of_mem (fun {a b} ha hb hab e => ?_) (List.nodup_range (n := n + 1))
      have ha' := List.mem_range.mp ha
      have hb' := List.mem_range.mp hb
      rcases Nat.lt_or_gt_of_ne hab with z | z
      · exact hne ⟨a, b, z, by omega, e⟩
      · exact hne ⟨b, a, z, by omega, e.symm⟩
    have := nodup_sub nd (m := List.range n) fun x hx => by
      obtain ⟨k, _, rfl⟩ := List.mem_map.mp hx
      exact List.mem_range.mpr (itN_lt hf hi k)
    rw [List.length_map, List.length_range, List.length_range] at this
    omega
  obtain ⟨a, b, hab, hb, e⟩ := two
  refine ⟨b - a, by omega, by omega, ?_⟩
  rw [← itN_add, show n + (b - a) = b + (n - a) by omega, itN_add, ← e, ← itN_add, show a + (n - a) = n by omega]
structure RingAt (f : Nat → Nat) (n i m : Nat) : Prop where
  ex : ∃ k, m = itN f (n + k) i
  le : ∀ k, m ≤ itN f (n + k) i
theorem RingAt.next {f : Nat → Nat} {n i m m' : Nat} (hf : ∀ r, r < n → f r < n) (hi : i < n) (a : RingAt f n i m) (b : RingAt f n (f i) m') : m = m' := by
  have sh : ∀ k, itN f k (f i) = itN f (k + 1) i := fun k => by
    have := itN_add f 1 k i
    rw [Nat.add_comm] at this
    exact this.symm
  obtain ⟨k, ek⟩ := a.ex
  obtain ⟨k', ek'⟩ := b.ex
  have le1 : m ≤ m' := by
    rw [ek', sh]
    exact a.le (k' + 1)
  have le2 : m' ≤ m := by
    cases k with
    | succ k =>
      rw [ek]
      have := b.le k
      rw [sh] at this
      exact this
    | zero =>
      obtain ⟨p, p1, p2, ep⟩ := itN_period hf hi
      have := b.le (p - 1)
      rw [sh, show n + (p - 1) + 1 = n + p by omega, itN_add, ep] at this
      rw [ek]
      exact this
  omega
/-- where the noughts lead -/
def nx0 (moves : List (List Nat)) (r : Nat) : Nat := ((moves[r]?).bind fun l => l[0]?).getD 0
structure Map0 (moves : List (List Nat)) : Prop where
  at_ : ∀ r, r < moves.length → ∃ l a, moves[r]? = some l ∧ l[0]? = some a ∧ a < moves.length
theorem Map0.nx {moves : List (List Nat)} (M : Map0 moves) {r : Nat} (h : r < moves.length) : ∃ l, moves[r]? = some l ∧ l[0]? = some (nx0 moves r) ∧ nx0 moves r < moves.length := by
  obtain ⟨l, a, e1, e2, e3⟩ := M.at_ r h
  have : nx0 moves r = a := by
    unfold nx0
    rw [e1]
    show (l[0]?).getD 0 = a
    rw [e2]
    rfl
  rw [this]
  exact ⟨l, e1, e2, e3⟩
theorem intsU_nat : ∀ l : List Nat, intsU (l.map fun n => U.int (n : Nat)) = some (l.map fun n => ((n : Nat) : Int))
  | [] => rfl
  | n :: l => by
    rw [List.map_cons]
    show (intsU (l.map fun n => U.int (n : Nat))).map (((n : Nat) : Int) :: ·) = _
    rw [intsU_nat l]
    rfl
theorem l_min {p : Addr} {h : HU} {Q : DV} (l : List Nat) (e : lstU h p = some (l.map fun n => U.int (n : Nat))) (ne : 0 < l.length) (k : ∀ m ∈ l, (∀ y ∈ l, m ≤ y) → Q (.int (m : Nat)) h) : cMin [.ref p] h Q := by
  refine ⟨_, l.map fun n => ((n : Nat) : Int), e, intsU_nat l, by rw [List.length_map]; exact ne, fun m hm hle => ?_⟩
  obtain ⟨n, hn, rfl⟩ := List.mem_map.mp hm
  refine k n hn fun y hy => ?_
  have := hle (y : Int) (List.mem_map.mpr ⟨y, hy, rfl⟩)
  omega
def sp__law_rings : DP := fun us h q _ => ∃ p moves, us = [.ref p] ∧ lstU h p = some (moves.map tupN) ∧ Map0 moves ∧ moves.length ≤ 1000 ∧
  ∀ rs : List Nat, rs.length = moves.length → (∀ i m, rs[i]? = some m → RingAt (nx0 moves) moves.length i m) → ∀ r h', Sep h [(r, .lst (rs.map fun n => U.int (n : Nat)))] h' → q (.ref r) h'
def t__law_rings : DS := dSeq (dAsg (dLst (dNil)) (gNm 1))
    (dSeq (dFor (iRng1 (dCons (dCB cLen (dCons (dVar 0) (dNil))) (dNil))) (gNm 2) (dSeq (dAsg (dVar 2) (gNm 3))
    (dSeq (dFor (iAny (dVar 0)) (gNm 4) (dSeq (dAsg (dOp oIx (dOp oIx (dVar 0) (dVar 3)) (dC (.int 0))) (gNm 3))
    (dNext)))
    (dSeq (dAsg (dLst (dCons (dVar 3) (dNil))) (gNm 5))
    (dSeq (dWhile (dB (dOp oNe (dOp oIx (dOp oIx (dVar 0) (dOp oIx (dVar 5) (dUn oNeg (dC (.int 1))))) (dC (.int 0))) (dVar 3))) (dSeq (dDrop (dBM isLst mAppend (dVar 5) (dCons (dOp oIx (dOp oIx (dVar 0) (dOp oIx (dVar 5) (dUn oNeg (dC (.int 1))))) (dC (.int 0))) (dNil))))
    (dNext)))
    (dSeq (dDrop (dBM isLst mAppend (dVar 1) (dCons (dCB cMin (dCons (dVar 5) (dNil))) (dNil))))
    (dNext)))))))
    (dSeq (dRet (dVar 1))
    (dNext)))
theorem p__law_rings {us : List U} {h : HU} {q : DV} {y : DXK} {bk ct : SU → HU → Prop} (hs : sp__law_rings us h q y) : t__law_rings ⟨fun _ h' => WkV q .non h', WkV q, bk, ct⟩ (startN 6 us) h := by
  obtain ⟨p, moves, rfl, hp, M, hl, hq⟩ := hs
  show t__law_rings _ [some (.ref p), none, none, none, none, none] h
  unfold t__law_rings
  have S := Sep.nil h
  have hf : ∀ r, r < moves.length → nx0 moves r < moves.length := fun r hr => by
    obtain ⟨l, _, _, z⟩ := M.nx hr
    exact z
  -- moves[r][0]
  have look : ∀ (r : Nat) (h1 : HU) (Q : DV), r < moves.length → (∀ a o, h a = some o → h1 a = some o) → Q (.int (nx0 moves r : Nat)) h1 → oIx (.ref p) (.int r) h1 fun x h2 => oIx x (.int 0) h2 Q := fun r h1 Q hr m k => by
    obtain ⟨l, e1, e2, _⟩ := M.nx hr
    refine l_ix (lstU_mono m hp) (atN (y := tupN l) (by rw [List.getElem?_map, e1]; rfl)) ?_
    refine t_ix (x := .int (nx0 moves r : Nat)) ?_ k
    have e3 : (l.map fun n => U.int (n : Nat))[0]? = some (.int (nx0 moves r : Nat)) := by rw [List.getElem?_map, e2]; rfl
    exact atN (n := 0) e3
  repeat infer_instance
  refine k_new S fun pf h1 S => ?_
  repeat infer_instance
  refine l_len (lstU_mono S.fr hp) ?_
  rw [List.length_map]
  repeat infer_instance
  refine k_rngN (by omega) ?_
  refine f_invA (List.range moves.length) (fun k => U.int (k : Nat)) (rng_map _) (fun i s h' => ∃ rs : List Nat, s = [some (.ref p), some (.ref pf), none, none, none, none] ∧ rs.length = i ∧ (∀ i m, rs[i]? = some m → RingAt (nx0 moves) moves.length i m) ∧ Sep h [(pf, .lst (rs.map fun n => U.int (n : Nat)))] h')
    ⟨[], rfl, rfl, (fun _ _ z => by simp at z), S⟩ (fun _ _ _ _ => True.intro) ?_ ?_
  · rintro i i' ei s h2 ⟨rs, rfl, hrl, hrs, S⟩
    have hi := (List.getElem?_eq_some_iff.mp ei).1
    rw [List.length_range] at hi
    rw [List.getElem?_range hi] at ei
    cases ei
    repeat infer_instance
    refine k_anyL (lstU_mono S.fr hp) ?_
    refine f_invA moves tupN rfl (fun k s h' => s = [some (.ref p), some (.ref pf), some (.int i), some (.int (itN (nx0 moves) k i : Nat)), none, none] ∧ Sep h [(pf, .lst (rs.map fun n => U.int (n : Nat)))] h') ⟨rfl, S⟩ (fun _ _ _ z => lstU_mono z.2.fr hp) ?_ ?_
    · rintro k l ek s h3 ⟨rfl, S⟩
      repeat infer_instance
      refine look _ _ _ (itN_lt hf hi k) S.fr ?_
      repeat infer_instance
      refine wk ?_ ⟨rfl, S⟩
      show SubS [_, _, _, some (.int (nx0 moves (itN (nx0 moves) k i) : Nat)), _, _] _
      repeat infer_instance
    · rintro s h3 ⟨rfl, S⟩
      have hat := itN_lt hf hi moves.length
      obtain ⟨per, p1, p2, ep⟩ := itN_period hf hi
      generalize eat : itN (nx0 moves) moves.length i = at_ at hat ep ⊢
      repeat infer_instance
      refine k_new S fun pr h4 S => ?_
      repeat infer_instance
      have last : ∀ j, (List.range (j + 1)).map (fun k => U.int (itN (nx0 moves) k at_ : Nat)) = (List.range j).map (fun k => U.int (itN (nx0 moves) k at_ : Nat)) ++ [U.int (itN (nx0 moves) j at_ : Nat)] := fun j => by rw [List.range_succ, List.map_append]; rfl
      refine s_while (fun m s h' => ∃ j, s = [some (.ref p), some (.ref pf), some (.int i), some (.int (at_ : Nat)), none, some (.ref pr)] ∧ j + 1 ≤ per ∧ m = per - j ∧ Sep h [(pr, .lst ((List.range (j + 1)).map fun k => U.int (itN (nx0 moves) k at_ : Nat))), (pf, .lst (rs.map fun n => U.int (n : Nat)))] h') per
        ⟨0, rfl, p1, rfl, S⟩ ?_
      rintro m s h5 ⟨j, rfl, hj, rfl, S⟩
      have atl : atI ((List.range (j + 1)).map fun k => U.int (itN (nx0 moves) k at_ : Nat)) (-1) = some (U.int (itN (nx0 moves) j at_ : Nat)) := by
        rw [last j]
        exact atLast
      repeat infer_instance
      refine l_ix (S.lget 0 rfl) atl ?_
      refine look _ _ _ (itN_lt hf hat j) S.fr ?_
      repeat infer_instance
      refine if_n (fun hne => ?_) (fun he => ?_)
      · repeat infer_instance
        refine l_ix (S.lget 0 rfl) atl ?_
        refine look _ _ _ (itN_lt hf hat j) S.fr ?_
        repeat infer_instance
        refine m_app S 0 rfl (szl (by rw [List.length_map, List.length_range]; omega)) fun h6 S => ?_
        repeat infer_instance
        refine wk ?_ ⟨per - (j + 1), by omega, j + 1, rfl, ?_, rfl, ?_⟩
        · repeat infer_instance
        · have : j + 1 ≠ per := fun z => hne (by rw [z.symm] at ep; exact congrArg _ ep)
          omega
        · rw [last (j + 1)]
          exact S
      · have he' : itN (nx0 moves) (j + 1) at_ = at_ := by
          have : ((itN (nx0 moves) (j + 1) at_ : Nat) : Int) = at_ := he
          omega
        have cyc : ∀ k, ∃ k', k' < j + 1 ∧ itN (nx0 moves) k at_ = itN (nx0 moves) k' at_ := by
          intro k
          induction k with
          | zero => exact ⟨0, by omega, rfl⟩
          | succ k ih =>
            obtain ⟨k', h1, h2⟩ := ih
            by_cases q : k' + 1 < j + 1
            · exact ⟨k' + 1, q, congrArg (nx0 moves) h2⟩
            · have : k' = j := by omega
              subst this
              exact ⟨0, by omega, (congrArg (nx0 moves) h2).trans he'⟩
        repeat infer_instance
        refine l_min ((List.range (j + 1)).map fun k => itN (nx0 moves) k at_) ?_ ?_ fun m hm hle => ?_
        · rw [List.map_map]
          exact S.lget 0 rfl
        · rw [List.length_map, List.length_range]
          omega
        · obtain ⟨k, hk, rfl⟩ := List.mem_map.mp hm
          have ring : RingAt (nx0 moves) moves.length i (itN (nx0 moves) k at_) := ⟨⟨k, by rw [itN_add, eat]⟩, fun k2 => by
            rw [itN_add, eat]
            obtain ⟨k', h1, h2⟩ := cyc k2
            rw [h2]
            exact hle _ (List.mem_map.mpr ⟨k', List.mem_range.mpr h1, rfl⟩)⟩
          repeat infer_instance
          refine m_app S 1 rfl (szl (by rw [List.length_map]; omega)) fun h6 S => ?_
          repeat infer_instance
          refine wk ?_ ⟨rs ++ [itN (nx0 moves) k at_], rfl, by simp [hrl], fun i2 m2 e2 => ?_, ?_⟩
          · repeat infer_instance
          · by_cases q : i2 < rs.length
            · rw [List.getElem?_append_left q] at e2
              exact hrs i2 m2 e2
            · have hi2 : i2 = rs.length := by
                have := (List.getElem?_eq_some_iff.mp e2).1
                rw [List.length_append] at this
                simp at this
                omega
              subst hi2
              rw [List.getElem?_append_right (Nat.le_refl _)] at e2
              simp at e2
              subst e2
              rw [hrl]
              exact ring
          · rw [List.map_append]
            exact S.pick [1]
  · rintro s h2 ⟨rs, rfl, hrl, hrs, S⟩
    rw [List.length_range] at hrl
    repeat infer_instance
    exact .of (hq rs hrl hrs pf _ S)
end DL

set_option Elab.async false
set_option linter.all false
set_option maxRecDepth 100000
set_option maxHeartbeats 4000000
namespace DL
open PySem L2 NdefX LamX KG
local macro_rules | `(tactic| infer_instance) => `(tactic| with_reducible first | exact subS_nil | refine subS_same ?_ | refine subS_none ?_ | refine s_seq ?_ | refine s_asg ?_ | refine s_if ?_ | refine s_ret ?_ | refine s_retN ?_ | refine s_drop ?_ | refine s_for ?_ | refine s_next ?_ | refine s_break ?_ | refine s_cont ?_ | refine v_c ?_ | refine v_op ?_ | refine v_un ?_ | refine v_if ?_ | refine v_nil ?_ | refine v_cons ?_ | refine v_CB ?_ | refine v_BM0 ?_ | refine v_BM ?_ | refine v_call ?_ | refine v_B ?_ | refine k_bl ?_ | refine v_and ?_ | refine v_or ?_ | refine v_not ?_ | refine v_yes ?_ | refine v_andV ?_ | refine v_orV ?_ | refine k_and ?_ | refine k_or ?_ | refine v_rNot ?_ | refine w_any ?_ | refine k_anyT ?_ | refine k_anyS ?_ | refine w_rng1 ?_ | refine w_zip ?_ | refine v_lc ?_ | refine v_lst ?_ | refine v_rev ?_ | refine v_revS ?_ | refine v_noP ?_ | refine v_part ?_ | refine k_part ?_ | refine v_sl ?_ | refine t_sl ?_ | refine t_list ?_ | refine k_isT ?_ | refine g_sb ?_ | refine v_kv0 ?_ | refine v_kv ?_ | refine v_dis ?_ | refine v_disT ?_ | refine i_add ?_ | refine i_sub ?_ | refine i_neg ?_ | refine i_lt ?_ | refine i_le ?_ | refine i_gt ?_ | refine i_ge ?_ | refine i_eq ?_ | refine i_ne ?_ | refine s_eq ?_ | refine s_ne ?_ | refine b_eq ?_ | refine b_ne ?_ | refine n_is ?_ | refine n_not ?_ | refine t_len ?_ | refine t_tuple ?_ | refine i_abs ?_ | refine i_int ?_ | refine b_int ?_ | refine g_unp ?_ | refine g_nms0 ?_ | refine g_nmsS ?_ | refine g_nm0 ?_  | refine g_nm1 ?_  | refine g_nm2 ?_  | refine g_nm3 ?_  | refine g_nm4 ?_  | refine g_nm5 ?_  | refine g_nm6 ?_  | refine g_nm7 ?_  | refine g_nm8 ?_  | refine g_nm9 ?_  | refine g_nm10 ?_  | refine g_nm11 ?_  | refine g_nm12 ?_  | refine g_nm13 ?_  | refine g_nm14 ?_  | refine g_nm15 ?_  | refine g_nm16 ?_  | refine g_nm17 ?_  | refine g_nm18 ?_  | refine g_nm19 ?_  | refine g_nm20 ?_  | refine g_nm21 ?_  | refine g_nm22 ?_  | refine g_nm23 ?_  | refine g_nm24 ?_  | refine g_nm25 ?_  | refine g_nm26 ?_  | refine g_nm27 ?_  | refine g_nm28 ?_  | refine g_nm29 ?_  | refine g_nm30 ?_  | refine g_nm31 ?_)
local macro_rules | `(tactic| infer_instance) => `(tactic| first | ((with_reducible apply v_var); rfl) | ((with_reducible apply t_ix); rfl) | ((with_reducible apply l_len); (first | exact Sep.lget ‹_› 0 rfl | exact Sep.lget ‹_› 1 rfl | exact Sep.lget ‹_› 2 rfl | exact Sep.lget ‹_› 3 rfl | exact Sep.lget ‹_› 4 rfl | exact Sep.lget ‹_› 5 rfl | exact Sep.lget ‹_› 6 rfl | exact Sep.lget ‹_› 7 rfl))  | ((with_reducible apply l_tuple); (first | exact Sep.lget ‹_› 0 rfl | exact Sep.lget ‹_› 1 rfl | exact Sep.lget ‹_› 2 rfl | exact Sep.lget ‹_› 3 rfl | exact Sep.lget ‹_› 4 rfl | exact Sep.lget ‹_› 5 rfl | exact Sep.lget ‹_› 6 rfl | exact Sep.lget ‹_› 7 rfl))  | ((with_reducible apply k_anyL); (first | exact Sep.lget ‹_› 0 rfl | exact Sep.lget ‹_› 1 rfl | exact Sep.lget ‹_› 2 rfl | exact Sep.lget ‹_› 3 rfl | exact Sep.lget ‹_› 4 rfl | exact Sep.lget ‹_› 5 rfl | exact Sep.lget ‹_› 6 rfl | exact Sep.lget ‹_› 7 rfl)) | ((with_reducible apply k_isL); (first | exact Sep.lget ‹_› 0 rfl | exact Sep.lget ‹_› 1 rfl | exact Sep.lget ‹_› 2 rfl | exact Sep.lget ‹_› 3 rfl | exact Sep.lget ‹_› 4 rfl | exact Sep.lget ‹_› 5 rfl | exact Sep.lget ‹_› 6 rfl | exact Sep.lget ‹_› 7 rfl))  | ((with_reducible apply l_list); (first | exact Sep.lget ‹_› 0 rfl | exact Sep.lget ‹_› 1 rfl | exact Sep.lget ‹_› 2 rfl | exact Sep.lget ‹_› 3 rfl | exact Sep.lget ‹_› 4 rfl | exact Sep.lget ‹_› 5 rfl | exact Sep.lget ‹_› 6 rfl | exact Sep.lget ‹_› 7 rfl))  | ((with_reducible apply k_rev); (first | exact Sep.lget ‹_› 0 rfl | exact Sep.lget ‹_› 1 rfl | exact Sep.lget ‹_› 2 rfl | exact Sep.lget ‹_› 3 rfl | exact Sep.lget ‹_› 4 rfl | exact Sep.lget ‹_› 5 rfl | exact Sep.lget ‹_› 6 rfl | exact Sep.lget ‹_› 7 rfl))  | ((with_reducible apply l_sl); (first | exact Sep.lget ‹_› 0 rfl | exact Sep.lget ‹_› 1 rfl | exact Sep.lget ‹_› 2 rfl | exact Sep.lget ‹_› 3 rfl | exact Sep.lget ‹_› 4 rfl | exact Sep.lget ‹_› 5 rfl | exact Sep.lget ‹_› 6 rfl | exact Sep.lget ‹_› 7 rfl)) | (with_reducible refine v_tup ?_) | (with_reducible refine And.intro (szb rfl) ?_) | (dsimp only [wipeU, List.set]))
/-! ### words of small letters -/
def wd (l : List Nat) : Str := ⟨(l.map (· + 97)).toArray⟩
abbrev alpha : Str := "abcdefghijklmnopqrstuvwxyz"
theorem occ_all : ∀ d : Fin 26, Builtin.Str.occurrences alpha ⟨#[d.val + 97]⟩ 0 alpha.length 1 = [d.val] := by decide +kernel
theorem alpha_at : ∀ d : Fin 26, alpha.cps.toList[d.val]? = some (d.val + 97) := by decide +kernel
theorem alpha_len : alpha.length = 26 := by decide +kernel
theorem wd_app (a b : List Nat) : wd a ++ wd b = wd (a ++ b) := by
  show Str.mk (_ ++ _) = Str.mk _
  simp [wd]
theorem wd_len (a : List Nat) : (wd a).length = a.length := by
  show (wd a).cps.size = _
  simp [wd]
theorem wd_inj {a b : List Nat} (h : wd a = wd b) : a = b := by
  have e : (a.map (· + 97)).toArray = (b.map (· + 97)).toArray := congrArg Str.cps h
  have e2 : a.map (· + 97) = b.map (· + 97) := by simpa using congrArg Array.toList e
  exact (List.map_inj_right fun x y z => by omega).mp e2
theorem wd_rev (a : List Nat) : revS (wd a) = wd a.reverse := by
  unfold revS wd
  simp
theorem wd_cut (a : List Nat) (k : Nat) : cutS (wd a) none (some (k : Int)) = wd (a.take k) := by
  have hl : (wd a).length = a.length := wd_len a
  unfold cutS
  rw [hl, HT.sIx_none, HT.sIx_nat]
  unfold wd
  simp [List.map_take, List.take_eq_take_iff]
theorem wd_signs (a : List Nat) : signsU (wd a) = a.map fun d => U.str (wd [d]) := by
  unfold signsU wd
  simp
theorem wd_nil : wd [] = (⟨#[]⟩ : Str) := rfl
theorem wd_join : ∀ l : List Nat, Txt.join "" (l.map fun d => wd [d]) = wd l := by
  intro l
  show Builtin.Str.glued "" _ = _
  rw [StrLaws.glued_eq_join]
  have e0 : ("" : Str) = wd [] := by decide +kernel
  rw [e0]
  induction l with
  | nil => rfl
  | cons d l ih =>
    cases l with
    | nil => rfl
    | cons d2 l =>
      show wd [d] ++ wd [] ++ Str.join (wd []) ((d2 :: l).map fun d => wd [d]) = _
      rw [ih, wd_app, wd_app]
      rfl
theorem wd_ok (a : List Nat) (h : ∀ d ∈ a, d < 26) : PyData.strOk (wd a) = true := by
  unfold PyData.strOk wd
  simp only [List.all_toArray, List.all_map, List.all_eq_true]
  intro d hd
  have := h d hd
  simp
  omega
/-! ### the next word -/
def aftS (d : Nat) (p : List Nat × Nat) : List Nat × Nat := ((d + p.2) % 26 :: p.1, (d + p.2) / 26)
def aft (l : List Nat) : List Nat := ((l.foldr aftS ([], 1)).1 ++ List.replicate (l.foldr aftS ([], 1)).2 0).take 3
def okW (l : List Nat) : Prop := 1 ≤ l.length ∧ l.length ≤ 3 ∧ ∀ d ∈ l, d < 26
def idxW : List Nat → Nat
  | [a] => a
  | [a, b] => 26 + 26 * a + b
  | [a, b, c] => 702 + 676 * a + 26 * b + c
  | _ => 0
theorem okW_cases {l : List Nat} (h : okW l) : (∃ a, l = [a] ∧ a < 26) ∨ (∃ a b, l = [a, b] ∧ a < 26 ∧ b < 26) ∨ ∃ a b c, l = [a, b, c] ∧ a < 26 ∧ b < 26 ∧ c < 26 := by
  obtain ⟨h1, h2, h3⟩ := h
  match l, h1, h2, h3 with
  | [a], _, _, h3 => exact .inl ⟨a, rfl, h3 a (by simp)⟩
  | [a, b], _, _, h3 => exact .inr (.inl ⟨a, b, rfl, h3 a (by simp), h3 b (by simp)⟩)
  | [a, b, c], _, _, h3 => exact .inr (.inr ⟨a, b, c, rfl, h3 a (by simp), h3 b (by simp), h3 c (by simp)⟩)
  | _ :: _ :: _ :: _ :: _, _, h2, _ => simp at h2
theorem okW1 {a : Nat} (ha : a < 26) : okW [a] := ⟨by simp, by simp, fun d hd => by rw [List.mem_singleton.mp hd]; exact ha⟩
theorem okW2 {a b : Nat} (ha : a < 26) (hb : b < 26) : okW [a, b] := ⟨by simp, by simp, fun d hd => by
  rcases List.mem_cons.mp hd with z | z
  · omega
  · rw [List.mem_singleton.mp z]
    exact hb⟩
theorem okW3 {a b c : Nat} (ha : a < 26) (hb : b < 26) (hc : c < 26) : okW [a, b, c] := ⟨by simp, by simp, fun d hd => by
  rcases List.mem_cons.mp hd with z | z
  · omega
  · rcases List.mem_cons.mp z with z | z
    · omega
    · rw [List.mem_singleton.mp z]
      exact hc⟩
theorem aft_ok {l : List Nat} (h : okW l) : okW (aft l) ∧ ((idxW l = 18277 → idxW (aft l) = 702) ∧ (idxW l ≠ 18277 → idxW (aft l) = idxW l + 1)) ∧ idxW l < 18278 := by
  rcases okW_cases h with ⟨a, rfl, ha⟩ | ⟨a, b, rfl, ha, hb⟩ | ⟨a, b, c, rfl, ha, hb, hc⟩
  · by_cases q : a = 25
    · subst q
      have i1 : aft [25] = [0, 0] := rfl
      have i2 : idxW [25] = 25 := rfl
      have i3 : idxW [0, 0] = 26 := rfl
      rw [i1]
      exact ⟨okW2 (by omega) (by omega), ⟨fun z => by omega, fun z => by omega⟩, by omega⟩
    · skip
      have e : aft [a] = [a + 1] := by
        have e1 : (a + 1) % 26 = a + 1 := by omega
        have e2 : (a + 1) / 26 = 0 := by omega
        simp [aft, aftS, e1, e2]
      have i1 : idxW [a] = a := rfl
      have i2 : idxW [a + 1] = a + 1 := rfl
      rw [e]
      exact ⟨okW1 (by omega), ⟨fun z => by omega, fun z => by omega⟩, by omega⟩
  · by_cases q : b = 25
    · subst q
      by_cases q2 : a = 25
      · subst q2
        have i1 : aft [25, 25] = [0, 0, 0] := rfl
        have i2 : idxW [25, 25] = 701 := rfl
        have i3 : idxW [0, 0, 0] = 702 := rfl
        rw [i1]
        exact ⟨okW3 (by omega) (by omega) (by omega), ⟨fun z => by omega, fun z => by omega⟩, by omega⟩
      · skip
        have e : aft [a, 25] = [a + 1, 0] := by
          have e1 : (a + 1) % 26 = a + 1 := by omega
          have e2 : (a + 1) / 26 = 0 := by omega
          simp [aft, aftS, e1, e2]
        have i1 : idxW [a, 25] = 26 + 26 * a + 25 := rfl
        have i2 : idxW [a + 1, 0] = 26 + 26 * (a + 1) + 0 := rfl
        rw [e]
        exact ⟨okW2 (by omega) (by omega), ⟨fun z => by omega, fun z => by omega⟩, by omega⟩
    · skip
      have e : aft [a, b] = [a, b + 1] := by
        have e1 : (b + 1) % 26 = b + 1 := by omega
        have e2 : (b + 1) / 26 = 0 := by omega
        have e3 : a % 26 = a := by omega
        have e4 : a / 26 = 0 := by omega
        simp [aft, aftS, e1, e2, e3, e4]
      have i1 : idxW [a, b] = 26 + 26 * a + b := rfl
      have i2 : idxW [a, b + 1] = 26 + 26 * a + (b + 1) := rfl
      rw [e]
      exact ⟨okW2 (by omega) (by omega), ⟨fun z => by omega, fun z => by omega⟩, by omega⟩
  · by_cases q : c = 25
    · subst q
      by_cases q2 : b = 25
      · subst q2
        by_cases q3 : a = 25
        · subst q3
          have i1 : aft [25, 25, 25] = [0, 0, 0] := rfl
          have i2 : idxW [25, 25, 25] = 18277 := rfl
          have i3 : idxW [0, 0, 0] = 702 := rfl
          rw [i1]
          exact ⟨okW3 (by omega) (by omega) (by omega), ⟨fun z => by omega, fun z => by omega⟩, by omega⟩
        · skip
          have e : aft [a, 25, 25] = [a + 1, 0, 0] := by
            have e1 : (a + 1) % 26 = a + 1 := by omega
            have e2 : (a + 1) / 26 = 0 := by omega
            simp [aft, aftS, e1, e2]
          have i1 : idxW [a, 25, 25] = 702 + 676 * a + 26 * 25 + 25 := rfl
          have i2 : idxW [a + 1, 0, 0] = 702 + 676 * (a + 1) + 26 * 0 + 0 := rfl
          rw [e]
          exact ⟨okW3 (by omega) (by omega) (by omega), ⟨fun z => by omega, fun z => by omega⟩, by omega⟩
      · skip
        have e : aft [a, b, 25] = [a, b + 1, 0] := by
          have e1 : (b + 1) % 26 = b + 1 := by omega
          have e2 : (b + 1) / 26 = 0 := by omega
          have e3 : a % 26 = a := by omega
          have e4 : a / 26 = 0 := by omega
          simp [aft, aftS, e1, e2, e3, e4]
        have i1 : idxW [a, b, 25] = 702 + 676 * a + 26 * b + 25 := rfl
        have i2 : idxW [a, b + 1, 0] = 702 + 676 * a + 26 * (b + 1) + 0 := rfl
        rw [e]
        exact ⟨okW3 (by omega) (by omega) (by omega), ⟨fun z => by omega, fun z => by omega⟩, by omega⟩
    · skip
      have e : aft [a, b, c] = [a, b, c + 1] := by
        have e1 : (c + 1) % 26 = c + 1 := by omega
        have e2 : (c + 1) / 26 = 0 := by omega
        have e3 : a % 26 = a := by omega
        have e4 : a / 26 = 0 := by omega
        have e5 : b % 26 = b := by omega
        have e6 : b / 26 = 0 := by omega
        simp [aft, aftS, e1, e2, e3, e4, e5, e6]
      have i1 : idxW [a, b, c] = 702 + 676 * a + 26 * b + c := rfl
      have i2 : idxW [a, b, c + 1] = 702 + 676 * a + 26 * b + (c + 1) := rfl
      rw [e]
      exact ⟨okW3 (by omega) (by omega) (by omega), ⟨fun z => by omega, fun z => by omega⟩, by omega⟩
def itW (w : List Nat) : Nat → List Nat
  | 0 => w
  | j + 1 => aft (itW w j)
theorem itW_ok {w : List Nat} (h : okW w) : ∀ j, okW (itW w j)
  | 0 => h
  | j + 1 => (aft_ok (itW_ok h j)).1
theorem itW_idx {w : List Nat} (h : okW w) : ∀ j, j < 17576 → idxW (itW w j) = if idxW w + j < 18278 then idxW w + j else idxW w + j - 17576
  | 0, _ => by
    have := (aft_ok h).2.2
    show idxW w = _
    rw [if_pos (by omega)]
    rfl
  | j + 1, hj => by
    have ih := itW_idx h j (by omega)
    have a := (aft_ok (itW_ok h j)).2.1
    have b := (aft_ok h).2.2
    show idxW (aft (itW w j)) = _
    by_cases q : idxW w + j < 18278
    · rw [if_pos q] at ih
      by_cases q2 : idxW w + j = 18277
      · rw [a.1 (by omega), if_neg (by omega)]
        omega
      · rw [a.2 (by omega), if_pos (by omega)]
        omega
    · rw [if_neg q] at ih
      rw [a.2 (by omega), if_neg (by omega)]
      omega
theorem free_word {w : List Nat} (h : okW w) (B : List Str) (hB : B.length < 17000) : ∃ j, j ≤ B.length ∧ wd (itW w j) ∉ B := by
  refine Classical.byContradiction fun hne => ?_
  have all : ∀ j, j ≤ B.length → wd (itW w j) ∈ B := fun j hj => Classical.byContradiction fun z => hne ⟨j, hj, z⟩
  have nd : ((List.range (B.length + 1)).map fun j => wd (itW w j)).Nodup := by
    rw [List.Nodup, List.pairwise_map]
    refine List.Pairwise.imp_of_mem (fun {a b} ha hb hab e => hab ?_) (List.nodup_range (n := B.length + 1))
    have ha' := List.mem_range.mp ha
    have hb' := List.mem_range.mp hb
    have e2 := congrArg idxW (wd_inj e)
    rw [itW_idx h a (by omega), itW_idx h b (by omega)] at e2
    split at e2 <;> split at e2 <;> omega
  have := nodup_sub nd fun x hx => by
    obtain ⟨j, hj, rfl⟩ := List.mem_map.mp hx
    exact all j (by have := List.mem_range.mp hj; omega)
  rw [List.length_map, List.length_range] at this
  omega
def sp__law_after : DP := fun us h q _ => ∃ l, us = [.str (wd l)] ∧ okW l ∧ ∀ h', Sep h [] h' → q (.str (wd (aft l))) h'
def t__law_after : DS := dSeq (dAsg (dC (.str "abcdefghijklmnopqrstuvwxyz")) (gNm 1))
    (dSeq (dAsg (dC (.str "")) (gNm 2))
    (dSeq (dAsg (dC (.int 1)) (gNm 3))
    (dSeq (dFor (iAny (dRevS (dVar 0))) (gNm 4) (dSeq (dAsg (dOp oAdd (dBM isTxt mSidx (dVar 1) (dCons (dVar 4) (dNil))) (dVar 3)) (gNm 5))
    (dSeq (dAsg (dOp oAdd (dOp oIx (dVar 1) (dOp oMod (dVar 5) (dC (.int 26)))) (dVar 2)) (gNm 2))
    (dSeq (dAsg (dOp oDiv (dVar 5) (dC (.int 26))) (gNm 3))
    (dNext)))))
    (dSeq (dRet (dSl (dOp oAdd (dVar 2) (dOp oMulS (dC (.str "a")) (dVar 3))) (dNoP) (dPart (dC (.int 3)))))
    (dNext)))))
theorem s_alpha {d : Nat} {h : HU} {Q : DV} (hd : d < 26) (k : Q (.str (wd [d])) h) : oIx (.str alpha) (.int (d : Nat)) h Q := by
  refine s_ix (c := d + 97) (atN (alpha_at ⟨d, hd⟩)) ?_ k
  rw [alpha_len]
  decide
theorem p__law_after {us : List U} {h : HU} {q : DV} {y : DXK} {bk ct : SU → HU → Prop} (hs : sp__law_after us h q y) : t__law_after ⟨fun _ h' => WkV q .non h', WkV q, bk, ct⟩ (startN 6 us) h := by
  obtain ⟨l, rfl, ok, hq⟩ := hs
  show t__law_after _ [some (.str (wd l)), none, none, none, none, none] h
  unfold t__law_after
  have S := Sep.nil h
  have e0 : ("" : Str) = wd [] := by decide +kernel
  have ea : ("a" : Str) = wd [0] := by decide +kernel
  have hl3 := ok.2.1
  rw [e0, ea]
  repeat infer_instance
  refine k_revS (by rw [wd_len]; exact sz (by omega)) ?_
  rw [wd_rev]
  refine k_anyS ?_
  rw [wd_signs]
  refine f_invA l.reverse (fun d => U.str (wd [d])) rfl (fun i s h' => ∃ fd c, (l.reverse.take i).foldl (fun p d => aftS d p) ([], 1) = (fd, c) ∧ c ≤ 1 ∧ fd.length = min i l.length ∧ s = [some (.str (wd l)), some (.str alpha), some (.str (wd fd)), some (.int (c : Nat)), none, none] ∧ Sep h [] h') ⟨[], 1, rfl, by omega, by simp, rfl, S⟩ (fun _ _ _ _ => True.intro) ?_ ?_
  · rintro i d ed s h1 ⟨fd, c, ef, hc, hfl, rfl, S⟩
    have hd : d < 26 := ok.2.2 d (List.mem_reverse.mp (List.mem_of_getElem? ed))
    have hi := (List.getElem?_eq_some_iff.mp ed).1
    rw [List.length_reverse] at hi
    have e1 : ((d : Int) + (c : Int)) % 26 = (((d + c) % 26 : Nat) : Int) := by omega
    have e2 : ((d : Int) + (c : Int)) / 26 = (((d + c) / 26 : Nat) : Int) := by omega
    repeat infer_instance
    refine ⟨d, [], occ_all ⟨d, hd⟩, ?_⟩
    repeat infer_instance
    refine i_mod (by decide) ?_
    rw [e1]
    refine s_alpha (by omega) ?_
    repeat infer_instance
    refine s_add ?_ ?_
    · rw [wd_len, wd_len, List.length_singleton]
      exact sz (by omega)
    rw [wd_app]
    repeat infer_instance
    refine i_div (by decide) (by decide) ?_
    rw [e2]
    repeat infer_instance
    refine wk ?_ ⟨[(d + c) % 26] ++ fd, (d + c) / 26, ?_, by omega, ?_, rfl, S⟩
    · repeat infer_instance
    · rw [List.take_add_one, ed, List.foldl_append, ef]
      rfl
    · rw [List.length_append, List.length_singleton, hfl]
      omega
  · rintro s h1 ⟨fd, c, ef, hc, hfl, rfl, S⟩
    rw [List.take_length, List.foldl_reverse] at ef
    have ef' : l.foldr aftS ([], 1) = (fd, c) := ef
    have efin : aft l = (fd ++ List.replicate c 0).take 3 := by
      unfold aft
      rw [ef']
    repeat infer_instance
    have tail : oMulS (.str (wd [0])) (.int (c : Nat)) h1 fun y h2 => oAdd (.str (wd fd)) y h2 fun x h3 => oSl x none (some 3) h3 (WkV q) := by
      have fin : oAdd (.str (wd fd)) (.str (wd (List.replicate c 0))) h1 fun x h3 => oSl x none (some 3) h3 (WkV q) := by
        refine s_add ?_ ?_
        · rw [wd_len, wd_len, List.length_replicate]
          exact sz (by omega)
        rw [wd_app]
        refine s_sl ?_ ?_
        · rw [wd_len, List.length_append, List.length_replicate]
          exact sz (by omega)
        have := wd_cut (fd ++ List.replicate c 0) 3
        rw [show ((3 : Nat) : Int) = 3 from rfl] at this
        rw [this, ← efin]
        exact .of (hq _ S)
      have : c = 0 ∨ c = 1 := by omega
      rcases this with rfl | rfl
      · exact .inl ⟨rfl, fin⟩
      · exact .inr ⟨rfl, by rw [wd_len]; exact sz (by decide), fin⟩
    exact tail
/-! ### names -/
theorem strsU_str : ∀ l : List Str, strsU (l.map U.str) = some l
  | [] => rfl
  | x :: l => by
    rw [List.map_cons]
    show (strsU (l.map U.str)).map (x :: ·) = _
    rw [strsU_str l]
    rfl
theorem l_sortA {x : U} {h : HU} {Q : DV} (l : List Str) (e : srcU h x = some (l.map U.str)) (n : noStr x = true) (k : ∀ l' : List Str, l'.Perm l → PyProof.Rows.sortedS l' = true → kNew (.lst (l'.map U.str)) Q h) : cSortA [x] h Q := by
  cases x with
  | str z => cases n
  | _ => exact ⟨_, l, e, strsU_str l, fun l' a b => k l' a b⟩
def sp__law_names : DP := fun us h q _ => ∃ g0 L p m, us = [.ref p, .int (m : Nat)] ∧ Feed g0 p L h ∧ m ≤ 100 ∧
  ∀ ns : List Str, ns.length = m → ns.Nodup → (∀ n ∈ ns, ∃ w, okW w ∧ n = wd w) → PyProof.Rows.sortedS ns = true → ∀ h', Feed g0 p L h' → q (.tup (ns.map U.str)) h'
def t__law_names : DS := dSeq (dAsg (dLst (dNil)) (gNm 2))
    (dSeq (dFor (iRng1 (dCons (dVar 1) (dNil))) (gNm 3) (dSeq (dAsg (dLc (iRng1 (dCons (dOp oAdd (dC (.int 1)) (dCall sp__law_draw [] x0 (dCons (dVar 0) (dCons (dC (.int 3)) (dNil))))) (dNil))) (gNm 6) dYes (dCall sp__law_draw [] x0 (dCons (dVar 0) (dCons (dC (.int 26)) (dNil)))) [6]) (gNm 4))
    (dSeq (dAsg (dBM isTxt mJoin (dC (.str "")) (dCons (dLc (iAny (dVar 4)) (gNm 6) dYes (dOp oIx (dC (.str "abcdefghijklmnopqrstuvwxyz")) (dVar 6)) [6]) (dNil))) (gNm 5))
    (dSeq (dWhile (dOr (dB (dOp oIn (dVar 5) (dVar 2))) (dB (dOp oIn (dVar 5) (dTup (dCons (dC (.str "and")) (dCons (dC (.str "not")) (dCons (dC (.str "or")) (dNil)))))))) (dSeq (dAsg (dCall sp__law_after [] x0 (dCons (dVar 5) (dNil))) (gNm 5))
    (dNext)))
    (dSeq (dDrop (dBM isLst mAppend (dVar 2) (dCons (dVar 5) (dNil))))
    (dNext))))))
    (dSeq (dRet (dCB cTuple (dCons (dCB cSortA (dCons (dVar 2) (dNil))) (dNil))))
    (dNext)))
abbrev kwds : List Str := ["and", "not", "or"]
theorem rng_mapc (n : Nat) (m : Int) (e : m = n) : rngU 0 m.toNat = (List.range n).map fun (i : Nat) => U.int (i : Int) := by
  subst e
  rw [Int.toNat_natCast]
  exact rng_map n
theorem u_draw {g0 : HU} {L : List (Addr × UO)} {p : Addr} {m : Nat} {h : HU} {Q : DV} {y : DXK} (F : Feed g0 p L h) (m1 : 1 ≤ m) (m2 : m < 1073741824) (k : ∀ r : Nat, r < m → ∀ h', Feed g0 p L h' → Q (.int r) h') : sp__law_draw [.ref p, .int (m : Nat)] h Q y := ⟨g0, L, p, m, rfl, F, m1, m2, k⟩
theorem l_join {p : Addr} {h : HU} {Q : DV} (l : List Nat) (e : lstU h p = some (l.map fun d => U.str (wd [d]))) (hl : l.length ≤ 1000000) (k : Q (.str (wd l)) h) : mJoin (.str "") [.ref p] h Q := by
  have e2 : l.map (fun d => U.str (wd [d])) = (l.map fun d => wd [d]).map U.str := by rw [List.map_map]; rfl
  rw [e2] at e
  refine ⟨_, l.map fun d => wd [d], e, strsU_str _, ?_, ?_⟩
  · have h1 : ((l.map fun d => wd [d]).map (·.length)).sum = l.length := by
      rw [List.map_map]
      have : ((fun x : Str => x.length) ∘ fun d => wd [d]) = fun _ => 1 := funext fun d => wd_len [d]
      rw [this]
      simp only [List.map_const', List.sum_replicate_nat, Nat.mul_one]
    have h2 : ("" : Str).length = 0 := by decide +kernel
    rw [h1, h2]
    omega
  · rw [wd_join]
    exact k
theorem p__law_names {us : List U} {h : HU} {q : DV} {y : DXK} {bk ct : SU → HU → Prop} (hs : sp__law_names us h q y) : t__law_names ⟨fun _ h' => WkV q .non h', WkV q, bk, ct⟩ (startN 7 us) h := by
  obtain ⟨g0, L, p, m, rfl, ⟨l, n, sd, gs, fi, S⟩, hm, hq⟩ := hs
  show t__law_names _ [some (.ref p), some (.int m), none, none, none, none, none] h
  obtain ⟨g, S, -, -, back⟩ := Sep.call (pre := [(p, feedO l n sd), (l, .lst (gs.map U.int))]) (rest := L) S
  have hq' : ∀ ns : List Str, ns.length = m → ns.Nodup → (∀ n ∈ ns, ∃ w, okW w ∧ n = wd w) → PyProof.Rows.sortedS ns = true → ∀ h', Feed g p [] h' → q (.tup (ns.map U.str)) h' := fun ns a b c d h' ⟨l, n, sd, gs, fi, S⟩ => hq ns a b c d h' ⟨l, n, sd, gs, fi, back _ _ S⟩
  unfold t__law_names
  repeat infer_instance
  refine k_new S fun pf h1 S => ?_
  repeat infer_instance
  refine k_rngN (by omega) ?_
  refine f_invA (List.range m) (fun k => U.int (k : Nat)) (rng_map m) (fun i s h' => ∃ fs : List (List Nat), s = [some (.ref p), some (.int m), some (.ref pf), none, none, none, none] ∧ fs.length = i ∧ (∀ w ∈ fs, okW w) ∧ (fs.map wd).Nodup ∧ Feed g p [(pf, .lst ((fs.map wd).map U.str))] h')
    ⟨[], rfl, rfl, (fun _ z => nomatch z), List.nodup_nil, l, n, sd, gs, fi, S.pick [1, 2, 0]⟩ (fun _ _ _ _ => True.intro) ?_ ?_
  · rintro i i' ei s h2 ⟨fs, rfl, hfl, hfo, hnd, F⟩
    have hi := (List.getElem?_eq_some_iff.mp ei).1
    rw [List.length_range] at hi
    repeat infer_instance
    refine u_draw (m := 3) F (by decide) (by decide) fun r hr h3 F => ?_
    repeat infer_instance
    refine k_rng1 (by omega) (by omega) ?_
    refine lc_inv (List.range (r + 1)) (fun k => U.int (k : Nat)) (rng_mapc (r + 1) _ (by omega)) (fun j acc h' => ∃ ds : List Nat, acc = (ds.map fun d => U.int (d : Nat)) ∧ ds.length = j ∧ (∀ d ∈ ds, d < 26) ∧ Feed g p [(pf, .lst ((fs.map wd).map U.str))] h') (szl (by rw [List.length_range]; omega))
      ⟨[], rfl, rfl, (fun _ z => nomatch z), F⟩ (fun _ _ _ _ => True.intro) ?_ ?_
    · rintro j j' ej acc h4 ⟨ds, rfl, hdl, hds, F⟩
      repeat infer_instance
      refine if_t rfl ?_
      repeat infer_instance
      refine u_draw (m := 26) F (by decide) (by decide) fun d hd h5 F => ?_
      refine WkH.of ⟨ds ++ [d], by rw [List.map_append]; rfl, by simp [hdl], fun x hx => ?_, F⟩
      rcases List.mem_append.mp hx with z | z
      · exact hds x z
      · rw [List.mem_singleton.mp z]
        exact hd
    · rintro acc h4 ⟨ds, rfl, hdl, hds, ⟨l, n, sd, gs, fi, S⟩⟩
      rw [List.length_range] at hdl
      refine k_new S fun ps h5 S => ?_
      repeat infer_instance
      refine lc_mapA ds (fun d => U.int (d : Nat)) rfl (fun d => U.str (wd [d])) (szl (by omega)) (S.lget 0 rfl) (fun d hd C N hC => ?_) ?_
      · repeat infer_instance
        refine if_t rfl ?_
        repeat infer_instance
        exact s_alpha (hds d hd) hC
      refine k_new S fun pj h6 S => ?_
      repeat infer_instance
      refine l_join ds (S.lget 0 rfl) (by omega) ?_
      repeat infer_instance
      have okd : okW ds := ⟨by omega, by omega, hds⟩
      have S : Sep g [(p, feedO l n sd), (l, .lst (gs.map U.int)), (pf, .lst ((fs.map wd).map U.str))] h6 := S.pick [2, 3, 4]
      obtain ⟨J, hJ, hJn⟩ := free_word okd (fs.map wd ++ kwds) (by rw [List.length_append, List.length_map]; show _ + 3 < _; omega)
      refine s_while (fun k s h' => ∃ j, k + j = J ∧ s = [some (.ref p), some (.int m), some (.ref pf), some (.int (i' : Nat)), some (.ref ps), some (.str (wd (itW ds j))), none] ∧ Sep g [(p, feedO l n sd), (l, .lst (gs.map U.int)), (pf, .lst ((fs.map wd).map U.str))] h') J ⟨0, rfl, rfl, S⟩ ?_
      rintro k s h7 ⟨j, hj, rfl, S⟩
      have okj := itW_ok okd j
      have body : ∀ h', wd (itW ds j) ∈ fs.map wd ++ kwds → Sep g [(p, feedO l n sd), (l, .lst (gs.map U.int)), (pf, .lst ((fs.map wd).map U.str))] h' → ∀ (nx : SU → HU → Prop) (rt : DV) (bk ct : SU → HU → Prop), (∀ h'', Sep g [(p, feedO l n sd), (l, .lst (gs.map U.int)), (pf, .lst ((fs.map wd).map U.str))] h'' → nx [some (.ref p), some (.int m), some (.ref pf), some (.int (i' : Nat)), some (.ref ps), some (.str (wd (itW ds (j + 1)))), none] h'') →
          dSeq (dAsg (dCall sp__law_after [] x0 (dCons (dVar 5) (dNil))) (gNm 5)) (dNext) ⟨nx, rt, bk, ct⟩ [some (.ref p), some (.int m), some (.ref pf), some (.int (i' : Nat)), some (.ref ps), some (.str (wd (itW ds j))), none] h' := fun h' hm S nx rt bk ct kk => by
        repeat infer_instance
        refine ⟨itW ds j, rfl, okj, fun h8 S8 => ?_⟩
        have S := S.more S8
        repeat infer_instance
        exact kk h8 S
      have goOn : ∀ h' : HU, wd (itW ds j) ∈ fs.map wd ++ kwds → ∀ h'', Sep g [(p, feedO l n sd), (l, .lst (gs.map U.int)), (pf, .lst ((fs.map wd).map U.str))] h'' → WkS (fun s' h' => ∃ m', m' < k ∧ ∃ j, m' + j = J ∧ s' = [some (.ref p), some (.int m), some (.ref pf), some (.int (i' : Nat)), some (.ref ps), some (.str (wd (itW ds j))), none] ∧ Sep g [(p, feedO l n sd), (l, .lst (gs.map U.int)), (pf, .lst ((fs.map wd).map U.str))] h')
          [some (.ref p), some (.int m), some (.ref pf), some (.int (i' : Nat)), some (.ref ps), some (.str (wd (itW ds (j + 1)))), none] h'' := fun h' hm h'' S => by
        have : j ≠ J := fun z => hJn (by rw [← z]; exact hm)
        exact .of ⟨k - 1, by omega, j + 1, by omega, rfl, S⟩
      repeat infer_instance
      refine l_in (S.lget 2 rfl) rfl ?_ ?_
      · rw [List.map_map]
        exact flat_str _ _
      rw [inF_str]
      repeat infer_instance
      refine if_d (fun hin => if_t rfl ?_) (fun hout => ?_)
      · exact body _ (List.mem_append_left _ hin) S _ _ _ _ (goOn h7 (List.mem_append_left _ hin))
      repeat infer_instance
      refine t_in rfl rfl ?_
      have e3 : inF (.str (wd (itW ds j))) [U.str "and", U.str "not", U.str "or"] = decide (wd (itW ds j) ∈ (kwds : List Str)) := inF_str (l := kwds)
      rw [e3]
      repeat infer_instance
      refine if_d (fun hin => ?_) (fun hout2 => ?_)
      · exact body _ (List.mem_append_right _ hin) S _ _ _ _ (goOn h7 (List.mem_append_right _ hin))
      repeat infer_instance
      refine m_app S 2 rfl (szl (by rw [List.length_map, List.length_map]; omega)) fun h8 S => ?_
      repeat infer_instance
      refine wk ?_ ⟨fs ++ [itW ds j], rfl, by simp [hfl], fun w hw => ?_, ?_, l, n, sd, gs, fi, ?_⟩
      · repeat infer_instance
      · rcases List.mem_append.mp hw with z | z
        · exact hfo w z
        · rw [List.mem_singleton.mp z]
          exact okj
      · rw [List.map_append, List.nodup_append]
        refine ⟨hnd, by simp, fun a ha b hb z => ?_⟩
        have : b = wd (itW ds j) := by simpa using hb
        exact hout (by rw [← this, ← z]; exact ha)
      · rw [List.map_append, List.map_append]
        exact S
  · rintro s h2 ⟨fs, rfl, hfl, hfo, hnd, ⟨l, n, sd, gs, fi, S⟩⟩
    rw [List.length_range] at hfl
    repeat infer_instance
    refine l_sortA (fs.map wd) (S.lget 2 rfl) rfl fun ns hp hso => ?_
    refine k_new S fun pz h3 S => ?_
    repeat infer_instance
    refine .of (hq' ns (by rw [hp.length_eq, List.length_map, hfl]) (hp.nodup_iff.mpr hnd) (fun x hx => ?_) hso _ ⟨l, n, sd, gs, fi, S.pick [1, 2]⟩)
    obtain ⟨w, hw, e⟩ := List.mem_map.mp (hp.mem_iff.mp hx)
    exact ⟨w, hfo w hw, e.symm⟩
end DL

set_option Elab.async false
set_option linter.all false
set_option maxRecDepth 100000
set_option maxHeartbeats 4000000
namespace DL
open PySem L2 NdefX LamX KG
local macro_rules | `(tactic| infer_instance) => `(tactic| with_reducible first | exact subS_nil | refine subS_same ?_ | refine subS_none ?_ | refine s_seq ?_ | refine s_asg ?_ | refine s_if ?_ | refine s_ret ?_ | refine s_retN ?_ | refine s_drop ?_ | refine s_for ?_ | refine s_next ?_ | refine s_break ?_ | refine s_cont ?_ | refine v_c ?_ | refine v_op ?_ | refine v_un ?_ | refine v_if ?_ | refine v_nil ?_ | refine v_cons ?_ | refine v_CB ?_ | refine v_BM0 ?_ | refine v_BM ?_ | refine v_call ?_ | refine v_B ?_ | refine k_bl ?_ | refine v_and ?_ | refine v_or ?_ | refine v_not ?_ | refine v_yes ?_ | refine v_andV ?_ | refine v_orV ?_ | refine k_and ?_ | refine k_or ?_ | refine v_rNot ?_ | refine w_any ?_ | refine k_anyT ?_ | refine k_anyS ?_ | refine w_rng1 ?_ | refine w_zip ?_ | refine v_lc ?_ | refine v_lst ?_ | refine v_rev ?_ | refine v_revS ?_ | refine v_noP ?_ | refine v_part ?_ | refine k_part ?_ | refine v_sl ?_ | refine t_sl ?_ | refine t_list ?_ | refine k_isT ?_ | refine g_sb ?_ | refine v_kv0 ?_ | refine v_kv ?_ | refine v_dis ?_ | refine v_disT ?_ | refine i_add ?_ | refine i_sub ?_ | refine i_neg ?_ | refine i_lt ?_ | refine i_le ?_ | refine i_gt ?_ | refine i_ge ?_ | refine i_eq ?_ | refine i_ne ?_ | refine s_eq ?_ | refine s_ne ?_ | refine b_eq ?_ | refine b_ne ?_ | refine n_is ?_ | refine n_not ?_ | refine t_len ?_ | refine t_tuple ?_ | refine i_abs ?_ | refine i_int ?_ | refine b_int ?_ | refine g_unp ?_ | refine g_nms0 ?_ | refine g_nmsS ?_ | refine g_nm0 ?_  | refine g_nm1 ?_  | refine g_nm2 ?_  | refine g_nm3 ?_  | refine g_nm4 ?_  | refine g_nm5 ?_  | refine g_nm6 ?_  | refine g_nm7 ?_  | refine g_nm8 ?_  | refine g_nm9 ?_  | refine g_nm10 ?_  | refine g_nm11 ?_  | refine g_nm12 ?_  | refine g_nm13 ?_  | refine g_nm14 ?_  | refine g_nm15 ?_  | refine g_nm16 ?_  | refine g_nm17 ?_  | refine g_nm18 ?_  | refine g_nm19 ?_  | refine g_nm20 ?_  | refine g_nm21 ?_  | refine g_nm22 ?_  | refine g_nm23 ?_  | refine g_nm24 ?_  | refine g_nm25 ?_  | refine g_nm26 ?_  | refine g_nm27 ?_  | refine g_nm28 ?_  | refine g_nm29 ?_  | refine g_nm30 ?_  | refine g_nm31 ?_)
local macro_rules | `(tactic| infer_instance) => `(tactic| first | ((with_reducible apply v_var); rfl) | ((with_reducible apply t_ix); rfl) | ((with_reducible apply l_len); (first | exact Sep.lget ‹_› 0 rfl | exact Sep.lget ‹_› 1 rfl | exact Sep.lget ‹_› 2 rfl | exact Sep.lget ‹_› 3 rfl | exact Sep.lget ‹_› 4 rfl | exact Sep.lget ‹_› 5 rfl | exact Sep.lget ‹_› 6 rfl | exact Sep.lget ‹_› 7 rfl))  | ((with_reducible apply l_tuple); (first | exact Sep.lget ‹_› 0 rfl | exact Sep.lget ‹_› 1 rfl | exact Sep.lget ‹_› 2 rfl | exact Sep.lget ‹_› 3 rfl | exact Sep.lget ‹_› 4 rfl | exact Sep.lget ‹_› 5 rfl | exact Sep.lget ‹_› 6 rfl | exact Sep.lget ‹_› 7 rfl))  | ((with_reducible apply k_anyL); (first | exact Sep.lget ‹_› 0 rfl | exact Sep.lget ‹_› 1 rfl | exact Sep.lget ‹_› 2 rfl | exact Sep.lget ‹_› 3 rfl | exact Sep.lget ‹_› 4 rfl | exact Sep.lget ‹_› 5 rfl | exact Sep.lget ‹_› 6 rfl | exact Sep.lget ‹_› 7 rfl)) | ((with_reducible apply k_isL); (first | exact Sep.lget ‹_› 0 rfl | exact Sep.lget ‹_› 1 rfl | exact Sep.lget ‹_› 2 rfl | exact Sep.lget ‹_› 3 rfl | exact Sep.lget ‹_› 4 rfl | exact Sep.lget ‹_› 5 rfl | exact Sep.lget ‹_› 6 rfl | exact Sep.lget ‹_› 7 rfl))  | ((with_reducible apply l_list); (first | exact Sep.lget ‹_› 0 rfl | exact Sep.lget ‹_› 1 rfl | exact Sep.lget ‹_› 2 rfl | exact Sep.lget ‹_› 3 rfl | exact Sep.lget ‹_› 4 rfl | exact Sep.lget ‹_› 5 rfl | exact Sep.lget ‹_› 6 rfl | exact Sep.lget ‹_› 7 rfl))  | ((with_reducible apply k_rev); (first | exact Sep.lget ‹_› 0 rfl | exact Sep.lget ‹_› 1 rfl | exact Sep.lget ‹_› 2 rfl | exact Sep.lget ‹_› 3 rfl | exact Sep.lget ‹_› 4 rfl | exact Sep.lget ‹_› 5 rfl | exact Sep.lget ‹_› 6 rfl | exact Sep.lget ‹_› 7 rfl))  | ((with_reducible apply l_sl); (first | exact Sep.lget ‹_› 0 rfl | exact Sep.lget ‹_› 1 rfl | exact Sep.lget ‹_› 2 rfl | exact Sep.lget ‹_› 3 rfl | exact Sep.lget ‹_› 4 rfl | exact Sep.lget ‹_› 5 rfl | exact Sep.lget ‹_› 6 rfl | exact Sep.lget ‹_› 7 rfl)) | (with_reducible refine v_tup ?_) | (with_reducible refine And.intro (szb rfl) ?_) | (dsimp only [wipeU, List.set]))
/-! ### whether two things are alike -/
def plA : Nat → U → Prop
  | 0, _ => False
  | d + 1, .tup xs => xs.length ≤ 1000000 ∧ ∀ x ∈ xs, plA d x
  | d + 1, .ft xs => xs.length ≤ 1000000 ∧ ∀ x ∈ xs, plA d x
  | _ + 1, .int _ => True
  | _ + 1, .bl _ => True
  | _ + 1, .str _ => True
  | _ + 1, .non => True
  | _ + 1, _ => False
def sp_alikeD (d : Nat) : DP := fun us h q _ => ∃ x, us = [x, x] ∧ plA d x ∧ ∀ h', Sep h [] h' → q (.bl true) h'
def t__law_alike (SP : DP) : DS := dSeq (dIfS (dOr (dB (dCB cIsi (dCons (dVar 1) (dCons (dC (.ty "tuple")) (dNil))))) (dB (dCB cIsi (dCons (dVar 1) (dCons (dC (.ty "list")) (dNil)))))) (dSeq (dIfS (dOr (dB (dOp oNe (dCB cIsi (dCons (dVar 0) (dCons (dC (.ty "tuple")) (dNil)))) (dCB cIsi (dCons (dVar 1) (dCons (dC (.ty "tuple")) (dNil)))))) (dB (dOp oNe (dCB cIsi (dCons (dVar 0) (dCons (dC (.ty "list")) (dNil)))) (dCB cIsi (dCons (dVar 1) (dCons (dC (.ty "list")) (dNil))))))) (dSeq (dRet (dC (.bl false)))
    (dNext)) (dNext))
    (dSeq (dRet (dAndV (dOp oEq (dCB cLen (dCons (dVar 0) (dNil))) (dCB cLen (dCons (dVar 1) (dNil)))) (dCB cAll (dCons (dLc (iZip (dCons (dVar 0) (dCons (dVar 1) (dNil)))) (gUnp [2, 3]) dYes (dCall SP [] x0 (dCons (dVar 2) (dCons (dVar 3) (dNil)))) [2, 3]) (dNil)))))
    (dNext))) (dNext))
    (dSeq (dIfS (dOr (dB (dOp oNe (dCB cIsi (dCons (dVar 0) (dCons (dC (.ty "bool")) (dNil)))) (dCB cIsi (dCons (dVar 1) (dCons (dC (.ty "bool")) (dNil)))))) (dB (dOp oNe (dCB cIsi (dCons (dVar 0) (dCons (dC (.ty "int")) (dNil)))) (dCB cIsi (dCons (dVar 1) (dCons (dC (.ty "int")) (dNil))))))) (dSeq (dRet (dC (.bl false)))
    (dNext)) (dNext))
    (dSeq (dRet (dOp oEq (dVar 0) (dVar 1)))
    (dNext)))
theorem v_isi {x : U} {n t : String} {h : HU} {Q : DV} (e : tyU h x = some t) (o : okTy n = true) (k : Q (.bl (isTy t n)) h) : cIsi [x, .ty n] h Q := by
  show (match tyU h x with
    | some t => okTy n = true ∧ Q (.bl (isTy t n)) h
    | none => False)
  rw [e]
  exact ⟨o, k⟩
theorem blsU_bl : ∀ l : List Bool, blsU (l.map U.bl) = some l
  | [] => rfl
  | x :: l => by
    rw [List.map_cons]
    show (blsU (l.map U.bl)).map (x :: ·) = _
    rw [blsU_bl l]
    rfl
theorem l_all {p : Addr} {h : HU} {Q : DV} (l : List Bool) (e : lstU h p = some (l.map U.bl)) (k : Q (.bl (l.all id)) h) : cAll [.ref p] h Q := ⟨_, l, e, blsU_bl l, k⟩
theorem p__law_alike {d : Nat} {us : List U} {h : HU} {q : DV} {y : DXK} {bk ct : SU → HU → Prop} (hs : sp_alikeD (d + 1) us h q y) : t__law_alike (sp_alikeD d) ⟨fun _ h' => WkV q .non h', WkV q, bk, ct⟩ (startN 4 us) h := by
  obtain ⟨x, rfl, hx, hq⟩ := hs
  show t__law_alike _ _ [some x, some x, none, none] h
  unfold t__law_alike
  have S := Sep.nil h
  have flat : ∀ (t : String) (dd : PyData), tyU h x = some t → isTy t "tuple" = false → isTy t "list" = false → toPy x = some dd → dd.depth ≤ 64 → t__law_alike (sp_alikeD d) ⟨fun _ h' => WkV q .non h', WkV q, bk, ct⟩ [some x, some x, none, none] h := fun t dd et e1 e2 ed el => by
    unfold t__law_alike
    repeat infer_instance
    refine v_isi et rfl ?_
    repeat infer_instance
    refine if_f e1 ?_
    repeat infer_instance
    refine v_isi et rfl ?_
    repeat infer_instance
    refine if_f e2 ?_
    repeat infer_instance
    refine v_isi et rfl ?_
    repeat infer_instance
    refine v_isi et rfl ?_
    repeat infer_instance
    refine if_f (by simp) ?_
    repeat infer_instance
    refine v_isi et rfl ?_
    repeat infer_instance
    refine v_isi et rfl ?_
    repeat infer_instance
    refine if_f (by simp) ?_
    repeat infer_instance
    exact x_eq ed el (.of (hq _ S))
  have seq : ∀ xs : List U, xs.length ≤ 1000000 → (∀ y ∈ xs, plA d y) → tyU h x = some "tuple" → (∀ h, srcU h x = some xs) → (∀ h Q, Q (.int xs.length) h → cLen [x] h Q) → t__law_alike (sp_alikeD d) ⟨fun _ h' => WkV q .non h', WkV q, bk, ct⟩ [some x, some x, none, none] h := fun xs hl hx et es en => by
    unfold t__law_alike
    repeat infer_instance
    refine v_isi et rfl ?_
    repeat infer_instance
    refine if_t (by decide) ?_
    refine if_t rfl ?_
    repeat infer_instance
    refine v_isi et rfl ?_
    repeat infer_instance
    refine v_isi et rfl ?_
    repeat infer_instance
    refine if_f (by simp) ?_
    repeat infer_instance
    refine v_isi et rfl ?_
    repeat infer_instance
    refine v_isi et rfl ?_
    repeat infer_instance
    refine if_f (by simp) ?_
    repeat infer_instance
    refine en _ _ ?_
    repeat infer_instance
    refine en _ _ ?_
    repeat infer_instance
    refine if_t (by simp) ?_
    repeat infer_instance
    refine k_zip (es _) (es _) ?_
    have ez : zipU xs xs = xs.map fun x => U.tup [x, x] := by
      unfold zipU
      clear hl hx es en
      induction xs with
      | nil => rfl
      | cons a r ih => simp
    refine lc_inv xs (fun x => U.tup [x, x]) ez (fun i acc h' => acc = (List.replicate i true).map U.bl ∧ Sep h [] h') (szl (by omega)) ⟨rfl, S⟩ (fun _ _ h' _ => ⟨es h', es h'⟩) ?_ ?_
    · rintro i z ez2 acc h1 ⟨rfl, S⟩
      repeat infer_instance
      refine if_t rfl ?_
      repeat infer_instance
      refine ⟨z, rfl, hx z (List.mem_of_getElem? ez2), fun h2 S2 => WkH.of ⟨?_, S.more S2⟩⟩
      rw [List.replicate_succ', List.map_append]
      rfl
    · rintro acc h1 ⟨rfl, S⟩
      refine k_new S fun pa h2 S => ?_
      repeat infer_instance
      refine l_all _ (S.lget 0 rfl) ?_
      have : (List.replicate xs.length true).all id = true := by simp
      rw [this]
      exact .of (hq _ (S.pick []))
  cases x with
  | int i => exact flat "int" (.int i) rfl (by decide) (by decide) rfl (by simp [PyData.depth])
  | bl i => exact flat "bool" (.bool i) rfl (by decide) (by decide) rfl (by simp [PyData.depth])
  | non => exact flat "NoneType" .none rfl (by decide) (by decide) rfl (by simp [PyData.depth])
  | str z =>
    -- a text is equal to itself, whatever its signs
    repeat infer_instance
    refine v_isi (t := "str") rfl rfl ?_
    repeat infer_instance
    refine if_f (by decide) ?_
    repeat infer_instance
    refine v_isi (t := "str") rfl rfl ?_
    repeat infer_instance
    refine if_f (by decide) ?_
    repeat infer_instance
    refine v_isi (t := "str") rfl rfl ?_
    repeat infer_instance
    refine v_isi (t := "str") rfl rfl ?_
    repeat infer_instance
    refine if_f (by simp) ?_
    repeat infer_instance
    refine v_isi (t := "str") rfl rfl ?_
    repeat infer_instance
    refine v_isi (t := "str") rfl rfl ?_
    repeat infer_instance
    refine if_f (by simp) ?_
    repeat infer_instance
    rw [decide_eq_true rfl]
    exact .of (hq _ S)
  | ref p => exact hx.elim
  | ty p => exact hx.elim
  | clo p => exact hx.elim
  | tup xs =>
    obtain ⟨hl, hx⟩ := (show xs.length ≤ 1000000 ∧ ∀ x ∈ xs, plA d x from hx)
    exact seq xs hl hx rfl (fun _ => rfl) (fun _ _ k => k)
  | ft xs =>
    obtain ⟨hl, hx⟩ := (show xs.length ≤ 1000000 ∧ ∀ x ∈ xs, plA d x from hx)
    exact seq xs hl hx rfl (fun _ => rfl) (fun _ _ k => k)
/-! ### the law's machines -/
structure MachI (w n : Nat) (yes : List Bool) (moves : List (List Nat)) : Prop where
  n1 : 1 ≤ n
  len : moves.length = n
  ylen : yes.length = n
  row : ∀ l ∈ moves, l.length = w ∧ ∀ a ∈ l, a < n
  nought : ∀ r, r < n → yes[r]? = yes[nx0 moves r]?
theorem map0_of {w n : Nat} {moves : List (List Nat)} (hw : 1 ≤ w) (hl : moves.length = n) (row : ∀ l ∈ moves, l.length = w ∧ ∀ a ∈ l, a < n) : Map0 moves := ⟨fun r hr => by
  have e : moves[r]? = some moves[r] := List.getElem?_eq_getElem hr
  obtain ⟨h1, h2⟩ := row moves[r] (List.getElem_mem hr)
  have hz : 0 < moves[r].length := by omega
  exact ⟨_, moves[r][0], e, List.getElem?_eq_getElem hz, by have := h2 _ (List.getElem_mem hz); omega⟩⟩
def sp__law_machine : DP := fun us h q _ => ∃ g0 L p b k most x xs, us = [.ref p, .int (b : Nat), x, .int (most : Nat)] ∧ Feed g0 p L h ∧ (∀ h', srcU h' x = some xs) ∧ noStr x = true ∧ (xs : List U).length = k ∧ 1 ≤ b ∧ b ≤ 1000 ∧ b ^ k ≤ 100000 ∧ 1 ≤ most ∧ most ≤ 500 ∧
  ∀ n yes moves, n ≤ most → MachI (b ^ k) n yes moves → ∀ h', Feed g0 p L h' → q (.tup [x, .tup (yes.map U.bl), .tup (moves.map tupN)]) h'
def t__law_machine : DS := dSeq (dAsg (dOp oAdd (dC (.int 1)) (dCall sp__law_draw [] x0 (dCons (dVar 0) (dCons (dVar 3) (dNil))))) (gNm 4))
    (dSeq (dAsg (dC (.int 1)) (gNm 5))
    (dSeq (dFor (iAny (dVar 2)) (gNm 6) (dSeq (dAsg (dOp oMul (dVar 5) (dVar 1)) (gNm 5))
    (dNext)))
    (dSeq (dAsg (dLst (dNil)) (gNm 7))
    (dSeq (dFor (iRng1 (dCons (dVar 4) (dNil))) (gNm 8) (dSeq (dDrop (dBM isLst mAppend (dVar 7) (dCons (dCB cTuple (dCons (dLc (iRng1 (dCons (dVar 5) (dNil))) (gNm 10) dYes (dCall sp__law_draw [] x0 (dCons (dVar 0) (dCons (dVar 4) (dNil)))) [10]) (dNil))) (dNil))))
    (dNext)))
    (dSeq (dAsg (dLc (iAny (dVar 7)) (gNm 8) dYes (dOp oEq (dCall sp__law_draw [] x0 (dCons (dVar 0) (dCons (dC (.int 2)) (dNil)))) (dC (.int 0))) [8]) (gNm 9))
    (dSeq (dRet (dTup (dCons (dVar 2) (dCons (dCB cTuple (dCons (dLc (iAny (dCall sp__law_rings [] x0 (dCons (dVar 7) (dNil)))) (gNm 8) dYes (dOp oIx (dVar 9) (dVar 8)) [8]) (dNil))) (dCons (dCB cTuple (dCons (dVar 7) (dNil))) (dNil))))))
    (dNext)))))))
theorem p__law_machine {us : List U} {h : HU} {q : DV} {y : DXK} {bk ct : SU → HU → Prop} (hs : sp__law_machine us h q y) : t__law_machine ⟨fun _ h' => WkV q .non h', WkV q, bk, ct⟩ (startN 11 us) h := by
  obtain ⟨g0, L, p, b, k, most, x, xs, rfl, ⟨l, n, sd, gs, fi, S⟩, hsx, nsx, hk, hb, hb2, hp, hm1, hm2, hq⟩ := hs
  show t__law_machine _ [some (.ref p), some (.int b), some x, some (.int most), none, none, none, none, none, none, none] h
  obtain ⟨g, S, -, -, back⟩ := Sep.call (pre := [(p, feedO l n sd), (l, .lst (gs.map U.int))]) (rest := L) S
  have hq' : ∀ n yes moves, n ≤ most → MachI (b ^ k) n yes moves → ∀ h', Feed g p [] h' → q (.tup [x, .tup (yes.map U.bl), .tup (moves.map tupN)]) h' := fun n yes moves a c h' ⟨l, n', sd, gs, fi, S⟩ => hq n yes moves a c h' ⟨l, n', sd, gs, fi, back _ _ S⟩
  have F : Feed g p [] h := ⟨l, n, sd, gs, fi, S⟩
  have w1 : 1 ≤ b ^ k := Nat.one_le_pow _ _ hb
  unfold t__law_machine
  repeat infer_instance
  refine u_draw F hm1 (by omega) fun r hr h1 F => ?_
  have hn : r + 1 ≤ most := by omega
  have en : (1 : Int) + (r : Int) = ((r + 1 : Nat) : Int) := by omega
  repeat infer_instance
  rw [en]
  repeat infer_instance
  have pw : ∀ i, i ≤ k → b ^ i ≤ 100000 := fun i hi => Nat.le_trans (pow_mono hb hi) hp
  have hk64 : xs.length = k := hk
  refine k_anyF (hsx _) nsx (f_invA xs id (by simp) (fun i s h' => s = [some (.ref p), some (.int b), some x, some (.int most), some (.int ((r + 1 : Nat) : Int)), some (.int ((b ^ i : Nat) : Int)), none, none, none, none, none] ∧ Feed g p [] h') ⟨rfl, F⟩ (fun _ _ h' _ => hsx h') ?_ ?_)
  · rintro i x0 ex s h2 ⟨rfl, F⟩
    repeat infer_instance
    refine i_mul (.inr ⟨by omega, by omega⟩) ?_
    repeat infer_instance
    refine wk ?_ ⟨rfl, F⟩
    rw [Nat.pow_succ, Int.natCast_mul]
    repeat infer_instance
  rintro s h2 ⟨rfl, ⟨l, n, sd, gs, fi, S⟩⟩
  rw [hk]
  repeat infer_instance
  refine k_new S fun pm h3 S => ?_
  repeat infer_instance
  refine k_rngN (by omega) ?_
  refine f_invA (List.range (r + 1)) (fun k => U.int (k : Nat)) (rng_map _) (fun i s h' => ∃ moves : List (List Nat), s = [some (.ref p), some (.int b), some x, some (.int most), some (.int ((r + 1 : Nat) : Int)), some (.int ((b ^ k : Nat) : Int)), none, some (.ref pm), none, none, none] ∧ moves.length = i ∧ (∀ l ∈ moves, l.length = b ^ k ∧ ∀ a ∈ l, a < r + 1) ∧ Feed g p [(pm, .lst (moves.map tupN))] h') ?_ (fun _ _ _ _ => True.intro) ?_ ?_
  · exact ⟨[], rfl, rfl, (fun _ z => nomatch z), l, n, sd, gs, fi, S.pick [1, 2, 0]⟩
  · rintro i i' ei s h4 ⟨moves, rfl, hml, hmr, F⟩
    have hi := (List.getElem?_eq_some_iff.mp ei).1
    rw [List.length_range] at hi
    repeat infer_instance
    obtain ⟨l, n, sd, gs, fi, S⟩ := F
    refine k_isL (S.lget 2 rfl) ?_
    have F : Feed g p [(pm, .lst (moves.map tupN))] h4 := ⟨l, n, sd, gs, fi, S⟩
    repeat infer_instance
    refine k_rngN (by omega) ?_
    refine lc_inv (List.range (b ^ k)) (fun k => U.int (k : Nat)) (rng_map _) (fun j acc h' => ∃ ds : List Nat, acc = (ds.map fun d => U.int (d : Nat)) ∧ ds.length = j ∧ (∀ d ∈ ds, d < r + 1) ∧ Feed g p [(pm, .lst (moves.map tupN))] h') (szl (by rw [List.length_range]; omega))
      ⟨[], rfl, rfl, (fun _ z => nomatch z), F⟩ (fun _ _ _ _ => True.intro) ?_ ?_
    · rintro j j' ej acc h5 ⟨ds, rfl, hdl, hds, F⟩
      repeat infer_instance
      refine if_t rfl ?_
      repeat infer_instance
      refine u_draw F (by omega) (by omega) fun d hd h6 F => ?_
      refine WkH.of ⟨ds ++ [d], by rw [List.map_append]; rfl, by simp [hdl], fun x hx => ?_, F⟩
      rcases List.mem_append.mp hx with z | z
      · exact hds x z
      · rw [List.mem_singleton.mp z]
        exact hd
    · rintro acc h5 ⟨ds, rfl, hdl, hds, ⟨l, n, sd, gs, fi, S⟩⟩
      rw [List.length_range] at hdl
      refine k_new S fun pd h6 S => ?_
      repeat infer_instance
      refine m_app S 3 rfl (szl (by rw [List.length_map]; omega)) fun h7 S => ?_
      repeat infer_instance
      refine wk ?_ ⟨moves ++ [ds], rfl, by simp [hml], fun l0 hl0 => ?_, l, n, sd, gs, fi, ?_⟩
      · repeat infer_instance
      · rcases List.mem_append.mp hl0 with z | z
        · exact hmr l0 z
        · rw [List.mem_singleton.mp z]
          exact ⟨hdl, hds⟩
      · rw [List.map_append]
        exact S.pick [1, 2, 3]
  · rintro s h4 ⟨moves, rfl, hml, hmr, F⟩
    rw [List.length_range] at hml
    repeat infer_instance
    obtain ⟨l, n, sd, gs, fi, S⟩ := F
    refine k_anyL (S.lget 2 rfl) ?_
    refine lc_inv moves tupN rfl (fun j acc h' => ∃ bs : List Bool, acc = bs.map U.bl ∧ bs.length = j ∧ Feed g p [(pm, .lst (moves.map tupN))] h') (szl (by omega)) ⟨[], rfl, rfl, l, n, sd, gs, fi, S⟩ (fun _ _ _ ⟨_, _, _, ⟨_, _, _, _, _, S⟩⟩ => S.lget 2 rfl) ?_ ?_
    · rintro j j' ej acc h5 ⟨bs, rfl, hbl, F⟩
      repeat infer_instance
      refine if_t rfl ?_
      repeat infer_instance
      refine u_draw (m := 2) F (by decide) (by decide) fun d hd h6 F => ?_
      repeat infer_instance
      exact WkH.of ⟨bs ++ [_], by rw [List.map_append]; rfl, by simp [hbl], F⟩
    · rintro acc h5 ⟨bs, rfl, hbl, ⟨l, n, sd, gs, fi, S⟩⟩
      refine k_new S fun pb h6 S => ?_
      repeat infer_instance
      have M := map0_of w1 hml hmr
      refine ⟨pm, moves, rfl, S.lget 3 rfl, M, by omega, fun rs hrl hrs pr h7 S7 => ?_⟩
      have S := S.more S7
      have rlt : ∀ m ∈ rs, m < moves.length := fun m hm => by
        obtain ⟨i, hi, e⟩ := List.mem_iff_getElem.mp hm
        obtain ⟨k2, ek⟩ := (hrs i m (by rw [List.getElem?_eq_getElem hi, e])).ex
        rw [ek]
        exact itN_lt (fun r hr => by obtain ⟨_, _, _, z⟩ := M.nx hr; exact z) (by omega) _
      repeat infer_instance
      refine lc_mapA rs (fun n => U.int (n : Nat)) rfl (fun m => U.bl (bs[m]?.getD false)) (szl (by omega)) (S.lget 0 rfl) (fun m hm C N hC => ?_) ?_
      · have hlt := rlt m hm
        repeat infer_instance
        refine if_t rfl ?_
        repeat infer_instance
        refine l_ix (S.lget 1 rfl) (atN (y := U.bl (bs[m]?.getD false)) ?_) hC
        rw [List.getElem?_map, List.getElem?_eq_getElem (by omega)]
        rfl
      refine k_new S fun pz h8 S => ?_
      repeat infer_instance
      refine .of ?_
      have e : rs.map (fun m => U.bl (bs[m]?.getD false)) = (rs.map fun m => bs[m]?.getD false).map U.bl := by rw [List.map_map]; rfl
      rw [e]
      refine hq' (r + 1) _ moves hn ⟨by omega, hml, by rw [List.length_map, hrl, hml], hmr, fun i hi => ?_⟩ _ ⟨l, n, sd, gs, fi, S.pick [3, 4]⟩
      have hi' : i < moves.length := by omega
      obtain ⟨_, _, _, hnx⟩ := M.nx hi'
      have e1 : rs[i]? = some rs[i] := List.getElem?_eq_getElem (by omega)
      have e2 : rs[nx0 moves i]? = some rs[nx0 moves i] := List.getElem?_eq_getElem (by omega)
      have e3 := RingAt.next (fun r hr => by obtain ⟨_, _, _, z⟩ := M.nx hr; exact z) hi' (hrs _ _ e1) (hrs _ _ e2)
      rw [List.getElem?_map, List.getElem?_map, e1, e2, e3]
end DL

set_option Elab.async false
set_option linter.all false
set_option maxRecDepth 100000
set_option maxHeartbeats 4000000
namespace DL
open PySem L2 NdefX LamX KG
local macro_rules | `(tactic| infer_instance) => `(tactic| with_reducible first | exact subS_nil | refine subS_same ?_ | refine subS_none ?_ | refine s_seq ?_ | refine s_asg ?_ | refine s_if ?_ | refine s_ret ?_ | refine s_retN ?_ | refine s_drop ?_ | refine s_for ?_ | refine s_next ?_ | refine s_break ?_ | refine s_cont ?_ | refine v_c ?_ | refine v_op ?_ | refine v_un ?_ | refine v_if ?_ | refine v_nil ?_ | refine v_cons ?_ | refine v_CB ?_ | refine v_BM0 ?_ | refine v_BM ?_ | refine v_call ?_ | refine v_B ?_ | refine k_bl ?_ | refine v_and ?_ | refine v_or ?_ | refine v_not ?_ | refine v_yes ?_ | refine v_andV ?_ | refine v_orV ?_ | refine k_and ?_ | refine k_or ?_ | refine v_rNot ?_ | refine w_any ?_ | refine k_anyT ?_ | refine k_anyS ?_ | refine w_rng1 ?_ | refine w_zip ?_ | refine v_lc ?_ | refine v_lst ?_ | refine v_rev ?_ | refine v_revS ?_ | refine v_noP ?_ | refine v_part ?_ | refine k_part ?_ | refine v_sl ?_ | refine t_sl ?_ | refine t_list ?_ | refine k_isT ?_ | refine g_sb ?_ | refine v_kv0 ?_ | refine v_kv ?_ | refine v_dis ?_ | refine v_disT ?_ | refine i_add ?_ | refine i_sub ?_ | refine i_neg ?_ | refine i_lt ?_ | refine i_le ?_ | refine i_gt ?_ | refine i_ge ?_ | refine i_eq ?_ | refine i_ne ?_ | refine s_eq ?_ | refine s_ne ?_ | refine b_eq ?_ | refine b_ne ?_ | refine n_is ?_ | refine n_not ?_ | refine t_len ?_ | refine t_tuple ?_ | refine i_abs ?_ | refine i_int ?_ | refine b_int ?_ | refine g_unp ?_ | refine g_nms0 ?_ | refine g_nmsS ?_ | refine g_nm0 ?_  | refine g_nm1 ?_  | refine g_nm2 ?_  | refine g_nm3 ?_  | refine g_nm4 ?_  | refine g_nm5 ?_  | refine g_nm6 ?_  | refine g_nm7 ?_  | refine g_nm8 ?_  | refine g_nm9 ?_  | refine g_nm10 ?_  | refine g_nm11 ?_  | refine g_nm12 ?_  | refine g_nm13 ?_  | refine g_nm14 ?_  | refine g_nm15 ?_  | refine g_nm16 ?_  | refine g_nm17 ?_  | refine g_nm18 ?_  | refine g_nm19 ?_  | refine g_nm20 ?_  | refine g_nm21 ?_  | refine g_nm22 ?_  | refine g_nm23 ?_  | refine g_nm24 ?_  | refine g_nm25 ?_  | refine g_nm26 ?_  | refine g_nm27 ?_  | refine g_nm28 ?_  | refine g_nm29 ?_  | refine g_nm30 ?_  | refine g_nm31 ?_)
local macro_rules | `(tactic| infer_instance) => `(tactic| first | ((with_reducible apply v_var); rfl) | ((with_reducible apply t_ix); rfl) | ((with_reducible apply l_len); (first | exact Sep.lget ‹_› 0 rfl | exact Sep.lget ‹_› 1 rfl | exact Sep.lget ‹_› 2 rfl | exact Sep.lget ‹_› 3 rfl | exact Sep.lget ‹_› 4 rfl | exact Sep.lget ‹_› 5 rfl | exact Sep.lget ‹_› 6 rfl | exact Sep.lget ‹_› 7 rfl))  | ((with_reducible apply l_tuple); (first | exact Sep.lget ‹_› 0 rfl | exact Sep.lget ‹_› 1 rfl | exact Sep.lget ‹_› 2 rfl | exact Sep.lget ‹_› 3 rfl | exact Sep.lget ‹_› 4 rfl | exact Sep.lget ‹_› 5 rfl | exact Sep.lget ‹_› 6 rfl | exact Sep.lget ‹_› 7 rfl))  | ((with_reducible apply k_anyL); (first | exact Sep.lget ‹_› 0 rfl | exact Sep.lget ‹_› 1 rfl | exact Sep.lget ‹_› 2 rfl | exact Sep.lget ‹_› 3 rfl | exact Sep.lget ‹_› 4 rfl | exact Sep.lget ‹_› 5 rfl | exact Sep.lget ‹_› 6 rfl | exact Sep.lget ‹_› 7 rfl)) | ((with_reducible apply k_isL); (first | exact Sep.lget ‹_› 0 rfl | exact Sep.lget ‹_› 1 rfl | exact Sep.lget ‹_› 2 rfl | exact Sep.lget ‹_› 3 rfl | exact Sep.lget ‹_› 4 rfl | exact Sep.lget ‹_› 5 rfl | exact Sep.lget ‹_› 6 rfl | exact Sep.lget ‹_› 7 rfl))  | ((with_reducible apply l_list); (first | exact Sep.lget ‹_› 0 rfl | exact Sep.lget ‹_› 1 rfl | exact Sep.lget ‹_› 2 rfl | exact Sep.lget ‹_› 3 rfl | exact Sep.lget ‹_› 4 rfl | exact Sep.lget ‹_› 5 rfl | exact Sep.lget ‹_› 6 rfl | exact Sep.lget ‹_› 7 rfl))  | ((with_reducible apply k_rev); (first | exact Sep.lget ‹_› 0 rfl | exact Sep.lget ‹_› 1 rfl | exact Sep.lget ‹_› 2 rfl | exact Sep.lget ‹_› 3 rfl | exact Sep.lget ‹_› 4 rfl | exact Sep.lget ‹_› 5 rfl | exact Sep.lget ‹_› 6 rfl | exact Sep.lget ‹_› 7 rfl))  | ((with_reducible apply l_sl); (first | exact Sep.lget ‹_› 0 rfl | exact Sep.lget ‹_› 1 rfl | exact Sep.lget ‹_› 2 rfl | exact Sep.lget ‹_› 3 rfl | exact Sep.lget ‹_› 4 rfl | exact Sep.lget ‹_› 5 rfl | exact Sep.lget ‹_› 6 rfl | exact Sep.lget ‹_› 7 rfl)) | (with_reducible refine v_tup ?_) | (with_reducible refine And.intro (szb rfl) ?_) | (dsimp only [wipeU, List.set]))
/-! ### sorted texts -/
theorem rising_pw : ∀ (l : List Str) (p : Str), PyProof.Rows.risingS p l = true → (p :: l).Pairwise fun a b => a.cps.toList ≤ b.cps.toList
  | [], p, _ => List.pairwise_singleton _ _
  | x :: r, p, h => by
    have h' : (!Spec.ltCps x.cps.toList p.cps.toList && PyProof.Rows.risingS x r) = true := h
    rw [Bool.and_eq_true, PyProof.Rows.ltCps_eq] at h'
    obtain ⟨h1, h2⟩ := h'
    have ih := rising_pw r x h2
    have le : p.cps.toList ≤ x.cps.toList := List.not_lt.mp (by simpa using h1)
    refine List.pairwise_cons.mpr ⟨fun y hy => ?_, ih⟩
    rcases List.mem_cons.mp hy with z | z
    · rw [z]
      exact le
    · exact List.le_trans le ((List.pairwise_cons.mp ih).1 y z)
theorem sortedS_pw {l : List Str} (h : PyProof.Rows.sortedS l = true) : l.Pairwise fun a b => a.cps.toList ≤ b.cps.toList := by
  cases l with
  | nil => exact List.Pairwise.nil
  | cons x r => exact rising_pw r x h
theorem str_ext {a b : Str} (h : a.cps.toList = b.cps.toList) : a = b := by
  cases a
  cases b
  exact congrArg Str.mk (Array.ext' h)
theorem sorted_eq {l m : List Str} (hl : PyProof.Rows.sortedS l = true) (hm : PyProof.Rows.sortedS m = true) (p : l.Perm m) : l = m :=
  p.eq_of_pairwise (fun a b _ _ h1 h2 => str_ext (List.le_antisymm h1 h2)) (sortedS_pw hl) (sortedS_pw hm)
theorem sorted_eq_nd {l m : List Str} (hl : PyProof.Rows.sortedS l = true) (hm : PyProof.Rows.sortedS m = true) (nl : l.Nodup) (nm : m.Nodup) (h : ∀ x, x ∈ l ↔ x ∈ m) : l = m := sorted_eq hl hm ((List.perm_ext_iff_of_nodup nl nm).mpr h)
/-! ### own numbers lie below -/
theorem numL_take {b : Nat} {l : List Nat} (h : ∀ f ∈ l, f < b) : ∀ i, i ≤ l.length → numL b (l.take i) < b ^ i
  | 0, _ => by
    show 0 < 1
    decide
  | i + 1, hi => by
    have ih := numL_take h i (by omega)
    have e : l[i]? = some l[i] := List.getElem?_eq_getElem (by omega)
    have hf := h l[i] (List.getElem_mem _)
    rw [List.take_add_one, e]
    show numL b (l.take i ++ [l[i]]) < _
    rw [numL_snoc, Nat.pow_succ]
    have h1 : (numL b (l.take i) + 1) * b ≤ b ^ i * b := Nat.mul_le_mul_right b ih
    rw [Nat.succ_mul] at h1
    omega
theorem numL_lt {b : Nat} {l : List Nat} (h : ∀ f ∈ l, f < b) : numL b l < b ^ l.length := by
  have := numL_take h l.length (Nat.le_refl _)
  rw [List.take_length] at this
  exact this
theorem ownPart_len : ∀ (ns os : List Str) (l : List Nat), l.length = ns.length → (ownPart ns os l).length = (ns.filter fun n => decide (n ∈ os)).length
  | [], os, l, h => by
    unfold ownPart
    simp
  | n :: ns, os, [], h => by simp at h
  | n :: ns, os, a :: l, h => by
    have ih := ownPart_len ns os l (by simpa using h)
    unfold ownPart at ih ⊢
    rw [List.length_map] at ih ⊢
    show (((n, a) :: ns.zip l).filter _).length = _
    rw [List.filter_cons, List.filter_cons]
    by_cases q : n ∈ os
    · simp only [q, decide_true, if_true, List.length_cons, ih]
    · simp only [q, decide_false, Bool.false_eq_true, if_false, ih]
theorem ownPart_sub {ns os : List Str} {l : List Nat} {f : Nat} (h : f ∈ ownPart ns os l) : f ∈ l := by
  unfold ownPart at h
  obtain ⟨p, hp, rfl⟩ := List.mem_map.mp h
  exact (List.of_mem_zip (List.mem_filter.mp hp).1).2
theorem filter_len {ns os : List Str} (hn : ns.Nodup) (ho : os.Nodup) (hs : ∀ x ∈ os, x ∈ ns) : (ns.filter fun n => decide (n ∈ os)).length = os.length := by
  have nf : (ns.filter fun n => decide (n ∈ os)).Nodup := hn.sublist List.filter_sublist
  have p : (ns.filter fun n => decide (n ∈ os)).Perm os := (List.perm_ext_iff_of_nodup nf ho).mpr fun x => by
    rw [List.mem_filter]
    simp only [decide_eq_true_eq]
    exact ⟨fun z => z.2, fun z => ⟨hs x z, z⟩⟩
  exact p.length_eq
theorem ownNums_len (b : Nat) (ns os : List Str) : (ownNums b ns os).length = b ^ ns.length := by
  unfold ownNums
  rw [List.length_map, letters_len]
theorem ownNums_lt {b : Nat} {ns os : List Str} (hn : ns.Nodup) (ho : os.Nodup) (hs : ∀ x ∈ os, x ∈ ns) {j : Nat} (h : j ∈ ownNums b ns os) : j < b ^ os.length := by
  unfold ownNums at h
  obtain ⟨l, hl, rfl⟩ := List.mem_map.mp h
  obtain ⟨h1, h2⟩ := letters_all b _ l hl
  have e := ownPart_len ns os l h1
  rw [filter_len hn ho hs] at e
  rw [← e]
  exact numL_lt fun f hf => h2 f (ownPart_sub hf)
/-! ### machines, side by side -/
abbrev machU (ws : List Str) (yes : List Bool) (moves : List (List Nat)) : U := .tup [.tup (ws.map U.str), .tup (yes.map U.bl), .tup (moves.map tupN)]
def stepM (m : List (List Nat)) (f : List Nat) (a k : Nat) : Option Nat := (m[a]?).bind fun l => (f[k]?).bind fun j => l[j]?
theorem stepM_some {m : List (List Nat)} {f : List Nat} {a k r : Nat} (h : stepM m f a k = some r) : ∃ l j, m[a]? = some l ∧ f[k]? = some j ∧ l[j]? = some r := by
  unfold stepM at h
  obtain ⟨l, e1, h⟩ := Option.bind_eq_some_iff.mp h
  obtain ⟨j, e2, h⟩ := Option.bind_eq_some_iff.mp h
  exact ⟨l, j, e1, e2, h⟩
theorem stepM_ok {w n : Nat} {yes : List Bool} {m : List (List Nat)} {f : List Nat} (M : MachI w n yes m) (hf : ∀ j ∈ f, j < w) {a k : Nat} (ha : a < n) (hk : k < f.length) : ∃ r, stepM m f a k = some r ∧ r < n := by
  have hl := M.len
  have e1 : m[a]? = some m[a] := List.getElem?_eq_getElem (by omega)
  have e2 : f[k]? = some f[k] := List.getElem?_eq_getElem hk
  obtain ⟨r1, r2⟩ := M.row m[a] (List.getElem_mem _)
  have hj := hf f[k] (List.getElem_mem _)
  have hj2 : f[k] < m[a].length := by omega
  refine ⟨m[a][f[k]], ?_, r2 _ (List.getElem_mem _)⟩
  unfold stepM
  rw [e1, e2]
  exact List.getElem?_eq_getElem hj2
def sp_onw : List (Option U) → DFp := fun cs us h q => ∃ w1 y1 m1 pf f1 w2 y2 m2 ps f2 a b k a' b', cs = [some (machU w1 y1 m1), some (.ref pf), some (machU w2 y2 m2), some (.ref ps)] ∧ us = [.tup [.int (a : Nat), .int (b : Nat)], .int (k : Nat)] ∧
  lstU h pf = some (f1.map fun n => U.int (n : Nat)) ∧ lstU h ps = some (f2.map fun n => U.int (n : Nat)) ∧ stepM m1 f1 a k = some a' ∧ stepM m2 f2 b k = some b' ∧ ∀ h', Sep h [] h' → q (.tup [.int (a' : Nat), .int (b' : Nat)]) h'
def t_onw : DS := dSeq (dRet (dTup (dCons (dOp oIx (dOp oIx (dOp oIx (dVar 2) (dC (.int 2))) (dOp oIx (dVar 0) (dC (.int 0)))) (dOp oIx (dVar 3) (dVar 1))) (dCons (dOp oIx (dOp oIx (dOp oIx (dVar 4) (dC (.int 2))) (dOp oIx (dVar 0) (dC (.int 1)))) (dOp oIx (dVar 5) (dVar 1))) (dNil)))))
    (dNext)
/-- the slots at a closure's start -/
abbrev startC (n : Nat) (us : List U) (cs : List (Option U)) : SU := us.map some ++ (cs ++ List.replicate (n - us.length - cs.length) none)
theorem p_onw {cs : List (Option U)} {us : List U} {h : HU} {q : DV} {bk ct : SU → HU → Prop} (hs : sp_onw cs us h q) : t_onw ⟨fun _ h' => WkV q .non h', WkV q, bk, ct⟩ (startC 6 us cs) h := by
  obtain ⟨w1, y1, m1, pf, f1, w2, y2, m2, ps, f2, a, b, k, a', b', rfl, rfl, hf, hsd, s1, s2, hq⟩ := hs
  show t_onw _ [some (.tup [.int a, .int b]), some (.int k), some (machU w1 y1 m1), some (.ref pf), some (machU w2 y2 m2), some (.ref ps)] h
  unfold t_onw
  have S := Sep.nil h
  obtain ⟨l1, j1, e1, e2, e3⟩ := stepM_some s1
  obtain ⟨l2, j2, g1, g2, g3⟩ := stepM_some s2
  repeat infer_instance
  refine t_ix (x := tupN l1) (atN (by rw [List.getElem?_map, e1]; rfl)) ?_
  repeat infer_instance
  refine l_ix (x := .int (j1 : Nat)) hf (atN (by rw [List.getElem?_map, e2]; rfl)) ?_
  refine t_ix (x := .int (a' : Nat)) (atN (by rw [List.getElem?_map, e3]; rfl)) ?_
  repeat infer_instance
  refine t_ix (x := tupN l2) (atN (by rw [List.getElem?_map, g1]; rfl)) ?_
  repeat infer_instance
  refine l_ix (x := .int (j2 : Nat)) hsd (atN (by rw [List.getElem?_map, g2]; rfl)) ?_
  refine t_ix (x := .int (b' : Nat)) (atN (by rw [List.getElem?_map, g3]; rfl)) ?_
  repeat infer_instance
  exact .of (hq h S)
/-- how two go on, side by side -/
def fPair (m1 : List (List Nat)) (f1 : List Nat) (m2 : List (List Nat)) (f2 : List Nat) (r : Nat × Nat) (k : Nat) : Nat × Nat := ((stepM m1 f1 r.1 k).getD 0, (stepM m2 f2 r.2 k).getD 0)
abbrev encP (r : Nat × Nat) : U := .tup [.int (r.1 : Nat), .int (r.2 : Nat)]
def keyP (r : Nat × Nat) : List Key := [.inl (r.1 : Nat), .inl (r.2 : Nat)]
theorem growA_pair {w1 n1 w2 n2 : Nat} {ws1 ws2 : List Str} {y1 y2 : List Bool} {m1 m2 : List (List Nat)} {f1 f2 : List Nat} (M1 : MachI w1 n1 y1 m1) (M2 : MachI w2 n2 y2 m2) (h1 : ∀ j ∈ f1, j < w1) (h2 : ∀ j ∈ f2, j < w2) {many : Nat} (l1 : f1.length = many) (l2 : f2.length = many) {h : HU} {pf ps : Addr}
    (hf : lstU h pf = some (f1.map fun n => U.int (n : Nat))) (hs : lstU h ps = some (f2.map fun n => U.int (n : Nat))) :
    GrowA h encP keyP (fun r => r.1 < n1 ∧ r.2 < n2) (fPair m1 f1 m2 f2) many (sp_onw [some (machU ws1 y1 m1), some (.ref pf), some (machU ws2 y2 m2), some (.ref ps)]) := by
  have both : ∀ r : Nat × Nat, r.1 < n1 ∧ r.2 < n2 → ∀ k, k < many → ∃ a' b', stepM m1 f1 r.1 k = some a' ∧ stepM m2 f2 r.2 k = some b' ∧ fPair m1 f1 m2 f2 r k = (a', b') ∧ a' < n1 ∧ b' < n2 := fun r hr k hk => by
    obtain ⟨a', e1, c1⟩ := stepM_ok M1 h1 hr.1 (show k < f1.length by omega)
    obtain ⟨b', e2, c2⟩ := stepM_ok M2 h2 hr.2 (show k < f2.length by omega)
    refine ⟨a', b', e1, e2, ?_, c1, c2⟩
    unfold fPair
    rw [e1, e2]
    rfl
  refine ⟨fun r => rfl, fun a b e => ?_, fun r hr k hk => ?_, fun r hr k hk h1' q1 sub hq => ?_⟩
  · unfold keyP at e
    simp only [List.cons.injEq, Sum.inl.injEq, and_true] at e
    exact Prod.ext (by omega) (by omega)
  · obtain ⟨a', b', _, _, e, c1, c2⟩ := both r hr k hk
    rw [e]
    exact ⟨c1, c2⟩
  · obtain ⟨a', b', e1, e2, e, c1, c2⟩ := both r hr k hk
    rw [e] at hq
    exact ⟨ws1, y1, m1, pf, f1, ws2, y2, m2, ps, f2, r.1, r.2, k, a', b', rfl, rfl, lstU_mono sub hf, lstU_mono sub hs, e1, e2, hq⟩
/-! ### sorted(set(..)) -/
def kSS (Q : DV) : DV := fun x h1 => (∀ z, x ≠ .str z) ∧ ∃ ys ns, srcU h1 x = some ys ∧ strsU ys = some ns ∧ ns.length ≤ 1000 ∧
  ∀ ns' : List Str, ns'.Nodup → (∀ y, y ∈ ns' ↔ y ∈ ns) → PyProof.Rows.sortedS ns' = true → ∀ r, h1 r = none → Q (.ref r) (updU h1 r (.lst (ns'.map U.str)))
theorem v_sortSet {te : DE} {s : SU} {h : HU} {Q : DV} (k : te s h (kSS Q)) : dSortSet te s h Q := k
theorem k_ss {x : U} {h : HU} {Q : DV} (l : List Str) (e : srcU h x = some (l.map U.str)) (n : noStr x = true) (hl : l.length ≤ 1000) (k : ∀ ns : List Str, ns.Nodup → (∀ y, y ∈ ns ↔ y ∈ l) → PyProof.Rows.sortedS ns = true → kNew (.lst (ns.map U.str)) Q h) : kSS Q x h :=
  ⟨fun z ez => (by rw [ez] at n; cases n), _, l, e, strsU_str l, hl, k⟩
theorem s_ndef {i : Nat} {mk : Addr → NF} {nx : SU → HU → Prop} {rt : DV} {bk ct : SU → HU → Prop} {s : SU} {h : HU} (k : ∀ c, gNm i (.clo (mk c)) s h nx) : dNdef i mk ⟨nx, rt, bk, ct⟩ s h := k
theorem v_callC {C : SU → NF → DFp → Prop} {sp : DSp} {du : List U} {t : DA} {s : SU} {h : HU} {Q : DV} (k : t s h fun us h1 => sp (C s) (us ++ du) h1 Q (fun _ _ _ => False)) : dCallC C sp du t s h Q := k
/-! ### paired -/
abbrev sp_paired_onward := sp_onw
abbrev t_paired_onward := t_onw
def pairU (ns : List Str) (g : Nat → Nat → Bool) : Res (Nat × Nat) → U
  | none => .non
  | some (came, moves) => .tup [.tup (ns.map U.str), .tup (came.map fun r => U.bl (g r.1 r.2)), .tup (moves.map tupN)]
/-- two machines with their names, base, as they are asked for -/
structure TwoM (b : Nat) (ws1 : List Str) (n1 : Nat) (y1 : List Bool) (m1 : List (List Nat)) (ws2 : List Str) (n2 : Nat) (y2 : List Bool) (m2 : List (List Nat)) : Prop where
  b1 : 1 ≤ b
  b2 : b ≤ 1000
  l : ws1.length + ws2.length ≤ 60
  pw : b ^ (ws1.length + ws2.length) ≤ 100000
  nd1 : ws1.Nodup
  nd2 : ws2.Nodup
  M1 : MachI (b ^ ws1.length) n1 y1 m1
  M2 : MachI (b ^ ws2.length) n2 y2 m2
structure NsOf (ws1 ws2 ns : List Str) : Prop where
  nd : ns.Nodup
  mem : ∀ x, x ∈ ns ↔ x ∈ ws1 ∨ x ∈ ws2
  so : PyProof.Rows.sortedS ns = true
theorem NsOf.len {ws1 ws2 ns : List Str} (N : NsOf ws1 ws2 ns) : ns.length ≤ ws1.length + ws2.length := by
  have := nodup_le N.nd (m := ws1 ++ ws2) fun x hx => List.mem_append.mpr ((N.mem x).mp hx)
  rwa [List.length_append] at this
abbrev pairF (b : Nat) (ns ws1 ws2 : List Str) (m1 m2 : List (List Nat)) : Nat × Nat → Nat → Nat × Nat := fPair m1 (ownNums b ns ws1) m2 (ownNums b ns ws2)
def sp_paired : DSp := fun R us h q _ => ∃ b ws1 n1 y1 m1 ws2 n2 y2 m2 G sG g most, us = [.int (b : Nat), machU ws1 y1 m1, machU ws2 y2 m2, .clo G, .int most] ∧ R G sG ∧ TwoM b ws1 n1 y1 m1 ws2 n2 y2 m2 ∧ most ≤ 1000000 ∧
  (∀ a c : Nat, a < n1 → c < n2 → ∀ h1 q1, (∀ p o, h p = some o → h1 p = some o) → (∀ h2, Sep h1 [] h2 → q1 (.bl (g a c)) h2) → sG [encP (a, c)] h1 q1) ∧
  ∀ ns res, NsOf ws1 ws2 ns → GrowR (pairF b ns ws1 ws2 m1 m2) (b ^ ns.length) most [(0, 0)] [] res → ∀ h', Sep h [] h' → q (pairU ns g res) h'
def t_paired (mk_onward : Addr → NF) (C : SU → NF → DFp → Prop) : DS := dSeq (dAsg (dSortSet (dOp oAdd (dOp oIx (dVar 1) (dC (.int 0))) (dOp oIx (dVar 2) (dC (.int 0))))) (gNm 5))
    (dSeq (dAsg (dCall sp_own_letters [] x0 (dCons (dVar 0) (dCons (dVar 5) (dCons (dOp oIx (dVar 1) (dC (.int 0))) (dNil))))) (gNm 6))
    (dSeq (dAsg (dCall sp_own_letters [] x0 (dCons (dVar 0) (dCons (dVar 5) (dCons (dOp oIx (dVar 2) (dC (.int 0))) (dNil))))) (gNm 7))
    (dSeq (dNdef 8 mk_onward)
    (dSeq (dRet (dCall sp_machine_of [] x0 (dCons (dVar 5) (dCons (dCallC C sp_grown_from [] (dCons (dTup (dCons (dC (.int 0)) (dCons (dC (.int 0)) (dNil)))) (dCons (dCB cLen (dCons (dVar 6) (dNil))) (dCons (dVar 8) (dCons (dVar 3) (dCons (dVar 4) (dNil))))))) (dNil)))))
    (dNext)))))
theorem ns_pow {b : Nat} {ws1 ws2 ns : List Str} {n1 n2 : Nat} {y1 y2 : List Bool} {m1 m2 : List (List Nat)} (T : TwoM b ws1 n1 y1 m1 ws2 n2 y2 m2) (N : NsOf ws1 ws2 ns) : b ^ ns.length ≤ 100000 := Nat.le_trans (pow_mono T.b1 N.len) T.pw
theorem p_paired {mk : Addr → NF} {C : SU → NF → DFp → Prop} {R : NF → DFp → Prop} (hown : ∀ s c, C s (mk c) (sp_onw (slotsU s [1, 6, 2, 7]))) (hrec : ∀ s F sp, R F sp → C s F sp) {us : List U} {h : HU} {q : DV} {y : DXK} {bk ct : SU → HU → Prop} (hs : sp_paired R us h q y) :
    t_paired mk C ⟨fun _ h' => WkV q .non h', WkV q, bk, ct⟩ (startN 9 us) h := by
  obtain ⟨b, ws1, n1, y1, m1, ws2, n2, y2, m2, G, sG, g, most, rfl, hG, T, hmost, hg, hq⟩ := hs
  show t_paired _ _ _ [some (.int b), some (machU ws1 y1 m1), some (machU ws2 y2 m2), some (.clo G), some (.int most), none, none, none, none] h
  unfold t_paired
  have S := Sep.nil h
  have hl := T.l
  repeat infer_instance
  refine v_sortSet ?_
  repeat infer_instance
  refine t_add ?_ ?_
  · rw [List.length_map, List.length_map]
    exact sz (by omega)
  rw [← List.map_append]
  refine k_ss (ws1 ++ ws2) rfl rfl (by rw [List.length_append]; omega) fun ns nd mem so => ?_
  have N : NsOf ws1 ws2 ns := ⟨nd, fun x => by rw [mem, List.mem_append], so⟩
  have hnl := N.len
  have hpw := ns_pow T N
  refine k_new S fun pn h1 S => ?_
  repeat infer_instance
  refine ⟨b, .ref pn, ns, ws1, rfl, S.lget 0 rfl, rfl, T.b1, by have := T.b2; omega, by omega, hpw, fun pf h2 S2 => ?_⟩
  have S := S.more S2
  repeat infer_instance
  refine ⟨b, .ref pn, ns, ws2, rfl, S.lget 1 rfl, rfl, T.b1, by have := T.b2; omega, by omega, hpw, fun ps h3 S3 => ?_⟩
  have S := S.more S3
  repeat infer_instance
  refine s_ndef fun c => ?_
  repeat infer_instance
  refine v_callC ?_
  repeat infer_instance
  rw [List.length_map, ownNums_len]
  have lf := S.lget 1 rfl
  have ls := S.lget 0 rfl
  have A := growA_pair (ws1 := ws1) (ws2 := ws2) T.M1 T.M2 (fun j hj => ownNums_lt nd T.nd1 (fun x hx => (N.mem x).mpr (.inl hx)) hj) (fun j hj => ownNums_lt nd T.nd2 (fun x hx => (N.mem x).mpr (.inr hx)) hj) (ownNums_len b ns ws1) (ownNums_len b ns ws2) lf ls
  refine ⟨Nat × Nat, inferInstance, encP, keyP, fun r => r.1 < n1 ∧ r.2 < n2, _, b ^ ns.length, (0, 0), fun r => g r.1 r.2, mk c, G, _, sG, most, rfl, hown _ c, hrec _ G sG hG, A, ⟨T.M1.n1, T.M2.n1⟩, by omega, hmost, fun r hr h4 q1 sub k => hg r.1 r.2 hr.1 hr.2 h4 q1 (fun p o z => sub p o (S.fr p o z)) k, fun gr h4 S4 => ?_, fun came moves gr pc h4 S4 => ?_⟩
  · have S := S.more S4
    repeat infer_instance
    refine .inl ⟨_, rfl, fun h5 S5 => ?_⟩
    exact .of (hq ns none N gr h5 ((S.more S5).pick []))
  · have S := S.more S4
    repeat infer_instance
    refine .inr ⟨_, _, _, _, _, rfl, S.lget 3 rfl, rfl, rfl, fun h5 S5 => ?_⟩
    exact .of (hq ns _ N gr h5 ((S.more S5).pick []))
/-! ### both_of, either_of -/
def sp_pairOf (op : Bool → Bool → Bool) : DP := fun us h q _ => ∃ b ws1 n1 y1 m1 ws2 n2 y2 m2 most, us = [.int (b : Nat), machU ws1 y1 m1, machU ws2 y2 m2, .int most] ∧ TwoM b ws1 n1 y1 m1 ws2 n2 y2 m2 ∧ most ≤ 1000000 ∧
  ∀ ns res, NsOf ws1 ws2 ns → GrowR (pairF b ns ws1 ws2 m1 m2) (b ^ ns.length) most [(0, 0)] [] res → ∀ h', Sep h [] h' → q (pairU ns (fun a c => op (y1[a]?.getD false) (y2[c]?.getD false)) res) h'
abbrev sp_both_of : DP := sp_pairOf fun a c => a && c
abbrev sp_either_of : DP := sp_pairOf fun a c => a || c
def sp_yes (op : Bool → Bool → Bool) : List (Option U) → DFp := fun cs us h q => ∃ w1 y1 m1 w2 y2 m2 a c, cs = [some (machU w1 y1 m1), some (machU w2 y2 m2)] ∧ us = [encP (a, c)] ∧ a < y1.length ∧ c < y2.length ∧ ∀ h', Sep h [] h' → q (.bl (op (y1[a]?.getD false) (y2[c]?.getD false))) h'
abbrev sp_both_of_is_yes := sp_yes fun a c => a && c
abbrev sp_either_of_is_yes := sp_yes fun a c => a || c
def t_both_of (mk_is_yes : Addr → NF) (C : SU → NF → DFp → Prop) : DS := dSeq (dNdef 4 mk_is_yes)
    (dSeq (dRet (dCallC C sp_paired [] (dCons (dVar 0) (dCons (dVar 1) (dCons (dVar 2) (dCons (dVar 4) (dCons (dVar 3) (dNil))))))))
    (dNext))
abbrev t_either_of := t_both_of
def t_both_of_is_yes : DS := dSeq (dRet (dAndV (dOp oIx (dOp oIx (dVar 1) (dC (.int 1))) (dOp oIx (dVar 0) (dC (.int 0)))) (dOp oIx (dOp oIx (dVar 2) (dC (.int 1))) (dOp oIx (dVar 0) (dC (.int 1))))))
    (dNext)
def t_either_of_is_yes : DS := dSeq (dRet (dOrV (dOp oIx (dOp oIx (dVar 1) (dC (.int 1))) (dOp oIx (dVar 0) (dC (.int 0)))) (dOp oIx (dOp oIx (dVar 2) (dC (.int 1))) (dOp oIx (dVar 0) (dC (.int 1))))))
    (dNext)
theorem yes_at {y : List Bool} {a : Nat} (h : a < y.length) : (y.map U.bl)[a]? = some (U.bl (y[a]?.getD false)) := by
  rw [List.getElem?_map, List.getElem?_eq_getElem h]
  rfl
theorem p_both_of_is_yes {cs : List (Option U)} {us : List U} {h : HU} {q : DV} {bk ct : SU → HU → Prop} (hs : sp_both_of_is_yes cs us h q) : t_both_of_is_yes ⟨fun _ h' => WkV q .non h', WkV q, bk, ct⟩ (startC 3 us cs) h := by
  obtain ⟨w1, y1, m1, w2, y2, m2, a, c, rfl, rfl, ha, hc, hq⟩ := hs
  show t_both_of_is_yes _ [some (encP (a, c)), some (machU w1 y1 m1), some (machU w2 y2 m2)] h
  unfold t_both_of_is_yes
  repeat infer_instance
  refine t_ix (atN (yes_at ha)) ?_
  repeat infer_instance
  refine ⟨fun e => ?_, fun e => ?_⟩
  · repeat infer_instance
    refine t_ix (atN (yes_at hc)) ?_
    have := hq h (Sep.nil h)
    rw [e] at this
    exact .of this
  · have := hq h (Sep.nil h)
    rw [e] at this
    exact .of this
theorem p_either_of_is_yes {cs : List (Option U)} {us : List U} {h : HU} {q : DV} {bk ct : SU → HU → Prop} (hs : sp_either_of_is_yes cs us h q) : t_either_of_is_yes ⟨fun _ h' => WkV q .non h', WkV q, bk, ct⟩ (startC 3 us cs) h := by
  obtain ⟨w1, y1, m1, w2, y2, m2, a, c, rfl, rfl, ha, hc, hq⟩ := hs
  show t_either_of_is_yes _ [some (encP (a, c)), some (machU w1 y1 m1), some (machU w2 y2 m2)] h
  unfold t_either_of_is_yes
  repeat infer_instance
  refine t_ix (atN (yes_at ha)) ?_
  repeat infer_instance
  refine ⟨fun e => ?_, fun e => ?_⟩
  · have := hq h (Sep.nil h)
    rw [e] at this
    exact .of this
  · repeat infer_instance
    refine t_ix (atN (yes_at hc)) ?_
    have := hq h (Sep.nil h)
    rw [e] at this
    exact .of this
theorem p_pairOf {op : Bool → Bool → Bool} {mk : Addr → NF} {C : SU → NF → DFp → Prop} (hown : ∀ s c, C s (mk c) (sp_yes op (slotsU s [1, 2]))) {us : List U} {h : HU} {q : DV} {y : DXK} {bk ct : SU → HU → Prop} (hs : sp_pairOf op us h q y) :
    t_both_of mk C ⟨fun _ h' => WkV q .non h', WkV q, bk, ct⟩ (startN 5 us) h := by
  obtain ⟨b, ws1, n1, y1, m1, ws2, n2, y2, m2, most, rfl, T, hmost, hq⟩ := hs
  show t_both_of _ _ _ [some (.int b), some (machU ws1 y1 m1), some (machU ws2 y2 m2), some (.int most), none] h
  unfold t_both_of
  have S := Sep.nil h
  repeat infer_instance
  refine s_ndef fun c => ?_
  repeat infer_instance
  refine v_callC ?_
  repeat infer_instance
  refine ⟨b, ws1, n1, y1, m1, ws2, n2, y2, m2, mk c, _, _, most, rfl, hown _ c, T, hmost, fun a e ha he h1 q1 sub k => ?_, fun ns res N gr h' S' => .of (hq ns res N gr h' S')⟩
  exact ⟨ws1, y1, m1, ws2, y2, m2, a, e, rfl, rfl, by rw [T.M1.ylen]; exact ha, by rw [T.M2.ylen]; exact he, k⟩
end DL

set_option Elab.async false
set_option linter.all false
set_option maxRecDepth 100000
set_option maxHeartbeats 4000000
namespace DL
open PySem L2 NdefX LamX KG
local macro_rules | `(tactic| infer_instance) => `(tactic| with_reducible first | exact subS_nil | refine subS_same ?_ | refine subS_none ?_ | refine s_seq ?_ | refine s_asg ?_ | refine s_if ?_ | refine s_ret ?_ | refine s_retN ?_ | refine s_drop ?_ | refine s_for ?_ | refine s_next ?_ | refine s_break ?_ | refine s_cont ?_ | refine v_c ?_ | refine v_op ?_ | refine v_un ?_ | refine v_if ?_ | refine v_nil ?_ | refine v_cons ?_ | refine v_CB ?_ | refine v_BM0 ?_ | refine v_BM ?_ | refine v_call ?_ | refine v_B ?_ | refine k_bl ?_ | refine v_and ?_ | refine v_or ?_ | refine v_not ?_ | refine v_yes ?_ | refine v_andV ?_ | refine v_orV ?_ | refine k_and ?_ | refine k_or ?_ | refine v_rNot ?_ | refine w_any ?_ | refine k_anyT ?_ | refine k_anyS ?_ | refine w_rng1 ?_ | refine w_zip ?_ | refine v_lc ?_ | refine v_lst ?_ | refine v_rev ?_ | refine v_revS ?_ | refine v_noP ?_ | refine v_part ?_ | refine k_part ?_ | refine v_sl ?_ | refine t_sl ?_ | refine t_list ?_ | refine k_isT ?_ | refine g_sb ?_ | refine v_kv0 ?_ | refine v_kv ?_ | refine v_dis ?_ | refine v_disT ?_ | refine i_add ?_ | refine i_sub ?_ | refine i_neg ?_ | refine i_lt ?_ | refine i_le ?_ | refine i_gt ?_ | refine i_ge ?_ | refine i_eq ?_ | refine i_ne ?_ | refine s_eq ?_ | refine s_ne ?_ | refine b_eq ?_ | refine b_ne ?_ | refine n_is ?_ | refine n_not ?_ | refine t_len ?_ | refine t_tuple ?_ | refine i_abs ?_ | refine i_int ?_ | refine b_int ?_ | refine g_unp ?_ | refine g_nms0 ?_ | refine g_nmsS ?_ | refine g_nm0 ?_  | refine g_nm1 ?_  | refine g_nm2 ?_  | refine g_nm3 ?_  | refine g_nm4 ?_  | refine g_nm5 ?_  | refine g_nm6 ?_  | refine g_nm7 ?_  | refine g_nm8 ?_  | refine g_nm9 ?_  | refine g_nm10 ?_  | refine g_nm11 ?_  | refine g_nm12 ?_  | refine g_nm13 ?_  | refine g_nm14 ?_  | refine g_nm15 ?_  | refine g_nm16 ?_  | refine g_nm17 ?_  | refine g_nm18 ?_  | refine g_nm19 ?_  | refine g_nm20 ?_  | refine g_nm21 ?_  | refine g_nm22 ?_  | refine g_nm23 ?_  | refine g_nm24 ?_  | refine g_nm25 ?_  | refine g_nm26 ?_  | refine g_nm27 ?_  | refine g_nm28 ?_  | refine g_nm29 ?_  | refine g_nm30 ?_  | refine g_nm31 ?_)
local macro_rules | `(tactic| infer_instance) => `(tactic| first | ((with_reducible apply v_var); rfl) | ((with_reducible apply t_ix); rfl) | ((with_reducible apply l_len); (first | exact Sep.lget ‹_› 0 rfl | exact Sep.lget ‹_› 1 rfl | exact Sep.lget ‹_› 2 rfl | exact Sep.lget ‹_› 3 rfl | exact Sep.lget ‹_› 4 rfl | exact Sep.lget ‹_› 5 rfl | exact Sep.lget ‹_› 6 rfl | exact Sep.lget ‹_› 7 rfl))  | ((with_reducible apply l_tuple); (first | exact Sep.lget ‹_› 0 rfl | exact Sep.lget ‹_› 1 rfl | exact Sep.lget ‹_› 2 rfl | exact Sep.lget ‹_› 3 rfl | exact Sep.lget ‹_› 4 rfl | exact Sep.lget ‹_› 5 rfl | exact Sep.lget ‹_› 6 rfl | exact Sep.lget ‹_› 7 rfl))  | ((with_reducible apply k_anyL); (first | exact Sep.lget ‹_› 0 rfl | exact Sep.lget ‹_› 1 rfl | exact Sep.lget ‹_› 2 rfl | exact Sep.lget ‹_› 3 rfl | exact Sep.lget ‹_› 4 rfl | exact Sep.lget ‹_› 5 rfl | exact Sep.lget ‹_› 6 rfl | exact Sep.lget ‹_› 7 rfl)) | ((with_reducible apply k_isL); (first | exact Sep.lget ‹_› 0 rfl | exact Sep.lget ‹_› 1 rfl | exact Sep.lget ‹_› 2 rfl | exact Sep.lget ‹_› 3 rfl | exact Sep.lget ‹_› 4 rfl | exact Sep.lget ‹_› 5 rfl | exact Sep.lget ‹_› 6 rfl | exact Sep.lget ‹_› 7 rfl))  | ((with_reducible apply l_list); (first | exact Sep.lget ‹_› 0 rfl | exact Sep.lget ‹_› 1 rfl | exact Sep.lget ‹_› 2 rfl | exact Sep.lget ‹_› 3 rfl | exact Sep.lget ‹_› 4 rfl | exact Sep.lget ‹_› 5 rfl | exact Sep.lget ‹_› 6 rfl | exact Sep.lget ‹_› 7 rfl))  | ((with_reducible apply k_rev); (first | exact Sep.lget ‹_› 0 rfl | exact Sep.lget ‹_› 1 rfl | exact Sep.lget ‹_› 2 rfl | exact Sep.lget ‹_› 3 rfl | exact Sep.lget ‹_› 4 rfl | exact Sep.lget ‹_› 5 rfl | exact Sep.lget ‹_› 6 rfl | exact Sep.lget ‹_› 7 rfl))  | ((with_reducible apply l_sl); (first | exact Sep.lget ‹_› 0 rfl | exact Sep.lget ‹_› 1 rfl | exact Sep.lget ‹_› 2 rfl | exact Sep.lget ‹_› 3 rfl | exact Sep.lget ‹_› 4 rfl | exact Sep.lget ‹_› 5 rfl | exact Sep.lget ‹_› 6 rfl | exact Sep.lget ‹_› 7 rfl)) | (with_reducible refine v_tup ?_) | (with_reducible refine And.intro (szb rfl) ?_) | (dsimp only [wipeU, List.set]))
/-! ### plain things, for equality -/
def okPy (d : Nat) (x : U) : Prop := ∃ dd, toPy x = some dd ∧ dd.depth ≤ d
theorem okPys {d : Nat} : ∀ {xs : List U}, (∀ x ∈ xs, okPy d x) → ∃ ds, toPys xs = some ds ∧ PyData.depthAll ds ≤ d
  | [], _ => ⟨[], rfl, by simp [PyData.depthAll]⟩
  | x :: xs, h => by
    obtain ⟨dd, e1, l1⟩ := h x List.mem_cons_self
    obtain ⟨ds, e2, l2⟩ := okPys fun y hy => h y (List.mem_cons_of_mem _ hy)
    refine ⟨dd :: ds, ?_, ?_⟩
    · unfold toPys
      rw [e1, e2]
    · rw [PyData.depthAll]
      omega
theorem okPy_tup {d : Nat} {xs : List U} (h : ∀ x ∈ xs, okPy d x) : okPy (d + 1) (.tup xs) := by
  obtain ⟨ds, e, l⟩ := okPys h
  refine ⟨.tuple ds, ?_, ?_⟩
  · unfold toPy
    rw [e]
  · rw [PyData.depth]
    omega
theorem okPy_int {d : Nat} {i : Int} : okPy d (.int i) := ⟨.int i, rfl, by simp [PyData.depth]⟩
theorem okPy_bl {d : Nat} {i : Bool} : okPy d (.bl i) := ⟨.bool i, rfl, by simp [PyData.depth]⟩
theorem okPy_str {d : Nat} {x : Str} (h : PyData.strOk x = true) : okPy d (.str x) := ⟨.str x, by unfold toPy; rw [if_pos h], by simp [PyData.depth]⟩
theorem okPy_strs {d : Nat} {ws : List Str} (h : ∀ w ∈ ws, PyData.strOk w = true) : okPy (d + 1) (.tup (ws.map U.str)) := okPy_tup fun x hx => by
  obtain ⟨w, hw, rfl⟩ := List.mem_map.mp hx
  exact okPy_str (h w hw)
theorem okPy_mach {ws : List Str} {yes : List Bool} {moves : List (List Nat)} (h : ∀ w ∈ ws, PyData.strOk w = true) : okPy 3 (machU ws yes moves) := okPy_tup fun x hx => by
  simp only [List.mem_cons, List.not_mem_nil, or_false] at hx
  rcases hx with rfl | rfl | rfl
  · exact okPy_strs h
  · exact okPy_tup fun x hx => by
      obtain ⟨w, hw, rfl⟩ := List.mem_map.mp hx
      exact okPy_bl
  · exact okPy_tup fun x hx => by
      obtain ⟨w, hw, rfl⟩ := List.mem_map.mp hx
      exact okPy_tup fun x hx => by
        obtain ⟨w, hw, rfl⟩ := List.mem_map.mp hx
        exact okPy_int
theorem plA_strs {d : Nat} {ws : List Str} (h : ws.length ≤ 1000000) : plA (d + 2) (.tup (ws.map U.str)) := ⟨by rw [List.length_map]; exact h, fun x hx => by
  obtain ⟨w, hw, rfl⟩ := List.mem_map.mp hx
  exact True.intro⟩
theorem plA_bls {d : Nat} {ws : List Bool} (h : ws.length ≤ 1000000) : plA (d + 2) (.tup (ws.map U.bl)) := ⟨by rw [List.length_map]; exact h, fun x hx => by
  obtain ⟨w, hw, rfl⟩ := List.mem_map.mp hx
  exact True.intro⟩
theorem plA_nats {d : Nat} {ws : List Nat} (h : ws.length ≤ 1000000) : plA (d + 2) (tupN ws) := ⟨by rw [List.length_map]; exact h, fun x hx => by
  obtain ⟨w, hw, rfl⟩ := List.mem_map.mp hx
  exact True.intro⟩
theorem plA_moves {d : Nat} {ws : List (List Nat)} (h : ws.length ≤ 1000000) (h2 : ∀ l ∈ ws, l.length ≤ 1000000) : plA (d + 3) (.tup (ws.map tupN)) := ⟨by rw [List.length_map]; exact h, fun x hx => by
  obtain ⟨w, hw, rfl⟩ := List.mem_map.mp hx
  exact plA_nats (h2 w hw)⟩
theorem plA_mach {d : Nat} {ws : List Str} {yes : List Bool} {moves : List (List Nat)} (h1 : ws.length ≤ 1000000) (h2 : yes.length ≤ 1000000) (h3 : moves.length ≤ 1000000) (h4 : ∀ l ∈ moves, l.length ≤ 1000000) : plA (d + 4) (machU ws yes moves) := ⟨by show (3 : Nat) ≤ 1000000; decide, fun x hx => by
  simp only [List.mem_cons, List.not_mem_nil, or_false] at hx
  rcases hx with rfl | rfl | rfl
  · exact plA_strs (d := d + 1) h1
  · exact plA_bls (d := d + 1) h2
  · exact plA_moves h3 h4⟩
abbrev sp__law_alike : DP := sp_alikeD 10
/-- a call that leaves all as it was -/
theorem Feed.keep {g0 : HU} {p : Addr} {L : List (Addr × UO)} {h h' : HU} (F : Feed g0 p L h) (S : Sep h [] h') : Feed g0 p L h' := by
  obtain ⟨l, n, s, gs, fi, S0⟩ := F
  exact ⟨l, n, s, gs, fi, S0.more S⟩
/-- nothing is changed by what is not told of -/
theorem Feed.fr {g0 : HU} {p : Addr} {L : List (Addr × UO)} {h : HU} (F : Feed g0 p L h) : ∀ a o, g0 a = some o → h a = some o := by
  obtain ⟨l, n, s, gs, fi, S0⟩ := F
  exact S0.fr
/-! ### the law's pairs -/
abbrev sp__law_due__law_onward := sp_onw
abbrev t__law_due__law_onward := t_onw
def sp__law_due : DP := fun us h q _ => ∃ b ws1 n1 y1 m1 ws2 n2 y2 m2, us = [.int (b : Nat), machU ws1 y1 m1, machU ws2 y2 m2] ∧ TwoM b ws1 n1 y1 m1 ws2 n2 y2 m2 ∧ n1 * n2 ≤ 2000 ∧
  ∀ ns came moves, NsOf ws1 ws2 ns → GrowR (pairF b ns ws1 ws2 m1 m2) (b ^ ns.length) 2000 [(0, 0)] [] (some (came, moves)) → ∀ r h', Sep h [(r, .lst (came.map encP))] h' → q (.tup [.tup (ns.map U.str), .ref r, .tup (moves.map tupN)]) h'
def t__law_due (mk__law_onward : Addr → NF) (C : SU → NF → DFp → Prop) : DS := dSeq (dAsg (dCB cTuple (dCons (dCB cSortA (dCons (dOp oAdd (dOp oIx (dVar 1) (dC (.int 0))) (dCB cTuple (dCons (dLc (iAny (dOp oIx (dVar 2) (dC (.int 0)))) (gNm 9) (dB (dOp oNotIn (dVar 9) (dOp oIx (dVar 1) (dC (.int 0))))) (dVar 9) [9]) (dNil)))) (dNil))) (dNil))) (gNm 3))
    (dSeq (dAsg (dCall sp__law_numbers [] x0 (dCons (dVar 0) (dCons (dVar 3) (dCons (dOp oIx (dVar 1) (dC (.int 0))) (dNil))))) (gNm 4))
    (dSeq (dAsg (dCall sp__law_numbers [] x0 (dCons (dVar 0) (dCons (dVar 3) (dCons (dOp oIx (dVar 2) (dC (.int 0))) (dNil))))) (gNm 5))
    (dSeq (dNdef 6 mk__law_onward)
    (dSeq (dAsg (dCallC C sp__law_grown [] (dCons (dTup (dCons (dC (.int 0)) (dCons (dC (.int 0)) (dNil)))) (dCons (dCB cLen (dCons (dVar 4) (dNil))) (dCons (dVar 6) (dCons (dC (.int 2000)) (dNil)))))) (gUnp [7, 8]))
    (dSeq (dRet (dTup (dCons (dVar 3) (dCons (dVar 7) (dCons (dVar 8) (dNil))))))
    (dNext))))))
/-- all pairs -/
def allP (n1 n2 : Nat) : List (Nat × Nat) := (List.range n1).flatMap fun a => (List.range n2).map fun b => (a, b)
theorem allP_len (n1 n2 : Nat) : (allP n1 n2).length = n1 * n2 := by
  unfold allP
  rw [List.length_flatMap]
  simp only [List.length_map, List.length_range, List.map_const', List.sum_replicate_nat]
theorem allP_mem {n1 n2 : Nat} {r : Nat × Nat} : r ∈ allP n1 n2 ↔ r.1 < n1 ∧ r.2 < n2 := by
  unfold allP
  rw [List.mem_flatMap]
  constructor
  · rintro ⟨a, ha, hr⟩
    obtain ⟨b, hb, rfl⟩ := List.mem_map.mp hr
    exact ⟨List.mem_range.mp ha, List.mem_range.mp hb⟩
  · rintro ⟨h1, h2⟩
    exact ⟨r.1, List.mem_range.mpr h1, List.mem_map.mpr ⟨r.2, List.mem_range.mpr h2, rfl⟩⟩
/-- what comes up of two machines: never too many -/
theorem pair_grow {b : Nat} {ws1 ws2 ns : List Str} {n1 n2 : Nat} {y1 y2 : List Bool} {m1 m2 : List (List Nat)} (T : TwoM b ws1 n1 y1 m1 ws2 n2 y2 m2) (N : NsOf ws1 ws2 ns) {most : Int} (hm : ((n1 * n2 : Nat) : Int) ≤ most) {res : Res (Nat × Nat)} (g : GrowR (pairF b ns ws1 ws2 m1 m2) (b ^ ns.length) most [(0, 0)] [] res) :
    ∃ came moves, res = some (came, moves) ∧ (∀ r ∈ came, r.1 < n1 ∧ r.2 < n2) ∧ moves.length = came.length ∧ came.length ≤ n1 * n2 ∧ (∀ l ∈ moves, l.length = b ^ ns.length) ∧ 1 ≤ came.length := by
  have A := growA_pair (ws1 := ws1) (ws2 := ws2) (h := fun p => if p = 0 then some (.lst ((ownNums b ns ws1).map fun n => U.int (n : Nat))) else if p = 1 then some (.lst ((ownNums b ns ws2).map fun n => U.int (n : Nat))) else none) (pf := 0) (ps := 1) T.M1 T.M2 (fun j hj => ownNums_lt N.nd T.nd1 (fun x hx => (N.mem x).mpr (.inl hx)) hj) (fun j hj => ownNums_lt N.nd T.nd2 (fun x hx => (N.mem x).mpr (.inr hx)) hj) (ownNums_len b ns ws1) (ownNums_len b ns ws2) rfl rfl
  have z : ∀ r ∈ [((0 : Nat), (0 : Nat))], r.1 < n1 ∧ r.2 < n2 := fun r hr => by
    rw [List.mem_singleton.mp hr]
    exact ⟨T.M1.n1, T.M2.n1⟩
  obtain ⟨came, moves, e⟩ := g.some_of (S := allP n1 n2) (fun r hr k hk => allP_mem.mpr (A.cl r (allP_mem.mp hr) k hk)) (by rw [allP_len]; exact hm) GI.start (fun r hr => allP_mem.mpr (z r hr))
  obtain ⟨gi, c1, c2, ⟨more, c3⟩, _⟩ := g.closed (fun r hr k hk => A.cl r hr k hk) GI.start z came moves e
  refine ⟨came, moves, e, c2, c1, ?_, fun l hl => ?_, ?_⟩
  · have := nodup_sub gi.nd (m := allP n1 n2) fun r hr => allP_mem.mpr (c2 r hr)
    rwa [allP_len] at this
  · obtain ⟨i, hi, ei⟩ := List.mem_iff_getElem.mp hl
    obtain ⟨l', e1, e2, _⟩ := gi.row i hi
    rw [List.getElem?_eq_getElem hi, ei] at e1
    cases e1
    exact e2
  · rw [c3]
    simp
theorem NsOf.of_filter {ws1 ws2 ns : List Str} (n1 : ws1.Nodup) (n2 : ws2.Nodup) (p : ns.Perm (ws1 ++ ws2.filter fun x => decide (x ∉ ws1))) (so : PyProof.Rows.sortedS ns = true) : NsOf ws1 ws2 ns := by
  refine ⟨p.nodup_iff.mpr ?_, fun x => ?_, so⟩
  · rw [List.nodup_append]
    refine ⟨n1, n2.sublist List.filter_sublist, fun a ha b hb z => ?_⟩
    have := (List.mem_filter.mp hb).2
    rw [← z] at this
    simp [ha] at this
  · rw [p.mem_iff, List.mem_append, List.mem_filter]
    by_cases q : x ∈ ws1
    · simp [q]
    · simp [q]
theorem p__law_due {mk : Addr → NF} {C : SU → NF → DFp → Prop} (hown : ∀ s c, C s (mk c) (sp_onw (slotsU s [1, 4, 2, 5]))) {us : List U} {h : HU} {q : DV} {y : DXK} {bk ct : SU → HU → Prop} (hs : sp__law_due us h q y) :
    t__law_due mk C ⟨fun _ h' => WkV q .non h', WkV q, bk, ct⟩ (startN 10 us) h := by
  obtain ⟨b, ws1, n1, y1, m1, ws2, n2, y2, m2, rfl, T, hnn, hq⟩ := hs
  show t__law_due _ _ _ [some (.int b), some (machU ws1 y1 m1), some (machU ws2 y2 m2), none, none, none, none, none, none, none] h
  unfold t__law_due
  have S := Sep.nil h
  have hl := T.l
  repeat infer_instance
  refine lc_fmA ws2 U.str rfl (fun x => if x ∈ ws1 then none else some (U.str x)) (szl (by omega)) True.intro (fun x hx C2 N hC hN => ?_) ?_
  · repeat infer_instance
    refine t_nin rfl (flat_str _ _) ?_
    rw [inF_str]
    repeat infer_instance
    refine if_n (fun hm => ?_) (fun hm => ?_)
    · repeat infer_instance
      exact hC _ (if_neg hm)
    · exact hN (if_pos hm)
  have ef : ws2.filterMap (fun x => if x ∈ ws1 then none else some (U.str x)) = (ws2.filter fun x => decide (x ∉ ws1)).map U.str := by
    clear T hq hl
    induction ws2 with
    | nil => rfl
    | cons a ws2 ih =>
      rw [List.filterMap_cons, List.filter_cons]
      by_cases z : a ∈ ws1
      · simp only [z, if_true, not_true, decide_false, Bool.false_eq_true, if_false, ih]
      · simp only [z, if_false, not_false_iff, decide_true, if_true, ih, List.map_cons]
  rw [ef]
  refine k_new S fun pt h1 S => ?_
  repeat infer_instance
  have fl : (ws2.filter fun x => decide (x ∉ ws1)).length ≤ ws2.length := List.length_filter_le _ _
  refine t_add ?_ ?_
  · rw [List.length_map, List.length_map]
    exact sz (by omega)
  rw [← List.map_append]
  repeat infer_instance
  refine l_sortA (x := .tup ((ws1 ++ ws2.filter fun x => decide (x ∉ ws1)).map U.str)) (ws1 ++ ws2.filter fun x => decide (x ∉ ws1)) rfl rfl fun ns hp so => ?_
  have N := NsOf.of_filter T.nd1 T.nd2 hp so
  have hnl := N.len
  have hpw := ns_pow T N
  refine k_new S fun pn h2 S => ?_
  repeat infer_instance
  refine ⟨b, .tup (ns.map U.str), ns, ws1, rfl, rfl, rfl, T.b1, by have := T.b2; omega, by omega, hpw, fun pf h3 S3 => ?_⟩
  have S := S.more S3
  repeat infer_instance
  refine ⟨b, .tup (ns.map U.str), ns, ws2, rfl, rfl, rfl, T.b1, by have := T.b2; omega, by omega, hpw, fun ps h4 S4 => ?_⟩
  have S := S.more S4
  repeat infer_instance
  refine s_ndef fun c => ?_
  repeat infer_instance
  refine v_callC ?_
  repeat infer_instance
  rw [List.length_map, ownNums_len]
  have lf := S.lget 1 rfl
  have ls := S.lget 0 rfl
  have A := growA_pair (ws1 := ws1) (ws2 := ws2) T.M1 T.M2 (fun j hj => ownNums_lt N.nd T.nd1 (fun x hx => (N.mem x).mpr (.inl hx)) hj) (fun j hj => ownNums_lt N.nd T.nd2 (fun x hx => (N.mem x).mpr (.inr hx)) hj) (ownNums_len b ns ws1) (ownNums_len b ns ws2) lf ls
  refine ⟨Nat × Nat, inferInstance, encP, keyP, fun r => r.1 < n1 ∧ r.2 < n2, _, b ^ ns.length, (0, 0), mk c, _, 2000, rfl, hown _ c, A, ⟨T.M1.n1, T.M2.n1⟩, by omega, by decide, fun gr h5 S5 => ?_, fun came moves gr pc h5 S5 => ?_⟩
  · obtain ⟨_, _, e, _⟩ := pair_grow T N (by omega) gr
    cases e
  · have S := S.more S5
    repeat infer_instance
    exact .of (hq ns came moves N gr pc h5 (S.pick [0]))
/-! ### two rings -/
def ringY (m : Nat) : List Bool := (List.range m).map fun (r : Nat) => decide ((r : Int) = 0)
def ringM (m : Nat) : List (List Nat) := (List.range m).map fun r => [r, (r + 1) % m]
def sp__law_ring : DP := fun us h q _ => ∃ m : Nat, us = [.int m] ∧ 1 ≤ m ∧ m ≤ 1000 ∧ ∀ h', Sep h [] h' → q (machU ["n"] (ringY m) (ringM m)) h'
def t__law_ring : DS := dSeq (dAsg (dLc (iRng1 (dCons (dVar 0) (dNil))) (gNm 2) dYes (dTup (dCons (dVar 2) (dCons (dOp oMod (dOp oAdd (dVar 2) (dC (.int 1))) (dVar 0)) (dNil)))) [2]) (gNm 1))
    (dSeq (dRet (dTup (dCons (dTup (dCons (dC (.str "n")) (dNil))) (dCons (dCB cTuple (dCons (dLc (iRng1 (dCons (dVar 0) (dNil))) (gNm 2) dYes (dOp oEq (dVar 2) (dC (.int 0))) [2]) (dNil))) (dCons (dCB cTuple (dCons (dVar 1) (dNil))) (dNil))))))
    (dNext))
theorem p__law_ring {us : List U} {h : HU} {q : DV} {y : DXK} {bk ct : SU → HU → Prop} (hs : sp__law_ring us h q y) : t__law_ring ⟨fun _ h' => WkV q .non h', WkV q, bk, ct⟩ (startN 3 us) h := by
  obtain ⟨m, rfl, h1, h2, hq⟩ := hs
  show t__law_ring _ [some (.int m), none, none] h
  unfold t__law_ring
  have S := Sep.nil h
  repeat infer_instance
  refine k_rngN (by omega) ?_
  refine lc_mapA (List.range m) (fun k => U.int (k : Nat)) (rng_map m) (fun r => tupN [r, (r + 1) % m]) (szl (by rw [List.length_range]; omega)) True.intro (fun r hr C N hC => ?_) ?_
  · repeat infer_instance
    refine if_t rfl ?_
    repeat infer_instance
    refine i_mod (by omega) ?_
    have e : ((r : Int) + 1) % (m : Int) = (((r + 1) % m : Nat) : Int) := by
      rw [Int.natCast_emod]
      rfl
    rw [e]
    repeat infer_instance
    exact hC
  refine k_new S fun pm h3 S => ?_
  repeat infer_instance
  refine k_rngN (by omega) ?_
  refine lc_mapA (List.range m) (fun k => U.int (k : Nat)) (rng_map m) (fun (r : Nat) => U.bl (decide ((r : Int) = 0))) (szl (by rw [List.length_range]; omega)) True.intro (fun r hr C N hC => ?_) ?_
  · repeat infer_instance
    refine if_t rfl ?_
    repeat infer_instance
    exact hC
  refine k_new S fun pb h4 S => ?_
  repeat infer_instance
  have := hq h4 (S.pick [])
  unfold machU ringY ringM at this
  rw [List.map_map, List.map_map] at this
  exact .of this
theorem ringM_at {m r : Nat} (h : r < m) : (ringM m)[r]? = some [r, (r + 1) % m] := by
  unfold ringM
  rw [List.getElem?_map, List.getElem?_range h]
  rfl
theorem ring_I {m : Nat} (h : 1 ≤ m) : MachI (2 ^ 1) m (ringY m) (ringM m) := by
  have hl : (ringM m).length = m := by unfold ringM; rw [List.length_map, List.length_range]
  refine ⟨h, hl, by unfold ringY; rw [List.length_map, List.length_range], fun l hl => ?_, fun r hr => ?_⟩
  · unfold ringM at hl
    obtain ⟨r, hr, rfl⟩ := List.mem_map.mp hl
    have hr' := List.mem_range.mp hr
    refine ⟨rfl, fun a ha => ?_⟩
    simp only [List.mem_cons, List.not_mem_nil, or_false] at ha
    rcases ha with rfl | rfl
    · exact hr'
    · exact Nat.mod_lt _ (by omega)
  · have : nx0 (ringM m) r = r := by
      unfold nx0
      rw [ringM_at hr]
      rfl
    rw [this]
abbrev nN : List Str := ["n"]
theorem ring_two {m : Nat} (h : 1 ≤ m) : TwoM 2 nN m (ringY m) (ringM m) nN (m + 1) (ringY (m + 1)) (ringM (m + 1)) := ⟨by decide, by decide, by decide, by decide, by simp, by simp, ring_I h, ring_I (by omega)⟩
theorem ring_ns {ns : List Str} (N : NsOf nN nN ns) : ns = nN := sorted_eq_nd N.so rfl N.nd (by simp) fun x => by rw [N.mem]; simp
theorem ring_own : ownNums 2 nN nN = [0, 1] := by decide +kernel
theorem ring_f {m : Nat} (h : 1 ≤ m) (i : Nat) : pairF 2 nN nN nN (ringM m) (ringM (m + 1)) (pr m i) 0 = pr m i ∧ pairF 2 nN nN nN (ringM m) (ringM (m + 1)) (pr m i) 1 = pr m (i + 1) := by
  have a := ringM_at (Nat.mod_lt i (show 0 < m by omega))
  have b := ringM_at (Nat.mod_lt i (show 0 < m + 1 by omega))
  unfold pairF fPair
  rw [ring_own]
  unfold stepM pr
  simp only [a, b, Option.bind_some]
  refine ⟨rfl, ?_⟩
  show ((i % m + 1) % m, (i % (m + 1) + 1) % (m + 1)) = _
  rw [Nat.mod_add_mod, Nat.mod_add_mod]
/-- what two rings come to, either way -/
theorem ring_res {m : Nat} (h : m = 43 ∨ m = 44 ∨ m = 45) {ns : List Str} (N : NsOf nN nN ns) {g : Nat → Nat → Bool} {res : Res (Nat × Nat)} (gr : GrowR (pairF 2 ns nN nN (ringM m) (ringM (m + 1))) (2 ^ ns.length) 2000 [(0, 0)] [] res) :
    (2000 < m * (m + 1) → pairU ns g res = .non) ∧ (m * (m + 1) ≤ 2000 → ∃ a bs c, pairU ns g res = .tup [a, .tup bs, c] ∧ bs.length = m * (m + 1)) := by
  have e := ring_ns N
  subst e
  have hm : 1 ≤ m := by omega
  have z := ring_grow (fun i => (ring_f hm i).1) (fun i => (ring_f hm i).2) h gr 0 rfl (Nat.zero_le _) (by
    rcases h with rfl | rfl | rfl <;> rfl) (fun z => absurd z (by decide))
  refine ⟨fun hb => by rw [z.1 hb]; rfl, fun hl => ?_⟩
  obtain ⟨came, moves, e, l1, l2⟩ := z.2 hl
  rw [e]
  exact ⟨_, _, _, rfl, by rw [List.length_map, l1]⟩
def sp__law_two_rings : DP := fun us h q _ => ∃ m : Nat, us = [.int m] ∧ (m = 43 ∨ m = 44 ∨ m = 45) ∧ ∀ h', Sep h [] h' → q (.bl true) h'
def t__law_two_rings : DS := dSeq (dAsg (dCall sp__law_ring [] x0 (dCons (dVar 0) (dNil))) (gNm 1))
    (dSeq (dAsg (dCall sp__law_ring [] x0 (dCons (dOp oAdd (dVar 0) (dC (.int 1))) (dNil))) (gNm 2))
    (dSeq (dFor (iAny (dTup (dCons (dCall sp_both_of [.int 2000] x0 (dCons (dC (.int 2)) (dCons (dVar 1) (dCons (dVar 2) (dNil))))) (dCons (dCall sp_either_of [.int 2000] x0 (dCons (dC (.int 2)) (dCons (dVar 1) (dCons (dVar 2) (dNil))))) (dNil))))) (gNm 3) (dSeq (dIfS (dAnd (dB (dOp oGt (dOp oMul (dVar 0) (dOp oAdd (dVar 0) (dC (.int 1)))) (dC (.int 2000)))) (dB (dOp oNotN (dVar 3) (dC .non)))) (dSeq (dRet (dC (.bl false)))
    (dNext)) (dNext))
    (dSeq (dIfS (dAnd (dB (dOp oLe (dOp oMul (dVar 0) (dOp oAdd (dVar 0) (dC (.int 1)))) (dC (.int 2000)))) (dOr (dB (dOp oIsN (dVar 3) (dC .non))) (dB (dOp oNe (dCB cLen (dCons (dOp oIx (dVar 3) (dC (.int 1))) (dNil))) (dOp oMul (dVar 0) (dOp oAdd (dVar 0) (dC (.int 1)))))))) (dSeq (dRet (dC (.bl false)))
    (dNext)) (dNext))
    (dNext))))
    (dSeq (dRet (dC (.bl true)))
    (dNext))))
theorem p__law_two_rings {us : List U} {h : HU} {q : DV} {y : DXK} {bk ct : SU → HU → Prop} (hs : sp__law_two_rings us h q y) : t__law_two_rings ⟨fun _ h' => WkV q .non h', WkV q, bk, ct⟩ (startN 4 us) h := by
  obtain ⟨m, rfl, hm, hq⟩ := hs
  show t__law_two_rings _ [some (.int m), none, none, none] h
  unfold t__law_two_rings
  have S := Sep.nil h
  have ec : (m : Int) + 1 = ((m + 1 : Nat) : Int) := by omega
  have em : (m : Int) * ((m : Int) + 1) = ((m * (m + 1) : Nat) : Int) := by rw [Int.natCast_mul]; rfl
  repeat infer_instance
  refine ⟨m, rfl, by omega, by omega, fun h1 S1 => ?_⟩
  have S := S.more S1
  repeat infer_instance
  rw [ec]
  refine ⟨m + 1, rfl, by omega, by omega, fun h2 S2 => ?_⟩
  have S := S.more S2
  repeat infer_instance
  refine ⟨2, _, _, _, _, _, _, _, _, 2000, rfl, ring_two (by omega), by decide, fun ns res N gr h3 S3 => ?_⟩
  have r1 := ring_res hm (g := fun a c => ((ringY m)[a]?.getD false) && ((ringY (m + 1))[c]?.getD false)) N gr
  generalize pairU ns (fun a c => ((ringY m)[a]?.getD false) && ((ringY (m + 1))[c]?.getD false)) res = u1 at r1 ⊢
  have S := S.more S3
  repeat infer_instance
  refine ⟨2, _, _, _, _, _, _, _, _, 2000, rfl, ring_two (by omega), by decide, fun ns res N gr h4 S4 => ?_⟩
  have r2 := ring_res hm (g := fun a c => ((ringY m)[a]?.getD false) || ((ringY (m + 1))[c]?.getD false)) N gr
  generalize pairU ns (fun a c => ((ringY m)[a]?.getD false) || ((ringY (m + 1))[c]?.getD false)) res = u2 at r2 ⊢
  have S := S.more S4
  repeat infer_instance
  refine f_invA [u1, u2] (fun u => u) rfl (fun i s h' => s = [some (.int m), some (machU nN (ringY m) (ringM m)), some (machU nN (ringY (m + 1)) (ringM (m + 1))), none] ∧ Sep h [] h') ⟨rfl, S⟩ (fun _ _ _ _ => True.intro) ?_ ?_
  · rintro i u eu s h5 ⟨rfl, S⟩
    have hm3 : 43 ≤ m ∧ m ≤ 45 := by clear r1 r2; omega
    have ru : (2000 < m * (m + 1) → u = .non) ∧ (m * (m + 1) ≤ 2000 → ∃ a bs c, u = .tup [a, .tup bs, c] ∧ bs.length = m * (m + 1)) := by
      have := List.mem_of_getElem? eu
      simp only [List.mem_cons, List.not_mem_nil, or_false] at this
      rcases this with rfl | rfl
      · exact r1
      · exact r2
    have hm1 : -(2 ^ 64) < (m : Int) := by clear ru r1 r2; omega
    have hm2 : (m : Int) < 2 ^ 64 := by clear ru r1 r2; omega
    repeat infer_instance
    refine i_mul (.inl ⟨hm1, hm2⟩) ?_
    repeat infer_instance
    rw [em]
    by_cases big : 2000 < m * (m + 1)
    · have eu := ru.1 big
      clear ru r1 r2
      subst eu
      refine if_t (decide_eq_true (by omega)) ?_
      repeat infer_instance
      refine if_f rfl ?_
      repeat infer_instance
      refine i_mul (.inl ⟨hm1, hm2⟩) ?_
      repeat infer_instance
      rw [em]
      refine if_f (decide_eq_false (by omega)) ?_
      refine if_f rfl ?_
      repeat infer_instance
      refine wk ?_ ⟨rfl, S⟩
      repeat infer_instance
    · obtain ⟨a, bs, c, eu, hbl⟩ := ru.2 (Nat.le_of_not_lt big)
      clear ru r1 r2
      subst eu
      refine if_f (decide_eq_false (by omega)) ?_
      refine if_f rfl ?_
      repeat infer_instance
      refine i_mul (.inl ⟨hm1, hm2⟩) ?_
      repeat infer_instance
      rw [em]
      refine if_t (decide_eq_true (by omega)) ?_
      repeat infer_instance
      refine if_f rfl ?_
      repeat infer_instance
      refine i_mul (.inl ⟨hm1, hm2⟩) ?_
      repeat infer_instance
      rw [em, hbl]
      refine if_f (by simp) ?_
      repeat infer_instance
      refine wk ?_ ⟨rfl, S⟩
      repeat infer_instance
  · rintro s h5 ⟨rfl, S⟩
    repeat infer_instance
    exact .of (hq _ S)
end DL

set_option Elab.async false
set_option linter.all false
set_option maxRecDepth 100000
set_option maxHeartbeats 4000000
namespace DL
open PySem L2 NdefX LamX KG
local macro_rules | `(tactic| infer_instance) => `(tactic| with_reducible first | exact subS_nil | refine subS_same ?_ | refine subS_none ?_ | refine s_seq ?_ | refine s_asg ?_ | refine s_if ?_ | refine s_ret ?_ | refine s_retN ?_ | refine s_drop ?_ | refine s_for ?_ | refine s_next ?_ | refine s_break ?_ | refine s_cont ?_ | refine v_c ?_ | refine v_op ?_ | refine v_un ?_ | refine v_if ?_ | refine v_nil ?_ | refine v_cons ?_ | refine v_CB ?_ | refine v_BM0 ?_ | refine v_BM ?_ | refine v_call ?_ | refine v_B ?_ | refine k_bl ?_ | refine v_and ?_ | refine v_or ?_ | refine v_not ?_ | refine v_yes ?_ | refine v_andV ?_ | refine v_orV ?_ | refine k_and ?_ | refine k_or ?_ | refine v_rNot ?_ | refine w_any ?_ | refine k_anyT ?_ | refine k_anyS ?_ | refine w_rng1 ?_ | refine w_zip ?_ | refine v_lc ?_ | refine v_lst ?_ | refine v_rev ?_ | refine v_revS ?_ | refine v_noP ?_ | refine v_part ?_ | refine k_part ?_ | refine v_sl ?_ | refine t_sl ?_ | refine t_list ?_ | refine k_isT ?_ | refine g_sb ?_ | refine v_kv0 ?_ | refine v_kv ?_ | refine v_dis ?_ | refine v_disT ?_ | refine i_add ?_ | refine i_sub ?_ | refine i_neg ?_ | refine i_lt ?_ | refine i_le ?_ | refine i_gt ?_ | refine i_ge ?_ | refine i_eq ?_ | refine i_ne ?_ | refine s_eq ?_ | refine s_ne ?_ | refine b_eq ?_ | refine b_ne ?_ | refine n_is ?_ | refine n_not ?_ | refine t_len ?_ | refine t_tuple ?_ | refine i_abs ?_ | refine i_int ?_ | refine b_int ?_ | refine g_unp ?_ | refine g_nms0 ?_ | refine g_nmsS ?_ | refine g_nm0 ?_  | refine g_nm1 ?_  | refine g_nm2 ?_  | refine g_nm3 ?_  | refine g_nm4 ?_  | refine g_nm5 ?_  | refine g_nm6 ?_  | refine g_nm7 ?_  | refine g_nm8 ?_  | refine g_nm9 ?_  | refine g_nm10 ?_  | refine g_nm11 ?_  | refine g_nm12 ?_  | refine g_nm13 ?_  | refine g_nm14 ?_  | refine g_nm15 ?_  | refine g_nm16 ?_  | refine g_nm17 ?_  | refine g_nm18 ?_  | refine g_nm19 ?_  | refine g_nm20 ?_  | refine g_nm21 ?_  | refine g_nm22 ?_  | refine g_nm23 ?_  | refine g_nm24 ?_  | refine g_nm25 ?_  | refine g_nm26 ?_  | refine g_nm27 ?_  | refine g_nm28 ?_  | refine g_nm29 ?_  | refine g_nm30 ?_  | refine g_nm31 ?_)
local macro_rules | `(tactic| infer_instance) => `(tactic| first | ((with_reducible apply v_var); rfl) | ((with_reducible apply t_ix); rfl) | ((with_reducible apply l_len); (first | exact Sep.lget ‹_› 0 rfl | exact Sep.lget ‹_› 1 rfl | exact Sep.lget ‹_› 2 rfl | exact Sep.lget ‹_› 3 rfl | exact Sep.lget ‹_› 4 rfl | exact Sep.lget ‹_› 5 rfl | exact Sep.lget ‹_› 6 rfl | exact Sep.lget ‹_› 7 rfl))  | ((with_reducible apply l_tuple); (first | exact Sep.lget ‹_› 0 rfl | exact Sep.lget ‹_› 1 rfl | exact Sep.lget ‹_› 2 rfl | exact Sep.lget ‹_› 3 rfl | exact Sep.lget ‹_› 4 rfl | exact Sep.lget ‹_› 5 rfl | exact Sep.lget ‹_› 6 rfl | exact Sep.lget ‹_› 7 rfl))  | ((with_reducible apply k_anyL); (first | exact Sep.lget ‹_› 0 rfl | exact Sep.lget ‹_› 1 rfl | exact Sep.lget ‹_› 2 rfl | exact Sep.lget ‹_› 3 rfl | exact Sep.lget ‹_› 4 rfl | exact Sep.lget ‹_› 5 rfl | exact Sep.lget ‹_› 6 rfl | exact Sep.lget ‹_› 7 rfl)) | ((with_reducible apply k_isL); (first | exact Sep.lget ‹_› 0 rfl | exact Sep.lget ‹_› 1 rfl | exact Sep.lget ‹_› 2 rfl | exact Sep.lget ‹_› 3 rfl | exact Sep.lget ‹_› 4 rfl | exact Sep.lget ‹_› 5 rfl | exact Sep.lget ‹_› 6 rfl | exact Sep.lget ‹_› 7 rfl))  | ((with_reducible apply l_list); (first | exact Sep.lget ‹_› 0 rfl | exact Sep.lget ‹_› 1 rfl | exact Sep.lget ‹_› 2 rfl | exact Sep.lget ‹_› 3 rfl | exact Sep.lget ‹_› 4 rfl | exact Sep.lget ‹_› 5 rfl | exact Sep.lget ‹_› 6 rfl | exact Sep.lget ‹_› 7 rfl))  | ((with_reducible apply k_rev); (first | exact Sep.lget ‹_› 0 rfl | exact Sep.lget ‹_› 1 rfl | exact Sep.lget ‹_› 2 rfl | exact Sep.lget ‹_› 3 rfl | exact Sep.lget ‹_› 4 rfl | exact Sep.lget ‹_› 5 rfl | exact Sep.lget ‹_› 6 rfl | exact Sep.lget ‹_› 7 rfl))  | ((with_reducible apply l_sl); (first | exact Sep.lget ‹_› 0 rfl | exact Sep.lget ‹_› 1 rfl | exact Sep.lget ‹_› 2 rfl | exact Sep.lget ‹_› 3 rfl | exact Sep.lget ‹_› 4 rfl | exact Sep.lget ‹_› 5 rfl | exact Sep.lget ‹_› 6 rfl | exact Sep.lget ‹_› 7 rfl)) | (with_reducible refine v_tup ?_) | (with_reducible refine And.intro (szb rfl) ?_) | (dsimp only [wipeU, List.set]))
local macro_rules | `(tactic| infer_instance) => `(tactic| first | (with_reducible first | refine v_dict0 ?_ | refine v_tupF ?_ | refine v_slF ?_ | refine v_tix ?_ | refine k_tix ?_ | refine w_enu ?_ | refine w_rng2 ?_ | refine v_sortSetI ?_ | refine k_anyFT ?_ | refine ft_len ?_) | ((with_reducible apply l_tupleF); (first | exact Sep.lget ‹_› 0 rfl | exact Sep.lget ‹_› 1 rfl | exact Sep.lget ‹_› 2 rfl | exact Sep.lget ‹_› 3 rfl | exact Sep.lget ‹_› 4 rfl | exact Sep.lget ‹_› 5 rfl | exact Sep.lget ‹_› 6 rfl | exact Sep.lget ‹_› 7 rfl)) | ((with_reducible apply ft_ix); rfl))
theorem cut_at {α : Type} (g : α → U) (l : List α) (k : Nat) : cutU (l.map g) none (some (k : Int)) = (l.take k).map g := by
  rw [cut_map, HT.sIx_none, HT.sIx_nat]
  simp [List.take_eq_take_iff]
theorem cut_from {α : Type} (g : α → U) (l : List α) (k : Nat) : cutU (l.map g) (some (k : Int)) none = (l.drop k).map g := by
  rw [cut_map, HT.sIx_none, HT.sIx_nat]
  by_cases z : k ≤ l.length
  · rw [Nat.min_eq_left z, List.take_of_length_le (by rw [List.length_drop]; exact Nat.le_refl _)]
  · rw [Nat.min_eq_right (by omega), List.drop_of_length_le (by omega), List.drop_of_length_le (by omega)]
    simp
/-! ### the letters with a hidden figure -/
def wholeL (at_ : Nat) (l : List Nat) (f : Nat) : List Nat := l.take at_ ++ [f] ++ l.drop at_
def wholeN (b at_ : Nat) (l : List Nat) : List Nat := (List.range b).map fun f => numL b (wholeL at_ l f)
def wholes (b n at_ : Nat) : List (List Nat) := (letters b n).map (wholeN b at_)
theorem wholes_len (b n at_ : Nat) : (wholes b n at_).length = b ^ n := by
  unfold wholes
  rw [List.length_map, letters_len]
abbrev intsN (w : List Nat) : List U := w.map fun n => U.int (n : Nat)
structure WhAt (h : HU) (r : Addr) (W : List (List Nat)) : Prop where
  ex : ∃ ps : List Addr, lstU h r = some (ps.map U.ref) ∧ ps.length = W.length ∧ ∀ (i : Nat) (p : Addr) (w : List Nat), ps[i]? = some p → W[i]? = some w → lstU h p = some (intsN w)
theorem WhAt.mono {h h' : HU} {r : Addr} {W : List (List Nat)} (m : ∀ a o, h a = some o → h' a = some o) (A : WhAt h r W) : WhAt h' r W := by
  obtain ⟨ps, e, l, k⟩ := A.ex
  exact ⟨ps, lstU_mono m e, l, fun i p w e1 e2 => lstU_mono m (k i p w e1 e2)⟩
theorem WhAt.get {h : HU} {r : Addr} {W : List (List Nat)} (A : WhAt h r W) : ∃ us, lstU h r = some us ∧ us.length = W.length ∧ ∀ (i : Nat) (w : List Nat), W[i]? = some w → ∃ p, us[i]? = some (.ref p) ∧ lstU h p = some (intsN w) := by
  obtain ⟨ps, e, l, k⟩ := A.ex
  refine ⟨_, e, by rw [List.length_map]; exact l, fun i w e2 => ?_⟩
  have hi := (List.getElem?_eq_some_iff.mp e2).1
  have e1 : ps[i]? = some ps[i] := List.getElem?_eq_getElem (by omega)
  exact ⟨ps[i], by rw [List.getElem?_map, e1]; rfl, k i _ w e1 e2⟩
abbrev whO (ps : List Addr) (W : List (List Nat)) : List (Addr × UO) := (ps.zip W).map fun x => (x.1, UO.lst (intsN x.2))
theorem whO_snoc {ps : List Addr} {W : List (List Nat)} (e : ps.length = W.length) (p : Addr) (w : List Nat) : whO (ps ++ [p]) (W ++ [w]) = whO ps W ++ [(p, .lst (intsN w))] := by
  unfold whO
  rw [List.zip_append e, List.map_append]
  rfl
theorem WhAt.of {h0 h : HU} {r : Addr} {ps : List Addr} {W : List (List Nat)} {l : List (Addr × UO)} (e : ps.length = W.length) (S : Sep h0 ((r, .lst (ps.map U.ref)) :: l ++ whO ps W) h) : WhAt h r W := by
  refine ⟨ps, ?_, e, fun i p w e1 e2 => ?_⟩
  · have := S.at_ r _ List.mem_cons_self
    unfold lstU
    rw [this]
  · have : (p, UO.lst (intsN w)) ∈ whO ps W := List.mem_map.mpr ⟨(p, w), List.mem_of_getElem? (i := i) (by rw [List.getElem?_zip_eq_some]; exact ⟨e1, e2⟩), rfl⟩
    have := S.at_ p _ (List.mem_append_right _ this)
    unfold lstU
    rw [this]
structure NmA (b : Nat) (ws : List Str) (name : Str) (at_ : Nat) : Prop where
  at_ : ws[at_]? = some name
  nd : ws.Nodup
  b1 : 1 ≤ b
  b2 : b ≤ 1000
  l : ws.length ≤ 60
  pw : b ^ ws.length ≤ 100000
theorem NmA.first {b : Nat} {ws : List Str} {name : Str} {at_ : Nat} (N : NmA b ws name at_) : ∀ m, m < at_ → ws[m]? ≠ some name := fun m hm e => by
  have h1 := List.getElem?_eq_some_iff.mp e
  have h2 := List.getElem?_eq_some_iff.mp N.at_
  have := nd_inj N.nd h1.1 h2.1 (h1.2.trans h2.2.symm)
  omega
theorem NmA.lt {b : Nat} {ws : List Str} {name : Str} {at_ : Nat} (N : NmA b ws name at_) : at_ < ws.length := (List.getElem?_eq_some_iff.mp N.at_).1
theorem NmA.pw1 {b : Nat} {ws : List Str} {name : Str} {at_ : Nat} (N : NmA b ws name at_) : b ^ (ws.length - 1) ≤ 100000 := Nat.le_trans (pow_mono N.b1 (Nat.sub_le _ _)) N.pw
abbrev wholesN (b : Nat) (ws : List Str) (at_ : Nat) : List (List Nat) := wholes b (ws.length - 1) at_
def sp_whole_letters : DP := fun us h q _ => ∃ (b : Nat) (ws : List Str) (name : Str) (at_ : Nat), us = [.int b, .ft (ws.map U.str), .str name] ∧ NmA b ws name at_ ∧ ∀ r h', Sep h [] h' → WhAt h' r (wholesN b ws at_) → q (.ref r) h'
def t_whole_letters : DS := dSeq (dAsg (dTix (dVar 1) (dVar 2)) (gNm 3))
    (dSeq (dAsg (dLst (dNil)) (gNm 4))
    (dSeq (dFor (iAny (dCall sp_all_letters [] x0 (dCons (dVar 0) (dCons (dOp oSub (dCB cLen (dCons (dVar 1) (dNil))) (dC (.int 1))) (dNil))))) (gNm 5) (dSeq (dDrop (dBM isLst mAppend (dVar 4) (dCons (dLc (iRng1 (dCons (dVar 0) (dNil))) (gNm 6) dYes (dCall sp_number_of_letter [] x0 (dCons (dVar 0) (dCons (dOp oAdd (dOp oAdd (dSl (dVar 5) (dNoP) (dPart (dVar 3))) (dTup (dCons (dVar 6) (dNil)))) (dSl (dVar 5) (dPart (dVar 3)) (dNoP))) (dNil)))) [6]) (dNil))))
    (dNext)))
    (dSeq (dRet (dVar 4))
    (dNext))))
theorem p_whole_letters {us : List U} {h : HU} {q : DV} {y : DXK} {bk ct : SU → HU → Prop} (hs : sp_whole_letters us h q y) : t_whole_letters ⟨fun _ h' => WkV q .non h', WkV q, bk, ct⟩ (startN 7 us) h := by
  obtain ⟨b, ws, name, at_, rfl, N, hq⟩ := hs
  show t_whole_letters _ [some (.int b), some (.ft (ws.map U.str)), some (.str name), none, none, none, none] h
  unfold t_whole_letters
  have S := Sep.nil h
  have hlt := N.lt
  have hpw1 := N.pw1
  have hb2 := N.b2
  have hl60 := N.l
  repeat infer_instance
  refine ⟨ws, name, at_, rfl, rfl, N.at_, N.first, ?_⟩
  repeat infer_instance
  refine k_new S fun pf h1 S => ?_
  repeat infer_instance
  have el : (((ws.map U.str).length : Nat) : Int) - 1 = ((ws.length - 1 : Nat) : Int) := by rw [List.length_map]; omega
  rw [el]
  refine ⟨b, ws.length - 1, rfl, N.b1, by omega, hpw1, fun rl h2 S2 => ?_⟩
  have S := S.more S2
  repeat infer_instance
  refine f_invA (letters b (ws.length - 1)) tupN rfl (fun i s h' => ∃ ps : List Addr, s = [some (.int b), some (.ft (ws.map U.str)), some (.str name), some (.int at_), some (.ref pf), none, none] ∧ ps.length = ((wholesN b ws at_).take i).length ∧
    Sep h ((pf, .lst (ps.map U.ref)) :: (rl, .lst ((letters b (ws.length - 1)).map tupN)) :: whO ps ((wholesN b ws at_).take i)) h') ⟨[], rfl, rfl, S.pick [1, 0]⟩ (fun _ _ _ ⟨_, z⟩ => z.2.2.lget 1 rfl) ?_ ?_
  · rintro i l ei s h3 ⟨ps, rfl, hpl, S⟩
    have hl := letters_all b _ l (List.mem_of_getElem? ei)
    have hi := (List.getElem?_eq_some_iff.mp ei).1
    rw [letters_len] at hi
    have hpl2 : ps.length ≤ i := by
      rw [hpl, List.length_take]
      exact Nat.min_le_left _ _
    repeat infer_instance
    refine k_rngN (by omega) ?_
    refine lc_inv (List.range b) (fun k => U.int (k : Nat)) (rng_map _) (fun j acc h' => acc = (List.range j).map (fun f => U.int (numL b (wholeL at_ l f) : Nat)) ∧ Sep h ((pf, .lst (ps.map U.ref)) :: (rl, .lst ((letters b (ws.length - 1)).map tupN)) :: whO ps ((wholesN b ws at_).take i)) h') (szl (by rw [List.length_range]; omega)) ⟨rfl, S⟩ (fun _ _ _ _ => True.intro) ?_ ?_
    · rintro j f ej acc h4 ⟨rfl, S⟩
      have hj := (List.getElem?_eq_some_iff.mp ej).1
      rw [List.length_range] at hj
      rw [List.getElem?_range hj] at ej
      cases ej
      repeat infer_instance
      refine if_t rfl ?_
      repeat infer_instance
      rw [cut_at]
      have e1 : (l.take at_).map (fun n : Nat => U.int n) ++ [U.int (j : Nat)] = (l.take at_ ++ [j]).map fun n : Nat => U.int n := by simp
      refine t_add (sz (by rw [List.length_map, List.length_take, List.length_singleton]; omega)) ?_
      rw [e1]
      repeat infer_instance
      rw [cut_from]
      refine t_add (sz (by simp only [List.length_map, List.length_take, List.length_drop, List.length_append, List.length_singleton]; omega)) ?_
      rw [← List.map_append]
      repeat infer_instance
      refine ⟨b, _, wholeL at_ l j, rfl, rfl, rfl, by omega, fun h5 S5 => ?_⟩
      refine WkH.of ⟨?_, S.more S5⟩
      rw [List.range_succ, List.map_append]
      rfl
    · rintro acc h4 ⟨rfl, S⟩
      rw [List.length_range]
      refine k_new S fun pn h5 S => ?_
      repeat infer_instance
      refine m_app S 1 rfl (szl (by rw [List.length_map]; omega)) fun h6 S => ?_
      repeat infer_instance
      have et : (wholesN b ws at_).take (i + 1) = (wholesN b ws at_).take i ++ [wholeN b at_ l] := by
        rw [List.take_add_one]
        unfold wholesN wholes
        rw [List.getElem?_map, ei]
        rfl
      refine wk ?_ ⟨ps ++ [pn], rfl, by rw [et]; simp [hpl], ?_⟩
      · repeat infer_instance
      · rw [et, whO_snoc hpl, List.map_append]
        have eN : (List.range b).map (fun f => U.int (numL b (wholeL at_ l f) : Nat)) = intsN (wholeN b at_ l) := by
          unfold wholeN
          rw [intsN, List.map_map]
          rfl
        rw [eN] at S
        exact S.last
  · rintro s h3 ⟨ps, rfl, hpl, S⟩
    rw [letters_len, ← wholes_len b (ws.length - 1) at_, List.take_length] at hpl S
    repeat infer_instance
    exact .of (hq pf h3 S.none (WhAt.of (l := [_]) hpl S))

end DL

set_option Elab.async false
set_option linter.all false
set_option maxRecDepth 100000
set_option maxHeartbeats 4000000
namespace DL
open PySem L2 NdefX LamX KG
local macro_rules | `(tactic| infer_instance) => `(tactic| with_reducible first | exact subS_nil | refine subS_same ?_ | refine subS_none ?_ | refine s_seq ?_ | refine s_asg ?_ | refine s_if ?_ | refine s_ret ?_ | refine s_retN ?_ | refine s_drop ?_ | refine s_for ?_ | refine s_next ?_ | refine s_break ?_ | refine s_cont ?_ | refine v_c ?_ | refine v_op ?_ | refine v_un ?_ | refine v_if ?_ | refine v_nil ?_ | refine v_cons ?_ | refine v_CB ?_ | refine v_BM0 ?_ | refine v_BM ?_ | refine v_call ?_ | refine v_B ?_ | refine k_bl ?_ | refine v_and ?_ | refine v_or ?_ | refine v_not ?_ | refine v_yes ?_ | refine v_andV ?_ | refine v_orV ?_ | refine k_and ?_ | refine k_or ?_ | refine v_rNot ?_ | refine w_any ?_ | refine k_anyT ?_ | refine k_anyS ?_ | refine w_rng1 ?_ | refine w_zip ?_ | refine v_lc ?_ | refine v_lst ?_ | refine v_rev ?_ | refine v_revS ?_ | refine v_noP ?_ | refine v_part ?_ | refine k_part ?_ | refine v_sl ?_ | refine t_sl ?_ | refine t_list ?_ | refine k_isT ?_ | refine g_sb ?_ | refine v_kv0 ?_ | refine v_kv ?_ | refine v_dis ?_ | refine v_disT ?_ | refine i_add ?_ | refine i_sub ?_ | refine i_neg ?_ | refine i_lt ?_ | refine i_le ?_ | refine i_gt ?_ | refine i_ge ?_ | refine i_eq ?_ | refine i_ne ?_ | refine s_eq ?_ | refine s_ne ?_ | refine b_eq ?_ | refine b_ne ?_ | refine n_is ?_ | refine n_not ?_ | refine t_len ?_ | refine t_tuple ?_ | refine i_abs ?_ | refine i_int ?_ | refine b_int ?_ | refine g_unp ?_ | refine g_nms0 ?_ | refine g_nmsS ?_ | refine g_nm0 ?_  | refine g_nm1 ?_  | refine g_nm2 ?_  | refine g_nm3 ?_  | refine g_nm4 ?_  | refine g_nm5 ?_  | refine g_nm6 ?_  | refine g_nm7 ?_  | refine g_nm8 ?_  | refine g_nm9 ?_  | refine g_nm10 ?_  | refine g_nm11 ?_  | refine g_nm12 ?_  | refine g_nm13 ?_  | refine g_nm14 ?_  | refine g_nm15 ?_  | refine g_nm16 ?_  | refine g_nm17 ?_  | refine g_nm18 ?_  | refine g_nm19 ?_  | refine g_nm20 ?_  | refine g_nm21 ?_  | refine g_nm22 ?_  | refine g_nm23 ?_  | refine g_nm24 ?_  | refine g_nm25 ?_  | refine g_nm26 ?_  | refine g_nm27 ?_  | refine g_nm28 ?_  | refine g_nm29 ?_  | refine g_nm30 ?_  | refine g_nm31 ?_)
local macro_rules | `(tactic| infer_instance) => `(tactic| first | ((with_reducible apply v_var); rfl) | ((with_reducible apply t_ix); rfl) | ((with_reducible apply l_len); (first | exact Sep.lget ‹_› 0 rfl | exact Sep.lget ‹_› 1 rfl | exact Sep.lget ‹_› 2 rfl | exact Sep.lget ‹_› 3 rfl | exact Sep.lget ‹_› 4 rfl | exact Sep.lget ‹_› 5 rfl | exact Sep.lget ‹_› 6 rfl | exact Sep.lget ‹_› 7 rfl))  | ((with_reducible apply l_tuple); (first | exact Sep.lget ‹_› 0 rfl | exact Sep.lget ‹_› 1 rfl | exact Sep.lget ‹_› 2 rfl | exact Sep.lget ‹_› 3 rfl | exact Sep.lget ‹_› 4 rfl | exact Sep.lget ‹_› 5 rfl | exact Sep.lget ‹_› 6 rfl | exact Sep.lget ‹_› 7 rfl))  | ((with_reducible apply k_anyL); (first | exact Sep.lget ‹_› 0 rfl | exact Sep.lget ‹_› 1 rfl | exact Sep.lget ‹_› 2 rfl | exact Sep.lget ‹_› 3 rfl | exact Sep.lget ‹_› 4 rfl | exact Sep.lget ‹_› 5 rfl | exact Sep.lget ‹_› 6 rfl | exact Sep.lget ‹_› 7 rfl)) | ((with_reducible apply k_isL); (first | exact Sep.lget ‹_› 0 rfl | exact Sep.lget ‹_› 1 rfl | exact Sep.lget ‹_› 2 rfl | exact Sep.lget ‹_› 3 rfl | exact Sep.lget ‹_› 4 rfl | exact Sep.lget ‹_› 5 rfl | exact Sep.lget ‹_› 6 rfl | exact Sep.lget ‹_› 7 rfl))  | ((with_reducible apply l_list); (first | exact Sep.lget ‹_› 0 rfl | exact Sep.lget ‹_› 1 rfl | exact Sep.lget ‹_› 2 rfl | exact Sep.lget ‹_› 3 rfl | exact Sep.lget ‹_› 4 rfl | exact Sep.lget ‹_› 5 rfl | exact Sep.lget ‹_› 6 rfl | exact Sep.lget ‹_› 7 rfl))  | ((with_reducible apply k_rev); (first | exact Sep.lget ‹_› 0 rfl | exact Sep.lget ‹_› 1 rfl | exact Sep.lget ‹_› 2 rfl | exact Sep.lget ‹_› 3 rfl | exact Sep.lget ‹_› 4 rfl | exact Sep.lget ‹_› 5 rfl | exact Sep.lget ‹_› 6 rfl | exact Sep.lget ‹_› 7 rfl))  | ((with_reducible apply l_sl); (first | exact Sep.lget ‹_› 0 rfl | exact Sep.lget ‹_› 1 rfl | exact Sep.lget ‹_› 2 rfl | exact Sep.lget ‹_› 3 rfl | exact Sep.lget ‹_› 4 rfl | exact Sep.lget ‹_› 5 rfl | exact Sep.lget ‹_› 6 rfl | exact Sep.lget ‹_› 7 rfl)) | (with_reducible refine v_tup ?_) | (with_reducible refine And.intro (szb rfl) ?_) | (dsimp only [wipeU, List.set]))
local macro_rules | `(tactic| infer_instance) => `(tactic| first | (with_reducible first | refine v_dict0 ?_ | refine v_tupF ?_ | refine v_slF ?_ | refine v_tix ?_ | refine k_tix ?_ | refine w_enu ?_ | refine w_rng2 ?_ | refine v_sortSetI ?_ | refine k_anyFT ?_ | refine ft_len ?_) | ((with_reducible apply l_tupleF); (first | exact Sep.lget ‹_› 0 rfl | exact Sep.lget ‹_› 1 rfl | exact Sep.lget ‹_› 2 rfl | exact Sep.lget ‹_› 3 rfl | exact Sep.lget ‹_› 4 rfl | exact Sep.lget ‹_› 5 rfl | exact Sep.lget ‹_› 6 rfl | exact Sep.lget ‹_› 7 rfl)) | ((with_reducible apply ft_ix); rfl))
/-! ### machines of any kind; what goes on to yes by noughts -/
structure MachJ (w n : Nat) (yes : List Bool) (moves : List (List Nat)) : Prop where
  n1 : 1 ≤ n
  len : moves.length = n
  ylen : yes.length = n
  row : ∀ l ∈ moves, l.length = w ∧ ∀ a ∈ l, a < n
theorem MachI.j {w n : Nat} {yes : List Bool} {moves : List (List Nat)} (M : MachI w n yes moves) : MachJ w n yes moves := ⟨M.n1, M.len, M.ylen, M.row⟩
theorem MachJ.at_ {w n : Nat} {yes : List Bool} {moves : List (List Nat)} (M : MachJ w n yes moves) {r k : Nat} (hr : r < n) (hk : k < w) : ∃ l a, moves[r]? = some l ∧ l[k]? = some a ∧ a < n := by
  have hl := M.len
  have e1 : moves[r]? = some moves[r] := List.getElem?_eq_getElem (by omega)
  obtain ⟨h1, h2⟩ := M.row moves[r] (List.getElem_mem _)
  have hk2 : k < moves[r].length := by omega
  exact ⟨_, _, e1, List.getElem?_eq_getElem hk2, h2 _ (List.getElem_mem _)⟩
/-- where room r leads by k -/
def mvN (moves : List (List Nat)) (r k : Nat) : Nat := ((moves[r]?).bind fun l => l[k]?).getD 0
theorem mvN_of {moves : List (List Nat)} {r k a : Nat} {l : List Nat} (e1 : moves[r]? = some l) (e2 : l[k]? = some a) : mvN moves r k = a := by
  unfold mvN
  rw [e1]
  show (l[k]?).getD 0 = a
  rw [e2]
  rfl
theorem MachJ.mv {w n : Nat} {yes : List Bool} {moves : List (List Nat)} (M : MachJ w n yes moves) {r k : Nat} (hr : r < n) (hk : k < w) : ∃ l, moves[r]? = some l ∧ l[k]? = some (mvN moves r k) ∧ mvN moves r k < n := by
  obtain ⟨l, a, e1, e2, e3⟩ := M.at_ hr hk
  rw [mvN_of e1 e2]
  exact ⟨l, e1, e2, e3⟩
inductive Reach (yes : List Bool) (moves : List (List Nat)) (z : List Nat) : Nat → Prop
  | yes {r} : yes[r]? = some true → Reach yes moves z r
  | step {r k} : r < moves.length → k ∈ z → Reach yes moves z (mvN moves r k) → Reach yes moves z r
open Classical in
noncomputable def rch (yes : List Bool) (moves : List (List Nat)) (z : List Nat) (r : Nat) : Bool := decide (Reach yes moves z r)
theorem rch_iff {yes : List Bool} {moves : List (List Nat)} {z : List Nat} {r : Nat} : rch yes moves z r = true ↔ Reach yes moves z r := by
  unfold rch
  exact @decide_eq_true_iff _ (Classical.propDecidable _)
theorem rch_eq {yes : List Bool} {moves : List (List Nat)} {z : List Nat} {r : Nat} {b : Bool} (h : b = true ↔ Reach yes moves z r) : b = rch yes moves z r := by
  rw [Bool.eq_iff_iff, rch_iff]
  exact h
def ClosedAt (moves : List (List Nat)) (z : List Nat) (F : Nat → Prop) (j : Nat) : Prop := F j ∨ ∀ k, k ∈ z → ¬ F (mvN moves j k)
theorem reach_closed {yes : List Bool} {moves : List (List Nat)} {z : List Nat} {F : Nat → Prop} (hy : ∀ r, yes[r]? = some true → F r) (hc : ∀ j, j < moves.length → ClosedAt moves z F j) : ∀ {r}, Reach yes moves z r → F r := by
  intro r R
  induction R with
  | yes e => exact hy _ e
  | @step r k hr hk _ ih =>
    rcases hc r hr with q | q
    · exact q
    · exact absurd ih (q k hk)
theorem cf_set : ∀ {l : List Bool} {i : Nat}, l[i]? = some false → (l.set i true).count false + 1 = l.count false
  | [], i, h => by simp at h
  | x :: l, 0, h => by
    have : x = false := by simpa using h
    subst this
    simp
  | x :: l, i + 1, h => by
    have h' : l[i]? = some false := by simpa using h
    have ih := cf_set h'
    rw [List.set_cons_succ, List.count_cons, List.count_cons]
    omega
theorem b_cases {b : Bool} {n : Nat} {l : List Bool} (hl : l.length = n) {r : Nat} (hr : r < n) : ∃ v, l[r]? = some v := ⟨l[r], List.getElem?_eq_getElem (by omega)⟩
theorem l_setN {us : List Bool} {i : Nat} (h : i < us.length) : ixN (us.map U.bl).length (i : Nat) = some i := by
  unfold ixN
  rw [List.length_map, if_pos (by omega), if_pos (by omega), Int.toNat_natCast]
def sp_goes_on : DP := fun us h q _ => ∃ (x : U) (w n : Nat) (yes : List Bool) (moves : List (List Nat)) (pz : Addr) (z : List Nat), us = [.tup [x, .tup (yes.map U.bl), .tup (moves.map tupN)], .ref pz] ∧ MachJ w n yes moves ∧ n ≤ 1000 ∧ lstU h pz = some (intsN z) ∧ (∀ k ∈ z, k < w) ∧ z.length ≤ 1000 ∧
  ∀ p h', Sep h [(p, .lst (((List.range n).map (rch yes moves z)).map U.bl))] h' → q (.ref p) h'
def t_goes_on : DS := dSeq (dAsg (dCB cList (dCons (dOp oIx (dVar 0) (dC (.int 1))) (dNil))) (gNm 2))
    (dSeq (dAsg (dC (.bl true)) (gNm 3))
    (dSeq (dWhile (dB (dVar 3)) (dSeq (dAsg (dC (.bl false)) (gNm 3))
    (dSeq (dFor (iEnu (dCons (dOp oIx (dVar 0) (dC (.int 2))) (dNil))) (gUnp [4, 5]) (dSeq (dIfS (dAnd (dNot (dB (dOp oIx (dVar 2) (dVar 4)))) (dB (dOp oIn (dC (.bl true)) (dLc (iAny (dVar 1)) (gNm 6) dYes (dOp oIx (dVar 2) (dOp oIx (dVar 5) (dVar 6))) [6])))) (dSeq (dAsg (dC (.bl true)) (gSb (dVar 2) (dVar 4)))
    (dSeq (dAsg (dC (.bl true)) (gNm 3))
    (dNext))) (dNext))
    (dNext)))
    (dNext))))
    (dSeq (dRet (dVar 2))
    (dNext))))
theorem p_goes_on {us : List U} {h : HU} {q : DV} {y : DXK} {bk ct : SU → HU → Prop} (hs : sp_goes_on us h q y) : t_goes_on ⟨fun _ h' => WkV q .non h', WkV q, bk, ct⟩ (startN 7 us) h := by
  obtain ⟨x, w, n, yes, moves, pz, z, rfl, M, hn, hz, hzw, hzl, hq⟩ := hs
  show t_goes_on _ [some (.tup [x, .tup (yes.map U.bl), .tup (moves.map tupN)]), some (.ref pz), none, none, none, none, none] h
  unfold t_goes_on
  have S := Sep.nil h
  have ml := M.len
  have yl := M.ylen
  repeat infer_instance
  refine k_new S fun pf h1 S => ?_
  repeat infer_instance
  refine s_while (fun m s h' => ∃ (found : List Bool) (more : Bool), s = [some (.tup [x, .tup (yes.map U.bl), .tup (moves.map tupN)]), some (.ref pz), some (.ref pf), some (.bl more), none, none, none] ∧ found.length = n ∧ (∀ r : Nat, found[r]? = some true → Reach yes moves z r) ∧ (∀ r : Nat, yes[r]? = some true → found[r]? = some true) ∧
    (more = false → ∀ j, j < moves.length → ClosedAt moves z (fun r => found[r]? = some true) j) ∧ m = found.count false + (if more then 1 else 0) ∧ Sep h [(pf, .lst (found.map U.bl))] h') (yes.count false + 1) ⟨yes, true, rfl, yl, fun r e => .yes e, fun r e => e, fun z => absurd z (by decide), rfl, S⟩ ?_
  rintro m s h2 ⟨found, more, rfl, hfl, snd, sub, clo, rfl, S⟩
  repeat infer_instance
  refine ⟨fun em => ?_, fun em => ?_⟩
  · subst em
    repeat infer_instance
    refine k_enu (us := moves.map tupN) rfl ?_
    refine f_invA (moves.zipIdx 0) (fun p => U.tup [.int (p.2 : Nat), tupN p.1]) (enu_map tupN moves 0) (fun i s h' => ∃ (fd : List Bool) (mo : Bool), s = [some (.tup [x, .tup (yes.map U.bl), .tup (moves.map tupN)]), some (.ref pz), some (.ref pf), some (.bl mo), none, none, none] ∧ fd.length = n ∧ (∀ r : Nat, fd[r]? = some true → Reach yes moves z r) ∧ (∀ r : Nat, found[r]? = some true → fd[r]? = some true) ∧
      (mo = false → fd = found ∧ ∀ j, j < i → ClosedAt moves z (fun r => found[r]? = some true) j) ∧ (mo = true → fd.count false < found.count false) ∧ Sep h [(pf, .lst (fd.map U.bl))] h') ⟨found, false, rfl, hfl, snd, fun _ e => e, fun _ => ⟨rfl, fun j hj => absurd hj (Nat.not_lt_zero _)⟩, fun z => absurd z (by decide), S⟩ (fun _ _ _ _ => rfl) ?_ ?_
    · rintro i ⟨l, i'⟩ ei s h3 ⟨fd, mo, rfl, fl, snd2, sub2, un, dn, S⟩
      rw [List.getElem?_zipIdx] at ei
      obtain ⟨l', el, e2⟩ := Option.map_eq_some_iff.mp ei
      rw [Nat.zero_add] at e2
      cases e2
      have hi := (List.getElem?_eq_some_iff.mp el).1
      have hin : i < n := by omega
      obtain ⟨v, ev⟩ := b_cases (b := true) fl hin
      have lk : ∀ r : Nat, r < n → (fd.map U.bl)[r]? = some (U.bl (fd[r]?.getD false)) := fun r hr => by
        rw [List.getElem?_map, List.getElem?_eq_getElem (by omega)]
        rfl
      repeat infer_instance
      refine l_ix (x := .bl v) (S.lget 0 rfl) (atN (by rw [List.getElem?_map, ev]; rfl)) ?_
      repeat infer_instance
      cases v with
      | true =>
        refine if_f rfl ?_
        refine if_f rfl ?_
        repeat infer_instance
        refine wk ?_ ⟨fd, mo, rfl, fl, snd2, sub2, fun em => ?_, dn, S⟩
        · repeat infer_instance
        · obtain ⟨e1, e2⟩ := un em
          refine ⟨e1, fun j hj => ?_⟩
          by_cases q : j < i
          · exact e2 j q
          · have : j = i := by omega
            subst this
            rw [e1] at ev
            exact .inl ev
      | false =>
        refine if_t rfl ?_
        repeat infer_instance
        refine k_anyL (lstU_mono S.fr hz) ?_
        refine lc_mapA z (fun n => U.int (n : Nat)) rfl (fun k => U.bl (fd[mvN moves i k]?.getD false)) (szl (by omega)) (lstU_mono S.fr hz) (fun k hk C N hC => ?_) ?_
        · obtain ⟨l2, e1, e2, e3⟩ := M.mv hin (hzw k hk)
          rw [el] at e1
          cases e1
          repeat infer_instance
          refine if_t rfl ?_
          repeat infer_instance
          refine t_ix (x := .int (mvN moves i k : Nat)) (atN (by rw [List.getElem?_map, e2]; rfl)) ?_
          exact l_ix (S.lget 0 rfl) (atN (lk _ e3)) hC
        have ec : z.map (fun k => U.bl (fd[mvN moves i k]?.getD false)) = (z.map fun k => fd[mvN moves i k]?.getD false).map U.bl := by rw [List.map_map]; rfl
        rw [ec]
        refine k_new S fun pc h4 S => ?_
        repeat infer_instance
        refine l_in (S.lget 0 rfl) rfl (flat_bl _) ?_
        rw [inF_bl]
        repeat infer_instance
        refine if_d (fun hm => ?_) (fun hm => ?_)
        · obtain ⟨k, hk, ek⟩ := List.mem_map.mp hm
          have ek' : fd[mvN moves i k]? = some true := by
            cases e : fd[mvN moves i k]? with
            | none => rw [e] at ek; cases ek
            | some b => rw [e] at ek; exact congrArg some ek
          have R : Reach yes moves z i := .step hi hk (snd2 _ ek')
          repeat infer_instance
          refine o_setL S 1 rfl (l_setN (by omega)) fun h5 S => ?_
          repeat infer_instance
          have eset : (fd.map U.bl).set i (U.bl true) = (fd.set i true).map U.bl := by rw [List.map_set]
          rw [eset] at S
          have cs := cf_set ev
          refine wk ?_ ⟨fd.set i true, true, rfl, by rw [List.length_set]; exact fl, fun r er => ?_, fun r er => ?_, fun z => absurd z (by decide), fun _ => ?_, S.pick [1]⟩
          · repeat infer_instance
          · by_cases q : i = r
            · rw [← q]
              exact R
            · rw [List.getElem?_set_ne q] at er
              exact snd2 r er
          · by_cases q : i = r
            · subst q
              exact List.getElem?_set_self (by omega)
            · rw [List.getElem?_set_ne q]
              exact sub2 r er
          · cases mo with
            | false =>
              obtain ⟨e1, _⟩ := un rfl
              rw [e1] at cs ⊢
              omega
            | true =>
              have := dn rfl
              omega
        · repeat infer_instance
          refine wk ?_ ⟨fd, mo, rfl, fl, snd2, sub2, fun em => ?_, dn, S.pick [1]⟩
          · repeat infer_instance
          · obtain ⟨e1, e2⟩ := un em
            refine ⟨e1, fun j hj => ?_⟩
            by_cases q : j < i
            · exact e2 j q
            · have : j = i := by omega
              subst this
              refine .inr fun k hk e => hm ?_
              rw [← e1] at e
              exact List.mem_map.mpr ⟨k, hk, by rw [e]; rfl⟩
    · rintro s h3 ⟨fd, mo, rfl, fl, snd2, sub2, un, dn, S⟩
      rw [List.length_zipIdx] at un
      repeat infer_instance
      refine wk ?_ ⟨fd.count false + (if mo then 1 else 0), ?_, fd, mo, rfl, fl, snd2, fun r e => sub2 r (sub r e), fun em => ?_, rfl, S⟩
      · repeat infer_instance
      · cases mo with
        | false =>
          obtain ⟨e1, _⟩ := un rfl
          rw [e1]
          show found.count false + 0 < found.count false + 1
          omega
        | true =>
          have := dn rfl
          show fd.count false + 1 < found.count false + 1
          omega
      · obtain ⟨e1, e2⟩ := un em
        rw [e1]
        exact e2
  · have cl := clo em
    repeat infer_instance
    have efd : found = (List.range n).map (rch yes moves z) := by
      refine List.ext_getElem? fun r => ?_
      rw [List.getElem?_map]
      by_cases hr : r < n
      · rw [List.getElem?_range hr]
        obtain ⟨v, ev⟩ := b_cases (b := true) hfl hr
        rw [ev]
        refine congrArg some (rch_eq ⟨fun e => snd r (by rw [ev, e]), fun R => ?_⟩)
        have := reach_closed (F := fun r => found[r]? = some true) sub cl R
        rw [ev] at this
        exact Option.some.inj this
      · rw [List.getElem?_eq_none (by omega), List.getElem?_eq_none (by rw [List.length_range]; omega)]
        rfl
    rw [efd] at S
    exact .of (hq pf _ S)

end DL

set_option Elab.async false
set_option linter.all false
set_option maxRecDepth 100000
set_option maxHeartbeats 4000000
namespace DL
open PySem L2 NdefX LamX KG
local macro_rules | `(tactic| infer_instance) => `(tactic| with_reducible first | exact subS_nil | refine subS_same ?_ | refine subS_none ?_ | refine s_seq ?_ | refine s_asg ?_ | refine s_if ?_ | refine s_ret ?_ | refine s_retN ?_ | refine s_drop ?_ | refine s_for ?_ | refine s_next ?_ | refine s_break ?_ | refine s_cont ?_ | refine v_c ?_ | refine v_op ?_ | refine v_un ?_ | refine v_if ?_ | refine v_nil ?_ | refine v_cons ?_ | refine v_CB ?_ | refine v_BM0 ?_ | refine v_BM ?_ | refine v_call ?_ | refine v_B ?_ | refine k_bl ?_ | refine v_and ?_ | refine v_or ?_ | refine v_not ?_ | refine v_yes ?_ | refine v_andV ?_ | refine v_orV ?_ | refine k_and ?_ | refine k_or ?_ | refine v_rNot ?_ | refine w_any ?_ | refine k_anyT ?_ | refine k_anyS ?_ | refine w_rng1 ?_ | refine w_zip ?_ | refine v_lc ?_ | refine v_lst ?_ | refine v_rev ?_ | refine v_revS ?_ | refine v_noP ?_ | refine v_part ?_ | refine k_part ?_ | refine v_sl ?_ | refine t_sl ?_ | refine t_list ?_ | refine k_isT ?_ | refine g_sb ?_ | refine v_kv0 ?_ | refine v_kv ?_ | refine v_dis ?_ | refine v_disT ?_ | refine i_add ?_ | refine i_sub ?_ | refine i_neg ?_ | refine i_lt ?_ | refine i_le ?_ | refine i_gt ?_ | refine i_ge ?_ | refine i_eq ?_ | refine i_ne ?_ | refine s_eq ?_ | refine s_ne ?_ | refine b_eq ?_ | refine b_ne ?_ | refine n_is ?_ | refine n_not ?_ | refine t_len ?_ | refine t_tuple ?_ | refine i_abs ?_ | refine i_int ?_ | refine b_int ?_ | refine g_unp ?_ | refine g_nms0 ?_ | refine g_nmsS ?_ | refine g_nm0 ?_  | refine g_nm1 ?_  | refine g_nm2 ?_  | refine g_nm3 ?_  | refine g_nm4 ?_  | refine g_nm5 ?_  | refine g_nm6 ?_  | refine g_nm7 ?_  | refine g_nm8 ?_  | refine g_nm9 ?_  | refine g_nm10 ?_  | refine g_nm11 ?_  | refine g_nm12 ?_  | refine g_nm13 ?_  | refine g_nm14 ?_  | refine g_nm15 ?_  | refine g_nm16 ?_  | refine g_nm17 ?_  | refine g_nm18 ?_  | refine g_nm19 ?_  | refine g_nm20 ?_  | refine g_nm21 ?_  | refine g_nm22 ?_  | refine g_nm23 ?_  | refine g_nm24 ?_  | refine g_nm25 ?_  | refine g_nm26 ?_  | refine g_nm27 ?_  | refine g_nm28 ?_  | refine g_nm29 ?_  | refine g_nm30 ?_  | refine g_nm31 ?_)
local macro_rules | `(tactic| infer_instance) => `(tactic| first | ((with_reducible apply v_var); rfl) | ((with_reducible apply t_ix); rfl) | ((with_reducible apply l_len); (first | exact Sep.lget ‹_› 0 rfl | exact Sep.lget ‹_› 1 rfl | exact Sep.lget ‹_› 2 rfl | exact Sep.lget ‹_› 3 rfl | exact Sep.lget ‹_› 4 rfl | exact Sep.lget ‹_› 5 rfl | exact Sep.lget ‹_› 6 rfl | exact Sep.lget ‹_› 7 rfl))  | ((with_reducible apply l_tuple); (first | exact Sep.lget ‹_› 0 rfl | exact Sep.lget ‹_› 1 rfl | exact Sep.lget ‹_› 2 rfl | exact Sep.lget ‹_› 3 rfl | exact Sep.lget ‹_› 4 rfl | exact Sep.lget ‹_› 5 rfl | exact Sep.lget ‹_› 6 rfl | exact Sep.lget ‹_› 7 rfl))  | ((with_reducible apply k_anyL); (first | exact Sep.lget ‹_› 0 rfl | exact Sep.lget ‹_› 1 rfl | exact Sep.lget ‹_› 2 rfl | exact Sep.lget ‹_› 3 rfl | exact Sep.lget ‹_› 4 rfl | exact Sep.lget ‹_› 5 rfl | exact Sep.lget ‹_› 6 rfl | exact Sep.lget ‹_› 7 rfl)) | ((with_reducible apply k_isL); (first | exact Sep.lget ‹_› 0 rfl | exact Sep.lget ‹_› 1 rfl | exact Sep.lget ‹_› 2 rfl | exact Sep.lget ‹_› 3 rfl | exact Sep.lget ‹_› 4 rfl | exact Sep.lget ‹_› 5 rfl | exact Sep.lget ‹_› 6 rfl | exact Sep.lget ‹_› 7 rfl))  | ((with_reducible apply l_list); (first | exact Sep.lget ‹_› 0 rfl | exact Sep.lget ‹_› 1 rfl | exact Sep.lget ‹_› 2 rfl | exact Sep.lget ‹_› 3 rfl | exact Sep.lget ‹_› 4 rfl | exact Sep.lget ‹_› 5 rfl | exact Sep.lget ‹_› 6 rfl | exact Sep.lget ‹_› 7 rfl))  | ((with_reducible apply k_rev); (first | exact Sep.lget ‹_› 0 rfl | exact Sep.lget ‹_› 1 rfl | exact Sep.lget ‹_› 2 rfl | exact Sep.lget ‹_› 3 rfl | exact Sep.lget ‹_› 4 rfl | exact Sep.lget ‹_› 5 rfl | exact Sep.lget ‹_› 6 rfl | exact Sep.lget ‹_› 7 rfl))  | ((with_reducible apply l_sl); (first | exact Sep.lget ‹_› 0 rfl | exact Sep.lget ‹_› 1 rfl | exact Sep.lget ‹_› 2 rfl | exact Sep.lget ‹_› 3 rfl | exact Sep.lget ‹_› 4 rfl | exact Sep.lget ‹_› 5 rfl | exact Sep.lget ‹_› 6 rfl | exact Sep.lget ‹_› 7 rfl)) | (with_reducible refine v_tup ?_) | (with_reducible refine And.intro (szb rfl) ?_) | (dsimp only [wipeU, List.set]))
local macro_rules | `(tactic| infer_instance) => `(tactic| first | (with_reducible first | refine v_dict0 ?_ | refine v_tupF ?_ | refine v_slF ?_ | refine v_tix ?_ | refine k_tix ?_ | refine w_enu ?_ | refine w_rng2 ?_ | refine v_sortSetI ?_ | refine k_anyFT ?_ | refine ft_len ?_) | ((with_reducible apply l_tupleF); (first | exact Sep.lget ‹_› 0 rfl | exact Sep.lget ‹_› 1 rfl | exact Sep.lget ‹_› 2 rfl | exact Sep.lget ‹_› 3 rfl | exact Sep.lget ‹_› 4 rfl | exact Sep.lget ‹_› 5 rfl | exact Sep.lget ‹_› 6 rfl | exact Sep.lget ‹_› 7 rfl)) | ((with_reducible apply ft_ix); rfl))
/-! ### sets of rooms -/
abbrev mX (x : U) (yes : List Bool) (moves : List (List Nat)) : U := .tup [x, .tup (yes.map U.bl), .tup (moves.map tupN)]
def meets (moves : List (List Nat)) (w room : List Nat) (r : Nat) : Bool := room.any fun a => w.any fun j => decide (mvN moves a j = r)
def setF (n : Nat) (moves : List (List Nat)) (W : List (List Nat)) (room : List Nat) (k : Nat) : List Nat := (List.range n).filter (meets moves (W[k]?.getD []) room)
theorem meets_iff {moves : List (List Nat)} {w room : List Nat} {r : Nat} : meets moves w room r = true ↔ ∃ a ∈ room, ∃ j ∈ w, mvN moves a j = r := by
  unfold meets
  simp only [List.any_eq_true, decide_eq_true_eq]
def keyN (l : List Nat) : List Key := l.map fun n => .inl (n : Nat)
theorem keyN_t : ∀ l : List Nat, keyT (tupN l) = some (keyN l) := by
  have : ∀ l : List Nat, keysU (intsN l) = some (keyN l) := by
    intro l
    induction l with
    | nil => rfl
    | cons a l ih =>
      rw [intsN, List.map_cons]
      unfold keysU
      rw [show keysU (l.map fun n : Nat => U.int n) = some (keyN l) from ih]
      rfl
  exact this
theorem keyN_inj {a b : List Nat} (h : keyN a = keyN b) : a = b := by
  unfold keyN at h
  refine (List.map_inj_right fun x y z => ?_).mp h
  have := Sum.inl.inj z
  omega
theorem setF_lt {n : Nat} {moves W : List (List Nat)} {room : List Nat} {k r : Nat} (h : r ∈ setF n moves W room k) : r < n := List.mem_range.mp (List.mem_filter.mp h).1
theorem setF_len {n : Nat} {moves W : List (List Nat)} {room : List Nat} {k : Nat} : (setF n moves W room k).length ≤ n := by
  have := List.length_filter_le (meets moves (W[k]?.getD []) room) (List.range n)
  rwa [List.length_range] at this
/-- sorted numbers, each once: just these -/
theorem ints_sorted {ys : List Int} {S : List Nat} (nd : ys.Nodup) (so : ys.Pairwise (· ≤ ·)) (soS : S.Pairwise (· < ·)) (mem : ∀ r : Int, r ∈ ys ↔ ∃ a ∈ S, ((a : Nat) : Int) = r) : ys.map U.int = intsN S := by
  have soS' : (S.map fun a : Nat => (a : Int)).Pairwise (· ≤ ·) := by
    rw [List.pairwise_map]
    exact soS.imp fun {a b} z => by omega
  have ndS : (S.map fun a : Nat => (a : Int)).Nodup := by
    rw [List.Nodup, List.pairwise_map]
    exact soS.imp fun {a b} z => by omega
  have p : ys.Perm (S.map fun a : Nat => (a : Int)) := (List.perm_ext_iff_of_nodup nd ndS).mpr fun r => by rw [mem, List.mem_map]
  have e := p.eq_of_pairwise (fun a b _ _ h1 h2 => Int.le_antisymm h1 h2) so soS'
  rw [e, List.map_map]
  rfl
theorem setF_sorted {n : Nat} {moves W : List (List Nat)} {room : List Nat} {k : Nat} : (setF n moves W room k).Pairwise (· < ·) := List.pairwise_lt_range.sublist List.filter_sublist
def kvT (ns : List Nat) : List (Key × U) := ns.map fun n => (.inl ((n : Nat) : Int), .bl true)
theorem kvT_put : ∀ (ns : List Nat) (n : Nat), putU (kvT ns) (.inl ((n : Nat) : Int)) (.bl true) = kvT (if n ∈ ns then ns else ns ++ [n])
  | [], n => rfl
  | a :: ns, n => by
    have ih := kvT_put ns n
    unfold kvT at ih ⊢
    rw [List.map_cons]
    show (if (Sum.inl ((a : Nat) : Int) : Key) = .inl ((n : Nat) : Int) then ((Sum.inl ((n : Nat) : Int) : Key), U.bl true) :: ns.map (fun n : Nat => ((Sum.inl ((n : Nat) : Int) : Key), U.bl true)) else (.inl ((a : Nat) : Int), .bl true) :: putU (ns.map fun n : Nat => ((Sum.inl ((n : Nat) : Int) : Key), U.bl true)) (.inl ((n : Nat) : Int)) (.bl true)) = _
    by_cases q : a = n
    · subst q
      rw [if_pos rfl, if_pos List.mem_cons_self]
      rfl
    · have q2 : ¬ (Sum.inl ((a : Nat) : Int) : Key) = .inl ((n : Nat) : Int) := fun z => q (by have := Sum.inl.inj z; omega)
      rw [if_neg q2, ih]
      by_cases r : n ∈ ns
      · rw [if_pos r, if_pos (List.mem_cons_of_mem _ r)]
        rfl
      · rw [if_neg r, if_neg (fun z => by rcases List.mem_cons.mp z with z | z; exact q z.symm; exact r z)]
        rfl
def sp_told_sets_onward : List (Option U) → DFp := fun cs us h q => ∃ (x : U) (w n : Nat) (yes : List Bool) (moves : List (List Nat)) (pw : Addr) (W : List (List Nat)) (room : List Nat) (k : Nat), cs = [some (.ref pw), some (mX x yes moves)] ∧ us = [tupN room, .int k] ∧ MachJ w n yes moves ∧ n < 64 ∧ WhAt h pw W ∧
  (∀ v ∈ W, v.length ≤ 10 ∧ ∀ j ∈ v, j < w) ∧ k < W.length ∧ (∀ a ∈ room, a < n) ∧ room.length ≤ n ∧ ∀ h', Sep h [] h' → q (tupN (setF n moves W room k)) h'
def t_told_sets_onward : DS := dSeq (dAsg (dDict0) (gNm 4))
    (dSeq (dFor (iAny (dVar 0)) (gNm 5) (dSeq (dFor (iAny (dOp oIx (dVar 2) (dVar 1))) (gNm 6) (dSeq (dAsg (dC (.bl true)) (gSb (dVar 4) (dOp oIx (dOp oIx (dOp oIx (dVar 3) (dC (.int 2))) (dVar 5)) (dVar 6))))
    (dNext)))
    (dNext)))
    (dSeq (dRet (dCB cTuple (dCons (dCB cSortDI (dCons (dVar 4) (dNil))) (dNil))))
    (dNext)))
theorem p_told_sets_onward {cs : List (Option U)} {us : List U} {h : HU} {q : DV} {bk ct : SU → HU → Prop} (hs : sp_told_sets_onward cs us h q) : t_told_sets_onward ⟨fun _ h' => WkV q .non h', WkV q, bk, ct⟩ (startC 7 us cs) h := by
  obtain ⟨x, w, n, yes, moves, pw, W, room, k, rfl, rfl, M, hn, hW, hv, hk, hr, hrl, hq⟩ := hs
  show t_told_sets_onward _ [some (tupN room), some (.int k), some (.ref pw), some (mX x yes moves), none, none, none] h
  unfold t_told_sets_onward
  have S := Sep.nil h
  obtain ⟨usw, ew, lw, gw⟩ := hW.get
  obtain ⟨p, ep, lp⟩ := gw k W[k] (List.getElem?_eq_getElem hk)
  have ewk : W[k]?.getD [] = W[k] := by rw [List.getElem?_eq_getElem hk]; rfl
  obtain ⟨v10, vw⟩ := hv W[k] (List.getElem_mem hk)
  generalize W[k] = v at lp ewk v10 vw
  repeat infer_instance
  refine k_new S fun pm h1 S => ?_
  repeat infer_instance
  have lenN : ∀ ns : List Nat, ns.Nodup → (∀ r ∈ ns, r < n) → ns.length ≤ n := fun ns nd hl => by
    have := nodup_sub nd (m := List.range n) fun r hr => List.mem_range.mpr (hl r hr)
    rwa [List.length_range] at this
  refine f_invA room (fun n => U.int (n : Nat)) rfl (fun i s h' => ∃ ns : List Nat, s = [some (tupN room), some (.int k), some (.ref pw), some (mX x yes moves), some (.ref pm), none, none] ∧ ns.Nodup ∧ (∀ r ∈ ns, r < n) ∧ (∀ r, r ∈ ns ↔ ∃ a ∈ room.take i, ∃ j ∈ v, mvN moves a j = r) ∧ Sep h [(pm, .dK (kvT ns))] h') ⟨[], rfl, List.nodup_nil, (fun _ z => nomatch z), (fun r => by simp), S⟩ (fun _ _ _ _ => True.intro) ?_ ?_
  · rintro i a ea s h2 ⟨ns, rfl, nd, hlt, hmem, S⟩
    have ha := hr a (List.mem_of_getElem? ea)
    repeat infer_instance
    refine l_ix (lstU_mono S.fr ew) (atN ep) ?_
    refine k_anyL (lstU_mono S.fr lp) ?_
    refine f_invA v (fun n => U.int (n : Nat)) rfl (fun t s h' => ∃ ns : List Nat, s = [some (tupN room), some (.int k), some (.ref pw), some (mX x yes moves), some (.ref pm), some (.int a), none] ∧ ns.Nodup ∧ (∀ r ∈ ns, r < n) ∧ (∀ r, r ∈ ns ↔ (∃ a ∈ room.take i, ∃ j ∈ v, mvN moves a j = r) ∨ ∃ j ∈ v.take t, mvN moves a j = r) ∧ Sep h [(pm, .dK (kvT ns))] h') ⟨ns, rfl, nd, hlt, (fun r => by rw [hmem]; simp), S⟩ (fun _ _ h' ⟨_, _, _, _, _, S⟩ => lstU_mono S.fr lp) ?_ ?_
    · rintro t j ej s h3 ⟨ns, rfl, nd, hlt, hmem, S⟩
      have hj := vw j (List.mem_of_getElem? ej)
      obtain ⟨l, e1, e2, e3⟩ := M.mv ha hj
      repeat infer_instance
      refine t_ix (x := tupN l) (atN (by rw [List.getElem?_map, e1]; rfl)) ?_
      repeat infer_instance
      refine t_ix (x := .int (mvN moves a j : Nat)) (atN (by rw [List.getElem?_map, e2]; rfl)) ?_
      refine o_setK S 0 rfl rfl (szl (by unfold kvT; rw [List.length_map]; have := lenN ns nd hlt; omega)) fun h4 S => ?_
      rw [kvT_put] at S
      repeat infer_instance
      refine wk ?_ ⟨_, rfl, ?_, ?_, ?_, S⟩
      · repeat infer_instance
      · split
        · exact nd
        · rename_i hno
          rw [List.nodup_append]
          exact ⟨nd, by simp, fun a ha b hb z => hno (by rw [List.mem_singleton.mp hb] at z; rw [← z]; exact ha)⟩
      · intro r hr
        split at hr
        · exact hlt r hr
        · rcases List.mem_append.mp hr with z | z
          · exact hlt r z
          · rw [List.mem_singleton.mp z]
            exact e3
      · intro r
        have step : (r ∈ (if mvN moves a j ∈ ns then ns else ns ++ [mvN moves a j])) ↔ (r ∈ ns ∨ r = mvN moves a j) := by
          split
          · rename_i hin
            exact ⟨fun z => .inl z, fun z => by rcases z with z | z; exact z; rw [z]; exact hin⟩
          · rw [List.mem_append, List.mem_singleton]
        rw [step, hmem, List.take_add_one, ej]
        constructor
        · rintro ((z | ⟨j', h1, h2⟩) | z)
          · exact .inl z
          · exact .inr ⟨j', List.mem_append_left _ h1, h2⟩
          · exact .inr ⟨j, by simp, z.symm⟩
        · rintro (z | ⟨j', h1, h2⟩)
          · exact .inl (.inl z)
          · rcases List.mem_append.mp h1 with z | z
            · exact .inl (.inr ⟨j', z, h2⟩)
            · have : j' = j := by simpa using z
              subst this
              exact .inr h2.symm
    · rintro s h3 ⟨ns, rfl, nd, hlt, hmem, S⟩
      rw [List.take_length] at hmem
      repeat infer_instance
      refine wk ?_ ⟨ns, rfl, nd, hlt, fun r => ?_, S⟩
      · repeat infer_instance
      · rw [hmem, List.take_add_one, ea]
        constructor
        · rintro (⟨a', h1, h2⟩ | z)
          · exact ⟨a', List.mem_append_left _ h1, h2⟩
          · exact ⟨a, by simp, z⟩
        · rintro ⟨a', h1, h2⟩
          rcases List.mem_append.mp h1 with z | z
          · exact .inl ⟨a', z, h2⟩
          · have : a' = a := by simpa using z
            subst this
            exact .inr h2
  · rintro s h2 ⟨ns, rfl, nd, hlt, hmem, S⟩
    rw [List.take_length] at hmem
    repeat infer_instance
    refine l_sortDI (ns.map fun n : Nat => (n : Int)) (S.get 0 rfl) (by unfold kvT; rw [List.map_map, List.map_map]; rfl) (by rw [List.length_map]; have := lenN ns nd hlt; omega) fun ys hp so => ?_
    refine k_new S fun py h3 S => ?_
    repeat infer_instance
    have e : ys.map U.int = intsN (setF n moves W room k) := by
      refine ints_sorted (hp.nodup_iff.mpr ?_) so setF_sorted fun r => ?_
      · rw [List.Nodup, List.pairwise_map]
        exact nd.imp fun {a b} z q => z (by omega)
      · rw [hp.mem_iff, List.mem_map]
        have : ∀ a, a ∈ ns ↔ a ∈ setF n moves W room k := fun a => by
          unfold setF
          rw [ewk, List.mem_filter, meets_iff, ← hmem, List.mem_range]
          exact ⟨fun z => ⟨hlt a z, z⟩, fun z => z.2⟩
        exact ⟨fun ⟨a, h1, h2⟩ => ⟨a, (this a).mp h1, h2⟩, fun ⟨a, h1, h2⟩ => ⟨a, (this a).mpr h1, h2⟩⟩
    rw [e]
    exact .of (hq _ S.none)
/-! ### what is asked of a machine with a hidden name -/
structure HidM (b : Nat) (ws : List Str) (name : Str) (at_ n : Nat) (yes : List Bool) (moves : List (List Nat)) : Prop where
  N : NmA b ws name at_
  M : MachJ (b ^ ws.length) n yes moves
  n64 : n < 64
  b10 : b ≤ 10
abbrev hidZ (b : Nat) (ws : List Str) (at_ : Nat) : List Nat := (wholesN b ws at_)[0]?.getD []
abbrev hidF (b : Nat) (ws : List Str) (at_ n : Nat) (moves : List (List Nat)) : List Nat → Nat → List Nat := setF n moves (wholesN b ws at_)
noncomputable abbrev hidY (b : Nat) (ws : List Str) (at_ : Nat) (yes : List Bool) (moves : List (List Nat)) (room : List Nat) : Bool := room.any (rch yes moves (hidZ b ws at_))
section
variable {b : Nat} {ws : List Str} {name : Str} {at_ n : Nat} {yes : List Bool} {moves : List (List Nat)}
theorem wholesN_ok (N : NmA b ws name at_) (b10 : b ≤ 10) : ∀ v ∈ wholesN b ws at_, v.length ≤ 10 ∧ ∀ j ∈ v, j < b ^ ws.length := fun v hv => by
  unfold wholesN wholes at hv
  obtain ⟨l, hl, rfl⟩ := List.mem_map.mp hv
  obtain ⟨l1, l2⟩ := letters_all b _ l hl
  have := N.lt
  unfold wholeN
  refine ⟨by rw [List.length_map, List.length_range]; exact b10, fun j hj => ?_⟩
  obtain ⟨f, hf, rfl⟩ := List.mem_map.mp hj
  have len : (wholeL at_ l f).length = ws.length := by
    unfold wholeL
    simp only [List.length_append, List.length_take, List.length_drop, List.length_singleton]
    omega
  rw [← len]
  refine numL_lt fun g hg => ?_
  unfold wholeL at hg
  rcases List.mem_append.mp hg with z | z
  · rcases List.mem_append.mp z with z | z
    · exact l2 g (List.mem_of_mem_take z)
    · rw [List.mem_singleton.mp z]
      exact List.mem_range.mp hf
  · exact l2 g (List.mem_of_mem_drop z)
theorem wholesN_len (N : NmA b ws name at_) : 1 ≤ (wholesN b ws at_).length ∧ (wholesN b ws at_).length ≤ 100000 := by
  rw [wholes_len]
  exact ⟨Nat.one_le_pow _ _ N.b1, N.pw1⟩
theorem hidZ_at (N : NmA b ws name at_) : (wholesN b ws at_)[0]? = some (hidZ b ws at_) := by
  have := (wholesN_len N).1
  unfold hidZ
  rw [List.getElem?_eq_getElem (by omega)]
  rfl
theorem growA_hid (H : HidM b ws name at_ n yes moves) {h : HU} {pw : Addr} {x : U} (hW : WhAt h pw (wholesN b ws at_)) :
    GrowA h tupN keyN (fun r => (∀ a ∈ r, a < n) ∧ r.length ≤ n) (hidF b ws at_ n moves) (wholesN b ws at_).length (sp_told_sets_onward [some (.ref pw), some (mX x yes moves)]) :=
  ⟨keyN_t, fun a b e => keyN_inj e, fun r hr k hk => ⟨fun a ha => setF_lt ha, setF_len⟩, fun r hr k hk h1 q1 sub hq => ⟨x, _, n, yes, moves, pw, _, r, k, rfl, rfl, H.M, H.n64, hW.mono sub, wholesN_ok H.N H.b10, hk, hr.1, hr.2, hq⟩⟩
end
def sp_told_sets_is_yes : List (Option U) → DFp := fun cs us h q => ∃ (n : Nat) (yes : List Bool) (moves : List (List Nat)) (z : List Nat) (p : Addr) (room : List Nat), cs = [some (.ref p)] ∧ us = [tupN room] ∧ lstU h p = some (((List.range n).map (rch yes moves z)).map U.bl) ∧ (∀ a ∈ room, a < n) ∧ room.length ≤ 1000 ∧ ∀ h', Sep h [] h' → q (.bl (room.any (rch yes moves z))) h'
def t_told_sets_is_yes : DS := dSeq (dRet (dOp oIn (dC (.bl true)) (dLc (iAny (dVar 0)) (gNm 2) dYes (dOp oIx (dVar 1) (dVar 2)) [2])))
    (dNext)
theorem p_told_sets_is_yes {cs : List (Option U)} {us : List U} {h : HU} {q : DV} {bk ct : SU → HU → Prop} (hs : sp_told_sets_is_yes cs us h q) : t_told_sets_is_yes ⟨fun _ h' => WkV q .non h', WkV q, bk, ct⟩ (startC 3 us cs) h := by
  obtain ⟨n, yes, moves, z, p, room, rfl, rfl, hp, hr, hrl, hq⟩ := hs
  show t_told_sets_is_yes _ [some (tupN room), some (.ref p), none] h
  unfold t_told_sets_is_yes
  have S := Sep.nil h
  repeat infer_instance
  refine lc_mapA room (fun n => U.int (n : Nat)) rfl (fun a => U.bl (rch yes moves z a)) (szl (by omega)) True.intro (fun a ha C N hC => ?_) ?_
  · repeat infer_instance
    refine if_t rfl ?_
    repeat infer_instance
    refine l_ix hp (atN ?_) hC
    rw [List.getElem?_map, List.getElem?_map, List.getElem?_range (hr a ha)]
    rfl
  have ec : room.map (fun a => U.bl (rch yes moves z a)) = (room.map (rch yes moves z)).map U.bl := by rw [List.map_map]; rfl
  rw [ec]
  refine k_new S fun pc h1 S => ?_
  repeat infer_instance
  refine l_in (S.lget 0 rfl) rfl (flat_bl _) ?_
  rw [inF_bl]
  have e : decide (true ∈ room.map (rch yes moves z)) = room.any (rch yes moves z) := by
    rw [Bool.eq_iff_iff, decide_eq_true_iff, List.any_eq_true, List.mem_map]
  rw [e]
  exact .of (hq _ S.none)
def sp_told_sets : DP := fun us h q _ => ∃ (b : Nat) (ws : List Str) (name : Str) (at_ n : Nat) (yes : List Bool) (moves : List (List Nat)) (most : Int), us = [.int b, mX (.ft (ws.map U.str)) yes moves, .str name, .int most] ∧ HidM b ws name at_ n yes moves ∧ most ≤ 1000000 ∧
  (GrowR (hidF b ws at_ n moves) (wholesN b ws at_).length most [[0]] [] none → ∀ h', Sep h [] h' → q .non h') ∧
  ∀ came mv, GrowR (hidF b ws at_ n moves) (wholesN b ws at_).length most [[0]] [] (some (came, mv)) → ∀ r h', Sep h [(r, .lst (came.map tupN))] h' → q (.tup [.ref r, .tup (came.map fun r => .bl (hidY b ws at_ yes moves r)), .tup (mv.map tupN)]) h'
def t_told_sets (mk_onward : Addr → NF) (mk_is_yes : Addr → NF) (C : SU → NF → DFp → Prop) : DS := dSeq (dAsg (dCall sp_whole_letters [] x0 (dCons (dVar 0) (dCons (dOp oIx (dVar 1) (dC (.int 0))) (dCons (dVar 2) (dNil))))) (gNm 4))
    (dSeq (dAsg (dCall sp_goes_on [] x0 (dCons (dVar 1) (dCons (dOp oIx (dVar 4) (dC (.int 0))) (dNil)))) (gNm 5))
    (dSeq (dNdef 6 mk_onward)
    (dSeq (dNdef 7 mk_is_yes)
    (dSeq (dRet (dCallC C sp_grown_from [] (dCons (dTup (dCons (dC (.int 0)) (dNil))) (dCons (dCB cLen (dCons (dVar 4) (dNil))) (dCons (dVar 6) (dCons (dVar 7) (dCons (dVar 3) (dNil))))))))
    (dNext)))))
theorem p_told_sets {mk1 mk2 : Addr → NF} {C : SU → NF → DFp → Prop} (hown1 : ∀ s c, C s (mk1 c) (sp_told_sets_onward (slotsU s [4, 1]))) (hown2 : ∀ s c, C s (mk2 c) (sp_told_sets_is_yes (slotsU s [5]))) {us : List U} {h : HU} {q : DV} {y : DXK} {bk ct : SU → HU → Prop} (hs : sp_told_sets us h q y) :
    t_told_sets mk1 mk2 C ⟨fun _ h' => WkV q .non h', WkV q, bk, ct⟩ (startN 8 us) h := by
  obtain ⟨b, ws, name, at_, n, yes, moves, most, rfl, H, hmost, hnone, hsome⟩ := hs
  show t_told_sets _ _ _ _ [some (.int b), some (mX (.ft (ws.map U.str)) yes moves), some (.str name), some (.int most), none, none, none, none] h
  unfold t_told_sets
  have S := Sep.nil h
  have n1 := H.M.n1
  have n64 := H.n64
  obtain ⟨wl1, wl2⟩ := wholesN_len H.N
  repeat infer_instance
  refine ⟨b, ws, name, at_, rfl, H.N, fun pw h1 S1 hW => ?_⟩
  have S := S.more S1
  repeat infer_instance
  obtain ⟨usw, ew, lw, gw⟩ := hW.get
  obtain ⟨p0, ep, lp⟩ := gw 0 _ (hidZ_at H.N)
  obtain ⟨z10, zw⟩ := wholesN_ok H.N H.b10 _ (List.mem_of_getElem? (hidZ_at H.N))
  refine l_ix ew (atN (n := 0) ep) ?_
  repeat infer_instance
  refine ⟨_, _, n, yes, moves, p0, hidZ b ws at_, rfl, H.M, by omega, lp, zw, by omega, fun po h2 S2 => ?_⟩
  repeat infer_instance
  refine s_ndef fun c1 => ?_
  repeat infer_instance
  refine s_ndef fun c2 => ?_
  repeat infer_instance
  refine v_callC ?_
  repeat infer_instance
  refine l_len (lstU_mono S2.fr ew) ?_
  rw [lw]
  have A := growA_hid (x := .ft (ws.map U.str)) H (hW.mono S2.fr)
  have S12 : Sep h [(po, .lst (((List.range n).map (rch yes moves (hidZ b ws at_))).map U.bl))] h2 := (S1.more S2).pick [0]
  repeat infer_instance
  refine ⟨List Nat, inferInstance, tupN, keyN, fun r => (∀ a ∈ r, a < n) ∧ r.length ≤ n, _, _, [0], hidY b ws at_ yes moves, mk1 c1, mk2 c2, _, _, most, rfl, hown1 _ c1, hown2 _ c2, A, ⟨fun a ha => by rw [List.mem_singleton.mp ha]; omega, n1⟩, by omega, hmost, fun r hr h3 q1 sub k => ?_, fun gr h3 S3 => ?_, fun came mv gr pc h3 S3 => ?_⟩
  · exact ⟨n, yes, moves, _, po, r, rfl, rfl, lstU_mono sub (S2.lget 0 rfl), hr.1, by omega, k⟩
  · exact .of (hnone gr h3 ((S12.more S3).none))
  · exact .of (hsome came mv gr pc h3 ((S12.more S3).pick [0]))

end DL

set_option Elab.async false
set_option linter.all false
set_option maxRecDepth 100000
set_option maxHeartbeats 4000000
namespace DL
open PySem L2 NdefX LamX KG
local macro_rules | `(tactic| infer_instance) => `(tactic| with_reducible first | exact subS_nil | refine subS_same ?_ | refine subS_none ?_ | refine s_seq ?_ | refine s_asg ?_ | refine s_if ?_ | refine s_ret ?_ | refine s_retN ?_ | refine s_drop ?_ | refine s_for ?_ | refine s_next ?_ | refine s_break ?_ | refine s_cont ?_ | refine v_c ?_ | refine v_op ?_ | refine v_un ?_ | refine v_if ?_ | refine v_nil ?_ | refine v_cons ?_ | refine v_CB ?_ | refine v_BM0 ?_ | refine v_BM ?_ | refine v_call ?_ | refine v_B ?_ | refine k_bl ?_ | refine v_and ?_ | refine v_or ?_ | refine v_not ?_ | refine v_yes ?_ | refine v_andV ?_ | refine v_orV ?_ | refine k_and ?_ | refine k_or ?_ | refine v_rNot ?_ | refine w_any ?_ | refine k_anyT ?_ | refine k_anyS ?_ | refine w_rng1 ?_ | refine w_zip ?_ | refine v_lc ?_ | refine v_lst ?_ | refine v_rev ?_ | refine v_revS ?_ | refine v_noP ?_ | refine v_part ?_ | refine k_part ?_ | refine v_sl ?_ | refine t_sl ?_ | refine t_list ?_ | refine k_isT ?_ | refine g_sb ?_ | refine v_kv0 ?_ | refine v_kv ?_ | refine v_dis ?_ | refine v_disT ?_ | refine i_add ?_ | refine i_sub ?_ | refine i_neg ?_ | refine i_lt ?_ | refine i_le ?_ | refine i_gt ?_ | refine i_ge ?_ | refine i_eq ?_ | refine i_ne ?_ | refine s_eq ?_ | refine s_ne ?_ | refine b_eq ?_ | refine b_ne ?_ | refine n_is ?_ | refine n_not ?_ | refine t_len ?_ | refine t_tuple ?_ | refine i_abs ?_ | refine i_int ?_ | refine b_int ?_ | refine g_unp ?_ | refine g_nms0 ?_ | refine g_nmsS ?_ | refine g_nm0 ?_  | refine g_nm1 ?_  | refine g_nm2 ?_  | refine g_nm3 ?_  | refine g_nm4 ?_  | refine g_nm5 ?_  | refine g_nm6 ?_  | refine g_nm7 ?_  | refine g_nm8 ?_  | refine g_nm9 ?_  | refine g_nm10 ?_  | refine g_nm11 ?_  | refine g_nm12 ?_  | refine g_nm13 ?_  | refine g_nm14 ?_  | refine g_nm15 ?_  | refine g_nm16 ?_  | refine g_nm17 ?_  | refine g_nm18 ?_  | refine g_nm19 ?_  | refine g_nm20 ?_  | refine g_nm21 ?_  | refine g_nm22 ?_  | refine g_nm23 ?_  | refine g_nm24 ?_  | refine g_nm25 ?_  | refine g_nm26 ?_  | refine g_nm27 ?_  | refine g_nm28 ?_  | refine g_nm29 ?_  | refine g_nm30 ?_  | refine g_nm31 ?_)
local macro_rules | `(tactic| infer_instance) => `(tactic| first | ((with_reducible apply v_var); rfl) | ((with_reducible apply t_ix); rfl) | ((with_reducible apply l_len); (first | exact Sep.lget ‹_› 0 rfl | exact Sep.lget ‹_› 1 rfl | exact Sep.lget ‹_› 2 rfl | exact Sep.lget ‹_› 3 rfl | exact Sep.lget ‹_› 4 rfl | exact Sep.lget ‹_› 5 rfl | exact Sep.lget ‹_› 6 rfl | exact Sep.lget ‹_› 7 rfl))  | ((with_reducible apply l_tuple); (first | exact Sep.lget ‹_› 0 rfl | exact Sep.lget ‹_› 1 rfl | exact Sep.lget ‹_› 2 rfl | exact Sep.lget ‹_› 3 rfl | exact Sep.lget ‹_› 4 rfl | exact Sep.lget ‹_› 5 rfl | exact Sep.lget ‹_› 6 rfl | exact Sep.lget ‹_› 7 rfl))  | ((with_reducible apply k_anyL); (first | exact Sep.lget ‹_› 0 rfl | exact Sep.lget ‹_› 1 rfl | exact Sep.lget ‹_› 2 rfl | exact Sep.lget ‹_› 3 rfl | exact Sep.lget ‹_› 4 rfl | exact Sep.lget ‹_› 5 rfl | exact Sep.lget ‹_› 6 rfl | exact Sep.lget ‹_› 7 rfl)) | ((with_reducible apply k_isL); (first | exact Sep.lget ‹_› 0 rfl | exact Sep.lget ‹_› 1 rfl | exact Sep.lget ‹_› 2 rfl | exact Sep.lget ‹_› 3 rfl | exact Sep.lget ‹_› 4 rfl | exact Sep.lget ‹_› 5 rfl | exact Sep.lget ‹_› 6 rfl | exact Sep.lget ‹_› 7 rfl))  | ((with_reducible apply l_list); (first | exact Sep.lget ‹_› 0 rfl | exact Sep.lget ‹_› 1 rfl | exact Sep.lget ‹_› 2 rfl | exact Sep.lget ‹_› 3 rfl | exact Sep.lget ‹_› 4 rfl | exact Sep.lget ‹_› 5 rfl | exact Sep.lget ‹_› 6 rfl | exact Sep.lget ‹_› 7 rfl))  | ((with_reducible apply k_rev); (first | exact Sep.lget ‹_› 0 rfl | exact Sep.lget ‹_› 1 rfl | exact Sep.lget ‹_› 2 rfl | exact Sep.lget ‹_› 3 rfl | exact Sep.lget ‹_› 4 rfl | exact Sep.lget ‹_› 5 rfl | exact Sep.lget ‹_› 6 rfl | exact Sep.lget ‹_› 7 rfl))  | ((with_reducible apply l_sl); (first | exact Sep.lget ‹_› 0 rfl | exact Sep.lget ‹_› 1 rfl | exact Sep.lget ‹_› 2 rfl | exact Sep.lget ‹_› 3 rfl | exact Sep.lget ‹_› 4 rfl | exact Sep.lget ‹_› 5 rfl | exact Sep.lget ‹_› 6 rfl | exact Sep.lget ‹_› 7 rfl)) | (with_reducible refine v_tup ?_) | (with_reducible refine And.intro (szb rfl) ?_) | (dsimp only [wipeU, List.set]))
local macro_rules | `(tactic| infer_instance) => `(tactic| first | (with_reducible first | refine v_dict0 ?_ | refine v_tupF ?_ | refine v_slF ?_ | refine v_tix ?_ | refine k_tix ?_ | refine w_enu ?_ | refine w_rng2 ?_ | refine v_sortSetI ?_ | refine k_anyFT ?_ | refine ft_len ?_) | ((with_reducible apply l_tupleF); (first | exact Sep.lget ‹_› 0 rfl | exact Sep.lget ‹_› 1 rfl | exact Sep.lget ‹_› 2 rfl | exact Sep.lget ‹_› 3 rfl | exact Sep.lget ‹_› 4 rfl | exact Sep.lget ‹_› 5 rfl | exact Sep.lget ‹_› 6 rfl | exact Sep.lget ‹_› 7 rfl)) | ((with_reducible apply ft_ix); rfl))
/-! ### some_of, sets_of -/
abbrev othN (ws : List Str) (name : Str) : List Str := ws.filter fun x => !decide (x = name)
theorem filt_ne {ws : List Str} {name : Str} : ws.filterMap (fun x => if x = name then none else some (U.str x)) = (othN ws name).map U.str := by
  induction ws with
  | nil => rfl
  | cons a ws ih =>
    rw [List.filterMap_cons]
    unfold othN at ih ⊢
    rw [List.filter_cons]
    by_cases q : a = name
    · simp only [q, if_true, decide_true, Bool.not_true, Bool.false_eq_true, if_false]
      rw [← q] at ih ⊢
      exact ih
    · simp only [q, if_false, decide_false, Bool.not_false, if_true, List.map_cons, ih]
noncomputable def someU (ns : List Str) (Y : List Nat → Bool) : Res (List Nat) → U
  | none => .non
  | some (came, mv) => machU ns (came.map Y) mv
def sp_some_of : DP := fun us h q _ => ∃ (b : Nat) (ws : List Str) (name : Str) (yes : List Bool) (moves : List (List Nat)) (most : Int), us = [.int b, mX (.ft (ws.map U.str)) yes moves, .str name, .int most] ∧ ws.length ≤ 60 ∧
  ((name ∉ ws ∧ ∀ h', Sep h [] h' → q (mX (.ft (ws.map U.str)) yes moves) h') ∨ ∃ at_ n, HidM b ws name at_ n yes moves ∧ most ≤ 1000000 ∧
    ∀ res, GrowR (hidF b ws at_ n moves) (wholesN b ws at_).length most [[0]] [] res → ∀ h', Sep h [] h' → q (someU (othN ws name) (hidY b ws at_ yes moves) res) h')
def t_some_of : DS := dSeq (dIfS (dB (dOp oNotIn (dVar 2) (dOp oIx (dVar 1) (dC (.int 0))))) (dSeq (dRet (dVar 1))
    (dNext)) (dNext))
    (dSeq (dAsg (dLc (iAny (dOp oIx (dVar 1) (dC (.int 0)))) (gNm 5) (dB (dOp oNe (dVar 5) (dVar 2))) (dVar 5) [5]) (gNm 4))
    (dSeq (dRet (dCall sp_machine_of [] x0 (dCons (dVar 4) (dCons (dCall sp_told_sets [] x0 (dCons (dVar 0) (dCons (dVar 1) (dCons (dVar 2) (dCons (dVar 3) (dNil)))))) (dNil)))))
    (dNext)))
theorem p_some_of {us : List U} {h : HU} {q : DV} {y : DXK} {bk ct : SU → HU → Prop} (hs : sp_some_of us h q y) : t_some_of ⟨fun _ h' => WkV q .non h', WkV q, bk, ct⟩ (startN 6 us) h := by
  obtain ⟨b, ws, name, yes, moves, most, rfl, hl, hs⟩ := hs
  show t_some_of _ [some (.int b), some (mX (.ft (ws.map U.str)) yes moves), some (.str name), some (.int most), none, none] h
  unfold t_some_of
  have S := Sep.nil h
  repeat infer_instance
  refine ft_nin rfl (flat_str _ _) ?_
  rw [inF_str]
  repeat infer_instance
  refine if_n (fun hm => ?_) (fun hm => ?_)
  · rcases hs with ⟨_, hq⟩ | ⟨at_, n, H, _⟩
    · repeat infer_instance
      exact .of (hq _ S)
    · exact absurd (List.mem_of_getElem? H.N.at_) hm
  · rcases hs with ⟨z, _⟩ | ⟨at_, n, H, hmost, hq⟩
    · exact absurd hm z
    · repeat infer_instance
      refine lc_fmA ws U.str rfl (fun x => if x = name then none else some (U.str x)) (szl (by omega)) True.intro (fun x hx C N hC hN => ?_) ?_
      · repeat infer_instance
        refine if_n (fun hm => ?_) (fun hm => ?_)
        · repeat infer_instance
          exact hC _ (if_neg hm)
        · exact hN (if_pos hm)
      rw [filt_ne]
      refine k_new S fun pn h1 S => ?_
      repeat infer_instance
      refine ⟨b, ws, name, at_, n, yes, moves, most, rfl, H, hmost, fun gr h2 S2 => ?_, fun came mv gr r h2 S2 => ?_⟩
      · repeat infer_instance
        have S := S.more S2
        refine .inl ⟨_, rfl, fun h3 S3 => ?_⟩
        exact .of (hq none gr h3 (S.more S3).none)
      · repeat infer_instance
        have S := S.more S2
        refine .inr ⟨_, _, _, _, _, rfl, S.lget 1 rfl, rfl, rfl, fun h3 S3 => ?_⟩
        have e : came.map (fun r => U.bl (hidY b ws at_ yes moves r)) = (came.map (hidY b ws at_ yes moves)).map U.bl := by rw [List.map_map]; rfl
        rw [e]
        exact .of (hq _ gr h3 (S.more S3).none)
def sp_sets_of : DP := fun us h q _ => ∃ (b : Nat) (ws : List Str) (name : Str) (at_ n : Nat) (yes : List Bool) (moves : List (List Nat)) (most : Int), us = [.int b, mX (.ft (ws.map U.str)) yes moves, .str name, .int most] ∧ HidM b ws name at_ n yes moves ∧ most ≤ 1000000 ∧
  (GrowR (hidF b ws at_ n moves) (wholesN b ws at_).length most [[0]] [] none → ∀ h', Sep h [] h' → q .non h') ∧
  ∀ came mv, GrowR (hidF b ws at_ n moves) (wholesN b ws at_).length most [[0]] [] (some (came, mv)) → ∀ r h', Sep h [(r, .lst (came.map tupN))] h' → q (.ref r) h'
def t_sets_of : DS := dSeq (dAsg (dCall sp_told_sets [] x0 (dCons (dVar 0) (dCons (dVar 1) (dCons (dVar 2) (dCons (dVar 3) (dNil)))))) (gNm 4))
    (dSeq (dIfS (dB (dOp oIsN (dVar 4) (dC .non))) (dSeq (dRet (dC .non))
    (dNext)) (dNext))
    (dSeq (dRet (dOp oIx (dVar 4) (dC (.int 0))))
    (dNext)))
theorem p_sets_of {us : List U} {h : HU} {q : DV} {y : DXK} {bk ct : SU → HU → Prop} (hs : sp_sets_of us h q y) : t_sets_of ⟨fun _ h' => WkV q .non h', WkV q, bk, ct⟩ (startN 5 us) h := by
  obtain ⟨b, ws, name, at_, n, yes, moves, most, rfl, H, hmost, hnone, hsome⟩ := hs
  show t_sets_of _ [some (.int b), some (mX (.ft (ws.map U.str)) yes moves), some (.str name), some (.int most), none] h
  unfold t_sets_of
  repeat infer_instance
  refine ⟨b, ws, name, at_, n, yes, moves, most, rfl, H, hmost, fun gr h2 S2 => ?_, fun came mv gr r h2 S2 => ?_⟩
  · repeat infer_instance
    refine if_t rfl ?_
    repeat infer_instance
    exact .of (hnone gr h2 S2)
  · repeat infer_instance
    refine if_f rfl ?_
    repeat infer_instance
    exact .of (hsome came mv gr r h2 S2)
/-! ### the law's own of them -/
abbrev sp__law_wholes : DP := sp_whole_letters
def t__law_wholes : DS := dSeq (dAsg (dTix (dVar 1) (dVar 2)) (gNm 3))
    (dSeq (dAsg (dLst (dNil)) (gNm 4))
    (dSeq (dFor (iAny (dCall sp__law_letters [] x0 (dCons (dVar 0) (dCons (dOp oSub (dCB cLen (dCons (dVar 1) (dNil))) (dC (.int 1))) (dNil))))) (gNm 5) (dSeq (dAsg (dLst (dNil)) (gNm 6))
    (dSeq (dFor (iRng1 (dCons (dVar 0) (dNil))) (gNm 7) (dSeq (dAsg (dC (.int 0)) (gNm 8))
    (dSeq (dFor (iAny (dOp oAdd (dOp oAdd (dSl (dVar 5) (dNoP) (dPart (dVar 3))) (dTup (dCons (dVar 7) (dNil)))) (dSl (dVar 5) (dPart (dVar 3)) (dNoP)))) (gNm 9) (dSeq (dAsg (dOp oAdd (dOp oMul (dVar 8) (dVar 0)) (dVar 9)) (gNm 8))
    (dNext)))
    (dSeq (dDrop (dBM isLst mAppend (dVar 6) (dCons (dVar 8) (dNil))))
    (dNext)))))
    (dSeq (dDrop (dBM isLst mAppend (dVar 4) (dCons (dVar 6) (dNil))))
    (dNext)))))
    (dSeq (dRet (dVar 4))
    (dNext))))
theorem p__law_wholes {us : List U} {h : HU} {q : DV} {y : DXK} {bk ct : SU → HU → Prop} (hs : sp__law_wholes us h q y) : t__law_wholes ⟨fun _ h' => WkV q .non h', WkV q, bk, ct⟩ (startN 10 us) h := by
  obtain ⟨b, ws, name, at_, rfl, N, hq⟩ := hs
  show t__law_wholes _ [some (.int b), some (.ft (ws.map U.str)), some (.str name), none, none, none, none, none, none, none] h
  unfold t__law_wholes
  have S := Sep.nil h
  have hlt := N.lt
  have hpw1 := N.pw1
  have hb2 := N.b2
  have hl60 := N.l
  repeat infer_instance
  refine ⟨ws, name, at_, rfl, rfl, N.at_, N.first, ?_⟩
  repeat infer_instance
  refine k_new S fun pf h1 S => ?_
  repeat infer_instance
  have el : (((ws.map U.str).length : Nat) : Int) - 1 = ((ws.length - 1 : Nat) : Int) := by rw [List.length_map]; omega
  rw [el]
  refine ⟨b, ws.length - 1, rfl, N.b1, by omega, hpw1, fun rl h2 S2 => ?_⟩
  have S := S.more S2
  repeat infer_instance
  refine f_invA (letters b (ws.length - 1)) tupN rfl (fun i s h' => ∃ ps : List Addr, s = [some (.int b), some (.ft (ws.map U.str)), some (.str name), some (.int at_), some (.ref pf), none, none, none, none, none] ∧ ps.length = ((wholesN b ws at_).take i).length ∧
    Sep h ((pf, .lst (ps.map U.ref)) :: (rl, .lst ((letters b (ws.length - 1)).map tupN)) :: whO ps ((wholesN b ws at_).take i)) h') ⟨[], rfl, rfl, S.pick [1, 0]⟩ (fun _ _ _ ⟨_, z⟩ => z.2.2.lget 1 rfl) ?_ ?_
  · rintro i l ei s h3 ⟨ps, rfl, hpl, S⟩
    have hl := letters_all b _ l (List.mem_of_getElem? ei)
    have hi := (List.getElem?_eq_some_iff.mp ei).1
    rw [letters_len] at hi
    have hpl2 : ps.length ≤ i := by
      rw [hpl, List.length_take]
      exact Nat.min_le_left _ _
    repeat infer_instance
    refine k_new S fun pn h4 S => ?_
    repeat infer_instance
    refine k_rngN (by omega) ?_
    refine f_invA (List.range b) (fun k => U.int (k : Nat)) (rng_map _) (fun j s h' => s = [some (.int b), some (.ft (ws.map U.str)), some (.str name), some (.int at_), some (.ref pf), some (tupN l), some (.ref pn), none, none, none] ∧ Sep h ((pn, .lst ((List.range j).map fun f => U.int (numL b (wholeL at_ l f) : Nat))) :: (pf, .lst (ps.map U.ref)) :: (rl, .lst ((letters b (ws.length - 1)).map tupN)) :: whO ps ((wholesN b ws at_).take i)) h') ⟨rfl, S⟩ (fun _ _ _ _ => True.intro) ?_ ?_
    · rintro j f ej s h5 ⟨rfl, S⟩
      have hj := (List.getElem?_eq_some_iff.mp ej).1
      rw [List.length_range] at hj
      rw [List.getElem?_range hj] at ej
      cases ej
      repeat infer_instance
      rw [cut_at]
      have e1 : (l.take at_).map (fun n : Nat => U.int n) ++ [U.int (j : Nat)] = (l.take at_ ++ [j]).map fun n : Nat => U.int n := by simp
      refine t_add (sz (by rw [List.length_map, List.length_take, List.length_singleton]; omega)) ?_
      rw [e1]
      repeat infer_instance
      rw [cut_from]
      refine t_add (sz (by simp only [List.length_map, List.length_take, List.length_drop, List.length_append, List.length_singleton]; omega)) ?_
      rw [← List.map_append]
      repeat infer_instance
      refine f_invA (wholeL at_ l j) (fun n => U.int (n : Nat)) rfl (fun t s h' => s = [some (.int b), some (.ft (ws.map U.str)), some (.str name), some (.int at_), some (.ref pf), some (tupN l), some (.ref pn), some (.int (j : Nat)), some (.int (numL b ((wholeL at_ l j).take t) : Nat)), none] ∧ Sep h ((pn, .lst ((List.range j).map fun f => U.int (numL b (wholeL at_ l f) : Nat))) :: (pf, .lst (ps.map U.ref)) :: (rl, .lst ((letters b (ws.length - 1)).map tupN)) :: whO ps ((wholesN b ws at_).take i)) h') ⟨rfl, S⟩ (fun _ _ _ _ => True.intro) ?_ ?_
      · rintro t f ef s h6 ⟨rfl, S⟩
        repeat infer_instance
        refine i_mul (.inr ⟨by omega, by omega⟩) ?_
        repeat infer_instance
        refine wk ?_ ⟨rfl, S⟩
        rw [List.take_add_one, ef]
        show SubS [_, _, _, _, _, _, _, _, some (.int (numL b ((wholeL at_ l j).take t ++ [f]) : Nat)), _] _
        rw [numL_snoc, Int.natCast_add, Int.natCast_mul]
        repeat infer_instance
      · rintro s h6 ⟨rfl, S⟩
        rw [List.take_length]
        repeat infer_instance
        refine m_app S 0 rfl (szl (by rw [List.length_map, List.length_range]; omega)) fun h7 S => ?_
        repeat infer_instance
        refine wk ?_ ⟨rfl, ?_⟩
        · repeat infer_instance
        · rw [List.range_succ, List.map_append]
          exact S
    · rintro s h5 ⟨rfl, S⟩
      rw [List.length_range] at S
      repeat infer_instance
      refine m_app S 1 rfl (szl (by rw [List.length_map]; omega)) fun h6 S => ?_
      repeat infer_instance
      have et : (wholesN b ws at_).take (i + 1) = (wholesN b ws at_).take i ++ [wholeN b at_ l] := by
        rw [List.take_add_one]
        unfold wholesN wholes
        rw [List.getElem?_map, ei]
        rfl
      refine wk ?_ ⟨ps ++ [pn], rfl, by rw [et]; simp [hpl], ?_⟩
      · repeat infer_instance
      · rw [et, whO_snoc hpl, List.map_append]
        have eN : (List.range b).map (fun f => U.int (numL b (wholeL at_ l f) : Nat)) = intsN (wholeN b at_ l) := by
          unfold wholeN
          rw [intsN, List.map_map]
          rfl
        rw [eN] at S
        exact S.last
  · rintro s h3 ⟨ps, rfl, hpl, S⟩
    rw [letters_len, ← wholes_len b (ws.length - 1) at_, List.take_length] at hpl S
    repeat infer_instance
    exact .of (hq pf h3 S.none (WhAt.of (l := [_]) hpl S))
theorem flat_nat (l : List Nat) : (intsN l).all flatU = true := flat_int (fun n : Nat => (n : Int)) l
theorem inF_nat {x : Nat} {l : List Nat} : inF (.int (x : Nat)) (intsN l) = decide (x ∈ l) := by
  have e : intsN l = (l.map fun n : Nat => (n : Int)).map U.int := by rw [List.map_map]; rfl
  rw [e, inF_int]
  refine decide_eq_decide.mpr ?_
  rw [List.mem_map]
  exact ⟨fun ⟨a, h1, h2⟩ => by
    have : a = x := by omega
    rw [← this]
    exact h1, fun h => ⟨x, h, rfl⟩⟩
theorem l_anyB {p : Addr} {h : HU} {Q : DV} (l : List Bool) (e : lstU h p = some (l.map U.bl)) (k : Q (.bl (l.any id)) h) : cAny [.ref p] h Q := ⟨_, l, e, blsU_bl l, k⟩
/-- the rooms that go on, in any order -/
def sp__law_going_on : DP := fun us h q _ => ∃ (x : U) (w n : Nat) (yes : List Bool) (moves : List (List Nat)) (pz : Addr) (z : List Nat), us = [mX x yes moves, .ref pz] ∧ MachJ w n yes moves ∧ n ≤ 1000 ∧ lstU h pz = some (intsN z) ∧ (∀ k ∈ z, k < w) ∧ z.length ≤ 1000 ∧
  ∀ g : List Nat, (∀ r, r ∈ g ↔ Reach yes moves z r) → ∀ p h', Sep h [(p, .lst (intsN g))] h' → q (.ref p) h'
def t__law_going_on : DS := dSeq (dAsg (dLc (iRng1 (dCons (dCB cLen (dCons (dOp oIx (dVar 0) (dC (.int 1))) (dNil))) (dNil))) (gNm 4) (dB (dOp oIx (dOp oIx (dVar 0) (dC (.int 1))) (dVar 4))) (dVar 4) [4]) (gNm 2))
    (dSeq (dFor (iAny (dOp oIx (dVar 0) (dC (.int 1)))) (gNm 3) (dSeq (dFor (iRng1 (dCons (dCB cLen (dCons (dOp oIx (dVar 0) (dC (.int 1))) (dNil))) (dNil))) (gNm 4) (dSeq (dIfS (dAnd (dB (dOp oNotIn (dVar 4) (dVar 2))) (dB (dCB cAny (dCons (dLc (iAny (dVar 1)) (gNm 5) dYes (dOp oIn (dOp oIx (dOp oIx (dOp oIx (dVar 0) (dC (.int 2))) (dVar 4)) (dVar 5)) (dVar 2)) [5]) (dNil))))) (dSeq (dDrop (dBM isLst mAppend (dVar 2) (dCons (dVar 4) (dNil))))
    (dNext)) (dNext))
    (dNext)))
    (dNext)))
    (dSeq (dRet (dVar 2))
    (dNext)))
theorem reach_lt {w n : Nat} {yes : List Bool} {moves : List (List Nat)} {z : List Nat} (M : MachJ w n yes moves) {r : Nat} (R : Reach yes moves z r) : r < n := by
  cases R with
  | yes e =>
    have := (List.getElem?_eq_some_iff.mp e).1
    have := M.ylen
    omega
  | step hr _ _ =>
    have := M.len
    omega
theorem p__law_going_on {us : List U} {h : HU} {q : DV} {y : DXK} {bk ct : SU → HU → Prop} (hs : sp__law_going_on us h q y) : t__law_going_on ⟨fun _ h' => WkV q .non h', WkV q, bk, ct⟩ (startN 6 us) h := by
  obtain ⟨x, w, n, yes, moves, pz, z, rfl, M, hn, hz, hzw, hzl, hq⟩ := hs
  show t__law_going_on _ [some (mX x yes moves), some (.ref pz), none, none, none, none] h
  unfold t__law_going_on
  have S := Sep.nil h
  have ml := M.len
  have yl := M.ylen
  repeat infer_instance
  rw [List.length_map, yl]
  refine k_rngN (by omega) ?_
  refine lc_fmA (List.range n) (fun k => U.int (k : Nat)) (rng_map _) (fun r => if yes[r]?.getD false then some (U.int (r : Nat)) else none) (szl (by rw [List.length_range]; omega)) True.intro (fun r hr C N hC hN => ?_) ?_
  · have hr' := List.mem_range.mp hr
    repeat infer_instance
    refine t_ix (atN (yes_at (by omega))) ?_
    repeat infer_instance
    refine ⟨fun e => ?_, fun e => ?_⟩
    · repeat infer_instance
      exact hC _ (if_pos e)
    · exact hN (by rw [e]; rfl)
  have efm : (List.range n).filterMap (fun r => if yes[r]?.getD false then some (U.int (r : Nat)) else none) = intsN ((List.range n).filter fun r => yes[r]?.getD false) := by
    generalize List.range n = l
    induction l with
    | nil => rfl
    | cons a l ih =>
      rw [List.filterMap_cons, List.filter_cons]
      by_cases q : yes[a]?.getD false = true
      · simp only [q, if_true, intsN, List.map_cons] at ih ⊢
        rw [ih]
      · simp only [q, Bool.false_eq_true, if_false] at ih ⊢
        exact ih
  rw [efm]
  refine k_new S fun pf h1 S => ?_
  repeat infer_instance
  -- what holds between the turns
  let Good := fun g : List Nat => g.Nodup ∧ (∀ r ∈ g, Reach yes moves z r) ∧ ∀ r : Nat, yes[r]? = some true → r ∈ g
  have good0 : Good ((List.range n).filter fun r => yes[r]?.getD false) := by
    refine ⟨List.nodup_range.sublist List.filter_sublist, fun r hr => ?_, fun r e => ?_⟩
    · obtain ⟨h1, h2⟩ := List.mem_filter.mp hr
      cases e : yes[r]? with
      | none => rw [e] at h2; cases h2
      | some b => rw [e] at h2; exact .yes (e.trans (congrArg some h2))
    · refine List.mem_filter.mpr ⟨List.mem_range.mpr ?_, by rw [e]; rfl⟩
      have := (List.getElem?_eq_some_iff.mp e).1
      omega
  have glen : ∀ g, Good g → g.length ≤ n := fun g hg => by
    have := nodup_sub hg.1 (m := List.range n) fun r hr => List.mem_range.mpr (reach_lt M (hg.2.1 r hr))
    rwa [List.length_range] at this
  refine f_invA yes U.bl rfl (fun t s h' => ∃ g : List Nat, s = [some (mX x yes moves), some (.ref pz), some (.ref pf), none, none, none] ∧ Good g ∧ ((∀ j, j < moves.length → ClosedAt moves z (· ∈ g) j) ∨ t ≤ g.length) ∧ Sep h [(pf, .lst (intsN g))] h') ⟨_, rfl, good0, .inr (Nat.zero_le _), S⟩ (fun _ _ _ _ => True.intro) ?_ ?_
  · rintro t v ev s h2 ⟨g, rfl, hg, hct, S⟩
    repeat infer_instance
    rw [List.length_map, yl]
    refine k_rngN (by omega) ?_
    refine f_invA (List.range n) (fun k => U.int (k : Nat)) (rng_map _) (fun i s h' => ∃ g2 : List Nat, s = [some (mX x yes moves), some (.ref pz), some (.ref pf), some (.bl v), none, none] ∧ Good g2 ∧ ((g2 = g ∧ ∀ j, j < i → ClosedAt moves z (· ∈ g) j) ∨ (g.length < g2.length ∧ ¬ ∀ j, j < moves.length → ClosedAt moves z (· ∈ g) j)) ∧ Sep h [(pf, .lst (intsN g2))] h') ⟨g, rfl, hg, .inl ⟨rfl, fun j hj => absurd hj (Nat.not_lt_zero _)⟩, S⟩ (fun _ _ _ _ => True.intro) ?_ ?_
    · rintro i i' ei s h3 ⟨g2, rfl, hg2, hc, S⟩
      have hi := (List.getElem?_eq_some_iff.mp ei).1
      rw [List.length_range] at hi
      rw [List.getElem?_range hi] at ei
      cases ei
      repeat infer_instance
      refine l_nin (S.lget 0 rfl) rfl (flat_nat _) ?_
      rw [inF_nat]
      repeat infer_instance
      refine if_n (fun hm => ?_) (fun hm => ?_)
      · repeat infer_instance
        refine k_anyL (lstU_mono S.fr hz) ?_
        refine lc_mapA z (fun n => U.int (n : Nat)) rfl (fun k => U.bl (decide (mvN moves i k ∈ g2))) (szl (by omega)) (lstU_mono S.fr hz) (fun k hk C N hC => ?_) ?_
        · obtain ⟨l, e1, e2, e3⟩ := M.mv hi (hzw k hk)
          repeat infer_instance
          refine if_t rfl ?_
          repeat infer_instance
          refine t_ix (x := tupN l) (atN (by rw [List.getElem?_map, e1]; rfl)) ?_
          repeat infer_instance
          refine t_ix (x := .int (mvN moves i k : Nat)) (atN (by rw [List.getElem?_map, e2]; rfl)) ?_
          repeat infer_instance
          refine l_in (S.lget 0 rfl) rfl (flat_nat _) ?_
          rw [inF_nat]
          exact hC
        have ec : z.map (fun k => U.bl (decide (mvN moves i k ∈ g2))) = (z.map fun k => decide (mvN moves i k ∈ g2)).map U.bl := by rw [List.map_map]; rfl
        rw [ec]
        refine k_new S fun pc h4 S => ?_
        repeat infer_instance
        refine l_anyB _ (S.lget 0 rfl) ?_
        repeat infer_instance
        have eany : (z.map fun k => decide (mvN moves i k ∈ g2)).any id = decide (∃ k ∈ z, mvN moves i k ∈ g2) := by
          rw [Bool.eq_iff_iff, List.any_map, List.any_eq_true, decide_eq_true_iff]
          simp
        rw [eany]
        refine if_d (fun hk => ?_) (fun hk => ?_)
        · obtain ⟨k, hkz, hkg⟩ := hk
          have R : Reach yes moves z i := .step (by omega) hkz (hg2.2.1 _ hkg)
          repeat infer_instance
          have gl := glen g2 hg2
          refine m_app S 1 rfl (szl (by rw [List.length_map]; omega)) fun h5 S => ?_
          repeat infer_instance
          refine wk ?_ ⟨g2 ++ [i], rfl, ⟨?_, ?_, ?_⟩, .inr ?_, ?_⟩
          · repeat infer_instance
          · rw [List.nodup_append]
            exact ⟨hg2.1, by simp, fun a ha b hb z => hm (by rw [List.mem_singleton.mp hb] at z; rw [← z]; exact ha)⟩
          · intro r hr
            rcases List.mem_append.mp hr with z | z
            · exact hg2.2.1 r z
            · rw [List.mem_singleton.mp z]
              exact R
          · exact fun r e => List.mem_append_left _ (hg2.2.2 r e)
          · rw [List.length_append, List.length_singleton]
            rcases hc with ⟨e1, e2⟩ | ⟨e1, e2⟩
            · subst e1
              refine ⟨by omega, fun hall => ?_⟩
              rcases hall i (by omega) with q | q
              · exact hm q
              · exact q k hkz hkg
            · exact ⟨by omega, e2⟩
          · unfold intsN
            rw [List.map_append]
            exact S.pick [1]
        · repeat infer_instance
          refine wk ?_ ⟨g2, rfl, hg2, ?_, S.pick [1]⟩
          · repeat infer_instance
          · rcases hc with ⟨e1, e2⟩ | e
            · refine .inl ⟨e1, fun j hj => ?_⟩
              by_cases q : j < i
              · exact e2 j q
              · have : j = i := by omega
                subst this
                exact .inr fun k hkz hkg => hk ⟨k, hkz, by rw [e1]; exact hkg⟩
            · exact .inr e
      · refine if_f rfl ?_
        repeat infer_instance
        refine wk ?_ ⟨g2, rfl, hg2, ?_, S⟩
        · repeat infer_instance
        · rcases hc with ⟨e1, e2⟩ | e
          · refine .inl ⟨e1, fun j hj => ?_⟩
            by_cases q : j < i
            · exact e2 j q
            · have : j = i := by omega
              subst this
              exact .inl (by rw [← e1]; exact hm)
          · exact .inr e
    · rintro s h3 ⟨g2, rfl, hg2, hc, S⟩
      rw [List.length_range] at hc
      repeat infer_instance
      refine wk ?_ ⟨g2, rfl, hg2, ?_, S⟩
      · repeat infer_instance
      · rcases hc with ⟨e1, e2⟩ | ⟨e1, e2⟩
        · subst e1
          exact .inl fun j hj => e2 j (by omega)
        · rcases hct with q | q
          · exact absurd q e2
          · exact .inr (by omega)
  · rintro s h2 ⟨g, rfl, hg, hct, S⟩
    repeat infer_instance
    have clo : ∀ j, j < moves.length → ClosedAt moves z (· ∈ g) j := by
      rcases hct with q | q
      · exact q
      · intro j hj
        refine .inl (Classical.byContradiction fun hno => ?_)
        have := nodup_sub (l := j :: g) (m := List.range n) (List.nodup_cons.mpr ⟨hno, hg.1⟩) fun r hr => by
          rcases List.mem_cons.mp hr with z | z
          · exact List.mem_range.mpr (by omega)
          · exact List.mem_range.mpr (reach_lt M (hg.2.1 r z))
        rw [List.length_range, List.length_cons] at this
        omega
    exact .of (hq g (fun r => ⟨fun hr => hg.2.1 r hr, fun R => reach_closed (F := (· ∈ g)) hg.2.2 clo R⟩) pf _ S)

end DL

set_option Elab.async false
set_option linter.all false
set_option maxRecDepth 100000
set_option maxHeartbeats 4000000
namespace K42
open PySem L2 NdefX LamX KG DL
local macro_rules | `(tactic| infer_instance) => `(tactic| with_reducible first | exact subS_nil | refine subS_same ?_ | refine subS_none ?_ | refine s_seq ?_ | refine s_asg ?_ | refine s_if ?_ | refine s_ret ?_ | refine s_retN ?_ | refine s_drop ?_ | refine s_for ?_ | refine s_next ?_ | refine s_break ?_ | refine s_cont ?_ | refine v_c ?_ | refine v_op ?_ | refine v_un ?_ | refine v_if ?_ | refine v_nil ?_ | refine v_cons ?_ | refine v_CB ?_ | refine v_BM0 ?_ | refine v_BM ?_ | refine v_call ?_ | refine v_B ?_ | refine k_bl ?_ | refine v_and ?_ | refine v_or ?_ | refine v_not ?_ | refine v_yes ?_ | refine v_andV ?_ | refine v_orV ?_ | refine k_and ?_ | refine k_or ?_ | refine v_rNot ?_ | refine w_any ?_ | refine k_anyT ?_ | refine k_anyS ?_ | refine w_rng1 ?_ | refine w_zip ?_ | refine v_lc ?_ | refine v_lst ?_ | refine v_rev ?_ | refine v_revS ?_ | refine v_noP ?_ | refine v_part ?_ | refine k_part ?_ | refine v_sl ?_ | refine t_sl ?_ | refine t_list ?_ | refine k_isT ?_ | refine g_sb ?_ | refine v_kv0 ?_ | refine v_kv ?_ | refine v_dis ?_ | refine v_disT ?_ | refine i_add ?_ | refine i_sub ?_ | refine i_neg ?_ | refine i_lt ?_ | refine i_le ?_ | refine i_gt ?_ | refine i_ge ?_ | refine i_eq ?_ | refine i_ne ?_ | refine s_eq ?_ | refine s_ne ?_ | refine b_eq ?_ | refine b_ne ?_ | refine n_is ?_ | refine n_not ?_ | refine t_len ?_ | refine t_tuple ?_ | refine i_abs ?_ | refine i_int ?_ | refine b_int ?_ | refine g_unp ?_ | refine g_nms0 ?_ | refine g_nmsS ?_ | refine g_nm0 ?_  | refine g_nm1 ?_  | refine g_nm2 ?_  | refine g_nm3 ?_  | refine g_nm4 ?_  | refine g_nm5 ?_  | refine g_nm6 ?_  | refine g_nm7 ?_  | refine g_nm8 ?_  | refine g_nm9 ?_  | refine g_nm10 ?_  | refine g_nm11 ?_  | refine g_nm12 ?_  | refine g_nm13 ?_  | refine g_nm14 ?_  | refine g_nm15 ?_  | refine g_nm16 ?_  | refine g_nm17 ?_  | refine g_nm18 ?_  | refine g_nm19 ?_  | refine g_nm20 ?_  | refine g_nm21 ?_  | refine g_nm22 ?_  | refine g_nm23 ?_  | refine g_nm24 ?_  | refine g_nm25 ?_  | refine g_nm26 ?_  | refine g_nm27 ?_  | refine g_nm28 ?_  | refine g_nm29 ?_  | refine g_nm30 ?_  | refine g_nm31 ?_)
local macro_rules | `(tactic| infer_instance) => `(tactic| first | ((with_reducible apply v_var); rfl) | ((with_reducible apply t_ix); rfl) | ((with_reducible apply l_len); (first | exact Sep.lget ‹_› 0 rfl | exact Sep.lget ‹_› 1 rfl | exact Sep.lget ‹_› 2 rfl | exact Sep.lget ‹_› 3 rfl | exact Sep.lget ‹_› 4 rfl | exact Sep.lget ‹_› 5 rfl | exact Sep.lget ‹_› 6 rfl | exact Sep.lget ‹_› 7 rfl))  | ((with_reducible apply l_tuple); (first | exact Sep.lget ‹_› 0 rfl | exact Sep.lget ‹_› 1 rfl | exact Sep.lget ‹_› 2 rfl | exact Sep.lget ‹_› 3 rfl | exact Sep.lget ‹_› 4 rfl | exact Sep.lget ‹_› 5 rfl | exact Sep.lget ‹_› 6 rfl | exact Sep.lget ‹_› 7 rfl))  | ((with_reducible apply k_anyL); (first | exact Sep.lget ‹_› 0 rfl | exact Sep.lget ‹_› 1 rfl | exact Sep.lget ‹_› 2 rfl | exact Sep.lget ‹_› 3 rfl | exact Sep.lget ‹_› 4 rfl | exact Sep.lget ‹_› 5 rfl | exact Sep.lget ‹_› 6 rfl | exact Sep.lget ‹_› 7 rfl)) | ((with_reducible apply k_isL); (first | exact Sep.lget ‹_› 0 rfl | exact Sep.lget ‹_› 1 rfl | exact Sep.lget ‹_› 2 rfl | exact Sep.lget ‹_› 3 rfl | exact Sep.lget ‹_› 4 rfl | exact Sep.lget ‹_› 5 rfl | exact Sep.lget ‹_› 6 rfl | exact Sep.lget ‹_› 7 rfl))  | ((with_reducible apply l_list); (first | exact Sep.lget ‹_› 0 rfl | exact Sep.lget ‹_› 1 rfl | exact Sep.lget ‹_› 2 rfl | exact Sep.lget ‹_› 3 rfl | exact Sep.lget ‹_› 4 rfl | exact Sep.lget ‹_› 5 rfl | exact Sep.lget ‹_› 6 rfl | exact Sep.lget ‹_› 7 rfl))  | ((with_reducible apply k_rev); (first | exact Sep.lget ‹_› 0 rfl | exact Sep.lget ‹_› 1 rfl | exact Sep.lget ‹_› 2 rfl | exact Sep.lget ‹_› 3 rfl | exact Sep.lget ‹_› 4 rfl | exact Sep.lget ‹_› 5 rfl | exact Sep.lget ‹_› 6 rfl | exact Sep.lget ‹_› 7 rfl))  | ((with_reducible apply l_sl); (first | exact Sep.lget ‹_› 0 rfl | exact Sep.lget ‹_› 1 rfl | exact Sep.lget ‹_› 2 rfl | exact Sep.lget ‹_› 3 rfl | exact Sep.lget ‹_› 4 rfl | exact Sep.lget ‹_› 5 rfl | exact Sep.lget ‹_› 6 rfl | exact Sep.lget ‹_› 7 rfl)) | (with_reducible refine v_tup ?_) | (with_reducible refine And.intro (szb rfl) ?_) | (dsimp only [wipeU, List.set]))
local macro_rules | `(tactic| infer_instance) => `(tactic| first | (with_reducible first | refine v_dict0 ?_ | refine v_tupF ?_ | refine v_slF ?_ | refine v_tix ?_ | refine k_tix ?_ | refine w_enu ?_ | refine w_rng2 ?_ | refine v_sortSetI ?_ | refine k_anyFT ?_ | refine ft_len ?_) | ((with_reducible apply l_tupleF); (first | exact Sep.lget ‹_› 0 rfl | exact Sep.lget ‹_› 1 rfl | exact Sep.lget ‹_› 2 rfl | exact Sep.lget ‹_› 3 rfl | exact Sep.lget ‹_› 4 rfl | exact Sep.lget ‹_› 5 rfl | exact Sep.lget ‹_› 6 rfl | exact Sep.lget ‹_› 7 rfl)) | ((with_reducible apply ft_ix); rfl))
/-! ### the law's sets -/
abbrev sp__law_due__law_onward := sp_told_sets_onward
def t__law_due__law_onward : DS := dSeq (dAsg (dLst (dNil)) (gNm 4))
    (dSeq (dFor (iAny (dVar 0)) (gNm 5) (dSeq (dDrop (dBM isLst mExtend (dVar 4) (dCons (dLc (iAny (dOp oIx (dVar 2) (dVar 1))) (gNm 6) dYes (dOp oIx (dOp oIx (dOp oIx (dVar 3) (dC (.int 2))) (dVar 5)) (dVar 6)) [6]) (dNil))))
    (dNext)))
    (dSeq (dRet (dCB cTuple (dCons (dSortSetI (dVar 4)) (dNil))))
    (dNext)))
theorem p__law_due__law_onward {cs : List (Option U)} {us : List U} {h : HU} {q : DV} {bk ct : SU → HU → Prop} (hs : sp__law_due__law_onward cs us h q) : t__law_due__law_onward ⟨fun _ h' => WkV q .non h', WkV q, bk, ct⟩ (startC 7 us cs) h := by
  obtain ⟨x, w, n, yes, moves, pw, W, room, k, rfl, rfl, M, hn, hW, hv, hk, hr, hrl, hq⟩ := hs
  show t__law_due__law_onward _ [some (tupN room), some (.int k), some (.ref pw), some (mX x yes moves), none, none, none] h
  unfold t__law_due__law_onward
  have S := Sep.nil h
  obtain ⟨usw, ew, lw, gw⟩ := hW.get
  obtain ⟨p, ep, lp⟩ := gw k W[k] (List.getElem?_eq_getElem hk)
  have ewk : W[k]?.getD [] = W[k] := by rw [List.getElem?_eq_getElem hk]; rfl
  obtain ⟨v10, vw⟩ := hv W[k] (List.getElem_mem hk)
  generalize W[k] = v at lp ewk v10 vw
  repeat infer_instance
  refine k_new S fun pm h1 S => ?_
  repeat infer_instance
  have fl : ∀ i, ((room.take i).flatMap fun a => v.map (mvN moves a)).length ≤ i * 10 := fun i => by
    rw [List.length_flatMap]
    simp only [List.length_map, List.map_const', List.sum_replicate_nat, List.length_take]
    exact Nat.mul_le_mul (Nat.min_le_left _ _) v10
  refine f_invA room (fun n => U.int (n : Nat)) rfl (fun i s h' => s = [some (tupN room), some (.int k), some (.ref pw), some (mX x yes moves), some (.ref pm), none, none] ∧ Sep h [(pm, .lst (intsN ((room.take i).flatMap fun a => v.map (mvN moves a))))] h') ⟨rfl, S⟩ (fun _ _ _ _ => True.intro) ?_ ?_
  · rintro i a ea s h2 ⟨rfl, S⟩
    have ha := hr a (List.mem_of_getElem? ea)
    have hi := (List.getElem?_eq_some_iff.mp ea).1
    repeat infer_instance
    refine l_ix (lstU_mono S.fr ew) (atN ep) ?_
    refine k_anyL (lstU_mono S.fr lp) ?_
    refine lc_mapA v (fun n => U.int (n : Nat)) rfl (fun j => U.int (mvN moves a j : Nat)) (szl (by omega)) (lstU_mono S.fr lp) (fun j hj C N hC => ?_) ?_
    · obtain ⟨l, e1, e2, e3⟩ := M.mv ha (vw j hj)
      repeat infer_instance
      refine if_t rfl ?_
      repeat infer_instance
      refine t_ix (x := tupN l) (atN (by rw [List.getElem?_map, e1]; rfl)) ?_
      repeat infer_instance
      exact t_ix (x := .int (mvN moves a j : Nat)) (atN (by rw [List.getElem?_map, e2]; rfl)) hC
    refine k_new S fun pc h3 S => ?_
    repeat infer_instance
    have f1 := fl i
    refine m_ext S 1 0 rfl rfl (sz (by rw [List.length_map, List.length_map]; omega)) fun h4 S => ?_
    repeat infer_instance
    refine wk ?_ ⟨rfl, ?_⟩
    · repeat infer_instance
    · have e : intsN ((room.take (i + 1)).flatMap fun a => v.map (mvN moves a)) = intsN ((room.take i).flatMap fun a => v.map (mvN moves a)) ++ v.map fun j => U.int (mvN moves a j : Nat) := by
        rw [List.take_add_one, ea, List.flatMap_append]
        unfold intsN
        rw [List.map_append]
        simp
      rw [e]
      exact S.pick [1]
  · rintro s h2 ⟨rfl, S⟩
    rw [List.take_length] at S
    have f1 := fl room.length
    rw [List.take_length] at f1
    repeat infer_instance
    have eI : ∀ l : List Nat, intsN l = (l.map fun n : Nat => (n : Int)).map U.int := fun l => by rw [List.map_map]; rfl
    have memv : ∀ r, r ∈ (room.flatMap fun a => v.map (mvN moves a)) ↔ r ∈ setF n moves W room k := fun r => by
      unfold setF
      rw [List.mem_filter, ewk, meets_iff, List.mem_flatMap, List.mem_range]
      constructor
      · rintro ⟨a, h1, h2⟩
        obtain ⟨j, h3, rfl⟩ := List.mem_map.mp h2
        obtain ⟨_, _, _, e3⟩ := M.mv (hr a h1) (vw j h3)
        exact ⟨e3, a, h1, j, h3, rfl⟩
      · rintro ⟨_, a, h1, j, h3, e⟩
        exact ⟨a, h1, List.mem_map.mpr ⟨j, h3, e⟩⟩
    refine k_ssi ((room.flatMap fun a => v.map (mvN moves a)).map fun n : Nat => (n : Int)) ((List.range n).map fun n : Nat => (n : Int)) (by rw [← eI]; exact S.lget 0 rfl) (by rw [List.length_map]; omega) (by rw [List.length_map, List.length_range]; exact hn) (fun r hr => ?_) fun ys nd mem so => ?_
    · obtain ⟨a, ha, rfl⟩ := List.mem_map.mp hr
      exact List.mem_map.mpr ⟨a, List.mem_range.mpr (setF_lt ((memv a).mp ha)), rfl⟩
    refine k_new S fun py h3 S => ?_
    repeat infer_instance
    have e : ys.map U.int = intsN (setF n moves W room k) := ints_sorted nd so setF_sorted fun r => by
      rw [mem, List.mem_map]
      exact ⟨fun ⟨a, h1, h2⟩ => ⟨a, (memv a).mp h1, h2⟩, fun ⟨a, h1, h2⟩ => ⟨a, (memv a).mpr h1, h2⟩⟩
    rw [e]
    exact .of (hq _ S.none)
/-- a family of sets that holds all that come up -/
structure Fam (b : Nat) (ws : List Str) (at_ n : Nat) (moves : List (List Nat)) (S : List (List Nat)) : Prop where
  first : [0] ∈ S
  cl : ∀ r ∈ S, ∀ k, k < (wholesN b ws at_).length → hidF b ws at_ n moves r k ∈ S
  len : S.length ≤ 2000
theorem Fam.some {b : Nat} {ws : List Str} {at_ n : Nat} {moves S : List (List Nat)} (A : Fam b ws at_ n moves S) {most : Int} (hm : 2000 ≤ most) {res : Res (List Nat)} (g : GrowR (hidF b ws at_ n moves) (wholesN b ws at_).length most [[0]] [] res) : ∃ came mv, res = .some (came, mv) :=
  g.some_of A.cl (by have := A.len; omega) GI.start fun r hr => by rw [List.mem_singleton.mp hr]; exact A.first
/-- what comes up -/
theorem hid_came {b : Nat} {ws : List Str} {name : Str} {at_ n : Nat} {yes : List Bool} {moves : List (List Nat)} (H : HidM b ws name at_ n yes moves) {most : Int} {came : List (List Nat)} {mv : List (List Nat)} (g : GrowR (hidF b ws at_ n moves) (wholesN b ws at_).length most [[0]] [] (.some (came, mv))) :
    GI (hidF b ws at_ n moves) (wholesN b ws at_).length came mv ∧ mv.length = came.length ∧ (∀ r ∈ came, (∀ a ∈ r, a < n) ∧ r.length ≤ n) ∧ 1 ≤ came.length ∧ (came.length : Int) ≤ most := by
  have n1 := H.M.n1
  obtain ⟨a, b, c, ⟨more, e⟩, d⟩ := g.closed (S := fun r => (∀ a ∈ r, a < n) ∧ r.length ≤ n) (fun r _ k _ => ⟨fun a ha => setF_lt ha, setF_len⟩) GI.start (fun r hr => by rw [List.mem_singleton.mp hr]; exact ⟨fun a ha => by rw [List.mem_singleton.mp ha]; omega, n1⟩) came mv rfl
  exact ⟨a, b, c, by rw [e]; simp, d (by simp)⟩
def sp__law_due : DP := fun us h q _ => ∃ (b : Nat) (ws : List Str) (name : Str) (at_ n : Nat) (yes : List Bool) (moves : List (List Nat)), us = [.int b, mX (.ft (ws.map U.str)) yes moves, .str name] ∧ HidM b ws name at_ n yes moves ∧ (∃ S, Fam b ws at_ n moves S) ∧
  ∀ came mv, GrowR (hidF b ws at_ n moves) (wholesN b ws at_).length 2000 [[0]] [] (some (came, mv)) → ∀ r h', Sep h [(r, .lst (came.map tupN))] h' → q (.tup [.ref r, machU (othN ws name) (came.map (hidY b ws at_ yes moves)) mv]) h'
def t__law_due (mk__law_onward : Addr → NF) (C : SU → NF → DFp → Prop) : DS := dSeq (dAsg (dCall sp__law_wholes [] x0 (dCons (dVar 0) (dCons (dOp oIx (dVar 1) (dC (.int 0))) (dCons (dVar 2) (dNil))))) (gNm 3))
    (dSeq (dAsg (dCall sp__law_going_on [] x0 (dCons (dVar 1) (dCons (dOp oIx (dVar 3) (dC (.int 0))) (dNil)))) (gNm 4))
    (dSeq (dNdef 5 mk__law_onward)
    (dSeq (dAsg (dCallC C sp__law_grown [] (dCons (dTup (dCons (dC (.int 0)) (dNil))) (dCons (dCB cLen (dCons (dVar 3) (dNil))) (dCons (dVar 5) (dCons (dC (.int 2000)) (dNil)))))) (gUnp [6, 7]))
    (dSeq (dAsg (dLc (iAny (dVar 6)) (gNm 9) dYes (dCB cAny (dCons (dLc (iAny (dVar 9)) (gNm 10) dYes (dOp oIn (dVar 10) (dVar 4)) [10]) (dNil))) [9]) (gNm 8))
    (dSeq (dRet (dTup (dCons (dVar 6) (dCons (dTup (dCons (dCB cTuple (dCons (dLc (iAny (dOp oIx (dVar 1) (dC (.int 0)))) (gNm 10) (dB (dOp oNe (dVar 10) (dVar 2))) (dVar 10) [10]) (dNil))) (dCons (dCB cTuple (dCons (dVar 8) (dNil))) (dCons (dVar 7) (dNil))))) (dNil)))))
    (dNext))))))
theorem p__law_due {mk : Addr → NF} {C : SU → NF → DFp → Prop} (hown : ∀ s c, C s (mk c) (sp_told_sets_onward (slotsU s [3, 1]))) {us : List U} {h : HU} {q : DV} {y : DXK} {bk ct : SU → HU → Prop} (hs : sp__law_due us h q y) :
    t__law_due mk C ⟨fun _ h' => WkV q .non h', WkV q, bk, ct⟩ (startN 11 us) h := by
  obtain ⟨b, ws, name, at_, n, yes, moves, rfl, H, ⟨SF, hF⟩, hq⟩ := hs
  show t__law_due _ _ _ [some (.int b), some (mX (.ft (ws.map U.str)) yes moves), some (.str name), none, none, none, none, none, none, none, none] h
  unfold t__law_due
  have S := Sep.nil h
  have n1 := H.M.n1
  have n64 := H.n64
  have l60 := H.N.l
  obtain ⟨wl1, wl2⟩ := wholesN_len H.N
  repeat infer_instance
  refine ⟨b, ws, name, at_, rfl, H.N, fun pw h1 S1 hW => ?_⟩
  have S := S.more S1
  repeat infer_instance
  obtain ⟨usw, ew, lw, gw⟩ := hW.get
  obtain ⟨p0, ep, lp⟩ := gw 0 _ (hidZ_at H.N)
  obtain ⟨z10, zw⟩ := wholesN_ok H.N H.b10 _ (List.mem_of_getElem? (hidZ_at H.N))
  refine l_ix ew (atN (n := 0) ep) ?_
  repeat infer_instance
  refine ⟨_, _, n, yes, moves, p0, hidZ b ws at_, rfl, H.M, by omega, lp, zw, by omega, fun g hg po h2 S2 => ?_⟩
  repeat infer_instance
  refine s_ndef fun c1 => ?_
  repeat infer_instance
  refine v_callC ?_
  repeat infer_instance
  refine l_len (lstU_mono S2.fr ew) ?_
  rw [lw]
  have A := growA_hid (x := .ft (ws.map U.str)) H (hW.mono S2.fr)
  have S12 : Sep h [(po, .lst (intsN g))] h2 := (S1.more S2).pick [0]
  repeat infer_instance
  refine ⟨List Nat, inferInstance, tupN, keyN, fun r => (∀ a ∈ r, a < n) ∧ r.length ≤ n, _, _, [0], mk c1, _, 2000, rfl, hown _ c1, A, ⟨fun a ha => by rw [List.mem_singleton.mp ha]; omega, n1⟩, by omega, by decide, fun gr h3 S3 => ?_, fun came mv gr pc h3 S3 => ?_⟩
  · obtain ⟨_, _, e⟩ := hF.some (by decide) gr
    cases e
  · obtain ⟨gi, ml, cin, c1', cle⟩ := hid_came H gr
    have S := S12.more S3
    have glt : g.length ≤ g.length := Nat.le_refl _
    repeat infer_instance
    refine lc_inv came tupN rfl (fun i acc h' => acc = ((came.take i).map (hidY b ws at_ yes moves)).map U.bl ∧ Sep h [(pc, .lst (came.map tupN)), (po, .lst (intsN g))] h') (szl (by omega)) ⟨rfl, S⟩ (fun _ _ _ z => z.2.lget 0 rfl) ?_ ?_
    · rintro i room er acc h4 ⟨rfl, S⟩
      obtain ⟨hr1, hr2⟩ := cin room (List.mem_of_getElem? er)
      repeat infer_instance
      refine if_t rfl ?_
      repeat infer_instance
      refine lc_mapA room (fun n => U.int (n : Nat)) rfl (fun a => U.bl (decide (a ∈ g))) (szl (by omega)) True.intro (fun a ha C N hC => ?_) ?_
      · repeat infer_instance
        refine if_t rfl ?_
        repeat infer_instance
        refine l_in (S.lget 1 rfl) rfl (flat_nat _) ?_
        rw [inF_nat]
        exact hC
      have ec : room.map (fun a => U.bl (decide (a ∈ g))) = (room.map fun a => decide (a ∈ g)).map U.bl := by rw [List.map_map]; rfl
      rw [ec]
      refine k_new S fun pl h5 S => ?_
      repeat infer_instance
      refine l_anyB _ (S.lget 0 rfl) ?_
      have ea : (room.map fun a => decide (a ∈ g)).any id = hidY b ws at_ yes moves room := by
        rw [List.any_map]
        show room.any (fun a => decide (a ∈ g)) = room.any (rch yes moves (hidZ b ws at_))
        refine congrArg room.any (funext fun a => ?_)
        exact rch_eq (by rw [decide_eq_true_iff]; exact hg a)
      rw [ea]
      refine WkH.of ⟨?_, S.pick [1, 2]⟩
      rw [List.take_add_one, er, List.map_append, List.map_append]
      rfl
    rintro acc h4 ⟨rfl, S⟩
    rw [List.take_length]
    refine k_new S fun py h5 S => ?_
    repeat infer_instance
    refine lc_fmA ws U.str rfl (fun x => if x = name then none else some (U.str x)) (szl (by omega)) True.intro (fun x hx C N hC hN => ?_) ?_
    · repeat infer_instance
      refine if_n (fun hm => ?_) (fun hm => ?_)
      · repeat infer_instance
        exact hC _ (if_neg hm)
      · exact hN (if_pos hm)
    rw [filt_ne]
    refine k_new S fun pn h6 S => ?_
    repeat infer_instance
    exact .of (hq came mv gr pc h6 (S.pick [2]))

end K42

set_option Elab.async false
set_option linter.all false
set_option maxRecDepth 100000
set_option maxHeartbeats 4000000
namespace K42
open PySem L2 NdefX LamX KG DL
local macro_rules | `(tactic| infer_instance) => `(tactic| with_reducible first | exact subS_nil | refine subS_same ?_ | refine subS_none ?_ | refine s_seq ?_ | refine s_asg ?_ | refine s_if ?_ | refine s_ret ?_ | refine s_retN ?_ | refine s_drop ?_ | refine s_for ?_ | refine s_next ?_ | refine s_break ?_ | refine s_cont ?_ | refine v_c ?_ | refine v_op ?_ | refine v_un ?_ | refine v_if ?_ | refine v_nil ?_ | refine v_cons ?_ | refine v_CB ?_ | refine v_BM0 ?_ | refine v_BM ?_ | refine v_call ?_ | refine v_B ?_ | refine k_bl ?_ | refine v_and ?_ | refine v_or ?_ | refine v_not ?_ | refine v_yes ?_ | refine v_andV ?_ | refine v_orV ?_ | refine k_and ?_ | refine k_or ?_ | refine v_rNot ?_ | refine w_any ?_ | refine k_anyT ?_ | refine k_anyS ?_ | refine w_rng1 ?_ | refine w_zip ?_ | refine v_lc ?_ | refine v_lst ?_ | refine v_rev ?_ | refine v_revS ?_ | refine v_noP ?_ | refine v_part ?_ | refine k_part ?_ | refine v_sl ?_ | refine t_sl ?_ | refine t_list ?_ | refine k_isT ?_ | refine g_sb ?_ | refine v_kv0 ?_ | refine v_kv ?_ | refine v_dis ?_ | refine v_disT ?_ | refine i_add ?_ | refine i_sub ?_ | refine i_neg ?_ | refine i_lt ?_ | refine i_le ?_ | refine i_gt ?_ | refine i_ge ?_ | refine i_eq ?_ | refine i_ne ?_ | refine s_eq ?_ | refine s_ne ?_ | refine b_eq ?_ | refine b_ne ?_ | refine n_is ?_ | refine n_not ?_ | refine t_len ?_ | refine t_tuple ?_ | refine i_abs ?_ | refine i_int ?_ | refine b_int ?_ | refine g_unp ?_ | refine g_nms0 ?_ | refine g_nmsS ?_ | refine g_nm0 ?_  | refine g_nm1 ?_  | refine g_nm2 ?_  | refine g_nm3 ?_  | refine g_nm4 ?_  | refine g_nm5 ?_  | refine g_nm6 ?_  | refine g_nm7 ?_  | refine g_nm8 ?_  | refine g_nm9 ?_  | refine g_nm10 ?_  | refine g_nm11 ?_  | refine g_nm12 ?_  | refine g_nm13 ?_  | refine g_nm14 ?_  | refine g_nm15 ?_  | refine g_nm16 ?_  | refine g_nm17 ?_  | refine g_nm18 ?_  | refine g_nm19 ?_  | refine g_nm20 ?_  | refine g_nm21 ?_  | refine g_nm22 ?_  | refine g_nm23 ?_  | refine g_nm24 ?_  | refine g_nm25 ?_  | refine g_nm26 ?_  | refine g_nm27 ?_  | refine g_nm28 ?_  | refine g_nm29 ?_  | refine g_nm30 ?_  | refine g_nm31 ?_)
local macro_rules | `(tactic| infer_instance) => `(tactic| first | ((with_reducible apply v_var); rfl) | ((with_reducible apply t_ix); rfl) | ((with_reducible apply l_len); (first | exact Sep.lget ‹_› 0 rfl | exact Sep.lget ‹_› 1 rfl | exact Sep.lget ‹_› 2 rfl | exact Sep.lget ‹_› 3 rfl | exact Sep.lget ‹_› 4 rfl | exact Sep.lget ‹_› 5 rfl | exact Sep.lget ‹_› 6 rfl | exact Sep.lget ‹_› 7 rfl))  | ((with_reducible apply l_tuple); (first | exact Sep.lget ‹_› 0 rfl | exact Sep.lget ‹_› 1 rfl | exact Sep.lget ‹_› 2 rfl | exact Sep.lget ‹_› 3 rfl | exact Sep.lget ‹_› 4 rfl | exact Sep.lget ‹_› 5 rfl | exact Sep.lget ‹_› 6 rfl | exact Sep.lget ‹_› 7 rfl))  | ((with_reducible apply k_anyL); (first | exact Sep.lget ‹_› 0 rfl | exact Sep.lget ‹_› 1 rfl | exact Sep.lget ‹_› 2 rfl | exact Sep.lget ‹_› 3 rfl | exact Sep.lget ‹_› 4 rfl | exact Sep.lget ‹_› 5 rfl | exact Sep.lget ‹_› 6 rfl | exact Sep.lget ‹_› 7 rfl)) | ((with_reducible apply k_isL); (first | exact Sep.lget ‹_› 0 rfl | exact Sep.lget ‹_› 1 rfl | exact Sep.lget ‹_› 2 rfl | exact Sep.lget ‹_› 3 rfl | exact Sep.lget ‹_› 4 rfl | exact Sep.lget ‹_› 5 rfl | exact Sep.lget ‹_› 6 rfl | exact Sep.lget ‹_› 7 rfl))  | ((with_reducible apply l_list); (first | exact Sep.lget ‹_› 0 rfl | exact Sep.lget ‹_› 1 rfl | exact Sep.lget ‹_› 2 rfl | exact Sep.lget ‹_› 3 rfl | exact Sep.lget ‹_› 4 rfl | exact Sep.lget ‹_› 5 rfl | exact Sep.lget ‹_› 6 rfl | exact Sep.lget ‹_› 7 rfl))  | ((with_reducible apply k_rev); (first | exact Sep.lget ‹_› 0 rfl | exact Sep.lget ‹_› 1 rfl | exact Sep.lget ‹_› 2 rfl | exact Sep.lget ‹_› 3 rfl | exact Sep.lget ‹_› 4 rfl | exact Sep.lget ‹_› 5 rfl | exact Sep.lget ‹_› 6 rfl | exact Sep.lget ‹_› 7 rfl))  | ((with_reducible apply l_sl); (first | exact Sep.lget ‹_› 0 rfl | exact Sep.lget ‹_› 1 rfl | exact Sep.lget ‹_› 2 rfl | exact Sep.lget ‹_› 3 rfl | exact Sep.lget ‹_› 4 rfl | exact Sep.lget ‹_› 5 rfl | exact Sep.lget ‹_› 6 rfl | exact Sep.lget ‹_› 7 rfl)) | (with_reducible refine v_tup ?_) | (with_reducible refine And.intro (szb rfl) ?_) | (dsimp only [wipeU, List.set]))
local macro_rules | `(tactic| infer_instance) => `(tactic| first | (with_reducible first | refine v_dict0 ?_ | refine v_tupF ?_ | refine v_slF ?_ | refine v_tix ?_ | refine k_tix ?_ | refine w_enu ?_ | refine w_rng2 ?_ | refine v_sortSetI ?_ | refine k_anyFT ?_ | refine ft_len ?_) | ((with_reducible apply l_tupleF); (first | exact Sep.lget ‹_› 0 rfl | exact Sep.lget ‹_› 1 rfl | exact Sep.lget ‹_› 2 rfl | exact Sep.lget ‹_› 3 rfl | exact Sep.lget ‹_› 4 rfl | exact Sep.lget ‹_› 5 rfl | exact Sep.lget ‹_› 6 rfl | exact Sep.lget ‹_› 7 rfl)) | ((with_reducible apply ft_ix); rfl))
/-! ### families of sets -/
def subs : List Nat → List (List Nat)
  | [] => [[]]
  | a :: l => subs l ++ (subs l).map (a :: ·)
theorem subs_len : ∀ l, (subs l).length = 2 ^ l.length
  | [] => rfl
  | a :: l => by
    unfold subs
    rw [List.length_append, List.length_map, subs_len l, List.length_cons, Nat.pow_succ]
    omega
theorem filter_subs (p : Nat → Bool) : ∀ l, l.filter p ∈ subs l
  | [] => by simp [subs]
  | a :: l => by
    have ih := filter_subs p l
    unfold subs
    rw [List.filter_cons]
    split
    · exact List.mem_append_right _ (List.mem_map.mpr ⟨_, ih, rfl⟩)
    · exact List.mem_append_left _ ih
theorem filter_zero {n : Nat} {p : Nat → Bool} (h0 : p 0 = true) (h : ∀ r, 1 ≤ r → r ≤ n → p r = false) : (List.range (n + 1)).filter p = [0] := by
  rw [List.range_succ_eq_map, List.filter_cons, if_pos h0]
  refine congrArg _ (List.filter_eq_nil_iff.mpr fun a ha => ?_)
  obtain ⟨b, hb, rfl⟩ := List.mem_map.mp ha
  have := List.mem_range.mp hb
  rw [h (b + 1) (by omega) (by omega)]
  decide
theorem fam_small {b : Nat} {ws : List Str} {at_ n : Nat} {moves : List (List Nat)} (n1 : 1 ≤ n) (n6 : n ≤ 6) : Fam b ws at_ n moves (subs (List.range n)) := by
  refine ⟨?_, fun r _ k _ => filter_subs _ _, ?_⟩
  · obtain ⟨m, rfl⟩ : ∃ m, n = m + 1 := ⟨n - 1, by omega⟩
    rw [← filter_zero (n := m) (p := fun r => decide (r = 0)) (by decide) (fun r h1 _ => decide_eq_false (by omega))]
    exact filter_subs _ _
  · rw [subs_len, List.length_range]
    have : 2 ^ n ≤ 2 ^ 6 := Nat.pow_le_pow_right (by decide) n6
    have e : (2 : Nat) ^ 6 = 64 := by decide
    omega
theorem setF_eq {n : Nat} {moves W : List (List Nat)} {room : List Nat} {k : Nat} {p : Nat → Bool} (h : ∀ r, r < n → (meets moves (W[k]?.getD []) room r = true ↔ p r = true)) : setF n moves W room k = (List.range n).filter p := by
  unfold setF
  refine List.filter_congr fun r hr => ?_
  rw [Bool.eq_iff_iff]
  exact h r (List.mem_range.mp hr)
/-! ### a wide one: every set that holds room 0 -/
def wideM (m : Nat) : List (List Nat) := [0, 0, 0, 1] :: ((List.range (m - 1)).map fun i => List.replicate 4 (i + 2)) ++ [List.replicate 4 0]
abbrev abN : List Str := ["a", "b"]
theorem wide_W : wholesN 2 abN 0 = [[0, 2], [1, 3]] := by decide +kernel
theorem wide_len {m : Nat} (h : 1 ≤ m) : (wideM m).length = m + 1 := by
  unfold wideM
  simp only [List.length_append, List.length_cons, List.length_map, List.length_range, List.length_nil]
  omega
theorem wide_at {m a : Nat} (h1 : 1 ≤ a) (h2 : a < m) : (wideM m)[a]? = some (List.replicate 4 (a + 1)) := by
  obtain ⟨c, rfl⟩ : ∃ c, a = c + 1 := ⟨a - 1, by omega⟩
  unfold wideM
  rw [List.getElem?_append_left (by simp only [List.length_cons, List.length_map, List.length_range]; omega), List.getElem?_cons_succ, List.getElem?_map, List.getElem?_range (by omega)]
  rfl
theorem wide_end {m : Nat} (h : 1 ≤ m) : (wideM m)[m]? = some (List.replicate 4 0) := by
  have hl : ([0, 0, 0, 1] :: ((List.range (m - 1)).map fun i => List.replicate 4 (i + 2))).length = m := by
    simp only [List.length_cons, List.length_map, List.length_range]
    omega
  unfold wideM
  rw [List.getElem?_append_right (by omega), hl, Nat.sub_self]
  rfl
theorem rep4 {x j : Nat} (h : j < 4) : (List.replicate 4 x)[j]? = some x := by
  rw [List.getElem?_replicate, if_pos h]
theorem wide_mv {m a j : Nat} (h1 : 1 ≤ a) (h2 : a ≤ m) (hj : j < 4) : mvN (wideM m) a j = if a < m then a + 1 else 0 := by
  by_cases q : a < m
  · rw [if_pos q]
    exact mvN_of (wide_at h1 q) (rep4 hj)
  · rw [if_neg q]
    have : a = m := by omega
    subst this
    exact mvN_of (wide_end h1) (rep4 hj)
def bitX (m v : Nat) : List Nat := (List.range (m + 1)).filter fun r => decide (r = 0) || v.testBit (r - 1)
theorem bitX_mem {m v r : Nat} : r ∈ bitX m v ↔ r ≤ m ∧ (r = 0 ∨ v.testBit (r - 1) = true) := by
  unfold bitX
  rw [List.mem_filter, List.mem_range, Bool.or_eq_true, decide_eq_true_iff]
  exact ⟨fun ⟨a, b⟩ => ⟨by omega, b⟩, fun ⟨a, b⟩ => ⟨by omega, b⟩⟩
theorem bitX_inj {m v w : Nat} (hv : v < 2 ^ m) (hw : w < 2 ^ m) (e : bitX m v = bitX m w) : v = w := by
  refine Nat.eq_of_testBit_eq fun i => ?_
  by_cases q : i < m
  · have a := bitX_mem (m := m) (v := v) (r := i + 1)
    have b := bitX_mem (m := m) (v := w) (r := i + 1)
    rw [e, b] at a
    rw [Bool.eq_iff_iff]
    simp only [Nat.add_sub_cancel] at a
    constructor
    · intro z
      rcases (a.mpr ⟨by omega, .inr z⟩).2 with y | y
      · omega
      · exact y
    · intro z
      rcases (a.mp ⟨by omega, .inr z⟩).2 with y | y
      · omega
      · exact y
  · have le : 2 ^ m ≤ 2 ^ i := Nat.pow_le_pow_right (by decide) (by omega)
    rw [Nat.testBit_lt_two_pow (by omega), Nat.testBit_lt_two_pow (by omega)]
theorem bit_step {m v k : Nat} (hk : k < 2) {r : Nat} (h1 : 1 ≤ r) (h2 : r ≤ m) : ((2 * v + k) % 2 ^ m).testBit (r - 1) = true ↔ (r = 1 ∧ k = 1) ∨ (2 ≤ r ∧ v.testBit (r - 2) = true) := by
  rw [Nat.testBit_mod_two_pow]
  have : decide (r - 1 < m) = true := decide_eq_true (by omega)
  rw [this, Bool.true_and]
  by_cases q : r = 1
  · subst q
    rw [Nat.sub_self, Nat.testBit_zero, decide_eq_true_iff]
    constructor
    · intro z
      exact .inl ⟨rfl, by omega⟩
    · rintro (⟨_, z⟩ | ⟨z, _⟩) <;> omega
  · obtain ⟨c, rfl⟩ : ∃ c, r = c + 2 := ⟨r - 2, by omega⟩
    have e : (2 * v + k) / 2 = v := by omega
    rw [show c + 2 - 1 = c + 1 by omega, Nat.testBit_succ, e]
    show v.testBit c = true ↔ _ ∨ (_ ∧ v.testBit c = true)
    constructor
    · intro z
      exact .inr ⟨by omega, z⟩
    · rintro (⟨z, _⟩ | ⟨_, z⟩)
      · omega
      · exact z
theorem wide_f {m v k : Nat} (hm : 1 ≤ m) (hk : k < 2) : hidF 2 abN 0 (m + 1) (wideM m) (bitX m v) k = bitX m ((2 * v + k) % 2 ^ m) := by
  show setF _ _ (wholesN 2 abN 0) _ _ = _
  refine setF_eq fun r hr => ?_
  rw [wide_W, meets_iff, Bool.or_eq_true, decide_eq_true_iff]
  have m0 : ∀ j, j < 4 → mvN (wideM m) 0 j = if j = 3 then 1 else 0 := by
    intro j hj
    have e0 : (wideM m)[0]? = some [0, 0, 0, 1] := rfl
    match j, hj with
    | 0, _ => exact mvN_of e0 rfl
    | 1, _ => exact mvN_of e0 rfl
    | 2, _ => exact mvN_of e0 rfl
    | 3, _ => exact mvN_of e0 rfl
  have wj : ∀ j, j ∈ ([[0, 2], [1, 3]] : List (List Nat))[k]?.getD [] ↔ j < 4 ∧ j % 2 = k := by
    intro j
    match k, hk with
    | 0, _ =>
      show j ∈ [0, 2] ↔ _
      simp only [List.mem_cons, List.not_mem_nil, or_false]
      omega
    | 1, _ =>
      show j ∈ [1, 3] ↔ _
      simp only [List.mem_cons, List.not_mem_nil, or_false]
      omega
  have z0 : 0 ∈ bitX m v := bitX_mem.mpr ⟨Nat.zero_le _, .inl rfl⟩
  by_cases q : r = 0
  · subst q
    refine ⟨fun _ => .inl rfl, fun _ => ⟨0, z0, k, (wj k).mpr ⟨by omega, by omega⟩, ?_⟩⟩
    rw [m0 k (by omega), if_neg (by omega)]
  · rw [bit_step hk (by omega) (by omega)]
    constructor
    · rintro ⟨a, ha, j, hj, e⟩
      obtain ⟨a1, a2⟩ := bitX_mem.mp ha
      obtain ⟨j1, j2⟩ := (wj j).mp hj
      by_cases qa : a = 0
      · subst qa
        rw [m0 j j1] at e
        by_cases q3 : j = 3
        · rw [if_pos q3] at e
          exact .inr (.inl ⟨by omega, by omega⟩)
        · rw [if_neg q3] at e
          omega
      · rw [wide_mv (by omega) a1 j1] at e
        by_cases qm : a < m
        · rw [if_pos qm] at e
          rcases a2 with a2 | a2
          · omega
          · exact .inr (.inr ⟨by omega, by rw [show r - 2 = a - 1 by omega]; exact a2⟩)
        · rw [if_neg qm] at e
          omega
    · rintro (z | ⟨r1, k1⟩ | ⟨r2, t⟩)
      · omega
      · subst r1
        subst k1
        exact ⟨0, z0, 3, (wj 3).mpr ⟨by decide, by decide⟩, by rw [m0 3 (by decide), if_pos rfl]⟩
      · refine ⟨r - 1, bitX_mem.mpr ⟨by omega, .inr (by rw [show r - 1 - 1 = r - 2 by omega]; exact t)⟩, k, (wj k).mpr ⟨by omega, by omega⟩, ?_⟩
        rw [wide_mv (by omega) (by omega) (by omega), if_pos (by omega)]
        omega
theorem bit_zero {m : Nat} : bitX m 0 = [0] := filter_zero (by simp) fun r h1 _ => by
  rw [Nat.zero_testBit, Bool.or_false]
  exact decide_eq_false (by omega)
theorem wide_grow {m : Nat} (hm : 1 ≤ m) {most : Int} (h1 : 1 ≤ most) {res : Res (List Nat)} (g : GrowR (hidF 2 abN 0 (m + 1) (wideM m)) (wholesN 2 abN 0).length most [[0]] [] res) :
    (most < ((2 ^ m : Nat) : Int) → res = none) ∧ (((2 ^ m : Nat) : Int) ≤ most → ∃ came mv, res = some (came, mv) ∧ came.length = 2 ^ m) := by
  have ew : (wholesN 2 abN 0).length = 2 := by rw [wide_W]; rfl
  have mlt : ∀ v, v % 2 ^ m < 2 ^ m := fun v => Nat.mod_lt _ (Nat.two_pow_pos m)
  have cl : ∀ r ∈ (List.range (2 ^ m)).map (bitX m), ∀ k, k < (wholesN 2 abN 0).length → hidF 2 abN 0 (m + 1) (wideM m) r k ∈ (List.range (2 ^ m)).map (bitX m) := fun r hr k hk => by
    obtain ⟨v, _, rfl⟩ := List.mem_map.mp hr
    rw [wide_f hm (by omega)]
    exact List.mem_map.mpr ⟨_, List.mem_range.mpr (mlt _), rfl⟩
  have first : ∀ r ∈ [[0]], r ∈ (List.range (2 ^ m)).map (bitX m) := fun r hr => by
    rw [List.mem_singleton.mp hr]
    exact List.mem_map.mpr ⟨0, List.mem_range.mpr (Nat.two_pow_pos m), bit_zero⟩
  have nd : ((List.range (2 ^ m)).map (bitX m)).Nodup := by
    rw [List.Nodup, List.pairwise_map]
    refine List.Pairwise.imp_of_mem (fun {a b} ha hb hab e => hab (bitX_inj (List.mem_range.mp ha) (List.mem_range.mp hb) e)) (List.nodup_range (n := 2 ^ m))
  have fl : ((List.range (2 ^ m)).map (bitX m)).length = 2 ^ m := by rw [List.length_map, List.length_range]
  have both : ∀ came mv, res = some (came, mv) → came.length = 2 ^ m ∧ (came.length : Int) ≤ most := fun came mv e => by
    obtain ⟨gi, ml, cin, ⟨more, em⟩, cm⟩ := g.closed (S := fun r => r ∈ (List.range (2 ^ m)).map (bitX m)) cl GI.start first came mv e
    have le := nodup_sub gi.nd cin
    rw [fl] at le
    have up : ∀ v, v < 2 ^ m → bitX m v ∈ came := by
      intro v
      induction v using Nat.strongRecOn with
      | ind v ih =>
        intro hv
        by_cases q : v = 0
        · subst q
          rw [bit_zero, em]
          simp
        · have hin := ih (v / 2) (by omega) (by omega)
          obtain ⟨i, hi, ei⟩ := List.mem_iff_getElem.mp hin
          obtain ⟨l, _, _, e3⟩ := gi.row i (by omega)
          obtain ⟨j, _, ej⟩ := e3 _ (by rw [List.getElem?_eq_getElem hi, ei]) (v % 2) (by omega)
          rw [wide_f hm (by omega), show (2 * (v / 2) + v % 2) % 2 ^ m = v by rw [show 2 * (v / 2) + v % 2 = v by omega]; exact Nat.mod_eq_of_lt hv] at ej
          exact List.mem_of_getElem? ej
    have ge := nodup_sub nd fun r hr => by
      obtain ⟨v, hv, rfl⟩ := List.mem_map.mp hr
      exact up v (List.mem_range.mp hv)
    rw [fl] at ge
    exact ⟨by omega, cm (by simp)⟩
  refine ⟨fun hb => ?_, fun hb => ?_⟩
  · cases res with
    | none => rfl
    | some x =>
      obtain ⟨e1, e2⟩ := both x.1 x.2 rfl
      omega
  · obtain ⟨came, mv, e⟩ := g.some_of cl (by rw [fl]; exact hb) GI.start first
    exact ⟨came, mv, e, (both came mv e).1⟩
theorem wide_hid {m : Nat} (hm : m = 9 ∨ m = 10 ∨ m = 11) : HidM 2 abN "a" 0 (m + 1) (List.replicate (m + 1) true) (wideM m) := by
  refine ⟨⟨rfl, by decide, by decide, by decide, by decide, by decide⟩, ?_, by omega, by decide⟩
  rcases hm with rfl | rfl | rfl <;> exact ⟨by decide, by decide, by decide, by decide⟩

end K42

set_option Elab.async false
set_option linter.all false
set_option maxRecDepth 100000
set_option maxHeartbeats 4000000
namespace K42
open PySem L2 NdefX LamX KG DL
local macro_rules | `(tactic| infer_instance) => `(tactic| with_reducible first | exact subS_nil | refine subS_same ?_ | refine subS_none ?_ | refine s_seq ?_ | refine s_asg ?_ | refine s_if ?_ | refine s_ret ?_ | refine s_retN ?_ | refine s_drop ?_ | refine s_for ?_ | refine s_next ?_ | refine s_break ?_ | refine s_cont ?_ | refine v_c ?_ | refine v_op ?_ | refine v_un ?_ | refine v_if ?_ | refine v_nil ?_ | refine v_cons ?_ | refine v_CB ?_ | refine v_BM0 ?_ | refine v_BM ?_ | refine v_call ?_ | refine v_B ?_ | refine k_bl ?_ | refine v_and ?_ | refine v_or ?_ | refine v_not ?_ | refine v_yes ?_ | refine v_andV ?_ | refine v_orV ?_ | refine k_and ?_ | refine k_or ?_ | refine v_rNot ?_ | refine w_any ?_ | refine k_anyT ?_ | refine k_anyS ?_ | refine w_rng1 ?_ | refine w_zip ?_ | refine v_lc ?_ | refine v_lst ?_ | refine v_rev ?_ | refine v_revS ?_ | refine v_noP ?_ | refine v_part ?_ | refine k_part ?_ | refine v_sl ?_ | refine t_sl ?_ | refine t_list ?_ | refine k_isT ?_ | refine g_sb ?_ | refine v_kv0 ?_ | refine v_kv ?_ | refine v_dis ?_ | refine v_disT ?_ | refine i_add ?_ | refine i_sub ?_ | refine i_neg ?_ | refine i_lt ?_ | refine i_le ?_ | refine i_gt ?_ | refine i_ge ?_ | refine i_eq ?_ | refine i_ne ?_ | refine s_eq ?_ | refine s_ne ?_ | refine b_eq ?_ | refine b_ne ?_ | refine n_is ?_ | refine n_not ?_ | refine t_len ?_ | refine t_tuple ?_ | refine i_abs ?_ | refine i_int ?_ | refine b_int ?_ | refine g_unp ?_ | refine g_nms0 ?_ | refine g_nmsS ?_ | refine g_nm0 ?_  | refine g_nm1 ?_  | refine g_nm2 ?_  | refine g_nm3 ?_  | refine g_nm4 ?_  | refine g_nm5 ?_  | refine g_nm6 ?_  | refine g_nm7 ?_  | refine g_nm8 ?_  | refine g_nm9 ?_  | refine g_nm10 ?_  | refine g_nm11 ?_  | refine g_nm12 ?_  | refine g_nm13 ?_  | refine g_nm14 ?_  | refine g_nm15 ?_  | refine g_nm16 ?_  | refine g_nm17 ?_  | refine g_nm18 ?_  | refine g_nm19 ?_  | refine g_nm20 ?_  | refine g_nm21 ?_  | refine g_nm22 ?_  | refine g_nm23 ?_  | refine g_nm24 ?_  | refine g_nm25 ?_  | refine g_nm26 ?_  | refine g_nm27 ?_  | refine g_nm28 ?_  | refine g_nm29 ?_  | refine g_nm30 ?_  | refine g_nm31 ?_)
local macro_rules | `(tactic| infer_instance) => `(tactic| first | ((with_reducible apply v_var); rfl) | ((with_reducible apply t_ix); rfl) | ((with_reducible apply l_len); (first | exact Sep.lget ‹_› 0 rfl | exact Sep.lget ‹_› 1 rfl | exact Sep.lget ‹_› 2 rfl | exact Sep.lget ‹_› 3 rfl | exact Sep.lget ‹_› 4 rfl | exact Sep.lget ‹_› 5 rfl | exact Sep.lget ‹_› 6 rfl | exact Sep.lget ‹_› 7 rfl))  | ((with_reducible apply l_tuple); (first | exact Sep.lget ‹_› 0 rfl | exact Sep.lget ‹_› 1 rfl | exact Sep.lget ‹_› 2 rfl | exact Sep.lget ‹_› 3 rfl | exact Sep.lget ‹_› 4 rfl | exact Sep.lget ‹_› 5 rfl | exact Sep.lget ‹_› 6 rfl | exact Sep.lget ‹_› 7 rfl))  | ((with_reducible apply k_anyL); (first | exact Sep.lget ‹_› 0 rfl | exact Sep.lget ‹_› 1 rfl | exact Sep.lget ‹_› 2 rfl | exact Sep.lget ‹_› 3 rfl | exact Sep.lget ‹_› 4 rfl | exact Sep.lget ‹_› 5 rfl | exact Sep.lget ‹_› 6 rfl | exact Sep.lget ‹_› 7 rfl)) | ((with_reducible apply k_isL); (first | exact Sep.lget ‹_› 0 rfl | exact Sep.lget ‹_› 1 rfl | exact Sep.lget ‹_› 2 rfl | exact Sep.lget ‹_› 3 rfl | exact Sep.lget ‹_› 4 rfl | exact Sep.lget ‹_› 5 rfl | exact Sep.lget ‹_› 6 rfl | exact Sep.lget ‹_› 7 rfl))  | ((with_reducible apply l_list); (first | exact Sep.lget ‹_› 0 rfl | exact Sep.lget ‹_› 1 rfl | exact Sep.lget ‹_› 2 rfl | exact Sep.lget ‹_› 3 rfl | exact Sep.lget ‹_› 4 rfl | exact Sep.lget ‹_› 5 rfl | exact Sep.lget ‹_› 6 rfl | exact Sep.lget ‹_› 7 rfl))  | ((with_reducible apply k_rev); (first | exact Sep.lget ‹_› 0 rfl | exact Sep.lget ‹_› 1 rfl | exact Sep.lget ‹_› 2 rfl | exact Sep.lget ‹_› 3 rfl | exact Sep.lget ‹_› 4 rfl | exact Sep.lget ‹_› 5 rfl | exact Sep.lget ‹_› 6 rfl | exact Sep.lget ‹_› 7 rfl))  | ((with_reducible apply l_sl); (first | exact Sep.lget ‹_› 0 rfl | exact Sep.lget ‹_› 1 rfl | exact Sep.lget ‹_› 2 rfl | exact Sep.lget ‹_› 3 rfl | exact Sep.lget ‹_› 4 rfl | exact Sep.lget ‹_› 5 rfl | exact Sep.lget ‹_› 6 rfl | exact Sep.lget ‹_› 7 rfl)) | (with_reducible refine v_tup ?_) | (with_reducible refine And.intro (szb rfl) ?_) | (dsimp only [wipeU, List.set]))
local macro_rules | `(tactic| infer_instance) => `(tactic| first | (with_reducible first | refine v_dict0 ?_ | refine v_tupF ?_ | refine v_slF ?_ | refine v_tix ?_ | refine k_tix ?_ | refine w_enu ?_ | refine w_rng2 ?_ | refine v_sortSetI ?_ | refine k_anyFT ?_ | refine ft_len ?_) | ((with_reducible apply l_tupleF); (first | exact Sep.lget ‹_› 0 rfl | exact Sep.lget ‹_› 1 rfl | exact Sep.lget ‹_› 2 rfl | exact Sep.lget ‹_› 3 rfl | exact Sep.lget ‹_› 4 rfl | exact Sep.lget ‹_› 5 rfl | exact Sep.lget ‹_› 6 rfl | exact Sep.lget ‹_› 7 rfl)) | ((with_reducible apply ft_ix); rfl))
/-! ### chains -/
def backC (form m r : Nat) : Nat := if form = 0 then 0 else if form = 1 then r else m
def chainRows (w step form m : Nat) (figs : List Nat) : List (List Nat) := figs.zipIdx.map fun p => (List.replicate w (backC form m p.2)).set (p.1 * step) (p.2 + 1)
def chainMv (w step form m : Nat) (figs : List Nat) : List (List Nat) := chainRows w step form m figs ++ [List.replicate w (m - 1), List.replicate w m]
def chainY (m : Nat) : List Bool := (List.range (m + 1)).map fun (r : Nat) => decide (r = m - 1)
theorem chainRows_snoc {w step form m : Nat} {figs : List Nat} {f : Nat} : chainRows w step form m (figs ++ [f]) = chainRows w step form m figs ++ [(List.replicate w (backC form m figs.length)).set (f * step) (figs.length + 1)] := by
  unfold chainRows
  rw [List.zipIdx_append, List.map_append]
  simp
/-- what a chain is like -/
structure ChainM (b len at_ n : Nat) (yes : List Bool) (moves : List (List Nat)) (form m : Nat) (figs : List Nat) : Prop where
  f3 : form < 3
  m8 : 8 ≤ m
  m61 : m ≤ 61
  mf : form < 2 → m ≤ 19
  n_ : n = m + 1
  fl : figs.length = m - 1
  fb : ∀ f ∈ figs, f < b
  y_ : yes = chainY m
  mv_ : moves = chainMv (b ^ len) (b ^ (len - 1 - at_)) form m figs
theorem whole_facts : ∀ b ∈ [2, 3, 4], ∀ len ∈ [1, 2, 3], ∀ at_ ∈ List.range len, (∀ f ∈ List.range b, f * b ^ (len - 1 - at_) < b ^ len ∧ f * b ^ (len - 1 - at_) ∈ (wholes b (len - 1) at_)[0]?.getD [] ∧ ∃ j ∈ (wholes b (len - 1) at_)[0]?.getD [], j ≠ f * b ^ (len - 1 - at_)) ∧
    ∀ k ∈ List.range (wholes b (len - 1) at_).length, k ≠ 0 → (∃ j ∈ (wholes b (len - 1) at_)[k]?.getD [], True) ∧ ∀ f ∈ List.range b, f * b ^ (len - 1 - at_) ∉ (wholes b (len - 1) at_)[k]?.getD [] := by decide +kernel
section
variable {b len at_ n : Nat} {yes : List Bool} {moves : List (List Nat)} {form m : Nat} {figs : List Nat}
theorem back_le (hm : 8 ≤ m) {r : Nat} (hr : r < m) : backC form m r ≤ m := by
  unfold backC
  split
  · omega
  · split <;> omega
theorem chain_row (C : ChainM b len at_ n yes moves form m figs) {a : Nat} (ha : a < m - 1) : ∃ f, f < b ∧ moves[a]? = some ((List.replicate (b ^ len) (backC form m a)).set (f * b ^ (len - 1 - at_)) (a + 1)) := by
  have fl := C.fl
  have e : figs[a]? = some figs[a] := List.getElem?_eq_getElem (by omega)
  refine ⟨figs[a], C.fb _ (List.getElem_mem _), ?_⟩
  rw [C.mv_]
  unfold chainMv chainRows
  rw [List.getElem?_append_left (by rw [List.length_map, List.length_zipIdx]; omega), List.getElem?_map, List.getElem?_zipIdx, e]
  simp
theorem chain_two (C : ChainM b len at_ n yes moves form m figs) : moves[m - 1]? = some (List.replicate (b ^ len) (m - 1)) ∧ moves[m]? = some (List.replicate (b ^ len) m) := by
  have fl := C.fl
  have m8 := C.m8
  have rl : (chainRows (b ^ len) (b ^ (len - 1 - at_)) form m figs).length = m - 1 := by
    unfold chainRows
    rw [List.length_map, List.length_zipIdx, fl]
  rw [C.mv_]
  unfold chainMv
  refine ⟨?_, ?_⟩
  · rw [List.getElem?_append_right (by omega), rl, Nat.sub_self]
    rfl
  · rw [List.getElem?_append_right (by omega), rl, show m - (m - 1) = 1 by omega]
    rfl
theorem chain_len (C : ChainM b len at_ n yes moves form m figs) : moves.length = m + 1 := by
  have fl := C.fl
  have m8 := C.m8
  rw [C.mv_]
  unfold chainMv chainRows
  simp only [List.length_append, List.length_map, List.length_zipIdx, List.length_cons, List.length_nil, fl]
  omega
theorem chain_J (C : ChainM b len at_ n yes moves form m figs) : MachJ (b ^ len) n yes moves := by
  have m8 := C.m8
  have ml := chain_len C
  have en := C.n_
  refine ⟨by omega, by omega, by rw [C.y_, en]; unfold chainY; rw [List.length_map, List.length_range], fun l hl => ?_⟩
  obtain ⟨i, hi, ei⟩ := List.mem_iff_getElem.mp hl
  have e : moves[i]? = some l := by rw [List.getElem?_eq_getElem hi, ei]
  by_cases q : i < m - 1
  · obtain ⟨f, _, e2⟩ := chain_row C q
    rw [e] at e2
    cases e2
    refine ⟨by rw [List.length_set, List.length_replicate], fun a ha => ?_⟩
    rcases List.mem_or_eq_of_mem_set ha with z | z
    · have := (List.mem_replicate.mp z).2
      have := back_le (form := form) m8 (show i < m by omega)
      omega
    · omega
  · by_cases q2 : i = m - 1
    · have e2 := (chain_two C).1
      rw [← q2, e] at e2
      cases e2
      refine ⟨List.length_replicate, fun a ha => ?_⟩
      have := (List.mem_replicate.mp ha).2
      omega
    · have e2 := (chain_two C).2
      have : i = m := by omega
      rw [← this, e] at e2
      cases e2
      refine ⟨List.length_replicate, fun a ha => ?_⟩
      have := (List.mem_replicate.mp ha).2
      omega
theorem replicate_at {w x j : Nat} (h : j < w) : (List.replicate w x)[j]? = some x := by rw [List.getElem?_replicate, if_pos h]
theorem chain_mv (C : ChainM b len at_ n yes moves form m figs) {a : Nat} (ha : a < m - 1) : ∃ f, f < b ∧ ∀ j, j < b ^ len → mvN moves a j = if j = f * b ^ (len - 1 - at_) then a + 1 else backC form m a := by
  obtain ⟨f, hf, e⟩ := chain_row C ha
  refine ⟨f, hf, fun j hj => mvN_of e ?_⟩
  by_cases q : j = f * b ^ (len - 1 - at_)
  · subst q
    rw [if_pos rfl, List.getElem?_set_self (by rw [List.length_replicate]; exact hj)]
  · rw [if_neg q, List.getElem?_set_ne (fun z => q z.symm), replicate_at hj]
/-- where a set of a chain leads -/
structure WF (b len at_ : Nat) : Prop where
  b_ : b = 2 ∨ b = 3 ∨ b = 4
  l_ : len = 1 ∨ len = 2 ∨ len = 3
  a_ : at_ < len
theorem WF.facts {b len at_ : Nat} (A : WF b len at_) : (∀ f, f < b → f * b ^ (len - 1 - at_) < b ^ len ∧ f * b ^ (len - 1 - at_) ∈ (wholes b (len - 1) at_)[0]?.getD [] ∧ ∃ j ∈ (wholes b (len - 1) at_)[0]?.getD [], j ≠ f * b ^ (len - 1 - at_)) ∧
    ∀ k, k < (wholes b (len - 1) at_).length → k ≠ 0 → (∃ j, j ∈ (wholes b (len - 1) at_)[k]?.getD []) ∧ ∀ f, f < b → f * b ^ (len - 1 - at_) ∉ (wholes b (len - 1) at_)[k]?.getD [] := by
  obtain ⟨h1, h2⟩ := whole_facts b (by rcases A.b_ with rfl | rfl | rfl <;> decide) len (by rcases A.l_ with rfl | rfl | rfl <;> decide) at_ (List.mem_range.mpr A.a_)
  refine ⟨fun f hf => h1 f (List.mem_range.mpr hf), fun k hk hne => ?_⟩
  obtain ⟨⟨j, hj, _⟩, h3⟩ := h2 k (List.mem_range.mpr hk) hne
  exact ⟨⟨j, hj⟩, fun f hf => h3 f (List.mem_range.mpr hf)⟩
theorem chain_meets (C : ChainM b len at_ n yes moves form m figs) (A : WF b len at_) {w : List Nat} {k : Nat} (hk : k < (wholes b (len - 1) at_).length) (hw : w = (wholes b (len - 1) at_)[k]?.getD []) (hwl : ∀ j ∈ w, j < b ^ len) {room : List Nat} (hr : ∀ a ∈ room, a ≤ m) {r : Nat} :
    meets moves w room r = true ↔ ∃ a ∈ room, (a < m - 1 ∧ (r = backC form m a ∨ (k = 0 ∧ r = a + 1))) ∨ (a = m - 1 ∧ r = m - 1) ∨ (a = m ∧ r = m) := by
  obtain ⟨f1, f2⟩ := A.facts
  have m8 := C.m8
  obtain ⟨t1, t2⟩ := chain_two C
  rw [meets_iff]
  have ne : ∃ j, j ∈ w := by
    by_cases q : k = 0
    · subst q
      rw [hw]
      exact ⟨_, (f1 0 (by rcases A.b_ with rfl | rfl | rfl <;> decide)).2.1⟩
    · rw [hw]
      exact (f2 k hk q).1
  constructor
  · rintro ⟨a, ha, j, hj, e⟩
    refine ⟨a, ha, ?_⟩
    have hal := hr a ha
    have hjl := hwl j hj
    by_cases q : a < m - 1
    · obtain ⟨f, hf, em⟩ := chain_mv C q
      rw [em j hjl] at e
      refine .inl ⟨q, ?_⟩
      by_cases q2 : j = f * b ^ (len - 1 - at_)
      · rw [if_pos q2] at e
        refine .inr ⟨?_, e.symm⟩
        refine Classical.byContradiction fun hk0 => ?_
        rw [hw, q2] at hj
        exact (f2 k hk hk0).2 f hf hj
      · rw [if_neg q2] at e
        exact .inl e.symm
    · by_cases q2 : a = m - 1
      · subst q2
        rw [mvN_of t1 (replicate_at hjl)] at e
        exact .inr (.inl ⟨rfl, e.symm⟩)
      · have : a = m := by omega
        subst this
        rw [mvN_of t2 (replicate_at hjl)] at e
        exact .inr (.inr ⟨rfl, e.symm⟩)
  · rintro ⟨a, ha, h⟩
    refine ⟨a, ha, ?_⟩
    rcases h with ⟨q, h⟩ | ⟨q, e⟩ | ⟨q, e⟩
    · obtain ⟨f, hf, em⟩ := chain_mv C q
      rcases h with e | ⟨ek, e⟩
      · -- back
        have : ∃ j ∈ w, j ≠ f * b ^ (len - 1 - at_) := by
          by_cases q0 : k = 0
          · subst q0
            rw [hw]
            exact (f1 f hf).2.2
          · obtain ⟨j, hj⟩ := ne
            exact ⟨j, hj, fun z => (f2 k hk q0).2 f hf (by rw [← z, ← hw]; exact hj)⟩
        obtain ⟨j, hj, hne⟩ := this
        exact ⟨j, hj, by rw [em j (hwl j hj), if_neg hne, e]⟩
      · subst ek
        have hj : f * b ^ (len - 1 - at_) ∈ w := by
          rw [hw]
          exact (f1 f hf).2.1
        exact ⟨_, hj, by rw [em _ (hwl _ hj), if_pos rfl, e]⟩
    · obtain ⟨j, hj⟩ := ne
      subst q
      exact ⟨j, hj, by rw [mvN_of t1 (replicate_at (hwl j hj)), e]⟩
    · obtain ⟨j, hj⟩ := ne
      subst q
      exact ⟨j, hj, by rw [mvN_of t2 (replicate_at (hwl j hj)), e]⟩
def setOf (n : Nat) (p : Nat → Bool) : List Nat := (List.range n).filter p
theorem setOf_mem {n : Nat} {p : Nat → Bool} {r : Nat} : r ∈ setOf n p ↔ r < n ∧ p r = true := by
  unfold setOf
  rw [List.mem_filter, List.mem_range]
def pLow (m j : Nat) (e : Bool) (r : Nat) : Bool := decide (r ≤ j) || (e && decide (r = m - 1))
theorem pLow_iff {m j : Nat} {e : Bool} {r : Nat} : pLow m j e r = true ↔ r ≤ j ∨ (e = true ∧ r = m - 1) := by
  unfold pLow
  rw [Bool.or_eq_true, Bool.and_eq_true, decide_eq_true_iff, decide_eq_true_iff]
def famLow (m : Nat) : List (List Nat) := (List.range m).flatMap fun j => [setOf (m + 1) (pLow m j false), setOf (m + 1) (pLow m j true)]
theorem famLow_mem {m : Nat} {x : List Nat} : x ∈ famLow m ↔ ∃ j e, j < m ∧ x = setOf (m + 1) (pLow m j e) := by
  unfold famLow
  rw [List.mem_flatMap]
  constructor
  · rintro ⟨j, hj, h⟩
    have hj' := List.mem_range.mp hj
    simp only [List.mem_cons, List.not_mem_nil, or_false] at h
    rcases h with h | h
    · exact ⟨j, false, hj', h⟩
    · exact ⟨j, true, hj', h⟩
  · rintro ⟨j, e, hj, rfl⟩
    refine ⟨j, List.mem_range.mpr hj, ?_⟩
    cases e <;> simp
def pHigh (m j : Nat) (r : Nat) : Bool := decide (r = j) || decide (r = m)
theorem pHigh_iff {m j r : Nat} : pHigh m j r = true ↔ r = j ∨ r = m := by
  unfold pHigh
  rw [Bool.or_eq_true, decide_eq_true_iff, decide_eq_true_iff]
def famHigh (m : Nat) : List (List Nat) := [0] :: (List.range m).map fun j => setOf (m + 1) (pHigh m (j + 1))
theorem zero_set {m : Nat} : setOf (m + 1) (fun r => decide (r = 0)) = [0] := filter_zero (by decide) fun r h1 _ => decide_eq_false (by omega)
theorem fam_chain {ws : List Str} (C : ChainM b ws.length at_ n yes moves form m figs) (A : WF b ws.length at_) (hwl : ∀ v ∈ wholesN b ws at_, v.length ≤ 10 ∧ ∀ j ∈ v, j < b ^ ws.length) : ∃ S, Fam b ws at_ n moves S := by
  have m8 := C.m8
  have en := C.n_
  subst en
  have go : ∀ (k : Nat), k < (wholesN b ws at_).length → ∀ (p p' : Nat → Bool), (∀ r, r ≤ m → ((∃ a, a ≤ m ∧ p a = true ∧ ((a < m - 1 ∧ (r = backC form m a ∨ (k = 0 ∧ r = a + 1))) ∨ (a = m - 1 ∧ r = m - 1) ∨ (a = m ∧ r = m))) ↔ p' r = true)) → hidF b ws at_ (m + 1) moves (setOf (m + 1) p) k = setOf (m + 1) p' := fun k hk p p' h => by
    refine setF_eq fun r hr => ?_
    rw [chain_meets C A hk rfl (fun j hj => by
      have e : (wholesN b ws at_)[k]? = some (wholesN b ws at_)[k] := List.getElem?_eq_getElem hk
      rw [show (wholes b (ws.length - 1) at_)[k]?.getD [] = (wholesN b ws at_)[k] by rw [e]; rfl] at hj
      exact (hwl _ (List.getElem_mem hk)).2 j hj) (fun a ha => by have := (setOf_mem.mp ha).1; omega), ← h r (by omega)]
    constructor
    · rintro ⟨a, ha, z⟩
      obtain ⟨a1, a2⟩ := setOf_mem.mp ha
      exact ⟨a, by omega, a2, z⟩
    · rintro ⟨a, a1, a2, z⟩
      exact ⟨a, setOf_mem.mpr ⟨by omega, a2⟩, z⟩
  by_cases hf : form < 2
  · have m19 := C.mf hf
    refine ⟨famLow m, ?_, fun x hx k hk => ?_, ?_⟩
    · rw [famLow_mem]
      refine ⟨0, false, by omega, ?_⟩
      rw [← zero_set (m := m)]
      refine List.filter_congr fun r _ => ?_
      rw [Bool.eq_iff_iff, pLow_iff, decide_eq_true_iff]
      constructor
      · intro z
        exact .inl (by omega)
      · rintro (z | ⟨z, _⟩)
        · omega
        · cases z
    · obtain ⟨j, e, hj, rfl⟩ := famLow_mem.mp hx
      rw [famLow_mem]
      have bk : ∀ a, backC form m a = if form = 0 then 0 else a := fun a => by
        unfold backC
        by_cases q : form = 0
        · rw [if_pos q, if_pos q]
        · rw [if_neg q, if_neg q, if_pos (by omega)]
      by_cases k0 : k = 0
      · refine ⟨min (j + 1) (m - 1), e, by omega, go k hk _ _ fun r hr => ?_⟩
        rw [pLow_iff]
        constructor
        · rintro ⟨a, ha, pa, z⟩
          rw [pLow_iff] at pa
          rw [bk] at z
          rcases z with ⟨z1, z2 | ⟨_, z2⟩⟩ | ⟨z1, z2⟩ | ⟨z1, z2⟩
          · left
            split at z2 <;> omega
          · rcases pa with pa | ⟨_, pa⟩
            · left
              omega
            · omega
          · rcases pa with pa | ⟨pe, pa⟩
            · left
              omega
            · exact .inr ⟨pe, z2⟩
          · rcases pa with pa | ⟨pe, pa⟩ <;> omega
        · rintro (z | ⟨pe, z⟩)
          · by_cases r0 : r = 0
            · subst r0
              exact ⟨0, by omega, pLow_iff.mpr (.inl (by omega)), .inl ⟨by omega, .inl (by rw [bk]; split <;> rfl)⟩⟩
            · exact ⟨r - 1, by omega, pLow_iff.mpr (.inl (by omega)), .inl ⟨by omega, .inr ⟨k0, by omega⟩⟩⟩
          · exact ⟨m - 1, by omega, pLow_iff.mpr (.inr ⟨pe, rfl⟩), .inr (.inl ⟨rfl, z⟩)⟩
      · by_cases q : form = 0
        · refine ⟨0, e || decide (j = m - 1), by omega, go k hk _ _ fun r hr => ?_⟩
          rw [pLow_iff, Bool.or_eq_true, decide_eq_true_iff]
          constructor
          · rintro ⟨a, ha, pa, z⟩
            rw [pLow_iff] at pa
            rw [bk, if_pos q] at z
            rcases z with ⟨z1, z2 | ⟨z3, z2⟩⟩ | ⟨z1, z2⟩ | ⟨z1, z2⟩
            · exact .inl (by omega)
            · exact absurd z3 k0
            · rcases pa with pa | ⟨pe, pa⟩
              · exact .inr ⟨.inr (by omega), z2⟩
              · exact .inr ⟨.inl pe, z2⟩
            · rcases pa with pa | ⟨pe, pa⟩ <;> omega
          · rintro (z | ⟨pe | pe, z⟩)
            · exact ⟨0, by omega, pLow_iff.mpr (.inl (by omega)), .inl ⟨by omega, .inl (by rw [bk, if_pos q]; omega)⟩⟩
            · exact ⟨m - 1, by omega, pLow_iff.mpr (.inr ⟨pe, rfl⟩), .inr (.inl ⟨rfl, z⟩)⟩
            · exact ⟨m - 1, by omega, pLow_iff.mpr (.inl (by omega)), .inr (.inl ⟨rfl, z⟩)⟩
        · refine ⟨j, e, hj, go k hk _ _ fun r hr => ?_⟩
          rw [pLow_iff]
          constructor
          · rintro ⟨a, ha, pa, z⟩
            rw [pLow_iff] at pa
            rw [bk, if_neg q] at z
            rcases z with ⟨z1, z2 | ⟨z3, z2⟩⟩ | ⟨z1, z2⟩ | ⟨z1, z2⟩
            · rw [z2]
              exact pa
            · exact absurd z3 k0
            · rw [show r = a by omega]
              exact pa
            · rw [show r = a by omega]
              exact pa
          · intro z
            by_cases r1 : r < m - 1
            · exact ⟨r, hr, pLow_iff.mpr z, .inl ⟨r1, .inl (by rw [bk, if_neg q])⟩⟩
            · by_cases r2 : r = m - 1
              · exact ⟨r, hr, pLow_iff.mpr z, .inr (.inl ⟨r2, r2⟩)⟩
              · exact ⟨r, hr, pLow_iff.mpr z, .inr (.inr ⟨by omega, by omega⟩)⟩
    · unfold famLow
      rw [List.length_flatMap]
      simp only [List.length_cons, List.length_nil, List.map_const', List.sum_replicate_nat, List.length_range]
      omega
  · have f3 := C.f3
    have m61 := C.m61
    have bk : ∀ a, backC form m a = m := fun a => by
      unfold backC
      rw [if_neg (by omega), if_neg (by omega)]
    have inH : ∀ j, 1 ≤ j → j ≤ m → setOf (m + 1) (pHigh m j) ∈ famHigh m := fun j h1 h2 => List.mem_cons_of_mem _ (List.mem_map.mpr ⟨j - 1, List.mem_range.mpr (by omega), by rw [show j - 1 + 1 = j by omega]⟩)
    refine ⟨famHigh m, List.mem_cons_self, fun x hx k hk => ?_, ?_⟩
    · rcases List.mem_cons.mp hx with rfl | hx
      · rw [← zero_set (m := m)]
        by_cases k0 : k = 0
        · rw [go k hk _ (pHigh m 1) fun r hr => ?_]
          · exact inH 1 (by omega) (by omega)
          · rw [pHigh_iff]
            constructor
            · rintro ⟨a, ha, pa, z⟩
              have pa' := of_decide_eq_true pa
              rw [bk] at z
              rcases z with ⟨z1, z2 | ⟨_, z2⟩⟩ | ⟨z1, z2⟩ | ⟨z1, z2⟩ <;> omega
            · rintro (z | z)
              · exact ⟨0, by omega, decide_eq_true rfl, .inl ⟨by omega, .inr ⟨k0, by omega⟩⟩⟩
              · exact ⟨0, by omega, decide_eq_true rfl, .inl ⟨by omega, .inl (by rw [bk]; exact z)⟩⟩
        · rw [go k hk _ (pHigh m m) fun r hr => ?_]
          · exact inH m (by omega) (by omega)
          · rw [pHigh_iff]
            constructor
            · rintro ⟨a, ha, pa, z⟩
              have pa' := of_decide_eq_true pa
              rw [bk] at z
              rcases z with ⟨z1, z2 | ⟨z3, z2⟩⟩ | ⟨z1, z2⟩ | ⟨z1, z2⟩ <;> omega
            · intro z
              exact ⟨0, by omega, decide_eq_true rfl, .inl ⟨by omega, .inl (by rw [bk]; omega)⟩⟩
      · obtain ⟨j, hj, rfl⟩ := List.mem_map.mp hx
        have hj' := List.mem_range.mp hj
        have key : ∀ j', 1 ≤ j' → j' ≤ m → (∀ r, r ≤ m → ((∃ a, a ≤ m ∧ (a = j + 1 ∨ a = m) ∧ ((a < m - 1 ∧ (r = m ∨ (k = 0 ∧ r = a + 1))) ∨ (a = m - 1 ∧ r = m - 1) ∨ (a = m ∧ r = m))) ↔ (r = j' ∨ r = m))) → hidF b ws at_ (m + 1) moves (setOf (m + 1) (pHigh m (j + 1))) k ∈ famHigh m := fun j' h1 h2 h => by
          rw [go k hk _ (pHigh m j') fun r hr => ?_]
          · exact inH j' h1 h2
          · rw [pHigh_iff, ← h r hr]
            constructor
            · rintro ⟨a, ha, pa, z⟩
              rw [bk] at z
              exact ⟨a, ha, pHigh_iff.mp pa, z⟩
            · rintro ⟨a, ha, pa, z⟩
              exact ⟨a, ha, pHigh_iff.mpr pa, by rw [bk]; exact z⟩
        by_cases q : j + 1 < m - 1
        · by_cases k0 : k = 0
          · refine key (j + 2) (by omega) (by omega) fun r hr => ⟨?_, ?_⟩
            · rintro ⟨a, ha, pa, z⟩
              omega
            · rintro (z | z)
              · exact ⟨j + 1, by omega, .inl rfl, .inl ⟨q, .inr ⟨k0, by omega⟩⟩⟩
              · exact ⟨m, by omega, .inr rfl, .inr (.inr ⟨rfl, z⟩)⟩
          · refine key m (by omega) (by omega) fun r hr => ⟨?_, ?_⟩
            · rintro ⟨a, ha, pa, z⟩
              omega
            · intro z
              exact ⟨m, by omega, .inr rfl, .inr (.inr ⟨rfl, by omega⟩)⟩
        · refine key (j + 1) (by omega) (by omega) fun r hr => ⟨?_, ?_⟩
          · rintro ⟨a, ha, pa, z⟩
            omega
          · rintro (z | z)
            · by_cases q2 : j + 1 = m - 1
              · exact ⟨j + 1, by omega, .inl rfl, .inr (.inl ⟨q2, by omega⟩)⟩
              · exact ⟨m, by omega, .inr rfl, .inr (.inr ⟨rfl, by omega⟩)⟩
            · exact ⟨m, by omega, .inr rfl, .inr (.inr ⟨rfl, z⟩)⟩
    · unfold famHigh
      rw [List.length_cons, List.length_map, List.length_range]
      omega
end

end K42

set_option Elab.async false
set_option linter.all false
set_option maxRecDepth 100000
set_option maxHeartbeats 4000000
namespace K42
open PySem L2 NdefX LamX KG DL
local macro_rules | `(tactic| infer_instance) => `(tactic| with_reducible first | exact subS_nil | refine subS_same ?_ | refine subS_none ?_ | refine s_seq ?_ | refine s_asg ?_ | refine s_if ?_ | refine s_ret ?_ | refine s_retN ?_ | refine s_drop ?_ | refine s_for ?_ | refine s_next ?_ | refine s_break ?_ | refine s_cont ?_ | refine v_c ?_ | refine v_op ?_ | refine v_un ?_ | refine v_if ?_ | refine v_nil ?_ | refine v_cons ?_ | refine v_CB ?_ | refine v_BM0 ?_ | refine v_BM ?_ | refine v_call ?_ | refine v_B ?_ | refine k_bl ?_ | refine v_and ?_ | refine v_or ?_ | refine v_not ?_ | refine v_yes ?_ | refine v_andV ?_ | refine v_orV ?_ | refine k_and ?_ | refine k_or ?_ | refine v_rNot ?_ | refine w_any ?_ | refine k_anyT ?_ | refine k_anyS ?_ | refine w_rng1 ?_ | refine w_zip ?_ | refine v_lc ?_ | refine v_lst ?_ | refine v_rev ?_ | refine v_revS ?_ | refine v_noP ?_ | refine v_part ?_ | refine k_part ?_ | refine v_sl ?_ | refine t_sl ?_ | refine t_list ?_ | refine k_isT ?_ | refine g_sb ?_ | refine v_kv0 ?_ | refine v_kv ?_ | refine v_dis ?_ | refine v_disT ?_ | refine i_add ?_ | refine i_sub ?_ | refine i_neg ?_ | refine i_lt ?_ | refine i_le ?_ | refine i_gt ?_ | refine i_ge ?_ | refine i_eq ?_ | refine i_ne ?_ | refine s_eq ?_ | refine s_ne ?_ | refine b_eq ?_ | refine b_ne ?_ | refine n_is ?_ | refine n_not ?_ | refine t_len ?_ | refine t_tuple ?_ | refine i_abs ?_ | refine i_int ?_ | refine b_int ?_ | refine g_unp ?_ | refine g_nms0 ?_ | refine g_nmsS ?_ | refine g_nm0 ?_  | refine g_nm1 ?_  | refine g_nm2 ?_  | refine g_nm3 ?_  | refine g_nm4 ?_  | refine g_nm5 ?_  | refine g_nm6 ?_  | refine g_nm7 ?_  | refine g_nm8 ?_  | refine g_nm9 ?_  | refine g_nm10 ?_  | refine g_nm11 ?_  | refine g_nm12 ?_  | refine g_nm13 ?_  | refine g_nm14 ?_  | refine g_nm15 ?_  | refine g_nm16 ?_  | refine g_nm17 ?_  | refine g_nm18 ?_  | refine g_nm19 ?_  | refine g_nm20 ?_  | refine g_nm21 ?_  | refine g_nm22 ?_  | refine g_nm23 ?_  | refine g_nm24 ?_  | refine g_nm25 ?_  | refine g_nm26 ?_  | refine g_nm27 ?_  | refine g_nm28 ?_  | refine g_nm29 ?_  | refine g_nm30 ?_  | refine g_nm31 ?_)
local macro_rules | `(tactic| infer_instance) => `(tactic| first | ((with_reducible apply v_var); rfl) | ((with_reducible apply t_ix); rfl) | ((with_reducible apply l_len); (first | exact Sep.lget ‹_› 0 rfl | exact Sep.lget ‹_› 1 rfl | exact Sep.lget ‹_› 2 rfl | exact Sep.lget ‹_› 3 rfl | exact Sep.lget ‹_› 4 rfl | exact Sep.lget ‹_› 5 rfl | exact Sep.lget ‹_› 6 rfl | exact Sep.lget ‹_› 7 rfl))  | ((with_reducible apply l_tuple); (first | exact Sep.lget ‹_› 0 rfl | exact Sep.lget ‹_› 1 rfl | exact Sep.lget ‹_› 2 rfl | exact Sep.lget ‹_› 3 rfl | exact Sep.lget ‹_› 4 rfl | exact Sep.lget ‹_› 5 rfl | exact Sep.lget ‹_› 6 rfl | exact Sep.lget ‹_› 7 rfl))  | ((with_reducible apply k_anyL); (first | exact Sep.lget ‹_› 0 rfl | exact Sep.lget ‹_› 1 rfl | exact Sep.lget ‹_› 2 rfl | exact Sep.lget ‹_› 3 rfl | exact Sep.lget ‹_› 4 rfl | exact Sep.lget ‹_› 5 rfl | exact Sep.lget ‹_› 6 rfl | exact Sep.lget ‹_› 7 rfl)) | ((with_reducible apply k_isL); (first | exact Sep.lget ‹_› 0 rfl | exact Sep.lget ‹_› 1 rfl | exact Sep.lget ‹_› 2 rfl | exact Sep.lget ‹_› 3 rfl | exact Sep.lget ‹_› 4 rfl | exact Sep.lget ‹_› 5 rfl | exact Sep.lget ‹_› 6 rfl | exact Sep.lget ‹_› 7 rfl))  | ((with_reducible apply l_list); (first | exact Sep.lget ‹_› 0 rfl | exact Sep.lget ‹_› 1 rfl | exact Sep.lget ‹_› 2 rfl | exact Sep.lget ‹_› 3 rfl | exact Sep.lget ‹_› 4 rfl | exact Sep.lget ‹_› 5 rfl | exact Sep.lget ‹_› 6 rfl | exact Sep.lget ‹_› 7 rfl))  | ((with_reducible apply k_rev); (first | exact Sep.lget ‹_› 0 rfl | exact Sep.lget ‹_› 1 rfl | exact Sep.lget ‹_› 2 rfl | exact Sep.lget ‹_› 3 rfl | exact Sep.lget ‹_› 4 rfl | exact Sep.lget ‹_› 5 rfl | exact Sep.lget ‹_› 6 rfl | exact Sep.lget ‹_› 7 rfl))  | ((with_reducible apply l_sl); (first | exact Sep.lget ‹_› 0 rfl | exact Sep.lget ‹_› 1 rfl | exact Sep.lget ‹_› 2 rfl | exact Sep.lget ‹_› 3 rfl | exact Sep.lget ‹_› 4 rfl | exact Sep.lget ‹_› 5 rfl | exact Sep.lget ‹_› 6 rfl | exact Sep.lget ‹_› 7 rfl)) | (with_reducible refine v_tup ?_) | (with_reducible refine And.intro (szb rfl) ?_) | (dsimp only [wipeU, List.set]))
local macro_rules | `(tactic| infer_instance) => `(tactic| first | (with_reducible first | refine v_dict0 ?_ | refine v_tupF ?_ | refine v_slF ?_ | refine v_tix ?_ | refine k_tix ?_ | refine w_enu ?_ | refine w_rng2 ?_ | refine v_sortSetI ?_ | refine k_anyFT ?_ | refine ft_len ?_) | ((with_reducible apply l_tupleF); (first | exact Sep.lget ‹_› 0 rfl | exact Sep.lget ‹_› 1 rfl | exact Sep.lget ‹_› 2 rfl | exact Sep.lget ‹_› 3 rfl | exact Sep.lget ‹_› 4 rfl | exact Sep.lget ‹_› 5 rfl | exact Sep.lget ‹_› 6 rfl | exact Sep.lget ‹_› 7 rfl)) | ((with_reducible apply ft_ix); rfl))
/-! ### two lists that hold the same -/
def sp_alikeL (d : Nat) : DP := fun us h q _ => ∃ (p r : Addr) (xs : List U), us = [.ref p, .ref r] ∧ lstU h p = some xs ∧ lstU h r = some xs ∧ xs.length ≤ 1000000 ∧ (∀ x ∈ xs, plA d x) ∧ ∀ h', Sep h [] h' → q (.bl true) h'
def sp_alikeG (d : Nat) : DP := fun us h q y => sp_alikeD (d + 1) us h q y ∨ sp_alikeL d us h q y
abbrev sp__law_alike : DP := sp_alikeG 9
theorem ty_lst {h : HU} {p : Addr} {xs : List U} (e : lstU h p = some xs) : tyU h (.ref p) = some "list" := by
  unfold lstU at e
  unfold tyU
  split at e
  · rename_i z
    simp only [z]
  · rename_i z
    simp only [z]
  · cases e
theorem p__law_alikeL {d : Nat} {us : List U} {h : HU} {q : DV} {y : DXK} {bk ct : SU → HU → Prop} (hs : sp_alikeL d us h q y) : t__law_alike (sp_alikeD d) ⟨fun _ h' => WkV q .non h', WkV q, bk, ct⟩ (startN 4 us) h := by
  obtain ⟨p, r, xs, rfl, ep, er, hl, hx, hq⟩ := hs
  show t__law_alike _ _ [some (.ref p), some (.ref r), none, none] h
  have S := Sep.nil h
  have tp := ty_lst ep
  have tr := ty_lst er
  unfold t__law_alike
  repeat infer_instance
  refine v_isi tr rfl ?_
  repeat infer_instance
  refine if_f (by decide) ?_
  repeat infer_instance
  refine v_isi tr rfl ?_
  repeat infer_instance
  refine if_t (by decide) ?_
  repeat infer_instance
  refine v_isi tp rfl ?_
  repeat infer_instance
  refine v_isi tr rfl ?_
  repeat infer_instance
  refine if_f (by simp) ?_
  repeat infer_instance
  refine v_isi tp rfl ?_
  repeat infer_instance
  refine v_isi tr rfl ?_
  repeat infer_instance
  refine if_f (by simp) ?_
  repeat infer_instance
  refine l_len ep ?_
  repeat infer_instance
  refine l_len er ?_
  repeat infer_instance
  refine if_t (by simp) ?_
  repeat infer_instance
  refine k_zip (us := xs) (ws := xs) ep er ?_
  have ez : zipU xs xs = xs.map fun x => U.tup [x, x] := by
    unfold zipU
    clear hl hx ep er
    induction xs with
    | nil => rfl
    | cons a r ih => simp
  refine lc_inv xs (fun x => U.tup [x, x]) ez (fun i acc h' => acc = (List.replicate i true).map U.bl ∧ Sep h [] h') (szl (by omega)) ⟨rfl, S⟩ (fun _ _ h' z => ⟨lstU_mono z.2.fr ep, lstU_mono z.2.fr er⟩) ?_ ?_
  · rintro i z ez2 acc h1 ⟨rfl, S⟩
    repeat infer_instance
    refine if_t rfl ?_
    repeat infer_instance
    refine ⟨z, rfl, hx z (List.mem_of_getElem? ez2), fun h2 S2 => WkH.of ⟨?_, S.more S2⟩⟩
    rw [List.replicate_succ', List.map_append]
    rfl
  · rintro acc h1 ⟨rfl, S⟩
    refine k_new S fun pa h2 S => ?_
    repeat infer_instance
    refine l_all _ (S.lget 0 rfl) ?_
    have : (List.replicate xs.length true).all id = true := by simp
    rw [this]
    exact .of (hq _ (S.pick []))
theorem p__law_alikeG {d : Nat} {us : List U} {h : HU} {q : DV} {y : DXK} {bk ct : SU → HU → Prop} (hs : sp_alikeG d us h q y) : t__law_alike (sp_alikeD d) ⟨fun _ h' => WkV q .non h', WkV q, bk, ct⟩ (startN 4 us) h := by
  rcases hs with hs | hs
  · exact p__law_alike hs
  · exact p__law_alikeL hs
/-! ### the wide one -/
def sp__law_wide : DP := fun us h q _ => ∃ m : Nat, us = [.int m] ∧ (m = 9 ∨ m = 10 ∨ m = 11) ∧ ∀ h', Sep h [] h' → q (.bl true) h'
def t__law_wide : DS := dSeq (dAsg (dLst (dCons (dTup (dCons (dC (.int 0)) (dCons (dC (.int 0)) (dCons (dC (.int 0)) (dCons (dC (.int 1)) (dNil)))))) (dNil))) (gNm 1))
    (dSeq (dFor (iRng2 (dCons (dC (.int 1)) (dCons (dVar 0) (dNil)))) (gNm 2) (dSeq (dDrop (dBM isLst mAppend (dVar 1) (dCons (dOp oMulT (dTup (dCons (dOp oAdd (dVar 2) (dC (.int 1))) (dNil))) (dC (.int 4))) (dNil))))
    (dNext)))
    (dSeq (dDrop (dBM isLst mAppend (dVar 1) (dCons (dOp oMulT (dTup (dCons (dC (.int 0)) (dNil))) (dC (.int 4))) (dNil))))
    (dSeq (dAsg (dTup (dCons (dTupF (dCons (dC (.str "a")) (dCons (dC (.str "b")) (dNil)))) (dCons (dOp oMulT (dTup (dCons (dC (.bl true)) (dNil))) (dOp oAdd (dVar 0) (dC (.int 1)))) (dCons (dCB cTuple (dCons (dVar 1) (dNil))) (dNil))))) (gNm 3))
    (dSeq (dAsg (dCall sp_sets_of [.int 2000] x0 (dCons (dC (.int 2)) (dCons (dVar 3) (dCons (dC (.str "a")) (dNil))))) (gNm 4))
    (dSeq (dAsg (dCall sp_some_of [.int 2000] x0 (dCons (dC (.int 2)) (dCons (dVar 3) (dCons (dC (.str "a")) (dNil))))) (gNm 5))
    (dSeq (dIfS (dB (dOp oGt (dOp oShl (dC (.int 1)) (dVar 0)) (dC (.int 2000)))) (dSeq (dRet (dAndV (dOp oIsN (dVar 4) (dC .non)) (dOp oIsN (dVar 5) (dC .non))))
    (dNext)) (dNext))
    (dSeq (dRet (dAndV (dOp oNotN (dVar 4) (dC .non)) (dAndV (dOp oEq (dCB cLen (dCons (dVar 4) (dNil))) (dOp oShl (dC (.int 1)) (dVar 0))) (dAndV (dOp oNotN (dVar 5) (dC .non)) (dOp oEq (dCB cLen (dCons (dOp oIx (dVar 5) (dC (.int 1))) (dNil))) (dOp oShl (dC (.int 1)) (dVar 0)))))))
    (dNext))))))))
theorem flat_rep {α : Type} (x : α) : ∀ n : Nat, (List.replicate n [x]).flatten = List.replicate n x
  | 0 => rfl
  | n + 1 => by
    rw [List.replicate_succ, List.replicate_succ, List.flatten_cons, flat_rep x n]
    rfl
theorem rep_tup (x w : Nat) : U.tup (List.replicate w (U.int (x : Nat))) = tupN (List.replicate w x) := by
  rw [tupN, List.map_replicate]
theorem p__law_wide {us : List U} {h : HU} {q : DV} {y : DXK} {bk ct : SU → HU → Prop} (hs : sp__law_wide us h q y) : t__law_wide ⟨fun _ h' => WkV q .non h', WkV q, bk, ct⟩ (startN 6 us) h := by
  obtain ⟨m, rfl, hm, hq⟩ := hs
  show t__law_wide _ [some (.int m), none, none, none, none, none] h
  unfold t__law_wide
  have S := Sep.nil h
  have m1 : 1 ≤ m := by omega
  have H := wide_hid hm
  repeat infer_instance
  refine k_new S fun pm h1 S => ?_
  repeat infer_instance
  refine k_rng2 (by decide) (by decide) (by omega) (by omega) ?_
  refine f_invA (List.range ((m : Int) - 1).toNat) (fun (k : Nat) => U.int (1 + k)) (rng_mapi _ _) (fun i s h' => s = [some (.int m), some (.ref pm), none, none, none, none] ∧ Sep h [(pm, .lst (([0, 0, 0, 1] :: (List.range i).map fun i => List.replicate 4 (i + 2)).map tupN))] h') ⟨rfl, S⟩ (fun _ _ _ _ => True.intro) ?_ ?_
  · rintro i i' ei s h2 ⟨rfl, S⟩
    have hi := (List.getElem?_eq_some_iff.mp ei).1
    rw [List.length_range] at hi
    rw [List.getElem?_range hi] at ei
    cases ei
    repeat infer_instance
    refine t_mul (by simp) (by decide) (by decide) (by simp) ?_
    have e : (List.replicate (4 : Int).toNat [U.int (1 + (i : Int) + 1)]).flatten = List.replicate 4 (U.int ((i + 2 : Nat) : Int)) := by
      show (List.replicate 4 [U.int (1 + (i : Int) + 1)]).flatten = _
      rw [flat_rep, show (1 : Int) + (i : Int) + 1 = ((i + 2 : Nat) : Int) by omega]
    rw [e, rep_tup]
    repeat infer_instance
    refine m_app S 0 rfl (szl (by rw [List.length_map, List.length_cons, List.length_map, List.length_range]; omega)) fun h3 S => ?_
    repeat infer_instance
    refine wk ?_ ⟨rfl, ?_⟩
    · repeat infer_instance
    · rw [List.range_succ, List.map_append]
      show Sep h [(pm, .lst (List.map tupN ([0, 0, 0, 1] :: ((List.range i).map (fun i => List.replicate 4 (i + 2)) ++ [List.replicate 4 (i + 2)]))))] h3
      rw [← List.cons_append, List.map_append]
      exact S
  rintro s h2 ⟨rfl, S⟩
  rw [List.length_range, show ((m : Int) - 1).toNat = m - 1 by omega] at S
  repeat infer_instance
  refine t_mul (by simp) (by decide) (by decide) (by simp) ?_
  have e0 : U.tup (List.replicate (4 : Int).toNat [U.int 0]).flatten = tupN (List.replicate 4 0) := rfl
  rw [e0]
  repeat infer_instance
  refine m_app S 0 rfl (szl (by rw [List.length_map, List.length_cons, List.length_map, List.length_range]; omega)) fun h3 S => ?_
  have eW : ([0, 0, 0, 1] :: (List.range (m - 1)).map fun i => List.replicate 4 (i + 2)).map tupN ++ [tupN (List.replicate 4 0)] = (wideM m).map tupN := by
    unfold wideM
    rw [List.map_append]
    rfl
  have S : Sep h [(pm, .lst ((wideM m).map tupN))] h3 := by
    rw [← eW]
    exact S
  repeat infer_instance
  refine t_mul (by simp) (by omega) (by omega) (by simp) ?_
  have eY : (List.replicate ((m : Int) + 1).toNat [U.bl true]).flatten = (List.replicate (m + 1) true).map U.bl := by
    rw [show ((m : Int) + 1).toNat = m + 1 by omega, flat_rep, List.map_replicate]
  rw [eY]
  repeat infer_instance
  have S : Sep h [] h3 := S.none
  have grow : ∀ most : Int, 1 ≤ most → ∀ res, GrowR (hidF 2 abN 0 (m + 1) (wideM m)) (wholesN 2 abN 0).length most [[0]] [] res → _ := fun most h1 res g => wide_grow m1 h1 g
  have main : ∀ (u1 u2 : U) (h' : HU), Sep h [] h' → ((2000 < ((2 ^ m : Nat) : Int) ∧ u1 = .non ∧ u2 = .non) ∨ (((2 ^ m : Nat) : Int) ≤ 2000 ∧ (∃ (r : Addr) (came : List (List Nat)), u1 = .ref r ∧ lstU h' r = some (came.map tupN) ∧ came.length = 2 ^ m) ∧ ∃ (a : U) (ys : List Bool) (c : U), u2 = .tup [a, .tup (ys.map U.bl), c] ∧ ys.length = 2 ^ m)) →
      ∀ (x3 : U) (nx : SU → HU → Prop) (bk ct : SU → HU → Prop), dSeq (dIfS (dB (dOp oGt (dOp oShl (dC (.int 1)) (dVar 0)) (dC (.int 2000)))) (dSeq (dRet (dAndV (dOp oIsN (dVar 4) (dC .non)) (dOp oIsN (dVar 5) (dC .non))))
    (dNext)) (dNext))
    (dSeq (dRet (dAndV (dOp oNotN (dVar 4) (dC .non)) (dAndV (dOp oEq (dCB cLen (dCons (dVar 4) (dNil))) (dOp oShl (dC (.int 1)) (dVar 0))) (dAndV (dOp oNotN (dVar 5) (dC .non)) (dOp oEq (dCB cLen (dCons (dOp oIx (dVar 5) (dC (.int 1))) (dNil))) (dOp oShl (dC (.int 1)) (dVar 0)))))))
    (dNext)) ⟨nx, WkV q, bk, ct⟩ [some (.int m), some (.ref pm), none, some x3, some u1, some u2] h' := by
    intro u1 u2 h' S hu x3 nx bk ct
    have cp : CPow 1 (m : Int) := ⟨by omega, by omega, by decide⟩
    have ep : (1 : Int) * 2 ^ ((m : Int)).toNat = ((2 ^ m : Nat) : Int) := by
      rw [Int.toNat_natCast, Int.one_mul]
      exact (Int.natCast_pow 2 m).symm
    repeat infer_instance
    refine i_shl cp ?_
    rw [ep]
    repeat infer_instance
    rcases hu with ⟨hb, rfl, rfl⟩ | ⟨hb, ⟨r, came, rfl, er, cl⟩, a, ys, c, rfl, yl⟩
    · refine if_t (decide_eq_true hb) ?_
      repeat infer_instance
      refine if_t rfl ?_
      repeat infer_instance
      exact .of (hq _ S)
    · refine if_f (decide_eq_false (by omega)) ?_
      repeat infer_instance
      refine if_t rfl ?_
      repeat infer_instance
      refine l_len er ?_
      repeat infer_instance
      refine i_shl cp ?_
      rw [ep, List.length_map, cl]
      repeat infer_instance
      refine if_t (decide_eq_true rfl) ?_
      repeat infer_instance
      refine if_t rfl ?_
      repeat infer_instance
      rw [List.length_map, yl]
      refine i_shl cp ?_
      rw [ep]
      repeat infer_instance
      rw [decide_eq_true rfl]
      exact .of (hq _ S)
  refine ⟨2, abN, "a", 0, m + 1, List.replicate (m + 1) true, wideM m, 2000, rfl, H, by decide, fun gr h4 S4 => ?_, fun came mv gr r h4 S4 => ?_⟩
  · have S := S.more S4
    have hb : 2000 < ((2 ^ m : Nat) : Int) := by
      refine Classical.byContradiction fun z => ?_
      obtain ⟨_, _, e, _⟩ := (grow 2000 (by decide) _ gr).2 (by omega)
      cases e
    repeat infer_instance
    refine ⟨2, abN, "a", List.replicate (m + 1) true, wideM m, 2000, rfl, by decide, .inr ⟨0, m + 1, H, by decide, fun res gr h5 S5 => ?_⟩⟩
    have er := (grow 2000 (by decide) _ gr).1 hb
    subst er
    repeat infer_instance
    exact main _ _ _ ((S.more S5).none) (.inl ⟨hb, rfl, rfl⟩) _ _ _ _
  · have S1 := S.more S4
    have hb : ((2 ^ m : Nat) : Int) ≤ 2000 := by
      refine Classical.byContradiction fun z => ?_
      have e := (grow 2000 (by decide) _ gr).1 (by omega)
      cases e
    obtain ⟨_, _, e, cl⟩ := (grow 2000 (by decide) _ gr).2 hb
    cases e
    repeat infer_instance
    refine ⟨2, abN, "a", List.replicate (m + 1) true, wideM m, 2000, rfl, by decide, .inr ⟨0, m + 1, H, by decide, fun res gr2 h5 S5 => ?_⟩⟩
    obtain ⟨came2, mv2, e2, cl2⟩ := (grow 2000 (by decide) _ gr2).2 hb
    subst e2
    repeat infer_instance
    exact main _ _ _ ((S1.more S5).none) (.inr ⟨hb, ⟨r, _, rfl, lstU_mono S5.fr (S4.lget 0 rfl), cl⟩, _, _, _, rfl, by rw [List.length_map]; exact cl2⟩) _ _ _ _

end K42

set_option Elab.async false
set_option linter.all false
set_option maxRecDepth 100000
set_option maxHeartbeats 4000000
namespace K42
open PySem L2 NdefX LamX KG DL
local macro_rules | `(tactic| infer_instance) => `(tactic| with_reducible first | exact subS_nil | refine subS_same ?_ | refine subS_none ?_ | refine s_seq ?_ | refine s_asg ?_ | refine s_if ?_ | refine s_ret ?_ | refine s_retN ?_ | refine s_drop ?_ | refine s_for ?_ | refine s_next ?_ | refine s_break ?_ | refine s_cont ?_ | refine v_c ?_ | refine v_op ?_ | refine v_un ?_ | refine v_if ?_ | refine v_nil ?_ | refine v_cons ?_ | refine v_CB ?_ | refine v_BM0 ?_ | refine v_BM ?_ | refine v_call ?_ | refine v_B ?_ | refine k_bl ?_ | refine v_and ?_ | refine v_or ?_ | refine v_not ?_ | refine v_yes ?_ | refine v_andV ?_ | refine v_orV ?_ | refine k_and ?_ | refine k_or ?_ | refine v_rNot ?_ | refine w_any ?_ | refine k_anyT ?_ | refine k_anyS ?_ | refine w_rng1 ?_ | refine w_zip ?_ | refine v_lc ?_ | refine v_lst ?_ | refine v_rev ?_ | refine v_revS ?_ | refine v_noP ?_ | refine v_part ?_ | refine k_part ?_ | refine v_sl ?_ | refine t_sl ?_ | refine t_list ?_ | refine k_isT ?_ | refine g_sb ?_ | refine v_kv0 ?_ | refine v_kv ?_ | refine v_dis ?_ | refine v_disT ?_ | refine i_add ?_ | refine i_sub ?_ | refine i_neg ?_ | refine i_lt ?_ | refine i_le ?_ | refine i_gt ?_ | refine i_ge ?_ | refine i_eq ?_ | refine i_ne ?_ | refine s_eq ?_ | refine s_ne ?_ | refine b_eq ?_ | refine b_ne ?_ | refine n_is ?_ | refine n_not ?_ | refine t_len ?_ | refine t_tuple ?_ | refine i_abs ?_ | refine i_int ?_ | refine b_int ?_ | refine g_unp ?_ | refine g_nms0 ?_ | refine g_nmsS ?_ | refine g_nm0 ?_  | refine g_nm1 ?_  | refine g_nm2 ?_  | refine g_nm3 ?_  | refine g_nm4 ?_  | refine g_nm5 ?_  | refine g_nm6 ?_  | refine g_nm7 ?_  | refine g_nm8 ?_  | refine g_nm9 ?_  | refine g_nm10 ?_  | refine g_nm11 ?_  | refine g_nm12 ?_  | refine g_nm13 ?_  | refine g_nm14 ?_  | refine g_nm15 ?_  | refine g_nm16 ?_  | refine g_nm17 ?_  | refine g_nm18 ?_  | refine g_nm19 ?_  | refine g_nm20 ?_  | refine g_nm21 ?_  | refine g_nm22 ?_  | refine g_nm23 ?_  | refine g_nm24 ?_  | refine g_nm25 ?_  | refine g_nm26 ?_  | refine g_nm27 ?_  | refine g_nm28 ?_  | refine g_nm29 ?_  | refine g_nm30 ?_  | refine g_nm31 ?_)
local macro_rules | `(tactic| infer_instance) => `(tactic| first | ((with_reducible apply v_var); rfl) | ((with_reducible apply t_ix); rfl) | ((with_reducible apply l_len); (first | exact Sep.lget ‹_› 0 rfl | exact Sep.lget ‹_› 1 rfl | exact Sep.lget ‹_› 2 rfl | exact Sep.lget ‹_› 3 rfl | exact Sep.lget ‹_› 4 rfl | exact Sep.lget ‹_› 5 rfl | exact Sep.lget ‹_› 6 rfl | exact Sep.lget ‹_› 7 rfl))  | ((with_reducible apply l_tuple); (first | exact Sep.lget ‹_› 0 rfl | exact Sep.lget ‹_› 1 rfl | exact Sep.lget ‹_› 2 rfl | exact Sep.lget ‹_› 3 rfl | exact Sep.lget ‹_› 4 rfl | exact Sep.lget ‹_› 5 rfl | exact Sep.lget ‹_› 6 rfl | exact Sep.lget ‹_› 7 rfl))  | ((with_reducible apply k_anyL); (first | exact Sep.lget ‹_› 0 rfl | exact Sep.lget ‹_› 1 rfl | exact Sep.lget ‹_› 2 rfl | exact Sep.lget ‹_› 3 rfl | exact Sep.lget ‹_› 4 rfl | exact Sep.lget ‹_› 5 rfl | exact Sep.lget ‹_› 6 rfl | exact Sep.lget ‹_› 7 rfl)) | ((with_reducible apply k_isL); (first | exact Sep.lget ‹_› 0 rfl | exact Sep.lget ‹_› 1 rfl | exact Sep.lget ‹_› 2 rfl | exact Sep.lget ‹_› 3 rfl | exact Sep.lget ‹_› 4 rfl | exact Sep.lget ‹_› 5 rfl | exact Sep.lget ‹_› 6 rfl | exact Sep.lget ‹_› 7 rfl))  | ((with_reducible apply l_list); (first | exact Sep.lget ‹_› 0 rfl | exact Sep.lget ‹_› 1 rfl | exact Sep.lget ‹_› 2 rfl | exact Sep.lget ‹_› 3 rfl | exact Sep.lget ‹_› 4 rfl | exact Sep.lget ‹_› 5 rfl | exact Sep.lget ‹_› 6 rfl | exact Sep.lget ‹_› 7 rfl))  | ((with_reducible apply k_rev); (first | exact Sep.lget ‹_› 0 rfl | exact Sep.lget ‹_› 1 rfl | exact Sep.lget ‹_› 2 rfl | exact Sep.lget ‹_› 3 rfl | exact Sep.lget ‹_› 4 rfl | exact Sep.lget ‹_› 5 rfl | exact Sep.lget ‹_› 6 rfl | exact Sep.lget ‹_› 7 rfl))  | ((with_reducible apply l_sl); (first | exact Sep.lget ‹_› 0 rfl | exact Sep.lget ‹_› 1 rfl | exact Sep.lget ‹_› 2 rfl | exact Sep.lget ‹_› 3 rfl | exact Sep.lget ‹_› 4 rfl | exact Sep.lget ‹_› 5 rfl | exact Sep.lget ‹_› 6 rfl | exact Sep.lget ‹_› 7 rfl)) | (with_reducible refine v_tup ?_) | (with_reducible refine And.intro (szb rfl) ?_) | (dsimp only [wipeU, List.set]))
local macro_rules | `(tactic| infer_instance) => `(tactic| first | (with_reducible first | refine v_dict0 ?_ | refine v_tupF ?_ | refine v_slF ?_ | refine v_tix ?_ | refine k_tix ?_ | refine w_enu ?_ | refine w_rng2 ?_ | refine v_sortSetI ?_ | refine k_anyFT ?_ | refine ft_len ?_) | ((with_reducible apply l_tupleF); (first | exact Sep.lget ‹_› 0 rfl | exact Sep.lget ‹_› 1 rfl | exact Sep.lget ‹_› 2 rfl | exact Sep.lget ‹_› 3 rfl | exact Sep.lget ‹_› 4 rfl | exact Sep.lget ‹_› 5 rfl | exact Sep.lget ‹_› 6 rfl | exact Sep.lget ‹_› 7 rfl)) | ((with_reducible apply ft_ix); rfl))
/-! ### the law's chain -/
def sp__law_chain : DP := fun us h q _ => ∃ (g0 : HU) (L : List (Addr × UO)) (p : Addr) (b : Nat) (ws : List Str) (at_ : Nat), us = [.ref p, .int (b : Nat), .ft (ws.map U.str), .int (at_ : Nat)] ∧ Feed g0 p L h ∧ WF b ws.length at_ ∧
  ∀ n yes moves form m figs, ChainM b ws.length at_ n yes moves form m figs → ∀ h', Feed g0 p L h' → q (mX (.ft (ws.map U.str)) yes moves) h'
def t__law_chain : DS := dSeq (dAsg (dCall sp__law_draw [] x0 (dCons (dVar 0) (dCons (dC (.int 3)) (dNil)))) (gNm 4))
    (dSeq (dAsg (dOp oAdd (dC (.int 8)) (dCall sp__law_draw [] x0 (dCons (dVar 0) (dCons (dOp oIx (dLst (dCons (dC (.int 12)) (dCons (dC (.int 12)) (dCons (dC (.int 54)) (dNil))))) (dVar 4)) (dNil))))) (gNm 5))
    (dSeq (dAsg (dC (.int 1)) (gNm 6))
    (dSeq (dAsg (dC (.int 1)) (gNm 7))
    (dSeq (dFor (iRng1 (dCons (dCB cLen (dCons (dVar 2) (dNil))) (dNil))) (gNm 8) (dSeq (dAsg (dOp oMul (dVar 7) (dVar 1)) (gNm 7))
    (dSeq (dAsg (dOp oIx (dLst (dCons (dVar 6) (dCons (dOp oMul (dVar 6) (dVar 1)) (dNil)))) (dCB cInt (dCons (dOp oGt (dVar 8) (dVar 3)) (dNil)))) (gNm 6))
    (dNext))))
    (dSeq (dAsg (dLst (dNil)) (gNm 9))
    (dSeq (dFor (iRng1 (dCons (dOp oSub (dVar 5) (dC (.int 1))) (dNil))) (gNm 10) (dSeq (dAsg (dOp oMul (dLst (dCons (dOp oIx (dLst (dCons (dC (.int 0)) (dCons (dVar 10) (dCons (dVar 5) (dNil))))) (dVar 4)) (dNil))) (dVar 7)) (gNm 11))
    (dSeq (dAsg (dCall sp__law_draw [] x0 (dCons (dVar 0) (dCons (dVar 1) (dNil)))) (gNm 12))
    (dSeq (dIfS (dAnd (dB (dOp oEq (dVar 10) (dOp oSub (dVar 5) (dC (.int 2))))) (dB (dOp oEq (dVar 12) (dC (.int 0))))) (dSeq (dAsg (dOp oSub (dVar 1) (dC (.int 1))) (gNm 12))
    (dNext)) (dNext))
    (dSeq (dAsg (dOp oAdd (dVar 10) (dC (.int 1))) (gSb (dVar 11) (dOp oMul (dVar 12) (dVar 6))))
    (dSeq (dDrop (dBM isLst mAppend (dVar 9) (dCons (dCB cTuple (dCons (dVar 11) (dNil))) (dNil))))
    (dNext)))))))
    (dSeq (dDrop (dBM isLst mExtend (dVar 9) (dCons (dLst (dCons (dOp oMulT (dTup (dCons (dOp oSub (dVar 5) (dC (.int 1))) (dNil))) (dVar 7)) (dCons (dOp oMulT (dTup (dCons (dVar 5) (dNil))) (dVar 7)) (dNil)))) (dNil))))
    (dSeq (dRet (dTup (dCons (dVar 2) (dCons (dCB cTuple (dCons (dLc (iRng1 (dCons (dOp oAdd (dVar 5) (dC (.int 1))) (dNil))) (gNm 10) dYes (dOp oEq (dVar 10) (dOp oSub (dVar 5) (dC (.int 1)))) [10]) (dNil))) (dCons (dCB cTuple (dCons (dVar 9) (dNil))) (dNil))))))
    (dNext)))))))))
theorem pow_le64 {b len at_ : Nat} (A : WF b len at_) : 2 ≤ b ^ len ∧ b ^ len ≤ 64 ∧ b ^ (len - 1 - at_) ≤ 64 := by
  have h := A.a_
  rcases A.b_ with rfl | rfl | rfl <;> rcases A.l_ with rfl | rfl | rfl <;> refine ⟨by decide, by decide, Nat.le_trans (Nat.pow_le_pow_right (by decide) (show _ ≤ 2 by omega)) (by decide)⟩
theorem chain_yes {m : Nat} (hm : 8 ≤ m) : (List.range (m + 1)).map (fun (r : Nat) => U.bl (decide ((r : Int) = (m : Int) - 1))) = (chainY m).map U.bl := by
  unfold chainY
  rw [List.map_map]
  refine List.map_congr_left fun r _ => ?_
  show U.bl _ = U.bl _
  refine congrArg U.bl (decide_eq_decide.mpr ?_)
  omega
theorem p__law_chain {us : List U} {h : HU} {q : DV} {y : DXK} {bk ct : SU → HU → Prop} (hs : sp__law_chain us h q y) : t__law_chain ⟨fun _ h' => WkV q .non h', WkV q, bk, ct⟩ (startN 13 us) h := by
  obtain ⟨g0, L, p, b, ws, at_, rfl, ⟨l, n, sd, gs, fi, S⟩, A, hq⟩ := hs
  show t__law_chain _ [some (.ref p), some (.int b), some (.ft (ws.map U.str)), some (.int at_), none, none, none, none, none, none, none, none, none] h
  obtain ⟨g, S, -, -, back⟩ := Sep.call (pre := [(p, feedO l n sd), (l, .lst (gs.map U.int))]) (rest := L) S
  have hq' : ∀ n yes moves form m figs, ChainM b ws.length at_ n yes moves form m figs → ∀ h', Feed g p [] h' → q (mX (.ft (ws.map U.str)) yes moves) h' := fun n yes moves form m figs c h' ⟨l, n', sd, gs, fi, S⟩ => hq n yes moves form m figs c h' ⟨l, n', sd, gs, fi, back _ _ S⟩
  have F : Feed g p [] h := ⟨l, n, sd, gs, fi, S⟩
  clear fi S back hq
  obtain ⟨w2, w64, s64⟩ := pow_le64 A
  have hat := A.a_
  have hb : 2 ≤ b ∧ b ≤ 4 := by rcases A.b_ with z | z | z <;> omega
  have hl : 1 ≤ ws.length ∧ ws.length ≤ 3 := by rcases A.l_ with z | z | z <;> omega
  have facts := A.facts.1
  unfold t__law_chain
  repeat infer_instance
  refine u_draw (m := 3) F (by decide) (by decide) fun form hform h1 F => ?_
  repeat infer_instance
  obtain ⟨l, n, sd, gs, fi, S⟩ := F
  refine k_new S fun pl h2 S => ?_
  obtain ⟨c, ec, hc, hc54, hc1⟩ : ∃ c : Nat, atI [U.int 12, U.int 12, U.int 54] (form : Nat) = some (.int c) ∧ (form < 2 → c = 12) ∧ c ≤ 54 ∧ 1 ≤ c := by
    match form, hform with
    | 0, _ => exact ⟨12, rfl, fun _ => rfl, by decide, by decide⟩
    | 1, _ => exact ⟨12, rfl, fun _ => rfl, by decide, by decide⟩
    | 2, _ => exact ⟨54, rfl, fun z => by omega, by decide, by decide⟩
  repeat infer_instance
  refine l_ix (S.lget 0 rfl) ec ?_
  have F : Feed g p [] h2 := ⟨l, n, sd, gs, fi, S.pick [1, 2]⟩
  clear fi S
  repeat infer_instance
  refine u_draw F hc1 (by omega) fun d hd h3 F => ?_
  have em : (8 : Int) + (d : Int) = ((8 + d : Nat) : Int) := by omega
  repeat infer_instance
  rw [em]
  have m8 : 8 ≤ 8 + d := by omega
  have m61 : 8 + d ≤ 61 := by omega
  have mf : form < 2 → 8 + d ≤ 19 := fun z => by
    have := hc z
    omega
  clear ec hc hc54 hc1 hd em
  generalize 8 + d = m at m8 m61 mf ⊢
  repeat infer_instance
  rw [List.length_map]
  refine k_rngN (by omega) ?_
  refine f_invA (List.range ws.length) (fun k => U.int (k : Nat)) (rng_map _) (fun i s h' => s = [some (.ref p), some (.int b), some (.ft (ws.map U.str)), some (.int at_), some (.int (form : Nat)), some (.int (m : Nat)), some (.int ((b ^ (i - 1 - at_) : Nat) : Int)), some (.int ((b ^ i : Nat) : Int)), none, none, none, none, none] ∧ Feed g p [] h') ⟨by simp, F⟩ (fun _ _ _ _ => True.intro) ?_ ?_
  · rintro i i' ei s h4 ⟨rfl, F⟩
    have hi := (List.getElem?_eq_some_iff.mp ei).1
    rw [List.length_range] at hi
    rw [List.getElem?_range hi] at ei
    cases ei
    repeat infer_instance
    refine i_mul (.inr ⟨by omega, by omega⟩) ?_
    repeat infer_instance
    refine i_mul (.inr ⟨by omega, by omega⟩) ?_
    repeat infer_instance
    obtain ⟨l, n, sd, gs, fi, S⟩ := F
    refine k_new S fun pl h5 S => ?_
    repeat infer_instance
    have ex : atI [U.int ((b ^ (i - 1 - at_) : Nat) : Int), U.int (((b ^ (i - 1 - at_) : Nat) : Int) * (b : Nat))] (if decide ((at_ : Int) < (i : Nat)) = true then 1 else 0) = some (.int ((b ^ (i + 1 - 1 - at_) : Nat) : Int)) := by
      by_cases q : at_ < i
      · rw [if_pos (decide_eq_true (by omega))]
        show some _ = _
        rw [show i + 1 - 1 - at_ = (i - 1 - at_) + 1 by omega, Nat.pow_succ, Int.natCast_mul]
      · rw [if_neg (by rw [decide_eq_true_iff]; omega)]
        show some _ = _
        rw [show i + 1 - 1 - at_ = i - 1 - at_ by omega]
    refine l_ix (S.lget 0 rfl) ex ?_
    repeat infer_instance
    refine wk ?_ ⟨rfl, ⟨l, n, sd, gs, fi, S.pick [1, 2]⟩⟩
    rw [Nat.pow_succ, Int.natCast_mul]
    repeat infer_instance
  rintro s h4 ⟨rfl, F⟩
  rw [List.length_range]
  generalize estep : b ^ (ws.length - 1 - at_) = step at s64 facts ⊢
  generalize ew : b ^ ws.length = w at w2 w64 facts ⊢
  obtain ⟨l, n, sd, gs, fi, S⟩ := F
  repeat infer_instance
  refine k_new S fun pm h5 S => ?_
  repeat infer_instance
  have e1 : (m : Int) - 1 = ((m - 1 : Nat) : Int) := by omega
  rw [e1]
  refine k_rngN (by omega) ?_
  refine f_invA (List.range (m - 1)) (fun k => U.int (k : Nat)) (rng_map _) (fun i s h' => ∃ figs : List Nat, s = [some (.ref p), some (.int b), some (.ft (ws.map U.str)), some (.int at_), some (.int (form : Nat)), some (.int (m : Nat)), some (.int (step : Nat)), some (.int (w : Nat)), none, some (.ref pm), none, none, none] ∧ figs.length = i ∧ (∀ f ∈ figs, f < b) ∧ Feed g p [(pm, .lst ((chainRows w step form m figs).map tupN))] h')
    ⟨[], rfl, rfl, (fun _ z => nomatch z), l, n, sd, gs, fi, S.pick [1, 2, 0]⟩ (fun _ _ _ _ => True.intro) ?_ ?_
  · rintro i i' ei s h6 ⟨figs, rfl, hfl, hfb, F⟩
    have hi := (List.getElem?_eq_some_iff.mp ei).1
    rw [List.length_range] at hi
    rw [List.getElem?_range hi] at ei
    cases ei
    repeat infer_instance
    obtain ⟨l, n, sd, gs, fi, S⟩ := F
    refine k_new S fun pb h7 S => ?_
    repeat infer_instance
    have eb : atI [U.int 0, U.int (i : Nat), U.int (m : Nat)] (form : Nat) = some (.int (backC form m i : Nat)) := by
      match form, hform with
      | 0, _ => rfl
      | 1, _ => rfl
      | 2, _ => rfl
    refine l_ix (S.lget 0 rfl) eb ?_
    repeat infer_instance
    refine k_new S fun px h8 S => ?_
    repeat infer_instance
    refine l_mul S 0 rfl (by omega) (by omega) (sz (by simp; omega)) ?_
    have er : (List.replicate ((w : Nat) : Int).toNat [U.int (backC form m i : Nat)]).flatten = intsN (List.replicate w (backC form m i)) := by
      rw [Int.toNat_natCast, flat_rep]
      unfold intsN
      rw [List.map_replicate]
    rw [er]
    refine k_new S fun pg h9 S => ?_
    have F : Feed g p [(pg, .lst (intsN (List.replicate w (backC form m i)))), (pm, .lst ((chainRows w step form m figs).map tupN))] h9 := ⟨l, n, sd, gs, fi, S.pick [3, 4, 0, 5]⟩
    clear fi S
    repeat infer_instance
    refine u_draw F (by omega) (by omega) fun f hf h10 F => ?_
    have tail : ∀ (f' : Nat), f' < b → ∀ h', Feed g p [(pg, .lst (intsN (List.replicate w (backC form m i)))), (pm, .lst ((chainRows w step form m figs).map tupN))] h' → ∀ (rt : DV) (bk : SU → HU → Prop) (Pv : SU → HU → Prop), (∀ h'' : HU, ∀ figs' : List Nat, figs'.length = i + 1 → (∀ f ∈ figs', f < b) → Feed g p [(pm, .lst ((chainRows w step form m figs').map tupN))] h'' → Pv [some (.ref p), some (.int b), some (.ft (ws.map U.str)), some (.int at_), some (.int (form : Nat)), some (.int (m : Nat)), some (.int (step : Nat)), some (.int (w : Nat)), none, some (.ref pm), none, none, none] h'') →
        dSeq (dAsg (dOp oAdd (dVar 10) (dC (.int 1))) (gSb (dVar 11) (dOp oMul (dVar 12) (dVar 6))))
          (dSeq (dDrop (dBM isLst mAppend (dVar 9) (dCons (dCB cTuple (dCons (dVar 11) (dNil))) (dNil))))
          (dNext)) ⟨WkS Pv, rt, bk, WkS Pv⟩ [some (.ref p), some (.int b), some (.ft (ws.map U.str)), some (.int at_), some (.int (form : Nat)), some (.int (m : Nat)), some (.int (step : Nat)), some (.int (w : Nat)), none, some (.ref pm), some (.int (i : Nat)), some (.ref pg), some (.int (f' : Nat))] h' := by
      intro f' hf' h' F rt bk Pv hP
      obtain ⟨l, n, sd, gs, fi, S⟩ := F
      have hx := (facts f' hf').1
      repeat infer_instance
      refine i_mul (.inr ⟨by omega, by omega⟩) ?_
      have exn : ixN (intsN (List.replicate w (backC form m i))).length ((f' : Int) * (step : Int)) = some (f' * step) := by
        have e : (f' : Int) * (step : Int) = ((f' * step : Nat) : Int) := (Int.natCast_mul f' step).symm
        unfold ixN
        rw [e, List.length_map, List.length_replicate, if_pos (by omega), if_pos (by omega), Int.toNat_natCast]
      refine o_setL S 2 rfl exn fun h11 S => ?_
      have es : (intsN (List.replicate w (backC form m i))).set (f' * step) (U.int ((i : Int) + 1)) = intsN ((List.replicate w (backC form m i)).set (f' * step) (i + 1)) := by
        unfold intsN
        rw [List.map_set]
        rfl
      rw [es] at S
      repeat infer_instance
      have rl : (chainRows w step form m figs).length = i := by
        unfold chainRows
        rw [List.length_map, List.length_zipIdx, hfl]
      refine m_app S 3 rfl (szl (by rw [List.length_map, rl]; omega)) fun h12 S => ?_
      repeat infer_instance
      refine wk ?_ (hP h12 (figs ++ [f']) (by simp [hfl]) (fun x hx => ?_) ⟨l, n, sd, gs, fi, ?_⟩)
      · repeat infer_instance
      · rcases List.mem_append.mp hx with z | z
        · exact hfb x z
        · rw [List.mem_singleton.mp z]
          exact hf'
      · rw [chainRows_snoc, hfl, List.map_append]
        exact S.pick [0, 1, 3]
    have join : ∀ h'' : HU, ∀ figs' : List Nat, figs'.length = i + 1 → (∀ f ∈ figs', f < b) → Feed g p [(pm, .lst ((chainRows w step form m figs').map tupN))] h'' → ∃ figs : List Nat, [some (.ref p), some (.int b), some (.ft (ws.map U.str)), some (.int at_), some (.int (form : Nat)), some (.int (m : Nat)), some (.int (step : Nat)), some (.int (w : Nat)), none, some (.ref pm), none, none, none] = ([some (.ref p), some (.int b), some (.ft (ws.map U.str)), some (.int at_), some (.int (form : Nat)), some (.int (m : Nat)), some (.int (step : Nat)), some (.int (w : Nat)), none, some (.ref pm), none, none, none] : SU) ∧ figs.length = i + 1 ∧ (∀ f ∈ figs, f < b) ∧ Feed g p [(pm, .lst ((chainRows w step form m figs).map tupN))] h'' := fun h'' figs' a b' c => ⟨figs', rfl, a, b', c⟩
    repeat infer_instance
    refine if_d (fun hz => ?_) (fun hz => ?_)
    · repeat infer_instance
      refine if_d (fun hz2 => ?_) (fun hz2 => ?_)
      · repeat infer_instance
        have ef : (b : Int) - 1 = ((b - 1 : Nat) : Int) := by omega
        rw [ef]
        exact tail (b - 1) (by omega) h10 F _ _ _ join
      · repeat infer_instance
        exact tail f hf h10 F _ _ _ join
    · refine if_f rfl ?_
      repeat infer_instance
      exact tail f hf h10 F _ _ _ join
  · rintro s h6 ⟨figs, rfl, hfl, hfb, F⟩
    rw [List.length_range] at hfl
    obtain ⟨l, n, sd, gs, fi, S⟩ := F
    have rl : (chainRows w step form m figs).length = m - 1 := by
      unfold chainRows
      rw [List.length_map, List.length_zipIdx, hfl]
    repeat infer_instance
    refine t_mul (by simp) (by omega) (by omega) (by simp) ?_
    repeat infer_instance
    refine t_mul (by simp) (by omega) (by omega) (by simp) ?_
    rw [e1, Int.toNat_natCast, flat_rep, flat_rep, rep_tup, rep_tup]
    repeat infer_instance
    refine k_new S fun pe h7 S => ?_
    repeat infer_instance
    refine m_ext S 3 0 rfl rfl (sz (by rw [List.length_map, rl]; show m - 1 + 2 ≤ _; omega)) fun h8 S => ?_
    repeat infer_instance
    have e2 : (m : Int) + 1 = ((m + 1 : Nat) : Int) := by omega
    rw [e2]
    refine k_rngN (by omega) ?_
    refine lc_mapA (List.range (m + 1)) (fun k => U.int (k : Nat)) (rng_map _) (fun (r : Nat) => U.bl (decide ((r : Int) = (m : Int) - 1))) (szl (by rw [List.length_range]; omega)) True.intro (fun r hr C N hC => ?_) ?_
    · repeat infer_instance
      refine if_t rfl ?_
      repeat infer_instance
      exact hC
    rw [chain_yes m8]
    refine k_new S fun py h9 S => ?_
    repeat infer_instance
    have eM : (chainRows w step form m figs).map tupN ++ [tupN (List.replicate w (m - 1)), tupN (List.replicate w m)] = (chainMv w step form m figs).map tupN := by
      unfold chainMv
      rw [List.map_append]
      rfl
    rw [eM]
    exact .of (hq' (m + 1) _ _ form m figs ⟨hform, m8, m61, mf, rfl, hfl, hfb, rfl, by rw [estep, ew]⟩ _ ⟨l, n, sd, gs, fi, S.pick [2, 3]⟩)

end K42

set_option Elab.async false
set_option linter.all false
set_option maxRecDepth 100000
set_option maxHeartbeats 4000000
namespace K42
open PySem L2 NdefX LamX KG DL
local macro_rules | `(tactic| infer_instance) => `(tactic| with_reducible first | exact subS_nil | refine subS_same ?_ | refine subS_none ?_ | refine s_seq ?_ | refine s_asg ?_ | refine s_if ?_ | refine s_ret ?_ | refine s_retN ?_ | refine s_drop ?_ | refine s_for ?_ | refine s_next ?_ | refine s_break ?_ | refine s_cont ?_ | refine v_c ?_ | refine v_op ?_ | refine v_un ?_ | refine v_if ?_ | refine v_nil ?_ | refine v_cons ?_ | refine v_CB ?_ | refine v_BM0 ?_ | refine v_BM ?_ | refine v_call ?_ | refine v_B ?_ | refine k_bl ?_ | refine v_and ?_ | refine v_or ?_ | refine v_not ?_ | refine v_yes ?_ | refine v_andV ?_ | refine v_orV ?_ | refine k_and ?_ | refine k_or ?_ | refine v_rNot ?_ | refine w_any ?_ | refine k_anyT ?_ | refine k_anyS ?_ | refine w_rng1 ?_ | refine w_zip ?_ | refine v_lc ?_ | refine v_lst ?_ | refine v_rev ?_ | refine v_revS ?_ | refine v_noP ?_ | refine v_part ?_ | refine k_part ?_ | refine v_sl ?_ | refine t_sl ?_ | refine t_list ?_ | refine k_isT ?_ | refine g_sb ?_ | refine v_kv0 ?_ | refine v_kv ?_ | refine v_dis ?_ | refine v_disT ?_ | refine i_add ?_ | refine i_sub ?_ | refine i_neg ?_ | refine i_lt ?_ | refine i_le ?_ | refine i_gt ?_ | refine i_ge ?_ | refine i_eq ?_ | refine i_ne ?_ | refine s_eq ?_ | refine s_ne ?_ | refine b_eq ?_ | refine b_ne ?_ | refine n_is ?_ | refine n_not ?_ | refine t_len ?_ | refine t_tuple ?_ | refine i_abs ?_ | refine i_int ?_ | refine b_int ?_ | refine g_unp ?_ | refine g_nms0 ?_ | refine g_nmsS ?_ | refine g_nm0 ?_  | refine g_nm1 ?_  | refine g_nm2 ?_  | refine g_nm3 ?_  | refine g_nm4 ?_  | refine g_nm5 ?_  | refine g_nm6 ?_  | refine g_nm7 ?_  | refine g_nm8 ?_  | refine g_nm9 ?_  | refine g_nm10 ?_  | refine g_nm11 ?_  | refine g_nm12 ?_  | refine g_nm13 ?_  | refine g_nm14 ?_  | refine g_nm15 ?_  | refine g_nm16 ?_  | refine g_nm17 ?_  | refine g_nm18 ?_  | refine g_nm19 ?_  | refine g_nm20 ?_  | refine g_nm21 ?_  | refine g_nm22 ?_  | refine g_nm23 ?_  | refine g_nm24 ?_  | refine g_nm25 ?_  | refine g_nm26 ?_  | refine g_nm27 ?_  | refine g_nm28 ?_  | refine g_nm29 ?_  | refine g_nm30 ?_  | refine g_nm31 ?_)
local macro_rules | `(tactic| infer_instance) => `(tactic| first | ((with_reducible apply v_var); rfl) | ((with_reducible apply t_ix); rfl) | ((with_reducible apply l_len); (first | exact Sep.lget ‹_› 0 rfl | exact Sep.lget ‹_› 1 rfl | exact Sep.lget ‹_› 2 rfl | exact Sep.lget ‹_› 3 rfl | exact Sep.lget ‹_› 4 rfl | exact Sep.lget ‹_› 5 rfl | exact Sep.lget ‹_› 6 rfl | exact Sep.lget ‹_› 7 rfl))  | ((with_reducible apply l_tuple); (first | exact Sep.lget ‹_› 0 rfl | exact Sep.lget ‹_› 1 rfl | exact Sep.lget ‹_› 2 rfl | exact Sep.lget ‹_› 3 rfl | exact Sep.lget ‹_› 4 rfl | exact Sep.lget ‹_› 5 rfl | exact Sep.lget ‹_› 6 rfl | exact Sep.lget ‹_› 7 rfl))  | ((with_reducible apply k_anyL); (first | exact Sep.lget ‹_› 0 rfl | exact Sep.lget ‹_› 1 rfl | exact Sep.lget ‹_› 2 rfl | exact Sep.lget ‹_› 3 rfl | exact Sep.lget ‹_› 4 rfl | exact Sep.lget ‹_› 5 rfl | exact Sep.lget ‹_› 6 rfl | exact Sep.lget ‹_› 7 rfl)) | ((with_reducible apply k_isL); (first | exact Sep.lget ‹_› 0 rfl | exact Sep.lget ‹_› 1 rfl | exact Sep.lget ‹_› 2 rfl | exact Sep.lget ‹_› 3 rfl | exact Sep.lget ‹_› 4 rfl | exact Sep.lget ‹_› 5 rfl | exact Sep.lget ‹_› 6 rfl | exact Sep.lget ‹_› 7 rfl))  | ((with_reducible apply l_list); (first | exact Sep.lget ‹_› 0 rfl | exact Sep.lget ‹_› 1 rfl | exact Sep.lget ‹_› 2 rfl | exact Sep.lget ‹_› 3 rfl | exact Sep.lget ‹_› 4 rfl | exact Sep.lget ‹_› 5 rfl | exact Sep.lget ‹_› 6 rfl | exact Sep.lget ‹_› 7 rfl))  | ((with_reducible apply k_rev); (first | exact Sep.lget ‹_› 0 rfl | exact Sep.lget ‹_› 1 rfl | exact Sep.lget ‹_› 2 rfl | exact Sep.lget ‹_› 3 rfl | exact Sep.lget ‹_› 4 rfl | exact Sep.lget ‹_› 5 rfl | exact Sep.lget ‹_› 6 rfl | exact Sep.lget ‹_› 7 rfl))  | ((with_reducible apply l_sl); (first | exact Sep.lget ‹_› 0 rfl | exact Sep.lget ‹_› 1 rfl | exact Sep.lget ‹_› 2 rfl | exact Sep.lget ‹_› 3 rfl | exact Sep.lget ‹_› 4 rfl | exact Sep.lget ‹_› 5 rfl | exact Sep.lget ‹_› 6 rfl | exact Sep.lget ‹_› 7 rfl)) | (with_reducible refine v_tup ?_) | (with_reducible refine And.intro (szb rfl) ?_) | (dsimp only [wipeU, List.set]))
local macro_rules | `(tactic| infer_instance) => `(tactic| first | (with_reducible first | refine v_dict0 ?_ | refine v_tupF ?_ | refine v_slF ?_ | refine v_tix ?_ | refine k_tix ?_ | refine w_enu ?_ | refine w_rng2 ?_ | refine v_sortSetI ?_ | refine k_anyFT ?_ | refine ft_len ?_) | ((with_reducible apply l_tupleF); (first | exact Sep.lget ‹_› 0 rfl | exact Sep.lget ‹_› 1 rfl | exact Sep.lget ‹_› 2 rfl | exact Sep.lget ‹_› 3 rfl | exact Sep.lget ‹_› 4 rfl | exact Sep.lget ‹_› 5 rfl | exact Sep.lget ‹_› 6 rfl | exact Sep.lget ‹_› 7 rfl)) | ((with_reducible apply ft_ix); rfl))
/-! ### the law -/
theorem plA_mx {d : Nat} {ws : List Str} {yes : List Bool} {moves : List (List Nat)} (h1 : ws.length ≤ 1000000) (h2 : yes.length ≤ 1000000) (h3 : moves.length ≤ 1000000) (h4 : ∀ l ∈ moves, l.length ≤ 1000000) : plA (d + 4) (mX (.ft (ws.map U.str)) yes moves) := ⟨by show (3 : Nat) ≤ 1000000; decide, fun x hx => by
  simp only [List.mem_cons, List.not_mem_nil, or_false] at hx
  rcases hx with rfl | rfl | rfl
  · exact ⟨by rw [List.length_map]; exact h1, fun x hx => by
      obtain ⟨w, hw, rfl⟩ := List.mem_map.mp hx
      exact True.intro⟩
  · exact plA_bls (d := d + 1) h2
  · exact plA_moves h3 h4⟩
def t_rest2 : DS := dSeq (dIfS (dNot (dB (dCall sp__law_alike [] x0 (dCons (dCall sp_sets_of [] x0 (dCons (dVar 5) (dCons (dVar 6) (dCons (dVar 8) (dCons (dCB cLen (dCons (dVar 9) (dNil))) (dNil)))))) (dCons (dVar 9) (dNil)))))) (dSeq (dRet (dC (.bl false)))
    (dNext)) (dNext))
    (dSeq (dIfS (dNot (dB (dCall sp__law_alike [] x0 (dCons (dCall sp_some_of [] x0 (dCons (dVar 5) (dCons (dVar 6) (dCons (dVar 8) (dCons (dCB cLen (dCons (dVar 9) (dNil))) (dNil)))))) (dCons (dVar 10) (dNil)))))) (dSeq (dRet (dC (.bl false)))
    (dNext)) (dNext))
    (dSeq (dIfS (dB (dOp oNotN (dCall sp_some_of [] x0 (dCons (dVar 5) (dCons (dVar 6) (dCons (dVar 8) (dCons (dOp oSub (dCB cLen (dCons (dVar 9) (dNil))) (dC (.int 1))) (dNil)))))) (dC .non))) (dSeq (dRet (dC (.bl false)))
    (dNext)) (dNext))
    (dSeq (dRet (dAndV (dOp oIsN (dCall sp_sets_of [] x0 (dCons (dVar 5) (dCons (dVar 6) (dCons (dVar 8) (dCons (dOp oSub (dCB cLen (dCons (dVar 9) (dNil))) (dC (.int 1))) (dNil)))))) (dC .non)) (dCall sp__law_alike [] x0 (dCons (dCall sp_some_of [.int 2000] x0 (dCons (dVar 5) (dCons (dVar 6) (dCons (dOp oIx (dVar 2) (dVar 3)) (dNil))))) (dCons (dVar 6) (dNil))))))
    (dNext))))
def t_rest : DS := dSeq (dAsg (dOp oIx (dVar 4) (dVar 7)) (gNm 8))
    (dSeq (dAsg (dCall sp__law_due [] x0 (dCons (dVar 5) (dCons (dVar 6) (dCons (dVar 8) (dNil))))) (gUnp [9, 10]))
    (dSeq (dAsg (dCall sp_sets_of [.int 2000] x0 (dCons (dVar 5) (dCons (dVar 6) (dCons (dVar 8) (dNil))))) (gNm 11))
    (dSeq (dIfS (dOr (dNot (dB (dCall sp__law_alike [] x0 (dCons (dVar 11) (dCons (dVar 9) (dNil)))))) (dNot (dB (dCall sp__law_alike [] x0 (dCons (dCall sp_some_of [.int 2000] x0 (dCons (dVar 5) (dCons (dVar 6) (dCons (dVar 8) (dNil))))) (dCons (dVar 10) (dNil))))))) (dSeq (dRet (dC (.bl false)))
    (dNext)) (dNext))
    (dSeq (dDrop (dBM isLst mAppend (dVar 11) (dCons (dTup (dNil)) (dNil))))
    (dSeq (dIfS (dAnd (dB (dOp oEq (dCall sp__law_draw [] x0 (dCons (dVar 1) (dCons (dC (.int 16)) (dNil)))) (dC (.int 0)))) (dNot (dB (dCall sp__law_wide [] x0 (dCons (dOp oAdd (dC (.int 9)) (dCall sp__law_draw [] x0 (dCons (dVar 1) (dCons (dC (.int 3)) (dNil))))) (dNil)))))) (dSeq (dRet (dC (.bl false)))
    (dNext)) (dNext))
    (dSeq (dIfS (dNot (dB (dCall sp__law_alike [] x0 (dCons (dCall sp_sets_of [] x0 (dCons (dVar 5) (dCons (dVar 6) (dCons (dVar 8) (dCons (dCB cLen (dCons (dVar 9) (dNil))) (dNil)))))) (dCons (dVar 9) (dNil)))))) (dSeq (dRet (dC (.bl false)))
    (dNext)) (dNext))
    (dSeq (dIfS (dNot (dB (dCall sp__law_alike [] x0 (dCons (dCall sp_some_of [] x0 (dCons (dVar 5) (dCons (dVar 6) (dCons (dVar 8) (dCons (dCB cLen (dCons (dVar 9) (dNil))) (dNil)))))) (dCons (dVar 10) (dNil)))))) (dSeq (dRet (dC (.bl false)))
    (dNext)) (dNext))
    (dSeq (dIfS (dB (dOp oNotN (dCall sp_some_of [] x0 (dCons (dVar 5) (dCons (dVar 6) (dCons (dVar 8) (dCons (dOp oSub (dCB cLen (dCons (dVar 9) (dNil))) (dC (.int 1))) (dNil)))))) (dC .non))) (dSeq (dRet (dC (.bl false)))
    (dNext)) (dNext))
    (dSeq (dRet (dAndV (dOp oIsN (dCall sp_sets_of [] x0 (dCons (dVar 5) (dCons (dVar 6) (dCons (dVar 8) (dCons (dOp oSub (dCB cLen (dCons (dVar 9) (dNil))) (dC (.int 1))) (dNil)))))) (dC .non)) (dCall sp__law_alike [] x0 (dCons (dCall sp_some_of [.int 2000] x0 (dCons (dVar 5) (dCons (dVar 6) (dCons (dOp oIx (dVar 2) (dVar 3)) (dNil))))) (dCons (dVar 6) (dNil))))))
    (dNext))))))))))
theorem p_rest {h0 : HU} {a p : Addr} {b : Nat} {ws pool : List Str} {name other : Str} {at_ spot n : Nat} {yes : List Bool} {moves : List (List Nat)} (H : HidM b ws name spot n yes moves) (hF : ∃ S, Fam b ws spot n moves S) (ho : pool[at_]? = some other) (hno : other ∉ ws) {h : HU} (F : Feed h0 p [] h) {q : DV} (hq : ∀ h', q (.bl true) h')
    {nx bk ct : SU → HU → Prop} : t_rest ⟨nx, WkV q, bk, ct⟩ [some (.ref a), some (.ref p), some (.tup (pool.map U.str)), some (.int at_), some (.ft (ws.map U.str)), some (.int b), some (mX (.ft (ws.map U.str)) yes moves), some (.int spot), none, none, none, none] h := by
  unfold t_rest
  have l60 := H.N.l
  have ml := H.M.len
  have yl := H.M.ylen
  have n64 := H.n64
  have pw := H.N.pw
  have mrow : ∀ l ∈ moves, l.length ≤ 1000000 := fun l hl => by rw [(H.M.row l hl).1]; omega
  repeat infer_instance
  refine ft_ix (x := .str name) (atN (by rw [List.getElem?_map, H.N.at_]; rfl)) ?_
  repeat infer_instance
  refine ⟨b, ws, name, spot, n, yes, moves, rfl, H, hF, fun came mv gr r h1 S1 => ?_⟩
  have F : Feed h0 p [(r, .lst (came.map tupN))] h1 := by
    obtain ⟨l, n, sd, gs, fi, S⟩ := F
    exact ⟨l, n, sd, gs, fi, (S.more S1).pick [1, 2, 0]⟩
  clear S1
  have oth : ∀ (most : Int) res, GrowR (hidF b ws spot n moves) (wholesN b ws spot).length most [[0]] [] res → ((came.length : Int) ≤ most → res = some (came, mv)) ∧ (most < (came.length : Int) → res = none) := fun most res g => ⟨(gr.other rfl g).1, fun z => (gr.other rfl g).2 z (by decide)⟩
  obtain ⟨gi, mvl, cin, c1, cle⟩ := hid_came H gr
  have cle' : came.length ≤ 2000 := by omega
  clear cle
  have mvr : ∀ l ∈ mv, l.length ≤ 1000000 := fun l hl => by
    obtain ⟨i, hi, ei⟩ := List.mem_iff_getElem.mp hl
    obtain ⟨l2, e1, e2, _⟩ := gi.row i hi
    rw [List.getElem?_eq_getElem hi, ei] at e1
    cases e1
    have := (wholesN_len H.N).2
    omega
  have plc : ∀ x ∈ came.map tupN, plA 9 x := fun x hx => by
    obtain ⟨room, hr, rfl⟩ := List.mem_map.mp hx
    have := (cin room hr).2
    exact plA_nats (d := 7) (by omega)
  have plm : plA 10 (machU (othN ws name) (came.map (hidY b ws spot yes moves)) mv) := plA_mach (d := 6) (by have : (othN ws name).length ≤ ws.length := List.length_filter_le _ _; omega) (by rw [List.length_map]; omega) (by omega) mvr
  -- a list of just these sets
  have alikeL : ∀ (r2 : Addr) (L : List (Addr × UO)) (h' : HU) (q' : DV) (y : DXK), lstU h' r2 = some (came.map tupN) → lstU h' r = some (came.map tupN) → (∀ h2, Sep h' [] h2 → q' (.bl true) h2) → sp__law_alike [.ref r2, .ref r] h' q' y := fun r2 L h' q' y e1 e2 k => .inr ⟨r2, r, _, rfl, e1, e2, by rw [List.length_map]; omega, plc, k⟩
  repeat infer_instance
  refine ⟨b, ws, name, spot, n, yes, moves, 2000, rfl, H, by decide, fun g2 h2 S2 => ?_, fun came2 mv2 g2 r2 h2 S2 => ?_⟩
  · cases (oth _ _ g2).1 (by omega)
  cases (oth _ _ g2).1 (by omega)
  clear g2
  obtain ⟨l, n1, sd, gs, fi, S⟩ := F
  have S := S.more S2
  clear S2
  repeat infer_instance
  refine alikeL r2 [] _ _ _ (S.lget 0 rfl) (S.lget 3 rfl) fun h3 S3 => ?_
  have S := S.more S3
  clear S3
  repeat infer_instance
  refine if_f rfl ?_
  repeat infer_instance
  refine ⟨b, ws, name, yes, moves, 2000, rfl, l60, .inr ⟨spot, n, H, by decide, fun res g2 h4 S4 => ?_⟩⟩
  have er := (oth _ _ g2).1 (by omega)
  subst er
  clear g2
  have S := S.more S4
  clear S4
  repeat infer_instance
  refine .inl ⟨_, rfl, plm, fun h5 S5 => ?_⟩
  have S := S.more S5
  clear S5
  repeat infer_instance
  refine if_f rfl ?_
  repeat infer_instance
  refine m_app S 0 rfl (szl (by rw [List.length_map]; omega)) fun h6 S => ?_
  have F : Feed h0 p [(r, .lst (came.map tupN))] h6 := ⟨l, n1, sd, gs, fi, S.pick [1, 2, 3]⟩
  clear fi S
  repeat infer_instance
  refine u_draw (m := 16) F (by decide) (by decide) fun d hd h7 F => ?_
  -- behind the wide one
  have last : ∀ h', Feed h0 p [(r, .lst (came.map tupN))] h' → ∀ (u11 : U) (nx bk ct : SU → HU → Prop), t_rest2 ⟨nx, WkV q, bk, ct⟩ [some (.ref a), some (.ref p), some (.tup (pool.map U.str)), some (.int at_), some (.ft (ws.map U.str)), some (.int b), some (mX (.ft (ws.map U.str)) yes moves), some (.int spot), some (.str name), some (.ref r), some (machU (othN ws name) (came.map (hidY b ws spot yes moves)) mv), some u11] h' := by
    intro h' F u11 nx bk ct
    unfold t_rest2
    obtain ⟨l, n1, sd, gs, fi, S⟩ := F
    repeat infer_instance
    rw [List.length_map]
    repeat infer_instance
    refine ⟨b, ws, name, spot, n, yes, moves, came.length, rfl, H, by omega, fun g2 h2 S2 => ?_, fun came2 mv2 g2 r2 h2 S2 => ?_⟩
    · cases (oth _ _ g2).1 (by omega)
    cases (oth _ _ g2).1 (by omega)
    clear g2
    have S := S.more S2
    clear S2
    repeat infer_instance
    refine alikeL r2 [] _ _ _ (S.lget 0 rfl) (S.lget 3 rfl) fun h3 S3 => ?_
    have S := S.more S3
    clear S3
    repeat infer_instance
    refine if_f rfl ?_
    repeat infer_instance
    rw [List.length_map]
    repeat infer_instance
    refine ⟨b, ws, name, yes, moves, came.length, rfl, l60, .inr ⟨spot, n, H, by omega, fun res g2 h4 S4 => ?_⟩⟩
    have er := (oth _ _ g2).1 (by omega)
    subst er
    clear g2
    have S := S.more S4
    clear S4
    repeat infer_instance
    refine .inl ⟨_, rfl, plm, fun h5 S5 => ?_⟩
    have S := S.more S5
    clear S5
    repeat infer_instance
    refine if_f rfl ?_
    repeat infer_instance
    rw [List.length_map]
    repeat infer_instance
    refine ⟨b, ws, name, yes, moves, (came.length : Int) - 1, rfl, l60, .inr ⟨spot, n, H, by omega, fun res g2 h6 S6 => ?_⟩⟩
    have er := (oth _ _ g2).2 (by omega)
    subst er
    clear g2
    have S := S.more S6
    clear S6
    repeat infer_instance
    refine if_f rfl ?_
    repeat infer_instance
    rw [List.length_map]
    repeat infer_instance
    refine ⟨b, ws, name, spot, n, yes, moves, (came.length : Int) - 1, rfl, H, by omega, fun g2 h7 S7 => ?_, fun came2 mv2 g2 r2 h7 S7 => ?_⟩
    · repeat infer_instance
      refine if_t rfl ?_
      repeat infer_instance
      refine t_ix (x := .str other) (atN (by rw [List.getElem?_map, ho]; rfl)) ?_
      repeat infer_instance
      refine ⟨b, ws, other, yes, moves, 2000, rfl, l60, .inl ⟨hno, fun h8 S8 => ?_⟩⟩
      repeat infer_instance
      exact .inl ⟨_, rfl, plA_mx (d := 6) (by omega) (by omega) (by omega) mrow, fun h9 _ => .of (hq h9)⟩
    · cases (oth _ _ g2).2 (by omega)
  repeat infer_instance
  refine if_d (fun hz => ?_) (fun hz => ?_)
  · repeat infer_instance
    refine u_draw (m := 3) F (by decide) (by decide) fun d2 hd2 h8 F => ?_
    have e9 : (9 : Int) + (d2 : Int) = ((9 + d2 : Nat) : Int) := by omega
    repeat infer_instance
    rw [e9]
    refine ⟨9 + d2, rfl, by omega, fun h9 S9 => ?_⟩
    have F := F.keep S9
    repeat infer_instance
    refine if_f rfl ?_
    exact last _ F _ _ _ _
  · refine if_f rfl ?_
    exact last _ F _ _ _ _
def sp_law : DP := fun us h q _ => ∃ a ns, us = [.ref a] ∧ lstU h a = some (ns.map U.int) ∧ (ns : List Int).length ≤ 63 ∧ ∀ h', q (.bl true) h'
def t_law : DS := dSeq (dAsg (dCall sp__law_feed [] x0 (dCons (dVar 0) (dNil))) (gNm 1))
    (dSeq (dAsg (dCall sp__law_names [] x0 (dCons (dVar 1) (dCons (dOp oAdd (dC (.int 2)) (dCall sp__law_draw [] x0 (dCons (dVar 1) (dCons (dC (.int 3)) (dNil))))) (dNil)))) (gNm 2))
    (dSeq (dAsg (dCall sp__law_draw [] x0 (dCons (dVar 1) (dCons (dCB cLen (dCons (dVar 2) (dNil))) (dNil)))) (gNm 3))
    (dSeq (dAsg (dOp oAddF (dSlF (dVar 2) (dNoP) (dPart (dVar 3))) (dSlF (dVar 2) (dPart (dOp oAdd (dVar 3) (dC (.int 1)))) (dNoP))) (gNm 4))
    (dSeq (dAsg (dOp oAdd (dC (.int 2)) (dCall sp__law_draw [] x0 (dCons (dVar 1) (dCons (dOp oIx (dLst (dCons (dC (.int 3)) (dCons (dC (.int 1)) (dNil)))) (dOp oDiv (dCB cLen (dCons (dVar 4) (dNil))) (dC (.int 3)))) (dNil))))) (gNm 5))
    (dSeq (dAsg (dCall sp__law_machine [] x0 (dCons (dVar 1) (dCons (dVar 5) (dCons (dVar 4) (dCons (dC (.int 6)) (dNil)))))) (gNm 6))
    (dSeq (dAsg (dCall sp__law_draw [] x0 (dCons (dVar 1) (dCons (dCB cLen (dCons (dVar 4) (dNil))) (dNil)))) (gNm 7))
    (dSeq (dIfS (dB (dOp oEq (dCall sp__law_draw [] x0 (dCons (dVar 1) (dCons (dC (.int 3)) (dNil)))) (dC (.int 0)))) (dSeq (dAsg (dCall sp__law_chain [] x0 (dCons (dVar 1) (dCons (dVar 5) (dCons (dVar 4) (dCons (dVar 7) (dNil)))))) (gNm 6))
    (dNext)) (dNext))
    (dSeq (dAsg (dOp oIx (dVar 4) (dVar 7)) (gNm 8))
    (dSeq (dAsg (dCall sp__law_due [] x0 (dCons (dVar 5) (dCons (dVar 6) (dCons (dVar 8) (dNil))))) (gUnp [9, 10]))
    (dSeq (dAsg (dCall sp_sets_of [.int 2000] x0 (dCons (dVar 5) (dCons (dVar 6) (dCons (dVar 8) (dNil))))) (gNm 11))
    (dSeq (dIfS (dOr (dNot (dB (dCall sp__law_alike [] x0 (dCons (dVar 11) (dCons (dVar 9) (dNil)))))) (dNot (dB (dCall sp__law_alike [] x0 (dCons (dCall sp_some_of [.int 2000] x0 (dCons (dVar 5) (dCons (dVar 6) (dCons (dVar 8) (dNil))))) (dCons (dVar 10) (dNil))))))) (dSeq (dRet (dC (.bl false)))
    (dNext)) (dNext))
    (dSeq (dDrop (dBM isLst mAppend (dVar 11) (dCons (dTup (dNil)) (dNil))))
    (dSeq (dIfS (dAnd (dB (dOp oEq (dCall sp__law_draw [] x0 (dCons (dVar 1) (dCons (dC (.int 16)) (dNil)))) (dC (.int 0)))) (dNot (dB (dCall sp__law_wide [] x0 (dCons (dOp oAdd (dC (.int 9)) (dCall sp__law_draw [] x0 (dCons (dVar 1) (dCons (dC (.int 3)) (dNil))))) (dNil)))))) (dSeq (dRet (dC (.bl false)))
    (dNext)) (dNext))
    (dSeq (dIfS (dNot (dB (dCall sp__law_alike [] x0 (dCons (dCall sp_sets_of [] x0 (dCons (dVar 5) (dCons (dVar 6) (dCons (dVar 8) (dCons (dCB cLen (dCons (dVar 9) (dNil))) (dNil)))))) (dCons (dVar 9) (dNil)))))) (dSeq (dRet (dC (.bl false)))
    (dNext)) (dNext))
    (dSeq (dIfS (dNot (dB (dCall sp__law_alike [] x0 (dCons (dCall sp_some_of [] x0 (dCons (dVar 5) (dCons (dVar 6) (dCons (dVar 8) (dCons (dCB cLen (dCons (dVar 9) (dNil))) (dNil)))))) (dCons (dVar 10) (dNil)))))) (dSeq (dRet (dC (.bl false)))
    (dNext)) (dNext))
    (dSeq (dIfS (dB (dOp oNotN (dCall sp_some_of [] x0 (dCons (dVar 5) (dCons (dVar 6) (dCons (dVar 8) (dCons (dOp oSub (dCB cLen (dCons (dVar 9) (dNil))) (dC (.int 1))) (dNil)))))) (dC .non))) (dSeq (dRet (dC (.bl false)))
    (dNext)) (dNext))
    (dSeq (dRet (dAndV (dOp oIsN (dCall sp_sets_of [] x0 (dCons (dVar 5) (dCons (dVar 6) (dCons (dVar 8) (dCons (dOp oSub (dCB cLen (dCons (dVar 9) (dNil))) (dC (.int 1))) (dNil)))))) (dC .non)) (dCall sp__law_alike [] x0 (dCons (dCall sp_some_of [.int 2000] x0 (dCons (dVar 5) (dCons (dVar 6) (dCons (dOp oIx (dVar 2) (dVar 3)) (dNil))))) (dCons (dVar 6) (dNil))))))
    (dNext))))))))))))))))))
theorem p_law {us : List U} {h : HU} {q : DV} {y : DXK} {bk ct : SU → HU → Prop} (hs : sp_law us h q y) : t_law ⟨fun _ h' => WkV q .non h', WkV q, bk, ct⟩ (startN 12 us) h := by
  obtain ⟨a, ns, rfl, ha, hn, hq⟩ := hs
  show t_law _ [some (.ref a), none, none, none, none, none, none, none, none, none, none, none] h
  unfold t_law
  repeat infer_instance
  refine ⟨a, ns, rfl, ha, hn, fun p h1 F => ?_⟩
  repeat infer_instance
  refine u_draw (m := 3) F (by decide) (by decide) fun r hr h2 F => ?_
  have er : (2 : Int) + (r : Int) = ((2 + r : Nat) : Int) := by omega
  repeat infer_instance
  rw [er]
  refine ⟨h, [], p, 2 + r, rfl, F, by omega, fun pool pl pnd pok pso h3 F => ?_⟩
  repeat infer_instance
  rw [List.length_map]
  refine u_draw F (by omega) (by omega) fun at_ hat h4 F => ?_
  have ho : pool[at_]? = some pool[at_] := List.getElem?_eq_getElem hat
  have wl0 : (pool.take at_ ++ pool.drop (at_ + 1)).length = 1 + r := by
    rw [List.length_append, List.length_take, List.length_drop]
    omega
  have wnd : (pool.take at_ ++ pool.drop (at_ + 1)).Nodup := by
    rw [← List.eraseIdx_eq_take_drop_succ]
    exact pnd.sublist (List.eraseIdx_sublist ..)
  have wno : pool[at_] ∉ pool.take at_ ++ pool.drop (at_ + 1) := by
    intro z
    have same : ∀ (j : Nat), pool[j]? = some pool[at_] → j = at_ := fun j e => by
      obtain ⟨h1, h2⟩ := List.getElem?_eq_some_iff.mp e
      exact nd_inj pnd h1 hat h2
    rcases List.mem_append.mp z with z | z
    · obtain ⟨j, hj, ej⟩ := List.mem_iff_getElem.mp z
      rw [List.length_take] at hj
      rw [List.getElem_take] at ej
      have := same j (by rw [List.getElem?_eq_getElem (by omega), ej])
      omega
    · obtain ⟨j, hj, ej⟩ := List.mem_iff_getElem.mp z
      rw [List.length_drop] at hj
      rw [List.getElem_drop] at ej
      have := same (at_ + 1 + j) (by rw [List.getElem?_eq_getElem (by omega), ej])
      omega
  repeat infer_instance
  refine t_slF (by rw [HT.sIx_nat, List.length_map]; omega) ?_
  rw [cut_at]
  repeat infer_instance
  have e1 : (at_ : Int) + 1 = ((at_ + 1 : Nat) : Int) := by omega
  rw [e1]
  refine t_slF (by rw [HT.sIx_nat, List.length_map]; omega) ?_
  rw [cut_from]
  refine ft_add (sz (by rw [List.length_map, List.length_map, ← List.length_append, wl0]; omega)) ?_
  rw [← List.map_append]
  generalize ew : pool.take at_ ++ pool.drop (at_ + 1) = ws at wl0 wnd wno ⊢
  generalize pool[at_] = other at ho wno
  clear pok pso e1 er
  repeat infer_instance
  obtain ⟨l, n1, sd, gs, fi, S⟩ := F
  refine k_new S fun pl h5 S => ?_
  repeat infer_instance
  refine i_div (by decide) (by decide) ?_
  rw [List.length_map, wl0]
  obtain ⟨c, ec, hc1, hc3⟩ : ∃ c : Nat, atI [U.int 3, U.int 1] (((1 + r : Nat) : Int) / 3) = some (.int c) ∧ 1 ≤ c ∧ ((r = 2 ∧ c = 1) ∨ (r < 2 ∧ c = 3)) := by
    match r, hr with
    | 0, _ => exact ⟨3, rfl, by decide, .inr ⟨by decide, rfl⟩⟩
    | 1, _ => exact ⟨3, rfl, by decide, .inr ⟨by decide, rfl⟩⟩
    | 2, _ => exact ⟨1, rfl, by decide, .inl ⟨rfl, rfl⟩⟩
  refine l_ix (S.lget 0 rfl) ec ?_
  have F : Feed h p [] h5 := ⟨l, n1, sd, gs, fi, S.pick [1, 2]⟩
  clear fi S ec
  repeat infer_instance
  refine u_draw F hc1 (by omega) fun d hd h6 F => ?_
  have eb : (2 : Int) + (d : Int) = ((2 + d : Nat) : Int) := by omega
  repeat infer_instance
  rw [eb]
  have hb : 2 + d = 2 ∨ 2 + d = 3 ∨ 2 + d = 4 := by omega
  have hpw : (2 + d) ^ ws.length ≤ 100000 := by
    rw [wl0]
    have e1 : (2 + d) ^ (1 + r) ≤ 4 ^ (1 + r) := Nat.pow_le_pow_left (by omega) _
    have e2 : 4 ^ (1 + r) ≤ 4 ^ 3 := Nat.pow_le_pow_right (by decide) (by omega)
    have : (4 : Nat) ^ 3 = 64 := by decide
    omega
  clear hd hc1 hc3 eb
  generalize 2 + d = b at hb hpw ⊢
  repeat infer_instance
  refine ⟨h, [], p, b, ws.length, 6, .ft (ws.map U.str), ws.map U.str, rfl, F, fun _ => rfl, rfl, by rw [List.length_map], by omega, by omega, hpw, by decide, by decide, fun n yes moves hn6 M h7 F => ?_⟩
  repeat infer_instance
  rw [List.length_map]
  refine u_draw F (by omega) (by omega) fun spot hspot h8 F => ?_
  have N : NmA b ws ws[spot] spot := ⟨List.getElem?_eq_getElem hspot, wnd, by omega, by omega, by omega, hpw⟩
  have A : WF b ws.length spot := ⟨hb, by omega, hspot⟩
  repeat infer_instance
  refine u_draw (m := 3) F (by decide) (by decide) fun d3 hd3 h9 F => ?_
  repeat infer_instance
  refine if_d (fun hz => ?_) (fun hz => ?_)
  · repeat infer_instance
    refine ⟨h, [], p, b, ws, spot, rfl, F, A, fun n yes moves form m figs C h10 F => ?_⟩
    repeat infer_instance
    have H : HidM b ws ws[spot] spot n yes moves := ⟨N, chain_J C, by have := C.n_; have := C.m61; omega, by omega⟩
    exact p_rest H (fam_chain C A (wholesN_ok N (by omega))) ho wno F hq
  · repeat infer_instance
    have H : HidM b ws ws[spot] spot n yes moves := ⟨N, M.j, by omega, by omega⟩
    exact p_rest H ⟨_, fam_small M.n1 hn6⟩ ho wno F hq

end K42

set_option Elab.async false
set_option linter.all false
set_option maxRecDepth 100000
set_option maxHeartbeats 4000000
namespace K42
open PySem L2 NdefX LamX DL PyProof.Rows
abbrev topS (i : Nat) : Stmt := PySem.Challenge.pw_figurejudge_k42_sets_of_rooms.main.body.getD i (.Pass ⟨0, 0, 0, 0⟩)
structure Gs (e : Ev) : Prop where
  abs_ : e.mg "abs" = none
  all_ : e.mg "all" = none
  any_ : e.mg "any" = none
  bool_ : e.mg "bool" = none
  enumerate_ : e.mg "enumerate" = none
  int_ : e.mg "int" = none
  isinstance_ : e.mg "isinstance" = none
  len_ : e.mg "len" = none
  list_ : e.mg "list" = none
  min_ : e.mg "min" = none
  range_ : e.mg "range" = none
  set_ : e.mg "set" = none
  sorted_ : e.mg "sorted" = none
  tuple_ : e.mg "tuple" = none
  zip_ : e.mg "zip" = none
theorem len_told_sets_onward : ∀ cs us h q, sp_told_sets_onward cs us h q → us.length = 2 := by
  rintro cs us h q ⟨x, w, n, yes, moves, pw, W, room, k, rfl, rfl, _⟩
  rfl
theorem len_told_sets_is_yes : ∀ cs us h q, sp_told_sets_is_yes cs us h q → us.length = 1 := by
  rintro cs us h q ⟨n, yes, moves, z, p, room, rfl, rfl, _⟩
  rfl
abbrev len__law_due__law_onward := len_told_sets_onward
abbrev s_all_letters : Stmt := topS 1
abbrev N_all_letters : List Str := ["base", "many", "found", "turn", "more", "letter", "figure"]
theorem sc_all_letters : FnScope N_all_letters ["base", "many"] (defScope s_all_letters) := ⟨rfl, rfl, rfl, by decide +kernel, rfl, by decide +kernel, by decide +kernel⟩
theorem w_all_letters {e : Ev} (g : Gs e)  {f : Addr} {base : Heap} {cdv : Value} {A : Around} {outer : List Env} {s : Shared} {H : Hp} {h0 : HU} {E : XK}  (hr : RoomB 0 "all_letters" (defScope s_all_letters) f cdv A s) :
    PDSs (XT e base N_all_letters "all_letters" (defScope s_all_letters) f cdv A outer s H E) ⟨e.tb, H, h0⟩ (defBody s_all_letters) (t_all_letters) :=
  have nd := sc_all_letters.nd
  d_seq (dset 2 nd (d_lst (d_cons (d_tup (d_nil)) (d_nil))))
    (d_seq (d_for PassesOwn.never rfl (d_iRng1 rfl g.range_ (d_cons (dv 1) (d_nil))) (dn 3 nd) (d_seq (dset 4 nd (d_lst (d_nil)))
    (d_seq (d_for PassesOwn.never rfl (d_iAny (dv 2)) (dn 5 nd) (d_seq (d_expr (d_bm (fun _ _ _ _ a b c => isLst_v a b c) PySem.F.plainAttrs_list PySem.F.slot_list_extend PySem.F.type_list_extend m_extend (dv 4) (d_cons (d_lc (own := [("figure", 6)]) rfl nd (tg_name (by decide)) (d_iRng1 rfl g.range_ (d_cons (dv 0) (d_nil))) (blkOk_by (N := N_all_letters) (sc := defScope s_all_letters) (by decide +kernel)) (fun _ _ _ _ _ => pn 6 nd) (fun _ _ _ _ _ => d_tests0) (fun _ _ _ _ _ => d_op o_add (dv 5) (d_tup (d_cons (dv 6) (d_nil))))) (d_nil))))
    (d_end)))
    (d_seq (dset 2 nd (dv 4))
    (d_end)))))
    (d_seq (d_ret (dv 2))
    (d_end)))

abbrev s_grown_from : Stmt := topS 3
abbrev N_grown_from : List Str := ["first", "many", "onward", "is_yes", "most", "came", "numbers", "moves", "room", "found", "k", "new"]
theorem sc_grown_from : FnScope N_grown_from ["first", "many", "onward", "is_yes", "most"] (defScope s_grown_from) := ⟨rfl, rfl, rfl, by decide +kernel, rfl, by decide +kernel, by decide +kernel⟩
theorem w_grown_from {e : Ev} (g : Gs e)  {kc : Nat} {f : Addr} {base : Heap} {cdv : Value} {A : Around} {outer : List Env} {s : Shared} {H : Hp} {h0 : HU} {E : XK} (hkc : kc ≤ 1) (hr : RoomB 1 "grown_from" (defScope s_grown_from) f cdv A s) :
    PDSs (XT e base N_grown_from "grown_from" (defScope s_grown_from) f cdv A outer s H E) ⟨e.tb, H, h0⟩ (defBody s_grown_from) (t_grown_from (Recv (XT e base N_grown_from "grown_from" (defScope s_grown_from) f cdv A outer s H E) ⟨e.tb, H, h0⟩ kc)) :=
  have nd := sc_grown_from.nd
  d_seq (dset 5 nd (d_lst (d_cons (dv 0) (d_nil))))
    (d_seq (dset 6 nd (d_disT (hu1 hr) (d_kv (dv 0) (d_int) (d_kv0))))
    (d_seq (dset 7 nd (d_lst (d_nil)))
    (d_seq (d_while PassesOwn.never (d_testC (o_lt) (d_callB c_len rfl g.len_ boot_len (d_cons (dv 7) (d_nil))) (d_callB c_len rfl g.len_ boot_len (d_cons (dv 5) (d_nil))) (nomark _)) (d_seq (dset 8 nd (d_ix (o_ix (hu1 hr)) (dv 5) (d_callB c_len rfl g.len_ boot_len (d_cons (dv 7) (d_nil))) (fun _ _ => rfl)))
    (d_seq (dset 9 nd (d_lst (d_nil)))
    (d_seq (d_for PassesOwn.never rfl (d_iRng1 rfl g.range_ (d_cons (dv 1) (d_nil))) (dn 10 nd) (d_seq (dset 11 nd (d_callR (kc := kc) (i := 2) hr hkc rfl (by first | exact Or.inl rfl | exact Or.inr (Or.inl rfl) | exact Or.inr (Or.inr rfl)) (d_cons (dv 8) (d_cons (dv 10) (d_nil)))))
    (d_seq (d_if (d_testC (o_notIn (hu65 hr)) (dv 11) (dv 6) (rfl)) (d_seq (d_asg (d_callB c_len rfl g.len_ boot_len (d_cons (dv 5) (d_nil))) (d_sub (hu1 hr) (dv 6) (dv 11)))
    (d_seq (d_expr (d_bm (fun _ _ _ _ a b c => isLst_v a b c) PySem.F.plainAttrs_list PySem.F.slot_list_append PySem.F.type_list_append m_append (dv 5) (d_cons (dv 11) (d_nil))))
    (d_end))) (d_end))
    (d_seq (d_expr (d_bm (fun _ _ _ _ a b c => isLst_v a b c) PySem.F.plainAttrs_list PySem.F.slot_list_append PySem.F.type_list_append m_append (dv 9) (d_cons (d_ix (o_ix (hu1 hr)) (dv 6) (dv 11) (fun _ _ => rfl)) (d_nil))))
    (d_end)))))
    (d_seq (d_if (d_testC (o_gt) (d_callB c_len rfl g.len_ boot_len (d_cons (dv 5) (d_nil))) (dv 4) (nomark _)) (d_seq (d_ret (d_non))
    (d_end)) (d_end))
    (d_seq (d_expr (d_bm (fun _ _ _ _ a b c => isLst_v a b c) PySem.F.plainAttrs_list PySem.F.slot_list_append PySem.F.type_list_append m_append (dv 7) (d_cons (d_callTy c_tuple rfl g.tuple_ boot_tuple (d_cons (dv 9) (d_nil))) (d_nil))))
    (d_end)))))))
    (d_seq (d_ret (d_tup (d_cons (dv 5) (d_cons (d_callTy c_tuple rfl g.tuple_ boot_tuple (d_cons (d_lc (own := [("room", 8)]) rfl nd (tg_name (by decide)) (d_iAny (dv 5)) (blkOk_by (N := N_grown_from) (sc := defScope s_grown_from) (by decide +kernel)) (fun _ _ _ _ _ => pn 8 nd) (fun _ _ _ _ _ => d_tests0) (fun _ _ _ _ _ => d_callR (kc := kc) (i := 3) hr hkc rfl (by first | exact Or.inl rfl | exact Or.inr (Or.inl rfl) | exact Or.inr (Or.inr rfl)) (d_cons (dv 8) (d_nil)))) (d_nil))) (d_cons (d_callTy c_tuple rfl g.tuple_ boot_tuple (d_cons (dv 7) (d_nil))) (d_nil))))))
    (d_end)))))

abbrev s_machine_of : Stmt := topS 4
abbrev N_machine_of : List Str := ["names", "told"]
theorem sc_machine_of : FnScope N_machine_of ["names", "told"] (defScope s_machine_of) := ⟨rfl, rfl, rfl, by decide +kernel, rfl, by decide +kernel, by decide +kernel⟩
theorem w_machine_of {e : Ev} (g : Gs e)  {f : Addr} {base : Heap} {cdv : Value} {A : Around} {outer : List Env} {s : Shared} {H : Hp} {h0 : HU} {E : XK}  (hr : RoomB 0 "machine_of" (defScope s_machine_of) f cdv A s) :
    PDSs (XT e base N_machine_of "machine_of" (defScope s_machine_of) f cdv A outer s H E) ⟨e.tb, H, h0⟩ (defBody s_machine_of) (t_machine_of) :=
  have nd := sc_machine_of.nd
  d_seq (d_if (d_testC o_isN (dv 1) (d_non) (nomark _)) (d_seq (d_ret (d_non))
    (d_end)) (d_end))
    (d_seq (d_ret (d_tup (d_cons (d_callTy c_tuple rfl g.tuple_ boot_tuple (d_cons (dv 0) (d_nil))) (d_cons (d_ix (o_ix (hu1 hr)) (dv 1) (d_int) (fun _ _ => rfl)) (d_cons (d_ix (o_ix (hu1 hr)) (dv 1) (d_int) (fun _ _ => rfl)) (d_nil))))))
    (d_end))

abbrev s_number_of_letter : Stmt := topS 6
abbrev N_number_of_letter : List Str := ["base", "letter", "number", "figure"]
theorem sc_number_of_letter : FnScope N_number_of_letter ["base", "letter"] (defScope s_number_of_letter) := ⟨rfl, rfl, rfl, by decide +kernel, rfl, by decide +kernel, by decide +kernel⟩
theorem w_number_of_letter {e : Ev} (g : Gs e)  {f : Addr} {base : Heap} {cdv : Value} {A : Around} {outer : List Env} {s : Shared} {H : Hp} {h0 : HU} {E : XK}  (hr : RoomB 0 "number_of_letter" (defScope s_number_of_letter) f cdv A s) :
    PDSs (XT e base N_number_of_letter "number_of_letter" (defScope s_number_of_letter) f cdv A outer s H E) ⟨e.tb, H, h0⟩ (defBody s_number_of_letter) (t_number_of_letter) :=
  have nd := sc_number_of_letter.nd
  d_seq (dset 2 nd (d_int))
    (d_seq (d_for PassesOwn.never rfl (d_iAny (dv 1)) (dn 3 nd) (d_seq (dset 2 nd (d_op o_add (d_op o_mul (dv 2) (dv 0)) (dv 3)))
    (d_end)))
    (d_seq (d_ret (dv 2))
    (d_end)))

abbrev s_whole_letters : Stmt := topS 8
abbrev N_whole_letters : List Str := ["base", "names", "name", "at", "found", "letter", "figure"]
theorem sc_whole_letters : FnScope N_whole_letters ["base", "names", "name"] (defScope s_whole_letters) := ⟨rfl, rfl, rfl, by decide +kernel, rfl, by decide +kernel, by decide +kernel⟩
theorem w_whole_letters {e : Ev} (g : Gs e) (c_all_letters : Cal e 1 "all_letters" ["base", "many"] [] sp_all_letters) (c_number_of_letter : Cal e 1 "number_of_letter" ["base", "letter"] [] sp_number_of_letter) {f : Addr} {base : Heap} {cdv : Value} {A : Around} {outer : List Env} {s : Shared} {H : Hp} {h0 : HU} {E : XK}  (hr : RoomB 1 "whole_letters" (defScope s_whole_letters) f cdv A s) :
    PDSs (XT e base N_whole_letters "whole_letters" (defScope s_whole_letters) f cdv A outer s H E) ⟨e.tb, H, h0⟩ (defBody s_whole_letters) (t_whole_letters) :=
  have nd := sc_whole_letters.nd
  d_seq (dset 3 nd (d_tix (dv 1) (dv 2)))
    (d_seq (dset 4 nd (d_lst (d_nil)))
    (d_seq (d_for PassesOwn.never rfl (d_iAny (d_callF c_all_letters hr (by decide) (d_cons (dv 0) (d_cons (d_op o_sub (d_callB c_len rfl g.len_ boot_len (d_cons (dv 1) (d_nil))) (d_int)) (d_nil))))) (dn 5 nd) (d_seq (d_expr (d_bm (fun _ _ _ _ a b c => isLst_v a b c) PySem.F.plainAttrs_list PySem.F.slot_list_append PySem.F.type_list_append m_append (dv 4) (d_cons (d_lc (own := [("figure", 6)]) rfl nd (tg_name (by decide)) (d_iRng1 rfl g.range_ (d_cons (dv 0) (d_nil))) (blkOk_by (N := N_whole_letters) (sc := defScope s_whole_letters) (by decide +kernel)) (fun _ _ _ _ _ => pn 6 nd) (fun _ _ _ _ _ => d_tests0) (fun _ _ _ _ _ => d_callF c_number_of_letter hr (by decide) (d_cons (dv 0) (d_cons (d_op o_add (d_op o_add (d_slice (dv 5) (d_noP) (d_part (dv 3))) (d_tup (d_cons (dv 6) (d_nil)))) (d_slice (dv 5) (d_part (dv 3)) (d_noP))) (d_nil))))) (d_nil))))
    (d_end)))
    (d_seq (d_ret (dv 4))
    (d_end))))

abbrev s_goes_on : Stmt := topS 9
abbrev N_goes_on : List Str := ["machine", "noughts", "found", "more", "room", "moves", "k"]
theorem sc_goes_on : FnScope N_goes_on ["machine", "noughts"] (defScope s_goes_on) := ⟨rfl, rfl, rfl, by decide +kernel, rfl, by decide +kernel, by decide +kernel⟩
theorem w_goes_on {e : Ev} (g : Gs e)  {f : Addr} {base : Heap} {cdv : Value} {A : Around} {outer : List Env} {s : Shared} {H : Hp} {h0 : HU} {E : XK}  (hr : RoomB 0 "goes_on" (defScope s_goes_on) f cdv A s) :
    PDSs (XT e base N_goes_on "goes_on" (defScope s_goes_on) f cdv A outer s H E) ⟨e.tb, H, h0⟩ (defBody s_goes_on) (t_goes_on) :=
  have nd := sc_goes_on.nd
  d_seq (dset 2 nd (d_callTy c_list rfl g.list_ boot_list (d_cons (d_ix (o_ix (hu1 hr)) (dv 0) (d_int) (fun _ _ => rfl)) (d_nil))))
    (d_seq (dset 3 nd (d_bl))
    (d_seq (d_while PassesOwn.never (d_testV (dv 3)) (d_seq (dset 3 nd (d_bl))
    (d_seq (d_for PassesOwn.never rfl (d_iEnu rfl g.enumerate_ (d_cons (d_ix (o_ix (hu1 hr)) (dv 0) (d_int) (fun _ _ => rfl)) (d_nil))) (d_unpack rfl (pgs_cons (pn 4 nd) (pgs_cons (pn 5 nd) (pgs_nil)))) (d_seq (d_if (PW.pt (d_and (d_not (d_testV (d_ix (o_ix (hu1 hr)) (dv 2) (dv 4) (fun _ _ => rfl)))) (d_and1 (d_testC (o_in (hu65 hr)) (d_bl) (d_lc (own := [("k", 6)]) rfl nd (tg_name (by decide)) (d_iAny (dv 1)) (blkOk_by (N := N_goes_on) (sc := defScope s_goes_on) (by decide +kernel)) (fun _ _ _ _ _ => pn 6 nd) (fun _ _ _ _ _ => d_tests0) (fun _ _ _ _ _ => d_ix (o_ix (hu1 hr)) (dv 2) (d_ix (o_ix (hu1 hr)) (dv 5) (dv 6) (fun _ _ => rfl)) (fun _ _ => rfl))) (rfl))))) (d_seq (d_asg (d_bl) (d_sub (hu1 hr) (dv 2) (dv 4)))
    (d_seq (dset 3 nd (d_bl))
    (d_end))) (d_end))
    (d_end)))
    (d_end))))
    (d_seq (d_ret (dv 2))
    (d_end))))

abbrev s_told_sets : Stmt := topS 10
abbrev N_told_sets : List Str := ["base", "machine", "name", "most", "wholes", "on", "onward", "is_yes"]
theorem sc_told_sets : FnScope N_told_sets ["base", "machine", "name", "most"] (defScope s_told_sets) := ⟨rfl, rfl, rfl, by decide +kernel, rfl, by decide +kernel, by decide +kernel⟩
abbrev s_told_sets_onward : Stmt := (defBody s_told_sets).getD 2 (.Pass ⟨0, 0, 0, 0⟩)
abbrev N_told_sets_onward : List Str := ["room", "k", "wholes", "machine", "met", "one", "number"]
theorem w_told_sets_onward {e : Ev} (g : Gs e)  {base : Heap} {ql : Str} {cl : List (Str × Addr)} {f c : Addr} {A : Around} {outer : List Env} {s : Shared} {H : Hp} {h0 : HU} {E : XK} (hr : Room 0 (A.deeper (envF (NF.of s_told_sets_onward "onward" ql cl c) f s.heap.objs.size))) :
    PDSs (ncx CX0 e.P e.w e.K e.mg base N_told_sets_onward (NF.of s_told_sets_onward "onward" ql cl c) f A outer s H E).nox ⟨e.tb, H, h0⟩ (C8.fnBody s_told_sets_onward) t_told_sets_onward :=
  have nd : (N_told_sets_onward).Nodup := by decide +kernel
  d_seq (dset 4 nd (d_dict0))
    (d_seq (d_for PassesOwn.never rfl (d_iAny (dv 0)) (dn 5 nd) (d_seq (d_for PassesOwn.never rfl (d_iAny (d_ix (o_ix (hu1 hr)) (dv 2) (dv 1) (fun _ _ => rfl))) (dn 6 nd) (d_seq (d_asg (d_bl) (d_sub (hu1 hr) (dv 4) (d_ix (o_ix (hu1 hr)) (d_ix (o_ix (hu1 hr)) (d_ix (o_ix (hu1 hr)) (dv 3) (d_int) (fun _ _ => rfl)) (dv 5) (fun _ _ => rfl)) (dv 6) (fun _ _ => rfl))))
    (d_end)))
    (d_end)))
    (d_seq (d_ret (d_callTy c_tuple rfl g.tuple_ boot_tuple (d_cons (d_callB (c_sortDI rfl) rfl g.sorted_ boot_sorted (d_cons (dv 4) (d_nil))) (d_nil))))
    (d_end)))
/-- onward, as told_sets makes it -/
def own_told_sets_onward {e : Ev} (g : Gs e) (base : Heap) (f c : Addr) (A : Around) (outer : List Env) (s : Shared) (H : Hp) (h0 : HU) (E : XK) : Own (XTc e base N_told_sets "told_sets" (defScope s_told_sets) f c A outer s H E) ⟨e.tb, H, h0⟩ 1 where
  make := mkOf (XTc e base N_told_sets "told_sets" (defScope s_told_sets) f c A outer s H E) s_told_sets_onward "onward"
  ps := ["room", "k"]
  fr := ["wholes", "machine"]
  js := [4, 1]
  cl := cloFrom (XTc e base N_told_sets "told_sets" (defScope s_told_sets) f c A outer s H E).env.cells (C8.fnScope s_told_sets_onward).names []
  sp := sp_told_sets_onward
  ok := fun b1 f1 c1 _ => ndef_ok (e := e) (N := N_told_sets_onward) (show NScope N_told_sets_onward ["room", "k"] ["wholes", "machine"] (C8.fnScope s_told_sets_onward) from nscope_by (by decide +kernel)) (fun _ _ _ us hl => match us, hl with | [_, _], _ => rfl) len_told_sets_onward fun A outer s H h0 E hr => ⟨t_told_sets_onward, w_told_sets_onward g hr, fun cs us q hs => p_told_sets_onward hs⟩
  hcl := fun _ => rfl
  cp := fun ok => Caps.made ok (show ∀ y ∈ (C8.fnScope s_told_sets_onward).names, y.2 = .free → (defScope s_told_sets).names.lookup y.1 = some .cell ∨ (defScope s_told_sets).names.lookup y.1 = some .free from by decide +kernel) (show ∀ y ∈ (["wholes", "machine"] : List Str), (y, NameKind.free) ∈ (C8.fnScope s_told_sets_onward).names from by decide +kernel) rfl
abbrev s_told_sets_is_yes : Stmt := (defBody s_told_sets).getD 3 (.Pass ⟨0, 0, 0, 0⟩)
abbrev N_told_sets_is_yes : List Str := ["room", "on", "one"]
theorem w_told_sets_is_yes {e : Ev} (g : Gs e)  {base : Heap} {ql : Str} {cl : List (Str × Addr)} {f c : Addr} {A : Around} {outer : List Env} {s : Shared} {H : Hp} {h0 : HU} {E : XK} (hr : Room 0 (A.deeper (envF (NF.of s_told_sets_is_yes "is_yes" ql cl c) f s.heap.objs.size))) :
    PDSs (ncx CX0 e.P e.w e.K e.mg base N_told_sets_is_yes (NF.of s_told_sets_is_yes "is_yes" ql cl c) f A outer s H E).nox ⟨e.tb, H, h0⟩ (C8.fnBody s_told_sets_is_yes) t_told_sets_is_yes :=
  have nd : (N_told_sets_is_yes).Nodup := by decide +kernel
  d_seq (d_ret (d_cmp (o_in (hu65 hr)) (d_bl) (d_lc (own := [("one", 2)]) rfl nd (tg_name (by decide)) (d_iAny (dv 0)) (blkOk_by (N := N_told_sets_is_yes) (by rfl)) (fun _ _ _ _ _ => pn 2 nd) (fun _ _ _ _ _ => d_tests0) (fun _ _ _ _ _ => d_ix (o_ix (hu1 hr)) (dv 1) (dv 2) (fun _ _ => rfl))) (rfl)))
    (d_end)
/-- is_yes, as told_sets makes it -/
def own_told_sets_is_yes {e : Ev} (g : Gs e) (base : Heap) (f c : Addr) (A : Around) (outer : List Env) (s : Shared) (H : Hp) (h0 : HU) (E : XK) : Own (XTc e base N_told_sets "told_sets" (defScope s_told_sets) f c A outer s H E) ⟨e.tb, H, h0⟩ 1 where
  make := mkOf (XTc e base N_told_sets "told_sets" (defScope s_told_sets) f c A outer s H E) s_told_sets_is_yes "is_yes"
  ps := ["room"]
  fr := ["on"]
  js := [5]
  cl := cloFrom (XTc e base N_told_sets "told_sets" (defScope s_told_sets) f c A outer s H E).env.cells (C8.fnScope s_told_sets_is_yes).names []
  sp := sp_told_sets_is_yes
  ok := fun b1 f1 c1 _ => ndef_ok (e := e) (N := N_told_sets_is_yes) (show NScope N_told_sets_is_yes ["room"] ["on"] (C8.fnScope s_told_sets_is_yes) from nscope_by (by decide +kernel)) (fun _ _ _ us hl => match us, hl with | [_], _ => rfl) len_told_sets_is_yes fun A outer s H h0 E hr => ⟨t_told_sets_is_yes, w_told_sets_is_yes g hr, fun cs us q hs => p_told_sets_is_yes hs⟩
  hcl := fun _ => rfl
  cp := fun ok => Caps.made ok (show ∀ y ∈ (C8.fnScope s_told_sets_is_yes).names, y.2 = .free → (defScope s_told_sets).names.lookup y.1 = some .cell ∨ (defScope s_told_sets).names.lookup y.1 = some .free from by decide +kernel) (show ∀ y ∈ (["on"] : List Str), (y, NameKind.free) ∈ (C8.fnScope s_told_sets_is_yes).names from by decide +kernel) rfl
theorem w_told_sets {e : Ev} (g : Gs e) (c_whole_letters : Cal e 2 "whole_letters" ["base", "names", "name"] [] sp_whole_letters) (c_goes_on : Cal e 1 "goes_on" ["machine", "noughts"] [] sp_goes_on) (c_grown_from : CalC e 2 "grown_from" ["first", "many", "onward", "is_yes", "most"] [] 1 sp_grown_from) {f : Addr} {base : Heap} {c : Addr} {A : Around} {outer : List Env} {s : Shared} {H : Hp} {h0 : HU} {E : XK} {P : Addr} (TB : TabB base e.mg c P) (hm : (P, ((fun l _ => if l = 59 then "told_sets.<locals>.onward" else "told_sets.<locals>.is_yes") : Nat → Nat → Str)) ∈ e.tb) (hu : ∀ p ∈ e.tb, p.1 = P → p.2 = ((fun l _ => if l = 59 then "told_sets.<locals>.onward" else "told_sets.<locals>.is_yes") : Nat → Nat → Str)) (hr : RoomB 2 "told_sets" (defScope s_told_sets) f (.ref c) A s) :
    PDSs (XTc e base N_told_sets "told_sets" (defScope s_told_sets) f c A outer s H E) ⟨e.tb, H, h0⟩ (defBody s_told_sets) (t_told_sets (mkOf (XTc e base N_told_sets "told_sets" (defScope s_told_sets) f c A outer s H E) s_told_sets_onward "onward") (mkOf (XTc e base N_told_sets "told_sets" (defScope s_told_sets) f c A outer s H E) s_told_sets_is_yes "is_yes") (Hand (XTc e base N_told_sets "told_sets" (defScope s_told_sets) f c A outer s H E) ⟨e.tb, H, h0⟩ 1 [own_told_sets_onward g base f c A outer s H h0 E, own_told_sets_is_yes g base f c A outer s H h0 E])) :=
  have nd := sc_told_sets.nd
  d_seq (dset 4 nd (d_callF c_whole_letters hr (by decide) (d_cons (dv 0) (d_cons (d_ix (o_ix (hu1 hr)) (dv 1) (d_int) (fun _ _ => rfl)) (d_cons (dv 2) (d_nil))))))
    (d_seq (dset 5 nd (d_callF c_goes_on hr (by decide) (d_cons (dv 1) (d_cons (d_ix (o_ix (hu1 hr)) (dv 4) (d_int) (fun _ _ => rfl)) (d_nil)))))
    (d_seq (d_ndef (st := s_told_sets_onward) rfl TB rfl hm rfl hu (show ∀ y ∈ (C8.fnScope s_told_sets_onward).names, y.2 = .free → (defScope s_told_sets).names.lookup y.1 = some .cell ∨ (defScope s_told_sets).names.lookup y.1 = some .free from by decide +kernel) rfl rfl rfl nd rfl (by first | exact Or.inl rfl | exact Or.inr rfl) (Or.inl rfl))
    (d_seq (d_ndef (st := s_told_sets_is_yes) rfl TB rfl hm rfl hu (show ∀ y ∈ (C8.fnScope s_told_sets_is_yes).names, y.2 = .free → (defScope s_told_sets).names.lookup y.1 = some .cell ∨ (defScope s_told_sets).names.lookup y.1 = some .free from by decide +kernel) rfl rfl rfl nd rfl (by first | exact Or.inl rfl | exact Or.inr rfl) (Or.inl rfl))
    (d_seq (d_ret (d_callCF c_grown_from (fun _ => rfl) hr (by decide) (d_cons (d_tup (d_cons (d_int) (d_nil))) (d_cons (d_callB c_len rfl g.len_ boot_len (d_cons (dv 4) (d_nil))) (d_cons (dv 6) (d_cons (dv 7) (d_cons (dv 3) (d_nil))))))))
    (d_end)))))

abbrev s_some_of : Stmt := topS 11
abbrev N_some_of : List Str := ["base", "machine", "name", "most", "names", "one"]
theorem sc_some_of : FnScope N_some_of ["base", "machine", "name", "most"] (defScope s_some_of) := ⟨rfl, rfl, rfl, by decide +kernel, rfl, by decide +kernel, by decide +kernel⟩
theorem w_some_of {e : Ev} (g : Gs e) (c_machine_of : Cal e 1 "machine_of" ["names", "told"] [] sp_machine_of) (c_told_sets : Cal e 3 "told_sets" ["base", "machine", "name", "most"] [] sp_told_sets) {f : Addr} {base : Heap} {cdv : Value} {A : Around} {outer : List Env} {s : Shared} {H : Hp} {h0 : HU} {E : XK}  (hr : RoomB 3 "some_of" (defScope s_some_of) f cdv A s) :
    PDSs (XT e base N_some_of "some_of" (defScope s_some_of) f cdv A outer s H E) ⟨e.tb, H, h0⟩ (defBody s_some_of) (t_some_of) :=
  have nd := sc_some_of.nd
  d_seq (d_if (d_testC (o_notIn (hu65 hr)) (dv 2) (d_ix (o_ix (hu1 hr)) (dv 1) (d_int) (fun _ _ => rfl)) (rfl)) (d_seq (d_ret (dv 1))
    (d_end)) (d_end))
    (d_seq (d_setLc (i := 4) (own := [("one", 5)]) rfl nd rfl rfl (sw_true rfl rfl rfl (by decide)) (tg_name (by decide)) (d_iAny (d_ix (o_ix (hu1 hr)) (dv 1) (d_int) (fun _ _ => rfl))) (blkOk_by (N := N_some_of) (sc := defScope s_some_of) (by decide +kernel)) (fun _ _ _ _ _ => pn 5 nd) (fun _ _ _ _ _ => d_tests1 (d_testC (o_ne (hu64 hr)) (dv 5) (dv 2) (nomark _))) (fun _ _ _ _ _ => dv 5))
    (d_seq (d_ret (d_callF c_machine_of hr (by decide) (d_cons (dv 4) (d_cons (d_callF c_told_sets hr (by decide) (d_cons (dv 0) (d_cons (dv 1) (d_cons (dv 2) (d_cons (dv 3) (d_nil)))))) (d_nil)))))
    (d_end)))

abbrev s_sets_of : Stmt := topS 12
abbrev N_sets_of : List Str := ["base", "machine", "name", "most", "told"]
theorem sc_sets_of : FnScope N_sets_of ["base", "machine", "name", "most"] (defScope s_sets_of) := ⟨rfl, rfl, rfl, by decide +kernel, rfl, by decide +kernel, by decide +kernel⟩
theorem w_sets_of {e : Ev} (g : Gs e) (c_told_sets : Cal e 3 "told_sets" ["base", "machine", "name", "most"] [] sp_told_sets) {f : Addr} {base : Heap} {cdv : Value} {A : Around} {outer : List Env} {s : Shared} {H : Hp} {h0 : HU} {E : XK}  (hr : RoomB 3 "sets_of" (defScope s_sets_of) f cdv A s) :
    PDSs (XT e base N_sets_of "sets_of" (defScope s_sets_of) f cdv A outer s H E) ⟨e.tb, H, h0⟩ (defBody s_sets_of) (t_sets_of) :=
  have nd := sc_sets_of.nd
  d_seq (dset 4 nd (d_callF c_told_sets hr (by decide) (d_cons (dv 0) (d_cons (dv 1) (d_cons (dv 2) (d_cons (dv 3) (d_nil)))))))
    (d_seq (d_if (d_testC o_isN (dv 4) (d_non) (nomark _)) (d_seq (d_ret (d_non))
    (d_end)) (d_end))
    (d_seq (d_ret (d_ix (o_ix (hu1 hr)) (dv 4) (d_int) (fun _ _ => rfl)))
    (d_end)))

abbrev s__law_feed : Stmt := topS 14
abbrev N__law_feed : List Str := ["_law_script", "_law_seed", "_law_cell", "_law_great"]
theorem sc__law_feed : FnScope N__law_feed ["_law_script"] (defScope s__law_feed) := ⟨rfl, rfl, rfl, by decide +kernel, rfl, by decide +kernel, by decide +kernel⟩
theorem w__law_feed {e : Ev} (g : Gs e)  {f : Addr} {base : Heap} {cdv : Value} {A : Around} {outer : List Env} {s : Shared} {H : Hp} {h0 : HU} {E : XK}  (hr : RoomB 0 "_law_feed" (defScope s__law_feed) f cdv A s) :
    PDSs (XT e base N__law_feed "_law_feed" (defScope s__law_feed) f cdv A outer s H E) ⟨e.tb, H, h0⟩ (defBody s__law_feed) (t__law_feed) :=
  have nd := sc__law_feed.nd
  d_seq (dset 1 nd (d_int))
    (d_seq (d_for PassesOwn.never rfl (d_iAny (d_slice (dv 0) (d_noP) (d_part (d_int)))) (dn 2 nd) (d_seq (dset 1 nd (d_op o_mod (d_op o_add (d_op o_mul (dv 1) (d_int)) (dv 2)) (d_int)))
    (d_end)))
    (d_seq (d_setLc (i := 3) (own := [("_law_cell", 2)]) rfl nd rfl rfl (sw_true rfl rfl rfl (by decide)) (tg_name (by decide)) (d_iAny (d_slice (dv 0) (d_noP) (d_part (d_int)))) (blkOk_by (N := N__law_feed) (sc := defScope s__law_feed) (by decide +kernel)) (fun _ _ _ _ _ => pn 2 nd) (fun _ _ _ _ _ => d_tests1 (d_testC (o_ge) (d_callB c_abs rfl g.abs_ boot_abs (d_cons (dv 2) (d_nil))) (d_op o_pow (d_int) (d_int)) (nomark _))) (fun _ _ _ _ _ => d_callB c_abs rfl g.abs_ boot_abs (d_cons (dv 2) (d_nil))))
    (d_seq (d_ret (d_dis (d_kv (d_str) (d_rev (dv 3)) (d_kv (d_str) (d_int) (d_kv (d_str) (dv 1) (d_kv0))))))
    (d_end))))

abbrev s__law_draw : Stmt := topS 15
abbrev N__law_draw : List Str := ["_law_feed_here", "_law_many", "_law_found", "_law_one", "_law_two"]
theorem sc__law_draw : FnScope N__law_draw ["_law_feed_here", "_law_many"] (defScope s__law_draw) := ⟨rfl, rfl, rfl, by decide +kernel, rfl, by decide +kernel, by decide +kernel⟩
theorem w__law_draw {e : Ev} (g : Gs e)  {f : Addr} {base : Heap} {cdv : Value} {A : Around} {outer : List Env} {s : Shared} {H : Hp} {h0 : HU} {E : XK}  (hr : RoomB 0 "_law_draw" (defScope s__law_draw) f cdv A s) :
    PDSs (XT e base N__law_draw "_law_draw" (defScope s__law_draw) f cdv A outer s H E) ⟨e.tb, H, h0⟩ (defBody s__law_draw) (t__law_draw) :=
  have nd := sc__law_draw.nd
  d_seq (d_while PassesOwn.never (PW.pt (d_and (d_testC (o_eq (hu64 hr)) (d_ix (o_ix (hu1 hr)) (dv 0) (d_str) (fun _ _ => rfl)) (d_int) (nomark _)) (d_and1 (d_testC (o_ne (hu64 hr)) (d_ix (o_ix (hu1 hr)) (dv 0) (d_str) (fun _ _ => rfl)) (d_lst (d_nil)) (nomark _))))) (d_seq (d_asg (d_bm0 (fun _ _ _ _ a b c => isLst_v a b c) PySem.F.plainAttrs_list PySem.F.slot_list_pop PySem.F.type_list_pop m_pop (d_ix (o_ix (hu1 hr)) (dv 0) (d_str) (fun _ _ => rfl))) (d_sub (hu1 hr) (dv 0) (d_str)))
    (d_end)))
    (d_seq (d_if (d_testC (o_gt) (d_ix (o_ix (hu1 hr)) (dv 0) (d_str) (fun _ _ => rfl)) (d_int) (nomark _)) (d_seq (dset 2 nd (d_op o_mod (d_ix (o_ix (hu1 hr)) (dv 0) (d_str) (fun _ _ => rfl)) (dv 1)))
    (d_seq (d_asg (d_op o_div (d_ix (o_ix (hu1 hr)) (dv 0) (d_str) (fun _ _ => rfl)) (dv 1)) (d_sub (hu1 hr) (dv 0) (d_str)))
    (d_seq (d_ret (dv 2))
    (d_end)))) (d_end))
    (d_seq (dset 3 nd (d_op o_mod (d_op o_add (d_op o_mul (d_ix (o_ix (hu1 hr)) (dv 0) (d_str) (fun _ _ => rfl)) (d_int)) (d_int)) (d_int)))
    (d_seq (d_asg (d_op o_mod (d_op o_add (d_op o_mul (dv 3) (d_int)) (d_int)) (d_int)) (d_sub (hu1 hr) (dv 0) (d_str)))
    (d_seq (dset 4 nd (d_op o_mod (d_op o_mul (d_ix (o_ix (hu1 hr)) (dv 0) (d_str) (fun _ _ => rfl)) (d_ix (o_ix (hu1 hr)) (dv 0) (d_str) (fun _ _ => rfl))) (d_int)))
    (d_seq (d_ret (d_op o_mod (d_op o_add (d_op o_mul (d_op o_mod (d_op o_mul (dv 3) (dv 3)) (d_int)) (d_int)) (dv 4)) (dv 1)))
    (d_end))))))

abbrev s__law_after : Stmt := topS 16
abbrev N__law_after : List Str := ["_law_word", "_law_letters_here", "_law_found", "_law_more", "_law_sign", "_law_number"]
theorem sc__law_after : FnScope N__law_after ["_law_word"] (defScope s__law_after) := ⟨rfl, rfl, rfl, by decide +kernel, rfl, by decide +kernel, by decide +kernel⟩
theorem w__law_after {e : Ev} (g : Gs e)  {f : Addr} {base : Heap} {cdv : Value} {A : Around} {outer : List Env} {s : Shared} {H : Hp} {h0 : HU} {E : XK}  (hr : RoomB 0 "_law_after" (defScope s__law_after) f cdv A s) :
    PDSs (XT e base N__law_after "_law_after" (defScope s__law_after) f cdv A outer s H E) ⟨e.tb, H, h0⟩ (defBody s__law_after) (t__law_after) :=
  have nd := sc__law_after.nd
  d_seq (dset 1 nd (d_str))
    (d_seq (dset 2 nd (d_str))
    (d_seq (dset 3 nd (d_int))
    (d_seq (d_for PassesOwn.never rfl (d_iAny (d_revS (dv 0))) (dn 4 nd) (d_seq (dset 5 nd (d_op o_add (d_bm (fun _ _ _ _ a b c => isTxt_v a b c) PySem.F.plainAttrs_str PySem.F.slot_str_index PySem.F.type_str_index m_sidx (dv 1) (d_cons (dv 4) (d_nil))) (dv 3)))
    (d_seq (dset 2 nd (d_op o_add (d_ix (o_ix (hu1 hr)) (dv 1) (d_op o_mod (dv 5) (d_int)) (fun _ _ => rfl)) (dv 2)))
    (d_seq (dset 3 nd (d_op o_div (dv 5) (d_int)))
    (d_end)))))
    (d_seq (d_ret (d_slice (d_op o_add (dv 2) (d_op o_mulS (d_str) (dv 3))) (d_noP) (d_part (d_int))))
    (d_end)))))

abbrev s__law_names : Stmt := topS 17
abbrev N__law_names : List Str := ["_law_feed_here", "_law_many", "_law_found", "_law_k", "_law_signs", "_law_word", "_law_sign"]
theorem sc__law_names : FnScope N__law_names ["_law_feed_here", "_law_many"] (defScope s__law_names) := ⟨rfl, rfl, rfl, by decide +kernel, rfl, by decide +kernel, by decide +kernel⟩
theorem w__law_names {e : Ev} (g : Gs e) (c__law_draw : Cal e 1 "_law_draw" ["_law_feed_here", "_law_many"] [] sp__law_draw) (c__law_after : Cal e 1 "_law_after" ["_law_word"] [] sp__law_after) {f : Addr} {base : Heap} {cdv : Value} {A : Around} {outer : List Env} {s : Shared} {H : Hp} {h0 : HU} {E : XK}  (hr : RoomB 1 "_law_names" (defScope s__law_names) f cdv A s) :
    PDSs (XT e base N__law_names "_law_names" (defScope s__law_names) f cdv A outer s H E) ⟨e.tb, H, h0⟩ (defBody s__law_names) (t__law_names) :=
  have nd := sc__law_names.nd
  d_seq (dset 2 nd (d_lst (d_nil)))
    (d_seq (d_for PassesOwn.never rfl (d_iRng1 rfl g.range_ (d_cons (dv 1) (d_nil))) (dn 3 nd) (d_seq (d_setLc (i := 4) (own := [("_law_sign", 6)]) rfl nd rfl rfl (sw_true rfl rfl rfl (by decide)) (tg_name (by decide)) (d_iRng1 rfl g.range_ (d_cons (d_op o_add (d_int) (d_callF c__law_draw hr (by decide) (d_cons (dv 0) (d_cons (d_int) (d_nil))))) (d_nil))) (blkOk_by (N := N__law_names) (sc := defScope s__law_names) (by decide +kernel)) (fun _ _ _ _ _ => pn 6 nd) (fun _ _ _ _ _ => d_tests0) (fun _ _ _ _ _ => d_callF c__law_draw hr (by decide) (d_cons (dv 0) (d_cons (d_int) (d_nil)))))
    (d_seq (dset 5 nd (d_bm (fun _ _ _ _ a b c => isTxt_v a b c) PySem.F.plainAttrs_str PySem.F.slot_str_join PySem.F.type_str_join m_join (d_str) (d_cons (d_lc (own := [("_law_sign", 6)]) rfl nd (tg_name (by decide)) (d_iAny (dv 4)) (blkOk_by (N := N__law_names) (sc := defScope s__law_names) (by decide +kernel)) (fun _ _ _ _ _ => pn 6 nd) (fun _ _ _ _ _ => d_tests0) (fun _ _ _ _ _ => d_ix (o_ix (hu1 hr)) (d_str) (dv 6) (fun _ _ => rfl))) (d_nil))))
    (d_seq (d_while PassesOwn.never (PW.pt (d_or (d_testC (o_in (hu65 hr)) (dv 5) (dv 2) (rfl)) (d_or1 (d_testC (o_in (hu65 hr)) (dv 5) (d_tup (d_cons (d_str) (d_cons (d_str) (d_cons (d_str) (d_nil))))) (rfl))))) (d_seq (dset 5 nd (d_callF c__law_after hr (by decide) (d_cons (dv 5) (d_nil))))
    (d_end)))
    (d_seq (d_expr (d_bm (fun _ _ _ _ a b c => isLst_v a b c) PySem.F.plainAttrs_list PySem.F.slot_list_append PySem.F.type_list_append m_append (dv 2) (d_cons (dv 5) (d_nil))))
    (d_end))))))
    (d_seq (d_ret (d_callTy c_tuple rfl g.tuple_ boot_tuple (d_cons (d_callB c_sortA rfl g.sorted_ boot_sorted (d_cons (dv 2) (d_nil))) (d_nil))))
    (d_end)))

abbrev s__law_rings : Stmt := topS 18
abbrev N__law_rings : List Str := ["_law_moves", "_law_found", "_law_room", "_law_at", "_law_turn", "_law_ring"]
theorem sc__law_rings : FnScope N__law_rings ["_law_moves"] (defScope s__law_rings) := ⟨rfl, rfl, rfl, by decide +kernel, rfl, by decide +kernel, by decide +kernel⟩
theorem w__law_rings {e : Ev} (g : Gs e)  {f : Addr} {base : Heap} {cdv : Value} {A : Around} {outer : List Env} {s : Shared} {H : Hp} {h0 : HU} {E : XK}  (hr : RoomB 0 "_law_rings" (defScope s__law_rings) f cdv A s) :
    PDSs (XT e base N__law_rings "_law_rings" (defScope s__law_rings) f cdv A outer s H E) ⟨e.tb, H, h0⟩ (defBody s__law_rings) (t__law_rings) :=
  have nd := sc__law_rings.nd
  d_seq (dset 1 nd (d_lst (d_nil)))
    (d_seq (d_for PassesOwn.never rfl (d_iRng1 rfl g.range_ (d_cons (d_callB c_len rfl g.len_ boot_len (d_cons (dv 0) (d_nil))) (d_nil))) (dn 2 nd) (d_seq (dset 3 nd (dv 2))
    (d_seq (d_for PassesOwn.never rfl (d_iAny (dv 0)) (dn 4 nd) (d_seq (dset 3 nd (d_ix (o_ix (hu1 hr)) (d_ix (o_ix (hu1 hr)) (dv 0) (dv 3) (fun _ _ => rfl)) (d_int) (fun _ _ => rfl)))
    (d_end)))
    (d_seq (dset 5 nd (d_lst (d_cons (dv 3) (d_nil))))
    (d_seq (d_while PassesOwn.never (d_testC (o_ne (hu64 hr)) (d_ix (o_ix (hu1 hr)) (d_ix (o_ix (hu1 hr)) (dv 0) (d_ix (o_ix (hu1 hr)) (dv 5) (d_un o_neg (d_int)) (fun _ _ => rfl)) (fun _ _ => rfl)) (d_int) (fun _ _ => rfl)) (dv 3) (nomark _)) (d_seq (d_expr (d_bm (fun _ _ _ _ a b c => isLst_v a b c) PySem.F.plainAttrs_list PySem.F.slot_list_append PySem.F.type_list_append m_append (dv 5) (d_cons (d_ix (o_ix (hu1 hr)) (d_ix (o_ix (hu1 hr)) (dv 0) (d_ix (o_ix (hu1 hr)) (dv 5) (d_un o_neg (d_int)) (fun _ _ => rfl)) (fun _ _ => rfl)) (d_int) (fun _ _ => rfl)) (d_nil))))
    (d_end)))
    (d_seq (d_expr (d_bm (fun _ _ _ _ a b c => isLst_v a b c) PySem.F.plainAttrs_list PySem.F.slot_list_append PySem.F.type_list_append m_append (dv 1) (d_cons (d_callB (c_min rfl) rfl g.min_ boot_min (d_cons (dv 5) (d_nil))) (d_nil))))
    (d_end)))))))
    (d_seq (d_ret (dv 1))
    (d_end)))

abbrev s__law_machine : Stmt := topS 19
abbrev N__law_machine : List Str := ["_law_feed_here", "_law_base", "_law_names_here", "_law_most", "_law_many", "_law_letters_here", "_law_name", "_law_moves", "_law_room", "_law_yes", "_law_letter"]
theorem sc__law_machine : FnScope N__law_machine ["_law_feed_here", "_law_base", "_law_names_here", "_law_most"] (defScope s__law_machine) := ⟨rfl, rfl, rfl, by decide +kernel, rfl, by decide +kernel, by decide +kernel⟩
theorem w__law_machine {e : Ev} (g : Gs e) (c__law_draw : Cal e 1 "_law_draw" ["_law_feed_here", "_law_many"] [] sp__law_draw) (c__law_rings : Cal e 1 "_law_rings" ["_law_moves"] [] sp__law_rings) {f : Addr} {base : Heap} {cdv : Value} {A : Around} {outer : List Env} {s : Shared} {H : Hp} {h0 : HU} {E : XK}  (hr : RoomB 1 "_law_machine" (defScope s__law_machine) f cdv A s) :
    PDSs (XT e base N__law_machine "_law_machine" (defScope s__law_machine) f cdv A outer s H E) ⟨e.tb, H, h0⟩ (defBody s__law_machine) (t__law_machine) :=
  have nd := sc__law_machine.nd
  d_seq (dset 4 nd (d_op o_add (d_int) (d_callF c__law_draw hr (by decide) (d_cons (dv 0) (d_cons (dv 3) (d_nil))))))
    (d_seq (dset 5 nd (d_int))
    (d_seq (d_for PassesOwn.never rfl (d_iAny (dv 2)) (dn 6 nd) (d_seq (dset 5 nd (d_op o_mul (dv 5) (dv 1)))
    (d_end)))
    (d_seq (dset 7 nd (d_lst (d_nil)))
    (d_seq (d_for PassesOwn.never rfl (d_iRng1 rfl g.range_ (d_cons (dv 4) (d_nil))) (dn 8 nd) (d_seq (d_expr (d_bm (fun _ _ _ _ a b c => isLst_v a b c) PySem.F.plainAttrs_list PySem.F.slot_list_append PySem.F.type_list_append m_append (dv 7) (d_cons (d_callTy c_tuple rfl g.tuple_ boot_tuple (d_cons (d_lc (own := [("_law_letter", 10)]) rfl nd (tg_name (by decide)) (d_iRng1 rfl g.range_ (d_cons (dv 5) (d_nil))) (blkOk_by (N := N__law_machine) (sc := defScope s__law_machine) (by decide +kernel)) (fun _ _ _ _ _ => pn 10 nd) (fun _ _ _ _ _ => d_tests0) (fun _ _ _ _ _ => d_callF c__law_draw hr (by decide) (d_cons (dv 0) (d_cons (dv 4) (d_nil))))) (d_nil))) (d_nil))))
    (d_end)))
    (d_seq (dset 9 nd (d_lc (own := [("_law_room", 8)]) rfl nd (tg_name (by decide)) (d_iAny (dv 7)) (blkOk_by (N := N__law_machine) (sc := defScope s__law_machine) (by decide +kernel)) (fun _ _ _ _ _ => pn 8 nd) (fun _ _ _ _ _ => d_tests0) (fun _ _ _ _ _ => d_cmp (o_eq (hu64 hr)) (d_callF c__law_draw hr (by decide) (d_cons (dv 0) (d_cons (d_int) (d_nil)))) (d_int) (nomark _))))
    (d_seq (d_ret (d_tup (d_cons (dv 2) (d_cons (d_callTy c_tuple rfl g.tuple_ boot_tuple (d_cons (d_lc (own := [("_law_room", 8)]) rfl nd (tg_name (by decide)) (d_iAny (d_callF c__law_rings hr (by decide) (d_cons (dv 7) (d_nil)))) (blkOk_by (N := N__law_machine) (sc := defScope s__law_machine) (by decide +kernel)) (fun _ _ _ _ _ => pn 8 nd) (fun _ _ _ _ _ => d_tests0) (fun _ _ _ _ _ => d_ix (o_ix (hu1 hr)) (dv 9) (dv 8) (fun _ _ => rfl))) (d_nil))) (d_cons (d_callTy c_tuple rfl g.tuple_ boot_tuple (d_cons (dv 7) (d_nil))) (d_nil))))))
    (d_end)))))))

abbrev s__law_letters : Stmt := topS 20
abbrev N__law_letters : List Str := ["_law_base", "_law_many", "_law_found", "_law_turn", "_law_more", "_law_letter", "_law_figure"]
theorem sc__law_letters : FnScope N__law_letters ["_law_base", "_law_many"] (defScope s__law_letters) := ⟨rfl, rfl, rfl, by decide +kernel, rfl, by decide +kernel, by decide +kernel⟩
theorem w__law_letters {e : Ev} (g : Gs e)  {f : Addr} {base : Heap} {cdv : Value} {A : Around} {outer : List Env} {s : Shared} {H : Hp} {h0 : HU} {E : XK}  (hr : RoomB 0 "_law_letters" (defScope s__law_letters) f cdv A s) :
    PDSs (XT e base N__law_letters "_law_letters" (defScope s__law_letters) f cdv A outer s H E) ⟨e.tb, H, h0⟩ (defBody s__law_letters) (t__law_letters) :=
  have nd := sc__law_letters.nd
  d_seq (dset 2 nd (d_lst (d_cons (d_tup (d_nil)) (d_nil))))
    (d_seq (d_for PassesOwn.never rfl (d_iRng1 rfl g.range_ (d_cons (dv 1) (d_nil))) (dn 3 nd) (d_seq (dset 4 nd (d_lst (d_nil)))
    (d_seq (d_for PassesOwn.never rfl (d_iAny (dv 2)) (dn 5 nd) (d_seq (d_expr (d_bm (fun _ _ _ _ a b c => isLst_v a b c) PySem.F.plainAttrs_list PySem.F.slot_list_extend PySem.F.type_list_extend m_extend (dv 4) (d_cons (d_lc (own := [("_law_figure", 6)]) rfl nd (tg_name (by decide)) (d_iRng1 rfl g.range_ (d_cons (dv 0) (d_nil))) (blkOk_by (N := N__law_letters) (sc := defScope s__law_letters) (by decide +kernel)) (fun _ _ _ _ _ => pn 6 nd) (fun _ _ _ _ _ => d_tests0) (fun _ _ _ _ _ => d_op o_add (dv 5) (d_tup (d_cons (dv 6) (d_nil))))) (d_nil))))
    (d_end)))
    (d_seq (dset 2 nd (dv 4))
    (d_end)))))
    (d_seq (d_ret (dv 2))
    (d_end)))

abbrev s__law_grown : Stmt := topS 21
abbrev N__law_grown : List Str := ["_law_first", "_law_many", "_law_onward", "_law_most", "_law_came", "_law_numbers", "_law_moves", "_law_found", "_law_k", "_law_room"]
theorem sc__law_grown : FnScope N__law_grown ["_law_first", "_law_many", "_law_onward", "_law_most"] (defScope s__law_grown) := ⟨rfl, rfl, rfl, by decide +kernel, rfl, by decide +kernel, by decide +kernel⟩
theorem w__law_grown {e : Ev} (g : Gs e)  {kc : Nat} {f : Addr} {base : Heap} {cdv : Value} {A : Around} {outer : List Env} {s : Shared} {H : Hp} {h0 : HU} {E : XK} (hkc : kc ≤ 1) (hr : RoomB 1 "_law_grown" (defScope s__law_grown) f cdv A s) :
    PDSs (XT e base N__law_grown "_law_grown" (defScope s__law_grown) f cdv A outer s H E) ⟨e.tb, H, h0⟩ (defBody s__law_grown) (t__law_grown (Recv (XT e base N__law_grown "_law_grown" (defScope s__law_grown) f cdv A outer s H E) ⟨e.tb, H, h0⟩ kc)) :=
  have nd := sc__law_grown.nd
  d_seq (dset 4 nd (d_lst (d_cons (dv 0) (d_nil))))
    (d_seq (dset 5 nd (d_disT (hu1 hr) (d_kv (dv 0) (d_int) (d_kv0))))
    (d_seq (dset 6 nd (d_lst (d_nil)))
    (d_seq (d_while PassesOwn.never (d_testC (o_lt) (d_callB c_len rfl g.len_ boot_len (d_cons (dv 6) (d_nil))) (d_callB c_len rfl g.len_ boot_len (d_cons (dv 4) (d_nil))) (nomark _)) (d_seq (dset 7 nd (d_lst (d_nil)))
    (d_seq (d_for PassesOwn.never rfl (d_iRng1 rfl g.range_ (d_cons (dv 1) (d_nil))) (dn 8 nd) (d_seq (dset 9 nd (d_callR (kc := kc) (i := 2) hr hkc rfl (by first | exact Or.inl rfl | exact Or.inr (Or.inl rfl) | exact Or.inr (Or.inr rfl)) (d_cons (d_ix (o_ix (hu1 hr)) (dv 4) (d_callB c_len rfl g.len_ boot_len (d_cons (dv 6) (d_nil))) (fun _ _ => rfl)) (d_cons (dv 8) (d_nil)))))
    (d_seq (d_if (d_testC (o_notIn (hu65 hr)) (dv 9) (dv 5) (rfl)) (d_seq (d_asg (d_callB c_len rfl g.len_ boot_len (d_cons (dv 4) (d_nil))) (d_sub (hu1 hr) (dv 5) (dv 9)))
    (d_seq (d_expr (d_bm (fun _ _ _ _ a b c => isLst_v a b c) PySem.F.plainAttrs_list PySem.F.slot_list_append PySem.F.type_list_append m_append (dv 4) (d_cons (dv 9) (d_nil))))
    (d_end))) (d_end))
    (d_seq (d_expr (d_bm (fun _ _ _ _ a b c => isLst_v a b c) PySem.F.plainAttrs_list PySem.F.slot_list_append PySem.F.type_list_append m_append (dv 7) (d_cons (d_ix (o_ix (hu1 hr)) (dv 5) (dv 9) (fun _ _ => rfl)) (d_nil))))
    (d_end)))))
    (d_seq (d_expr (d_bm (fun _ _ _ _ a b c => isLst_v a b c) PySem.F.plainAttrs_list PySem.F.slot_list_append PySem.F.type_list_append m_append (dv 6) (d_cons (d_callTy c_tuple rfl g.tuple_ boot_tuple (d_cons (dv 7) (d_nil))) (d_nil))))
    (d_seq (d_if (d_testC (o_gt) (d_callB c_len rfl g.len_ boot_len (d_cons (dv 4) (d_nil))) (dv 3) (nomark _)) (d_seq (d_ret (d_non))
    (d_end)) (d_end))
    (d_end))))))
    (d_seq (d_ret (d_tup (d_cons (dv 4) (d_cons (d_callTy c_tuple rfl g.tuple_ boot_tuple (d_cons (dv 6) (d_nil))) (d_nil)))))
    (d_end)))))

abbrev s__law_alike : Stmt := topS 22
abbrev N__law_alike : List Str := ["_law_found", "_law_due_here", "_law_one", "_law_other"]
theorem sc__law_alike : FnScope N__law_alike ["_law_found", "_law_due_here"] (defScope s__law_alike) := ⟨rfl, rfl, rfl, by decide +kernel, rfl, by decide +kernel, by decide +kernel⟩
theorem w__law_alike {e : Ev} (g : Gs e)  {kr : Nat} {SP : DP} (c_rec : Cal e kr "_law_alike" ["_law_found", "_law_due_here"] [] SP) {f : Addr} {base : Heap} {cdv : Value} {A : Around} {outer : List Env} {s : Shared} {H : Hp} {h0 : HU} {E : XK} (hr : RoomB kr "_law_alike" (defScope s__law_alike) f cdv A s) :
    PDSs (XT e base N__law_alike "_law_alike" (defScope s__law_alike) f cdv A outer s H E) ⟨e.tb, H, h0⟩ (defBody s__law_alike) (t__law_alike SP) :=
  have nd := sc__law_alike.nd
  d_seq (d_if (PW.pt (d_or (d_testV (d_callB c_isi rfl g.isinstance_ boot_isinstance (d_cons (dv 1) (d_cons (d_bty rfl g.tuple_ boot_tuple) (d_nil))))) (d_or1 (d_testV (d_callB c_isi rfl g.isinstance_ boot_isinstance (d_cons (dv 1) (d_cons (d_bty rfl g.list_ boot_list) (d_nil)))))))) (d_seq (d_if (PW.pt (d_or (d_testC (o_ne (hu64 hr)) (d_callB c_isi rfl g.isinstance_ boot_isinstance (d_cons (dv 0) (d_cons (d_bty rfl g.tuple_ boot_tuple) (d_nil)))) (d_callB c_isi rfl g.isinstance_ boot_isinstance (d_cons (dv 1) (d_cons (d_bty rfl g.tuple_ boot_tuple) (d_nil)))) (nomark _)) (d_or1 (d_testC (o_ne (hu64 hr)) (d_callB c_isi rfl g.isinstance_ boot_isinstance (d_cons (dv 0) (d_cons (d_bty rfl g.list_ boot_list) (d_nil)))) (d_callB c_isi rfl g.isinstance_ boot_isinstance (d_cons (dv 1) (d_cons (d_bty rfl g.list_ boot_list) (d_nil)))) (nomark _))))) (d_seq (d_ret (d_bl))
    (d_end)) (d_end))
    (d_seq (d_ret (d_andV (d_cmp (o_eq (hu64 hr)) (d_callB c_len rfl g.len_ boot_len (d_cons (dv 0) (d_nil))) (d_callB c_len rfl g.len_ boot_len (d_cons (dv 1) (d_nil))) (nomark _)) (d_oneV (d_callB (c_all rfl) rfl g.all_ boot_all (d_cons (d_lc (own := [("_law_one", 2), ("_law_other", 3)]) rfl nd (tg_tup (is := [2, 3]) (by decide) rfl) (d_iZip rfl g.zip_ (d_cons (dv 0) (d_cons (dv 1) (d_nil)))) (blkOk_by (N := N__law_alike) (sc := defScope s__law_alike) (by decide +kernel)) (fun _ _ _ _ _ => pg_tup rfl (pgs_cons (pn 2 nd) (pgs_cons (pn 3 nd) (pgs_nil))) rfl rfl) (fun _ _ _ _ _ => d_tests0) (fun _ _ _ _ _ => d_callF c_rec hr (Nat.le_refl _) (d_cons (dv 2) (d_cons (dv 3) (d_nil))))) (d_nil))))))
    (d_end))) (d_end))
    (d_seq (d_if (PW.pt (d_or (d_testC (o_ne (hu64 hr)) (d_callB c_isi rfl g.isinstance_ boot_isinstance (d_cons (dv 0) (d_cons (d_bty rfl g.bool_ boot_bool) (d_nil)))) (d_callB c_isi rfl g.isinstance_ boot_isinstance (d_cons (dv 1) (d_cons (d_bty rfl g.bool_ boot_bool) (d_nil)))) (nomark _)) (d_or1 (d_testC (o_ne (hu64 hr)) (d_callB c_isi rfl g.isinstance_ boot_isinstance (d_cons (dv 0) (d_cons (d_bty rfl g.int_ boot_int) (d_nil)))) (d_callB c_isi rfl g.isinstance_ boot_isinstance (d_cons (dv 1) (d_cons (d_bty rfl g.int_ boot_int) (d_nil)))) (nomark _))))) (d_seq (d_ret (d_bl))
    (d_end)) (d_end))
    (d_seq (d_ret (d_cmp (o_eq (hu64 hr)) (dv 0) (dv 1) (nomark _)))
    (d_end)))

abbrev s__law_wholes : Stmt := topS 23
abbrev N__law_wholes : List Str := ["_law_base", "_law_names_here", "_law_name", "_law_at", "_law_found", "_law_letter", "_law_numbers", "_law_figure", "_law_number", "_law_one"]
theorem sc__law_wholes : FnScope N__law_wholes ["_law_base", "_law_names_here", "_law_name"] (defScope s__law_wholes) := ⟨rfl, rfl, rfl, by decide +kernel, rfl, by decide +kernel, by decide +kernel⟩
theorem w__law_wholes {e : Ev} (g : Gs e) (c__law_letters : Cal e 1 "_law_letters" ["_law_base", "_law_many"] [] sp__law_letters) {f : Addr} {base : Heap} {cdv : Value} {A : Around} {outer : List Env} {s : Shared} {H : Hp} {h0 : HU} {E : XK}  (hr : RoomB 1 "_law_wholes" (defScope s__law_wholes) f cdv A s) :
    PDSs (XT e base N__law_wholes "_law_wholes" (defScope s__law_wholes) f cdv A outer s H E) ⟨e.tb, H, h0⟩ (defBody s__law_wholes) (t__law_wholes) :=
  have nd := sc__law_wholes.nd
  d_seq (dset 3 nd (d_tix (dv 1) (dv 2)))
    (d_seq (dset 4 nd (d_lst (d_nil)))
    (d_seq (d_for PassesOwn.never rfl (d_iAny (d_callF c__law_letters hr (by decide) (d_cons (dv 0) (d_cons (d_op o_sub (d_callB c_len rfl g.len_ boot_len (d_cons (dv 1) (d_nil))) (d_int)) (d_nil))))) (dn 5 nd) (d_seq (dset 6 nd (d_lst (d_nil)))
    (d_seq (d_for PassesOwn.never rfl (d_iRng1 rfl g.range_ (d_cons (dv 0) (d_nil))) (dn 7 nd) (d_seq (dset 8 nd (d_int))
    (d_seq (d_for PassesOwn.never rfl (d_iAny (d_op o_add (d_op o_add (d_slice (dv 5) (d_noP) (d_part (dv 3))) (d_tup (d_cons (dv 7) (d_nil)))) (d_slice (dv 5) (d_part (dv 3)) (d_noP)))) (dn 9 nd) (d_seq (dset 8 nd (d_op o_add (d_op o_mul (dv 8) (dv 0)) (dv 9)))
    (d_end)))
    (d_seq (d_expr (d_bm (fun _ _ _ _ a b c => isLst_v a b c) PySem.F.plainAttrs_list PySem.F.slot_list_append PySem.F.type_list_append m_append (dv 6) (d_cons (dv 8) (d_nil))))
    (d_end)))))
    (d_seq (d_expr (d_bm (fun _ _ _ _ a b c => isLst_v a b c) PySem.F.plainAttrs_list PySem.F.slot_list_append PySem.F.type_list_append m_append (dv 4) (d_cons (dv 6) (d_nil))))
    (d_end)))))
    (d_seq (d_ret (dv 4))
    (d_end))))

abbrev s__law_going_on : Stmt := topS 24
abbrev N__law_going_on : List Str := ["_law_machine_here", "_law_noughts", "_law_found", "_law_turn", "_law_room", "_law_k"]
theorem sc__law_going_on : FnScope N__law_going_on ["_law_machine_here", "_law_noughts"] (defScope s__law_going_on) := ⟨rfl, rfl, rfl, by decide +kernel, rfl, by decide +kernel, by decide +kernel⟩
theorem w__law_going_on {e : Ev} (g : Gs e)  {f : Addr} {base : Heap} {cdv : Value} {A : Around} {outer : List Env} {s : Shared} {H : Hp} {h0 : HU} {E : XK}  (hr : RoomB 0 "_law_going_on" (defScope s__law_going_on) f cdv A s) :
    PDSs (XT e base N__law_going_on "_law_going_on" (defScope s__law_going_on) f cdv A outer s H E) ⟨e.tb, H, h0⟩ (defBody s__law_going_on) (t__law_going_on) :=
  have nd := sc__law_going_on.nd
  d_seq (dset 2 nd (d_lc (own := [("_law_room", 4)]) rfl nd (tg_name (by decide)) (d_iRng1 rfl g.range_ (d_cons (d_callB c_len rfl g.len_ boot_len (d_cons (d_ix (o_ix (hu1 hr)) (dv 0) (d_int) (fun _ _ => rfl)) (d_nil))) (d_nil))) (blkOk_by (N := N__law_going_on) (sc := defScope s__law_going_on) (by decide +kernel)) (fun _ _ _ _ _ => pn 4 nd) (fun _ _ _ _ _ => d_tests1 (d_testV (d_ix (o_ix (hu1 hr)) (d_ix (o_ix (hu1 hr)) (dv 0) (d_int) (fun _ _ => rfl)) (dv 4) (fun _ _ => rfl)))) (fun _ _ _ _ _ => dv 4)))
    (d_seq (d_for PassesOwn.never rfl (d_iAny (d_ix (o_ix (hu1 hr)) (dv 0) (d_int) (fun _ _ => rfl))) (dn 3 nd) (d_seq (d_for PassesOwn.never rfl (d_iRng1 rfl g.range_ (d_cons (d_callB c_len rfl g.len_ boot_len (d_cons (d_ix (o_ix (hu1 hr)) (dv 0) (d_int) (fun _ _ => rfl)) (d_nil))) (d_nil))) (dn 4 nd) (d_seq (d_if (PW.pt (d_and (d_testC (o_notIn (hu65 hr)) (dv 4) (dv 2) (rfl)) (d_and1 (d_testV (d_callB (c_any rfl) rfl g.any_ boot_any (d_cons (d_lc (own := [("_law_k", 5)]) rfl nd (tg_name (by decide)) (d_iAny (dv 1)) (blkOk_by (N := N__law_going_on) (sc := defScope s__law_going_on) (by decide +kernel)) (fun _ _ _ _ _ => pn 5 nd) (fun _ _ _ _ _ => d_tests0) (fun _ _ _ _ _ => d_cmp (o_in (hu65 hr)) (d_ix (o_ix (hu1 hr)) (d_ix (o_ix (hu1 hr)) (d_ix (o_ix (hu1 hr)) (dv 0) (d_int) (fun _ _ => rfl)) (dv 4) (fun _ _ => rfl)) (dv 5) (fun _ _ => rfl)) (dv 2) (rfl))) (d_nil))))))) (d_seq (d_expr (d_bm (fun _ _ _ _ a b c => isLst_v a b c) PySem.F.plainAttrs_list PySem.F.slot_list_append PySem.F.type_list_append m_append (dv 2) (d_cons (dv 4) (d_nil))))
    (d_end)) (d_end))
    (d_end)))
    (d_end)))
    (d_seq (d_ret (dv 2))
    (d_end)))

abbrev s__law_due : Stmt := topS 25
abbrev N__law_due : List Str := ["_law_base", "_law_machine_here", "_law_name", "_law_wholes_here", "_law_going", "_law_onward", "_law_came", "_law_moves", "_law_yes", "_law_room", "_law_one"]
theorem sc__law_due : FnScope N__law_due ["_law_base", "_law_machine_here", "_law_name"] (defScope s__law_due) := ⟨rfl, rfl, rfl, by decide +kernel, rfl, by decide +kernel, by decide +kernel⟩
abbrev s__law_due__law_onward : Stmt := (defBody s__law_due).getD 2 (.Pass ⟨0, 0, 0, 0⟩)
abbrev N__law_due__law_onward : List Str := ["_law_room", "_law_k", "_law_wholes_here", "_law_machine_here", "_law_met", "_law_one", "_law_number"]
theorem w__law_due__law_onward {e : Ev} (g : Gs e)  {base : Heap} {ql : Str} {cl : List (Str × Addr)} {f c : Addr} {A : Around} {outer : List Env} {s : Shared} {H : Hp} {h0 : HU} {E : XK} (hr : Room 0 (A.deeper (envFC (NF.of s__law_due__law_onward "_law_onward" ql cl c) f s.heap.objs.size))) :
    PDSs (ncxC CX0 e.P e.w e.K e.mg base N__law_due__law_onward (NF.of s__law_due__law_onward "_law_onward" ql cl c) f A outer s H E).nox ⟨e.tb, H, h0⟩ (C8.fnBody s__law_due__law_onward) t__law_due__law_onward :=
  have nd : (N__law_due__law_onward).Nodup := by decide +kernel
  d_seq (dset 4 nd (d_lst (d_nil)))
    (d_seq (d_for PassesOwn.never rfl (d_iAny (dv 0)) (dn 5 nd) (d_seq (d_expr (d_bm (fun _ _ _ _ a b c => isLst_v a b c) PySem.F.plainAttrs_list PySem.F.slot_list_extend PySem.F.type_list_extend m_extend (dv 4) (d_cons (d_lc (own := [("_law_number", 6)]) rfl nd (tg_name (by decide)) (d_iAny (d_ix (o_ix (hu1 hr)) (dv 2) (dv 1) (fun _ _ => rfl))) (blkOk_by (N := N__law_due__law_onward) (by rfl)) (fun _ _ _ _ _ => pn 6 nd) (fun _ _ _ _ _ => d_tests0) (fun _ _ _ _ _ => d_ix (o_ix (hu1 hr)) (d_ix (o_ix (hu1 hr)) (d_ix (o_ix (hu1 hr)) (dv 3) (d_int) (fun _ _ => rfl)) (dv 5) (fun _ _ => rfl)) (dv 6) (fun _ _ => rfl))) (d_nil))))
    (d_end)))
    (d_seq (d_ret (d_callTy c_tuple rfl g.tuple_ boot_tuple (d_cons (d_sortSetI rfl rfl g.sorted_ rfl g.set_ (dv 4)) (d_nil))))
    (d_end)))
/-- _law_onward, as _law_due makes it -/
def own__law_due__law_onward {e : Ev} (g : Gs e) (base : Heap) (f c : Addr) (A : Around) (outer : List Env) (s : Shared) (H : Hp) (h0 : HU) (E : XK) : Own (XTc e base N__law_due "_law_due" (defScope s__law_due) f c A outer s H E) ⟨e.tb, H, h0⟩ 1 where
  make := mkOf (XTc e base N__law_due "_law_due" (defScope s__law_due) f c A outer s H E) s__law_due__law_onward "_law_onward"
  ps := ["_law_room", "_law_k"]
  fr := ["_law_wholes_here", "_law_machine_here"]
  js := [3, 1]
  cl := cloFrom (XTc e base N__law_due "_law_due" (defScope s__law_due) f c A outer s H E).env.cells (C8.fnScope s__law_due__law_onward).names []
  sp := sp__law_due__law_onward
  ok := fun b1 f1 c1 _ => ndef_okC (e := e) (N := N__law_due__law_onward) (show NScopeC N__law_due__law_onward ["_law_room", "_law_k"] ["_law_wholes_here", "_law_machine_here"] (C8.fnScope s__law_due__law_onward) from nscopeC_by (by decide +kernel)) (fun _ _ _ us hl => match us, hl with | [_, _], _ => rfl) len__law_due__law_onward fun A outer s H h0 E hr => ⟨t__law_due__law_onward, w__law_due__law_onward g hr, fun cs us q hs => p__law_due__law_onward hs⟩
  hcl := fun _ => rfl
  cp := fun ok => Caps.made ok (show ∀ y ∈ (C8.fnScope s__law_due__law_onward).names, y.2 = .free → (defScope s__law_due).names.lookup y.1 = some .cell ∨ (defScope s__law_due).names.lookup y.1 = some .free from by decide +kernel) (show ∀ y ∈ (["_law_wholes_here", "_law_machine_here"] : List Str), (y, NameKind.free) ∈ (C8.fnScope s__law_due__law_onward).names from by decide +kernel) rfl
theorem w__law_due {e : Ev} (g : Gs e) (c__law_wholes : Cal e 2 "_law_wholes" ["_law_base", "_law_names_here", "_law_name"] [] sp__law_wholes) (c__law_going_on : Cal e 1 "_law_going_on" ["_law_machine_here", "_law_noughts"] [] sp__law_going_on) (c__law_grown : CalC e 2 "_law_grown" ["_law_first", "_law_many", "_law_onward", "_law_most"] [] 1 sp__law_grown) {f : Addr} {base : Heap} {c : Addr} {A : Around} {outer : List Env} {s : Shared} {H : Hp} {h0 : HU} {E : XK} {P : Addr} (TB : TabB base e.mg c P) (hm : (P, ((fun _ _ => "_law_due.<locals>._law_onward") : Nat → Nat → Str)) ∈ e.tb) (hu : ∀ p ∈ e.tb, p.1 = P → p.2 = ((fun _ _ => "_law_due.<locals>._law_onward") : Nat → Nat → Str)) (hr : RoomB 2 "_law_due" (defScope s__law_due) f (.ref c) A s) :
    PDSs (XTc e base N__law_due "_law_due" (defScope s__law_due) f c A outer s H E) ⟨e.tb, H, h0⟩ (defBody s__law_due) (t__law_due (mkOf (XTc e base N__law_due "_law_due" (defScope s__law_due) f c A outer s H E) s__law_due__law_onward "_law_onward") (Hand (XTc e base N__law_due "_law_due" (defScope s__law_due) f c A outer s H E) ⟨e.tb, H, h0⟩ 1 [own__law_due__law_onward g base f c A outer s H h0 E])) :=
  have nd := sc__law_due.nd
  d_seq (dset 3 nd (d_callF c__law_wholes hr (by decide) (d_cons (dv 0) (d_cons (d_ix (o_ix (hu1 hr)) (dv 1) (d_int) (fun _ _ => rfl)) (d_cons (dv 2) (d_nil))))))
    (d_seq (dset 4 nd (d_callF c__law_going_on hr (by decide) (d_cons (dv 1) (d_cons (d_ix (o_ix (hu1 hr)) (dv 3) (d_int) (fun _ _ => rfl)) (d_nil)))))
    (d_seq (d_ndef (st := s__law_due__law_onward) rfl TB rfl hm rfl hu (show ∀ y ∈ (C8.fnScope s__law_due__law_onward).names, y.2 = .free → (defScope s__law_due).names.lookup y.1 = some .cell ∨ (defScope s__law_due).names.lookup y.1 = some .free from by decide +kernel) rfl rfl rfl nd rfl (by first | exact Or.inl rfl | exact Or.inr rfl) (Or.inl rfl))
    (d_seq (d_asg (d_callCF c__law_grown (fun _ => rfl) hr (by decide) (d_cons (d_tup (d_cons (d_int) (d_nil))) (d_cons (d_callB c_len rfl g.len_ boot_len (d_cons (dv 3) (d_nil))) (d_cons (dv 5) (d_cons (d_int) (d_nil)))))) (d_unpack rfl (pgs_cons (pn 6 nd) (pgs_cons (pn 7 nd) (pgs_nil)))))
    (d_seq (d_setLc (i := 8) (own := [("_law_room", 9)]) rfl nd rfl rfl (sw_true rfl rfl rfl (by decide)) (tg_name (by decide)) (d_iAny (dv 6)) (blkOk_by (N := N__law_due) (sc := defScope s__law_due) (by decide +kernel)) (fun _ _ _ _ _ => pn 9 nd) (fun _ _ _ _ _ => d_tests0) (fun _ _ _ _ _ => d_callB (c_any rfl) rfl g.any_ boot_any (d_cons (d_lc (own := [("_law_one", 10)]) rfl nd (tg_name (by decide)) (d_iAny (dv 9)) (blkOk_by (N := N__law_due) (by rfl)) (fun _ _ _ _ _ => pn 10 nd) (fun _ _ _ _ _ => d_tests0) (fun _ _ _ _ _ => d_cmp (o_in (hu65 hr)) (dv 10) (dv 4) (rfl))) (d_nil))))
    (d_seq (d_ret (d_tup (d_cons (dv 6) (d_cons (d_tup (d_cons (d_callTy c_tuple rfl g.tuple_ boot_tuple (d_cons (d_lc (own := [("_law_one", 10)]) rfl nd (tg_name (by decide)) (d_iAny (d_ix (o_ix (hu1 hr)) (dv 1) (d_int) (fun _ _ => rfl))) (blkOk_by (N := N__law_due) (sc := defScope s__law_due) (by decide +kernel)) (fun _ _ _ _ _ => pn 10 nd) (fun _ _ _ _ _ => d_tests1 (d_testC (o_ne (hu64 hr)) (dv 10) (dv 2) (nomark _))) (fun _ _ _ _ _ => dv 10)) (d_nil))) (d_cons (d_callTy c_tuple rfl g.tuple_ boot_tuple (d_cons (dv 8) (d_nil))) (d_cons (dv 7) (d_nil))))) (d_nil)))))
    (d_end))))))

abbrev s__law_wide : Stmt := topS 26
abbrev N__law_wide : List Str := ["_law_many", "_law_moves", "_law_room", "_law_machine_here", "_law_came", "_law_some"]
theorem sc__law_wide : FnScope N__law_wide ["_law_many"] (defScope s__law_wide) := ⟨rfl, rfl, rfl, by decide +kernel, rfl, by decide +kernel, by decide +kernel⟩
theorem w__law_wide {e : Ev} (g : Gs e) (c_sets_of_3 : Cal e 4 "sets_of" ["base", "machine", "name", "most"] [.int 2000] sp_sets_of) (c_some_of_3 : Cal e 4 "some_of" ["base", "machine", "name", "most"] [.int 2000] sp_some_of) {f : Addr} {base : Heap} {cdv : Value} {A : Around} {outer : List Env} {s : Shared} {H : Hp} {h0 : HU} {E : XK}  (hr : RoomB 4 "_law_wide" (defScope s__law_wide) f cdv A s) :
    PDSs (XT e base N__law_wide "_law_wide" (defScope s__law_wide) f cdv A outer s H E) ⟨e.tb, H, h0⟩ (defBody s__law_wide) (t__law_wide) :=
  have nd := sc__law_wide.nd
  d_seq (dset 1 nd (d_lst (d_cons (d_tup (d_cons (d_int) (d_cons (d_int) (d_cons (d_int) (d_cons (d_int) (d_nil)))))) (d_nil))))
    (d_seq (d_for PassesOwn.never rfl (d_iRng2 rfl g.range_ (d_cons (d_int) (d_cons (dv 0) (d_nil)))) (dn 2 nd) (d_seq (d_expr (d_bm (fun _ _ _ _ a b c => isLst_v a b c) PySem.F.plainAttrs_list PySem.F.slot_list_append PySem.F.type_list_append m_append (dv 1) (d_cons (d_op o_mulT (d_tup (d_cons (d_op o_add (dv 2) (d_int)) (d_nil))) (d_int)) (d_nil))))
    (d_end)))
    (d_seq (d_expr (d_bm (fun _ _ _ _ a b c => isLst_v a b c) PySem.F.plainAttrs_list PySem.F.slot_list_append PySem.F.type_list_append m_append (dv 1) (d_cons (d_op o_mulT (d_tup (d_cons (d_int) (d_nil))) (d_int)) (d_nil))))
    (d_seq (dset 3 nd (d_tup (d_cons (d_tupF (d_cons (d_str) (d_cons (d_str) (d_nil)))) (d_cons (d_op o_mulT (d_tup (d_cons (d_bl) (d_nil))) (d_op o_add (dv 0) (d_int))) (d_cons (d_callTy c_tuple rfl g.tuple_ boot_tuple (d_cons (dv 1) (d_nil))) (d_nil))))))
    (d_seq (dset 4 nd (d_callF c_sets_of_3 hr (by decide) (d_cons (d_int) (d_cons (dv 3) (d_cons (d_str) (d_nil))))))
    (d_seq (dset 5 nd (d_callF c_some_of_3 hr (by decide) (d_cons (d_int) (d_cons (dv 3) (d_cons (d_str) (d_nil))))))
    (d_seq (d_if (d_testC (o_gt) (d_op o_shl (d_int) (dv 0)) (d_int) (nomark _)) (d_seq (d_ret (d_andV (d_cmp o_isN (dv 4) (d_non) (nomark _)) (d_oneV (d_cmp o_isN (dv 5) (d_non) (nomark _)))))
    (d_end)) (d_end))
    (d_seq (d_ret (d_andV (d_cmp o_notN (dv 4) (d_non) (nomark _)) (d_andV (d_cmp (o_eq (hu64 hr)) (d_callB c_len rfl g.len_ boot_len (d_cons (dv 4) (d_nil))) (d_op o_shl (d_int) (dv 0)) (nomark _)) (d_andV (d_cmp o_notN (dv 5) (d_non) (nomark _)) (d_oneV (d_cmp (o_eq (hu64 hr)) (d_callB c_len rfl g.len_ boot_len (d_cons (d_ix (o_ix (hu1 hr)) (dv 5) (d_int) (fun _ _ => rfl)) (d_nil))) (d_op o_shl (d_int) (dv 0)) (nomark _)))))))
    (d_end))))))))

abbrev s__law_chain : Stmt := topS 27
abbrev N__law_chain : List Str := ["_law_feed_here", "_law_base", "_law_names_here", "_law_at", "_law_form", "_law_many", "_law_step", "_law_letters_here", "_law_k", "_law_moves", "_law_room", "_law_goes", "_law_figure"]
theorem sc__law_chain : FnScope N__law_chain ["_law_feed_here", "_law_base", "_law_names_here", "_law_at"] (defScope s__law_chain) := ⟨rfl, rfl, rfl, by decide +kernel, rfl, by decide +kernel, by decide +kernel⟩
theorem w__law_chain {e : Ev} (g : Gs e) (c__law_draw : Cal e 1 "_law_draw" ["_law_feed_here", "_law_many"] [] sp__law_draw) {f : Addr} {base : Heap} {cdv : Value} {A : Around} {outer : List Env} {s : Shared} {H : Hp} {h0 : HU} {E : XK}  (hr : RoomB 1 "_law_chain" (defScope s__law_chain) f cdv A s) :
    PDSs (XT e base N__law_chain "_law_chain" (defScope s__law_chain) f cdv A outer s H E) ⟨e.tb, H, h0⟩ (defBody s__law_chain) (t__law_chain) :=
  have nd := sc__law_chain.nd
  d_seq (dset 4 nd (d_callF c__law_draw hr (by decide) (d_cons (dv 0) (d_cons (d_int) (d_nil)))))
    (d_seq (dset 5 nd (d_op o_add (d_int) (d_callF c__law_draw hr (by decide) (d_cons (dv 0) (d_cons (d_ix (o_ix (hu1 hr)) (d_lst (d_cons (d_int) (d_cons (d_int) (d_cons (d_int) (d_nil))))) (dv 4) (fun _ _ => rfl)) (d_nil))))))
    (d_seq (dset 6 nd (d_int))
    (d_seq (dset 7 nd (d_int))
    (d_seq (d_for PassesOwn.never rfl (d_iRng1 rfl g.range_ (d_cons (d_callB c_len rfl g.len_ boot_len (d_cons (dv 2) (d_nil))) (d_nil))) (dn 8 nd) (d_seq (dset 7 nd (d_op o_mul (dv 7) (dv 1)))
    (d_seq (dset 6 nd (d_ix (o_ix (hu1 hr)) (d_lst (d_cons (dv 6) (d_cons (d_op o_mul (dv 6) (dv 1)) (d_nil)))) (d_callTy c_int rfl g.int_ boot_int (d_cons (d_cmp (o_gt) (dv 8) (dv 3) (nomark _)) (d_nil))) (fun _ _ => rfl)))
    (d_end))))
    (d_seq (dset 9 nd (d_lst (d_nil)))
    (d_seq (d_for PassesOwn.never rfl (d_iRng1 rfl g.range_ (d_cons (d_op o_sub (dv 5) (d_int)) (d_nil))) (dn 10 nd) (d_seq (dset 11 nd (d_op o_mul (d_lst (d_cons (d_ix (o_ix (hu1 hr)) (d_lst (d_cons (d_int) (d_cons (dv 10) (d_cons (dv 5) (d_nil))))) (dv 4) (fun _ _ => rfl)) (d_nil))) (dv 7)))
    (d_seq (dset 12 nd (d_callF c__law_draw hr (by decide) (d_cons (dv 0) (d_cons (dv 1) (d_nil)))))
    (d_seq (d_if (PW.pt (d_and (d_testC (o_eq (hu64 hr)) (dv 10) (d_op o_sub (dv 5) (d_int)) (nomark _)) (d_and1 (d_testC (o_eq (hu64 hr)) (dv 12) (d_int) (nomark _))))) (d_seq (dset 12 nd (d_op o_sub (dv 1) (d_int)))
    (d_end)) (d_end))
    (d_seq (d_asg (d_op o_add (dv 10) (d_int)) (d_sub (hu1 hr) (dv 11) (d_op o_mul (dv 12) (dv 6))))
    (d_seq (d_expr (d_bm (fun _ _ _ _ a b c => isLst_v a b c) PySem.F.plainAttrs_list PySem.F.slot_list_append PySem.F.type_list_append m_append (dv 9) (d_cons (d_callTy c_tuple rfl g.tuple_ boot_tuple (d_cons (dv 11) (d_nil))) (d_nil))))
    (d_end)))))))
    (d_seq (d_expr (d_bm (fun _ _ _ _ a b c => isLst_v a b c) PySem.F.plainAttrs_list PySem.F.slot_list_extend PySem.F.type_list_extend m_extend (dv 9) (d_cons (d_lst (d_cons (d_op o_mulT (d_tup (d_cons (d_op o_sub (dv 5) (d_int)) (d_nil))) (dv 7)) (d_cons (d_op o_mulT (d_tup (d_cons (dv 5) (d_nil))) (dv 7)) (d_nil)))) (d_nil))))
    (d_seq (d_ret (d_tup (d_cons (dv 2) (d_cons (d_callTy c_tuple rfl g.tuple_ boot_tuple (d_cons (d_lc (own := [("_law_room", 10)]) rfl nd (tg_name (by decide)) (d_iRng1 rfl g.range_ (d_cons (d_op o_add (dv 5) (d_int)) (d_nil))) (blkOk_by (N := N__law_chain) (sc := defScope s__law_chain) (by decide +kernel)) (fun _ _ _ _ _ => pn 10 nd) (fun _ _ _ _ _ => d_tests0) (fun _ _ _ _ _ => d_cmp (o_eq (hu64 hr)) (dv 10) (d_op o_sub (dv 5) (d_int)) (nomark _))) (d_nil))) (d_cons (d_callTy c_tuple rfl g.tuple_ boot_tuple (d_cons (dv 9) (d_nil))) (d_nil))))))
    (d_end)))))))))

abbrev s_law : Stmt := topS 28
abbrev N_law : List Str := ["_law_script", "_law_feed_here", "_law_pool", "_law_at", "_law_names_here", "_law_base", "_law_machine_here", "_law_spot", "_law_name", "_law_came", "_law_due_here", "_law_found"]
theorem sc_law : FnScope N_law ["_law_script"] (defScope s_law) := ⟨rfl, rfl, rfl, by decide +kernel, rfl, by decide +kernel, by decide +kernel⟩
theorem w_law {e : Ev} (g : Gs e) (c__law_feed : Cal e 1 "_law_feed" ["_law_script"] [] sp__law_feed) (c__law_names : Cal e 2 "_law_names" ["_law_feed_here", "_law_many"] [] sp__law_names) (c__law_draw : Cal e 1 "_law_draw" ["_law_feed_here", "_law_many"] [] sp__law_draw) (c__law_machine : Cal e 2 "_law_machine" ["_law_feed_here", "_law_base", "_law_names_here", "_law_most"] [] sp__law_machine) (c__law_chain : Cal e 2 "_law_chain" ["_law_feed_here", "_law_base", "_law_names_here", "_law_at"] [] sp__law_chain) (c__law_due : Cal e 3 "_law_due" ["_law_base", "_law_machine_here", "_law_name"] [] sp__law_due) (c_sets_of_3 : Cal e 4 "sets_of" ["base", "machine", "name", "most"] [.int 2000] sp_sets_of) (c__law_alike : Cal e 10 "_law_alike" ["_law_found", "_law_due_here"] [] sp__law_alike) (c_some_of_3 : Cal e 4 "some_of" ["base", "machine", "name", "most"] [.int 2000] sp_some_of) (c__law_wide : Cal e 5 "_law_wide" ["_law_many"] [] sp__law_wide) (c_sets_of : Cal e 4 "sets_of" ["base", "machine", "name", "most"] [] sp_sets_of) (c_some_of : Cal e 4 "some_of" ["base", "machine", "name", "most"] [] sp_some_of) {f : Addr} {base : Heap} {cdv : Value} {A : Around} {outer : List Env} {s : Shared} {H : Hp} {h0 : HU} {E : XK}  (hr : RoomB 10 "law" (defScope s_law) f cdv A s) :
    PDSs (XT e base N_law "law" (defScope s_law) f cdv A outer s H E) ⟨e.tb, H, h0⟩ (defBody s_law) (t_law) :=
  have nd := sc_law.nd
  d_seq (dset 1 nd (d_callF c__law_feed hr (by decide) (d_cons (dv 0) (d_nil))))
    (d_seq (dset 2 nd (d_callF c__law_names hr (by decide) (d_cons (dv 1) (d_cons (d_op o_add (d_int) (d_callF c__law_draw hr (by decide) (d_cons (dv 1) (d_cons (d_int) (d_nil))))) (d_nil)))))
    (d_seq (dset 3 nd (d_callF c__law_draw hr (by decide) (d_cons (dv 1) (d_cons (d_callB c_len rfl g.len_ boot_len (d_cons (dv 2) (d_nil))) (d_nil)))))
    (d_seq (dset 4 nd (d_op o_addF (d_slF (dv 2) (d_noP) (d_part (dv 3))) (d_slF (dv 2) (d_part (d_op o_add (dv 3) (d_int))) (d_noP))))
    (d_seq (dset 5 nd (d_op o_add (d_int) (d_callF c__law_draw hr (by decide) (d_cons (dv 1) (d_cons (d_ix (o_ix (hu1 hr)) (d_lst (d_cons (d_int) (d_cons (d_int) (d_nil)))) (d_op o_div (d_callB c_len rfl g.len_ boot_len (d_cons (dv 4) (d_nil))) (d_int)) (fun _ _ => rfl)) (d_nil))))))
    (d_seq (dset 6 nd (d_callF c__law_machine hr (by decide) (d_cons (dv 1) (d_cons (dv 5) (d_cons (dv 4) (d_cons (d_int) (d_nil)))))))
    (d_seq (dset 7 nd (d_callF c__law_draw hr (by decide) (d_cons (dv 1) (d_cons (d_callB c_len rfl g.len_ boot_len (d_cons (dv 4) (d_nil))) (d_nil)))))
    (d_seq (d_if (d_testC (o_eq (hu64 hr)) (d_callF c__law_draw hr (by decide) (d_cons (dv 1) (d_cons (d_int) (d_nil)))) (d_int) (nomark _)) (d_seq (dset 6 nd (d_callF c__law_chain hr (by decide) (d_cons (dv 1) (d_cons (dv 5) (d_cons (dv 4) (d_cons (dv 7) (d_nil)))))))
    (d_end)) (d_end))
    (d_seq (dset 8 nd (d_ix (o_ix (hu1 hr)) (dv 4) (dv 7) (fun _ _ => rfl)))
    (d_seq (d_asg (d_callF c__law_due hr (by decide) (d_cons (dv 5) (d_cons (dv 6) (d_cons (dv 8) (d_nil))))) (d_unpack rfl (pgs_cons (pn 9 nd) (pgs_cons (pn 10 nd) (pgs_nil)))))
    (d_seq (dset 11 nd (d_callF c_sets_of_3 hr (by decide) (d_cons (dv 5) (d_cons (dv 6) (d_cons (dv 8) (d_nil))))))
    (d_seq (d_if (PW.pt (d_or (d_not (d_testV (d_callF c__law_alike hr (by decide) (d_cons (dv 11) (d_cons (dv 9) (d_nil)))))) (d_or1 (d_not (d_testV (d_callF c__law_alike hr (by decide) (d_cons (d_callF c_some_of_3 hr (by decide) (d_cons (dv 5) (d_cons (dv 6) (d_cons (dv 8) (d_nil))))) (d_cons (dv 10) (d_nil))))))))) (d_seq (d_ret (d_bl))
    (d_end)) (d_end))
    (d_seq (d_expr (d_bm (fun _ _ _ _ a b c => isLst_v a b c) PySem.F.plainAttrs_list PySem.F.slot_list_append PySem.F.type_list_append m_append (dv 11) (d_cons (d_tup (d_nil)) (d_nil))))
    (d_seq (d_if (PW.pt (d_and (d_testC (o_eq (hu64 hr)) (d_callF c__law_draw hr (by decide) (d_cons (dv 1) (d_cons (d_int) (d_nil)))) (d_int) (nomark _)) (d_and1 (d_not (d_testV (d_callF c__law_wide hr (by decide) (d_cons (d_op o_add (d_int) (d_callF c__law_draw hr (by decide) (d_cons (dv 1) (d_cons (d_int) (d_nil))))) (d_nil)))))))) (d_seq (d_ret (d_bl))
    (d_end)) (d_end))
    (d_seq (d_if (d_not (d_testV (d_callF c__law_alike hr (by decide) (d_cons (d_callF c_sets_of hr (by decide) (d_cons (dv 5) (d_cons (dv 6) (d_cons (dv 8) (d_cons (d_callB c_len rfl g.len_ boot_len (d_cons (dv 9) (d_nil))) (d_nil)))))) (d_cons (dv 9) (d_nil)))))) (d_seq (d_ret (d_bl))
    (d_end)) (d_end))
    (d_seq (d_if (d_not (d_testV (d_callF c__law_alike hr (by decide) (d_cons (d_callF c_some_of hr (by decide) (d_cons (dv 5) (d_cons (dv 6) (d_cons (dv 8) (d_cons (d_callB c_len rfl g.len_ boot_len (d_cons (dv 9) (d_nil))) (d_nil)))))) (d_cons (dv 10) (d_nil)))))) (d_seq (d_ret (d_bl))
    (d_end)) (d_end))
    (d_seq (d_if (d_testC o_notN (d_callF c_some_of hr (by decide) (d_cons (dv 5) (d_cons (dv 6) (d_cons (dv 8) (d_cons (d_op o_sub (d_callB c_len rfl g.len_ boot_len (d_cons (dv 9) (d_nil))) (d_int)) (d_nil)))))) (d_non) (nomark _)) (d_seq (d_ret (d_bl))
    (d_end)) (d_end))
    (d_seq (d_ret (d_andV (d_cmp o_isN (d_callF c_sets_of hr (by decide) (d_cons (dv 5) (d_cons (dv 6) (d_cons (dv 8) (d_cons (d_op o_sub (d_callB c_len rfl g.len_ boot_len (d_cons (dv 9) (d_nil))) (d_int)) (d_nil)))))) (d_non) (nomark _)) (d_oneV (d_callF c__law_alike hr (by decide) (d_cons (d_callF c_some_of_3 hr (by decide) (d_cons (dv 5) (d_cons (dv 6) (d_cons (d_ix (o_ix (hu1 hr)) (dv 2) (dv 3) (fun _ _ => rfl)) (d_nil))))) (d_cons (dv 6) (d_nil)))))))
    (d_end))))))))))))))))))

end K42

set_option Elab.async false
set_option linter.all false
set_option maxRecDepth 100000
set_option maxHeartbeats 0
namespace K42
open PySem L2 NdefX LamX DL PyProof.Rows
theorem len_machine_of : ∀ us h q y, sp_machine_of us h q y → us.length = 2 := by
  rintro us h q y (⟨x, rfl, _⟩ | ⟨x, ws, a, b, c, rfl, _⟩) <;> rfl
theorem mono_grown_from : ∀ C C' : NF → DFp → Prop, (∀ F s, C F s → C' F s) → ∀ us h q y, sp_grown_from C us h q y → sp_grown_from C' us h q y := by
  rintro C C' hc us h q y ⟨R, dec, enc, key, S, f, many, first, g, F, G, sF, sG, most, e, hF, hG, r⟩
  exact ⟨R, dec, enc, key, S, f, many, first, g, F, G, sF, sG, most, e, hc _ _ hF, hc _ _ hG, r⟩
theorem mono__law_grown : ∀ C C' : NF → DFp → Prop, (∀ F s, C F s → C' F s) → ∀ us h q y, sp__law_grown C us h q y → sp__law_grown C' us h q y := by
  rintro C C' hc us h q y ⟨R, dec, enc, key, S, f, many, first, F, sF, most, e, hF, r⟩
  exact ⟨R, dec, enc, key, S, f, many, first, F, sF, most, e, hc _ _ hF, r⟩
theorem p__law_letters {us : List U} {h : HU} {q : DV} {y : DXK} {bk ct : SU → HU → Prop} (hs : sp__law_letters us h q y) : t__law_letters ⟨fun _ h' => WkV q .non h', WkV q, bk, ct⟩ (startN 7 us) h := p_all_letters hs
theorem len_some_of : ∀ us h q y, sp_some_of us h q y → us.length = 4 := by
  rintro us h q y ⟨b, ws, name, yes, moves, most, rfl, _⟩
  rfl
def fn : List He.DefD := [dOf "all_letters" s_all_letters [], dOf "grown_from" s_grown_from [.int 2000], dOf "machine_of" s_machine_of [], dOf "number_of_letter" s_number_of_letter [], dOf "whole_letters" s_whole_letters [], dOf "goes_on" s_goes_on [], dOf "told_sets" s_told_sets [], dOf "some_of" s_some_of [.int 2000], dOf "sets_of" s_sets_of [.int 2000], dOf "_law_feed" s__law_feed [], dOf "_law_draw" s__law_draw [], dOf "_law_after" s__law_after [], dOf "_law_names" s__law_names [], dOf "_law_rings" s__law_rings [], dOf "_law_machine" s__law_machine [], dOf "_law_letters" s__law_letters [], dOf "_law_grown" s__law_grown [], dOf "_law_alike" s__law_alike [], dOf "_law_wholes" s__law_wholes [], dOf "_law_going_on" s__law_going_on [], dOf "_law_due" s__law_due [], dOf "_law_wide" s__law_wide [], dOf "_law_chain" s__law_chain [], dOf "law" s_law []]
def fa : List He.Fa := [.glo "all_letters", .glo "grown_from", .glo "machine_of", .glo "number_of_letter", .glo "whole_letters", .glo "goes_on", .glo "told_sets", .glo "some_of", .glo "sets_of", .glo "_law_feed", .glo "_law_draw", .glo "_law_after", .glo "_law_names", .glo "_law_rings", .glo "_law_machine", .glo "_law_letters", .glo "_law_grown", .glo "_law_alike", .glo "_law_wholes", .glo "_law_going_on", .glo "_law_due", .glo "_law_wide", .glo "_law_chain", .glo "law", .free "abs", .free "all", .free "any", .free "bool", .free "enumerate", .free "int", .free "isinstance", .free "len", .free "list", .free "min", .free "range", .free "set", .free "sorted", .free "tuple", .free "zip"]
def tbs : TbS := [(("told_sets", none), fun l _ => if l = 59 then "told_sets.<locals>.onward" else "told_sets.<locals>.is_yes"), (("_law_due", none), fun _ _ => "_law_due.<locals>._law_onward")]
section
variable {P : Program} {w : World} {h : Heap} {K : PySem.W.Frag} {mg : Str → Option Value}
theorem gs (A : Head fa fn [] tbs w h K mg) : Gs (evOf P w K mg tbs) := ⟨A.free (List.mem_of_getElem? (i := 24) rfl), A.free (List.mem_of_getElem? (i := 25) rfl), A.free (List.mem_of_getElem? (i := 26) rfl), A.free (List.mem_of_getElem? (i := 27) rfl), A.free (List.mem_of_getElem? (i := 28) rfl), A.free (List.mem_of_getElem? (i := 29) rfl), A.free (List.mem_of_getElem? (i := 30) rfl), A.free (List.mem_of_getElem? (i := 31) rfl), A.free (List.mem_of_getElem? (i := 32) rfl), A.free (List.mem_of_getElem? (i := 33) rfl), A.free (List.mem_of_getElem? (i := 34) rfl), A.free (List.mem_of_getElem? (i := 35) rfl), A.free (List.mem_of_getElem? (i := 36) rfl), A.free (List.mem_of_getElem? (i := 37) rfl), A.free (List.mem_of_getElem? (i := 38) rfl)⟩
theorem k_all_letters (A : Head fa fn [] tbs w h K mg) : Cal (evOf P w K mg tbs) 1 "all_letters" ["base", "many"] [] sp_all_letters :=
  have d := A.df (P := P) (List.mem_of_getElem? (i := 0) rfl) (List.mem_of_getElem? (i := 0) rfl); cal_of d sc_all_letters (by intro us h q y hs; (repeat (obtain ⟨_, hs⟩ := hs)); subst_vars; rfl) (fun _ _ _ _ _ _ us hl => match us, hl with | [_, _], _ => rfl) fun f base cdv A1 outer s1 H h0 E hr => ⟨_, w_all_letters (gs A)  hr, fun us q y hs => p_all_letters hs⟩
theorem k_machine_of (A : Head fa fn [] tbs w h K mg) : Cal (evOf P w K mg tbs) 1 "machine_of" ["names", "told"] [] sp_machine_of :=
  have d := A.df (P := P) (List.mem_of_getElem? (i := 2) rfl) (List.mem_of_getElem? (i := 2) rfl); cal_of d sc_machine_of len_machine_of (fun _ _ _ _ _ _ us hl => match us, hl with | [_, _], _ => rfl) fun f base cdv A1 outer s1 H h0 E hr => ⟨_, w_machine_of (gs A)  hr, fun us q y hs => p_machine_of hs⟩
theorem k_number_of_letter (A : Head fa fn [] tbs w h K mg) : Cal (evOf P w K mg tbs) 1 "number_of_letter" ["base", "letter"] [] sp_number_of_letter :=
  have d := A.df (P := P) (List.mem_of_getElem? (i := 3) rfl) (List.mem_of_getElem? (i := 3) rfl); cal_of d sc_number_of_letter (by intro us h q y hs; (repeat (obtain ⟨_, hs⟩ := hs)); subst_vars; rfl) (fun _ _ _ _ _ _ us hl => match us, hl with | [_, _], _ => rfl) fun f base cdv A1 outer s1 H h0 E hr => ⟨_, w_number_of_letter (gs A)  hr, fun us q y hs => p_number_of_letter hs⟩
theorem k_goes_on (A : Head fa fn [] tbs w h K mg) : Cal (evOf P w K mg tbs) 1 "goes_on" ["machine", "noughts"] [] sp_goes_on :=
  have d := A.df (P := P) (List.mem_of_getElem? (i := 5) rfl) (List.mem_of_getElem? (i := 5) rfl); cal_of d sc_goes_on (by intro us h q y hs; (repeat (obtain ⟨_, hs⟩ := hs)); subst_vars; rfl) (fun _ _ _ _ _ _ us hl => match us, hl with | [_, _], _ => rfl) fun f base cdv A1 outer s1 H h0 E hr => ⟨_, w_goes_on (gs A)  hr, fun us q y hs => p_goes_on hs⟩
theorem k__law_feed (A : Head fa fn [] tbs w h K mg) : Cal (evOf P w K mg tbs) 1 "_law_feed" ["_law_script"] [] sp__law_feed :=
  have d := A.df (P := P) (List.mem_of_getElem? (i := 9) rfl) (List.mem_of_getElem? (i := 9) rfl); cal_of d sc__law_feed (by intro us h q y hs; (repeat (obtain ⟨_, hs⟩ := hs)); subst_vars; rfl) (fun _ _ _ _ _ _ us hl => match us, hl with | [_], _ => rfl) fun f base cdv A1 outer s1 H h0 E hr => ⟨_, w__law_feed (gs A)  hr, fun us q y hs => p__law_feed hs⟩
theorem k__law_draw (A : Head fa fn [] tbs w h K mg) : Cal (evOf P w K mg tbs) 1 "_law_draw" ["_law_feed_here", "_law_many"] [] sp__law_draw :=
  have d := A.df (P := P) (List.mem_of_getElem? (i := 10) rfl) (List.mem_of_getElem? (i := 10) rfl); cal_of d sc__law_draw (by intro us h q y hs; (repeat (obtain ⟨_, hs⟩ := hs)); subst_vars; rfl) (fun _ _ _ _ _ _ us hl => match us, hl with | [_, _], _ => rfl) fun f base cdv A1 outer s1 H h0 E hr => ⟨_, w__law_draw (gs A)  hr, fun us q y hs => p__law_draw hs⟩
theorem k__law_after (A : Head fa fn [] tbs w h K mg) : Cal (evOf P w K mg tbs) 1 "_law_after" ["_law_word"] [] sp__law_after :=
  have d := A.df (P := P) (List.mem_of_getElem? (i := 11) rfl) (List.mem_of_getElem? (i := 11) rfl); cal_of d sc__law_after (by intro us h q y hs; (repeat (obtain ⟨_, hs⟩ := hs)); subst_vars; rfl) (fun _ _ _ _ _ _ us hl => match us, hl with | [_], _ => rfl) fun f base cdv A1 outer s1 H h0 E hr => ⟨_, w__law_after (gs A)  hr, fun us q y hs => p__law_after hs⟩
theorem k__law_rings (A : Head fa fn [] tbs w h K mg) : Cal (evOf P w K mg tbs) 1 "_law_rings" ["_law_moves"] [] sp__law_rings :=
  have d := A.df (P := P) (List.mem_of_getElem? (i := 13) rfl) (List.mem_of_getElem? (i := 13) rfl); cal_of d sc__law_rings (by intro us h q y hs; (repeat (obtain ⟨_, hs⟩ := hs)); subst_vars; rfl) (fun _ _ _ _ _ _ us hl => match us, hl with | [_], _ => rfl) fun f base cdv A1 outer s1 H h0 E hr => ⟨_, w__law_rings (gs A)  hr, fun us q y hs => p__law_rings hs⟩
theorem k__law_letters (A : Head fa fn [] tbs w h K mg) : Cal (evOf P w K mg tbs) 1 "_law_letters" ["_law_base", "_law_many"] [] sp__law_letters :=
  have d := A.df (P := P) (List.mem_of_getElem? (i := 15) rfl) (List.mem_of_getElem? (i := 15) rfl); cal_of d sc__law_letters (by intro us h q y hs; (repeat (obtain ⟨_, hs⟩ := hs)); subst_vars; rfl) (fun _ _ _ _ _ _ us hl => match us, hl with | [_, _], _ => rfl) fun f base cdv A1 outer s1 H h0 E hr => ⟨_, w__law_letters (gs A)  hr, fun us q y hs => p__law_letters hs⟩
theorem k__law_going_on (A : Head fa fn [] tbs w h K mg) : Cal (evOf P w K mg tbs) 1 "_law_going_on" ["_law_machine_here", "_law_noughts"] [] sp__law_going_on :=
  have d := A.df (P := P) (List.mem_of_getElem? (i := 19) rfl) (List.mem_of_getElem? (i := 19) rfl); cal_of d sc__law_going_on (by intro us h q y hs; (repeat (obtain ⟨_, hs⟩ := hs)); subst_vars; rfl) (fun _ _ _ _ _ _ us hl => match us, hl with | [_, _], _ => rfl) fun f base cdv A1 outer s1 H h0 E hr => ⟨_, w__law_going_on (gs A)  hr, fun us q y hs => p__law_going_on hs⟩
theorem k_grown_from (A : Head fa fn [] tbs w h K mg) : CalC (evOf P w K mg tbs) 2 "grown_from" ["first", "many", "onward", "is_yes", "most"] [] 1 sp_grown_from :=
  have d := A.df (P := P) (List.mem_of_getElem? (i := 1) rfl) (List.mem_of_getElem? (i := 1) rfl); cal_ofCd 5 1 d sc_grown_from (by intro C us h q y hs; (repeat (obtain ⟨_, hs⟩ := hs)); subst_vars; rfl) mono_grown_from (List.cons_ne_nil _ _) rfl (fun _ _ _ _ _ _ _ us its hu hi => match us, its, hu, hi with | [a0, a1, a2, a3, a4], [d0], _, _ => ⟨_, rfl, rfl⟩) (fun _ => RUs.nil) fun f base cdv A1 outer s1 H h0 E hr => ⟨_, w_grown_from (gs A)  (Nat.le_refl _) hr, fun us q y hs => p_grown_from hs⟩
theorem k_whole_letters (A : Head fa fn [] tbs w h K mg) : Cal (evOf P w K mg tbs) 2 "whole_letters" ["base", "names", "name"] [] sp_whole_letters :=
  have d := A.df (P := P) (List.mem_of_getElem? (i := 4) rfl) (List.mem_of_getElem? (i := 4) rfl); cal_of d sc_whole_letters (by intro us h q y hs; (repeat (obtain ⟨_, hs⟩ := hs)); subst_vars; rfl) (fun _ _ _ _ _ _ us hl => match us, hl with | [_, _, _], _ => rfl) fun f base cdv A1 outer s1 H h0 E hr => ⟨_, w_whole_letters (gs A) (k_all_letters A) (k_number_of_letter A) hr, fun us q y hs => p_whole_letters hs⟩
theorem k__law_names (A : Head fa fn [] tbs w h K mg) : Cal (evOf P w K mg tbs) 2 "_law_names" ["_law_feed_here", "_law_many"] [] sp__law_names :=
  have d := A.df (P := P) (List.mem_of_getElem? (i := 12) rfl) (List.mem_of_getElem? (i := 12) rfl); cal_of d sc__law_names (by intro us h q y hs; (repeat (obtain ⟨_, hs⟩ := hs)); subst_vars; rfl) (fun _ _ _ _ _ _ us hl => match us, hl with | [_, _], _ => rfl) fun f base cdv A1 outer s1 H h0 E hr => ⟨_, w__law_names (gs A) (k__law_draw A) (k__law_after A) hr, fun us q y hs => p__law_names hs⟩
theorem k__law_machine (A : Head fa fn [] tbs w h K mg) : Cal (evOf P w K mg tbs) 2 "_law_machine" ["_law_feed_here", "_law_base", "_law_names_here", "_law_most"] [] sp__law_machine :=
  have d := A.df (P := P) (List.mem_of_getElem? (i := 14) rfl) (List.mem_of_getElem? (i := 14) rfl); cal_of d sc__law_machine (by intro us h q y hs; (repeat (obtain ⟨_, hs⟩ := hs)); subst_vars; rfl) (fun _ _ _ _ _ _ us hl => match us, hl with | [_, _, _, _], _ => rfl) fun f base cdv A1 outer s1 H h0 E hr => ⟨_, w__law_machine (gs A) (k__law_draw A) (k__law_rings A) hr, fun us q y hs => p__law_machine hs⟩
theorem k__law_grown (A : Head fa fn [] tbs w h K mg) : CalC (evOf P w K mg tbs) 2 "_law_grown" ["_law_first", "_law_many", "_law_onward", "_law_most"] [] 1 sp__law_grown :=
  have d := A.df (P := P) (List.mem_of_getElem? (i := 16) rfl) (List.mem_of_getElem? (i := 16) rfl); cal_ofC d sc__law_grown (by intro C us h q y hs; (repeat (obtain ⟨_, hs⟩ := hs)); subst_vars; rfl) mono__law_grown (fun _ _ _ _ _ _ us hl => match us, hl with | [_, _, _, _], _ => rfl) fun f base cdv A1 outer s1 H h0 E hr => ⟨_, w__law_grown (gs A)  (Nat.le_refl _) hr, fun us q y hs => p__law_grown hs⟩
theorem k__law_wholes (A : Head fa fn [] tbs w h K mg) : Cal (evOf P w K mg tbs) 2 "_law_wholes" ["_law_base", "_law_names_here", "_law_name"] [] sp__law_wholes :=
  have d := A.df (P := P) (List.mem_of_getElem? (i := 18) rfl) (List.mem_of_getElem? (i := 18) rfl); cal_of d sc__law_wholes (by intro us h q y hs; (repeat (obtain ⟨_, hs⟩ := hs)); subst_vars; rfl) (fun _ _ _ _ _ _ us hl => match us, hl with | [_, _, _], _ => rfl) fun f base cdv A1 outer s1 H h0 E hr => ⟨_, w__law_wholes (gs A) (k__law_letters A) hr, fun us q y hs => p__law_wholes hs⟩
theorem k__law_chain (A : Head fa fn [] tbs w h K mg) : Cal (evOf P w K mg tbs) 2 "_law_chain" ["_law_feed_here", "_law_base", "_law_names_here", "_law_at"] [] sp__law_chain :=
  have d := A.df (P := P) (List.mem_of_getElem? (i := 22) rfl) (List.mem_of_getElem? (i := 22) rfl); cal_of d sc__law_chain (by intro us h q y hs; (repeat (obtain ⟨_, hs⟩ := hs)); subst_vars; rfl) (fun _ _ _ _ _ _ us hl => match us, hl with | [_, _, _, _], _ => rfl) fun f base cdv A1 outer s1 H h0 E hr => ⟨_, w__law_chain (gs A) (k__law_draw A) hr, fun us q y hs => p__law_chain hs⟩
theorem k_told_sets (A : Head fa fn [] tbs w h K mg) : Cal (evOf P w K mg tbs) 3 "told_sets" ["base", "machine", "name", "most"] [] sp_told_sets :=
  have d := A.dc (P := P) (List.mem_of_getElem? (i := 6) rfl) (List.mem_of_getElem? (i := 6) rfl) (List.mem_of_getElem? (i := 0) rfl); cal_ofXP d sc_told_sets (by intro us h q y hs; (repeat (obtain ⟨_, hs⟩ := hs)); subst_vars; rfl) (fun _ _ _ _ _ _ us hl => match us, hl with | [_, _, _, _], _ => rfl) fun f base A1 outer s1 H h0 E TB hr => ⟨_, w_told_sets (gs A) (k_whole_letters A) (k_goes_on A) (k_grown_from A) TB d.mem d.one hr, fun us q y hs => p_told_sets (fun s c => Or.inr ⟨own_told_sets_onward (gs A) base f _ A1 outer s1 H h0 E, List.mem_cons_self, c, rfl, rfl⟩) (fun s c => Or.inr ⟨own_told_sets_is_yes (gs A) base f _ A1 outer s1 H h0 E, (List.mem_cons_of_mem _ List.mem_cons_self), c, rfl, rfl⟩) hs⟩
theorem k__law_due (A : Head fa fn [] tbs w h K mg) : Cal (evOf P w K mg tbs) 3 "_law_due" ["_law_base", "_law_machine_here", "_law_name"] [] sp__law_due :=
  have d := A.dc (P := P) (List.mem_of_getElem? (i := 20) rfl) (List.mem_of_getElem? (i := 20) rfl) (List.mem_of_getElem? (i := 1) rfl); cal_ofXP d sc__law_due (by intro us h q y hs; (repeat (obtain ⟨_, hs⟩ := hs)); subst_vars; rfl) (fun _ _ _ _ _ _ us hl => match us, hl with | [_, _, _], _ => rfl) fun f base A1 outer s1 H h0 E TB hr => ⟨_, w__law_due (gs A) (k__law_wholes A) (k__law_going_on A) (k__law_grown A) TB d.mem d.one hr, fun us q y hs => p__law_due (fun s c => Or.inr ⟨own__law_due__law_onward (gs A) base f _ A1 outer s1 H h0 E, List.mem_cons_self, c, rfl, rfl⟩) hs⟩
theorem k_some_of_3 (A : Head fa fn [] tbs w h K mg) : Cal (evOf P w K mg tbs) 4 "some_of" ["base", "machine", "name", "most"] [.int 2000] sp_some_of :=
  have d := A.df (P := P) (List.mem_of_getElem? (i := 7) rfl) (List.mem_of_getElem? (i := 7) rfl); cal_ofD 3 0 d sc_some_of len_some_of (List.cons_ne_nil _ _) rfl (fun _ _ _ _ _ _ _ us its hu hi => match us, its, hu, hi with | [a0, a1, a2], [d0], _, _ => ⟨_, rfl, rfl⟩) (fun _ => .cons rfl .nil) fun f base cdv A1 outer s1 H h0 E hr => ⟨_, w_some_of (gs A) (k_machine_of A) (k_told_sets A) hr, fun us q y hs => p_some_of hs⟩
theorem k_some_of (A : Head fa fn [] tbs w h K mg) : Cal (evOf P w K mg tbs) 4 "some_of" ["base", "machine", "name", "most"] [] sp_some_of :=
  have d := A.df (P := P) (List.mem_of_getElem? (i := 7) rfl) (List.mem_of_getElem? (i := 7) rfl); cal_ofD 4 1 d sc_some_of len_some_of (List.cons_ne_nil _ _) rfl (fun _ _ _ _ _ _ _ us its hu hi => match us, its, hu, hi with | [a0, a1, a2, a3], [d0], _, _ => ⟨_, rfl, rfl⟩) (fun _ => RUs.nil) fun f base cdv A1 outer s1 H h0 E hr => ⟨_, w_some_of (gs A) (k_machine_of A) (k_told_sets A) hr, fun us q y hs => p_some_of hs⟩
theorem k_sets_of_3 (A : Head fa fn [] tbs w h K mg) : Cal (evOf P w K mg tbs) 4 "sets_of" ["base", "machine", "name", "most"] [.int 2000] sp_sets_of :=
  have d := A.df (P := P) (List.mem_of_getElem? (i := 8) rfl) (List.mem_of_getElem? (i := 8) rfl); cal_ofD 3 0 d sc_sets_of (by intro us h q y hs; (repeat (obtain ⟨_, hs⟩ := hs)); subst_vars; rfl) (List.cons_ne_nil _ _) rfl (fun _ _ _ _ _ _ _ us its hu hi => match us, its, hu, hi with | [a0, a1, a2], [d0], _, _ => ⟨_, rfl, rfl⟩) (fun _ => .cons rfl .nil) fun f base cdv A1 outer s1 H h0 E hr => ⟨_, w_sets_of (gs A) (k_told_sets A) hr, fun us q y hs => p_sets_of hs⟩
theorem k_sets_of (A : Head fa fn [] tbs w h K mg) : Cal (evOf P w K mg tbs) 4 "sets_of" ["base", "machine", "name", "most"] [] sp_sets_of :=
  have d := A.df (P := P) (List.mem_of_getElem? (i := 8) rfl) (List.mem_of_getElem? (i := 8) rfl); cal_ofD 4 1 d sc_sets_of (by intro us h q y hs; (repeat (obtain ⟨_, hs⟩ := hs)); subst_vars; rfl) (List.cons_ne_nil _ _) rfl (fun _ _ _ _ _ _ _ us its hu hi => match us, its, hu, hi with | [a0, a1, a2, a3], [d0], _, _ => ⟨_, rfl, rfl⟩) (fun _ => RUs.nil) fun f base cdv A1 outer s1 H h0 E hr => ⟨_, w_sets_of (gs A) (k_told_sets A) hr, fun us q y hs => p_sets_of hs⟩
theorem k__law_wide (A : Head fa fn [] tbs w h K mg) : Cal (evOf P w K mg tbs) 5 "_law_wide" ["_law_many"] [] sp__law_wide :=
  have d := A.df (P := P) (List.mem_of_getElem? (i := 21) rfl) (List.mem_of_getElem? (i := 21) rfl); cal_of d sc__law_wide (by intro us h q y hs; (repeat (obtain ⟨_, hs⟩ := hs)); subst_vars; rfl) (fun _ _ _ _ _ _ us hl => match us, hl with | [_], _ => rfl) fun f base cdv A1 outer s1 H h0 E hr => ⟨_, w__law_wide (gs A) (k_sets_of_3 A) (k_some_of_3 A) hr, fun us q y hs => p__law_wide hs⟩
end
end K42

set_option Elab.async false
set_option linter.all false
set_option maxRecDepth 100000
set_option maxHeartbeats 0
namespace K42
open PySem L2 NdefX LamX DL PyProof.Rows
section
variable {P : Program} {w : World} {h : Heap} {K : PySem.W.Frag} {mg : Str → Option Value}
theorem k_alike (A : Head fa fn [] tbs w h K mg) : ∀ d, Cal (evOf P w K mg tbs) d "_law_alike" ["_law_found", "_law_due_here"] [] (sp_alikeD d)
  | 0 => by
    obtain ⟨f, fd, F, hm⟩ := (A.df (P := P) (x := "_law_alike") (st := s__law_alike) (dfl := []) (List.mem_of_getElem? (i := 17) rfl) (List.mem_of_getElem? (i := 17) rfl)).ex
    refine ⟨f, fd, [], [], fun base => ⟨fun vs H Q E ⟨us, h, q, y, r, _, ⟨x, e, hx, _⟩, _⟩ => hx.elim, fun A outer s H args us vs Q E hr e0 hb r ⟨_, _, _, _, _, _, ⟨x, e, hx, _⟩, _⟩ => hx.elim⟩, hm, F.kp, F.bindsN (fun _ _ _ _ _ _ us hl => match us, hl with | [_, _], _ => rfl), .nil, fun _ => RUs.nil⟩
  | d + 1 => cal_of (A.df (P := P) (x := "_law_alike") (st := s__law_alike) (dfl := []) (List.mem_of_getElem? (i := 17) rfl) (List.mem_of_getElem? (i := 17) rfl)) sc__law_alike (by intro us h q y hs; (repeat (obtain ⟨_, hs⟩ := hs)); subst_vars; rfl) (fun _ _ _ _ _ _ us hl => match us, hl with | [_, _], _ => rfl)
    fun f base cdv A1 outer s1 H h0 E hr => ⟨_, w__law_alike (gs A) (k_alike A d) hr, fun us q y hs => p__law_alike hs⟩
theorem len_alikeG : ∀ us h q y, sp__law_alike us h q y → us.length = 2 := by
  rintro us h q y (⟨x, rfl, _⟩ | ⟨p, r, xs, rfl, _⟩) <;> rfl
theorem k__law_alike (A : Head fa fn [] tbs w h K mg) : Cal (evOf P w K mg tbs) 10 "_law_alike" ["_law_found", "_law_due_here"] [] sp__law_alike :=
  cal_of (A.df (P := P) (x := "_law_alike") (st := s__law_alike) (dfl := []) (List.mem_of_getElem? (i := 17) rfl) (List.mem_of_getElem? (i := 17) rfl)) sc__law_alike len_alikeG (fun _ _ _ _ _ _ us hl => match us, hl with | [_, _], _ => rfl)
    fun f base cdv A1 outer s1 H h0 E hr => ⟨_, w__law_alike (gs A) (k_alike A 9) hr, fun us q y hs => p__law_alikeG hs⟩
theorem law_ok (A : Head fa fn [] tbs w h K mg) : ∃ fd, FunD K "law" "law" (defArgs s_law) (defBody s_law) (defScope s_law) [] [] (He.ga K "law") fd ∧ ∀ base, FnOk P w K mg base CX0 11 (He.ga K "law") fd ["_law_script"] (LPl (evOf P w K mg tbs) sp_law) := by
  obtain ⟨fd, F⟩ := A.d.defs (d := dOf "law" s_law []) (List.mem_of_getElem? (i := 23) rfl)
  exact ⟨fd, F, fun base => def_okD (e := evOf P w K mg tbs) F sc_law (by intro us h q y hs; (repeat (obtain ⟨_, hs⟩ := hs)); subst_vars; rfl) fun cdv A1 outer s1 H h0 E hr => ⟨_, w_law (gs A) (k__law_feed A) (k__law_names A) (k__law_draw A) (k__law_machine A) (k__law_chain A) (k__law_due A) (k_sets_of_3 A) (k__law_alike A) (k_some_of_3 A) (k__law_wide A) (k_sets_of A) (k_some_of A) hr, fun us q y hs => p_law hs⟩⟩
end
end K42

set_option Elab.async false
set_option linter.all false
set_option maxRecDepth 100000
set_option maxHeartbeats 0
namespace K42
open PySem PySem.Spec PyProof.Rows L2 DL
abbrev R : PySem.W.OpenRow := PySem.W.OpenLaw.row PySem.Challenge.rw_figurejudge_k42_sets_of_rooms
abbrev hk : PySem.W.Hook := He.hookX 4 fa fn [] (tbs.map (·.1)) (exH (tbs.map (·.1)))
def ob (s : PySem.W.SharedT) : He.AlX := He.obsX 4 fa fn [] (tbs.map (·.1)) (exH (tbs.map (·.1))) (HandSHeadRun.getT s)
theorem ob_eq (s : PySem.W.SharedT) : ob s = hk.obs s.abs := He.obsX_eq (HandSHeadRun.getT_eq s)
def names : List PySem.Str := ["all_letters", "grown_from", "machine_of", "number_of_letter", "whole_letters", "goes_on", "told_sets", "some_of", "sets_of", "_law_feed", "_law_draw", "_law_after", "_law_names", "_law_rings", "_law_machine", "_law_letters", "_law_grown", "_law_alike", "_law_wholes", "_law_going_on", "_law_due", "_law_wide", "_law_chain"]
theorem run (w : World) : HandSHeadRun.RunEq R (PySem.W.view R.prog [28]) hk ob 3000 names w := by
  intro os
  kernel_rfl
end K42

set_option Elab.async false
set_option linter.all false
set_option maxRecDepth 100000
set_option maxHeartbeats 0
open PySem PySem.W PySem.Calls PyProof.Rows
theorem PySem.Challenge.cw_figurejudge_k42_sets_of_rooms_holds : PySem.Challenge.rw_figurejudge_k42_sets_of_rooms.Holds := by
  w_on; o_law
  refine HandSHeadRun.head_any (r := OpenLaw.row PySem.Challenge.rw_figurejudge_k42_sets_of_rooms) (q := view (OpenLaw.row PySem.Challenge.rw_figurejudge_k42_sets_of_rooms).prog [28]) (H := K42.hk) (ob := K42.ob) (M := 3000) (loose := K42.names) (d := HandSHeadRun.topDef (OpenLaw.row PySem.Challenge.rw_figurejudge_k42_sets_of_rooms).prog 28) (kwd := []) K42.ob_eq
    (by kernel_rfl) (fun s => by kernel_rfl) K42.run (by kernel_rfl) (by kernel_rfl) (by kernel_rfl) (by rfl) (by first | assumption | decide +kernel) (by decide +kernel) ⟨rfl, rfl, rfl, rfl, rfl, by decide +kernel⟩ ?hw ?hc
  case hw => w_witness2
  case hc =>
    refine LamX.walk_ofTsE (l := PySem.Challenge.rw_figurejudge_k42_sets_of_rooms) (n := 63) (k := 11) (x := "_law_script") (CX := fun _ => L2.CX0) rfl (by decide) (by kernel_rfl) ⟨rfl, by decide, by decide⟩ ?F (fun _ _ _ _ _ z => z)
    intro w mg fa h Y G hmg0
    obtain ⟨K, KX, c⟩ := Y
    have A : DL.Head K42.fa K42.fn [] K42.tbs w h K mg := ⟨c, KX, G⟩
    have hmg : mg ("law" : PySem.Str) = some (.ref fa) := by
      have e : (HandSHeadRun.topDef (OpenLaw.row PySem.Challenge.rw_figurejudge_k42_sets_of_rooms).prog 28).name = ("law" : PySem.Str) := by kernel_rfl
      rw [← e]
      exact hmg0
    obtain ⟨fd, F, ok⟩ := K42.law_ok (P := (PySem.Challenge.rw_figurejudge_k42_sets_of_rooms).prog) A
    have e := hmg.symm.trans (A.glo (x := "law") (List.mem_of_getElem? (i := 23) rfl))
    cases e
    have b := L2.FunD.bindsA (ps := ["_law_script"]) F fun _ _ _ _ _ _ us hl => match us, hl with | [_], _ => rfl
    exact ⟨K, KX, A.law rfl (fun s v => b s [v] rfl) (fun a ns h0 q hl _ lu hq => ⟨a, ns, rfl, lu, hl, hq⟩) ok⟩

