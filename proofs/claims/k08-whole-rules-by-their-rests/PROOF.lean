import PyProof.Rows.All
import Wide.All
import OpenK.AllK
import Wide.FinOn
import HandS.ForMost
import HandS.ForExc
import HandS.Lambda
import HandS.Flow
import HandS.IsInst
import HandS.Wide
import HandS.TupAny
import HandS.TupMul
import HandS.ExcField
import HandS.ExcIs
import KE.KExcIs
import HandS.ClsMeth
import KE.KExcSuper
import HandS.ExcInit
import HandS.Nested
import HandS.Style
import HandS.FStr
import HandS.RaiseMore
import KE.KCallOwn
import HandS.SortInts
import HandS.Conv
import HandS.DictComp
import HandS.Star
import KE.GoesMore
import HandS.Walk
import HandS.SetFor
import HandS.Strs
import HandS.CallRecv
import HandS.HeadHook1
import HandS.HeadHook2
import HandS.Head2
import HandS.EndTab
import HandS.HeadEnd
import PySem.Challenge.RW_freetakes_k08_whole_rules_by_their_rests
import KE.KStateDown
import HandS.Head0
import HandS.Head1
import PyProof.ReprLen
set_option Elab.async false
set_option linter.all false
set_option maxRecDepth 100000
-- DLCore
section
set_option maxHeartbeats 4000000
namespace DL
open PySem PySem.Spec L2

/-- data as trees -/
inductive D where
  | non | bl (b : Bool) | int (i : Int) | str (s : Str)
  | tup (xs : List D) | lst (xs : List D) | scr (xs : List D) | dct (ks : List Key) (ds : List D)
  | obj (c : Nat) (ns : List Str) (ds : List D)
  | exc (c : Nat) (ns : List Str) (ds : List D)
  | box (i : Nat)
  | cls (c : Nat) | ty (n : String)

/-- the fixed part of a law: the classes' addresses, the written part, the tables of code objects -/
structure Ct where
  ca : Nat → Addr
  K : PySem.W.Frag
  T : List (Addr × Str)
  /-- the defs' function objects, their default values -/
  fa : Nat → Addr
  fd : Nat → FuncData
  dU : Nat → List (Str × Value)

/-- the world: the ground (what never changes), the boxes' addresses -/
structure Wd where
  G : Hp
  B : List Addr

/-- an exception object that is held as a value: its class, its own dict -/
def ExV (a : Addr) (cls : Value) (d : Option Addr) : HO :=
  .ext fun h => ∃ oe : Obj, h.get? a = some oe ∧ Zc cls d oe ∧ ∃ vs, oe.data = .fields vs

mutual
def Den (C : Ct) (W : Wd) : D → V → Prop
  | .non, v => v = .non
  | .bl b, v => v = .bl b
  | .int i, v => v = .int i
  | .str s, v => v = .str s
  | .tup xs, v => ∃ a ys, v = .ref a ∧ W.G a = some (.tup ys) ∧ DenL C W xs ys
  | .lst xs, v => ∃ a ys, v = .ref a ∧ W.G a = some (.lst ys) ∧ DenL C W xs ys
  | .scr xs, v => ∃ a ys, v = .ref a ∧ SqL C.K W.G a ys ∧ DenL C W xs ys
  | .dct ks ds, v => ∃ a vs, v = .ref a ∧ W.G a = some (.dK (ks.zip vs)) ∧ vs.length = ks.length ∧ DenL C W ds vs
  | .obj c ns ds, v => ∃ a dx vs, v = .ref a ∧ W.G a = some (.ins (C.ca c) dx (ns.zip vs)) ∧ vs.length = ns.length ∧ DenL C W ds vs
  | .exc c ns ds, v => ∃ a dx vs, v = .ref a ∧ W.G a = some (ExV a (.ref (C.ca c)) (some dx)) ∧ W.G dx = some (.xd (ns.zip vs)) ∧ vs.length = ns.length ∧ DenL C W ds vs
  | .box i, v => ∃ a, W.B[i]? = some a ∧ v = .ref a
  | .cls c, v => v = .ref (C.ca c)
  | .ty n, v => v = .ty n
def DenL (C : Ct) (W : Wd) : List D → List V → Prop
  | [], vs => vs = []
  | d :: ds, vs => ∃ v r, vs = v :: r ∧ Den C W d v ∧ DenL C W ds r
end

/-- the world grows -/
structure Ext (W W' : Wd) : Prop where
  g : ∀ a o, W.G a = some o → W'.G a = some o
  b : ∃ t, W'.B = W.B ++ t
theorem Ext.refl (W : Wd) : Ext W W := ⟨fun _ _ h => h, [], (List.append_nil _).symm⟩
theorem Ext.trans {W W1 W2 : Wd} (a : Ext W W1) (b : Ext W1 W2) : Ext W W2 := by
  obtain ⟨t, ht⟩ := a.b
  obtain ⟨u, hu⟩ := b.b
  exact ⟨fun x o h => b.g x o (a.g x o h), t ++ u, by rw [hu, ht, List.append_assoc]⟩
theorem Ext.bx {W W' : Wd} (e : Ext W W') {i : Nat} {a : Addr} (h : W.B[i]? = some a) : W'.B[i]? = some a := by
  obtain ⟨t, ht⟩ := e.b
  rw [ht, List.getElem?_append_left (List.getElem?_eq_some_iff.mp h).1]
  exact h
theorem rd_ext {G G' : Hp} (e : ∀ a o, G a = some o → G' a = some o) {a : Addr} {u : HO} (h : Rd G a u) : Rd G' a u := by
  rcases h with h | ⟨o, h⟩
  · exact .inl (e _ _ h)
  · exact .inr ⟨o, e _ _ h⟩
theorem sqL_ext {K : PySem.W.Frag} {G G' : Hp} (e : ∀ a o, G a = some o → G' a = some o) {a : Addr} {xs : List V} (h : SqL K G a xs) : SqL K G' a xs := by
  rcases h with h | h
  · exact .inl (rd_ext e h)
  · exact .inr h
theorem sqT_ext {K : PySem.W.Frag} {G G' : Hp} (e : ∀ a o, G a = some o → G' a = some o) {a : Addr} {xs : List V} (h : SqT K G a xs) : SqT K G' a xs := by
  rcases h with h | h
  · exact .inl (rd_ext e h)
  · exact .inr h

mutual
theorem Den.ext {C : Ct} {W W' : Wd} (e : Ext W W') : ∀ (d : D) (v : V), Den C W d v → Den C W' d v
  | .non, _, h => h
  | .bl _, _, h => h
  | .int _, _, h => h
  | .str _, _, h => h
  | .tup xs, v, h => by
    unfold Den at h ⊢
    obtain ⟨a, ys, e1, e2, e3⟩ := h
    exact ⟨a, ys, e1, e.g _ _ e2, DenL.ext e xs ys e3⟩
  | .lst xs, v, h => by
    unfold Den at h ⊢
    obtain ⟨a, ys, e1, e2, e3⟩ := h
    exact ⟨a, ys, e1, e.g _ _ e2, DenL.ext e xs ys e3⟩
  | .scr xs, v, h => by
    unfold Den at h ⊢
    obtain ⟨a, ys, e1, e2, e3⟩ := h
    exact ⟨a, ys, e1, sqL_ext e.g e2, DenL.ext e xs ys e3⟩
  | .dct ks ds, v, h => by
    unfold Den at h ⊢
    obtain ⟨a, vs, e1, e2, e3, e4⟩ := h
    exact ⟨a, vs, e1, e.g _ _ e2, e3, DenL.ext e ds vs e4⟩
  | .obj c ns ds, v, h => by
    unfold Den at h ⊢
    obtain ⟨a, dx, vs, e1, e2, e3, e4⟩ := h
    exact ⟨a, dx, vs, e1, e.g _ _ e2, e3, DenL.ext e ds vs e4⟩
  | .exc c ns ds, v, h => by
    unfold Den at h ⊢
    obtain ⟨a, dx, vs, e1, e2, e5, e3, e4⟩ := h
    exact ⟨a, dx, vs, e1, e.g _ _ e2, e.g _ _ e5, e3, DenL.ext e ds vs e4⟩
  | .box i, v, h => by
    unfold Den at h ⊢
    obtain ⟨a, e1, e2⟩ := h
    exact ⟨a, e.bx e1, e2⟩
  | .cls _, _, h => h
  | .ty _, _, h => h
theorem DenL.ext {C : Ct} {W W' : Wd} (e : Ext W W') : ∀ (ds : List D) (vs : List V), DenL C W ds vs → DenL C W' ds vs
  | [], _, h => h
  | d :: ds, vs, h => by
    unfold DenL at h ⊢
    obtain ⟨v, r, e1, e2, e3⟩ := h
    exact ⟨v, r, e1, Den.ext e d v e2, DenL.ext e ds r e3⟩
end
theorem DenL.length {C : Ct} {W : Wd} : ∀ {ds : List D} {vs : List V}, DenL C W ds vs → ds.length = vs.length
  | [], vs, h => by
    unfold DenL at h
    rw [h]
    rfl
  | d :: ds, vs, h => by
    unfold DenL at h
    obtain ⟨v, r, e1, _, e3⟩ := h
    rw [e1, List.length_cons, List.length_cons, DenL.length e3]
theorem DenL.append {C : Ct} {W : Wd} : ∀ {ds es : List D} {vs us : List V}, DenL C W ds vs → DenL C W es us → DenL C W (ds ++ es) (vs ++ us)
  | [], es, vs, us, h, k => by
    unfold DenL at h
    rw [h]
    exact k
  | d :: ds, es, vs, us, h, k => by
    unfold DenL at h
    obtain ⟨v, r, e1, e2, e3⟩ := h
    rw [e1]
    show DenL C W (d :: (ds ++ es)) (v :: (r ++ us))
    unfold DenL
    exact ⟨v, _, rfl, e2, DenL.append e3 k⟩
theorem DenL.get {C : Ct} {W : Wd} : ∀ {ds : List D} {vs : List V} {i : Nat} {d : D}, DenL C W ds vs → ds[i]? = some d → ∃ v, vs[i]? = some v ∧ Den C W d v
  | [], vs, i, d, h, e => by simp at e
  | d :: ds, vs, 0, d', h, e => by
    unfold DenL at h
    obtain ⟨v, r, e1, e2, e3⟩ := h
    simp at e
    subst e
    exact ⟨v, by rw [e1]; rfl, e2⟩
  | d :: ds, vs, i + 1, d', h, e => by
    unfold DenL at h
    obtain ⟨v, r, e1, e2, e3⟩ := h
    obtain ⟨u, h1, h2⟩ := DenL.get (i := i) e3 (by simpa using e)
    exact ⟨u, by rw [e1]; simpa using h1, h2⟩
theorem DenL.nil {C : Ct} {W : Wd} : DenL C W [] [] := by
  unfold DenL
  rfl
theorem DenL.cons {C : Ct} {W : Wd} {d : D} {ds : List D} {v : V} {vs : List V} (a : Den C W d v) (b : DenL C W ds vs) : DenL C W (d :: ds) (v :: vs) := by
  unfold DenL
  exact ⟨v, vs, rfl, a, b⟩
end DL
end
-- DLRel
section
set_option maxHeartbeats 4000000
namespace DL
open PySem PySem.Spec L2

/-- a mutable thing -/
inductive Bx where
  | lst (xs : List D)
  /-- a list that changes no more -/
  | fro (xs : List D)
  | ins (c : Nat) (ns : List Str) (ds : List D)
abbrev Store := List Bx
def Bx.mut : Bx → Bool
  | .fro _ => false
  | _ => true
def BxOk (C : Ct) (W : Wd) (H : Hp) (a : Addr) : Bx → Prop
  | .lst xs => ∃ ys, H a = some (.lst ys) ∧ DenL C W xs ys
  | .fro xs => ∃ ys, H a = some (.lst ys) ∧ DenL C W xs ys
  | .ins c ns ds => ∃ dx vs, H a = some (.ins (C.ca c) dx (ns.zip vs)) ∧ vs.length = ns.length ∧ DenL C W ds vs
theorem BxOk.there {C : Ct} {W : Wd} {H : Hp} {a : Addr} {b : Bx} (h : BxOk C W H a b) : ∃ o, H a = some o ∧ ∀ ps, o ≠ .tbl ps := by
  cases b with
  | lst xs =>
    obtain ⟨ys, e, _⟩ := h
    exact ⟨_, e, fun ps z => by cases z⟩
  | fro xs =>
    obtain ⟨ys, e, _⟩ := h
    exact ⟨_, e, fun ps z => by cases z⟩
  | ins c ns ds =>
    obtain ⟨dx, vs, e, _⟩ := h
    exact ⟨_, e, fun ps z => by cases z⟩
theorem BxOk.move {C : Ct} {W W' : Wd} {H H' : Hp} {a : Addr} {b : Bx} (h : BxOk C W H a b) (e : Ext W W') (k : H' a = H a) : BxOk C W' H' a b := by
  cases b with
  | lst xs =>
    obtain ⟨ys, e1, e2⟩ := h
    exact ⟨ys, k.trans e1, DenL.ext e _ _ e2⟩
  | fro xs =>
    obtain ⟨ys, e1, e2⟩ := h
    exact ⟨ys, k.trans e1, DenL.ext e _ _ e2⟩
  | ins c ns ds =>
    obtain ⟨dx, vs, e1, e2, e3⟩ := h
    exact ⟨dx, vs, k.trans e1, e2, DenL.ext e _ _ e3⟩

structure RelH (C : Ct) (W : Wd) (H : Hp) (S : Store) : Prop where
  g : ∀ a o, W.G a = some o → H a = some o
  len : W.B.length = S.length
  nd : W.B.Nodup
  bx : ∀ (i : Nat) a b, W.B[i]? = some a → S[i]? = some b → (b.mut = true → W.G a = none) ∧ BxOk C W H a b
  tab : LamX.Tabs C.T H
  nt : ∀ a ps, W.G a ≠ some (.tbl ps)
  ta : ∀ a ps, H a = some (.tbl ps) → ∃ q, (a, q) ∈ C.T
/-- from (W, H) to (W', H'): only boxes, the tables and what stands in U may have changed; what is new in the ground or among the boxes is new -/
structure Step (U : List Addr) (W : Wd) (H : Hp) (W' : Wd) (H' : Hp) : Prop where
  x : Ext W W'
  dom : ∀ a, H' a = none → H a = none
  fr : ∀ a o, H a = some o → a ∉ W.B → a ∉ U → (∀ ps, o ≠ .tbl ps) → H' a = some o
  gn : ∀ a, W'.G a ≠ none → (W.G a ≠ none ∨ a ∈ W.B) ∨ H a = none
  bn : ∀ a, a ∈ W'.B → a ∈ W.B ∨ H a = none
theorem Step.refl (U : List Addr) (W : Wd) (H : Hp) : Step U W H W H := ⟨Ext.refl W, fun _ h => h, fun _ _ h _ _ _ => h, fun _ h => .inl (.inl h), fun _ h => .inl h⟩
theorem Step.trans {U : List Addr} {W W1 W2 : Wd} {H H1 H2 : Hp} (a : Step U W H W1 H1) (b : Step U W1 H1 W2 H2) : Step U W H W2 H2 where
  x := a.x.trans b.x
  dom := fun c h => a.dom c (b.dom c h)
  fr := fun c o h n u t => b.fr c o (a.fr c o h n u t) (fun z => by
    rcases a.bn c z with q | q
    · exact n q
    · rw [h] at q
      cases q) u t
  gn := fun c h => by
    rcases b.gn c h with (q | q) | q
    · exact a.gn c q
    · rcases a.bn c q with y | y
      · exact .inl (.inr y)
      · exact .inr y
    · exact .inr (a.dom c q)
  bn := fun c h => by
    rcases b.bn c h with q | q
    · exact a.bn c q
    · exact .inr (a.dom c q)
theorem Step.mono {U U' : List Addr} {W W' : Wd} {H H' : Hp} (a : Step U W H W' H') (h : ∀ b ∈ U, b ∈ U') : Step U' W H W' H' :=
  ⟨a.x, a.dom, fun c o e n u t => a.fr c o e n (fun z => u (h c z)) t, a.gn, a.bn⟩
theorem Step.up {U : List Addr} {W W' : Wd} {H H' : Hp} (a : Step [] W H W' H') : Step U W H W' H' := a.mono fun b hb => absurd hb (by simp)

/-- a new thing that never changes -/
def Wd.put (W : Wd) (a : Addr) (o : HO) : Wd := ⟨upd W.G a o, W.B⟩
theorem RelH.fresh {C : Ct} {W : Wd} {H : Hp} {S : Store} (r : RelH C W H S) {a : Addr} (h : H a = none) : W.G a = none ∧ a ∉ W.B := by
  constructor
  · cases q : W.G a with
    | none => rfl
    | some o =>
      rw [r.g a o q] at h
      cases h
  · intro z
    obtain ⟨i, hi⟩ := List.getElem?_of_mem z
    have hl : i < S.length := by
      rw [← r.len]
      exact (List.getElem?_eq_some_iff.mp hi).1
    obtain ⟨_, b⟩ := r.bx i a S[i] hi (List.getElem?_eq_getElem hl)
    obtain ⟨o, e, _⟩ := b.there
    rw [e] at h
    cases h
theorem Ext.put {W : Wd} {a : Addr} {o : HO} (h : W.G a = none) : Ext W (W.put a o) :=
  ⟨fun b u e => by
    show upd W.G a o b = some u
    rw [upd_ne (ne_of_none e h)]
    exact e, [], (List.append_nil _).symm⟩
theorem tabs_new {T : List (Addr × Str)} {H : Hp} {a : Addr} {o : HO} (t : LamX.Tabs T H) (h : H a = none) : LamX.Tabs T (upd H a o) := t.ext fun b u e => by
  rw [upd_ne (ne_of_none e h)]
  exact e
theorem nt_put {W : Wd} {a : Addr} {o : HO} (h : ∀ a ps, W.G a ≠ some (.tbl ps)) (ht : ∀ ps, o ≠ .tbl ps) : ∀ b ps, upd W.G a o b ≠ some (.tbl ps) := fun b ps z => by
  by_cases q : b = a
  · rw [q, upd_same] at z
    exact ht ps (Option.some.inj z)
  · rw [upd_ne q] at z
    exact h b ps z
theorem ta_put {T : List (Addr × Str)} {H : Hp} {a : Addr} {o : HO} (h : ∀ a ps, H a = some (.tbl ps) → ∃ q, (a, q) ∈ T) (ht : ∀ ps, o ≠ .tbl ps) : ∀ b ps, upd H a o b = some (.tbl ps) → ∃ q, (b, q) ∈ T := fun b ps z => by
  by_cases q : b = a
  · rw [q, upd_same] at z
    exact absurd (Option.some.inj z) (ht ps)
  · rw [upd_ne q] at z
    exact h b ps z
/-- a new object, laid in the ground -/
theorem RelH.put {C : Ct} {W : Wd} {H : Hp} {S : Store} (r : RelH C W H S) {a : Addr} {o : HO} (h : H a = none) (ht : ∀ ps, o ≠ .tbl ps := by intro ps z; exact nomatch z) : RelH C (W.put a o) (upd H a o) S := by
  have ⟨hg, hb⟩ := r.fresh h
  refine ⟨fun b u e => ?_, r.len, r.nd, fun i b x e1 e2 => ?_, tabs_new r.tab h, nt_put r.nt ht, ta_put r.ta ht⟩
  · by_cases q : b = a
    · subst q
      have e : upd W.G b o b = some u := e
      rw [upd_same] at e ⊢
      exact e
    · have e : upd W.G a o b = some u := e
      rw [upd_ne q] at e ⊢
      exact r.g b u e
  · have nb : b ≠ a := fun z => hb (z ▸ List.mem_of_getElem? e1)
    obtain ⟨f1, f2⟩ := r.bx i b x e1 e2
    refine ⟨fun hm => ?_, f2.move (Ext.put hg) (upd_ne nb)⟩
    show upd W.G a o b = none
    rw [upd_ne nb]
    exact f1 hm
theorem Step.put {C : Ct} {W : Wd} {H : Hp} {S : Store} (r : RelH C W H S) {a : Addr} {o : HO} (h : H a = none) : Step [] W H (W.put a o) (upd H a o) where
  x := Ext.put (r.fresh h).1
  dom := fun b e => by
    by_cases q : b = a
    · subst q
      exact h
    · rw [upd_ne q] at e
      exact e
  fr := fun b u e _ _ _ => by
    rw [upd_ne (ne_of_none e h)]
    exact e
  gn := fun b e => by
    by_cases q : b = a
    · subst q
      exact .inr h
    · have e : upd W.G a o b ≠ none := e
      rw [upd_ne q] at e
      exact .inl (.inl e)
  bn := fun b e => .inl e
/-- a new object that is not (yet) in the ground -/
theorem RelH.loose {C : Ct} {W : Wd} {H : Hp} {S : Store} (r : RelH C W H S) {a : Addr} {o : HO} (h : H a = none) (ho : ∀ ps, o ≠ .tbl ps := by intro ps z; exact nomatch z) : RelH C W (upd H a o) S := by
  have ⟨hg, hb⟩ := r.fresh h
  refine ⟨fun b u e => ?_, r.len, r.nd, fun i b x e1 e2 => ?_, tabs_new r.tab h, r.nt, ta_put r.ta ho⟩
  · rw [upd_ne (ne_of_none e hg)]
    exact r.g b u e
  · have nb : b ≠ a := fun z => hb (z ▸ List.mem_of_getElem? e1)
    obtain ⟨f1, f2⟩ := r.bx i b x e1 e2
    exact ⟨f1, f2.move (Ext.refl W) (upd_ne nb)⟩
theorem Step.loose {W : Wd} {H : Hp} {a : Addr} {o : HO} (h : H a = none) : Step [] W H W (upd H a o) where
  x := Ext.refl W
  dom := fun b e => by
    by_cases q : b = a
    · subst q
      exact h
    · rw [upd_ne q] at e
      exact e
  fr := fun b u e _ _ _ => by
    rw [upd_ne (ne_of_none e h)]
    exact e
  gn := fun b e => .inl (.inl e)
  bn := fun b e => .inl e

/-! ### slots -/
inductive Sl where
  | sh (d : D)
  | owL (xs : List D)
  | owI (c : Nat) (ns : List Str) (ds : List D)
  /-- what a def got that is called there -/
  | thk
abbrev Ro := List (Option Sl)
def Sl.owned : Sl → Bool
  | .sh _ => false
  | .thk => false
  | _ => true
def Free (W : Wd) (H0 : Hp) (U : List Addr) (a : Addr) : Prop := W.G a = none ∧ a ∉ W.B ∧ a ∈ U
def FreeL (W : Wd) (H0 : Hp) (a : Addr) : Prop := W.G a = none ∧ a ∉ W.B ∧ H0 a = none
def SlOk (C : Ct) (W : Wd) (H0 : Hp) (U : List Addr) (H : Hp) : Sl → V → Prop
  | .sh d, v => Den C W d v
  | .thk, v => ∃ f, v = .ref f ∧ U = [f]
  | .owL xs, v => ∃ a ys, v = .ref a ∧ H a = some (.lst ys) ∧ DenL C W xs ys ∧ FreeL W H0 a
  | .owI c ns ds, v => ∃ a dx vs, v = .ref a ∧ H a = some (.ins (C.ca c) dx (ns.zip vs)) ∧ vs.length = ns.length ∧ DenL C W ds vs ∧ Free W H0 U a
structure RelS (C : Ct) (W : Wd) (H0 : Hp) (U : List Addr) (σ : St) (H : Hp) (ρ : Ro) : Prop where
  len : ρ.length = σ.length
  sl : ∀ (i : Nat) s, ρ[i]? = some (some s) → ∃ v, σ[i]? = some (some v) ∧ SlOk C W H0 U H s v
  ap : ∀ (i j : Nat) s t v, ρ[i]? = some (some s) → ρ[j]? = some (some t) → s.owned = true → t.owned = true → σ[i]? = some (some v) → σ[j]? = some (some v) → i = j
theorem Free.step {W W' : Wd} {H H' H0 : Hp} {U : List Addr} {a : Addr} {o : HO} (f : Free W H0 U a) (s : Step [] W H W' H') (h : H a = some o) : Free W' H0 U a := by
  obtain ⟨f1, f2, f3⟩ := f
  refine ⟨?_, fun z => ?_, f3⟩
  · cases q : W'.G a with
    | none => rfl
    | some u =>
      rcases s.gn a (by rw [q]; simp) with z | z
      · exact z.elim (fun y => absurd f1 y) (fun y => absurd y f2)
      · rw [h] at z
        cases z
  · rcases s.bn a z with z | z
    · exact f2 z
    · rw [h] at z
      cases z
theorem FreeL.step {W W' : Wd} {H H' H0 : Hp} {a : Addr} {o : HO} (f : FreeL W H0 a) (s : Step [] W H W' H') (h : H a = some o) : FreeL W' H0 a := by
  have q := Free.step (H0 := H0) (U := [a]) ⟨f.1, f.2.1, List.mem_singleton.mpr rfl⟩ s h
  exact ⟨q.1, q.2.1, f.2.2⟩
theorem SlOk.step {C : Ct} {W W' : Wd} {H H' H0 : Hp} {U : List Addr} {s : Sl} {v : V} (x : SlOk C W H0 U H s v) (st : Step [] W H W' H') : SlOk C W' H0 U H' s v := by
  cases s with
  | sh d => exact Den.ext st.x d v x
  | thk => exact x
  | owL xs =>
    obtain ⟨a, ys, e1, e2, e3, e4⟩ := x
    exact ⟨a, ys, e1, st.fr a _ e2 e4.2.1 (by simp) (fun ps z => by cases z), DenL.ext st.x _ _ e3, e4.step st e2⟩
  | owI c ns ds =>
    obtain ⟨a, dx, vs, e1, e2, e3, e4, e5⟩ := x
    exact ⟨a, dx, vs, e1, st.fr a _ e2 e5.2.1 (by simp) (fun ps z => by cases z), e3, DenL.ext st.x _ _ e4, e5.step st e2⟩
theorem RelS.step {C : Ct} {W W' : Wd} {H H' H0 : Hp} {U : List Addr} {σ : St} {ρ : Ro} (x : RelS C W H0 U σ H ρ) (st : Step [] W H W' H') : RelS C W' H0 U σ H' ρ :=
  ⟨x.len, fun i s e => by
    obtain ⟨v, e1, e2⟩ := x.sl i s e
    exact ⟨v, e1, e2.step st⟩, x.ap⟩

/-! ### outcomes, readings -/
inductive Out (α : Type) where
  | ok (a : α) (S : Store)
  | er (e : D) (S : Store)
  | stk
def Out.bind {α β : Type} (o : Out α) (k : α → Store → Out β) : Out β := match o with
  | .ok a S => k a S
  | .er e S => .er e S
  | .stk => .stk
@[simp] theorem Out.bnd_ok {α β : Type} {a : α} {S : Store} {k : α → Store → Out β} : (Out.ok a S).bind k = k a S := id rfl
@[simp] theorem Out.bnd_er {α β : Type} {e : D} {S : Store} {k : α → Store → Out β} : (Out.er e S : Out α).bind k = .er e S := id rfl
@[simp] theorem Out.bnd_stk {α β : Type} {k : α → Store → Out β} : (Out.stk : Out α).bind k = .stk := id rfl
def DenX (C : Ct) (W : Wd) (e : D) (cls : Value) (dd : Option Addr) : Prop := match e with
  | .exc c ns ds => ∃ dx vs, cls = .ref (C.ca c) ∧ dd = some dx ∧ W.G dx = some (.xd (ns.zip vs)) ∧ vs.length = ns.length ∧ DenL C W ds vs
  | _ => False
def Post {α : Type} (C : Ct) (Z : WX) (R : Wd → Hp → α → Prop) (W : Wd) (σ : St) (H : Hp) : Out α → Prop
  | .ok d S' => ∀ W' H', Step [] W H W' H' → RelH C W' H' S' → R W' H' d
  | .er e S' => ∀ cls dd W' H', Step [] W H W' H' → RelH C W' H' S' → DenX C W' e cls dd → Z cls dd σ H'
  | .stk => False
theorem Post.step {α : Type} {C : Ct} {Z : WX} {R : Wd → Hp → α → Prop} {W W1 : Wd} {σ : St} {H H1 : Hp} {o : Out α} (p : Post C Z R W σ H o) (s : Step [] W H W1 H1) : Post C Z R W1 σ H1 o := by
  cases o with
  | ok d S' => exact fun W' H' st r => p W' H' (s.trans st) r
  | er e S' => exact fun cls dd W' H' st r x => p cls dd W' H' (s.trans st) r x
  | stk => exact p
theorem Post.bind {α β : Type} {C : Ct} {Z : WX} {R : Wd → Hp → β → Prop} {W : Wd} {σ : St} {H : Hp} {o : Out α} {k : α → Store → Out β} (p : Post C Z R W σ H (o.bind k)) :
    Post C Z (fun W1 H1 x => Step [] W H W1 H1 ∧ ∃ S1, RelH C W1 H1 S1 ∧ o = .ok x S1 ∧ Post C Z R W1 σ H1 (k x S1)) W σ H o := by
  cases o with
  | ok d S' => exact fun W' H' st r => ⟨st, S', r, rfl, Post.step (o := k d S') p st⟩
  | er e S' => exact p
  | stk => exact p
theorem Post.mono {α : Type} {C : Ct} {Z : WX} {R R' : Wd → Hp → α → Prop} {W : Wd} {σ : St} {H : Hp} {o : Out α} (p : Post C Z R W σ H o) (h : ∀ W' H' x, R W' H' x → R' W' H' x) : Post C Z R' W σ H o := by
  cases o with
  | ok d S' => exact fun W' H' st r => h _ _ _ (p W' H' st r)
  | er e S' => exact p
  | stk => exact p
/-- an expression's reading by its evaluation -/
def tE (C : Ct) (Z : WX) (m : Ro → Store → Out D) : TE := fun σ H Q => ∃ W H0 U ρ S, RelH C W H S ∧ RelS C W H0 U σ H ρ ∧ Post C Z (fun W' H' d => ∀ v, Den C W' d v → Q v H') W σ H (m ρ S)
def tT (C : Ct) (Z : WX) (m : Ro → Store → Out Bool) : TT := fun σ H Q => ∃ W H0 U ρ S, RelH C W H S ∧ RelS C W H0 U σ H ρ ∧ Post C Z (fun _ H' b => Q b H') W σ H (m ρ S)
def tAs (C : Ct) (Z : WX) (m : Ro → Store → Out (List D)) : TA := fun σ H Q => ∃ W H0 U ρ S, RelH C W H S ∧ RelS C W H0 U σ H ρ ∧ Post C Z (fun W' H' ds => ∀ vs, DenL C W' ds vs → Q vs H') W σ H (m ρ S)

theorem PE.imp {X : Cx} {e : Expr} {t t' : TE} (h : PE X e t) (k : ∀ σ H Q, t' σ H Q → t σ H Q) : PE X e t' := ⟨fun pins s σ H Q I q => h.run pins s σ H Q I (k σ H Q q)⟩
theorem PT.imp {X : Cx} {e : Expr} {t t' : TT} (h : PT X e t) (k : ∀ σ H Q, t' σ H Q → t σ H Q) : PT X e t' := ⟨fun pins s σ H Q I q => h.run pins s σ H Q I (k σ H Q q)⟩
theorem PW.imp {X : Cx} {e : Expr} {t t' : TT} (h : PW X e t) (k : ∀ σ H Q, t' σ H Q → t σ H Q) : PW X e t' := ⟨fun whole pins s σ H Q I q => h.run whole pins s σ H Q I (k σ H Q q)⟩
theorem PA.imp {X : Cx} {e : List Expr} {t t' : TA} (h : PA X e t) (k : ∀ σ H Q, t' σ H Q → t σ H Q) : PA X e t' := ⟨fun pos pins s σ H Q I q => h.run pos pins s σ H Q I (k σ H Q q)⟩
theorem PS.imp {X : Cx} {e : Stmt} {t t' : TS} (h : PS X e t) (k : ∀ D σ H, t' D σ H → t D σ H) : PS X e t' := ⟨fun pins s σ H Q I q => h.run pins s σ H Q I (k Q σ H q)⟩
theorem PSs.imp {X : Cx} {e : List Stmt} {t t' : TS} (h : PSs X e t) (k : ∀ D σ H, t' D σ H → t D σ H) : PSs X e t' := ⟨fun pins s σ H Q I q => h.run pins s σ H Q I (k Q σ H q)⟩
end DL
end
-- RL
section
set_option maxHeartbeats 4000000
namespace DL
open PySem PySem.Spec L2

/-! ### operations on data -/
def keyPy : Key → PyData
  | .inl i => .int i
  | .inr x => .str x
mutual
def D.py : D → Option PyData
  | .non => some .none
  | .bl b => some (.bool b)
  | .int i => some (.int i)
  | .str s => some (.str s)
  | .tup xs => match pyL xs with
    | some ys => some (.tuple ys)
    | none => none
  | .lst xs => match pyL xs with
    | some ys => some (.list ys)
    | none => none
  | .dct ks ds => match pyL ds with
    | some ys => some (.dict ((ks.map keyPy).zip ys))
    | none => none
  | _ => none
def pyL : List D → Option (List PyData)
  | [] => some []
  | d :: ds => match d.py, pyL ds with
    | some y, some ys => some (y :: ys)
    | _, _ => none
end
/-- the most items that we let a list have -/
def most : Nat := 1000000
def eqD (x y : D) : Option Bool := match x.py, y.py with
  | some a, some b => if SeqAt.shaped a && SeqAt.shaped b then some (PyData.eqv a b) else none
  | _, _ => none
def D.scal : D → Bool
  | .non => true
  | .bl _ => true
  | .int _ => true
  | .str _ => true
  | _ => false
/-- a dict of plain values -/
def D.flatDct : D → Bool
  | .dct ks ds => ds.all D.scal && decide (ks.length = ds.length)
  | _ => false
def reprD (x : D) : Option Str := match x.py with
  | some p => if p.showable && (!p.hasDict || x.flatDct) && decide (p.depth ≤ 20) && decide (p.shown.length ≤ most) then some p.shown else none
  | none => none
def small (i : Int) : Bool := decide (-(2 ^ 64) < i) && decide (i < 2 ^ 64)
def opAdd (x y : D) (S : Store) : Out D := match x, y with
  | .int i, .int j => .ok (.int (i + j)) S
  | .lst xs, .lst ys => if xs.length + ys.length ≤ most then .ok (.lst (xs ++ ys)) S else .stk
  | .str a, .str b => if a.length + b.length ≤ most then .ok (.str (a ++ b)) S else .stk
  | _, _ => .stk
def opSub (x y : D) (S : Store) : Out D := match x, y with
  | .int i, .int j => .ok (.int (i - j)) S
  | _, _ => .stk
def opMul (x y : D) (S : Store) : Out D := match x, y with
  | .int i, .int j => if small i || small j then .ok (.int (i * j)) S else .stk
  | .lst xs, .int k => if -(2 ^ 63) ≤ k ∧ k < 2 ^ 63 ∧ xs.length * k.toNat ≤ most then .ok (.lst (List.replicate k.toNat xs).flatten) S else .stk
  | _, _ => .stk
def opMod (x y : D) (S : Store) : Out D := match x, y with
  | .int i, .int j => if 0 < j then .ok (.int (i % j)) S else .stk
  | _, _ => .stk
def opDiv (x y : D) (S : Store) : Out D := match x, y with
  | .int i, .int j => if 0 < j ∧ j < 2 ^ 200 then .ok (.int (i / j)) S else .stk
  | _, _ => .stk
def opPow (x y : D) (S : Store) : Out D := match x, y with
  | .int i, .int j => if 0 ≤ j ∧ j ≤ 1000 ∧ -(2 ^ 63) < i ∧ i < 2 ^ 63 then .ok (.int (i ^ j.toNat)) S else .stk
  | _, _ => .stk
def opBin (op : Operator) (x y : D) (S : Store) : Out D := match op with
  | .Add => opAdd x y S
  | .Sub => opSub x y S
  | .Mult => opMul x y S
  | .Mod => opMod x y S
  | .FloorDiv => opDiv x y S
  | .Pow => opPow x y S
  | _ => .stk
def D.isNon : D → Bool
  | .non => true
  | _ => false
/-- what a list that changes holds now -/
def deS (S : Store) (x : D) : D := match x with
  | .box b => (match S[b]? with
    | some (.lst xs) => .lst xs
    | some (.fro xs) => .lst xs
    | _ => .box b)
  | x => x
def opCmp (op : CmpOp) (x y : D) (S : Store) : Out D := match op with
  | .Lt => match x, y with
    | .int i, .int j => .ok (.bl (decide (i < j))) S
    | _, _ => .stk
  | .LtE => match x, y with
    | .int i, .int j => .ok (.bl (decide (i ≤ j))) S
    | _, _ => .stk
  | .Gt => match x, y with
    | .int i, .int j => .ok (.bl (decide (j < i))) S
    | _, _ => .stk
  | .GtE => match x, y with
    | .int i, .int j => .ok (.bl (decide (j ≤ i))) S
    | _, _ => .stk
  | .Eq => match eqD (deS S x) (deS S y) with
    | some b => .ok (.bl b) S
    | none => .stk
  | .NotEq => match eqD (deS S x) (deS S y) with
    | some b => .ok (.bl (!b)) S
    | none => .stk
  | .Is => match y with
    | .non => .ok (.bl x.isNon) S
    | _ => .stk
  | .IsNot => match y with
    | .non => .ok (.bl (!x.isNon)) S
    | _ => .stk
  | _ => .stk
def opNeg (x : D) (S : Store) : Out D := match x with
  | .int i => .ok (.int (-i)) S
  | _ => .stk
/-- the truth of a value -/
def truD (x : D) (S : Store) : Out Bool := match x with
  | .non => .ok false S
  | .bl b => .ok b S
  | .int i => .ok (i != 0) S
  | .lst xs => .ok (!xs.isEmpty) S
  | .tup xs => .ok (!xs.isEmpty) S
  | _ => .stk
/-- a dict's value at a key; the dict with one more -/
def getD2 {α : Type} : List Key → List α → Key → Option α
  | n :: ns, d :: ds, f => if n = f then some d else getD2 ns ds f
  | _, _, _ => none
def putD2 {α : Type} : List Key → List α → Key → α → List Key × List α
  | n :: ns, d :: ds, f, x => if n = f then (n :: ns, x :: ds) else (n :: (putD2 ns ds f x).1, d :: (putD2 ns ds f x).2)
  | _, _, f, x => ([f], [x])
def keyD : D → Option Key
  | .int i => some (.inl i)
  | .str x => some (.inr x)
  | _ => none
def kD : Key → D
  | .inl i => .int i
  | .inr x => .str x
def idxD (x i : D) (S : Store) : Out D := match x, i with
  | .lst xs, .int i => match atI xs i with
    | some d => .ok d S
    | none => .stk
  | .tup xs, .int i => match atI xs i with
    | some d => .ok d S
    | none => .stk
  | .box b, .int i => match deS S (.box b) with
    | .lst xs => match atI xs i with
      | some d => .ok d S
      | none => .stk
    | _ => .stk
  | .dct ks ds, .int i => match getD2 ks ds (.inl i) with
    | some d => .ok d S
    | none => .stk
  | .dct ks ds, .str x => match getD2 ks ds (.inr x) with
    | some d => .ok d S
    | none => .stk
  | _, _ => .stk
/-- the items xs[lo:hi] -/
def cutD {α : Type} (xs : List α) (lo hi : Option Int) : List α := (xs.drop (HT.sIx xs.length 0 lo)).take (HT.sIx xs.length xs.length hi - HT.sIx xs.length 0 lo)
def sliceD (x : D) (l h : Option Int) (S : Store) : Out D := match x with
  | .lst xs => .ok (.lst (cutD xs l h)) S
  | .tup xs => .ok (.tup (cutD xs l h)) S
  | .scr xs => .ok (.lst (cutD xs l h)) S
  | _ => .stk

/-! ### the language -/
inductive Bi where
  | len | abs | int | repr | list | isinst | max | min | tuple
/-- what is walked -/
inductive IK where
  | lst | tup | rng
  deriving DecidableEq
/-- calls of one argument whose answer goes by what it is -/
inductive O1 where
  | len | bool | any | all | sorted | sum | max | min
  deriving DecidableEq
inductive RE where
  | var (i : Nat)
  | non | bl (b : Bool) | int (i : Int) | str (s : Str)
  | gint (x : Str) (i : Int) | gcls (x : Str) (c : Nat) | gty (x : Str) (n : String)
  | bin (op : Operator) (a b : RE) | neg (a : RE)
  | cmp (op : CmpOp) (a b : RE) | chain (op op' : CmpOp) (a b c : RE)
  | and (es : List RE) | or (es : List RE) | not (a : RE)
  | ite (c a b : RE)
  | tup (es : List RE) | lst (es : List RE) | box (es : List RE) | emp
  | idx (a i : RE) | cut (a : RE) (lo hi : Option RE)
  | call (j : Nat) (es : List RE) (ks : List Str) (kes : List RE)
  | mk (c : Nat) (es : List RE) (ks : List Str) (kes : List RE)
  | bi (b : Bi) (es : List RE)
  | fld (o : RE) (f : Str)
  | heard (j : Nat) (body : RE)
  | lc (e : RE) (i : Nat) (k : IK) (it : RE) (c : Option RE)
  | cat (x : Str) (c : Nat) (f : Str) (v : Int)
  | meth (o : RE) (m : Str) (es : List RE) (ks : List Str) (kes : List RE)
  | fmt (e : RE) | fst (es : List RE) | strO (e : RE)
  /-- self.f while the instance is made -/
  | sfld (f : Str)
  | dc (k v : RE) (i : Nat) (kd : IK) (it : RE) (c : Option RE)
  /-- [e for x in d], d a dict in a slot -/
  | lcK (e : RE) (i d : Nat)
  /-- .. in range(a, b) -/
  | lc2 (e : RE) (i : Nat) (a b : RE) (c : Option RE)
  /-- C(..), C(*e), cls(*e) by an __init__ of a star -/
  | mkS (c : Nat) (es : List RE) | mkT (c : Nat) (e : RE) | mkV (i : Nat) (e : RE)
  /-- C.m(..), a classmethod or a static one -/
  | cm (c : Nat) (m : Str) (j : Nat) (sm : Bool) (es : List RE)
  | o1 (o : O1) (e : RE)
  | sset (e : RE) | rev (e : RE) | lrng (a b : RE) | lrng1 (b : RE)
  | opr (op : Operator) (a b : RE)
  | disp (t : Bool) (bs : List Bool) (es : List RE)
inductive RI where
  | lst (e : RE) | tup (e : RE) | rng (a : RE) | rng2 (a b : RE)
inductive RS where
  | asg (i : Nat) (e : RE) | own (i : Nat) (es : List RE)
  | par (is : List Nat) (es : List RE) | unp (is : List Nat) (e : RE)
  | setI (i : Nat) (ix e : RE) | setB (i : Nat) (ix e : RE) | setF (f : Str) (e : RE) | app (i : Nat) (e : RE)
  | expr (e : RE) | ret (e : RE) | retN | pass
  | ifs (c : RE) (a b : List RS)
  | for_ (i : Nat) (it : RI) (b : List RS)
  | raise (c : Nat) (es : List RE)
  | tryK (b : List RS) (c n x : Nat)
  | sup (c j : Nat) (es : List RE)
  | frz (i : Nat)
  | actA (i : Nat) | actE | actR
  | whil (c : RE) (b : List RS)
  /-- for i, j in enumerate(e) -/
  | forE (i j : Nat) (e : RE) (b : List RS)
  /-- x = list(e), changed later -/
  | ownL (i : Nat) (e : RE)
  /-- an owned list becomes a box; a box changes no more; x.append(e) on a box -/
  | lend (i : Nat) | frzB (i : Nat) | appB (i : Nat) (e : RE)

/-! ### the tables -/
inductive Kd where
  | plain | exc
structure Cl where
  name : Str
  kind : Kd
  /-- the def of __init__ -/
  init : Nat
  /-- of an exception: its fields -/
  flds : List Str
  /-- the classes that it is below, itself among them; the built-in ones -/
  anc : List Nat
  bas : List String
  /-- names that are fields of its instances alone -/
  fnames : List Str
  /-- its methods that are called, by their defs; its own numbers -/
  meths : List (Str × Nat)
  catt : List (Str × Int)
/-- a def: a plain one, an __init__, one that calls what it gets -/
inductive FK where
  | fn | ini | hrd
  /-- an __init__ of self and a star -/
  | inS
  deriving DecidableEq
structure Fn where
  /-- the module's name for it; a class and its method -/
  at_ : Str × Option Str
  kind : FK
  ps : List Str
  /-- the defaults of the last parameters, by name -/
  dfl : List (Str × D)
  /-- its names, the parameters first -/
  N : List Str
  /-- it makes lambdas -/
  lam : Bool
  /-- the forms of its calls: so many by position, these by name -/
  shapes : List (Nat × List Str)
  body : List RS
structure Pg where
  cls : List Cl
  fns : List Fn
  /-- built-in classes that isinstance is asked of -/
  tys : List String
  gints : List (Str × Int)
  frees : List Str
  /-- classmethods (false) and static ones (true): class, name, def -/
  cms : List (Nat × Str × Nat × Bool) := []

/-- what the parameters get -/
def bindG {α : Type} : List Str → List (Str × α) → List α → List (Str × α) → Option (List α)
  | [], _, [], _ => some []
  | [], _, _ :: _, _ => none
  | p :: ps, dfl, u :: us, kz => match bindG ps dfl us kz with
    | some r => some (u :: r)
    | none => none
  | p :: ps, dfl, [], kz => match (match kz.lookup p with
      | some z => some z
      | none => dfl.lookup p), bindG ps dfl [] kz with
    | some z, some r => some (z :: r)
    | _, _ => none

def D.tyName : D → Option String
  | .non => some "NoneType"
  | .bl _ => some "bool"
  | .int _ => some "int"
  | .str _ => some "str"
  | .tup _ => some "tuple"
  | .lst _ => some "list"
  | .dct _ _ => some "dict"
  | _ => none
def knownTys : List String := ["int", "bool", "str", "list", "tuple", "dict"]
def Kd.pl : Kd → Bool
  | .plain => true
  | .exc => false
/-- the class of an instance -/
def clsOf (P : Pg) (x : D) : Option (Option Cl) := match x with
  | .obj c _ _ => match P.cls[c]? with
    | some cl => if cl.kind.pl then some (some cl) else none
    | none => none
  | .exc c _ _ => match P.cls[c]? with
    | some cl => if cl.kind.pl then none else some (some cl)
    | none => none
  | _ => some none
def isiTy (x : D) (n : String) (P : Pg) : Option Bool := match clsOf P x with
  | some (some cl) => if P.tys.contains n then some (cl.bas.contains n) else none
  | some none => match x.tyName with
    | some t => if knownTys.contains n then some (t == n || (t == "bool" && n == "int")) else none
    | none => none
  | none => none
def isiCls (x : D) (c : Nat) (P : Pg) : Option Bool := match P.cls[c]? with
  | none => none
  | some _ => match clsOf P x with
    | some (some cl) => some (cl.anc.contains c)
    | some none => match x.tyName with
      | some _ => some false
      | none => none
    | none => none
def isi1 (P : Pg) (x t : D) : Option Bool := match t with
  | .ty n => isiTy x n P
  | .cls c => isiCls x c P
  | _ => none
def isiD (P : Pg) (x t : D) : Option Bool := match t with
  | .tup [a, b] => (match isi1 P x a, isi1 P x b with
    | some p, some q => some (p || q)
    | _, _ => none)
  | t => isi1 P x t
def lenD (ds : List D) (S : Store) : Out D := match ds with
  | [.lst xs] => .ok (.int xs.length) S
  | [.tup xs] => .ok (.int xs.length) S
  | [.str s] => if s.length ≤ most then .ok (.int s.length) S else .stk
  | [.box b] => match deS S (.box b) with
    | .lst xs => .ok (.int xs.length) S
    | _ => .stk
  | _ => .stk
def absD (ds : List D) (S : Store) : Out D := match ds with
  | [.int i] => .ok (.int (if i < 0 then -i else i)) S
  | _ => .stk
def intD (ds : List D) (S : Store) : Out D := match ds with
  | [.int i] => .ok (.int i) S
  | [.bl b] => .ok (.int (if b then 1 else 0)) S
  | _ => .stk
def listD (ds : List D) (S : Store) : Out D := match ds with
  | [.lst xs] => .ok (.lst xs) S
  | [.tup xs] => .ok (.lst xs) S
  | _ => .stk
def repD (ds : List D) (S : Store) : Out D := match ds with
  | [x] => match reprD x with
    | some s => .ok (.str s) S
    | none => .stk
  | _ => .stk
def isD (P : Pg) (ds : List D) (S : Store) : Out D := match ds with
  | [x, t] => match isiD P x t with
    | some b => .ok (.bl b) S
    | none => .stk
  | _ => .stk
def mxD (g : Int → Int → Int) (ds : List D) (S : Store) : Out D := match ds with
  | [.int i, .int j] => .ok (.int (g i j)) S
  | _ => .stk
def mx2 (i j : Int) : Int := if j > i then j else i
def mn2 (i j : Int) : Int := if j < i then j else i
def tupD (ds : List D) (S : Store) : Out D := match ds with
  | [.lst xs] => .ok (.tup xs) S
  | [.tup xs] => .ok (.tup xs) S
  | _ => .stk
/-- {x} in a text -/
def fmtD (x : D) (S : Store) : Out D := match x with
  | .int i => if i.natAbs.log2 < 1920 then .ok (.str (Str.ofString (toString i))) S else .stk
  | .str s => if s.length ≤ most then .ok (.str s) S else .stk
  | _ => .stk
def biD (P : Pg) (b : Bi) (ds : List D) (S : Store) : Out D := match b with
  | .len => lenD ds S
  | .abs => absD ds S
  | .int => intD ds S
  | .repr => repD ds S
  | .list => listD ds S
  | .isinst => isD P ds S
  | .max => mxD mx2 ds S
  | .min => mxD mn2 ds S
  | .tuple => tupD ds S
/-- what a walk goes over -/
def itD (k : IK) (x : D) (S : Store) : Out (List D) := match k, x with
  | .lst, .lst xs => .ok xs S
  | .tup, .tup xs => .ok xs S
  | .rng, .int n => if n < 2 ^ 60 ∧ -(2 ^ 60) < n then .ok ((List.range n.toNat).map fun k : Nat => D.int k) S else .stk
  | _, _ => .stk
/-- a comprehension: what is made of each -/
def lcD (f : D → Store → Out (Option D)) : List D → List D → Store → Out D
  | [], acc, S => .ok (.lst acc) S
  | d :: ds, acc, S => match f d S with
    | .ok (some y) S1 => if acc.length < most then lcD f ds (acc ++ [y]) S1 else .stk
    | .ok none S1 => lcD f ds acc S1
    | _ => .stk
def lcF (i : Nat) (mc : Ro → Store → Out Bool) (me : Ro → Store → Out D) (ρ : Ro) (d : D) (S : Store) : Out (Option D) :=
  (mc (ρ.set i (some (.sh d))) S).bind fun t S1 => if t then (me (ρ.set i (some (.sh d))) S1).bind fun y S2 => .ok (some y) S2 else .ok none S1
/-- a dict's comprehension -/
def dcD (f : D → Store → Out (Option (D × D))) : List D → List Key → List D → Store → Out D
  | [], ks, ds, S => .ok (.dct ks ds) S
  | d :: xs, ks, ds, S => match f d S with
    | .ok (some (k, v)) S1 => (match keyD k with
      | some k => if ks.length < most then dcD f xs (putD2 ks ds k v).1 (putD2 ks ds k v).2 S1 else .stk
      | none => .stk)
    | .ok none S1 => dcD f xs ks ds S1
    | _ => .stk
def dcF (i : Nat) (mc : Ro → Store → Out Bool) (mk mv : Ro → Store → Out D) (ρ : Ro) (d : D) (S : Store) : Out (Option (D × D)) :=
  (mc (ρ.set i (some (.sh d))) S).bind fun t S1 => if t then (mk (ρ.set i (some (.sh d))) S1).bind fun y S2 => (mv (ρ.set i (some (.sh d))) S2).bind fun z S3 => .ok (some (y, z)) S3 else .ok none S1
/-- over the keys of a dict: each by itself -/
def lcKD (f : D → Out D) : List Key → List D → Option (List D)
  | [], acc => some acc
  | k :: ks, acc => match f (kD k) with
    | .ok y _ => if y.scal && decide (acc.length < most) then lcKD f ks (acc ++ [y]) else none
    | _ => none
def rngD (x y : D) (S : Store) : Out (List D) := match x, y with
  | .int a, .int b => if a < 2 ^ 60 ∧ -(2 ^ 60) < a ∧ b < 2 ^ 60 ∧ -(2 ^ 60) < b then .ok ((List.range (b - a).toNat).map fun k : Nat => D.int (a + k)) S else .stk
  | _, _ => .stk
def starD (x : D) : Option (List D) := match x with
  | .lst xs => some xs
  | .tup xs => some xs
  | _ => none
def intsD : List D → Option (List Int)
  | [] => some []
  | .int i :: r => (match intsD r with
    | some s => some (i :: s)
    | none => none)
  | _ => none
def bolsD : List D → Option (List Bool)
  | [] => some []
  | .bl i :: r => (match bolsD r with
    | some s => some (i :: s)
    | none => none)
  | _ => none
/-- numbers in their order -/
def insI (x : Int) : List Int → List Int
  | [] => [x]
  | y :: ys => if x ≤ y then x :: y :: ys else y :: insI x ys
def sortI : List Int → List Int
  | [] => []
  | x :: xs => insI x (sortI xs)
/-- .. each once -/
def insU (x : Int) : List Int → List Int
  | [] => [x]
  | y :: ys => if x < y then x :: y :: ys else if x = y then y :: ys else y :: insU x ys
def sortU : List Int → List Int
  | [] => []
  | x :: xs => insU x (sortU xs)
def maxL : List Int → Int
  | [] => 0
  | x :: r => r.foldl (fun a b => if b > a then b else a) x
def minL : List Int → Int
  | [] => 0
  | x :: r => r.foldl (fun a b => if b < a then b else a) x
def ssetD (x : D) (S : Store) : Out D := match x with
  | .lst xs => (match intsD xs with
    | some ns => if ns.length < 60 then .ok (.lst ((sortU ns).map D.int)) S else .stk
    | none => .stk)
  | _ => .stk
def revD (x : D) (S : Store) : Out D := match x with
  | .lst xs => .ok (.lst xs.reverse) S
  | .tup xs => .ok (.tup xs.reverse) S
  | _ => .stk
def lk2 {α : Type} : List Str → List α → Str → Option α
  | n :: ns, d :: ds, f => if n = f then some d else lk2 ns ds f
  | _, _, _ => none
def fldOk (P : Pg) (c : Nat) (f : Str) : Bool := match P.cls[c]? with
  | some cl => cl.kind.pl && cl.fnames.contains f
  | none => false
def xfdOk (P : Pg) (c : Nat) (f : Str) : Bool := match P.cls[c]? with
  | some cl => !cl.kind.pl && cl.fnames.contains f
  | none => false
def fldD (P : Pg) (x : D) (f : Str) (S : Store) : Out D := match x with
  | .obj c ns ds => if fldOk P c f then (match lk2 ns ds f with
    | some d => .ok d S
    | none => .stk) else .stk
  | .exc c ns ds => if xfdOk P c f then (match lk2 ns ds f with
    | some d => .ok d S
    | none => .stk) else .stk
  | _ => .stk
/-- a field is set -/
def put2 {α : Type} : List Str → List α → Str → α → List Str × List α
  | n :: ns, d :: ds, f, x => if n = f then (n :: ns, x :: ds) else ((n :: (put2 ns ds f x).1), (d :: (put2 ns ds f x).2))
  | _, _, f, x => ([f], [x])

structure Fs where
  fn : Nat → List D → Store → Out D
  ini : Nat → Nat → List Str → List D → List D → Store → Out (List Str × List D)
  hrd : Nat → (Store → Out D) → Store → Out D
  act : Store → Out D

def callD (P : Pg) (F : Fs) (j : Nat) (ds : List D) (ks : List Str) (zs : List D) (S : Store) : Out D := match P.fns[j]? with
  | some f => if ks.length = zs.length then (match bindG f.ps f.dfl ds (ks.zip zs) with
    | some r => F.fn j r S
    | none => .stk) else .stk
  | none => .stk
def mkD (P : Pg) (F : Fs) (c : Nat) (ds : List D) (ks : List Str) (zs : List D) (S : Store) : Out D := match P.cls[c]? with
  | some cl => match cl.kind with
    | .plain => match P.fns[cl.init]? with
      | some f => if ks.length = zs.length then (match bindG f.ps.tail f.dfl ds (ks.zip zs) with
        | some r => (F.ini cl.init c [] [] r S).bind fun q S1 => .ok (.obj c q.1 q.2) S1
        | none => .stk) else .stk
      | none => .stk
    | .exc => .stk
  | none => .stk
/-- o.m(..): the method of the instance's class -/
def methJ (P : Pg) (x : D) (m : Str) : Option Nat := match x with
  | .obj c ns _ => (match P.cls[c]? with
    | some cl => if cl.kind.pl && !ns.contains m then cl.meths.lookup m else none
    | none => none)
  | _ => none
/-- str(x) -/
def specJ (P : Pg) (x : D) (m : Str) : Option (Nat × Nat) := match x with
  | .obj c _ _ => (match P.cls[c]? with
    | some cl => if cl.kind.pl then (match cl.meths.lookup m with
      | some j => some (c, j)
      | none => none) else none
    | none => none)
  | _ => none
def retS (o : Out D) : Out D := o.bind fun r S1 => match r with
  | .str s => .ok (.str s) S1
  | _ => .stk
def strD (P : Pg) (F : Fs) (x : D) (S : Store) : Out D := match x with
  | .int i => if i.natAbs.log2 < 1920 then .ok (.str (Str.ofString (toString i))) S else .stk
  | .str s => .ok (.str s) S
  | x => (match specJ P x "__str__" with
    | some (_, j) => retS (F.fn j [x] S)
    | none => .stk)
def retI (o : Out D) : Out D := o.bind fun r S1 => match r with
  | .int n => if 0 ≤ n ∧ n < 2 ^ 60 then .ok (.int n) S1 else .stk
  | _ => .stk
def retBo (o : Out D) : Out D := o.bind fun r S1 => match r with
  | .bl b => .ok (.bl b) S1
  | _ => .stk
def lenO (P : Pg) (F : Fs) (x : D) (S : Store) : Out D := match specJ P x "__len__" with
  | some (_, j) => retI (F.fn j [x] S)
  | none => lenD [x] S
def boolO (P : Pg) (F : Fs) (x : D) (S : Store) : Out D := match specJ P x "__bool__" with
  | some (_, j) => retBo (F.fn j [x] S)
  | none => (truD x S).bind fun b S1 => .ok (.bl b) S1
def onB (f : List Bool → Bool) (x : D) (S : Store) : Out D := match x with
  | .lst xs => (match bolsD xs with
    | some bs => .ok (.bl (f bs)) S
    | none => .stk)
  | _ => .stk
def onI (f : List Int → Option D) (x : D) (S : Store) : Out D := match x with
  | .lst xs => (match intsD xs with
    | some ns => (match f ns with
      | some d => .ok d S
      | none => .stk)
    | none => .stk)
  | _ => .stk
def o1D (P : Pg) (F : Fs) (o : O1) (x : D) (S : Store) : Out D := match o with
  | .len => lenO P F x S
  | .bool => boolO P F x S
  | .any => onB (fun bs => bs.any id) x S
  | .all => onB (fun bs => bs.all id) x S
  | .sorted => onI (fun ns => some (.lst ((sortI ns).map D.int))) x S
  | .sum => onI (fun ns => some (.int ns.sum)) x S
  | .max => onI (fun ns => if ns = [] then none else some (.int (maxL ns))) x S
  | .min => onI (fun ns => if ns = [] then none else some (.int (minL ns))) x S
/-- C(..) by an __init__ of a star -/
def mkSD (P : Pg) (F : Fs) (c : Nat) (ds : List D) (S : Store) : Out D := match P.cls[c]? with
  | some cl => (match P.fns[cl.init]? with
    | some f => if cl.kind.pl = true ∧ f.kind = .inS ∧ ds.length ≤ most then (F.ini cl.init c [] [] [.tup ds] S).bind fun q S1 => .ok (.obj c q.1 q.2) S1 else .stk
    | none => .stk)
  | none => .stk
def mkTD (P : Pg) (F : Fs) (c : Nat) (x : D) (S : Store) : Out D := match starD x with
  | some ds => mkSD P F c ds S
  | none => .stk
def okS (P : Pg) (c : Nat) : Bool := match P.cls[c]? with
  | some cl => cl.kind.pl && (match P.fns[cl.init]? with
    | some f => decide (f.kind = .inS)
    | none => false)
  | none => false
/-- own operators -/
def oprN : Operator → Option Str
  | .BitOr => some "__or__"
  | .BitAnd => some "__and__"
  | .BitXor => some "__xor__"
  | .Sub => some "__sub__"
  | _ => none
def oprD (P : Pg) (F : Fs) (op : Operator) (x y : D) (S : Store) : Out D := match oprN op with
  | some m => (match specJ P x m with
    | some (_, j) => F.fn j [x, y] S
    | none => opBin op x y S)
  | none => opBin op x y S
/-! ### own == -/
def D.isObj : D → Bool
  | .obj _ _ _ => true
  | _ => false
/-- the class and the def of its own == -/
def eqJ (P : Pg) (x : D) : Option (Nat × Nat) := match x with
  | .obj c _ _ => (match P.cls[c]? with
    | some cl => if cl.kind.pl then (match cl.meths.lookup ("__eq__" : Str) with
      | some j => some (c, j)
      | none => none) else none
    | none => none)
  | _ => none
/-- the left one's == is asked first -/
def nfB (P : Pg) (c : Nat) (y : D) : Bool := match y with
  | .obj c' _ _ => (match P.cls[c']? with
    | some cl' => cl'.kind.pl && (decide (c' = c) || !cl'.anc.contains c)
    | none => false)
  | y => y.tyName.isSome
def retB (neg : Bool) (o : Out D) : Out D := o.bind fun r S1 => match r with
  | .bl b => .ok (.bl (if neg then !b else b)) S1
  | _ => .stk
def ownEq (P : Pg) (F : Fs) (neg : Bool) (x y : D) (S : Store) : Out D := match eqJ P x with
  | some (c, j) => if nfB P c y then retB neg (F.fn j [x, y] S) else .stk
  | none => if x.tyName.isSome then (match eqJ P y with
    | some (_, j) => retB neg (F.fn j [y, x] S)
    | none => .stk) else .stk
def cmpD (P : Pg) (F : Fs) (op : CmpOp) (x y : D) (S : Store) : Out D := if x.isObj || y.isObj then (match op with
    | .Eq => ownEq P F false x y S
    | .NotEq => ownEq P F true x y S
    | op => opCmp op x y S) else opCmp op x y S
/-- an exception is made -/
def excD (P : Pg) (c : Nat) (ds : List D) : Option D := match P.cls[c]? with
  | some cl => match cl.kind with
    | .exc => if cl.flds.length = ds.length then some (.exc c cl.flds.reverse ds.reverse) else none
    | .plain => none
  | none => none

mutual
def evE (P : Pg) (F : Fs) : RE → Ro → Store → Out D
  | .var i, ρ, S => match ρ[i]? with
    | some (some (.sh d)) => .ok d S
    | _ => .stk
  | .non, _, S => .ok .non S
  | .bl b, _, S => .ok (.bl b) S
  | .int i, _, S => .ok (.int i) S
  | .str s, _, S => .ok (.str s) S
  | .gint _ i, _, S => .ok (.int i) S
  | .gcls _ c, _, S => .ok (.cls c) S
  | .gty _ n, _, S => .ok (.ty n) S
  | .bin op a b, ρ, S => (evE P F a ρ S).bind fun x S1 => (evE P F b ρ S1).bind fun y S2 => opBin op x y S2
  | .neg a, ρ, S => (evE P F a ρ S).bind fun x S1 => opNeg x S1
  | .cmp op a b, ρ, S => (evE P F a ρ S).bind fun x S1 => (evE P F b ρ S1).bind fun y S2 => cmpD P F op x y S2
  | .chain op op' a b c, ρ, S => (evE P F a ρ S).bind fun x S1 => (evE P F b ρ S1).bind fun y S2 => (opCmp op x y S2).bind fun r S3 => match r with
    | .bl true => (evE P F c ρ S3).bind fun z S4 => opCmp op' y z S4
    | .bl false => .ok (.bl false) S3
    | _ => .stk
  | .and es, ρ, S => evAnd P F es ρ S
  | .or es, ρ, S => evOr P F es ρ S
  | .not a, ρ, S => ((evE P F a ρ S).bind truD).bind fun b S1 => .ok (.bl (!b)) S1
  | .ite c a b, ρ, S => ((evE P F c ρ S).bind truD).bind fun t S1 => if t then evE P F a ρ S1 else evE P F b ρ S1
  | .tup es, ρ, S => (evEs P F es ρ S).bind fun ds S1 => if ds.length ≤ most then .ok (.tup ds) S1 else .stk
  | .lst es, ρ, S => (evEs P F es ρ S).bind fun ds S1 => if ds.length ≤ most then .ok (.lst ds) S1 else .stk
  | .box es, ρ, S => (evEs P F es ρ S).bind fun ds S1 => if ds.length ≤ most then .ok (.box S1.length) (S1 ++ [.lst ds]) else .stk
  | .emp, _, S => .ok (.dct [] []) S
  | .idx a i, ρ, S => (evE P F a ρ S).bind fun x S1 => (evE P F i ρ S1).bind fun y S2 => idxD x y S2
  | .cut a lo hi, ρ, S => (evE P F a ρ S).bind fun x S1 => (evO P F lo ρ S1).bind fun l S2 => (evO P F hi ρ S2).bind fun h S3 => sliceD x l h S3
  | .call j es ks kes, ρ, S => (evEs P F es ρ S).bind fun ds S1 => (evEs P F kes ρ S1).bind fun zs S2 => callD P F j ds ks zs S2
  | .mk c es ks kes, ρ, S => (evEs P F es ρ S).bind fun ds S1 => (evEs P F kes ρ S1).bind fun zs S2 => mkD P F c ds ks zs S2
  | .bi b es, ρ, S => (evEs P F es ρ S).bind fun ds S1 => biD P b ds S1
  | .fld o f, ρ, S => (evE P F o ρ S).bind fun x S1 => fldD P x f S1
  | .heard j body, ρ, S => F.hrd j (fun S1 => evE P F body ρ S1) S
  | .lc e i k it c, ρ, S => (evE P F it ρ S).bind fun x S1 => (itD k x S1).bind fun xs S2 => lcD (fun d S3 => lcF i (fun ρ S => evC P F c ρ S) (fun ρ S => evE P F e ρ S) ρ d S3) xs [] S2
  | .cat _ _ _ v, _, S => .ok (.int v) S
  | .meth o m es ks kes, ρ, S => (evE P F o ρ S).bind fun x S1 => match methJ P x m with
    | some j => (evEs P F es ρ S1).bind fun ds S2 => (evEs P F kes ρ S2).bind fun zs S3 => callD P F j (x :: ds) ks zs S3
    | none => .stk
  | .fmt e, ρ, S => (evE P F e ρ S).bind fmtD
  | .fst es, ρ, S => evJ P F es Str.empty ρ S
  | .strO e, ρ, S => (evE P F e ρ S).bind fun x S1 => strD P F x S1
  | .sfld f, ρ, S => match (ρ[0]? : Option (Option Sl)) with
    | some (some (.owI c ns ds)) => if fldOk P c f then (match lk2 ns ds f with
      | some d => .ok d S
      | none => .stk) else .stk
    | _ => .stk
  | .dc k v i kd it c, ρ, S => (evE P F it ρ S).bind fun x S1 => (itD kd x S1).bind fun xs S2 => dcD (fun d S3 => dcF i (fun ρ S => evC P F c ρ S) (fun ρ S => evE P F k ρ S) (fun ρ S => evE P F v ρ S) ρ d S3) xs [] [] S2
  | .lcK e i d, ρ, S => match (ρ[d]? : Option (Option Sl)) with
    | some (some (.sh (.dct ks _))) => (match lcKD (fun x => evE P F e ((List.replicate ρ.length none).set i (some (.sh x))) []) ks [] with
      | some ys => .ok (.lst ys) S
      | none => .stk)
    | _ => .stk
  | .lc2 e i a b c, ρ, S => (evE P F a ρ S).bind fun x S1 => (evE P F b ρ S1).bind fun y S2 => (rngD x y S2).bind fun xs S2 => lcD (fun d S3 => lcF i (fun ρ S => evC P F c ρ S) (fun ρ S => evE P F e ρ S) ρ d S3) xs [] S2
  | .mkS c es, ρ, S => (evEs P F es ρ S).bind fun ds S1 => mkSD P F c ds S1
  | .mkT c e, ρ, S => (evE P F e ρ S).bind fun x S1 => mkTD P F c x S1
  | .mkV i e, ρ, S => match (ρ[i]? : Option (Option Sl)) with
    | some (some (.sh (.cls c))) => if okS P c then (evE P F e ρ S).bind fun x S1 => mkTD P F c x S1 else .stk
    | _ => .stk
  | .cm c _ j sm es, ρ, S => (evEs P F es ρ S).bind fun ds S1 => callD P F j (if sm then ds else .cls c :: ds) [] [] S1
  | .o1 o e, ρ, S => (evE P F e ρ S).bind fun x S1 => o1D P F o x S1
  | .sset e, ρ, S => (evE P F e ρ S).bind ssetD
  | .rev e, ρ, S => (evE P F e ρ S).bind revD
  | .lrng a b, ρ, S => (evE P F a ρ S).bind fun x S1 => (evE P F b ρ S1).bind fun y S2 => (rngD x y S2).bind fun xs S3 => if xs.length ≤ most then .ok (.lst xs) S3 else .stk
  | .lrng1 b, ρ, S => (evE P F b ρ S).bind fun y S2 => (rngD (.int 0) y S2).bind fun xs S3 => if xs.length ≤ most then .ok (.lst xs) S3 else .stk
  | .opr op a b, ρ, S => (evE P F a ρ S).bind fun x S1 => (evE P F b ρ S1).bind fun y S2 => oprD P F op x y S2
  | .disp t bs es, ρ, S => (evSt P F es bs ρ S).bind fun xs S1 => if xs.length ≤ most then .ok (if t then .tup xs else .lst xs) S1 else .stk
def evSt (P : Pg) (F : Fs) : List RE → List Bool → Ro → Store → Out (List D)
  | [], bs, _, S => if bs.isEmpty then .ok [] S else .stk
  | e :: es, bs, ρ, S => (match bs with
    | true :: bs => (evE P F e ρ S).bind fun d S1 => (match starD d with
      | some xs => (evSt P F es bs ρ S1).bind fun ys S2 => .ok (xs ++ ys) S2
      | none => .stk)
    | false :: bs => (evE P F e ρ S).bind fun d S1 => (evSt P F es bs ρ S1).bind fun ys S2 => .ok (d :: ys) S2
    | [] => .stk)
def evJ (P : Pg) (F : Fs) : List RE → Str → Ro → Store → Out D
  | [], acc, _, S => .ok (.str acc) S
  | e :: es, acc, ρ, S => (evE P F e ρ S).bind fun d S1 => match d with
    | .str y => if (acc ++ y).length ≤ most then evJ P F es (acc ++ y) ρ S1 else .stk
    | _ => .stk
def evC (P : Pg) (F : Fs) : Option RE → Ro → Store → Out Bool
  | none, _, S => .ok true S
  | some e, ρ, S => (evE P F e ρ S).bind truD
def evO (P : Pg) (F : Fs) : Option RE → Ro → Store → Out (Option Int)
  | none, _, S => .ok none S
  | some e, ρ, S => (evE P F e ρ S).bind fun d S1 => match d with
    | .int i => .ok (some i) S1
    | _ => .stk
def evEs (P : Pg) (F : Fs) : List RE → Ro → Store → Out (List D)
  | [], _, S => .ok [] S
  | e :: es, ρ, S => (evE P F e ρ S).bind fun d S1 => (evEs P F es ρ S1).bind fun ds S2 => .ok (d :: ds) S2
def evAnd (P : Pg) (F : Fs) : List RE → Ro → Store → Out D
  | [], _, _ => .stk
  | [e], ρ, S => evE P F e ρ S
  | e :: e1 :: es, ρ, S => (evE P F e ρ S).bind fun x S1 => (truD x S1).bind fun t S2 => if t then evAnd P F (e1 :: es) ρ S2 else .ok x S2
def evOr (P : Pg) (F : Fs) : List RE → Ro → Store → Out D
  | [], _, _ => .stk
  | [e], ρ, S => evE P F e ρ S
  | e :: e1 :: es, ρ, S => (evE P F e ρ S).bind fun x S1 => (truD x S1).bind fun t S2 => if t then .ok x S2 else evOr P F (e1 :: es) ρ S2
end
def evT (P : Pg) (F : Fs) (e : RE) (ρ : Ro) (S : Store) : Out Bool := (evE P F e ρ S).bind truD
end DL
end
-- RLS
section
set_option maxHeartbeats 4000000
namespace DL
open PySem PySem.Spec L2
inductive OutS where
  | nx (ρ : Ro) (S : Store) | rt (d : D) (S : Store) | bk (ρ : Ro) (S : Store) | ct (ρ : Ro) (S : Store) | er (e : D) (ρ : Ro) (S : Store) | stk
/-- an expression's outcome in a statement -/
def Out.then {α : Type} (o : Out α) (ρ : Ro) (k : α → Store → OutS) : OutS := match o with
  | .ok a S => k a S
  | .er e S => .er e ρ S
  | .stk => .stk
def OutS.andThen (o : OutS) (k : Ro → Store → OutS) : OutS := match o with
  | .nx ρ S => k ρ S
  | o => o
@[simp] theorem Out.then_ok {α : Type} {a : α} {S : Store} {ρ : Ro} {k : α → Store → OutS} : (Out.ok a S).then ρ k = k a S := id rfl
@[simp] theorem Out.then_er {α : Type} {e : D} {S : Store} {ρ : Ro} {k : α → Store → OutS} : (Out.er e S : Out α).then ρ k = .er e ρ S := id rfl
@[simp] theorem Out.then_stk {α : Type} {ρ : Ro} {k : α → Store → OutS} : (Out.stk : Out α).then ρ k = .stk := id rfl
@[simp] theorem OutS.and_nx {ρ : Ro} {S : Store} {k : Ro → Store → OutS} : (OutS.nx ρ S).andThen k = k ρ S := id rfl
@[simp] theorem OutS.and_rt {d : D} {S : Store} {k : Ro → Store → OutS} : (OutS.rt d S).andThen k = .rt d S := id rfl
@[simp] theorem OutS.and_bk {ρ : Ro} {S : Store} {k : Ro → Store → OutS} : (OutS.bk ρ S).andThen k = .bk ρ S := id rfl
@[simp] theorem OutS.and_ct {ρ : Ro} {S : Store} {k : Ro → Store → OutS} : (OutS.ct ρ S).andThen k = .ct ρ S := id rfl
@[simp] theorem OutS.and_er {e : D} {ρ : Ro} {S : Store} {k : Ro → Store → OutS} : (OutS.er e ρ S).andThen k = .er e ρ S := id rfl
@[simp] theorem OutS.and_stk {k : Ro → Store → OutS} : OutS.stk.andThen k = .stk := id rfl
def evI (P : Pg) (F : Fs) : RI → Ro → Store → Out (List D)
  | .lst e, ρ, S => (evE P F e ρ S).bind fun x S1 => match x with
    | .lst xs => .ok xs S1
    | _ => .stk
  | .tup e, ρ, S => (evE P F e ρ S).bind fun x S1 => match x with
    | .tup xs => .ok xs S1
    | _ => .stk
  | .rng e, ρ, S => (evE P F e ρ S).bind fun x S1 => match x with
    | .int n => if n < 2 ^ 60 ∧ -(2 ^ 60) < n then .ok ((List.range n.toNat).map fun k : Nat => D.int k) S1 else .stk
    | _ => .stk
  | .rng2 a b, ρ, S => (evE P F a ρ S).bind fun x S1 => (evE P F b ρ S1).bind fun y S2 => rngD x y S2
/-- while -/
def whilL (c : Ro → Store → Out Bool) (b : Ro → Store → OutS) : Nat → Ro → Store → OutS
  | 0, _, _ => .stk
  | n + 1, ρ, S => match c ρ S with
    | .ok true S1 => (match b ρ S1 with
      | .nx ρ1 S2 => whilL c b n ρ1 S2
      | .ct ρ1 S2 => whilL c b n ρ1 S2
      | .bk ρ1 S2 => .nx ρ1 S2
      | .rt d S2 => .rt d S2
      | .er e ρ1 S2 => .er e ρ1 S2
      | .stk => .stk)
    | .ok false S1 => .nx ρ S1
    | .er e S1 => .er e ρ S1
    | .stk => .stk
/-- for i, j in enumerate(..) -/
def forEL (i j : Nat) (b : Ro → Store → OutS) : Nat → List D → Ro → Store → OutS
  | _, [], ρ, S => .nx ρ S
  | k, d :: ds, ρ, S => match b ((ρ.set i (some (.sh (.int k)))).set j (some (.sh d))) S with
    | .nx ρ1 S1 => forEL i j b (k + 1) ds ρ1 S1
    | .ct ρ1 S1 => forEL i j b (k + 1) ds ρ1 S1
    | .bk ρ1 S1 => .nx ρ1 S1
    | .rt d S1 => .rt d S1
    | .er e ρ1 S1 => .er e ρ1 S1
    | .stk => .stk
def forL (i : Nat) (b : Ro → Store → OutS) : List D → Ro → Store → OutS
  | [], ρ, S => .nx ρ S
  | d :: ds, ρ, S => match b (ρ.set i (some (.sh d))) S with
    | .nx ρ1 S1 => forL i b ds ρ1 S1
    | .ct ρ1 S1 => forL i b ds ρ1 S1
    | .bk ρ1 S1 => .nx ρ1 S1
    | .rt d S1 => .rt d S1
    | .er e ρ1 S1 => .er e ρ1 S1
    | .stk => .stk
/-- x[i] = v on a list -/
def setD (xs : List D) (i : Int) (v : D) : Option (List D) := if 0 ≤ i ∧ i.toNat < xs.length then some (xs.set i.toNat v) else none
/-- Base.__init__(self, ..) -/
def kSup (F : Nat → List Str → List D → List D → Store → Out (List Str × List D)) (ds : List D) (S1 : Store) (ρ : Ro) : OutS := match (ρ[0]? : Option (Option Sl)) with
    | some (some (.owI k ns fs)) => match F k ns fs ds S1 with
      | .ok q S2 => .nx (ρ.set 0 (some (.owI k q.1 q.2))) S2
      | .er e S2 => .er e (ρ.set 0 none) S2
      | .stk => .stk
    | _ => .stk
/-- a, b = .. -/
def setAll : Ro → List Nat → List D → Ro
  | ρ, i :: is, d :: ds => setAll (ρ.set i (some (.sh d))) is ds
  | ρ, _, _ => ρ
def kUnp (is : List Nat) (d : D) (S1 : Store) (ρ : Ro) : OutS := match d with
  | .tup xs => if xs.length = is.length then .nx (setAll ρ is xs) S1 else .stk
  | _ => .stk
def kApp (b : Nat) (v : D) (S1 : Store) (ρ : Ro) : OutS := match S1[b]? with
  | some (.lst xs) => if xs.length < most then .nx ρ (S1.set b (.lst (xs ++ [v]))) else .stk
  | _ => .stk
/-- except c as n: x = n -/
def kTry (P : Pg) (c n x : Nat) (o : OutS) : OutS := match o with
  | .er (.exc k ns ds) ρ S => (match P.cls[k]? with
    | some cl => if cl.kind.pl then .stk else if cl.anc.contains c then .nx ((ρ.set x (some (.sh (.exc k ns ds)))).set n none) S else .er (.exc k ns ds) ρ S
    | none => .stk)
  | .er _ _ _ => .stk
  | .nx ρ S => .nx ρ S
  | .rt d S => .rt d S
  | .bk ρ S => .bk ρ S
  | .ct ρ S => .ct ρ S
  | .stk => .stk
mutual
def evS (P : Pg) (F : Fs) : RS → Ro → Store → OutS
  | .asg i e, ρ, S => (evE P F e ρ S).then ρ fun d S1 => .nx (ρ.set i (some (.sh d))) S1
  | .own i es, ρ, S => (evEs P F es ρ S).then ρ fun ds S1 => if ds.length ≤ most then .nx (ρ.set i (some (.owL ds))) S1 else .stk
  | .par is es, ρ, S => (evEs P F es ρ S).then ρ fun ds S1 => if ds.length = is.length then .nx (setAll ρ is ds) S1 else .stk
  | .unp is e, ρ, S => (evE P F e ρ S).then ρ fun d S1 => kUnp is d S1 ρ
  | .setI i ix e, ρ, S => (evE P F e ρ S).then ρ fun v S1 => match (ρ[i]? : Option (Option Sl)) with
    | some (some (.owL xs)) => (evE P F ix ρ S1).then ρ fun k S2 => match k with
      | .int k => (match setD xs k v with
        | some ys => .nx (ρ.set i (some (.owL ys))) S2
        | none => .stk)
      | _ => .stk
    | _ => .stk
  | .setB i ix e, ρ, S => (evE P F e ρ S).then ρ fun v S1 => (evE P F (.var i) ρ S1).then ρ fun o S2 => (evE P F ix ρ S2).then ρ fun k S3 => match o, k with
    | .box b, .int k => match S3[b]? with
      | some (.lst xs) => (match setD xs k v with
        | some ys => .nx ρ (S3.set b (.lst ys))
        | none => .stk)
      | _ => .stk
    | _, _ => .stk
  | .setF f e, ρ, S => (evE P F e ρ S).then ρ fun v S1 => match (ρ[0]? : Option (Option Sl)) with
    | some (some (.owI c ns ds)) => if ns.length < 900 ∧ fldOk P c f = true then .nx (ρ.set 0 (some (.owI c (put2 ns ds f v).1 (put2 ns ds f v).2))) S1 else .stk
    | _ => .stk
  | .app i e, ρ, S => match (ρ[i]? : Option (Option Sl)) with
    | some (some (.owL xs)) => (evE P F e ρ S).then ρ fun v S1 => if xs.length < most then .nx (ρ.set i (some (.owL (xs ++ [v])))) S1 else .stk
    | _ => .stk
  | .expr e, ρ, S => (evE P F e ρ S).then ρ fun _ S1 => .nx ρ S1
  | .ret e, ρ, S => (evE P F e ρ S).then ρ fun d S1 => .rt d S1
  | .retN, _, S => .rt .non S
  | .pass, ρ, S => .nx ρ S
  | .ifs c a b, ρ, S => (evT P F c ρ S).then ρ fun t S1 => if t then evSs P F a ρ S1 else evSs P F b ρ S1
  | .for_ i it b, ρ, S => (evI P F it ρ S).then ρ fun xs S1 => forL i (fun ρ S => evSs P F b ρ S) xs ρ S1
  | .raise c es, ρ, S => (evEs P F es ρ S).then ρ fun ds S1 => match excD P c ds with
    | some e => .er e ρ S1
    | none => .stk
  | .tryK b c n x, ρ, S => kTry P c n x (evSs P F b ρ S)
  | .sup _ j es, ρ, S => match (ρ[0]? : Option (Option Sl)) with
    | some (some (.owI _ _ _)) => (evEs P F es ρ S).then ρ fun ds S1 => kSup (F.ini j) ds S1 ρ
    | _ => .stk
  | .actA i, ρ, S => match (ρ[0]? : Option (Option Sl)) with
    | some (some .thk) => (F.act S).then ρ fun d S1 => .nx (ρ.set i (some (.sh d))) S1
    | _ => .stk
  | .actE, ρ, S => match (ρ[0]? : Option (Option Sl)) with
    | some (some .thk) => (F.act S).then ρ fun _ S1 => .nx ρ S1
    | _ => .stk
  | .actR, ρ, S => match (ρ[0]? : Option (Option Sl)) with
    | some (some .thk) => (F.act S).then ρ fun d S1 => .rt d S1
    | _ => .stk
  | .frz i, ρ, S => match ρ[i]? with
    | some (some (.owL xs)) => .nx (ρ.set i (some (.sh (.lst xs)))) S
    | _ => .stk
  | .whil c b, ρ, S => whilL (fun ρ S => evT P F c ρ S) (fun ρ S => evSs P F b ρ S) most ρ S
  | .forE i j e b, ρ, S => (evE P F e ρ S).then ρ fun x S1 => match x with
    | .tup xs => forEL i j (fun ρ S => evSs P F b ρ S) 0 xs ρ S1
    | _ => .stk
  | .ownL i e, ρ, S => (evE P F e ρ S).then ρ fun x S1 => match starD x with
    | some xs => .nx (ρ.set i (some (.owL xs))) S1
    | none => .stk
  | .lend i, ρ, S => match (ρ[i]? : Option (Option Sl)) with
    | some (some (.owL xs)) => .nx (ρ.set i (some (.sh (.box S.length)))) (S ++ [.lst xs])
    | _ => .stk
  | .frzB i, ρ, S => match (ρ[i]? : Option (Option Sl)) with
    | some (some (.sh (.box b))) => (match S[b]? with
      | some (.lst xs) => .nx (ρ.set i (some (.sh (.lst xs)))) (S.set b (.fro xs))
      | _ => .stk)
    | _ => .stk
  | .appB i e, ρ, S => match (ρ[i]? : Option (Option Sl)) with
    | some (some (.sh (.box b))) => (match S[b]? with
      | some (.lst _) => (evE P F e ρ S).then ρ fun v S1 => kApp b v S1 ρ
      | _ => .stk)
    | _ => .stk
def evSs (P : Pg) (F : Fs) : List RS → Ro → Store → OutS
  | [], ρ, S => .nx ρ S
  | s :: r, ρ, S => (evS P F s ρ S).andThen fun ρ1 S1 => evSs P F r ρ1 S1
end
def start0 (n : Nat) (ds : List D) : Ro := ds.map (fun d => some (.sh d)) ++ List.replicate (n - ds.length) none
/-- a def by its body -/
def runB (o : OutS) : Out D := match o with
  | .rt d S => .ok d S
  | .nx _ S => .ok .non S
  | .er e _ S => .er e S
  | _ => .stk
def runI (c : Nat) (o : OutS) : Out (List Str × List D) := match o with
  | .nx ρ S => match (ρ[0]? : Option (Option Sl)) with
    | some (some (.owI k ns ds)) => if k = c then .ok (ns, ds) S else .stk
    | _ => .stk
  | .er e _ S => .er e S
  | _ => .stk
/-- no error passes -/
def noEr (o : Out D) : Out D := match o with
  | .er _ _ => .stk
  | o => o
/-- the defs, to a depth -/
def fsN (P : Pg) : Nat → Fs
  | 0 => ⟨fun _ _ _ => .stk, fun _ _ _ _ _ _ => .stk, fun _ _ _ => .stk, fun _ => .stk⟩
  | k + 1 =>
    { fn := fun j ds S => match P.fns[j]? with
        | some f => if ds.length = f.ps.length then runB (evSs P (fsN P k) f.body (start0 f.N.length ds) S) else .stk
        | none => .stk
      ini := fun j c ns fs ds S => match P.fns[j]? with
        | some f => if ds.length + 1 = f.ps.length then runI c (evSs P (fsN P k) f.body (some (.owI c ns fs) :: start0 (f.N.length - 1) ds) S) else .stk
        | none => .stk
      hrd := fun j a S => match P.fns[j]? with
        | some f => noEr (runB (evSs P { fsN P k with act := a } f.body (some .thk :: List.replicate (f.N.length - 1) none) S))
        | none => .stk
      act := fun _ => .stk }
end DL
end
-- DLExp
section
set_option maxHeartbeats 4000000
namespace DL
open PySem PySem.Spec L2
section
variable {C : Ct} {Z : WX} {W : Wd} {σ : L2.St} {H : Hp} {S : Store} {Q : VK}
abbrev PQ (C : Ct) (Z : WX) (σ : L2.St) (Q : VK) (W : Wd) (H : Hp) (o : Out D) : Prop := Post C Z (fun W' H' d => ∀ v, Den C W' d v → Q v H') W σ H o
/-- an answer at hand -/
theorem PQ.ok {d : D} {v : V} (p : PQ C Z σ Q W H (.ok d S)) (r : RelH C W H S) (h : Den C W d v) : Q v H := p W H (Step.refl _ _ _) r v h
/-- an answer that is a new object -/
theorem PQ.new {d : D} {a : Addr} {o : HO} (p : PQ C Z σ Q W H (.ok d S)) (r : RelH C W H S) (n : H a = none) (h : Den C (W.put a o) d (.ref a)) (ht : ∀ ps, o ≠ .tbl ps := by intro ps z; exact nomatch z) : Q (.ref a) (upd H a o) := p (W.put a o) (upd H a o) (Step.put r n) (r.put n ht) _ h
/-- two expressions, then an operation -/
theorem bin_rd {ma mb : Ro → Store → Out D} {f : D → D → Store → Out D} {r : R2}
    (hr : ∀ W σ H S x y u v Q, RelH C W H S → Den C W x u → Den C W y v → PQ C Z σ Q W H (f x y S) → r u v H Q)
    (h : tE C Z (fun ρ S => (ma ρ S).bind fun x S1 => (mb ρ S1).bind fun y S2 => f x y S2) σ H Q) : tOp r (tE C Z ma) (tE C Z mb) σ H Q := by
  obtain ⟨W, H0, U, ρ, S, rh, rs, p⟩ := h
  refine ⟨W, H0, U, ρ, S, rh, rs, (Post.bind p).mono ?_⟩
  rintro W1 H1 x ⟨st, S1, rh1, _, p1⟩ u hu
  refine ⟨W1, H0, U, ρ, S1, rh1, rs.step st, (Post.bind p1).mono ?_⟩
  rintro W2 H2 y ⟨st2, S2, rh2, _, p2⟩ v hv
  exact hr W2 σ H2 S2 x y u v Q rh2 (Den.ext st2.x _ _ hu) hv p2
theorem un_rd {ma : Ro → Store → Out D} {f : D → Store → Out D} {r : V → Hp → VK → Prop}
    (hr : ∀ W σ H S x u Q, RelH C W H S → Den C W x u → PQ C Z σ Q W H (f x S) → r u H Q)
    (h : tE C Z (fun ρ S => (ma ρ S).bind fun x S1 => f x S1) σ H Q) : tUn r (tE C Z ma) σ H Q := by
  obtain ⟨W, H0, U, ρ, S, rh, rs, p⟩ := h
  refine ⟨W, H0, U, ρ, S, rh, rs, (Post.bind p).mono ?_⟩
  rintro W1 H1 x ⟨st, S1, rh1, _, p1⟩ u hu
  exact hr W1 σ H1 S1 x u Q rh1 hu p1
/-! ### what is known of a value -/
theorem den_int {i : Int} {u : V} (h : Den C W (.int i) u) : u = .int i := by
  unfold Den at h
  exact h
theorem den_bl {b : Bool} {u : V} (h : Den C W (.bl b) u) : u = .bl b := by
  unfold Den at h
  exact h
theorem den_str {b : Str} {u : V} (h : Den C W (.str b) u) : u = .str b := by
  unfold Den at h
  exact h
theorem den_non {u : V} (h : Den C W .non u) : u = .non := by
  unfold Den at h
  exact h
theorem den_ty {n : String} {u : V} (h : Den C W (.ty n) u) : u = .ty n := by
  unfold Den at h
  exact h
theorem den_cls {n : Nat} {u : V} (h : Den C W (.cls n) u) : u = .ref (C.ca n) := by
  unfold Den at h
  exact h
theorem den_lst {xs : List D} {u : V} (h : Den C W (.lst xs) u) (r : RelH C W H S) : ∃ a ys, u = .ref a ∧ W.G a = some (.lst ys) ∧ H a = some (.lst ys) ∧ DenL C W xs ys := by
  unfold Den at h
  obtain ⟨a, ys, e1, e2, e3⟩ := h
  exact ⟨a, ys, e1, e2, r.g _ _ e2, e3⟩
theorem den_tup {xs : List D} {u : V} (h : Den C W (.tup xs) u) (r : RelH C W H S) : ∃ a ys, u = .ref a ∧ W.G a = some (.tup ys) ∧ H a = some (.tup ys) ∧ DenL C W xs ys := by
  unfold Den at h
  obtain ⟨a, ys, e1, e2, e3⟩ := h
  exact ⟨a, ys, e1, e2, r.g _ _ e2, e3⟩
theorem of_int {i : Int} : Den C W (.int i) (.int i) := by
  unfold Den
  rfl
theorem of_bl {b : Bool} : Den C W (.bl b) (.bl b) := by
  unfold Den
  rfl
theorem of_str {b : Str} : Den C W (.str b) (.str b) := by
  unfold Den
  rfl
theorem of_non : Den C W .non .non := by
  unfold Den
  rfl
theorem lst_new {a : Addr} {xs : List D} {ys : List V} (n : W.G a = none) (h : DenL C W xs ys) : Den C (W.put a (.lst ys)) (.lst xs) (.ref a) := by
  unfold Den
  exact ⟨a, ys, rfl, upd_same, DenL.ext (Ext.put n) _ _ h⟩
theorem tup_new {a : Addr} {xs : List D} {ys : List V} (n : W.G a = none) (h : DenL C W xs ys) : Den C (W.put a (.tup ys)) (.tup xs) (.ref a) := by
  unfold Den
  exact ⟨a, ys, rfl, upd_same, DenL.ext (Ext.put n) _ _ h⟩
theorem most_line {n : Nat} (h : n ≤ most) : n ≤ sizeLine := by
  have e : (most : Nat) ≤ sizeLine := by
    rw [sizeLine_eq]
    decide
  omega
end
section
variable {C : Ct} {Z : WX} {X : Cx} {a b : Expr} {ma mb : Ro → Store → Out D} {pos : Pos}
theorem small_of {i : Int} (h : small i = true) : -(2 ^ 64) < i ∧ i < 2 ^ 64 := by
  unfold small at h
  simp only [Bool.and_eq_true, decide_eq_true_eq] at h
  exact h
theorem denL_rep {W : Wd} {xs : List D} {ys : List V} (h : DenL C W xs ys) : ∀ n : Nat, DenL C W (List.replicate n xs).flatten (List.replicate n ys).flatten
  | 0 => DenL.nil
  | n + 1 => by
    rw [List.replicate_succ, List.replicate_succ, List.flatten_cons, List.flatten_cons]
    exact h.append (denL_rep h n)
theorem rd_add (W : Wd) (σ : L2.St) (H : Hp) (S : Store) (x y : D) (u v : V) (Q : VK) (r : RelH C W H S) (hu : Den C W x u) (hv : Den C W y v) (p : PQ C Z σ Q W H (opAdd x y S)) :
    rI0 (fun i j => .int (i + j)) u v H Q ∨ rCat u v H Q ∨ ∃ i j, u = .str i ∧ v = .str j ∧ i.length + j.length ≤ sizeLine ∧ Q (.str (i ++ j)) H := by
  unfold opAdd at p
  split at p
  · rw [den_int hu, den_int hv]
    exact .inl ⟨_, _, rfl, rfl, p.ok r of_int⟩
  · split at p
    · rename_i hl
      obtain ⟨a, as, rfl, _, ha, da⟩ := den_lst hu r
      obtain ⟨b, bs, rfl, _, hb, db⟩ := den_lst hv r
      refine .inr (.inl ⟨a, b, as, bs, rfl, rfl, ha, hb, most_line ?_, fun p' np => p.new r np (lst_new (r.fresh np).1 (da.append db))⟩)
      rw [← da.length, ← db.length]
      exact hl
    · exact p.elim
  · split at p
    · rename_i hl
      rw [den_str hu, den_str hv]
      exact .inr (.inr ⟨_, _, rfl, rfl, most_line hl, p.ok r of_str⟩)
    · exact p.elim
  · exact p.elim
theorem rd_sub (W : Wd) (σ : L2.St) (H : Hp) (S : Store) (x y : D) (u v : V) (Q : VK) (r : RelH C W H S) (hu : Den C W x u) (hv : Den C W y v) (p : PQ C Z σ Q W H (opSub x y S)) :
    rI0 (fun i j => .int (i - j)) u v H Q := by
  unfold opSub at p
  split at p
  · rw [den_int hu, den_int hv]
    exact ⟨_, _, rfl, rfl, p.ok r of_int⟩
  · exact p.elim
theorem rd_mul (W : Wd) (σ : L2.St) (H : Hp) (S : Store) (x y : D) (u v : V) (Q : VK) (r : RelH C W H S) (hu : Den C W x u) (hv : Den C W y v) (p : PQ C Z σ Q W H (opMul x y S)) :
    rI CMul (fun i j => .int (i * j)) u v H Q ∨ rRep u v H Q := by
  unfold opMul at p
  split at p
  · split at p
    · rename_i hl
      rw [den_int hu, den_int hv]
      refine .inl ⟨_, _, rfl, rfl, ?_, p.ok r of_int⟩
      rw [Bool.or_eq_true] at hl
      exact hl.imp small_of small_of
    · exact p.elim
  · split at p
    · rename_i hl
      obtain ⟨a, as, rfl, _, ha, da⟩ := den_lst hu r
      rw [den_int hv]
      refine .inr ⟨a, _, as, rfl, rfl, ha, hl.1, hl.2.1, most_line ?_, fun p' np => p.new r np (lst_new (r.fresh np).1 (denL_rep da _))⟩
      rw [← da.length]
      exact hl.2.2
    · exact p.elim
  · exact p.elim
theorem rd_mod (W : Wd) (σ : L2.St) (H : Hp) (S : Store) (x y : D) (u v : V) (Q : VK) (r : RelH C W H S) (hu : Den C W x u) (hv : Den C W y v) (p : PQ C Z σ Q W H (opMod x y S)) :
    rI (fun _ j => 0 < j) (fun i j => .int (i % j)) u v H Q := by
  unfold opMod at p
  split at p
  · split at p
    · rename_i hl
      rw [den_int hu, den_int hv]
      exact ⟨_, _, rfl, rfl, hl, p.ok r of_int⟩
    · exact p.elim
  · exact p.elim
theorem rd_div (W : Wd) (σ : L2.St) (H : Hp) (S : Store) (x y : D) (u v : V) (Q : VK) (r : RelH C W H S) (hu : Den C W x u) (hv : Den C W y v) (p : PQ C Z σ Q W H (opDiv x y S)) :
    rI CDivW (fun i j => .int (i / j)) u v H Q := by
  unfold opDiv at p
  split at p
  · split at p
    · rename_i i j hl
      rw [den_int hu, den_int hv]
      refine ⟨_, _, rfl, rfl, wide_div (b := 200) hl.1 ?_ (by decide) (by decide), p.ok r of_int⟩
      have h2 := hl.2
      have h1 := hl.1
      have e : ((2 : Nat) ^ 200 : Nat) = ((2 : Int) ^ 200).toNat := by decide +kernel
      omega
    · exact p.elim
  · exact p.elim
theorem rd_pow (W : Wd) (σ : L2.St) (H : Hp) (S : Store) (x y : D) (u v : V) (Q : VK) (r : RelH C W H S) (hu : Den C W x u) (hv : Den C W y v) (p : PQ C Z σ Q W H (opPow x y S)) :
    rI CPow (fun i j => .int (i ^ j.toNat)) u v H Q := by
  unfold opPow at p
  split at p
  · split at p
    · rename_i hl
      rw [den_int hu, den_int hv]
      refine ⟨_, _, rfl, rfl, ⟨hl.1, by omega, ?_⟩, p.ok r of_int⟩
      have h1 := hl.2.2.1
      have h2 := hl.2.2.2
      have e : (2 : Nat) ^ 64 = 18446744073709551616 := by decide
      have e2 : (2 : Int) ^ 63 = 9223372036854775808 := by decide
      rw [e2] at h1 h2
      omega
    · exact p.elim
  · exact p.elim
/-- + - * % // ** -/
theorem de_bin (op : Operator) (ha : PE X a (tE C Z ma)) (hb : PE X b (tE C Z mb)) :
    PE X (.BinOp a op b pos) (tE C Z fun ρ S => (ma ρ S).bind fun x S1 => (mb ρ S1).bind fun y S2 => opBin op x y S2) := by
  have never : (∀ x y S, opBin op x y S = .stk) → PE X (.BinOp a op b pos) (tE C Z fun ρ S => (ma ρ S).bind fun x S1 => (mb ρ S1).bind fun y S2 => opBin op x y S2) := fun hn =>
    PE.imp (pe_op (r := fun _ _ _ _ => False) (fun _ _ _ _ _ _ _ _ _ _ _ _ q => q.elim) ha hb) fun σ H Q h => bin_rd (fun W σ H S x y u v Q r hu hv p => by rw [hn] at p; exact p) h
  cases op with
  | Add => exact PE.imp (pe_op (op_add.or (op_cat.or op_add_str)) ha hb) fun σ H Q h => bin_rd rd_add h
  | Sub => exact PE.imp (pe_op op_sub ha hb) fun σ H Q h => bin_rd rd_sub h
  | Mult => exact PE.imp (pe_op (op_mul.or op_rep) ha hb) fun σ H Q h => bin_rd rd_mul h
  | Mod => exact PE.imp (pe_op op_mod ha hb) fun σ H Q h => bin_rd rd_mod h
  | FloorDiv => exact PE.imp (pe_op op_fdivW ha hb) fun σ H Q h => bin_rd rd_div h
  | Pow => exact PE.imp (pe_op op_pow ha hb) fun σ H Q h => bin_rd rd_pow h
  | _ => exact never fun _ _ _ => rfl
end
end DL
end
-- DLExp2
section
set_option maxHeartbeats 4000000
namespace DL
open PySem PySem.Spec L2
theorem Out.bind_assoc {α β γ : Type} (o : Out α) (f : α → Store → Out β) (g : β → Store → Out γ) : (o.bind f).bind g = o.bind fun x S => (f x S).bind g := by
  cases o <;> rfl
theorem Out.bind_ok {α : Type} (o : Out α) : o.bind (fun x S => .ok x S) = o := by
  cases o <;> rfl
/-! ### data that can be compared -/
mutual
theorem dp_of {C : Ct} {W : Wd} {H : Hp} (g : ∀ a o, W.G a = some o → H a = some o) : ∀ (d : D) (v : V) (p : PyData), Den C W d v → d.py = some p → p.hasDict = false → Dp C.K H v p
  | .non, v, p, h, e, _ => by
    unfold Den at h
    unfold D.py at e
    cases e
    rw [h]
    exact .non
  | .bl b, v, p, h, e, _ => by
    unfold Den at h
    unfold D.py at e
    cases e
    rw [h]
    exact .bl b
  | .int i, v, p, h, e, _ => by
    unfold Den at h
    unfold D.py at e
    cases e
    rw [h]
    exact .int i
  | .str s, v, p, h, e, _ => by
    unfold Den at h
    unfold D.py at e
    cases e
    rw [h]
    exact .str s
  | .tup xs, v, p, h, e, n => by
    unfold Den at h
    obtain ⟨a, ys, rfl, e2, e3⟩ := h
    unfold D.py at e
    cases q : pyL xs with
    | none =>
      rw [q] at e
      cases e
    | some zs =>
      rw [q] at e
      cases e
      exact .tup (SqT.of (g _ _ e2)) (dpL_of g xs ys zs e3 q n)
  | .lst xs, v, p, h, e, n => by
    unfold Den at h
    obtain ⟨a, ys, rfl, e2, e3⟩ := h
    unfold D.py at e
    cases q : pyL xs with
    | none =>
      rw [q] at e
      cases e
    | some zs =>
      rw [q] at e
      cases e
      exact .lst (SqL.of (g _ _ e2)) (dpL_of g xs ys zs e3 q n)
  | .dct ks ds, v, p, h, e, n => by
    unfold D.py at e
    cases q : pyL ds with
    | none =>
      rw [q] at e
      cases e
    | some zs =>
      rw [q] at e
      cases e
      cases n
  | .scr _, _, _, _, e, _ => by
    unfold D.py at e
    cases e
  | .obj _ _ _, _, _, _, e, _ => by
    unfold D.py at e
    cases e
  | .exc _ _ _, _, _, _, e, _ => by
    unfold D.py at e
    cases e
  | .box _, _, _, _, e, _ => by
    unfold D.py at e
    cases e
  | .cls _, _, _, _, e, _ => by
    unfold D.py at e
    cases e
  | .ty _, _, _, _, e, _ => by
    unfold D.py at e
    cases e
theorem dpL_of {C : Ct} {W : Wd} {H : Hp} (g : ∀ a o, W.G a = some o → H a = some o) : ∀ (ds : List D) (vs : List V) (ps : List PyData), DenL C W ds vs → pyL ds = some ps → PyData.hasDictAll ps = false → DpAll C.K H vs ps
  | [], vs, ps, h, e, _ => by
    unfold DenL at h
    unfold pyL at e
    cases e
    rw [h]
    exact .nil
  | d :: ds, vs, ps, h, e, n => by
    unfold DenL at h
    obtain ⟨v, r, rfl, e2, e3⟩ := h
    unfold pyL at e
    cases q : d.py with
    | none =>
      rw [q] at e
      cases e
    | some y =>
      cases q2 : pyL ds with
      | none =>
        rw [q, q2] at e
        cases e
      | some ys =>
        rw [q, q2] at e
        cases e
        unfold PyData.hasDictAll at n
        rw [Bool.or_eq_false_iff] at n
        exact .cons (dp_of g d v y e2 q n.1) (dpL_of g ds r ys e3 q2 n.2)
end
section
variable {C : Ct} {Z : WX} {X : Cx} {a b c : Expr} {ma mb mc : Ro → Store → Out D} {pos : Pos}
def rB (f : Int → Int → Bool) : R2 := rI0 fun i j => .bl (f i j)
theorem rd_ints {f : Int → Int → Bool} {g : D → D → Store → Out D} (hg : ∀ x y S, g x y S = .stk ∨ ∃ i j, x = .int i ∧ y = .int j ∧ g x y S = .ok (.bl (f i j)) S) (W : Wd) (σ : L2.St) (H : Hp) (S : Store) (x y : D) (u v : V) (Q : VK) (r : RelH C W H S) (hu : Den C W x u) (hv : Den C W y v) (p : PQ C Z σ Q W H (g x y S)) :
    rI0 (fun i j => .bl (f i j)) u v H Q := by
  rcases hg x y S with e | ⟨i, j, rfl, rfl, e⟩
  · rw [e] at p
    exact p.elim
  · rw [e] at p
    rw [den_int hu, den_int hv]
    exact ⟨i, j, rfl, rfl, p.ok r of_bl⟩
/-- what a box holds is denoted where the box is ground -/
theorem deS_box {W : Wd} {H : Hp} {S : Store} {b : Nat} {xs : List D} {u : V} (r : RelH C W H S) (h : Den C W (.box b) u) (e : deS S (.box b) = .lst xs) : ∃ a ys, u = .ref a ∧ W.B[b]? = some a ∧ H a = some (.lst ys) ∧ DenL C W xs ys := by
  unfold Den at h
  obtain ⟨a, hb, rfl⟩ := h
  unfold deS at e
  dsimp only at e
  split at e
  · rename_i zs hs
    cases e
    obtain ⟨_, ys, h1, h2⟩ := r.bx b a _ hb hs
    exact ⟨a, ys, rfl, hb, h1, h2⟩
  · rename_i zs hs
    cases e
    obtain ⟨_, ys, h1, h2⟩ := r.bx b a _ hb hs
    exact ⟨a, ys, rfl, hb, h1, h2⟩
  · cases e
theorem deS_ok {W : Wd} {H : Hp} {S : Store} {x : D} {u : V} (r : RelH C W H S) (h : Den C W x u) : ∃ W' : Wd, (∀ a o, W'.G a = some o → H a = some o) ∧ Den C W' (deS S x) u := by
  by_cases hx : ∃ b xs, x = .box b ∧ deS S (.box b) = .lst xs
  · obtain ⟨b, xs, rfl, e⟩ := hx
    obtain ⟨a, ys, rfl, hb, h1, h2⟩ := deS_box r h e
    rw [e]
    have ex : Ext W (W.put a (.lst ys)) ∨ W.G a = some (.lst ys) := by
      cases q : W.G a with
      | none => exact .inl (Ext.put q)
      | some o =>
        right
        have := r.g a o q
        rw [h1] at this
        rw [← this]
    rcases ex with ex | ex
    · refine ⟨W.put a (.lst ys), fun c o hc => ?_, ?_⟩
      · have hc : upd W.G a (.lst ys) c = some o := hc
        by_cases z : c = a
        · subst z
          rw [upd_same] at hc
          cases hc
          exact h1
        · rw [upd_ne z] at hc
          exact r.g c o hc
      · unfold Den
        exact ⟨a, ys, rfl, upd_same, DenL.ext ex _ _ h2⟩
    · refine ⟨W, r.g, ?_⟩
      unfold Den
      exact ⟨a, ys, rfl, ex, h2⟩
  · have e : deS S x = x := by
      cases x <;> first | rfl | skip
      rename_i b
      unfold deS
      dsimp only
      split
      · rename_i zs hs
        exact absurd ⟨b, zs, rfl, by unfold deS; dsimp only; rw [hs]⟩ hx
      · rename_i zs hs
        exact absurd ⟨b, zs, rfl, by unfold deS; dsimp only; rw [hs]⟩ hx
      · rfl
    rw [e]
    exact ⟨W, r.g, h⟩
theorem rd_eqd (neg : Bool) {K : PySem.W.Frag} (hK : K = C.K) (W : Wd) (σ : L2.St) (H : Hp) (S : Store) (x y : D) (u v : V) (Q : VK) (r : RelH C W H S) (hu : Den C W x u) (hv : Den C W y v)
    (p : PQ C Z σ Q W H (match eqD (deS S x) (deS S y) with | some b => .ok (.bl (if neg then !b else b)) S | none => .stk)) :
    ∃ d e, Dp K H u d ∧ Dp K H v e ∧ SeqAt.shaped d = true ∧ SeqAt.shaped e = true ∧ Q (.bl (if neg then !PyData.eqv d e else PyData.eqv d e)) H := by
  cases q : eqD (deS S x) (deS S y) with
  | none =>
    rw [q] at p
    exact p.elim
  | some b =>
    rw [q] at p
    unfold eqD at q
    have g1 := deS_ok r hu
    have g2 := deS_ok r hv
    split at q
    · rename_i d e hd he
      split at q
      · rename_i hs
        rw [Bool.and_eq_true] at hs
        cases q
        rw [hK]
        obtain ⟨W1, g1, h1⟩ := g1
        obtain ⟨W2, g2, h2⟩ := g2
        exact ⟨d, e, dp_of g1 _ u d h1 hd (PyData.hasDict_of_canLay _ (SeqAt.canLay_of_shaped hs.1)), dp_of g2 _ v e h2 he (PyData.hasDict_of_canLay _ (SeqAt.canLay_of_shaped hs.2)), hs.1, hs.2, p.ok r of_bl⟩
      · cases q
    · cases q
theorem den_isNon {W : Wd} {x : D} {u : V} (h : Den C W x u) : decide (u = .non) = x.isNon := by
  cases x <;> unfold Den at h
  case non =>
    rw [h]
    rfl
  case bl b =>
    rw [h]
    rfl
  case int b =>
    rw [h]
    rfl
  case str b =>
    rw [h]
    rfl
  case cls b =>
    rw [h]
    rfl
  case ty b =>
    rw [h]
    rfl
  all_goals
    first
    | (obtain ⟨a, ys, rfl, _⟩ := h; rfl)
    | (obtain ⟨a, dx, vs, rfl, _⟩ := h; rfl)
    | (obtain ⟨a, _, rfl⟩ := h; rfl)
/-- what a comparison's rule asks -/
def rCmp (K : PySem.W.Frag) (op : CmpOp) : R2 := match op with
  | .Lt => rI0 fun i j => .bl (decide (i < j))
  | .LtE => rI0 fun i j => .bl (decide (i ≤ j))
  | .Gt => rI0 fun i j => .bl (decide (j < i))
  | .GtE => rI0 fun i j => .bl (decide (j ≤ i))
  | .Eq => rEqD K
  | .NotEq => rNeD K
  | .Is => fun x y H Q => y = .non ∧ Q (.bl (decide (x = .non))) H
  | .IsNot => fun x y H Q => y = .non ∧ Q (.bl (!decide (x = .non))) H
  | _ => fun _ _ _ _ => False
theorem op_cmp (op : CmpOp) (hu : X.A.units + 64 < cLine) : OpR X (compareOp op) (rCmp X.K op) := by
  cases op with
  | Lt => exact op_lt
  | LtE => exact op_le
  | Gt => exact op_gt
  | GtE => exact op_ge
  | Eq => exact op_eqD hu
  | NotEq => exact op_neD hu
  | Is => exact op_isN
  | IsNot => exact op_notN
  | _ => exact fun _ _ _ _ _ _ _ _ _ _ _ _ q => q.elim
theorem rd_cmp (op : CmpOp) {K : PySem.W.Frag} (hK : K = C.K) (W : Wd) (σ : L2.St) (H : Hp) (S : Store) (x y : D) (u v : V) (Q : VK) (r : RelH C W H S) (hu : Den C W x u) (hv : Den C W y v) (p : PQ C Z σ Q W H (opCmp op x y S)) : rCmp K op u v H Q := by
  cases op with
  | Lt =>
    refine rd_ints (f := fun i j => decide (i < j)) (g := opCmp .Lt) (fun x y S => ?_) W σ H S x y u v Q r hu hv p
    cases x <;> cases y <;> first | exact .inl rfl | exact .inr ⟨_, _, rfl, rfl, rfl⟩
  | LtE =>
    refine rd_ints (f := fun i j => decide (i ≤ j)) (g := opCmp .LtE) (fun x y S => ?_) W σ H S x y u v Q r hu hv p
    cases x <;> cases y <;> first | exact .inl rfl | exact .inr ⟨_, _, rfl, rfl, rfl⟩
  | Gt =>
    refine rd_ints (f := fun i j => decide (j < i)) (g := opCmp .Gt) (fun x y S => ?_) W σ H S x y u v Q r hu hv p
    cases x <;> cases y <;> first | exact .inl rfl | exact .inr ⟨_, _, rfl, rfl, rfl⟩
  | GtE =>
    refine rd_ints (f := fun i j => decide (j ≤ i)) (g := opCmp .GtE) (fun x y S => ?_) W σ H S x y u v Q r hu hv p
    cases x <;> cases y <;> first | exact .inl rfl | exact .inr ⟨_, _, rfl, rfl, rfl⟩
  | Eq => exact rd_eqd false hK W σ H S x y u v Q r hu hv p
  | NotEq => exact rd_eqd true hK W σ H S x y u v Q r hu hv p
  | Is =>
    unfold opCmp at p
    simp only at p
    split at p
    · refine ⟨den_non hv, ?_⟩
      rw [den_isNon hu]
      exact p.ok r of_bl
    · exact p.elim
  | IsNot =>
    unfold opCmp at p
    simp only at p
    split at p
    · refine ⟨den_non hv, ?_⟩
      rw [den_isNon hu]
      exact p.ok r of_bl
    · exact p.elim
  | _ => exact p.elim
def mCmp (op : CmpOp) (ma mb : Ro → Store → Out D) : Ro → Store → Out D := fun ρ S => (ma ρ S).bind fun x S1 => (mb ρ S1).bind fun y S2 => opCmp op x y S2
theorem noIn (op : CmpOp) (x y : D) (S : Store) (b : Expr) (h : opCmp op x y S ≠ .stk) : behindInMarks op b = false := by
  cases op <;> first | exact nomark b | exact absurd rfl h
theorem de_cmp (op : CmpOp) (hK : X.K = C.K) (hu : X.A.units + 64 < cLine) (hm : behindInMarks op b = false) (ha : PE X a (tE C Z ma)) (hb : PE X b (tE C Z mb)) : PE X (.Compare a [op] [b] pos) (tE C Z (mCmp op ma mb)) :=
  PE.imp (pe_cmpR (op_cmp op hu) ha hb hm) fun σ H Q h => bin_rd (rd_cmp op hK) h
/-! ### truth -/
theorem tru_st {x : D} {S S' : Store} {t : Bool} (h : truD x S = .ok t S') : S' = S := by
  cases x <;> cases h <;> rfl
theorem tru_of {W : Wd} {H : Hp} {S S' : Store} {x : D} {u : V} {t : Bool} (r : RelH C W H S) (hu : Den C W x u) (h : truD x S = .ok t S') : TruV C.K u H t := by
  cases x with
  | non =>
    rw [den_non hu]
    cases h
    rfl
  | bl b =>
    rw [den_bl hu]
    cases h
    rfl
  | int i =>
    rw [den_int hu]
    cases h
    rfl
  | lst xs =>
    obtain ⟨a, ys, rfl, _, e, dl⟩ := den_lst hu r
    cases h
    refine .inl ⟨ys, SqL.of e, ?_⟩
    have hl := dl.length
    cases xs <;> cases ys <;> first | rfl | cases hl
  | tup xs =>
    obtain ⟨a, ys, rfl, _, e, dl⟩ := den_tup hu r
    cases h
    refine .inr (.inl ⟨ys, SqT.of e, ?_⟩)
    have hl := dl.length
    cases xs <;> cases ys <;> first | rfl | cases hl
  | _ => cases h
theorem tru_cases (x : D) (S : Store) : truD x S = .stk ∨ ∃ t, truD x S = .ok t S := by
  cases x <;> first | exact .inl rfl | exact .inr ⟨_, rfl⟩
/-- a value's truth as a test -/
theorem tru_rd {σ : L2.St} {H : Hp} {Q : Bool → Hp → Prop} (h : tT C Z (fun ρ S => (ma ρ S).bind truD) σ H Q) : tE C Z ma σ H fun x H' => ∃ k, TruV C.K x H' k ∧ Q k H' := by
  obtain ⟨W, H0, U, ρ, S, rh, rs, p⟩ := h
  refine ⟨W, H0, U, ρ, S, rh, rs, (Post.bind p).mono ?_⟩
  rintro W1 H1 x ⟨st, S1, rh1, _, p1⟩ u hu
  rcases tru_cases x S1 with e | ⟨t, e⟩
  · rw [e] at p1
    exact p1.elim
  · rw [e] at p1
    exact ⟨t, tru_of rh1 hu e, p1 W1 H1 (Step.refl _ _ _) rh1⟩
theorem dt_plain (hK : X.K = C.K) (ha : PE X a (tE C Z ma)) (he : ∀ whole, isTrue a X.env whole = (do let v ← whole; standAt a.pos; holding [v] (truthy v))) : PT X a (tT C Z fun ρ S => (ma ρ S).bind truD) :=
  PT.imp (pt_truth ha he) fun σ H Q h => by
    rw [hK]
    exact tru_rd h
theorem de_not (hK : X.K = C.K) (ha : PE X a (tE C Z ma)) : PE X (.UnaryOp .Not a pos) (tE C Z fun ρ S => ((ma ρ S).bind truD).bind fun b S1 => .ok (.bl (!b)) S1) :=
  PE.imp (pe_notT ha) fun σ H Q h => by
    obtain ⟨W, H0, U, ρ, S, rh, rs, p⟩ := h
    dsimp only at p
    rw [Out.bind_assoc] at p
    refine ⟨W, H0, U, ρ, S, rh, rs, (Post.bind p).mono ?_⟩
    rintro W1 H1 x ⟨st, S1, rh1, _, p1⟩ u hu
    rcases tru_cases x S1 with e | ⟨t, e⟩
    · rw [e] at p1
      exact p1.elim
    · rw [e] at p1
      rw [hK]
      exact ⟨t, tru_of rh1 hu e, PQ.ok p1 rh1 of_bl⟩
theorem dt_not (ha : PT X a (tT C Z fun ρ S => (ma ρ S).bind truD)) : PT X (.UnaryOp .Not a pos) (tT C Z fun ρ S => (((ma ρ S).bind truD).bind fun b S1 => .ok (.bl (!b)) S1).bind truD) :=
  PT.imp (pt_not ha) fun σ H Q h => by
    obtain ⟨W, H0, U, ρ, S, rh, rs, p⟩ := h
    dsimp only at p
    rw [Out.bind_assoc] at p
    refine ⟨W, H0, U, ρ, S, rh, rs, (Post.bind p).mono ?_⟩
    rintro W1 H1 x ⟨st, S1, rh1, _, p1⟩
    exact p1 W1 H1 (Step.refl _ _ _) rh1
theorem dt_cmp (op : CmpOp) (hK : X.K = C.K) (hu : X.A.units + 64 < cLine) (hm : behindInMarks op b = false) (ha : PE X a (tE C Z ma)) (hb : PE X b (tE C Z mb)) : PT X (.Compare a [op] [b] pos) (tT C Z fun ρ S => (mCmp op ma mb ρ S).bind truD) :=
  PT.imp (pt_cmpR (op_cmp op hu) ha hb hm) fun σ H Q h => by
    refine bin_rd (f := opCmp op) (rd_cmp op hK) ?_
    obtain ⟨W, H0, U, ρ, S, rh, rs, p⟩ := h
    refine ⟨W, H0, U, ρ, S, rh, rs, ?_⟩
    have key : ∀ (o : Out D) W H, (∀ d S', o = .ok d S' → ∃ b, d = .bl b) → Post C Z (fun _ H' b => Q b H') W σ H (o.bind truD) → PQ C Z σ (fun x H' => ∃ k, x = .bl k ∧ Q k H') W H o := fun o W H hb q => by
      cases o with
      | ok d S' =>
        obtain ⟨b, rfl⟩ := hb d S' rfl
        intro W' H' st r v hv
        exact ⟨b, den_bl hv, q W' H' st r⟩
      | er e S' => exact q
      | stk => exact q
    refine key _ W H (fun d S' e => ?_) p
    dsimp only at e
    cases e1 : ma ρ S with
    | er e2 S2 =>
      rw [e1] at e
      cases e
    | stk =>
      rw [e1] at e
      cases e
    | ok x S1 =>
      rw [e1] at e
      simp only [Out.bind] at e
      cases e2 : mb ρ S1 with
      | er e3 S3 =>
        rw [e2] at e
        cases e
      | stk =>
        rw [e2] at e
        cases e
      | ok y S2 =>
        rw [e2] at e
        simp only at e
        clear key p
        cases op <;> unfold opCmp at e <;> simp only at e <;> (try split at e) <;> first | (cases e; exact ⟨_, rfl⟩) | cases e
end
end DL
end
-- DLExp3
section
set_option maxHeartbeats 4000000
namespace DL
open PySem PySem.Spec L2
section
variable {C : Ct} {Z : WX} {X : Cx} {a b c : Expr} {rest es : List Expr} {ma mb mc : Ro → Store → Out D} {ms : Ro → Store → Out (List D)} {pos : Pos}
def mAnd (ma mb : Ro → Store → Out D) : Ro → Store → Out D := fun ρ S => (ma ρ S).bind fun x S1 => (truD x S1).bind fun t S2 => if t then mb ρ S2 else .ok x S2
def mOr (ma mb : Ro → Store → Out D) : Ro → Store → Out D := fun ρ S => (ma ρ S).bind fun x S1 => (truD x S1).bind fun t S2 => if t then .ok x S2 else mb ρ S2
theorem de_and (hK : X.K = C.K) (ha : PE X a (tE C Z ma)) (hb : PE X (.BoolOp .And (b :: rest) pos) (tE C Z mb)) : PE X (.BoolOp .And (a :: b :: rest) pos) (tE C Z (mAnd ma mb)) :=
  PE.imp (pe_andT ha hb) fun σ H Q h => by
    obtain ⟨W, H0, U, ρ, S, rh, rs, p⟩ := h
    refine ⟨W, H0, U, ρ, S, rh, rs, (Post.bind p).mono ?_⟩
    rintro W1 H1 x ⟨st, S1, rh1, _, p1⟩ u hu
    rcases tru_cases x S1 with e | ⟨t, e⟩
    · rw [e] at p1
      exact p1.elim
    · rw [e] at p1
      rw [hK]
      refine ⟨t, tru_of rh1 hu e, ?_⟩
      cases t with
      | true => exact ⟨W1, H0, U, ρ, S1, rh1, rs.step st, p1⟩
      | false => exact PQ.ok p1 rh1 hu
theorem de_or (hK : X.K = C.K) (ha : PE X a (tE C Z ma)) (hb : PE X (.BoolOp .Or (b :: rest) pos) (tE C Z mb)) : PE X (.BoolOp .Or (a :: b :: rest) pos) (tE C Z (mOr ma mb)) :=
  PE.imp (pe_orT ha hb) fun σ H Q h => by
    obtain ⟨W, H0, U, ρ, S, rh, rs, p⟩ := h
    refine ⟨W, H0, U, ρ, S, rh, rs, (Post.bind p).mono ?_⟩
    rintro W1 H1 x ⟨st, S1, rh1, _, p1⟩ u hu
    rcases tru_cases x S1 with e | ⟨t, e⟩
    · rw [e] at p1
      exact p1.elim
    · rw [e] at p1
      rw [hK]
      refine ⟨t, tru_of rh1 hu e, ?_⟩
      cases t with
      | false => exact ⟨W1, H0, U, ρ, S1, rh1, rs.step st, p1⟩
      | true => exact PQ.ok p1 rh1 hu
theorem tru_post {σ : L2.St} {W : Wd} {H : Hp} {o : Out D} {k : D → Bool → Store → Out Bool} {R R' : Wd → Hp → Bool → Prop} (p : Post C Z R W σ H (o.bind fun x S1 => (truD x S1).bind fun t S2 => k x t S2))
    (h : ∀ x t S1, o = .ok x S1 → truD x S1 = .ok t S1 → Post C Z R W σ H (k x t S1) → Post C Z R' W σ H (.ok t S1)) : Post C Z R' W σ H (o.bind truD) := by
  cases o with
  | ok x S1 =>
    have p : Post C Z R W σ H ((truD x S1).bind fun t S2 => k x t S2) := p
    show Post C Z R' W σ H (truD x S1)
    rcases tru_cases x S1 with e | ⟨t, e⟩
    · rw [e] at p
      exact p.elim
    · rw [e] at p ⊢
      exact h x t S1 rfl e p
  | er e S => exact p
  | stk => exact p
theorem dw_and (ha : PT X a (tT C Z fun ρ S => (ma ρ S).bind truD)) (hb : PW X (.BoolOp .And (b :: rest) pos) (tT C Z fun ρ S => (mb ρ S).bind truD)) :
    PW X (.BoolOp .And (a :: b :: rest) pos) (tT C Z fun ρ S => (mAnd ma mb ρ S).bind truD) :=
  PW.imp (pw_and ha hb) fun σ H Q h => by
    obtain ⟨W, H0, U, ρ, S, rh, rs, p⟩ := h
    dsimp only [mAnd] at p
    rw [Out.bind_assoc] at p
    simp only [Out.bind_assoc] at p
    refine ⟨W, H0, U, ρ, S, rh, rs, tru_post p fun x t S1 _ e q => ?_⟩
    cases t with
    | true => exact fun W' H' st r => ⟨W', H0, U, ρ, S1, r, rs.step st, Post.step q st⟩
    | false =>
      have q : Post C Z (fun _ H' b => Q b H') W σ H (truD x S1) := q
      rw [e] at q
      exact q
theorem dw_or (ha : PT X a (tT C Z fun ρ S => (ma ρ S).bind truD)) (hb : PW X (.BoolOp .Or (b :: rest) pos) (tT C Z fun ρ S => (mb ρ S).bind truD)) :
    PW X (.BoolOp .Or (a :: b :: rest) pos) (tT C Z fun ρ S => (mOr ma mb ρ S).bind truD) :=
  PW.imp (pw_or ha hb) fun σ H Q h => by
    obtain ⟨W, H0, U, ρ, S, rh, rs, p⟩ := h
    dsimp only [mOr] at p
    rw [Out.bind_assoc] at p
    simp only [Out.bind_assoc] at p
    refine ⟨W, H0, U, ρ, S, rh, rs, tru_post p fun x t S1 _ e q => ?_⟩
    cases t with
    | false => exact fun W' H' st r => ⟨W', H0, U, ρ, S1, r, rs.step st, Post.step q st⟩
    | true =>
      have q : Post C Z (fun _ H' b => Q b H') W σ H (truD x S1) := q
      rw [e] at q
      exact q
theorem de_ite (hc : PT X c (tT C Z fun ρ S => (mc ρ S).bind truD)) (ha : PE X a (tE C Z ma)) (hb : PE X b (tE C Z mb)) :
    PE X (.IfExp c a b pos) (tE C Z fun ρ S => ((mc ρ S).bind truD).bind fun t S1 => if t then ma ρ S1 else mb ρ S1) :=
  PE.imp (pe_ifExp hc ha hb) fun σ H Q h => by
    obtain ⟨W, H0, U, ρ, S, rh, rs, p⟩ := h
    refine ⟨W, H0, U, ρ, S, rh, rs, (Post.bind p).mono ?_⟩
    rintro W1 H1 t ⟨st, S1, rh1, _, p1⟩
    cases t with
    | true => exact ⟨W1, H0, U, ρ, S1, rh1, rs.step st, p1⟩
    | false => exact ⟨W1, H0, U, ρ, S1, rh1, rs.step st, p1⟩
theorem dt_ite (hc : PT X c (tT C Z fun ρ S => (mc ρ S).bind truD)) (ha : PT X a (tT C Z fun ρ S => (ma ρ S).bind truD)) (hb : PT X b (tT C Z fun ρ S => (mb ρ S).bind truD)) :
    PT X (.IfExp c a b pos) (tT C Z fun ρ S => (((mc ρ S).bind truD).bind fun t S1 => if t then ma ρ S1 else mb ρ S1).bind truD) := by
  refine ⟨fun pins s σ H Q I h => ?_⟩
  obtain ⟨W, H0, U, ρ, S, rh, rs, p⟩ := h
  dsimp only at p
  rw [Out.bind_assoc] at p
  refine PyProof.Rows.isTrue_IfExp (thn (hc.run pins s σ H (fun t H1 => if t then tT C Z (fun ρ S => (ma ρ S).bind truD) σ H1 Q else tT C Z (fun ρ S => (mb ρ S).bind truD) σ H1 Q) I ⟨W, H0, U, ρ, S, rh, rs, (Post.bind p).mono ?_⟩) fun t s1 hh => ?_)
  · rintro W1 H1 t ⟨st, S1, rh1, _, p1⟩
    cases t with
    | true => exact ⟨W1, H0, U, ρ, S1, rh1, rs.step st, p1⟩
    | false => exact ⟨W1, H0, U, ρ, S1, rh1, rs.step st, p1⟩
  · obtain ⟨H1, I1, q⟩ := hh
    cases t with
    | true => exact ha.run pins s1 σ H1 Q I1 q
    | false => exact hb.run pins s1 σ H1 Q I1 q
theorem de_neg (ha : PE X a (tE C Z ma)) : PE X (.UnaryOp .USub a pos) (tE C Z fun ρ S => (ma ρ S).bind fun x S1 => opNeg x S1) :=
  PE.imp (pe_un un_neg ha) fun σ H Q h => un_rd (fun W σ H S x u Q r hu p => by
    cases x with
    | int i =>
      rw [den_int hu]
      exact ⟨i, rfl, PQ.ok p r of_int⟩
    | _ => exact p.elim) h
def mChain (op op' : CmpOp) (ma mb mc : Ro → Store → Out D) : Ro → Store → Out D := fun ρ S => (ma ρ S).bind fun x S1 => (mb ρ S1).bind fun y S2 => (opCmp op x y S2).bind fun r S3 => match r with
  | .bl true => (mc ρ S3).bind fun z S4 => opCmp op' y z S4
  | .bl false => .ok (.bl false) S3
  | _ => .stk
/-- a comparison gives True or False, at the same store -/
theorem cmp_cases (op : CmpOp) (x y : D) (S : Store) : opCmp op x y S = .stk ∨ ∃ k, opCmp op x y S = .ok (.bl k) S := by
  cases op with
  | Eq =>
    show (match eqD (deS S x) (deS S y) with | some b => Out.ok (D.bl b) S | none => .stk) = .stk ∨ ∃ k, (match eqD (deS S x) (deS S y) with | some b => Out.ok (D.bl b) S | none => .stk) = .ok (.bl k) S
    cases eqD (deS S x) (deS S y) <;> simp
  | NotEq =>
    show (match eqD (deS S x) (deS S y) with | some b => Out.ok (D.bl (!b)) S | none => .stk) = .stk ∨ ∃ k, (match eqD (deS S x) (deS S y) with | some b => Out.ok (D.bl (!b)) S | none => .stk) = .ok (.bl k) S
    cases eqD (deS S x) (deS S y) <;> simp
  | Lt => cases x <;> cases y <;> first | exact .inl rfl | exact .inr ⟨_, rfl⟩
  | LtE => cases x <;> cases y <;> first | exact .inl rfl | exact .inr ⟨_, rfl⟩
  | Gt => cases x <;> cases y <;> first | exact .inl rfl | exact .inr ⟨_, rfl⟩
  | GtE => cases x <;> cases y <;> first | exact .inl rfl | exact .inr ⟨_, rfl⟩
  | Is => cases y <;> first | exact .inl rfl | exact .inr ⟨_, rfl⟩
  | IsNot => cases y <;> first | exact .inl rfl | exact .inr ⟨_, rfl⟩
  | _ => exact .inl rfl
theorem chain_rd (op op' : CmpOp) {K : PySem.W.Frag} (hK : K = C.K) {σ : L2.St} {H : Hp} {Q : VK} (h : tE C Z (mChain op op' ma mb mc) σ H Q) : tChain (rCmp K op) (rCmp K op') (tE C Z ma) (tE C Z mb) (tE C Z mc) σ H Q := by
  obtain ⟨W, H0, U, ρ, S, rh, rs, p⟩ := h
  refine ⟨W, H0, U, ρ, S, rh, rs, (Post.bind p).mono ?_⟩
  rintro W1 H1 x ⟨st, S1, rh1, _, p1⟩ u hu
  refine ⟨W1, H0, U, ρ, S1, rh1, rs.step st, (Post.bind p1).mono ?_⟩
  rintro W2 H2 y ⟨st2, S2, rh2, _, p2⟩ v hv
  refine rd_cmp op (Z := Z) hK W2 σ H2 S2 x y u v _ rh2 (Den.ext st2.x _ _ hu) hv ?_
  rcases cmp_cases op x y S2 with e | ⟨k, e⟩
  · rw [e] at p2
    exact p2.elim
  · rw [e] at p2 ⊢
    intro W3 H3 st3 rh3 z hz
    refine ⟨k, den_bl hz, ?_⟩
    have p3 := Post.step p2 st3
    cases k with
    | true =>
      have p3 : PQ C Z σ Q W3 H3 ((mc ρ S2).bind fun z S4 => opCmp op' y z S4) := p3
      refine ⟨W3, H0, U, ρ, S2, rh3, (rs.step (st.trans st2)).step st3, (Post.bind p3).mono ?_⟩
      rintro W4 H4 z2 ⟨st4, S4, rh4, _, p4⟩ w hw
      exact rd_cmp op' (Z := Z) hK W4 σ H4 S4 y z2 v w Q rh4 (Den.ext (st3.x.trans st4.x) _ _ hv) hw p4
    | false => exact PQ.ok p3 rh3 of_bl
theorem marks2 {op op' : CmpOp} (h1 : behindInMarks op b = false) (h2 : behindInMarks op' c = false) : lastMarks [op, op'] [b, c] = false := by
  simp only [lastMarks]
  first | exact h2 | simp [h1, h2]
theorem de_chain (op op' : CmpOp) (hK : X.K = C.K) (hu : X.A.units + 64 < cLine) (hm : behindInMarks op b = false) (hm' : behindInMarks op' c = false) (ha : PE X a (tE C Z ma)) (hb : PE X b (tE C Z mb)) (hc : PE X c (tE C Z mc)) :
    PE X (.Compare a [op, op'] [b, c] pos) (tE C Z (mChain op op' ma mb mc)) :=
  PE.imp (pe_chain (op_cmp op hu) (op_cmp op' hu) ha hb hc (marks2 hm hm')) fun σ H Q h => chain_rd op op' hK h
/-- a value that is True or False, as a test -/
theorem bool_test {m : Ro → Store → Out D} (hb : ∀ ρ S d S', m ρ S = .ok d S' → ∃ b, d = .bl b) {σ : L2.St} {H : Hp} {Q : Bool → Hp → Prop} (h : tT C Z (fun ρ S => (m ρ S).bind truD) σ H Q) : tE C Z m σ H fun x H' => ∃ k, x = .bl k ∧ Q k H' := by
  obtain ⟨W, H0, U, ρ, S, rh, rs, p⟩ := h
  refine ⟨W, H0, U, ρ, S, rh, rs, ?_⟩
  dsimp only at p
  cases e : m ρ S with
  | er e2 S2 =>
    rw [e] at p
    exact p
  | stk =>
    rw [e] at p
    exact p
  | ok d S1 =>
    rw [e] at p
    obtain ⟨b, rfl⟩ := hb ρ S d S1 e
    exact fun W' H' st r v hv => ⟨b, den_bl hv, p W' H' st r⟩
theorem chain_bl (op op' : CmpOp) (ρ : Ro) (S : Store) (d : D) (S' : Store) (e : mChain op op' ma mb mc ρ S = .ok d S') : ∃ b, d = .bl b := by
  unfold mChain at e
  cases e1 : ma ρ S with
  | er _ _ =>
    rw [e1] at e
    cases e
  | stk =>
    rw [e1] at e
    cases e
  | ok x S1 =>
    rw [e1] at e
    simp only [Out.bind] at e
    cases e2 : mb ρ S1 with
    | er _ _ =>
      rw [e2] at e
      cases e
    | stk =>
      rw [e2] at e
      cases e
    | ok y S2 =>
      rw [e2] at e
      simp only at e
      rcases cmp_cases op x y S2 with q | ⟨k, q⟩
      · rw [q] at e
        cases e
      · rw [q] at e
        cases k with
        | false =>
          cases e
          exact ⟨_, rfl⟩
        | true =>
          simp only at e
          cases e3 : mc ρ S2 with
          | er _ _ =>
            rw [e3] at e
            cases e
          | stk =>
            rw [e3] at e
            cases e
          | ok z S3 =>
            rw [e3] at e
            simp only at e
            rcases cmp_cases op' y z S3 with q | ⟨k, q⟩
            · rw [q] at e
              cases e
            · rw [q] at e
              cases e
              exact ⟨_, rfl⟩
theorem dt_chain (op op' : CmpOp) (hK : X.K = C.K) (hu : X.A.units + 64 < cLine) (hm : behindInMarks op b = false) (hm' : behindInMarks op' c = false) (ha : PE X a (tE C Z ma)) (hb : PE X b (tE C Z mb)) (hc : PE X c (tE C Z mc)) :
    PT X (.Compare a [op, op'] [b, c] pos) (tT C Z fun ρ S => (mChain op op' ma mb mc ρ S).bind truD) :=
  PT.imp (pt_chain (op_cmp op hu) (op_cmp op' hu) ha hb hc (marks2 hm hm')) fun σ H Q h => chain_rd op op' hK (bool_test (chain_bl op op') h)
/-! ### displays -/
theorem da_nil : PA X [] (tAs C Z fun _ S => .ok [] S) := PA.imp pa_nil fun σ H Q h => by
  obtain ⟨W, H0, U, ρ, S, rh, rs, p⟩ := h
  exact p W H (Step.refl _ _ _) rh [] DenL.nil
theorem star_of {e : Expr} {es : List Expr} {env : Env} (h : ∀ x p, e ≠ .Starred x p) : starEach (e :: es) env = (false, eval e env) :: starEach es env := by
  cases e <;> first | rfl | exact absurd rfl (h _ _)
theorem da_cons (hs : ∀ x p, a ≠ .Starred x p) (ha : PE X a (tE C Z ma)) (hr : PA X es (tAs C Z ms)) : PA X (a :: es) (tAs C Z fun ρ S => (ma ρ S).bind fun d S1 => (ms ρ S1).bind fun ds S2 => .ok (d :: ds) S2) :=
  PA.imp (pa_cons ha hr (star_of hs)) fun σ H Q h => by
    obtain ⟨W, H0, U, ρ, S, rh, rs, p⟩ := h
    refine ⟨W, H0, U, ρ, S, rh, rs, (Post.bind p).mono ?_⟩
    rintro W1 H1 x ⟨st, S1, rh1, _, p1⟩ u hu
    refine ⟨W1, H0, U, ρ, S1, rh1, rs.step st, (Post.bind p1).mono ?_⟩
    rintro W2 H2 y ⟨st2, S2, rh2, _, p2⟩ v hv
    exact p2 W2 H2 (Step.refl _ _ _) rh2 _ (DenL.cons (Den.ext st2.x _ _ hu) hv)
theorem de_tup {k : Nat} (h : PA X es (tAs C Z ms)) : PE X (.Tuple es k pos) (tE C Z fun ρ S => (ms ρ S).bind fun ds S1 => if ds.length ≤ most then .ok (.tup ds) S1 else .stk) :=
  PE.imp (pe_tup h) fun σ H Q h => by
    obtain ⟨W, H0, U, ρ, S, rh, rs, p⟩ := h
    refine ⟨W, H0, U, ρ, S, rh, rs, (Post.bind p).mono ?_⟩
    rintro W1 H1 ds ⟨st, S1, rh1, _, p1⟩ us hu
    split at p1
    · rename_i hl
      rw [hu.length] at hl
      exact ⟨most_line hl, fun q nq => PQ.new p1 rh1 nq (tup_new (rh1.fresh nq).1 hu)⟩
    · exact p1.elim
theorem de_lst (h : PA X es (tAs C Z ms)) : PE X (.List es pos) (tE C Z fun ρ S => (ms ρ S).bind fun ds S1 => if ds.length ≤ most then .ok (.lst ds) S1 else .stk) :=
  PE.imp (pe_lst h) fun σ H Q h => by
    obtain ⟨W, H0, U, ρ, S, rh, rs, p⟩ := h
    refine ⟨W, H0, U, ρ, S, rh, rs, (Post.bind p).mono ?_⟩
    rintro W1 H1 ds ⟨st, S1, rh1, _, p1⟩ us hu
    split at p1
    · rename_i hl
      rw [hu.length] at hl
      exact ⟨most_line hl, fun q nq => PQ.new p1 rh1 nq (lst_new (rh1.fresh nq).1 hu)⟩
    · exact p1.elim
theorem de_emp : PE X (.Dict [] [] pos) (tE C Z fun _ S => .ok (.dct [] []) S) := PE.imp pe_dnewK fun σ H Q h => by
  obtain ⟨W, H0, U, ρ, S, rh, rs, p⟩ := h
  intro q nq
  refine PQ.new p rh nq ?_
  unfold Den
  exact ⟨q, [], rfl, upd_same, rfl, DenL.nil⟩
/-- a new box -/
def Wd.bx (W : Wd) (a : Addr) : Wd := ⟨W.G, W.B ++ [a]⟩
theorem Ext.bxs {W : Wd} {a : Addr} : Ext W (W.bx a) := ⟨fun _ _ h => h, [a], rfl⟩
theorem RelH.box {W : Wd} {H : Hp} {S : Store} (r : RelH C W H S) {a : Addr} {o : HO} {b : Bx} (h : H a = none) (hb : BxOk C W (upd H a o) a b) (ho : ∀ ps, o ≠ .tbl ps := by intro ps z; exact nomatch z) : RelH C (W.bx a) (upd H a o) (S ++ [b]) := by
  have ⟨hg, hn⟩ := r.fresh h
  have r2 := r.loose (o := o) h ho
  refine ⟨r2.g, ?_, ?_, fun i c x e1 e2 => ?_, r2.tab, r2.nt, r2.ta⟩
  · show (W.B ++ [a]).length = (S ++ [b]).length
    rw [List.length_append, List.length_append, r.len]
    rfl
  · show (W.B ++ [a]).Nodup
    rw [List.nodup_append]
    refine ⟨r.nd, by simp, fun x hx y hy z => hn ?_⟩
    rw [List.mem_singleton] at hy
    rw [← hy, ← z]
    exact hx
  · have e1 : (W.B ++ [a])[i]? = some c := e1
    by_cases hi : i < W.B.length
    · rw [List.getElem?_append_left hi] at e1
      rw [List.getElem?_append_left (by rw [← r.len]; exact hi)] at e2
      obtain ⟨f1, f2⟩ := r2.bx i c x e1 e2
      exact ⟨f1, f2.move Ext.bxs rfl⟩
    · rw [List.getElem?_append_right (by omega)] at e1
      rw [List.getElem?_append_right (by rw [← r.len]; omega)] at e2
      rw [← r.len] at e2
      have hz : i - W.B.length = 0 := by
        have := (List.getElem?_eq_some_iff.mp e1).1
        simp at this
        omega
      rw [hz] at e1 e2
      simp at e1 e2
      subst e1
      subst e2
      exact ⟨fun _ => hg, hb.move Ext.bxs rfl⟩
theorem Step.box {W : Wd} {H : Hp} {a : Addr} {o : HO} (h : H a = none) : Step [] W H (W.bx a) (upd H a o) := by
  have s := Step.loose (W := W) (o := o) h
  refine ⟨Ext.bxs, s.dom, s.fr, s.gn, fun b hb => ?_⟩
  have hb : b ∈ W.B ++ [a] := hb
  rw [List.mem_append, List.mem_singleton] at hb
  rcases hb with hb | hb
  · exact .inl hb
  · rw [hb]
    exact .inr h
theorem de_box (h : PA X es (tAs C Z ms)) : PE X (.List es pos) (tE C Z fun ρ S => (ms ρ S).bind fun ds S1 => if ds.length ≤ most then .ok (.box S1.length) (S1 ++ [.lst ds]) else .stk) :=
  PE.imp (pe_lst h) fun σ H Q h => by
    obtain ⟨W, H0, U, ρ, S, rh, rs, p⟩ := h
    refine ⟨W, H0, U, ρ, S, rh, rs, (Post.bind p).mono ?_⟩
    rintro W1 H1 ds ⟨st, S1, rh1, _, p1⟩ us hu
    split at p1
    · rename_i hl
      rw [hu.length] at hl
      refine ⟨most_line hl, fun q nq => p1 (W1.bx q) _ (Step.box nq) (rh1.box nq ⟨us, upd_same, hu⟩) _ ?_⟩
      unfold Den
      refine ⟨q, ?_, rfl⟩
      show (W1.B ++ [q])[S1.length]? = some q
      rw [← rh1.len]
      simp
    · exact p1.elim
end
end DL
end
-- DLFn
section
set_option maxHeartbeats 4000000
namespace DL
open PySem PySem.Spec L2
/-! ### promises -/
def spD (C : Ct) (F : List D → Store → Out D) : Sp := fun vs H Q E => ∃ W ds S, RelH C W H S ∧ DenL C W ds vs ∧ PQ C (fun cls dd _ H' => E cls dd H') [] Q W H (F ds S)
/-- a def that sets the fields of the new instance at its first argument -/
def spI (C : Ct) (F : Nat → List Str → List D → List D → Store → Out (List Str × List D)) : Sp := fun vs H Q E => ∃ W c ns fs ds S a dx ys us, RelH C W H S ∧ vs = .ref a :: us ∧ DenL C W ds us ∧
  H a = some (.ins (C.ca c) dx (ns.zip ys)) ∧ ys.length = ns.length ∧ DenL C W fs ys ∧ W.G a = none ∧ a ∉ W.B ∧
  match F c ns fs ds S with
  | .ok q S' => ∀ W' H' dx' zs, Step [a] W H W' H' → RelH C W' H' S' → H' a = some (.ins (C.ca c) dx' (q.1.zip zs)) → zs.length = q.1.length → DenL C W' q.2 zs → W'.G a = none → a ∉ W'.B → Q .non H'
  | .er e S' => ∀ cls dd W' H', Step [a] W H W' H' → RelH C W' H' S' → DenX C W' e cls dd → E cls dd H'
  | .stk => False
structure FnG (P : Program) (w : World) (K : PySem.W.Frag) (mg : Str → Option Value) (base : Heap) (k : Nat) (f : Addr) (fd : FuncData) (ps : List Str) (sp : Sp) : Prop where
  run : ∀ (A : Around) (outer : List Env) (s : Shared) (H : Hp) (args : Args) (us : List Value) (vs : List V) (Q : VK) (E : XK), Room k A → A.guards = some [] → Env0 P w K mg base A outer s H → BindsTo s fd args (ps.zip us) → Vals vs us → vs.length = ps.length → sp vs H Q E →
    codeAny (model P w) A (.call (.ref f) args) (CR (L2.CX P w) outer P w H s Q E) s
theorem FnG.mono {P : Program} {w : World} {K : PySem.W.Frag} {mg : Str → Option Value} {base : Heap} {j k : Nat} {f : Addr} {fd : FuncData} {ps : List Str} {sp : Sp} (F : FnG P w K mg base j f fd ps sp) (h : j ≤ k) : FnG P w K mg base k f fd ps sp :=
  ⟨fun A outer s H args us vs Q E hr => F.run A outer s H args us vs Q E (hr.mono h)⟩
section
variable {X : Cx} {Z : WX} {k : Nat} {f : Addr} {fd : FuncData} {ps : List Str} {sp : Sp} {pins : List (Addr × Obj)} {σ : L2.St} {H : Hp} {s : Shared} {Q : VK}
theorem run_g {args : Args} {us : List Value} {vs : List V} (F : FnG X.prog X.w X.K X.mg X.base k f fd ps sp) (hr : Room k X.A) (hg : X.A.guards = some []) (tk : Takes X Z) (I : Inv X pins σ H s)
    (hb : BindsTo s fd args (ps.zip us)) (r : Vals vs us) (hl : vs.length = ps.length) (h : sp vs H Q (WE Z σ)) : wpAny (model X.prog X.w) X.A (call (.ref f) args.pos args.kw) (EP X pins σ Q) X.xe s := by
  refine wpAny_call (codeAny_mono (F.run X.A X.stack s H args us vs Q (WE Z σ) hr hg I.env0 hb r hl h) fun rr s' hq => ?_)
  cases rr with
  | error e => exact passAt tk σ pins H s e s' I hq
  | ok fl =>
    cases fl with
    | ret u => exact I.after hq
    | next => exact False.elim hq
    | brk => exact False.elim hq
    | cont => exact False.elim hq
end
/-! ### binding -/
theorem denL_paired {C : Ct} {W : Wd} : ∀ {ds : List D} {vs : List V}, DenL C W ds vs → Paired (Den C W) ds vs
  | [], vs, h => by
    unfold DenL at h
    rw [h]
    exact .nil
  | d :: ds, vs, h => by
    unfold DenL at h
    obtain ⟨v, r, rfl, e2, e3⟩ := h
    exact .cons e2 (denL_paired e3)
theorem paired_denL {C : Ct} {W : Wd} : ∀ {ds : List D} {vs : List V}, Paired (Den C W) ds vs → DenL C W ds vs
  | [], _, .nil => DenL.nil
  | _ :: _, _, .cons a b => DenL.cons a (paired_denL b)
def DflR {α β : Type} (R : α → β → Prop) (a : List (Str × α)) (b : List (Str × β)) : Prop := Paired (fun p q => p.1 = q.1 ∧ R p.2 q.2) a b
theorem lookup_rel {α β : Type} {R : α → β → Prop} (x : Str) : ∀ {a : List (Str × α)} {b : List (Str × β)}, DflR R a b → (a.lookup x = none ∧ b.lookup x = none) ∨ ∃ u v, a.lookup x = some u ∧ b.lookup x = some v ∧ R u v
  | [], _, .nil => .inl ⟨rfl, rfl⟩
  | (n, u) :: r, (m, v) :: r', .cons h t => by
    obtain ⟨e, h⟩ := h
    have e : n = m := e
    subst e
    simp only [List.lookup]
    cases hx : (x == n) with
    | true => exact .inr ⟨u, v, rfl, rfl, h⟩
    | false => exact lookup_rel x t
theorem zip_rel {α β : Type} {R : α → β → Prop} : ∀ (ks : List Str) {a : List α} {b : List β}, Paired R a b → DflR R (ks.zip a) (ks.zip b)
  | [], _, _, _ => .nil
  | _ :: _, _, _, .nil => .nil
  | k :: ks, _, _, .cons h t => .cons ⟨rfl, h⟩ (zip_rel ks t)
theorem bindG_rel {α β : Type} {R : α → β → Prop} {dfl : List (Str × α)} {dfl' : List (Str × β)} {kz : List (Str × α)} {kz' : List (Str × β)} (hd : DflR R dfl dfl') (hk : DflR R kz kz') :
    ∀ (ps : List Str) {us : List α} {us' : List β} {r : List α}, Paired R us us' → bindG ps dfl us kz = some r → ∃ r', bindG ps dfl' us' kz' = some r' ∧ Paired R r r'
  | [], _, _, r, .nil, e => by
    unfold bindG at e ⊢
    cases e
    exact ⟨[], rfl, .nil⟩
  | [], _, _, r, .cons _ _, e => by
    unfold bindG at e
    cases e
  | p :: ps, _, _, r, .cons h t, e => by
    unfold bindG at e ⊢
    rename_i l1 l2
    cases q : bindG ps dfl l1 kz with
    | none =>
      rw [q] at e
      cases e
    | some r1 =>
      rw [q] at e
      cases e
      obtain ⟨r', e', pr⟩ := bindG_rel hd hk ps t q
      rw [e']
      exact ⟨_, rfl, .cons h pr⟩
  | p :: ps, _, _, r, .nil, e => by
    unfold bindG at e ⊢
    cases q : bindG ps dfl [] kz with
    | none =>
      rw [q] at e
      split at e <;> cases e
      rename_i z
      cases z
    | some r1 =>
      rw [q] at e
      obtain ⟨r', e', pr⟩ := bindG_rel hd hk ps (us := []) (us' := []) .nil q
      rw [e']
      rcases lookup_rel p hk with ⟨a1, a2⟩ | ⟨u, v, a1, a2, a3⟩
      · rw [a1] at e
        rw [a2]
        rcases lookup_rel p hd with ⟨b1, b2⟩ | ⟨u, v, b1, b2, b3⟩
        · rw [b1] at e
          cases e
        · rw [b1] at e
          rw [b2]
          cases e
          exact ⟨_, rfl, .cons b3 pr⟩
      · rw [a1] at e
        rw [a2]
        cases e
        exact ⟨_, rfl, .cons a3 pr⟩
/-- a constant as a default -/
def cV : D → Option V
  | .non => some .non
  | .bl b => some (.bl b)
  | .int i => some (.int i)
  | .str s => some (.str s)
  | _ => none
theorem cV_den {C : Ct} {W : Wd} {d : D} {v : V} (h : cV d = some v) : Den C W d v := by
  cases d <;> cases h <;> (unfold Den; rfl)
/-- the function object's default values are those of the table -/
def DflOk (dfl : List (Str × D)) (dU : List (Str × Value)) : Prop := DflR (fun d u => ∃ v, cV d = some v ∧ RelV v u) dfl dU
/-- how a call of this form binds -/
def BindOk (K : PySem.W.Frag) (fd : FuncData) (ps : List Str) (dU : List (Str × Value)) (n : Nat) (ks : List Str) : Prop :=
  ∀ (s : Shared) (us ws : List Value) (r : List Value), K.In s.heap → us.length = n → ws.length = ks.length → bindG ps dU us (ks.zip ws) = some r → BindsTo s fd ⟨us, ks.zip ws⟩ (ps.zip r)
theorem bindG_len {α : Type} : ∀ (ps : List Str) {dfl : List (Str × α)} {us : List α} {kz : List (Str × α)} {r : List α}, bindG ps dfl us kz = some r → r.length = ps.length
  | [], dfl, us, kz, r, e => by
    cases us <;> unfold bindG at e <;> cases e
    rfl
  | p :: ps, dfl, us, kz, r, e => by
    cases us with
    | nil =>
      unfold bindG at e
      cases q : bindG ps dfl [] kz with
      | none =>
        rw [q] at e
        split at e <;> cases e
        rename_i z
        cases z
      | some r1 =>
        rw [q] at e
        split at e <;> cases e
        rename_i z w hz
        cases hz
        rw [List.length_cons, List.length_cons, bindG_len ps q]
    | cons u us =>
      unfold bindG at e
      cases q : bindG ps dfl us kz with
      | none =>
        rw [q] at e
        cases e
      | some r1 =>
        rw [q] at e
        cases e
        rw [List.length_cons, List.length_cons, bindG_len ps q]
/-- data, abstract values and values through the binding -/
theorem bind_all {C : Ct} {W : Wd} {ps : List Str} {dfl : List (Str × D)} {dU : List (Str × Value)} (hd : DflOk dfl dU) {ks : List Str} {ds zs r : List D} {vs ys : List V} {us ws : List Value}
    (e : bindG ps dfl ds (ks.zip zs) = some r) (a1 : DenL C W ds vs) (a2 : DenL C W zs ys) (b1 : Vals vs us) (b2 : Vals ys ws) :
    ∃ rv ru, bindG ps dU us (ks.zip ws) = some ru ∧ DenL C W r rv ∧ Vals rv ru := by
  let R : D → Value → Prop := fun d u => ∃ v, Den C W d v ∧ RelV v u
  have comp : ∀ {ds : List D} {vs : List V} {us : List Value}, Paired (Den C W) ds vs → Vals vs us → Paired R ds us := by
    intro ds vs us p q
    induction p generalizing us with
    | nil =>
      cases q
      exact .nil
    | cons h t ih =>
      cases q with
      | cons h' t' => exact .cons ⟨_, h, h'⟩ (ih t')
  have hd' : DflR R dfl dU := by
    unfold DflOk at hd
    unfold DflR at hd ⊢
    exact L2.Paired.mapP hd fun p q ⟨e, v, c, rr⟩ => ⟨e, v, cV_den c, rr⟩
  obtain ⟨ru, e', pr⟩ := bindG_rel hd' (zip_rel ks (comp (denL_paired a2) b2)) ps (comp (denL_paired a1) b1) e
  have back : ∀ {ds : List D} {us : List Value}, Paired R ds us → ∃ vs, DenL C W ds vs ∧ Vals vs us := by
    intro ds us p
    induction p with
    | nil => exact ⟨[], DenL.nil, .nil⟩
    | cons h t ih =>
      obtain ⟨v, h1, h2⟩ := h
      obtain ⟨vs, i1, i2⟩ := ih
      exact ⟨v :: vs, DenL.cons h1 i1, .cons h2 i2⟩
  obtain ⟨rv, i1, i2⟩ := back pr
  exact ⟨rv, ru, e', i1, i2⟩
end DL
end
-- DLCall
section
set_option maxHeartbeats 4000000
namespace DL
open PySem PySem.Spec L2
section
variable {C : Ct} {Z : WX} {X : Cx} {a b c e : Expr} {rest es : List Expr} {kws : List Keyword} {ma mb mc : Ro → Store → Out D} {ms mk : Ro → Store → Out (List D)} {pos p : Pos}
def noStar (es : List Expr) : Prop := ∀ e ∈ es, ∀ x p, e ≠ .Starred x p
theorem star_all {env : Env} : ∀ {es : List Expr}, noStar es → (backTo pos (starEach es env)).any (·.1) = false
  | [], _ => rfl
  | e :: es, h => by
    rw [star_of fun x p => h e (List.mem_cons_self ..) x p]
    show (false || (backTo pos (starEach es env)).any (·.1)) = false
    rw [star_all fun e' he => h e' (List.mem_cons_of_mem _ he)]
    rfl
/-- the keywords bear these names -/
def named (kws : List Keyword) (ks : List Str) : Prop := kws.map (·.arg) = ks.map some
theorem named_all {env : Env} : ∀ {kws : List Keyword} {ks : List Str}, named kws ks → (backToKw pos (keywordEach kws env)).all (·.1.isSome) = true ∧ (backToKw pos (keywordEach kws env)).any (·.1.isNone) = false ∧ (backToKw pos (keywordEach kws env)).filterMap (·.1) = ks
  | [], [], _ => ⟨rfl, rfl, rfl⟩
  | [], _ :: _, h => by cases h
  | _ :: _, [], h => by cases h
  | ⟨nm, v, q⟩ :: kws, k :: ks, h => by
    unfold named at h
    simp only [List.map_cons, List.cons.injEq] at h
    obtain ⟨h1, h2⟩ := h
    obtain ⟨i1, i2, i3⟩ := named_all (kws := kws) (ks := ks) h2
    subst h1
    refine ⟨?_, ?_, ?_⟩
    · show (true && (backToKw pos (keywordEach kws env)).all (·.1.isSome)) = true
      rw [i1]
      rfl
    · show (false || (backToKw pos (keywordEach kws env)).any (·.1.isNone)) = false
      rw [i2]
      rfl
    · show k :: (backToKw pos (keywordEach kws env)).filterMap (·.1) = k :: ks
      rw [i3]
/-- the arguments of a call: first those by position, then the keywords' -/
def tArgs (ta tk : TA) : L2.St → Hp → (List V → List V → Hp → Prop) → Prop := fun σ H R => ta σ H fun vs H1 => tk σ H1 fun zs H2 => R vs zs H2
/-- a call of a value that stays callable -/
theorem with_args {f : Value} {first : List Value} {ks : List Str} {ta tk : TA} {pins : List (Addr × Obj)} {s : Shared} {σ : L2.St} {H : Hp} {Q : Value → Shared → Prop} {R : List V → List V → Hp → Prop}
    (hk : PySem.W.keepIn X.K f = true) (hs : noStar (e :: es)) (hn : named kws ks) (ha : PA X (e :: es) ta) (hw : PK X kws tk) (I : Inv X pins σ H s) (h : tArgs ta tk σ H R)
    (go : ∀ s2 H2 us ws vs zs, Inv X pins σ H2 s2 → Vals vs us → Vals zs ws → R vs zs H2 → wpAny (model X.prog X.w) X.A (call f (first ++ us) (ks.zip ws)) Q X.xe s2) :
    wpAny (model X.prog X.w) X.A (callWith pos f first (backTo pos (starEach (e :: es) X.env)) (backToKw pos (keywordEach kws X.env))) Q X.xe s := by
  obtain ⟨n1, n2, n3⟩ := named_all (pos := pos) (env := X.env) hn
  refine PySem.W.callWith_KW (h₀ := X.base) I.ok.mod.kin hk n1 (thn (ha.run pos pins s σ H _ I h) fun us s1 ⟨vs, H1, I1, r, q⟩ => ?_) (by rw [star_all hs, n2]; rfl) (star_of fun x p => hs e (List.mem_cons_self ..) x p)
  refine thn (hw.run pos pins s1 σ H1 _ I1 q) fun ws s2 ⟨zs, H2, I2, rz, q2⟩ => ⟨I2.kIn, ?_⟩
  rw [n3]
  exact go s2 H2 us ws vs zs I2 r rz q2
theorem with_args0 {f : Value} {first : List Value} {ks : List Str} {tk : TA} {pins : List (Addr × Obj)} {s : Shared} {σ : L2.St} {H : Hp} {Q : Value → Shared → Prop} {R : List V → List V → Hp → Prop}
    (hk : PySem.W.keepIn X.K f = true) (hn : named kws ks) (hw : PK X kws tk) (I : Inv X pins σ H s) (h : tArgs tNil tk σ H R)
    (go : ∀ s2 H2 us ws vs zs, Inv X pins σ H2 s2 → Vals vs us → Vals zs ws → R vs zs H2 → wpAny (model X.prog X.w) X.A (call f (first ++ us) (ks.zip ws)) Q X.xe s2) :
    wpAny (model X.prog X.w) X.A (callWith pos f first (backTo pos (starEach [] X.env)) (backToKw pos (keywordEach kws X.env))) Q X.xe s := by
  obtain ⟨n1, n2, n3⟩ := named_all (pos := pos) (env := X.env) hn
  refine PySem.W.callWith_KW0 (h₀ := X.base) I.ok.mod.kin hk n1 ?_ (by rw [n2]; rfl)
  refine thn (hw.run pos pins s σ H _ I h) fun ws s2 ⟨zs, H2, I2, rz, q2⟩ => ⟨I2.kIn, ?_⟩
  rw [n3]
  exact go s2 H2 [] ws [] zs I2 .nil rz q2
theorem PK.imp {kws : List Keyword} {t t' : TA} (h : PK X kws t) (k : ∀ σ H Q, t' σ H Q → t σ H Q) : PK X kws t' := ⟨fun pos pins s σ H Q I q => h.run pos pins s σ H Q I (k σ H Q q)⟩
theorem dk_nil : PK X [] (tAs C Z fun _ S => .ok [] S) := PK.imp pk_nil fun σ H Q h => by
  obtain ⟨W, H0, U, ρ, S, rh, rs, p⟩ := h
  exact p W H (Step.refl _ _ _) rh [] DenL.nil
theorem dk_cons {nm : Option Str} {kp : Pos} (ha : PE X a (tE C Z ma)) (hr : PK X kws (tAs C Z ms)) : PK X (⟨nm, a, kp⟩ :: kws) (tAs C Z fun ρ S => (ma ρ S).bind fun d S1 => (ms ρ S1).bind fun ds S2 => .ok (d :: ds) S2) :=
  PK.imp (pk_cons ha hr) fun σ H Q h => by
    obtain ⟨W, H0, U, ρ, S, rh, rs, p⟩ := h
    refine ⟨W, H0, U, ρ, S, rh, rs, (Post.bind p).mono ?_⟩
    rintro W1 H1 x ⟨st, S1, rh1, _, p1⟩ u hu
    refine ⟨W1, H0, U, ρ, S1, rh1, rs.step st, (Post.bind p1).mono ?_⟩
    rintro W2 H2 y ⟨st2, S2, rh2, _, p2⟩ v hv
    exact p2 W2 H2 (Step.refl _ _ _) rh2 _ (DenL.cons (Den.ext st2.x _ _ hu) hv)
/-- the arguments' data -/
def mArgs (ms mk : Ro → Store → Out (List D)) (f : List D → List D → Store → Out D) : Ro → Store → Out D := fun ρ S => (ms ρ S).bind fun ds S1 => (mk ρ S1).bind fun zs S2 => f ds zs S2
theorem args_rd {f : List D → List D → Store → Out D} {σ : L2.St} {H : Hp} {Q : VK} {R : List V → List V → Hp → Prop} (hr : ∀ W H S ds zs vs ys, RelH C W H S → DenL C W ds vs → DenL C W zs ys → PQ C Z σ Q W H (f ds zs S) → R vs ys H)
    (h : tE C Z (mArgs ms mk f) σ H Q) : tArgs (tAs C Z ms) (tAs C Z mk) σ H R := by
  obtain ⟨W, H0, U, ρ, S, rh, rs, p⟩ := h
  refine ⟨W, H0, U, ρ, S, rh, rs, (Post.bind p).mono ?_⟩
  rintro W1 H1 x ⟨st, S1, rh1, _, p1⟩ u hu
  refine ⟨W1, H0, U, ρ, S1, rh1, rs.step st, (Post.bind p1).mono ?_⟩
  rintro W2 H2 y ⟨st2, S2, rh2, _, p2⟩ v hv
  exact hr W2 H2 S2 x y u v rh2 (DenL.ext st2.x _ _ hu) hv p2
theorem args_rd0 {f : List D → List D → Store → Out D} {σ : L2.St} {H : Hp} {Q : VK} {R : List V → List V → Hp → Prop} (hr : ∀ W H S ds zs vs ys, RelH C W H S → DenL C W ds vs → DenL C W zs ys → PQ C Z σ Q W H (f ds zs S) → R vs ys H)
    (h : tE C Z (mArgs (fun _ S => .ok [] S) mk f) σ H Q) : tArgs tNil (tAs C Z mk) σ H R := by
  obtain ⟨W, H0, U, ρ, S, rh, rs, p⟩ := h
  have p : PQ C Z σ Q W H ((mk ρ S).bind fun zs S2 => f [] zs S2) := p
  refine ⟨W, H0, U, ρ, S, rh, rs, (Post.bind p).mono ?_⟩
  rintro W1 H1 x ⟨st, S1, rh1, _, p1⟩ u hu
  exact hr W1 H1 S1 [] x [] u rh1 DenL.nil hu p1
/-- a def of the module -/
structure FnT (X : Cx) (C : Ct) (k : Nat) (f : Addr) (fn : Fn) (x : Str) (F : List D → Store → Out D) (shapes : List (Nat × List Str)) : Prop where
  go : ∃ fd dU, FnG X.prog X.w X.K X.mg X.base k f fd fn.ps (spD C F) ∧ DflOk fn.dfl dU ∧ ∀ sh ∈ shapes, BindOk X.K fd fn.ps dU sh.1 sh.2
  mg : X.mg x = some (.ref f)
  kp : PySem.W.keepIn X.K (.ref f) = true
def callF (fn : Fn) (F : List D → Store → Out D) (ks : List Str) : List D → List D → Store → Out D := fun ds zs S => if ks.length = zs.length then (match bindG fn.ps fn.dfl ds (ks.zip zs) with
  | some r => F r S
  | none => .stk) else .stk
theorem call_go {k : Nat} {f : Addr} {fn : Fn} {F : List D → Store → Out D} {shapes : List (Nat × List Str)} {ks : List Str} {n : Nat} (T : ∃ fd dU, FnG X.prog X.w X.K X.mg X.base k f fd fn.ps (spD C F) ∧ DflOk fn.dfl dU ∧ ∀ sh ∈ shapes, BindOk X.K fd fn.ps dU sh.1 sh.2) (hm : (n, ks) ∈ shapes) (hr : Room k X.A) (hg : X.A.guards = some []) (tk : Takes X Z)
    {pins : List (Addr × Obj)} {s : Shared} {σ : L2.St} {H : Hp} {Q : VK} {us ws : List Value} {vs ys : List V} {W : Wd} {S : Store} {ds zs : List D} (I : Inv X pins σ H s) (r1 : Vals vs us) (r2 : Vals ys ws) (rh : RelH C W H S) (d1 : DenL C W ds vs) (d2 : DenL C W zs ys) (hn : ds.length = n)
    (p : PQ C Z σ Q W H (callF fn F ks ds zs S)) : wpAny (model X.prog X.w) X.A (call (.ref f) ([] ++ us) (ks.zip ws)) (EP X pins σ Q) X.xe s := by
  obtain ⟨fd, dU, G, hd, hb⟩ := T
  unfold callF at p
  split at p
  · rename_i hl
    split at p
    · rename_i r e
      obtain ⟨rv, ru, e', dr, vr⟩ := bind_all hd e d1 d2 r1 r2
      have l1 : us.length = n := by rw [← r1.length, ← d1.length, hn]
      have l2 : ws.length = ks.length := by rw [← r2.length, ← d2.length, hl]
      have hbt := hb _ hm s us ws ru I.kIn l1 l2 e'
      refine run_g (args := ⟨us, ks.zip ws⟩) G hr hg tk I hbt vr ?_ ⟨W, r, S, rh, dr, p⟩
      rw [← dr.length, bindG_len _ e]
    · exact p.elim
  · exact p.elim
/-- f(..), a def of the module -/
theorem de_call {k : Nat} {f : Addr} {fn : Fn} {x : Str} {F : List D → Store → Out D} {shapes : List (Nat × List Str)} {ks : List Str} (T : FnT X C k f fn x F shapes) (hm : ((e :: es).length, ks) ∈ shapes) (hr : Room k X.A) (hg : X.A.guards = some []) (tk : Takes X Z)
    (hgl : Gl X x) (hdb : (x == ("__debug__" : Str)) = false) (hs : noStar (e :: es)) (hn : named kws ks) (ha : PA X (e :: es) (tAs C Z ms)) (hw : PK X kws (tAs C Z mk)) (hlen : ∀ ρ S ds S', ms ρ S = .ok ds S' → ds.length = (e :: es).length) :
    PE X (.Call (.Name x p) (e :: es) kws pos) (tE C Z (mArgs ms mk (callF fn F ks))) := by
  refine ⟨fun pins s σ H Q I h => ?_⟩
  refine wpAny_Call_Name_kw (ld_glob I hgl T.mg ?_ hdb)
  refine with_args (R := fun vs ys H2 => ∃ W S ds zs, RelH C W H2 S ∧ DenL C W ds vs ∧ DenL C W zs ys ∧ ds.length = (e :: es).length ∧ PQ C Z σ Q W H2 (callF fn F ks ds zs S)) T.kp hs hn ha hw I ?_ ?_
  · obtain ⟨W, H0, U, ρ, S, rh, rs, p⟩ := h
    refine ⟨W, H0, U, ρ, S, rh, rs, (Post.bind p).mono ?_⟩
    rintro W1 H1 ds ⟨st, S1, rh1, eo, p1⟩ u hu
    refine ⟨W1, H0, U, ρ, S1, rh1, rs.step st, (Post.bind p1).mono ?_⟩
    rintro W2 H2 zs ⟨st2, S2, rh2, _, p2⟩ v hv
    exact ⟨W2, S2, ds, zs, rh2, DenL.ext st2.x _ _ hu, hv, hlen ρ S ds S1 eo, p2⟩
  · rintro s2 H2 us ws vs ys I2 r1 r2 ⟨W, S, ds, zs, rh, d1, d2, hl, p⟩
    exact call_go T.go hm hr hg tk I2 r1 r2 rh d1 d2 hl p
theorem de_call0 {k : Nat} {f : Addr} {fn : Fn} {x : Str} {F : List D → Store → Out D} {shapes : List (Nat × List Str)} {ks : List Str} (T : FnT X C k f fn x F shapes) (hm : (0, ks) ∈ shapes) (hr : Room k X.A) (hg : X.A.guards = some []) (tk : Takes X Z)
    (hgl : Gl X x) (hdb : (x == ("__debug__" : Str)) = false) (hn : named kws ks) (hw : PK X kws (tAs C Z mk)) :
    PE X (.Call (.Name x p) [] kws pos) (tE C Z (mArgs (fun _ S => .ok [] S) mk (callF fn F ks))) := by
  refine ⟨fun pins s σ H Q I h => ?_⟩
  refine wpAny_Call_Name_kw (ld_glob I hgl T.mg ?_ hdb)
  refine with_args0 (R := fun vs ys H2 => ∃ W S ds zs, RelH C W H2 S ∧ DenL C W ds vs ∧ DenL C W zs ys ∧ ds.length = 0 ∧ PQ C Z σ Q W H2 (callF fn F ks ds zs S)) T.kp hn hw I ?_ ?_
  · obtain ⟨W, H0, U, ρ, S, rh, rs, p⟩ := h
    have p : PQ C Z σ Q W H ((mk ρ S).bind fun zs S2 => callF fn F ks [] zs S2) := p
    refine ⟨W, H0, U, ρ, S, rh, rs, (Post.bind p).mono ?_⟩
    rintro W2 H2 zs ⟨st2, S2, rh2, _, p2⟩ v hv
    exact ⟨W2, S2, [], zs, rh2, DenL.nil, hv, rfl, p2⟩
  · rintro s2 H2 us ws vs ys I2 r1 r2 ⟨W, S, ds, zs, rh, d1, d2, hl, p⟩
    exact call_go T.go hm hr hg tk I2 r1 r2 rh d1 d2 hl p
end
end DL
end
-- DLMk
section
set_option maxHeartbeats 4000000
namespace DL
open PySem PySem.Spec L2
theorem guards_make {A : Around} {C : Addr} {us : List Value} {kw : List (Str × Value)} (h : A.guards = some []) : (A.under (.builtin "type.__call__" ⟨.ref C :: us, kw⟩)).guards = some [] := by
  have e : (Code.builtin "type.__call__" ⟨.ref C :: us, kw⟩).guards = [] := by
    unfold Code.guards
    have q : (Code.builtin "type.__call__" ⟨.ref C :: us, kw⟩).isGuard = false := by
      show guardIds.contains "type.__call__" = false
      decide +kernel
    rw [q]
    rfl
  simp only [Around.under, e, h]
  rfl
section
variable {C : Ct} {Z : WX} {X : Cx} {a b c e : Expr} {rest es : List Expr} {kws : List Keyword} {ma mb mc : Ro → Store → Out D} {ms mk : Ro → Store → Out (List D)} {pos p : Pos}
/-- a class whose instances never change once they are made -/
structure MkT (X : Cx) (C : Ct) (k : Nat) (c : Nat) (f : Addr) (fn : Fn) (x : Str) (F : Nat → List Str → List D → List D → Store → Out (List Str × List D)) (shapes : List (Nat × List Str)) : Prop where
  go : ∃ fd dU, FnG X.prog X.w X.K X.mg X.base k f fd fn.ps (spI C F) ∧ DflOk fn.dfl dU ∧ ∀ sh ∈ shapes, BindOk X.K fd fn.ps dU (sh.1 + 1) sh.2
  ps : fn.ps ≠ []
  mkc : Mk X.K (C.ca c) f
  mg : X.mg x = some (.ref (C.ca c))
def mkF (c : Nat) (fn : Fn) (F : Nat → List Str → List D → List D → Store → Out (List Str × List D)) (ks : List Str) : List D → List D → Store → Out D := fun ds zs S => if ks.length = zs.length then (match bindG fn.ps.tail fn.dfl ds (ks.zip zs) with
  | some r => (F c [] [] r S).bind fun q S1 => .ok (.obj c q.1 q.2) S1
  | none => .stk) else .stk
/-- the new instance goes to the ground -/
theorem made_in {W W' : Wd} {H H' : Hp} {S S' : Store} {x dx dx' cA : Addr} {fs : List (Str × V)} (rh : RelH C W H S) (nx : H x = none) (nd : H dx = none) (ne : dx ≠ x)
    (st : Step [x] W (upd (upd H dx (.own x)) x (.ins cA dx [])) W' H') (rh' : RelH C W' H' S') (hx : H' x = some (.ins cA dx' fs)) (hg : W'.G x = none) (hb : x ∉ W'.B) :
    Step [] W H (W'.put x (.ins cA dx' fs)) H' ∧ RelH C (W'.put x (.ins cA dx' fs)) H' S' := by
  have up : ∀ b o, H b = some o → upd (upd H dx (.own x)) x (.ins cA dx []) b = some o := fun b o h => by
    rw [upd_ne (ne_of_none h nx), upd_ne (ne_of_none h nd)]
    exact h
  have dn : ∀ b, upd (upd H dx (.own x)) x (.ins cA dx []) b = none → H b = none := fun b h => by
    cases q : H b with
    | none => rfl
    | some o =>
      rw [up b o q] at h
      cases h
  constructor
  · refine ⟨⟨fun b o h => ?_, st.x.b⟩, fun b h => dn b (st.dom b h), fun b o h nb _ nt => st.fr b o (up b o h) nb ?_ nt, fun b h => ?_, fun b h => ?_⟩
    · have n1 : b ≠ x := ne_of_none (rh.g b o h) nx
      show upd W'.G x _ b = some o
      rw [upd_ne n1]
      exact st.x.g b o h
    · rw [List.mem_singleton]
      exact ne_of_none h nx
    · by_cases q : b = x
      · rw [q]
        exact .inr nx
      · have h : upd W'.G x (.ins cA dx' fs) b ≠ none := h
        rw [upd_ne q] at h
        rcases st.gn b h with z | z
        · exact .inl z
        · exact .inr (dn b z)
    · rcases st.bn b h with z | z
      · exact .inl z
      · exact .inr (dn b z)
  · refine ⟨fun b o h => ?_, rh'.len, rh'.nd, fun i b z e1 e2 => ?_, rh'.tab, nt_put rh'.nt (fun ps z => nomatch z), rh'.ta⟩
    · have h : upd W'.G x (.ins cA dx' fs) b = some o := h
      by_cases q : b = x
      · rw [q] at h ⊢
        rw [upd_same] at h
        rw [hx]
        exact h
      · rw [upd_ne q] at h
        exact rh'.g b o h
    · have nb : b ≠ x := fun z => hb (z ▸ List.mem_of_getElem? e1)
      obtain ⟨f1, f2⟩ := rh'.bx i b z e1 e2
      refine ⟨fun hm => ?_, f2.move (Ext.put hg) rfl⟩
      show upd W'.G x _ b = none
      rw [upd_ne nb]
      exact f1 hm
theorem mk_go {k c n : Nat} {f : Addr} {fn : Fn} {x : Str} {F : Nat → List Str → List D → List D → Store → Out (List Str × List D)} {shapes : List (Nat × List Str)} {ks : List Str} (T : MkT X C k c f fn x F shapes) (hm : (n, ks) ∈ shapes) (hr : Room (k + 1) X.A) (hg : X.A.guards = some []) (tk : Takes X Z)
    {pins : List (Addr × Obj)} {s : Shared} {σ : L2.St} {H : Hp} {Q : VK} {us ws : List Value} {vs ys : List V} {W : Wd} {S : Store} {ds zs : List D} (I : Inv X pins σ H s) (r1 : Vals vs us) (r2 : Vals ys ws) (rh : RelH C W H S) (d1 : DenL C W ds vs) (d2 : DenL C W zs ys) (hn : ds.length = n)
    (p : PQ C Z σ Q W H (mkF c fn F ks ds zs S)) : wpAny (model X.prog X.w) X.A (call (.ref (C.ca c)) ([] ++ us) (ks.zip ws)) (EP X pins σ Q) X.xe s := by
  obtain ⟨fd, dU, G, hd, hb⟩ := T.go
  unfold mkF at p
  split at p
  · rename_i hl
    split at p
    · rename_i r e
      have I2 := Inv.made (C := C.ca c) I
      have nx : H (s.heap.objs.size + 1) = none := I.hok.fresh (Nat.le_succ _)
      have nd : H s.heap.objs.size = none := I.hok.fresh (Nat.le_refl _)
      have ne : s.heap.objs.size ≠ s.heap.objs.size + 1 := Nat.ne_of_lt (Nat.lt_succ_self _)
      obtain ⟨rv, ru, e', dr, vr⟩ := bind_all hd e d1 d2 r1 r2
      have l1 : (Value.ref (s.heap.objs.size + 1) :: us).length = n + 1 := by rw [List.length_cons, ← r1.length, ← d1.length, hn]
      have l2 : ws.length = ks.length := by rw [← r2.length, ← d2.length, hl]
      obtain ⟨p0, pt, eps⟩ : ∃ p0 pt, fn.ps = p0 :: pt := by
        cases q : fn.ps with
        | nil => exact absurd q T.ps
        | cons p0 pt => exact ⟨p0, pt, rfl⟩
      have e2 : bindG fn.ps dU (Value.ref (s.heap.objs.size + 1) :: us) (ks.zip ws) = some (Value.ref (s.heap.objs.size + 1) :: ru) := by
        rw [eps] at e' ⊢
        have e' : bindG pt dU us (ks.zip ws) = some ru := e'
        rw [bindG, e']
      have hbt := hb _ hm _ (Value.ref (s.heap.objs.size + 1) :: us) ws _ I2.kIn l1 l2 e2
      have rh1 : RelH C W (upd H s.heap.objs.size (.own (s.heap.objs.size + 1))) S := rh.loose nd
      have nx1 : upd H s.heap.objs.size (.own (s.heap.objs.size + 1)) (s.heap.objs.size + 1) = none := by
        rw [upd_ne ne.symm]
        exact nx
      have rh2 := rh1.loose (o := .ins (C.ca c) s.heap.objs.size []) nx1
      have fr := rh.fresh nx
      have sp : spI C F (V.ref (s.heap.objs.size + 1) :: rv) (upd (upd H s.heap.objs.size (.own (s.heap.objs.size + 1))) (s.heap.objs.size + 1) (.ins (C.ca c) s.heap.objs.size [])) (fun v H2 => v = .non ∧ Q (.ref (s.heap.objs.size + 1)) H2) (WE Z σ) := by
        refine ⟨W, c, [], [], r, S, _, s.heap.objs.size, [], rv, rh2, rfl, dr, upd_same, rfl, DenL.nil, fr.1, fr.2, ?_⟩
        cases q : F c [] [] r S with
        | stk =>
          rw [q] at p
          exact p
        | er er' S' =>
          rw [q] at p
          intro cls dd W' H' st rh' dx
          refine p cls dd W' H' ?_ rh' dx
          refine ⟨st.x, fun b h => ?_, fun b o h nb _ nt => ?_, fun b h => ?_, fun b h => ?_⟩
          · have z := st.dom b h
            by_cases q1 : b = s.heap.objs.size + 1
            · rw [q1]
              exact nx
            · rw [upd_ne q1] at z
              by_cases q2 : b = s.heap.objs.size
              · rw [q2]
                exact nd
              · rw [upd_ne q2] at z
                exact z
          · have n1 := ne_of_none h nx
            refine st.fr b o ?_ nb (by rw [List.mem_singleton]; exact n1) nt
            rw [upd_ne n1, upd_ne (ne_of_none h nd)]
            exact h
          · rcases st.gn b h with z | z
            · exact .inl z
            · right
              by_cases q1 : b = s.heap.objs.size + 1
              · rw [q1]
                exact nx
              · rw [upd_ne q1] at z
                by_cases q2 : b = s.heap.objs.size
                · rw [q2]
                  exact nd
                · rw [upd_ne q2] at z
                  exact z
          · rcases st.bn b h with z | z
            · exact .inl z
            · right
              by_cases q1 : b = s.heap.objs.size + 1
              · rw [q1]
                exact nx
              · rw [upd_ne q1] at z
                by_cases q2 : b = s.heap.objs.size
                · rw [q2]
                  exact nd
                · rw [upd_ne q2] at z
                  exact z
        | ok qq S' =>
          rw [q] at p
          intro W' H' dx3 zs' st rh' hx hlz dz hg' hb'
          obtain ⟨st2, rh3⟩ := made_in rh nx nd ne st rh' hx hg' hb'
          refine ⟨rfl, p _ H' st2 rh3 _ ?_⟩
          unfold Den
          exact ⟨_, dx3, zs', rfl, upd_same, hlz, DenL.ext (Ext.put hg') _ _ dz⟩
      have hlen : (V.ref (s.heap.objs.size + 1) :: rv).length = fn.ps.length := by
        have := bindG_len _ e2
        rw [List.length_cons] at this
        rw [List.length_cons, vr.length]
        exact this
      refine wpAny_call (make_map (f := f) I.kIn T.mkc.makes T.mkc.init (beq_iff_eq.mp T.mkc.fn) (codeAny_mono (G.run _ X.stack _ _ ⟨Value.ref (s.heap.objs.size + 1) :: us, ks.zip ws⟩ _ _ _ (WE Z σ) (hr.make (C.ca c) us (ks.zip ws)) (guards_make hg)
        (I2.env0.make (C.ca c) us (ks.zip ws)) hbt (Paired.cons (show RelV (V.ref (s.heap.objs.size + 1)) (Value.ref (s.heap.objs.size + 1)) from rfl) vr) hlen sp) fun rr s' hq' => ?_))
      cases rr with
      | error e =>
        have := passAt tk σ pins _ _ e s' I2 hq'
        exact this
      | ok fl =>
        cases fl with
        | ret u =>
          obtain ⟨v, H', I3, rv', ev, q3⟩ := I2.after hq'
          subst ev
          exact ⟨rv', ⟨V.ref (s.heap.objs.size + 1), H', I3, rfl, q3⟩⟩
        | next => exact False.elim hq'
        | brk => exact False.elim hq'
        | cont => exact False.elim hq'
    · exact p.elim
  · exact p.elim
theorem de_mk {k c : Nat} {f : Addr} {fn : Fn} {x : Str} {F : Nat → List Str → List D → List D → Store → Out (List Str × List D)} {shapes : List (Nat × List Str)} {ks : List Str} (T : MkT X C k c f fn x F shapes) (hm : ((e :: es).length, ks) ∈ shapes) (hr : Room (k + 1) X.A) (hg : X.A.guards = some []) (tk : Takes X Z)
    (hgl : Gl X x) (hdb : (x == ("__debug__" : Str)) = false) (hs : noStar (e :: es)) (hn : named kws ks) (ha : PA X (e :: es) (tAs C Z ms)) (hw : PK X kws (tAs C Z mk)) (hlen : ∀ ρ S ds S', ms ρ S = .ok ds S' → ds.length = (e :: es).length) :
    PE X (.Call (.Name x p) (e :: es) kws pos) (tE C Z (mArgs ms mk (mkF c fn F ks))) := by
  refine ⟨fun pins s σ H Q I h => ?_⟩
  refine wpAny_Call_Name_kw (ld_glob I hgl T.mg ?_ hdb)
  refine with_args (R := fun vs ys H2 => ∃ W S ds zs, RelH C W H2 S ∧ DenL C W ds vs ∧ DenL C W zs ys ∧ ds.length = (e :: es).length ∧ PQ C Z σ Q W H2 (mkF c fn F ks ds zs S)) T.mkc.kp hs hn ha hw I ?_ ?_
  · obtain ⟨W, H0, U, ρ, S, rh, rs, p⟩ := h
    refine ⟨W, H0, U, ρ, S, rh, rs, (Post.bind p).mono ?_⟩
    rintro W1 H1 ds ⟨st, S1, rh1, eo, p1⟩ u hu
    refine ⟨W1, H0, U, ρ, S1, rh1, rs.step st, (Post.bind p1).mono ?_⟩
    rintro W2 H2 zs ⟨st2, S2, rh2, _, p2⟩ v hv
    exact ⟨W2, S2, ds, zs, rh2, DenL.ext st2.x _ _ hu, hv, hlen ρ S ds S1 eo, p2⟩
  · rintro s2 H2 us ws vs ys I2 r1 r2 ⟨W, S, ds, zs, rh, d1, d2, hl, p⟩
    exact mk_go T hm hr hg tk I2 r1 r2 rh d1 d2 hl p
theorem de_mk0 {k c : Nat} {f : Addr} {fn : Fn} {x : Str} {F : Nat → List Str → List D → List D → Store → Out (List Str × List D)} {shapes : List (Nat × List Str)} {ks : List Str} (T : MkT X C k c f fn x F shapes) (hm : (0, ks) ∈ shapes) (hr : Room (k + 1) X.A) (hg : X.A.guards = some []) (tk : Takes X Z)
    (hgl : Gl X x) (hdb : (x == ("__debug__" : Str)) = false) (hn : named kws ks) (hw : PK X kws (tAs C Z mk)) :
    PE X (.Call (.Name x p) [] kws pos) (tE C Z (mArgs (fun _ S => .ok [] S) mk (mkF c fn F ks))) := by
  refine ⟨fun pins s σ H Q I h => ?_⟩
  refine wpAny_Call_Name_kw (ld_glob I hgl T.mg ?_ hdb)
  refine with_args0 (R := fun vs ys H2 => ∃ W S ds zs, RelH C W H2 S ∧ DenL C W ds vs ∧ DenL C W zs ys ∧ ds.length = 0 ∧ PQ C Z σ Q W H2 (mkF c fn F ks ds zs S)) T.mkc.kp hn hw I ?_ ?_
  · obtain ⟨W, H0, U, ρ, S, rh, rs, p⟩ := h
    have p : PQ C Z σ Q W H ((mk ρ S).bind fun zs S2 => mkF c fn F ks [] zs S2) := p
    refine ⟨W, H0, U, ρ, S, rh, rs, (Post.bind p).mono ?_⟩
    rintro W2 H2 zs ⟨st2, S2, rh2, _, p2⟩ v hv
    exact ⟨W2, S2, [], zs, rh2, DenL.nil, hv, rfl, p2⟩
  · rintro s2 H2 us ws vs ys I2 r1 r2 ⟨W, S, ds, zs, rh, d1, d2, hl, p⟩
    exact mk_go T hm hr hg tk I2 r1 r2 rh d1 d2 hl p
end
end DL
end
-- DLSt
section
set_option maxHeartbeats 4000000
namespace DL
open PySem PySem.Spec L2
def PostS (C : Ct) (Z : WX) (W0 : Wd) (H0 : Hp) (U : List Addr) (E : Ends) (V0 : Wd) : OutS → Prop
  | .nx ρ S => ∀ σ W H, Step U W0 H0 W H → Ext V0 W → RelH C W H S → RelS C W H0 U σ H ρ → E.nx σ H
  | .rt d S => ∀ v W H, Step U W0 H0 W H → Ext V0 W → RelH C W H S → Den C W d v → E.rt v H
  | .bk ρ S => ∀ σ W H, Step U W0 H0 W H → Ext V0 W → RelH C W H S → RelS C W H0 U σ H ρ → E.bk σ H
  | .ct ρ S => ∀ σ W H, Step U W0 H0 W H → Ext V0 W → RelH C W H S → RelS C W H0 U σ H ρ → E.ct σ H
  | .er e ρ S => ∀ cls dd σ W H, Step U W0 H0 W H → Ext V0 W → RelH C W H S → RelS C W H0 U σ H ρ → DenX C W e cls dd → Z cls dd σ H
  | .stk => False
theorem PostS.up {C : Ct} {Z : WX} {W0 : Wd} {H0 : Hp} {U : List Addr} {E : Ends} {V0 V1 : Wd} {o : OutS} (p : PostS C Z W0 H0 U E V0 o) (e : Ext V0 V1) : PostS C Z W0 H0 U E V1 o := by
  cases o with
  | nx ρ S => exact fun σ W H s x => p σ W H s (e.trans x)
  | rt d S => exact fun v W H s x => p v W H s (e.trans x)
  | bk ρ S => exact fun σ W H s x => p σ W H s (e.trans x)
  | ct ρ S => exact fun σ W H s x => p σ W H s (e.trans x)
  | er d ρ S => exact fun cls dd σ W H s x => p cls dd σ W H s (e.trans x)
  | stk => exact p
/-- a statement's reading by its evaluation; (W0, H0): the def's entry, U: what it may change besides -/
def tS (C : Ct) (Z : WX) (W0 : Wd) (H0 : Hp) (U : List Addr) (m : Ro → Store → OutS) : TS := fun E σ H => ∃ W ρ S, Step U W0 H0 W H ∧ RelH C W H S ∧ RelS C W H0 U σ H ρ ∧ PostS C Z W0 H0 U E W (m ρ S)
section
variable {C : Ct} {Z : WX} {W0 W : Wd} {H0 H : Hp} {U : List Addr} {σ : L2.St} {ρ : Ro} {S : Store} {E : Ends}
/-- an expression at the head of a statement -/
theorem st_exp {α : Type} {o : Out α} {k : α → Store → OutS} {R : Wd → Hp → α → Prop} (st : Step U W0 H0 W H) (rs : RelS C W H0 U σ H ρ) (p : PostS C Z W0 H0 U E W (o.then ρ k))
    (h : ∀ x S1 W1 H1, o = .ok x S1 → Step [] W H W1 H1 → RelH C W1 H1 S1 → PostS C Z W0 H0 U E W1 (k x S1) → R W1 H1 x) : Post C Z R W σ H o := by
  cases o with
  | ok x S1 => exact fun W1 H1 s1 r1 => h x S1 W1 H1 rfl s1 r1 (PostS.up (o := k x S1) p s1.x)
  | er e S1 => exact fun cls dd W1 H1 s1 r1 dx => p cls dd σ W1 H1 (st.trans s1.up) s1.x r1 (rs.step s1) dx
  | stk => exact p
theorem get_set {α : Type} (l : List α) (i j : Nat) (x : α) : (l.set i x)[j]? = if i = j ∧ j < l.length then some x else l[j]? := by
  rw [List.getElem?_set]
  by_cases h : i = j
  · subst h
    by_cases hl : i < l.length
    · simp [hl]
    · simp [hl, List.getElem?_eq_none (by omega : l.length ≤ i)]
  · simp [h]
/-- a slot gets a value that is no owner -/
theorem RelS.sh {i : Nat} {d : D} {v : V} (rs : RelS C W H0 U σ H ρ) (h : Den C W d v) : RelS C W H0 U (σ.set i (some v)) H (ρ.set i (some (.sh d))) := by
  refine ⟨by rw [List.length_set, List.length_set]; exact rs.len, fun j s e => ?_, fun j k s t u e1 e2 o1 o2 f1 f2 => ?_⟩
  · rw [get_set] at e
    rw [get_set]
    by_cases q : i = j ∧ j < ρ.length
    · rw [if_pos q] at e
      rw [if_pos ⟨q.1, by rw [← rs.len]; exact q.2⟩]
      cases e
      exact ⟨v, rfl, h⟩
    · rw [if_neg q] at e
      rw [if_neg (by rw [← rs.len]; exact q)]
      exact rs.sl j s e
  · rw [get_set] at e1 e2 f1 f2
    by_cases q1 : i = j ∧ j < ρ.length
    · rw [if_pos q1] at e1
      cases e1
      cases o1
    · by_cases q2 : i = k ∧ k < ρ.length
      · rw [if_pos q2] at e2
        cases e2
        cases o2
      · rw [if_neg q1] at e1
        rw [if_neg q2] at e2
        rw [if_neg (by rw [← rs.len]; exact q1)] at f1
        rw [if_neg (by rw [← rs.len]; exact q2)] at f2
        exact rs.ap j k s t u e1 e2 o1 o2 f1 f2
/-- a slot is forgotten -/
theorem RelS.off {i : Nat} (rs : RelS C W H0 U σ H ρ) (σ' : L2.St) (hl : σ'.length = σ.length) (h : ∀ j, j ≠ i → σ'[j]? = σ[j]?) : RelS C W H0 U σ' H (ρ.set i none) := by
  have key : ∀ (j : Nat) s, (ρ.set i none)[j]? = some (some s) → j ≠ i ∧ ρ[j]? = some (some s) := fun j s e => by
    rw [get_set] at e
    split at e
    · cases e
    · rename_i q
      refine ⟨fun z => q ⟨z.symm, ?_⟩, e⟩
      exact (List.getElem?_eq_some_iff.mp e).1
  refine ⟨by rw [List.length_set, hl]; exact rs.len, fun j s e => ?_, fun j k s t u e1 e2 o1 o2 f1 f2 => ?_⟩
  · obtain ⟨n, e⟩ := key j s e
    rw [h j n]
    exact rs.sl j s e
  · obtain ⟨n1, e1⟩ := key j s e1
    obtain ⟨n2, e2⟩ := key k t e2
    rw [h j n1] at f1
    rw [h k n2] at f2
    exact rs.ap j k s t u e1 e2 o1 o2 f1 f2
/-- what an owner's slot holds -/
theorem owner_at {s : Sl} {v : V} (h : SlOk C W H0 U H s v) (o : s.owned = true) : ∃ a, v = .ref a ∧ (∃ ho, H a = some ho) ∧ W.G a = none ∧ a ∉ W.B := by
  cases s with
  | sh d => cases o
  | thk => cases o
  | owL xs =>
    obtain ⟨a, ys, e1, e2, _, f⟩ := h
    exact ⟨a, e1, ⟨_, e2⟩, f.1, f.2.1⟩
  | owI c ns ds =>
    obtain ⟨a, dx, vs, e1, e2, _, _, f⟩ := h
    exact ⟨a, e1, ⟨_, e2⟩, f.1, f.2.1⟩
/-- a new owner -/
theorem RelS.own {i : Nat} {s : Sl} {a : Addr} {H' : Hp} (rs : RelS C W H0 U σ H ρ) (n : H a = none) (ex : ∀ b, b ≠ a → H' b = H b) (hs : SlOk C W H0 U H' s (.ref a)) : RelS C W H0 U (σ.set i (some (.ref a))) H' (ρ.set i (some s)) := by
  have mv : ∀ t v, SlOk C W H0 U H t v → SlOk C W H0 U H' t v := fun t v h => by
    cases t with
    | sh d => exact h
    | thk => exact h
    | owL xs =>
      obtain ⟨b, ys, e1, e2, e3⟩ := h
      exact ⟨b, ys, e1, by rw [ex b (ne_of_none e2 n)]; exact e2, e3⟩
    | owI c ns ds =>
      obtain ⟨b, dx, vs, e1, e2, e3⟩ := h
      exact ⟨b, dx, vs, e1, by rw [ex b (ne_of_none e2 n)]; exact e2, e3⟩
  have no : ∀ (k : Nat) t, ρ[k]? = some (some t) → t.owned = true → σ[k]? ≠ some (some (.ref a)) := fun k t e o z => by
    obtain ⟨v, e1, e2⟩ := rs.sl k t e
    rw [e1] at z
    cases z
    obtain ⟨b, e3, ⟨ho, e4⟩, _⟩ := owner_at e2 o
    cases e3
    rw [n] at e4
    cases e4
  refine ⟨by rw [List.length_set, List.length_set]; exact rs.len, fun j t e => ?_, fun j k t u v e1 e2 o1 o2 f1 f2 => ?_⟩
  · rw [get_set] at e ⊢
    by_cases q : i = j ∧ j < ρ.length
    · rw [if_pos q] at e
      rw [if_pos ⟨q.1, by rw [← rs.len]; exact q.2⟩]
      cases e
      exact ⟨_, rfl, hs⟩
    · rw [if_neg q] at e
      rw [if_neg (by rw [← rs.len]; exact q)]
      obtain ⟨v, e1, e2⟩ := rs.sl j t e
      exact ⟨v, e1, mv t v e2⟩
  · rw [get_set] at e1 e2 f1 f2
    rw [← rs.len] at f1 f2
    by_cases q1 : i = j ∧ j < ρ.length
    · by_cases q2 : i = k ∧ k < ρ.length
      · exact q1.1.symm.trans q2.1
      · rw [if_pos q1] at f1
        rw [if_neg q2] at e2 f2
        cases f1
        exact absurd f2 (no k u e2 o2)
    · by_cases q2 : i = k ∧ k < ρ.length
      · rw [if_pos q2] at f2
        rw [if_neg q1] at e1 f1
        cases f2
        exact absurd f1 (no j t e1 o1)
      · rw [if_neg q1] at e1 f1
        rw [if_neg q2] at e2 f2
        exact rs.ap j k t u v e1 e2 o1 o2 f1 f2
/-- an owner's thing is changed -/
theorem RelS.chg {i : Nat} {s s' : Sl} {a : Addr} {o : HO} (rs : RelS C W H0 U σ H ρ) (e : ρ[i]? = some (some s)) (es : σ[i]? = some (some (.ref a))) (os : s.owned = true) (os' : s'.owned = true) (hs : SlOk C W H0 U (upd H a o) s' (.ref a)) : RelS C W H0 U σ (upd H a o) (ρ.set i (some s')) := by
  have hi : i < ρ.length := (List.getElem?_eq_some_iff.mp e).1
  have no : ∀ (k : Nat) t v, k ≠ i → ρ[k]? = some (some t) → SlOk C W H0 U H t v → σ[k]? = some (some v) → SlOk C W H0 U (upd H a o) t v := fun k t v nk e1 h e2 => by
    cases t with
    | sh d => exact h
    | thk => exact h
    | owL xs =>
      obtain ⟨b, ys, e3, e4, e5⟩ := h
      refine ⟨b, ys, e3, ?_, e5⟩
      rw [upd_ne]
      · exact e4
      · intro z
        subst z
        subst e3
        exact nk (rs.ap k i _ s _ e1 e rfl os e2 es)
    | owI c ns ds =>
      obtain ⟨b, dx, vs, e3, e4, e5⟩ := h
      refine ⟨b, dx, vs, e3, ?_, e5⟩
      rw [upd_ne]
      · exact e4
      · intro z
        subst z
        subst e3
        exact nk (rs.ap k i _ s _ e1 e rfl os e2 es)
  refine ⟨by rw [List.length_set]; exact rs.len, fun j t e' => ?_, fun j k t u v e1 e2 o1 o2 f1 f2 => ?_⟩
  · rw [get_set] at e'
    by_cases q : i = j ∧ j < ρ.length
    · rw [if_pos q] at e'
      cases e'
      obtain ⟨q1, _⟩ := q
      subst q1
      exact ⟨_, es, hs⟩
    · rw [if_neg q] at e'
      have nj : j ≠ i := fun z => q ⟨z.symm, by rw [z]; exact hi⟩
      obtain ⟨v, e1, e2⟩ := rs.sl j t e'
      exact ⟨v, e1, no j t v nj e' e2 e1⟩
  · rw [get_set] at e1 e2
    by_cases q1 : i = j ∧ j < ρ.length
    · by_cases q2 : i = k ∧ k < ρ.length
      · exact q1.1.symm.trans q2.1
      · rw [if_neg q2] at e2
        rw [← q1.1] at f1 ⊢
        exact rs.ap i k s u v e e2 os o2 f1 f2
    · by_cases q2 : i = k ∧ k < ρ.length
      · rw [if_neg q1] at e1
        rw [← q2.1] at f2 ⊢
        exact rs.ap j i t s v e1 e o1 os f1 f2
      · rw [if_neg q1] at e1
        rw [if_neg q2] at e2
        exact rs.ap j k t u v e1 e2 o1 o2 f1 f2
theorem RelH.chg {a : Addr} {o : HO} (rh : RelH C W H S) (g : W.G a = none) (b : a ∉ W.B) (ht : ∀ ps, H a ≠ some (.tbl ps)) (hc : ∀ c q, H a ≠ some (LamX.CodeO c q)) (ho : ∀ ps, o ≠ .tbl ps := by intro ps z; exact nomatch z) : RelH C W (upd H a o) S := by
  refine ⟨fun x u h => ?_, rh.len, rh.nd, fun i x z e1 e2 => ?_, fun q hq => ?_, rh.nt, ta_put rh.ta ho⟩
  · rw [upd_ne (ne_of_none h g)]
    exact rh.g x u h
  · have nb : x ≠ a := fun z => b (z ▸ List.mem_of_getElem? e1)
    obtain ⟨f1, f2⟩ := rh.bx i x z e1 e2
    exact ⟨f1, f2.move (Ext.refl W) (upd_ne nb)⟩
  · obtain ⟨ps, h1, h2, h3⟩ := rh.tab q hq
    refine ⟨ps, ?_, h2, fun pos cv hcv => ?_⟩
    · rw [upd_ne]
      · exact h1
      · intro z
        rw [z] at h1
        exact ht _ h1
    · obtain ⟨c, e1, e2⟩ := h3 pos cv hcv
      refine ⟨c, e1, ?_⟩
      rw [upd_ne]
      · exact e2
      · intro z
        rw [z] at e2
        exact hc _ _ e2
theorem Step.chg {a : Addr} {o : HO} (st : Step U W0 H0 W H) (h : H0 a = none ∨ a ∈ U) : Step U W0 H0 W (upd H a o) := by
  refine ⟨st.x, fun b e => ?_, fun b u e n nu nt => ?_, st.gn, st.bn⟩
  · by_cases q : b = a
    · rw [q, upd_same] at e
      cases e
    · rw [upd_ne q] at e
      exact st.dom b e
  · rw [upd_ne]
    · exact st.fr b u e n nu nt
    · intro z
      subst z
      rcases h with h | h
      · rw [e] at h
        cases h
      · exact nu h
end
end DL
end
-- DLSt2
section
set_option maxHeartbeats 4000000
namespace DL
open PySem PySem.Spec L2
section
variable {C : Ct} {Z : WX} {W0 : Wd} {H0 : Hp} {U : List Addr} {X : Cx} {e e' : Expr} {es : List Expr} {st : Stmt} {rest : List Stmt} {m : Ro → Store → Out D} {ms : Ro → Store → Out (List D)} {pos p p' : Pos} {f g : Ro → Store → OutS}
theorem ss_nil : PSs X [] (tS C Z W0 H0 U fun ρ S => .nx ρ S) := PSs.imp pss_nil fun E σ H h => by
  obtain ⟨W, ρ, S, s0, rh, rs, q⟩ := h
  exact q σ W H s0 (Ext.refl _) rh rs
theorem seq_rd {E : Ends} {σ : L2.St} {H : Hp} (h : tS C Z W0 H0 U (fun ρ S => (f ρ S).andThen fun ρ1 S1 => g ρ1 S1) E σ H) : tSeq (tS C Z W0 H0 U f) (tS C Z W0 H0 U g) E σ H := by
  obtain ⟨W, ρ, S, s0, rh, rs, q⟩ := h
  refine ⟨W, ρ, S, s0, rh, rs, ?_⟩
  dsimp only at q
  cases o : f ρ S with
  | nx ρ1 S1 =>
    rw [o] at q
    exact fun σ1 W1 H1 s1 x1 r1 rs1 => ⟨W1, ρ1, S1, s1, r1, rs1, PostS.up (o := g ρ1 S1) q x1⟩
  | rt d S1 =>
    rw [o] at q
    exact q
  | bk ρ1 S1 =>
    rw [o] at q
    exact q
  | ct ρ1 S1 =>
    rw [o] at q
    exact q
  | er e ρ1 S1 =>
    rw [o] at q
    exact q
  | stk =>
    rw [o] at q
    exact q
theorem ss_cons (h1 : PS X st (tS C Z W0 H0 U f)) (h2 : PSs X rest (tS C Z W0 H0 U g)) : PSs X (st :: rest) (tS C Z W0 H0 U fun ρ S => (f ρ S).andThen fun ρ1 S1 => g ρ1 S1) :=
  PSs.imp (pss_cons h1 h2) fun E σ H h => seq_rd h
/-- a statement, then an expression that is its head -/
theorem exp_rd {k : D → Store → Ro → OutS} {E : Ends} {σ : L2.St} {H : Hp} {Q : VK} (h : tS C Z W0 H0 U (fun ρ S => (m ρ S).then ρ fun d S1 => k d S1 ρ) E σ H)
    (hq : ∀ W1 H1 S1 ρ d v, Step U W0 H0 W1 H1 → RelH C W1 H1 S1 → RelS C W1 H0 U σ H1 ρ → Den C W1 d v → PostS C Z W0 H0 U E W1 (k d S1 ρ) → Q v H1) : tE C Z m σ H Q := by
  obtain ⟨W, ρ, S, s0, rh, rs, q⟩ := h
  refine ⟨W, H0, U, ρ, S, rh, rs, st_exp s0 rs q fun x S1 W1 H1 _ s1 r1 q1 v hv => ?_⟩
  exact hq W1 H1 S1 ρ x v (s0.trans s1.up) r1 (rs.step s1) hv q1
theorem exps_rd {k : List D → Store → Ro → OutS} {E : Ends} {σ : L2.St} {H : Hp} {Q : List V → Hp → Prop} (h : tS C Z W0 H0 U (fun ρ S => (ms ρ S).then ρ fun d S1 => k d S1 ρ) E σ H)
    (hq : ∀ W1 H1 S1 ρ d v, Step U W0 H0 W1 H1 → RelH C W1 H1 S1 → RelS C W1 H0 U σ H1 ρ → DenL C W1 d v → PostS C Z W0 H0 U E W1 (k d S1 ρ) → Q v H1) : tAs C Z ms σ H Q := by
  obtain ⟨W, ρ, S, s0, rh, rs, q⟩ := h
  refine ⟨W, H0, U, ρ, S, rh, rs, st_exp s0 rs q fun x S1 W1 H1 _ s1 r1 q1 v hv => ?_⟩
  exact hq W1 H1 S1 ρ x v (s0.trans s1.up) r1 (rs.step s1) hv q1
theorem ss_asg {i : Nat} {x : Str} (hN : X.N.Nodup) (hi : X.N[i]? = some x) (hx : Loc X.env.scope x) (hf : X.fn x = true) (hs : swapsWith e (some (.Name x p')) pos.line X.env = pure false) (he : PE X e (tE C Z m)) :
    PS X (.Assign [.Name x p'] e pos) (tS C Z W0 H0 U fun ρ S => (m ρ S).then ρ fun d S1 => .nx (ρ.set i (some (.sh d))) S1) :=
  PS.imp (ps_set hN hi hx he hs (.inl hf)) fun E σ H h => exp_rd (k := fun d S1 ρ => .nx (ρ.set i (some (.sh d))) S1) h fun W1 H1 S1 ρ d v s1 r1 rs1 hv q => q _ W1 H1 s1 (Ext.refl _) r1 (rs1.sh hv)
theorem ss_expr (hs : swapsWith e none pos.line X.env = pure false) (he : PE X e (tE C Z m)) : PS X (.Expr e pos) (tS C Z W0 H0 U fun ρ S => (m ρ S).then ρ fun _ S1 => .nx ρ S1) :=
  PS.imp (ps_expr he hs) fun E σ H h => exp_rd (k := fun _ S1 ρ => .nx ρ S1) h fun W1 H1 S1 ρ d v s1 r1 rs1 hv q => q _ W1 H1 s1 (Ext.refl _) r1 rs1
theorem ss_ret (he : PE X e (tE C Z m)) : PS X (.Return (some e) pos) (tS C Z W0 H0 U fun ρ S => (m ρ S).then ρ fun d S1 => .rt d S1) :=
  PS.imp (ps_ret he) fun E σ H h => exp_rd (k := fun d S1 _ => .rt d S1) h fun W1 H1 S1 ρ d v s1 r1 rs1 hv q => q v W1 H1 s1 (Ext.refl _) r1 hv
theorem ss_retN : PS X (.Return none pos) (tS C Z W0 H0 U fun _ S => .rt .non S) := PS.imp ps_retN fun E σ H h => by
  obtain ⟨W, ρ, S, s0, rh, rs, q⟩ := h
  exact q _ W H s0 (Ext.refl _) rh (of_non)
theorem ss_pass : PS X (.Pass pos) (tS C Z W0 H0 U fun ρ S => .nx ρ S) := PS.imp ps_pass fun E σ H h => by
  obtain ⟨W, ρ, S, s0, rh, rs, q⟩ := h
  exact q σ W H s0 (Ext.refl _) rh rs
theorem ss_if {c : Expr} {a b : List Stmt} {mc : Ro → Store → Out D} (hc : PT X c (tT C Z fun ρ S => (mc ρ S).bind truD)) (ha : PSs X a (tS C Z W0 H0 U f)) (hb : PSs X b (tS C Z W0 H0 U g)) :
    PS X (.If c a b pos) (tS C Z W0 H0 U fun ρ S => ((mc ρ S).bind truD).then ρ fun t S1 => if t then f ρ S1 else g ρ S1) :=
  PS.imp (ps_if hc ha hb) fun E σ H h => by
    obtain ⟨W, ρ, S, s0, rh, rs, q⟩ := h
    refine ⟨W, H0, U, ρ, S, rh, rs, st_exp s0 rs q fun t S1 W1 H1 _ s1 r1 q1 => ?_⟩
    cases t with
    | true => exact ⟨W1, ρ, S1, s0.trans s1.up, r1, rs.step s1, q1⟩
    | false => exact ⟨W1, ρ, S1, s0.trans s1.up, r1, rs.step s1, q1⟩
/-- x = [..], a list that this def will change -/
theorem ss_own {i : Nat} {x : Str} (hN : X.N.Nodup) (hi : X.N[i]? = some x) (hx : Loc X.env.scope x) (hf : X.fn x = true) (ha : PA X es (tAs C Z ms)) :
    PS X (.Assign [.Name x p'] (.List es p) pos) (tS C Z W0 H0 U fun ρ S => (ms ρ S).then ρ fun ds S1 => if ds.length ≤ most then .nx (ρ.set i (some (.owL ds))) S1 else .stk) :=
  PS.imp (ps_set hN hi hx (pe_lst ha) rfl (.inl hf)) fun E σ H h => exps_rd (k := fun ds S1 ρ => if ds.length ≤ most then .nx (ρ.set i (some (.owL ds))) S1 else .stk) h fun W1 H1 S1 ρ ds vs s1 r1 rs1 hv q => by
    split at q
    · rename_i hl
      rw [hv.length] at hl
      refine ⟨most_line hl, fun a na => ?_⟩
      have fr := r1.fresh na
      refine q _ W1 _ (s1.trans (Step.loose na).up) (Ext.refl _) (r1.loose na) (rs1.own na (fun b nb => upd_ne nb) ⟨a, vs, rfl, upd_same, hv, fr.1, fr.2, ?_⟩)
      exact s1.dom a na
    · exact q.elim
/-- the slot of a name -/
theorem pe_slot {i : Nat} {x : Str} (hi : X.N[i]? = some x) (hv : Vis X.env.scope x) (hd : (x == ("__debug__" : Str)) = false) (hcd : (x == ("__classdict__" : Str)) = false) : PE X (.Name x p) (tVar i) := pe_var hi hv hd hcd
theorem denL_set {W : Wd} : ∀ {ds : List D} {vs : List V} (i : Nat) {d : D} {v : V}, DenL C W ds vs → Den C W d v → DenL C W (ds.set i d) (vs.set i v)
  | [], vs, i, d, v, h, k => by
    unfold DenL at h
    rw [h]
    exact DenL.nil
  | x :: ds, vs, 0, d, v, h, k => by
    unfold DenL at h
    obtain ⟨u, r, rfl, e2, e3⟩ := h
    exact DenL.cons k e3
  | x :: ds, vs, i + 1, d, v, h, k => by
    unfold DenL at h
    obtain ⟨u, r, rfl, e2, e3⟩ := h
    exact DenL.cons e2 (denL_set i e3 k)
theorem set_ix {W : Wd} {xs ys : List D} {vs : List V} {k : Int} {d : D} {v : V} (h : setD xs k d = some ys) (dl : DenL C W xs vs) (hv : Den C W d v) : ∃ j, ixN vs.length k = some j ∧ DenL C W ys (vs.set j v) := by
  unfold setD at h
  split at h
  · rename_i hk
    cases h
    refine ⟨k.toNat, ?_, denL_set _ dl hv⟩
    unfold ixN
    have hl := dl.length
    rw [if_pos hk.1, if_pos (by omega)]
  · cases h
theorem asg_sub {o k : Expr} {q : Pos} {env : Env} (h : ∀ a b c d, k ≠ .Slice a b c d) (v : Value) : assign (.Subscript o k q) env v = (do
      let ov ← holding [v] (eval o env)
      let iv ← holding [v, ov] (eval k env)
      standAt q
      holding [v, ov, iv] (setItem ov iv v)
      release [v, ov, iv] []) := by
  cases k <;> first | rfl | exact absurd rfl (h _ _ _ _)
def kSetI (i : Nat) (mk : Ro → Store → Out D) (v : D) (S1 : Store) (ρ : Ro) : OutS := match (ρ[i]? : Option (Option Sl)) with
    | some (some (.owL xs)) => (mk ρ S1).then ρ fun k S2 => match k with
      | .int k => (match setD xs k v with
        | some ys => .nx (ρ.set i (some (.owL ys))) S2
        | none => .stk)
      | _ => .stk
    | _ => .stk
/-- x[k] = e on a list that this def owns -/
theorem ss_setI {i : Nat} {x : Str} {mk : Ro → Store → Out D} (hi : X.N[i]? = some x) (hv : Vis X.env.scope x) (hd : (x == ("__debug__" : Str)) = false) (hcd : (x == ("__classdict__" : Str)) = false)
    (hs : swapsWithSole [.Subscript (.Name x p) e' p'] e pos.line X.env = pure false) (hw : swappedStores [.Subscript (.Name x p) e' p'] e X.env = pure none) (hns : ∀ a b c d, e' ≠ .Slice a b c d) (he : PE X e (tE C Z m)) (hk : PE X e' (tE C Z mk)) :
    PS X (.Assign [.Subscript (.Name x p) e' p'] e pos) (tS C Z W0 H0 U fun ρ S => (m ρ S).then ρ fun v S1 => kSetI i mk v S1 ρ) := by
  refine PS.imp (ps_asg he (pg_sub (pe_slot hi hv hd hcd) hk set_list (asg_sub hns)) hs hw) fun E σ H h => exp_rd (k := kSetI i mk) h fun W1 H1 S1 ρ d v s1 r1 rs1 hv q => ?_
  unfold kSetI at q
  split at q
  · rename_i xs o
    obtain ⟨u, eu, hsl⟩ := rs1.sl i _ o
    obtain ⟨a, ys, rfl, ha, dl, fl⟩ := id hsl
    refine ⟨_, eu, W1, H0, U, ρ, S1, r1, rs1, st_exp s1 rs1 q fun k S2 W2 H2 _ s2 r2 q2 w hw2 => ?_⟩
    have rs2 := rs1.step s2
    obtain ⟨u2, eu2, hsl2⟩ := rs2.sl i _ o
    rw [eu] at eu2
    cases eu2
    obtain ⟨a2, ys2, e2, ha2, dl2, fl2⟩ := id hsl2
    cases e2
    split at q2
    · split at q2
      · rename_i zs hz
        obtain ⟨j, hj, dz⟩ := set_ix hz dl2 (Den.ext s2.x _ _ hv)
        refine ⟨a, ys2, _, j, rfl, den_int hw2, ha2, hj, ?_⟩
        have st := (s1.trans s2.up)
        refine q2 σ W2 _ (st.chg (.inl fl2.2.2)) (Ext.refl _) (r2.chg fl2.1 fl2.2.1 (fun ps z => by rw [ha2] at z; cases z) (fun c q z => by rw [ha2] at z; cases z)) ?_
        exact rs2.chg o eu rfl rfl ⟨a, _, rfl, upd_same, dz, fl2⟩
      · exact q2.elim
    · exact q2.elim
  · exact q.elim
/-- x.append(e) on such a list -/
theorem ss_app {i : Nat} {x : Str} {ap : Pos} (hi : X.N[i]? = some x) (hv : Vis X.env.scope x) (hd : (x == ("__debug__" : Str)) = false) (hcd : (x == ("__classdict__" : Str)) = false) (hst : ∀ x p, e ≠ .Starred x p) (hline : (ap.endLine == p'.line) = true) (he : PE X e (tE C Z m)) :
    PS X (.Expr (.Call (.Attribute (.Name x p) "append" ap) [e] [] p') pos) (tS C Z W0 H0 U fun ρ S => match (ρ[i]? : Option (Option Sl)) with
      | some (some (.owL xs)) => (m ρ S).then ρ fun v S1 => if xs.length < most then .nx (ρ.set i (some (.owL (xs ++ [v])))) S1 else .stk
      | _ => .stk) := by
  have hfew : ((backTo p' (starEach [e] X.env)).all (fun x => !x.1) && (backToKw p' (keywordEach [] X.env)).all (fun x => x.1.isSome)
      && decide ([e].length + ([] : List Keyword).length + (if ([] : List Keyword).isEmpty then 0 else 1) < 30)) = true := by
    rw [star_of hst]
    rfl
  refine PS.imp (ps_expr (pe_bm PySem.F.plainAttrs_list PySem.F.slot_list_append PySem.F.type_list_append mt_append (pe_slot hi hv hd hcd) (pa_cons he pa_nil (star_of hst)) (hfew := hfew) (hline := hline) (hs := star_of hst))) fun E σ H h => ?_
  obtain ⟨W, ρ, S, s0, rh, rs, q⟩ := h
  dsimp only at q
  split at q
  · rename_i xs o
    obtain ⟨u, eu, hsl⟩ := rs.sl i _ o
    obtain ⟨a, ys, rfl, ha, dl, fl⟩ := id hsl
    refine ⟨_, eu, .inl ⟨rfl, _, SqL.of ha⟩, W, H0, U, ρ, S, rh, rs, st_exp s0 rs q fun d S2 W2 H2 _ s2 r2 q2 w hw2 => ?_⟩
    have rs2 := rs.step s2
    obtain ⟨u2, eu2, hsl2⟩ := rs2.sl i _ o
    rw [eu] at eu2
    cases eu2
    obtain ⟨a2, ys2, e2, ha2, dl2, fl2⟩ := id hsl2
    cases e2
    split at q2
    · rename_i hl
      refine ⟨a, ys2, w, rfl, rfl, ha2, ?_, ?_⟩
      · have := dl2.length
        have h2 := most_line (Nat.le_of_lt hl)
        have h3 : (most : Nat) < sizeLine := by
          rw [sizeLine_eq]
          decide
        omega
      · refine q2 σ W2 _ ((s0.trans s2.up).chg (.inl fl2.2.2)) (Ext.refl _) (r2.chg fl2.1 fl2.2.1 (fun ps z => by rw [ha2] at z; cases z) (fun c q z => by rw [ha2] at z; cases z)) ?_
        exact rs2.chg o eu rfl rfl ⟨a, _, rfl, upd_same, dl2.append (DenL.cons hw2 DenL.nil), fl2⟩
    · exact q2.elim
  · exact q.elim
/-- an owned list is handed on: from here on it never changes -/
theorem frz_rd {i : Nat} {E : Ends} {σ : L2.St} {H : Hp} (h : tS C Z W0 H0 U (fun ρ S => (match (ρ[i]? : Option (Option Sl)) with
      | some (some (.owL xs)) => OutS.nx (ρ.set i (some (.sh (.lst xs)))) S
      | _ => .stk).andThen fun ρ1 S1 => g ρ1 S1) E σ H) : tS C Z W0 H0 U g E σ H := by
  obtain ⟨W, ρ, S, s0, rh, rs, q⟩ := h
  dsimp only at q
  split at q
  · rename_i xs o
    obtain ⟨u, eu, hsl⟩ := rs.sl i _ o
    obtain ⟨a, ys, rfl, ha, dl, fl⟩ := id hsl
    have s1 : Step U W0 H0 (W.put a (.lst ys)) H := by
      refine ⟨s0.x.trans (Ext.put fl.1), s0.dom, s0.fr, fun b hb => ?_, s0.bn⟩
      by_cases z : b = a
      · rw [z]
        exact .inr fl.2.2
      · have hb : upd W.G a (.lst ys) b ≠ none := hb
        rw [upd_ne z] at hb
        exact s0.gn b hb
    have r1 : RelH C (W.put a (.lst ys)) H S := by
      refine ⟨fun b u hb => ?_, rh.len, rh.nd, fun k b z e1 e2 => ?_, rh.tab, nt_put rh.nt (fun ps z => nomatch z), rh.ta⟩
      · have hb : upd W.G a (.lst ys) b = some u := hb
        by_cases z : b = a
        · rw [z] at hb ⊢
          rw [upd_same] at hb
          rw [ha]
          exact hb
        · rw [upd_ne z] at hb
          exact rh.g b u hb
      · have nb : b ≠ a := fun z => fl.2.1 (z ▸ List.mem_of_getElem? e1)
        obtain ⟨f1, f2⟩ := rh.bx k b z e1 e2
        refine ⟨fun hm => ?_, f2.move (Ext.put fl.1) rfl⟩
        show upd W.G a _ b = none
        rw [upd_ne nb]
        exact f1 hm
    refine ⟨W.put a (.lst ys), _, S, s1, r1, ?_, PostS.up (o := g _ S) q (Ext.put fl.1)⟩
    have hi : i < ρ.length := (List.getElem?_eq_some_iff.mp o).1
    refine ⟨by rw [List.length_set]; exact rs.len, fun j t e => ?_, fun j k t u v e1 e2 o1 o2 f1 f2 => ?_⟩
    · rw [get_set] at e
      by_cases z : i = j ∧ j < ρ.length
      · rw [if_pos z] at e
        cases e
        obtain ⟨z, _⟩ := z
        subst z
        refine ⟨_, eu, ?_⟩
        show Den C (W.put a (.lst ys)) (.lst xs) (.ref a)
        exact lst_new fl.1 dl
      · rw [if_neg z] at e
        have nj : j ≠ i := fun y => z ⟨y.symm, by rw [y]; exact hi⟩
        obtain ⟨v, e1, e2⟩ := rs.sl j t e
        refine ⟨v, e1, ?_⟩
        have na : t.owned = true → v ≠ .ref a := fun ot y => by
          rw [y] at e1
          exact nj (rs.ap j i t _ _ e o ot rfl e1 eu)
        cases t with
        | sh d => exact Den.ext (Ext.put fl.1) d v e2
        | thk => exact e2
        | owL zs =>
          obtain ⟨b, ws, rfl, c2, c3, c4⟩ := e2
          have nb : b ≠ a := fun y => na rfl (by rw [y])
          exact ⟨b, ws, rfl, c2, DenL.ext (Ext.put fl.1) _ _ c3, by show upd W.G a _ b = none; rw [upd_ne nb]; exact c4.1, c4.2.1, c4.2.2⟩
        | owI c ns ds =>
          obtain ⟨b, dx, ws, rfl, c2, c3, c4, c5⟩ := e2
          have nb : b ≠ a := fun y => na rfl (by rw [y])
          exact ⟨b, dx, ws, rfl, c2, c3, DenL.ext (Ext.put fl.1) _ _ c4, by show upd W.G a _ b = none; rw [upd_ne nb]; exact c5.1, c5.2.1, c5.2.2⟩
    · rw [get_set] at e1 e2
      split at e1
      · cases e1
        cases o1
      · split at e2
        · cases e2
          cases o2
        · exact rs.ap j k t u v e1 e2 o1 o2 f1 f2
  · exact q.elim
end
end DL
end
-- DLSt3
section
set_option maxHeartbeats 4000000
namespace DL
open PySem PySem.Spec L2
/-! ### fields -/
theorem put2_fst {α β : Type} (f : Str) (x : α) (y : β) : ∀ (ns : List Str) (ds : List α) (vs : List β), ds.length = ns.length → vs.length = ns.length → (put2 ns ds f x).1 = (put2 ns vs f y).1
  | [], [], [], _, _ => by
    unfold put2
    rfl
  | n :: ns, d :: ds, v :: vs, h1, h2 => by
    unfold put2
    split
    · rfl
    · simp only
      rw [put2_fst f x y ns ds vs (by simpa using h1) (by simpa using h2)]
theorem put2_zip (f : Str) (y : V) : ∀ (ns : List Str) (vs : List V), vs.length = ns.length → putF f y (ns.zip vs) = (put2 ns vs f y).1.zip (put2 ns vs f y).2 ∧ (put2 ns vs f y).2.length = (put2 ns vs f y).1.length
  | [], [], _ => by
    unfold put2
    exact ⟨rfl, rfl⟩
  | n :: ns, v :: vs, h => by
    unfold put2
    show (if n = f then _ else _) = _ ∧ _
    by_cases q : n = f
    · simp only [if_pos q]
      refine ⟨rfl, ?_⟩
      simpa using h
    · obtain ⟨i1, i2⟩ := put2_zip f y ns vs (by simpa using h)
      simp only [if_neg q]
      have i1 : putF f y (List.zipWith Prod.mk ns vs) = _ := i1
      rw [i1]
      exact ⟨rfl, by rw [List.length_cons, List.length_cons, i2]⟩
theorem put2_den {C : Ct} {W : Wd} (f : Str) {x : D} {y : V} (h : Den C W x y) : ∀ (ns : List Str) (ds : List D) (vs : List V), vs.length = ns.length → DenL C W ds vs → DenL C W (put2 ns ds f x).2 (put2 ns vs f y).2
  | [], [], vs, hl, k => by
    unfold DenL at k
    subst k
    unfold put2
    exact DenL.cons h DenL.nil
  | [], d :: ds, vs, hl, k => by
    unfold DenL at k
    obtain ⟨v, r, rfl, _, _⟩ := k
    cases hl
  | n :: ns, [], vs, hl, k => by
    unfold DenL at k
    subst k
    cases hl
  | n :: ns, d :: ds, vs, hl, k => by
    unfold DenL at k
    obtain ⟨v, r, rfl, e2, e3⟩ := k
    unfold put2
    split
    · exact DenL.cons h e3
    · exact DenL.cons e2 (put2_den f h ns ds r (by simpa using hl) e3)
theorem put2_lenF {α : Type} (f : Str) (y : α) : ∀ (ns : List Str) (vs : List α), (put2 ns vs f y).1.length ≤ ns.length + 1
  | [], _ => by
    unfold put2
    simp
  | n :: ns, [] => by
    unfold put2
    simp
  | n :: ns, v :: vs => by
    unfold put2
    split
    · simp
    · have := put2_lenF f y ns vs
      simp
      omega
theorem lk2_zip {C : Ct} {W : Wd} (f : Str) : ∀ (ns : List Str) (ds : List D) (vs : List V) {d : D}, vs.length = ns.length → DenL C W ds vs → lk2 ns ds f = some d → ∃ v, (ns.zip vs).lookup f = some v ∧ Den C W d v
  | [], _, _, d, _, _, e => by
    unfold lk2 at e
    cases e
  | n :: ns, [], vs, d, _, _, e => by
    unfold lk2 at e
    cases e
  | n :: ns, x :: ds, vs, d, hl, k, e => by
    unfold DenL at k
    obtain ⟨v, r, rfl, e2, e3⟩ := k
    unfold lk2 at e
    show ∃ w, ((n, v) :: ns.zip r).lookup f = some w ∧ _
    simp only [List.lookup]
    split at e
    · rename_i q
      subst q
      cases e
      have : (n == n) = true := beq_self_eq_true n
      rw [this]
      exact ⟨v, rfl, e2⟩
    · rename_i q
      have : (f == n) = false := by
        cases z : (f == n) with
        | false => rfl
        | true => exact absurd (eq_of_beq z).symm q
      rw [this]
      exact lk2_zip f ns ds r (by simpa using hl) e3 e
section
variable {C : Ct} {Z : WX} {W0 : Wd} {H0 : Hp} {U : List Addr} {X : Cx} {e e' : Expr} {es : List Expr} {st : Stmt} {rest : List Stmt} {m : Ro → Store → Out D} {ms : Ro → Store → Out (List D)} {pos p p' : Pos} {f g : Ro → Store → OutS}
/-- a class of plain instances: what the store and the read of its fields ask -/
def FldOk (K : PySem.W.Frag) (C : Ct) (c : Nat) (f : Str) : Prop := Cls K (C.ca c) ∧ NoAttr K (C.ca c) f
def kSetF (ok : Nat → Str → Bool) (fn : Str) (v : D) (S1 : Store) (ρ : Ro) : OutS := match (ρ[0]? : Option (Option Sl)) with
    | some (some (.owI c ns ds)) => if ns.length < 900 ∧ ok c fn = true then .nx (ρ.set 0 (some (.owI c (put2 ns ds fn v).1 (put2 ns ds fn v).2))) S1 else .stk
    | _ => .stk
/-- self.f = e in an __init__ -/
theorem ss_setF {x fn : Str} {ok : Nat → Str → Bool} (hok : ∀ c f, ok c f = true → FldOk X.K C c f) (hi : X.N[0]? = some x) (hv : Vis X.env.scope x) (hd : (x == ("__debug__" : Str)) = false) (hcd : (x == ("__classdict__" : Str)) = false)
    (hs : swapsWith e (some (.Attribute (.Name x p) fn p')) pos.line X.env = pure false) (he : PE X e (tE C Z m)) :
    PS X (.Assign [.Attribute (.Name x p) fn p'] e pos) (tS C Z W0 H0 U fun ρ S => (m ρ S).then ρ fun v S1 => kSetF ok fn v S1 ρ) := by
  refine PS.imp (ps_fld (pe_slot hi hv hd hcd) he hs) fun E σ H h => exp_rd (k := kSetF ok fn) h fun W1 H1 S1 ρ d v s1 r1 rs1 hv q => ?_
  unfold kSetF at q
  split at q
  · rename_i c ns ds o
    split at q
    · rename_i hq
      obtain ⟨hl, hf⟩ := hq
      obtain ⟨u, eu, hsl⟩ := rs1.sl 0 _ o
      obtain ⟨a, dx, vs, rfl, ha, hlv, dl, fr⟩ := id hsl
      obtain ⟨cl, na⟩ := hok c fn hf
      obtain ⟨pz, pl⟩ := put2_zip fn v ns vs hlv
      have hfst := put2_fst fn d v ns ds vs (by rw [dl.length, hlv]) hlv
      refine ⟨_, eu, a, _, dx, _, rfl, ha, cl, na, ?_, ?_⟩
      · rw [List.length_zip, hlv]
        omega
      · refine q σ W1 _ (s1.chg (.inr fr.2.2)) (Ext.refl _) (r1.chg fr.1 fr.2.1 (fun ps z => by rw [ha] at z; cases z) (fun c q z => by rw [ha] at z; cases z)) ?_
        refine rs1.chg o eu rfl rfl ⟨a, dx, _, rfl, ?_, ?_, put2_den fn hv ns ds vs hlv dl, fr⟩
        · rw [upd_same, pz, hfst]
        · rw [hfst]
          exact pl
    · exact q.elim
  · exact q.elim
def kSetB (i : Nat) (mk : Ro → Store → Out D) (v : D) (S1 : Store) (ρ : Ro) : OutS := (match (ρ[i]? : Option (Option Sl)) with
    | some (some (.sh d)) => Out.ok d S1
    | _ => .stk).then ρ fun o S2 => (mk ρ S2).then ρ fun k S3 => match o, k with
    | .box b, .int k => match S3[b]? with
      | some (.lst xs) => (match setD xs k v with
        | some ys => .nx ρ (S3.set b (.lst ys))
        | none => .stk)
      | _ => .stk
    | _, _ => .stk
theorem RelH.boxed {W : Wd} {H : Hp} {S : Store} {b : Nat} {a : Addr} {o : HO} {x y : Bx} (rh : RelH C W H S) (hb : W.B[b]? = some a) (hs : S[b]? = some x) (hmu : x.mut = true) (ht : ∀ ps, H a ≠ some (.tbl ps)) (hc : ∀ c q, H a ≠ some (LamX.CodeO c q)) (ok : BxOk C W (upd H a o) a y) (ho : ∀ ps, o ≠ .tbl ps := by intro ps z; exact nomatch z) : RelH C W (upd H a o) (S.set b y) := by
  have hg := (rh.bx b a x hb hs).1 hmu
  refine ⟨fun z u h => ?_, by rw [List.length_set]; exact rh.len, rh.nd, fun i z w e1 e2 => ?_, fun q hq => ?_, rh.nt, ta_put rh.ta ho⟩
  · rw [upd_ne (ne_of_none h hg)]
    exact rh.g z u h
  · by_cases q : i = b
    · subst q
      rw [hb] at e1
      cases e1
      rw [get_set, if_pos ⟨rfl, (List.getElem?_eq_some_iff.mp hs).1⟩] at e2
      cases e2
      exact ⟨fun _ => hg, ok⟩
    · rw [get_set, if_neg (fun z => q z.1.symm)] at e2
      have nz : z ≠ a := fun y => by
        rw [y] at e1
        have h1 := (List.getElem?_eq_some_iff.mp e1)
        have h2 := (List.getElem?_eq_some_iff.mp hb)
        exact q ((List.getElem_inj rh.nd).mp (h1.2.trans h2.2.symm))
      obtain ⟨f1, f2⟩ := rh.bx i z w e1 e2
      exact ⟨f1, f2.move (Ext.refl W) (upd_ne nz)⟩
  · obtain ⟨ps, h1, h2, h3⟩ := rh.tab q hq
    refine ⟨ps, ?_, h2, fun pos cv hcv => ?_⟩
    · rw [upd_ne]
      · exact h1
      · intro z
        rw [z] at h1
        exact ht _ h1
    · obtain ⟨c, e1, e2⟩ := h3 pos cv hcv
      refine ⟨c, e1, ?_⟩
      rw [upd_ne]
      · exact e2
      · intro z
        rw [z] at e2
        exact hc _ _ e2
theorem Step.boxed {W W1 : Wd} {H H1 : Hp} {b : Nat} {a : Addr} {o ho : HO} (st : Step U W H W1 H1) (hb : W1.B[b]? = some a) (h1 : H1 a = some ho) (hu : a ∈ W.B ∨ H a = none) : Step U W H W1 (upd H1 a o) := by
  refine ⟨st.x, fun c e => ?_, fun c u e n nu nt => ?_, st.gn, st.bn⟩
  · by_cases q : c = a
    · rw [q, upd_same] at e
      cases e
    · rw [upd_ne q] at e
      exact st.dom c e
  · rw [upd_ne]
    · exact st.fr c u e n nu nt
    · intro z
      subst z
      rcases hu with h | h
      · exact n h
      · rw [e] at h
        cases h
/-- pen[k] = e -/
theorem ss_setB {i : Nat} {x : Str} {mk : Ro → Store → Out D} (hi : X.N[i]? = some x) (hv : Vis X.env.scope x) (hd : (x == ("__debug__" : Str)) = false) (hcd : (x == ("__classdict__" : Str)) = false)
    (hs : swapsWithSole [.Subscript (.Name x p) e' p'] e pos.line X.env = pure false) (hw : swappedStores [.Subscript (.Name x p) e' p'] e X.env = pure none) (hns : ∀ a b c d, e' ≠ .Slice a b c d) (he : PE X e (tE C Z m)) (hk : PE X e' (tE C Z mk)) :
    PS X (.Assign [.Subscript (.Name x p) e' p'] e pos) (tS C Z W0 H0 U fun ρ S => (m ρ S).then ρ fun v S1 => kSetB i mk v S1 ρ) := by
  refine PS.imp (ps_asg he (pg_sub (pe_slot hi hv hd hcd) hk set_list (asg_sub hns)) hs hw) fun E σ H h => exp_rd (k := kSetB i mk) h fun W1 H1 S1 ρ d v s1 r1 rs1 hv q => ?_
  unfold kSetB at q
  cases o : (ρ[i]? : Option (Option Sl)) with
  | none =>
    rw [o] at q
    exact q.elim
  | some w =>
    rw [o] at q
    cases w with
    | none => exact q.elim
    | some w =>
      cases w with
      | owL xs => exact q.elim
      | owI c ns ds => exact q.elim
      | thk => exact q.elim
      | sh t =>
        obtain ⟨u, eu, hsl⟩ := rs1.sl i _ o
        have hsl : Den C W1 t u := hsl
        refine ⟨u, eu, W1, H0, U, ρ, S1, r1, rs1, st_exp s1 rs1 q fun k S2 W2 H2 _ s2 r2 q2 w hw2 => ?_⟩
        cases t with
        | box b =>
          cases k with
          | int k =>
            dsimp only at q2
            split at q2
            · rename_i xs hb
              split at q2
              · rename_i zs hz
                unfold Den at hsl
                obtain ⟨a, hba, rfl⟩ := hsl
                have hba2 := s2.x.bx hba
                obtain ⟨g1, ys, ha, dl⟩ := r2.bx b a _ hba2 hb
                obtain ⟨j, hj, dz⟩ := set_ix hz dl (Den.ext s2.x _ _ hv)
                refine ⟨a, ys, _, j, rfl, den_int hw2, ha, hj, ?_⟩
                have st := s1.trans s2.up
                refine q2 σ W2 _ (st.boxed hba2 ha (st.bn a (List.mem_of_getElem? hba2))) (Ext.refl _) (r2.boxed hba2 hb rfl (fun ps z => by rw [ha] at z; cases z) (fun c q z => by rw [ha] at z; cases z) ⟨_, upd_same, dz⟩) ?_
                have rs2 := rs1.step s2
                refine ⟨rs2.len, fun n t e => ?_, rs2.ap⟩
                obtain ⟨y, e1, e2⟩ := rs2.sl n t e
                refine ⟨y, e1, ?_⟩
                have am : a ∈ W2.B := List.mem_of_getElem? hba2
                cases t with
                | sh d => exact e2
                | thk => exact e2
                | owL zs =>
                  obtain ⟨b', ws, rfl, c2, c3, c4⟩ := e2
                  exact ⟨b', ws, rfl, by rw [upd_ne (fun y : b' = a => c4.2.1 (by rw [y]; exact am))]; exact c2, c3, c4⟩
                | owI c ns ds =>
                  obtain ⟨b', dx, ws, rfl, c2, c3, c4, c5⟩ := e2
                  exact ⟨b', dx, ws, rfl, by rw [upd_ne (fun y : b' = a => c5.2.1 (by rw [y]; exact am))]; exact c2, c3, c4, c5⟩
              · exact q2.elim
            · exact q2.elim
          | _ => exact q2.elim
        | _ => cases k <;> exact q2.elim
/-! ### for -/
/-- what holds between two turns: n of the items are done -/
def Turned (C : Ct) (Z : WX) (W0 : Wd) (H0 : Hp) (U : List Addr) (Wl : Wd) (i : Nat) (b : Ro → Store → OutS) (E : Ends) (xs : List D) (n : Nat) (σ : L2.St) (H : Hp) : Prop :=
  ∃ W ρ S, Step U W0 H0 W H ∧ RelH C W H S ∧ RelS C W H0 U σ H ρ ∧ Ext Wl W ∧ PostS C Z W0 H0 U E W (forL i b (xs.drop n) ρ S)
theorem turn_one {Wl : Wd} {i : Nat} {b : Ro → Store → OutS} {E : Ends} {xs : List D} {n : Nat} {d : D} {v : V} {σ : L2.St} {H : Hp} (t : Turned C Z W0 H0 U Wl i b E xs n σ H) (hx : xs[n]? = some d) (hv : Den C Wl d v) :
    tS C Z W0 H0 U b { E with nx := Turned C Z W0 H0 U Wl i b E xs (n + 1), ct := Turned C Z W0 H0 U Wl i b E xs (n + 1), bk := E.nx } (σ.set i (some v)) H := by
  obtain ⟨W, ρ, S, s0, rh, rs, ex, q⟩ := t
  have hd : xs.drop n = d :: xs.drop (n + 1) := by
    have hl := (List.getElem?_eq_some_iff.mp hx)
    rw [List.drop_eq_getElem_cons hl.1, hl.2]
  rw [hd] at q
  unfold forL at q
  refine ⟨W, ρ.set i (some (.sh d)), S, s0, rh, rs.sh (Den.ext ex _ _ hv), ?_⟩
  cases o : b (ρ.set i (some (.sh d))) S with
  | nx ρ1 S1 =>
    rw [o] at q
    exact fun σ1 W1 H1 s1 x1 r1 rs1 => ⟨W1, ρ1, S1, s1, r1, rs1, ex.trans x1, PostS.up (o := forL i b (xs.drop (n + 1)) ρ1 S1) q x1⟩
  | ct ρ1 S1 =>
    rw [o] at q
    exact fun σ1 W1 H1 s1 x1 r1 rs1 => ⟨W1, ρ1, S1, s1, r1, rs1, ex.trans x1, PostS.up (o := forL i b (xs.drop (n + 1)) ρ1 S1) q x1⟩
  | bk ρ1 S1 =>
    rw [o] at q
    exact q
  | rt d1 S1 =>
    rw [o] at q
    exact q
  | er e1 ρ1 S1 =>
    rw [o] at q
    exact q
  | stk =>
    rw [o] at q
    exact q
theorem turn_end {Wl : Wd} {i : Nat} {b : Ro → Store → OutS} {E : Ends} {xs : List D} {n : Nat} {σ : L2.St} {H : Hp} (t : Turned C Z W0 H0 U Wl i b E xs n σ H) (hn : xs.length ≤ n) : E.nx σ H := by
  obtain ⟨W, ρ, S, s0, rh, rs, ex, q⟩ := t
  rw [List.drop_eq_nil_of_le hn] at q
  exact q σ W H s0 (Ext.refl _) rh rs
variable {body : List Stmt} {b : Ro → Store → OutS} {i : Nat} {x : Str}
theorem ss_for_lst (hp : PassesOwn (model X.prog X.w) X.A X.env X.xe) (hc : X.calm = true) (hK : X.K = C.K) (hN : X.N.Nodup) (hi : X.N[i]? = some x) (hx : Loc X.env.scope x) (hf : X.fn x = true) (hset : ∀ v, foldedSetIterable e X.env v = pure v) (he : PE X e (tE C Z m)) (hb : PSs X body (tS C Z W0 H0 U b)) :
    PS X (.For (.Name x p) e body [] pos) (tS C Z W0 H0 U fun ρ S => ((m ρ S).bind fun x S1 => match x with
      | .lst xs => .ok xs S1
      | _ => .stk).then ρ fun xs S1 => forL i b xs ρ S1) :=
  PS.imp (ps_for hp hc (pi_list he) (pg_name hN hi hx (.inl hf)) hb (hs := hset)) fun E σ H h => by
    obtain ⟨W, ρ, S, s0, rh, rs, q⟩ := h
    refine ⟨W, H0, U, ρ, S, rh, rs, ?_⟩
    have q2 : PostS C Z W0 H0 U E W ((m ρ S).then ρ fun x S1 => (match x with | .lst xs => forL i b xs ρ S1 | _ => .stk)) := by
      dsimp only at q
      cases o : m ρ S with
      | ok x S1 =>
        rw [o] at q
        cases x <;> exact q
      | er _ _ =>
        rw [o] at q
        exact q
      | stk =>
        rw [o] at q
        exact q
    refine st_exp s0 rs q2 fun x S1 W1 H1 _ s1 r1 q1 v hv => ?_
    split at q1
    · rename_i xs _h
      obtain ⟨a, ys, rfl, ga, ha, dl⟩ := den_lst hv r1
      refine ⟨a, rfl, ⟨ys, SqL.of ha⟩, for_list (K := X.K) (xs := ys) (Turned C Z W0 H0 U W1 i b E xs) ⟨W1, ρ, S1, s0.trans s1.up, r1, rs.step s1, Ext.refl _, q1⟩ (fun n σ' H' _ t => ?_) (fun n y σ' H' hy t => ?_) (fun σ' H' t => turn_end t (by rw [dl.length]; exact Nat.le_refl _))⟩
      · obtain ⟨W2, ρ2, S2, s2, r2, _, x2, _⟩ := t
        exact SqL.of (r2.g _ _ (x2.g _ _ ga))
      · have hn : n < xs.length := by
          rw [dl.length]
          exact (List.getElem?_eq_some_iff.mp hy).1
        obtain ⟨y2, e1, e2⟩ := dl.get (List.getElem?_eq_getElem hn)
        rw [hy] at e1
        cases e1
        exact turn_one t (List.getElem?_eq_getElem hn) e2
    · exact q1.elim
theorem ss_for_tup (hp : PassesOwn (model X.prog X.w) X.A X.env X.xe) (hc : X.calm = true) (hK : X.K = C.K) (hN : X.N.Nodup) (hi : X.N[i]? = some x) (hx : Loc X.env.scope x) (hf : X.fn x = true) (hset : ∀ v, foldedSetIterable e X.env v = pure v) (he : PE X e (tE C Z m)) (hb : PSs X body (tS C Z W0 H0 U b)) :
    PS X (.For (.Name x p) e body [] pos) (tS C Z W0 H0 U fun ρ S => ((m ρ S).bind fun x S1 => match x with
      | .tup xs => .ok xs S1
      | _ => .stk).then ρ fun xs S1 => forL i b xs ρ S1) :=
  PS.imp (ps_for hp hc (pi_tup he) (pg_name hN hi hx (.inl hf)) hb (hs := hset)) fun E σ H h => by
    obtain ⟨W, ρ, S, s0, rh, rs, q⟩ := h
    refine ⟨W, H0, U, ρ, S, rh, rs, ?_⟩
    have q2 : PostS C Z W0 H0 U E W ((m ρ S).then ρ fun x S1 => (match x with | .tup xs => forL i b xs ρ S1 | _ => .stk)) := by
      dsimp only at q
      cases o : m ρ S with
      | ok x S1 =>
        rw [o] at q
        cases x <;> exact q
      | er _ _ =>
        rw [o] at q
        exact q
      | stk =>
        rw [o] at q
        exact q
    refine st_exp s0 rs q2 fun x S1 W1 H1 _ s1 r1 q1 v hv => ?_
    split at q1
    · rename_i xs _h
      obtain ⟨a, ys, rfl, ga, ha, dl⟩ := den_tup hv r1
      refine ⟨a, rfl, ⟨ys, SqT.of ha⟩, for_tup (K := X.K) (xs := ys) (Turned C Z W0 H0 U W1 i b E xs) ⟨W1, ρ, S1, s0.trans s1.up, r1, rs.step s1, Ext.refl _, q1⟩ (fun n σ' H' _ t => ?_) (fun n y σ' H' hy t => ?_) (fun σ' H' t => turn_end t (by rw [dl.length]; exact Nat.le_refl _))⟩
      · obtain ⟨W2, ρ2, S2, s2, r2, _, x2, _⟩ := t
        exact SqT.of (r2.g _ _ (x2.g _ _ ga))
      · have hn : n < xs.length := by
          rw [dl.length]
          exact (List.getElem?_eq_some_iff.mp hy).1
        obtain ⟨y2, e1, e2⟩ := dl.get (List.getElem?_eq_getElem hn)
        rw [hy] at e1
        cases e1
        exact turn_one t (List.getElem?_eq_getElem hn) e2
    · exact q1.elim
theorem ss_for_rng {rp : Pos} (hp : PassesOwn (model X.prog X.w) X.A X.env X.xe) (hc : X.calm = true) (hg : Gl X "range") (hmr : X.mg "range" = none) (hN : X.N.Nodup) (hi : X.N[i]? = some x) (hx : Loc X.env.scope x) (hf : X.fn x = true) (hst : ∀ y q, e ≠ .Starred y q) (he : PE X e (tE C Z m)) (hb : PSs X body (tS C Z W0 H0 U b)) :
    PS X (.For (.Name x p) (.Call (.Name "range" rp) [e] [] p') body [] pos) (tS C Z W0 H0 U fun ρ S => ((m ρ S).bind fun x S1 => match x with
      | .int n => if n < 2 ^ 60 ∧ -(2 ^ 60) < n then .ok ((List.range n.toNat).map fun k : Nat => D.int k) S1 else .stk
      | _ => .stk).then ρ fun xs S1 => forL i b xs ρ S1) :=
  PS.imp (ps_for hp hc (pi_range1 hg hmr (pa_cons he pa_nil (star_of hst)) (star_of hst)) (pg_name hN hi hx (.inl hf)) hb) fun E σ H h => by
    obtain ⟨W, ρ, S, s0, rh, rs, q⟩ := h
    refine ⟨W, H0, U, ρ, S, rh, rs, ?_⟩
    have q2 : PostS C Z W0 H0 U E W ((m ρ S).then ρ fun x S1 => (match x with | .int n => (if n < 2 ^ 60 ∧ -(2 ^ 60) < n then forL i b ((List.range n.toNat).map fun k : Nat => D.int k) ρ S1 else .stk) | _ => .stk)) := by
      dsimp only at q
      cases o : m ρ S with
      | ok x S1 =>
        rw [o] at q
        cases x with
        | int n =>
          simp only [Out.bind, Out.then] at q ⊢
          by_cases hn : n < 2 ^ 60 ∧ -(2 ^ 60) < n
          · rw [if_pos hn] at q ⊢
            exact q
          · rw [if_neg hn] at q
            exact q.elim
        | _ => exact q
      | er _ _ =>
        rw [o] at q
        exact q
      | stk =>
        rw [o] at q
        exact q
    refine st_exp s0 rs q2 fun x S1 W1 H1 _ s1 r1 q1 v hv => ?_
    split at q1
    · rename_i n _h
      split at q1
      · rename_i hn
        rw [den_int hv]
        have e62 : (2 : Int) ^ 62 = 4611686018427387904 := by decide
        have e60 : (2 : Int) ^ 60 = 1152921504606846976 := by decide
        rw [e60] at hn
        refine ⟨n, rfl, by rw [e62]; omega, by rw [e62]; omega, for_range (lo := 0) (n := n.toNat) (Turned C Z W0 H0 U W1 i b E ((List.range n.toNat).map fun k : Nat => D.int k)) ⟨W1, ρ, S1, s0.trans s1.up, r1, rs.step s1, Ext.refl _, q1⟩ (fun k σ' H' hk t => ?_) (fun σ' H' t => turn_end t (by simp))⟩
        refine turn_one (d := .int k) t (by simp [hk]) ?_
        rw [Int.zero_add]
        exact of_int
      · exact q1.elim
    · exact q1.elim
end
end DL
end
-- DLBx
section
set_option maxHeartbeats 4000000
namespace DL
open PySem PySem.Spec L2
variable {C : Ct} {Z : WX} {W0 : Wd} {H0 : Hp} {U : List Addr} {X : Cx} {e : Expr} {m : Ro → Store → Out D} {pos p p' : Pos} {g : Ro → Store → OutS}
/-- an owned list becomes a box -/
theorem lend_rd {i : Nat} {E : Ends} {σ : L2.St} {H : Hp} (h : tS C Z W0 H0 U (fun ρ S => (match (ρ[i]? : Option (Option Sl)) with
      | some (some (.owL xs)) => OutS.nx (ρ.set i (some (.sh (.box S.length)))) (S ++ [Bx.lst xs])
      | _ => .stk).andThen fun ρ1 S1 => g ρ1 S1) E σ H) : tS C Z W0 H0 U g E σ H := by
  obtain ⟨W, ρ, S, s0, rh, rs, q⟩ := h
  dsimp only at q
  split at q
  · rename_i xs o
    obtain ⟨u, eu, hsl⟩ := rs.sl i _ o
    obtain ⟨a, ys, rfl, ha, dl, fl⟩ := id hsl
    have s1 : Step U W0 H0 (W.bx a) H := by
      refine ⟨s0.x.trans Ext.bxs, s0.dom, s0.fr, s0.gn, fun b hb => ?_⟩
      have hb : b ∈ W.B ++ [a] := hb
      rcases List.mem_append.mp hb with z | z
      · exact s0.bn b z
      · rw [List.mem_singleton] at z
        rw [z]
        exact .inr fl.2.2
    have r1 : RelH C (W.bx a) H (S ++ [.lst xs]) := by
      refine ⟨rh.g, ?_, ?_, fun k c z e1 e2 => ?_, rh.tab, rh.nt, rh.ta⟩
      · show (W.B ++ [a]).length = (S ++ [_]).length
        rw [List.length_append, List.length_append, rh.len]
        rfl
      · show (W.B ++ [a]).Nodup
        rw [List.nodup_append]
        refine ⟨rh.nd, by simp, fun x hx y hy z => fl.2.1 ?_⟩
        rw [List.mem_singleton] at hy
        rw [← hy, ← z]
        exact hx
      · have e1 : (W.B ++ [a])[k]? = some c := e1
        by_cases hi : k < W.B.length
        · rw [List.getElem?_append_left hi] at e1
          rw [List.getElem?_append_left (by rw [← rh.len]; exact hi)] at e2
          obtain ⟨f1, f2⟩ := rh.bx k c z e1 e2
          exact ⟨f1, f2.move Ext.bxs rfl⟩
        · rw [List.getElem?_append_right (by omega)] at e1
          rw [List.getElem?_append_right (by rw [← rh.len]; omega)] at e2
          rw [← rh.len] at e2
          have hz : k - W.B.length = 0 := by
            have := (List.getElem?_eq_some_iff.mp e1).1
            simp at this
            omega
          rw [hz] at e1 e2
          simp at e1 e2
          subst e1
          subst e2
          exact ⟨fun _ => fl.1, ys, ha, DenL.ext Ext.bxs _ _ dl⟩
    refine ⟨W.bx a, _, _, s1, r1, ?_, PostS.up (o := g _ _) q Ext.bxs⟩
    refine ⟨by rw [List.length_set]; exact rs.len, fun j s e' => ?_, fun j k s t v ej ek oj ok ej' ek' => ?_⟩
    · by_cases hj : j = i
      · subst hj
        rw [get_set, if_pos ⟨rfl, (List.getElem?_eq_some_iff.mp o).1⟩] at e'
        cases e'
        refine ⟨_, eu, ?_⟩
        show Den C (W.bx a) (.box S.length) (.ref a)
        unfold Den
        refine ⟨a, ?_, rfl⟩
        show (W.B ++ [a])[S.length]? = some a
        rw [← rh.len, List.getElem?_append_right (Nat.le_refl _), Nat.sub_self]
        rfl
      · rw [get_set, if_neg (fun z => hj z.1.symm)] at e'
        obtain ⟨v, e1, e2⟩ := rs.sl j s e'
        refine ⟨v, e1, ?_⟩
        have nv : s.owned = true → v ≠ .ref a := fun os z => by
          rw [z] at e1
          exact hj (rs.ap j i s _ _ e' o os rfl e1 eu)
        cases s with
        | sh d => exact Den.ext Ext.bxs d v e2
        | thk => exact e2
        | owL zs =>
          obtain ⟨b, yb, rfl, c2, c3, c4⟩ := e2
          refine ⟨b, yb, rfl, c2, DenL.ext Ext.bxs _ _ c3, c4.1, fun z => ?_, c4.2.2⟩
          have z : b ∈ W.B ++ [a] := z
          rcases List.mem_append.mp z with z | z
          · exact c4.2.1 z
          · rw [List.mem_singleton] at z
            exact nv rfl (by rw [z])
        | owI c ns ds =>
          obtain ⟨b, dx, yb, rfl, c2, c3, c4, c5⟩ := e2
          refine ⟨b, dx, yb, rfl, c2, c3, DenL.ext Ext.bxs _ _ c4, c5.1, fun z => ?_, c5.2.2⟩
          have z : b ∈ W.B ++ [a] := z
          rcases List.mem_append.mp z with z | z
          · exact c5.2.1 z
          · rw [List.mem_singleton] at z
            exact nv rfl (by rw [z])
    · by_cases hj : j = i
      · subst hj
        rw [get_set, if_pos ⟨rfl, (List.getElem?_eq_some_iff.mp o).1⟩] at ej
        cases ej
        cases oj
      · rw [get_set, if_neg (fun z => hj z.1.symm)] at ej
        by_cases hk : k = i
        · subst hk
          rw [get_set, if_pos ⟨rfl, (List.getElem?_eq_some_iff.mp o).1⟩] at ek
          cases ek
          cases ok
        · rw [get_set, if_neg (fun z => hk z.1.symm)] at ek
          exact rs.ap j k s t v ej ek oj ok ej' ek'
  · exact q.elim
/-- a box changes no more: it is ground from here on -/
theorem frzB_rd {i : Nat} {E : Ends} {σ : L2.St} {H : Hp} (h : tS C Z W0 H0 U (fun ρ S => (match (ρ[i]? : Option (Option Sl)) with
      | some (some (.sh (.box b))) => (match S[b]? with
        | some (.lst xs) => OutS.nx (ρ.set i (some (.sh (.lst xs)))) (S.set b (.fro xs))
        | _ => .stk)
      | _ => .stk).andThen fun ρ1 S1 => g ρ1 S1) E σ H) : tS C Z W0 H0 U g E σ H := by
  obtain ⟨W, ρ, S, s0, rh, rs, q⟩ := h
  dsimp only at q
  split at q
  · rename_i b o
    split at q
    · rename_i xs hs
      obtain ⟨u, eu, hsl⟩ := rs.sl i _ o
      have hsl : Den C W (.box b) u := hsl
      unfold Den at hsl
      obtain ⟨a, hb, rfl⟩ := hsl
      obtain ⟨hg, ys, ha, dl⟩ := rh.bx b a _ hb hs
      have hg := hg rfl
      have ex : Ext W (W.put a (.lst ys)) := Ext.put hg
      have s1 : Step U W0 H0 (W.put a (.lst ys)) H := by
        refine ⟨s0.x.trans ex, s0.dom, s0.fr, fun c hc => ?_, s0.bn⟩
        by_cases z : c = a
        · rw [z]
          rcases s0.bn a (List.mem_of_getElem? hb) with y | y
          · exact .inl (.inr y)
          · exact .inr y
        · have hc : upd W.G a (.lst ys) c ≠ none := hc
          rw [upd_ne z] at hc
          exact s0.gn c hc
      have r1 : RelH C (W.put a (.lst ys)) H (S.set b (.fro xs)) := by
        refine ⟨fun c u hc => ?_, by rw [List.length_set]; exact rh.len, rh.nd, fun k c z e1 e2 => ?_, rh.tab, nt_put rh.nt (fun ps z => nomatch z), rh.ta⟩
        · have hc : upd W.G a (.lst ys) c = some u := hc
          by_cases z : c = a
          · rw [z] at hc ⊢
            rw [upd_same] at hc
            rw [ha]
            exact hc
          · rw [upd_ne z] at hc
            exact rh.g c u hc
        · by_cases hk : k = b
          · subst hk
            have e1 : W.B[k]? = some c := e1
            rw [hb] at e1
            cases e1
            rw [get_set, if_pos ⟨rfl, (List.getElem?_eq_some_iff.mp hs).1⟩] at e2
            cases e2
            exact ⟨fun z => (by cases z), ys, ha, DenL.ext ex _ _ dl⟩
          · rw [get_set, if_neg (fun z => hk z.1.symm)] at e2
            obtain ⟨f1, f2⟩ := rh.bx k c z e1 e2
            refine ⟨fun hm => ?_, f2.move ex rfl⟩
            have nz : c ≠ a := fun y => by
              have e1 : W.B[k]? = some c := e1
              rw [y] at e1
              have h1 := (List.getElem?_eq_some_iff.mp e1)
              have h2 := (List.getElem?_eq_some_iff.mp hb)
              exact hk ((List.getElem_inj rh.nd).mp (h1.2.trans h2.2.symm))
            show upd W.G a _ c = none
            rw [upd_ne nz]
            exact f1 hm
      refine ⟨W.put a (.lst ys), _, _, s1, r1, ?_, PostS.up (o := g _ _) q ex⟩
      have mb : a ∈ W.B := List.mem_of_getElem? hb
      refine ⟨by rw [List.length_set]; exact rs.len, fun j s e' => ?_, fun j k s t v ej ek oj ok ej' ek' => ?_⟩
      · by_cases hj : j = i
        · subst hj
          rw [get_set, if_pos ⟨rfl, (List.getElem?_eq_some_iff.mp o).1⟩] at e'
          cases e'
          refine ⟨_, eu, ?_⟩
          show Den C (W.put a (.lst ys)) (.lst xs) (.ref a)
          unfold Den
          exact ⟨a, ys, rfl, upd_same, DenL.ext ex _ _ dl⟩
        · rw [get_set, if_neg (fun z => hj z.1.symm)] at e'
          obtain ⟨v, e1, e2⟩ := rs.sl j s e'
          refine ⟨v, e1, ?_⟩
          cases s with
          | sh d => exact Den.ext ex d v e2
          | thk => exact e2
          | owL zs =>
            obtain ⟨c, yb, rfl, c2, c3, c4⟩ := e2
            refine ⟨c, yb, rfl, c2, DenL.ext ex _ _ c3, ?_, c4.2.1, c4.2.2⟩
            show upd W.G a _ c = none
            rw [upd_ne (fun z : c = a => c4.2.1 (by rw [z]; exact mb))]
            exact c4.1
          | owI c' ns ds =>
            obtain ⟨c, dx, yb, rfl, c2, c3, c4, c5⟩ := e2
            refine ⟨c, dx, yb, rfl, c2, c3, DenL.ext ex _ _ c4, ?_, c5.2.1, c5.2.2⟩
            show upd W.G a _ c = none
            rw [upd_ne (fun z : c = a => c5.2.1 (by rw [z]; exact mb))]
            exact c5.1
      · by_cases hj : j = i
        · subst hj
          rw [get_set, if_pos ⟨rfl, (List.getElem?_eq_some_iff.mp o).1⟩] at ej
          cases ej
          cases oj
        · rw [get_set, if_neg (fun z => hj z.1.symm)] at ej
          by_cases hk : k = i
          · subst hk
            rw [get_set, if_pos ⟨rfl, (List.getElem?_eq_some_iff.mp o).1⟩] at ek
            cases ek
            cases ok
          · rw [get_set, if_neg (fun z => hk z.1.symm)] at ek
            exact rs.ap j k s t v ej ek oj ok ej' ek'
    · exact q.elim
  · exact q.elim
/-- x.append(e) on a box -/
theorem ss_appB {i : Nat} {x : Str} {ap : Pos} (hi : X.N[i]? = some x) (hv : Vis X.env.scope x) (hd : (x == ("__debug__" : Str)) = false) (hcd : (x == ("__classdict__" : Str)) = false) (hst : ∀ x p, e ≠ .Starred x p) (hline : (ap.endLine == p'.line) = true) (he : PE X e (tE C Z m)) :
    PS X (.Expr (.Call (.Attribute (.Name x p) "append" ap) [e] [] p') pos) (tS C Z W0 H0 U fun ρ S => match (ρ[i]? : Option (Option Sl)) with
      | some (some (.sh (.box b))) => (match S[b]? with
        | some (.lst _) => (m ρ S).then ρ fun v S1 => kApp b v S1 ρ
        | _ => .stk)
      | _ => .stk) := by
  have hfew : ((backTo p' (starEach [e] X.env)).all (fun x => !x.1) && (backToKw p' (keywordEach [] X.env)).all (fun x => x.1.isSome)
      && decide ([e].length + ([] : List Keyword).length + (if ([] : List Keyword).isEmpty then 0 else 1) < 30)) = true := by
    rw [star_of hst]
    rfl
  refine PS.imp (ps_expr (pe_bm PySem.F.plainAttrs_list PySem.F.slot_list_append PySem.F.type_list_append mt_append (pe_slot hi hv hd hcd) (pa_cons he pa_nil (star_of hst)) (hfew := hfew) (hline := hline) (hs := star_of hst))) fun E σ H h => ?_
  obtain ⟨W, ρ, S, s0, rh, rs, q⟩ := h
  dsimp only at q
  split at q
  · rename_i b o
    obtain ⟨u, eu, hsl⟩ := rs.sl i _ o
    have hsl : Den C W (.box b) u := hsl
    unfold Den at hsl
    obtain ⟨a, hb, rfl⟩ := hsl
    split at q
    · rename_i xs0 hs0
      obtain ⟨_, ys, ha, dl⟩ := rh.bx b a _ hb hs0
      refine ⟨_, eu, .inl ⟨rfl, _, SqL.of ha⟩, W, H0, U, ρ, S, rh, rs, st_exp s0 rs q fun d S2 W2 H2 _ s2 r2 q2 w hw2 => ?_⟩
      have rs2 := rs.step s2
      have hb2 := s2.x.bx hb
      unfold kApp at q2
      split at q2
      · rename_i xs hs2
        obtain ⟨g2, ys2, ha2, dl2⟩ := r2.bx b a _ hb2 hs2
        split at q2
        · rename_i hl
          refine ⟨a, ys2, w, rfl, rfl, ha2, ?_, ?_⟩
          · have := dl2.length
            have h3 : (most : Nat) < sizeLine := by
              rw [sizeLine_eq]
              decide
            omega
          · have st := s0.trans s2.up
            refine q2 σ W2 _ (st.boxed hb2 ha2 (st.bn a (List.mem_of_getElem? hb2))) (Ext.refl _) (r2.boxed hb2 hs2 rfl (fun ps z => by rw [ha2] at z; cases z) (fun c q z => by rw [ha2] at z; cases z) ⟨_, upd_same, dl2.append (DenL.cons hw2 DenL.nil)⟩) ?_
            refine ⟨rs2.len, fun n t e => ?_, rs2.ap⟩
            obtain ⟨y, e1, e2⟩ := rs2.sl n t e
            refine ⟨y, e1, ?_⟩
            have am : a ∈ W2.B := List.mem_of_getElem? hb2
            cases t with
            | sh d => exact e2
            | thk => exact e2
            | owL zs =>
              obtain ⟨b', ws, rfl, c2, c3, c4⟩ := e2
              exact ⟨b', ws, rfl, by rw [upd_ne (fun y : b' = a => c4.2.1 (by rw [y]; exact am))]; exact c2, c3, c4⟩
            | owI c ns ds =>
              obtain ⟨b', dx, ws, rfl, c2, c3, c4, c5⟩ := e2
              exact ⟨b', dx, ws, rfl, by rw [upd_ne (fun y : b' = a => c5.2.1 (by rw [y]; exact am))]; exact c2, c3, c4, c5⟩
        · exact q2.elim
      · exact q2.elim
    · exact q.elim
  · exact q.elim
end DL
end
-- DLExp4
section
set_option maxHeartbeats 4000000
namespace DL
open PySem PySem.Spec L2
section
variable {C : Ct} {Z : WX} {X : Cx} {a b c e : Expr} {rest es : List Expr} {kws : List Keyword} {ma mb mc : Ro → Store → Out D} {ms mk : Ro → Store → Out (List D)} {pos p p2 : Pos}
theorem atI_den {W : Wd} {xs : List D} {ys : List V} {i : Int} {d : D} (dl : DenL C W xs ys) (h : atI xs i = some d) : ∃ v, atI ys i = some v ∧ Den C W d v := by
  unfold atI at h ⊢
  rw [dl.length] at h
  cases q : ixN ys.length i with
  | none =>
    rw [q] at h
    cases h
  | some j =>
    rw [q] at h
    exact dl.get h
theorem plain_ix (h : ∀ x y z w, b ≠ .Slice x y z w) : PlainIx b := fun o i => by
  cases b <;> first | rfl | exact absurd rfl (h _ _ _ _)
theorem getD2_den {W : Wd} (f : Key) : ∀ (ks : List Key) (ds : List D) (vs : List V) {d : D}, vs.length = ks.length → DenL C W ds vs → getD2 ks ds f = some d → ∃ v, valV (ks.zip vs) f = some v ∧ Den C W d v
  | [], ds, vs, d, hl, h, e => by
    cases ds <;> unfold getD2 at e <;> cases e
  | n :: ns, [], vs, d, hl, h, e => by
    unfold getD2 at e
    cases e
  | n :: ns, d0 :: ds, vs, d, hl, h, e => by
    unfold DenL at h
    obtain ⟨v, r, rfl, e2, e3⟩ := h
    unfold getD2 at e
    show ∃ w, valV ((n, v) :: ns.zip r) f = some w ∧ Den C W d w
    by_cases q : n = f
    · rw [if_pos q] at e
      cases e
      exact ⟨v, valV_pos q, e2⟩
    · rw [if_neg q] at e
      obtain ⟨w, h1, h2⟩ := getD2_den f ns ds r (by simpa using hl) e3 e
      exact ⟨w, by rw [valV_neg q]; exact h1, h2⟩
/-- d[k] -/
def rIxD : R2 := fun x y H Q => ∃ p kvs k v, x = .ref p ∧ y = kV k ∧ H p = some (.dK kvs) ∧ valV kvs k = some v ∧ Q v H
theorem ix_dict (hu : X.A.units + 64 < cLine) : IxR X rIxD := by
  intro value slice pins s σ H x y v u Q I rx ry h hs
  obtain ⟨p, kvs, k, z, rfl, rfl, hp, hv, q⟩ := h
  obtain rfl : v = Value.ref p := rx
  have g : DGet H p (kV k) (some z) := by
    rw [← hv]
    exact DGet.k hp
  have hT := dict_typeIs I g
  unfold PyProof.Rows.subscriptTail
  refine wpAny_bind ?_
  rw [getitemInPython_of_ne hT.not_modules]
  refine wpAny_bind (wpAny_specialOf hT PySem.F.slot_dict_getitem.lookup ?_)
  have fin : wpAny (model X.prog X.w) X.A (subscripted slice false (.ref p) u) (fun r s₃ => wpAny (model X.prog X.w) X.A (letTemporaryGo value (.ref p) r >>= fun _ => pure r) (EP X pins σ Q) X.xe s₃) X.xe s := by
    rw [hs]
    exact wpAny_operating (d_getItem (by omega) I g ry fun w' s3 I3 rw' => wpAny_bind (wpAny_letTemporaryGo (wpAny_pure ⟨z, H, I3, rw', q⟩)))
  exact wpAny_pure (wpAny_bind fin)
def rIxA (K : PySem.W.Frag) : R2 := fun x y H Q => rIx K x y H Q ∨ rIxD x y H Q
theorem rd_idx {K : PySem.W.Frag} (hK : K = C.K) (W : Wd) (σ : L2.St) (H : Hp) (S : Store) (x y : D) (u v : V) (Q : VK) (r : RelH C W H S) (hu : Den C W x u) (hv : Den C W y v) (p : PQ C Z σ Q W H (idxD x y S)) : rIxA K u v H Q := by
  unfold idxD at p
  split at p
  · rename_i xs i
    split at p
    · rename_i d hd
      obtain ⟨a, ys, rfl, _, ha, dl⟩ := den_lst hu r
      obtain ⟨w, h1, h2⟩ := atI_den dl hd
      exact .inl (.inl ⟨a, ys, i, w, rfl, den_int hv, SqL.of ha, h1, p.ok r h2⟩)
    · exact p.elim
  · rename_i xs i
    split at p
    · rename_i d hd
      obtain ⟨a, ys, rfl, _, ha, dl⟩ := den_tup hu r
      obtain ⟨w, h1, h2⟩ := atI_den dl hd
      exact .inl (.inr (.inl ⟨a, ys, i, w, rfl, den_int hv, SqT.of ha, h1, p.ok r h2⟩))
    · exact p.elim
  · rename_i bx i
    split at p
    · rename_i xs hb
      split at p
      · rename_i d hd
        obtain ⟨a, ys, rfl, _, ha, dl⟩ := deS_box r hu hb
        obtain ⟨w, h1, h2⟩ := atI_den dl hd
        exact .inl (.inl ⟨a, ys, i, w, rfl, den_int hv, SqL.of ha, h1, p.ok r h2⟩)
      · exact p.elim
    · exact p.elim
  · rename_i ks ds i
    split at p
    · rename_i d hd
      unfold Den at hu
      obtain ⟨a, vs, rfl, ga, hl, dl⟩ := hu
      obtain ⟨w, h1, h2⟩ := getD2_den (.inl i) ks ds vs hl dl hd
      exact .inr ⟨a, _, .inl i, w, rfl, den_int hv, r.g _ _ ga, h1, p.ok r h2⟩
    · exact p.elim
  · rename_i ks ds i
    split at p
    · rename_i d hd
      unfold Den at hu
      obtain ⟨a, vs, rfl, ga, hl, dl⟩ := hu
      obtain ⟨w, h1, h2⟩ := getD2_den (.inr i) ks ds vs hl dl hd
      exact .inr ⟨a, _, .inr i, w, rfl, den_str hv, r.g _ _ ga, h1, p.ok r h2⟩
    · exact p.elim
  · exact p.elim
theorem de_idx (hu : X.A.units + 64 < cLine) (hK : X.K = C.K) (hs : ∀ x y z w, b ≠ .Slice x y z w) (ha : PE X a (tE C Z ma)) (hb : PE X b (tE C Z mb)) : PE X (.Subscript a b pos) (tE C Z fun ρ S => (ma ρ S).bind fun x S1 => (mb ρ S1).bind fun y S2 => idxD x y S2) :=
  PE.imp (pe_ix (ix_seq.or (ix_dict hu)) ha hb (plain_ix hs)) fun σ H Q h => bin_rd (rd_idx hK) h
/-! ### slices -/
theorem denL_drop {W : Wd} : ∀ {ds : List D} {vs : List V} (n : Nat), DenL C W ds vs → DenL C W (ds.drop n) (vs.drop n)
  | ds, vs, 0, h => h
  | [], vs, n + 1, h => by
    unfold DenL at h
    rw [h]
    exact DenL.nil
  | d :: ds, vs, n + 1, h => by
    unfold DenL at h
    obtain ⟨v, r, rfl, e2, e3⟩ := h
    exact denL_drop n e3
theorem denL_take {W : Wd} : ∀ {ds : List D} {vs : List V} (n : Nat), DenL C W ds vs → DenL C W (ds.take n) (vs.take n)
  | ds, vs, 0, h => by
    rw [List.take_zero, List.take_zero]
    exact DenL.nil
  | [], vs, n + 1, h => by
    unfold DenL at h
    rw [h]
    exact DenL.nil
  | d :: ds, vs, n + 1, h => by
    unfold DenL at h
    obtain ⟨v, r, rfl, e2, e3⟩ := h
    exact DenL.cons e2 (denL_take n e3)
theorem denL_cut {W : Wd} {ds : List D} {vs : List V} (lo hi : Option Int) (h : DenL C W ds vs) : DenL C W (cutD ds lo hi) (cutV vs lo hi) := by
  unfold cutD cutV
  rw [h.length]
  exact denL_take _ (denL_drop _ h)
/-- a part of a slice -/
def tO (C : Ct) (Z : WX) (m : Ro → Store → Out (Option Int)) : TO := fun σ H Q => ∃ W H0 U ρ S, RelH C W H S ∧ RelS C W H0 U σ H ρ ∧ Post C Z (fun _ H' i => Q i H') W σ H (m ρ S)
theorem PO.imp {e : Option Expr} {t t' : TO} (h : PO X e t) (k : ∀ σ H Q, t' σ H Q → t σ H Q) : PO X e t' := ⟨fun pins s σ H Q I q => h.run pins s σ H Q I (k σ H Q q)⟩
theorem do_none : PO X none (tO C Z fun _ S => .ok none S) := PO.imp po_none fun σ H Q h => by
  obtain ⟨W, H0, U, ρ, S, rh, rs, q⟩ := h
  exact q W H (Step.refl _ _ _) rh
theorem do_some (ha : PE X a (tE C Z ma)) : PO X (some a) (tO C Z fun ρ S => (ma ρ S).bind fun d S1 => match d with
    | .int i => .ok (some i) S1
    | _ => .stk) := PO.imp (po_some ha) fun σ H Q h => by
  obtain ⟨W, H0, U, ρ, S, rh, rs, q⟩ := h
  refine ⟨W, H0, U, ρ, S, rh, rs, (Post.bind q).mono ?_⟩
  rintro W1 H1 x ⟨st, S1, rh1, _, p1⟩ u hu
  cases x with
  | int k => exact ⟨k, den_int hu, p1 W1 H1 (Step.refl _ _ _) rh1⟩
  | _ => exact p1.elim
theorem de_cut {lo hi : Option Expr} {ml mh : Ro → Store → Out (Option Int)} (hK : X.K = C.K) (ha : PE X a (tE C Z ma)) (hl : PO X lo (tO C Z ml)) (hh : PO X hi (tO C Z mh)) :
    PE X (.Subscript a (.Slice lo hi none p2) pos) (tE C Z fun ρ S => (ma ρ S).bind fun x S1 => (ml ρ S1).bind fun l S2 => (mh ρ S2).bind fun h S3 => sliceD x l h S3) :=
  PE.imp (pe_slice (sl_list.or sl_tupA) ha hl hh) fun σ H Q h => by
    obtain ⟨W, H0, U, ρ, S, rh, rs, q⟩ := h
    refine ⟨W, H0, U, ρ, S, rh, rs, (Post.bind q).mono ?_⟩
    rintro W1 H1 x ⟨st, S1, rh1, _, p1⟩ u hu
    refine ⟨W1, H0, U, ρ, S1, rh1, rs.step st, (Post.bind p1).mono ?_⟩
    rintro W2 H2 l ⟨st2, S2, rh2, e2, p2⟩
    refine ⟨W2, H0, U, ρ, S2, rh2, (rs.step st).step st2, (Post.bind p2).mono ?_⟩
    rintro W3 H3 h ⟨st3, S3, rh3, e3, p3⟩
    have hu3 := Den.ext (st2.x.trans st3.x) _ _ hu
    cases x with
    | lst xs =>
      obtain ⟨a, ys, rfl, _, ha, dl⟩ := den_lst hu3 rh3
      exact .inl ⟨a, ys, rfl, SqL.of ha, fun q nq => PQ.new p3 rh3 nq (lst_new (rh3.fresh nq).1 (denL_cut l h dl))⟩
    | tup xs =>
      obtain ⟨a, ys, rfl, ga, ha, dl⟩ := den_tup hu3 rh3
      refine .inr ⟨a, ys, rfl, SqT.of ha, fun hw => ?_, fun _ q nq => PQ.new p3 rh3 nq (tup_new (rh3.fresh nq).1 (denL_cut l h dl))⟩
      refine PQ.ok p3 rh3 ?_
      have e : cutV ys l h = ys := by
        unfold cutV
        rw [hw.1, hw.2, List.drop_zero, Nat.sub_zero, List.take_length]
      have dc := denL_cut l h dl
      rw [e] at dc
      unfold Den
      exact ⟨a, ys, rfl, ga, dc⟩
    | scr xs =>
      unfold Den at hu3
      obtain ⟨a, ys, rfl, ha, dl⟩ := hu3
      rw [hK]
      exact .inl ⟨a, ys, rfl, sqL_ext rh3.g ha, fun q nq => PQ.new p3 rh3 nq (lst_new (rh3.fresh nq).1 (denL_cut l h dl))⟩
    | _ => exact p3.elim
/-! ### built-ins -/
/-- a built-in that is a function, a built-in that is a class -/
theorem de_biB {x : Str} {id : String} {r : List V → Hp → VK → Prop} {f : List D → Store → Out D} (hc : CallR X (.builtin id) r) (hg : Gl X x) (hm : X.mg x = none) (hv : bootBuiltins x = some (.builtin id)) (hn : x ≠ "__name__") (hdb : (x == ("__debug__" : Str)) = false)
    (hs : noStar (e :: es)) (ha : PA X (e :: es) (tAs C Z ms)) (hr : ∀ W σ H S ds us Q, RelH C W H S → DenL C W ds us → PQ C Z σ Q W H (f ds S) → r us H Q) :
    PE X (.Call (.Name x p) (e :: es) [] pos) (tE C Z fun ρ S => (ms ρ S).bind fun ds S1 => f ds S1) :=
  PE.imp (pe_callB hc hg hm hv ha hn hdb (star_of fun y q => hs e (List.mem_cons_self ..) y q) (star_all fun e' he => hs e' (List.mem_cons_of_mem _ he))) fun σ H Q h => by
    obtain ⟨W, H0, U, ρ, S, rh, rs, q⟩ := h
    refine ⟨W, H0, U, ρ, S, rh, rs, (Post.bind q).mono ?_⟩
    rintro W1 H1 ds ⟨st, S1, rh1, _, p1⟩ us hu
    exact hr W1 σ H1 S1 ds us Q rh1 hu p1
theorem de_biT {x : Str} {T : String} {r : List V → Hp → VK → Prop} {f : List D → Store → Out D} (hc : CallR X (.type T) r) (hg : Gl X x) (hm : X.mg x = none) (hv : bootBuiltins x = some (.type T)) (hn : x ≠ "__name__") (hdb : (x == ("__debug__" : Str)) = false)
    (hs : noStar (e :: es)) (ha : PA X (e :: es) (tAs C Z ms)) (hr : ∀ W σ H S ds us Q, RelH C W H S → DenL C W ds us → PQ C Z σ Q W H (f ds S) → r us H Q) :
    PE X (.Call (.Name x p) (e :: es) [] pos) (tE C Z fun ρ S => (ms ρ S).bind fun ds S1 => f ds S1) :=
  PE.imp (pe_callTy hc hg hm hv ha hn hdb (star_of fun y q => hs e (List.mem_cons_self ..) y q) (star_all fun e' he => hs e' (List.mem_cons_of_mem _ he))) fun σ H Q h => by
    obtain ⟨W, H0, U, ρ, S, rh, rs, q⟩ := h
    refine ⟨W, H0, U, ρ, S, rh, rs, (Post.bind q).mono ?_⟩
    rintro W1 H1 ds ⟨st, S1, rh1, _, p1⟩ us hu
    exact hr W1 σ H1 S1 ds us Q rh1 hu p1
theorem one_of {W : Wd} {d : D} {us : List V} (h : DenL C W [d] us) : ∃ u, us = [u] ∧ Den C W d u := by
  unfold DenL at h
  obtain ⟨v, r, rfl, e2, e3⟩ := h
  unfold DenL at e3
  rw [e3]
  exact ⟨v, rfl, e2⟩
theorem two_of {W : Wd} {d d' : D} {us : List V} (h : DenL C W [d, d'] us) : ∃ u v, us = [u, v] ∧ Den C W d u ∧ Den C W d' v := by
  unfold DenL at h
  obtain ⟨v, r, rfl, e2, e3⟩ := h
  obtain ⟨w, rfl, e4⟩ := one_of e3
  exact ⟨v, w, rfl, e2, e4⟩
theorem rd_len {K : PySem.W.Frag} (W : Wd) (σ : L2.St) (H : Hp) (S : Store) (ds : List D) (us : List V) (Q : VK) (r : RelH C W H S) (hu : DenL C W ds us) (p : PQ C Z σ Q W H (lenD ds S)) : ∃ x n, us = [x] ∧ LenV K x H n ∧ Q (.int (n : Nat)) H := by
  unfold lenD at p
  split at p
  · obtain ⟨u, rfl, h⟩ := one_of hu
    obtain ⟨a, ys, rfl, _, ha, dl⟩ := den_lst h r
    refine ⟨_, ys.length, rfl, .inl ⟨ys, SqL.of ha, rfl⟩, ?_⟩
    rw [← dl.length]
    exact p.ok r of_int
  · obtain ⟨u, rfl, h⟩ := one_of hu
    obtain ⟨a, ys, rfl, _, ha, dl⟩ := den_tup h r
    refine ⟨_, ys.length, rfl, .inr ⟨ys, SqT.of ha, rfl⟩, ?_⟩
    rw [← dl.length]
    exact p.ok r of_int
  · split at p
    · rename_i s hl
      obtain ⟨u, rfl, h⟩ := one_of hu
      rw [den_str h]
      exact ⟨_, s.length, rfl, ⟨most_line hl, rfl⟩, p.ok r of_int⟩
    · exact p.elim
  · split at p
    · rename_i b xs hb
      obtain ⟨u, rfl, h⟩ := one_of hu
      obtain ⟨a, ys, rfl, _, ha, dl⟩ := deS_box r h hb
      refine ⟨_, ys.length, rfl, .inl ⟨ys, SqL.of ha, rfl⟩, ?_⟩
      rw [← dl.length]
      exact p.ok r of_int
    · exact p.elim
  · exact p.elim
theorem rd_abs (W : Wd) (σ : L2.St) (H : Hp) (S : Store) (ds : List D) (us : List V) (Q : VK) (r : RelH C W H S) (hu : DenL C W ds us) (p : PQ C Z σ Q W H (absD ds S)) : ∃ i, us = [.int i] ∧ Q (.int (if i < 0 then -i else i)) H := by
  unfold absD at p
  split at p
  · obtain ⟨u, rfl, h⟩ := one_of hu
    rw [den_int h]
    exact ⟨_, rfl, p.ok r of_int⟩
  · exact p.elim
theorem rd_int (W : Wd) (σ : L2.St) (H : Hp) (S : Store) (ds : List D) (us : List V) (Q : VK) (r : RelH C W H S) (hu : DenL C W ds us) (p : PQ C Z σ Q W H (intD ds S)) : (∃ i, us = [.int i] ∧ Q (.int i) H) ∨ ∃ k, us = [.bl k] ∧ Q (.int (if k then 1 else 0)) H := by
  unfold intD at p
  split at p
  · obtain ⟨u, rfl, h⟩ := one_of hu
    rw [den_int h]
    exact .inl ⟨_, rfl, p.ok r of_int⟩
  · obtain ⟨u, rfl, h⟩ := one_of hu
    rw [den_bl h]
    exact .inr ⟨_, rfl, p.ok r of_int⟩
  · exact p.elim
theorem rd_list {K : PySem.W.Frag} (W : Wd) (σ : L2.St) (H : Hp) (S : Store) (ds : List D) (us : List V) (Q : VK) (r : RelH C W H S) (hu : DenL C W ds us) (p : PQ C Z σ Q W H (listD ds S)) : ∃ p ys, us = [.ref p] ∧ (SqL K H p ys ∨ SqT K H p ys) ∧ ∀ l, H l = none → Q (.ref l) (upd H l (.lst ys)) := by
  unfold listD at p
  split at p
  · obtain ⟨u, rfl, h⟩ := one_of hu
    obtain ⟨a, ys, rfl, _, ha, dl⟩ := den_lst h r
    exact ⟨a, ys, rfl, .inl (SqL.of ha), fun l nl => PQ.new p r nl (lst_new (r.fresh nl).1 dl)⟩
  · obtain ⟨u, rfl, h⟩ := one_of hu
    obtain ⟨a, ys, rfl, _, ha, dl⟩ := den_tup h r
    exact ⟨a, ys, rfl, .inr (SqT.of ha), fun l nl => PQ.new p r nl (lst_new (r.fresh nl).1 dl)⟩
  · exact p.elim
end
end DL
end
-- DLExp5
section
set_option maxHeartbeats 4000000
namespace DL
open PySem PySem.Spec L2
/-! ### what the classes must have -/
structure ClsTy (K : PySem.W.Frag) (A : Addr) : Prop where
  ha : PySem.W.findIn K (.ref A) "__class__" = some (some (.builtin "object.__class__"))
  hn : PySem.W.specialIn K (.builtin "object.__class__") "__get__" = some (some (.builtin "getset_descriptor.__get__"))
  ht : PySem.W.takesIn K (.builtin "object.__class__") = some true
  hm : PySem.W.mroIn K A (.type "object") = some true
structure ClsF (K : PySem.W.Frag) (C : Ct) (P : Pg) : Prop where
  pl : ∀ c cl, P.cls[c]? = some cl → cl.kind = .plain → Cls K (C.ca c)
  ex : ∀ c cl, P.cls[c]? = some cl → cl.kind = .exc → XfC K (C.ca c) ∧ (PySem.W.clsIn K (C.ca c)).isSome = true
  ty : ∀ c cl, P.cls[c]? = some cl → ClsTy K (C.ca c)
  isC : ∀ c cl c' cl', P.cls[c]? = some cl → P.cls[c']? = some cl' → PySem.W.kitOne K (.ref (C.ca c)) (.ref (C.ca c')) = some (cl.anc.contains c')
  isT : ∀ c cl n, P.cls[c]? = some cl → P.tys.contains n = true → PySem.W.kitOne K (.ref (C.ca c)) (.type n) = some (cl.bas.contains n)
  scC : ∀ t c cl, (["NoneType", "bool", "int", "str", "tuple", "list", "dict"] : List String).contains t = true → P.cls[c]? = some cl → PySem.W.kitOne K (.type t) (.ref (C.ca c)) = some false
  fld : ∀ c f, (fldOk P c f = true ∨ xfdOk P c f = true) → PySem.W.findIn K (.ref (C.ca c)) f = some none
theorem fld_cls {P : Pg} {c : Nat} {f : Str} (h : fldOk P c f = true) : ∃ cl, P.cls[c]? = some cl ∧ cl.kind = .plain := by
  unfold fldOk at h
  cases z : P.cls[c]? with
  | none =>
    rw [z] at h
    cases h
  | some cl =>
    rw [z] at h
    have h1 := (Bool.and_eq_true_iff.mp h).1
    cases k : cl.kind with
    | plain => exact ⟨cl, rfl, k⟩
    | exc =>
      rw [k] at h1
      cases h1
theorem xfd_cls {P : Pg} {c : Nat} {f : Str} (h : xfdOk P c f = true) : ∃ cl, P.cls[c]? = some cl ∧ cl.kind = .exc := by
  unfold xfdOk at h
  cases z : P.cls[c]? with
  | none =>
    rw [z] at h
    cases h
  | some cl =>
    rw [z] at h
    have h1 := (Bool.and_eq_true_iff.mp h).1
    cases k : cl.kind with
    | exc => exact ⟨cl, rfl, k⟩
    | plain =>
      rw [k] at h1
      cases h1
section
variable {C : Ct} {P : Pg} {Z : WX} {X : Cx} {a b c e : Expr} {rest es : List Expr} {kws : List Keyword} {ma mb mc : Ro → Store → Out D} {ms mk : Ro → Store → Out (List D)} {pos p p2 : Pos}
/-! ### o.f -/
/-- an exception object in the ground -/
theorem exv_inst {W : Wd} {H : Hp} {pins : List (Addr × Obj)} {s : Shared} {σ : L2.St} {A dx q : Addr} {fs : List (Str × V)} (I : Inv X pins σ H s) (h1 : H q = some (ExV q (.ref A) (some dx))) (h2 : H dx = some (.xd fs)) :
    ∃ (oe od : Obj) (mA : Str → Option Value), PySem.W.InstAt s.heap q oe A (some od) ∧ (∀ f, RelO (fs.lookup f) (mA f)) ∧ ∀ name, PySem.W.lookIn name od = some (mA name) := by
  obtain ⟨⟨oe, ho, hz, vs, hd⟩, _⟩ := I.hok q _ h1
  obtain ⟨mA, hns, hr⟩ := I.hok dx _ h2
  obtain ⟨od, hod, hl⟩ := lookIn_ns hns
  exact ⟨oe, od, mA, ⟨ho, hz.1, by unfold PySem.W.notCls; rw [hd] <;> rfl, by rw [hz.2]; exact hod⟩, hr, hl⟩
theorem de_fld {f : Str} (T : ClsF X.K C P) (hb : attributeBase a f X.env (eval a X.env) = eval a X.env) (ha : PE X a (tE C Z ma)) :
    PE X (.Attribute a f pos) (tE C Z fun ρ S => (ma ρ S).bind fun x S1 => fldD P x f S1) := by
  refine ⟨fun pins s σ H Q I h => ?_⟩
  obtain ⟨W, H0, U, ρ, S, rh, rs, q⟩ := h
  have h1 : tE C Z ma σ H (fun u H1 => ∃ W1 S1 x, RelH C W1 H1 S1 ∧ Den C W1 x u ∧ PQ C Z σ Q W1 H1 (fldD P x f S1)) := ⟨W, H0, U, ρ, S, rh, rs, (Post.bind q).mono fun W1 H1 x ⟨st, S1, rh1, _, p1⟩ u hu => ⟨W1, S1, x, rh1, hu, p1⟩⟩
  refine attr_of hb (thn (ha.run pins s σ H _ I h1) fun u s1 hh => ?_)
  obtain ⟨v, H1, I1, rv, W1, S1, x, rh1, hu, p1⟩ := hh
  unfold fldD at p1
  split at p1
  · rename_i c ns ds
    split at p1
    · rename_i hf
      split at p1
      · rename_i d hd
        unfold Den at hu
        obtain ⟨q, dx, vs, rfl, e2, e3, e4⟩ := hu
        obtain rfl : u = Value.ref q := rv
        obtain ⟨w, l, hw⟩ := lk2_zip f ns ds vs e3 e4 hd
        obtain ⟨cl, hc, k⟩ := fld_cls hf
        exact getattr_ok I1 (rh1.g _ _ e2) (T.pl c cl hc k) (T.fld c f (.inl hf)) l fun uv s' I' rr => ⟨w, H1, I', rr, PQ.ok p1 rh1 hw⟩
      · exact p1.elim
    · exact p1.elim
  · rename_i c ns ds
    split at p1
    · rename_i hf
      split at p1
      · rename_i d hd
        unfold Den at hu
        obtain ⟨q, dx, vs, rfl, e2, e5, e3, e4⟩ := hu
        obtain rfl : u = Value.ref q := rv
        obtain ⟨w, l, hw⟩ := lk2_zip f ns ds vs e3 e4 hd
        obtain ⟨cl, hc, k⟩ := xfd_cls hf
        obtain ⟨x1, x2⟩ := T.ex c cl hc k
        obtain ⟨oe, od, mA, J, hr, hl⟩ := exv_inst (W := W1) I1 (rh1.g _ _ e2) (rh1.g _ _ e5)
        obtain ⟨uv, huv, ru⟩ := RelO.some_of (v := w) (o := mA f) (by rw [← l]; exact hr f)
        exact HandSPX.exc_get I1.kIn J x1.ga x1.gg x1.exC (PySem.W.findObj_own x1.hdC (T.fld c f (.inr hf)) rfl (by rw [hl, huv])) (handed_of ru) ⟨w, H1, I1.tok _, ru, PQ.ok p1 rh1 hw⟩
      · exact p1.elim
    · exact p1.elim
  · exact p1.elim
/-! ### isinstance -/
theorem scal_ty {W : Wd} {H : Hp} {S : Store} {K : PySem.W.Frag} {x : D} {u : V} {t : String} (r : RelH C W H S) (hu : Den C W x u) (h : x.tyName = some t) : TyX K H u (.type t) := by
  cases x with
  | non =>
    rw [den_non hu]
    cases h
    exact .base .non
  | bl b =>
    rw [den_bl hu]
    cases h
    exact .base (.bl b)
  | int i =>
    rw [den_int hu]
    cases h
    exact .base (.int i)
  | str s =>
    rw [den_str hu]
    cases h
    exact .base (.str s)
  | tup xs =>
    obtain ⟨a, ys, rfl, _, ha, _⟩ := den_tup hu r
    cases h
    exact .base (.tup ha)
  | lst xs =>
    obtain ⟨a, ys, rfl, _, ha, _⟩ := den_lst hu r
    cases h
    exact .base (.lst ha)
  | dct ks ds =>
    unfold Den at hu
    obtain ⟨a, vs, rfl, e2, _⟩ := hu
    cases h
    exact .base (.dK (r.g _ _ e2))
  | _ => cases h
theorem tyName_in {x : D} {t : String} (h : x.tyName = some t) : (["NoneType", "bool", "int", "str", "tuple", "list", "dict"] : List String).contains t = true := by
  cases x <;> cases h <;> decide
theorem kit_known : (["NoneType", "bool", "int", "str", "tuple", "list", "dict"] : List String).all (fun t => knownTys.all fun n => decide (kitB t n = some (t == n || (t == "bool" && n == "int")))) = true := by decide +kernel
/-- what is known of a value's type -/
def TyF (K : PySem.W.Frag) (H : Hp) (u : V) (t : Value) : Prop := TyX K H u t ∨
  ∃ (q A dx : Addr) (fs : List (Str × V)), u = .ref q ∧ t = .ref A ∧ H q = some (ExV q (.ref A) (some dx)) ∧ H dx = some (.xd fs) ∧ XfC K A ∧ (PySem.W.clsIn K A).isSome = true ∧ ClsTy K A
/-- what is asked of a value and a class, a tuple of classes -/
def IsiV (K : PySem.W.Frag) (H : Hp) (u c : V) (b : Bool) : Prop := ∃ t, TyF K H u t ∧ ((∃ cv, ClsV c cv ∧ PySem.W.kitOne K t cv = some b) ∨ ∃ (tp : Addr) (cs : List V) (us : List Value), c = .ref tp ∧ H tp = some (.tup cs) ∧ Paired ClsV cs us ∧ PySem.W.kitAny K t us = some b)
theorem call_is : CallR X (.builtin "isinstance") (fun xs H Q => ∃ u c b, xs = [u, c] ∧ IsiV X.K H u c b ∧ Q (.bl b) H) := by
  intro pins s σ H xs us Q I r h
  obtain ⟨u, c, b, rfl, ⟨t, ty, h⟩, q⟩ := h
  have key : ∃ (u1 u2 : Value) (Pz : Heap → Prop), us = [u1, u2] ∧ RelV u u1 ∧ RelV c u2 ∧ PySem.W.KitX X.K u1 t Pz ∧ Pz s.heap ∧ u1 ≠ .builtin "__main__.__loader__#opaque" := by
    obtain ⟨u1, u2, rfl, r1, r2⟩ := vals2 r
    rcases ty with ty | ⟨q', A, dx, fs, rfl, rfl, h1, h2, x1, x2, x3⟩
    · obtain ⟨Pz, Z, p, hx⟩ := kit_of I r1 ty
      exact ⟨u1, u2, Pz, rfl, r1, r2, Z, p, hx⟩
    · obtain rfl : u1 = Value.ref q' := r1
      obtain ⟨oe, od, mA, J, hr, hl⟩ := exv_inst (W := ⟨H, []⟩) I h1 h2
      exact ⟨_, u2, _, rfl, rfl, r2, PySem.W.kitx_exc (ox := oe) (od := some od) x2 x1.ga x1.gg x1.exC x3.ha x3.hn x3.ht x3.hm, J, fun z => nomatch z⟩
  obtain ⟨u1, u2, Pz, rfl, r1, r2, Z, p, hx⟩ := key
  rcases h with ⟨cv, k, e⟩ | ⟨tp, cs, ws, rfl, hT, k, e⟩
  · have e2 := k.eq r2
    subst e2
    exact PySem.W.kia_one Z I.kIn p e hx fun tk => ⟨.bl b, H, I.tok tk, rfl, q⟩
  · cases (show u2 = Value.ref tp from r2)
    obtain ⟨_, its, rv, o, h1, h2, n, h3⟩ := (show ObjOk X.prog X.w H s.heap tp (.tup cs) from I.hok tp _ hT)
    have e3 := ClsV.all k rv
    subst e3
    obtain ⟨oc, od, dt, sl⟩ := o
    simp only at h2 h3
    subst h2 h3
    exact PySem.W.kia_tup Z I.kIn p h1 e hx fun tk => ⟨.bl b, H, I.tok tk, rfl, q⟩
/-- an instance's class -/
theorem inst_is (T : ClsF X.K C P) {W : Wd} {H : Hp} {S : Store} {x : D} {u : V} {cl : Cl} (r : RelH C W H S) (hu : Den C W x u) (h : clsOf P x = some (some cl)) : ∃ c, P.cls[c]? = some cl ∧ TyF X.K H u (.ref (C.ca c)) := by
  unfold clsOf at h
  split at h
  · rename_i c ns fs
    split at h
    · rename_i cl' hc
      split at h
      · rename_i hp
        cases h
        have kk : cl.kind = .plain := by
          cases z : cl.kind with
          | plain => rfl
          | exc =>
            rw [z] at hp
            cases hp
        unfold Den at hu
        obtain ⟨q, dx, vs, rfl, e2, _⟩ := hu
        exact ⟨c, hc, .inl (.base (.ins (r.g _ _ e2) (T.pl c cl hc kk) (T.ty c cl hc).ha (T.ty c cl hc).hn (T.ty c cl hc).ht (T.ty c cl hc).hm))⟩
      · cases h
    · cases h
  · rename_i c ns fs
    split at h
    · rename_i cl' hc
      split at h
      · cases h
      · rename_i hp
        cases h
        have kk : cl.kind = .exc := by
          cases z : cl.kind with
          | plain =>
            rw [z] at hp
            exact absurd rfl hp
          | exc => rfl
        unfold Den at hu
        obtain ⟨q, dx, vs, rfl, e2, e5, _⟩ := hu
        exact ⟨c, hc, .inr ⟨q, _, dx, _, rfl, rfl, r.g _ _ e2, r.g _ _ e5, (T.ex c cl hc kk).1, (T.ex c cl hc kk).2, T.ty c cl hc⟩⟩
    · cases h
  · cases h
/-- one type for all that is asked -/
theorem isi_all (T : ClsF X.K C P) {W : Wd} {H : Hp} {S : Store} {x a0 : D} {b0 : Bool} {u : V} (r : RelH C W H S) (hu : Den C W x u) (h0 : isi1 P x a0 = some b0) :
    ∃ t, TyF X.K H u t ∧ ∀ a b w, isi1 P x a = some b → Den C W a w → ∃ cv, ClsV w cv ∧ PySem.W.kitOne X.K t cv = some b := by
  cases hc : clsOf P x with
  | none =>
    unfold isi1 at h0
    split at h0
    · unfold isiTy at h0
      rw [hc] at h0
      cases h0
    · unfold isiCls at h0
      rw [hc] at h0
      split at h0 <;> cases h0
    · cases h0
  | some oc =>
    cases oc with
    | some cl =>
      obtain ⟨c, ec, ty⟩ := inst_is T r hu hc
      refine ⟨_, ty, fun a b w hb hw => ?_⟩
      unfold isi1 at hb
      split at hb
      · rename_i n
        rw [den_ty hw]
        unfold isiTy at hb
        rw [hc] at hb
        dsimp only at hb
        split at hb
        · rename_i ht
          cases hb
          exact ⟨_, .ty n, T.isT c cl n ec ht⟩
        · cases hb
      · rename_i c'
        rw [den_cls hw]
        unfold isiCls at hb
        rw [hc] at hb
        split at hb
        · cases hb
        · rename_i cl' hc'
          cases hb
          exact ⟨_, .own _, T.isC c cl c' cl' ec hc'⟩
      · cases hb
    | none =>
      cases ht : x.tyName with
      | none =>
        unfold isi1 at h0
        split at h0
        · unfold isiTy at h0
          rw [hc, ht] at h0
          cases h0
        · unfold isiCls at h0
          rw [hc, ht] at h0
          split at h0 <;> cases h0
        · cases h0
      | some t =>
        refine ⟨_, .inl (scal_ty r hu ht), fun a b w hb hw => ?_⟩
        unfold isi1 at hb
        split at hb
        · rename_i n
          rw [den_ty hw]
          unfold isiTy at hb
          rw [hc, ht] at hb
          dsimp only at hb
          split at hb
          · rename_i hn
            cases hb
            refine ⟨_, .ty n, kit_ty ?_⟩
            have hk := kit_known
            rw [List.all_eq_true] at hk
            have h3 := hk t (List.contains_iff_mem.mp (tyName_in ht))
            rw [List.all_eq_true] at h3
            exact of_decide_eq_true (h3 n (List.contains_iff_mem.mp hn))
          · cases hb
        · rename_i c'
          rw [den_cls hw]
          unfold isiCls at hb
          rw [hc, ht] at hb
          split at hb
          · cases hb
          · rename_i cl' hc'
            cases hb
            exact ⟨_, .own _, T.scC t c' cl' (tyName_in ht) hc'⟩
        · cases hb
theorem rd_is (T : ClsF X.K C P) (W : Wd) (σ : L2.St) (H : Hp) (S : Store) (ds : List D) (us : List V) (Q : VK) (r : RelH C W H S) (hu : DenL C W ds us) (p : PQ C Z σ Q W H (isD P ds S)) : ∃ u c b, us = [u, c] ∧ IsiV X.K H u c b ∧ Q (.bl b) H := by
  unfold isD at p
  split at p
  · rename_i x t
    obtain ⟨u, w, rfl, h1, h2⟩ := two_of hu
    split at p
    · rename_i b hb
      refine ⟨u, w, b, rfl, ?_, p.ok r of_bl⟩
      unfold isiD at hb
      split at hb
      · rename_i a a'
        split at hb
        · rename_i b1 b2 e1 e2
          cases hb
          obtain ⟨ty, hty, hall⟩ := isi_all T r h1 e1
          refine ⟨ty, hty, .inr ?_⟩
          obtain ⟨q, ys, rfl, _, hq, dl⟩ := den_tup h2 r
          obtain ⟨v1, v2, rfl, d1, d2⟩ := two_of dl
          obtain ⟨cv1, k1, z1⟩ := hall a b1 v1 e1 d1
          obtain ⟨cv2, k2, z2⟩ := hall a' b2 v2 e2 d2
          refine ⟨q, _, [cv1, cv2], rfl, hq, .cons k1 (.cons k2 .nil), ?_⟩
          unfold PySem.W.kitAny
          rw [z1]
          cases b1 with
          | true => rfl
          | false =>
            unfold PySem.W.kitAny
            rw [z2]
            cases b2 <;> rfl
        · cases hb
      · obtain ⟨ty, hty, hall⟩ := isi_all T r h1 hb
        obtain ⟨cv, k1, z1⟩ := hall t b w hb h2
        exact ⟨ty, hty, .inl ⟨cv, k1, z1⟩⟩
    · exact p.elim
  · exact p.elim
/-! ### repr -/
def scalV : V → PyData → Prop
  | .non, p => p = .none
  | .bl b, p => p = .bool b
  | .int i, p => p = .int i
  | .str s, p => p = .str s
  | _, _ => False
theorem scal_reads {h : Heap} {v : V} {u : Value} {p : PyData} (hs : scalV v p) (r : RelV v u) : Reads h u p [] := by
  cases v with
  | non =>
    cases (show u = Value.none from r)
    rw [show p = .none from hs]
    exact .none
  | bl b =>
    cases (show u = Value.bool b from r)
    rw [show p = .bool b from hs]
    exact .bool b
  | int i =>
    obtain ⟨t, rfl⟩ := (show ∃ t, u = Value.int i t from r)
    rw [show p = .int i from hs]
    exact .int i t
  | str s =>
    obtain ⟨t, rfl⟩ := (show ∃ t, u = Value.str s t from r)
    rw [show p = .str s from hs]
    exact .str s t
  | _ => exact hs.elim
theorem pairs_reads {prog : Program} {w : World} {h : Heap} : ∀ {es : List DictEntry} {kvs : List (Key × Value)} {ks : List Key} {vs : List V} {ps : List PyData}, Pairs (mixKind prog w) es kvs → KV (ks.zip vs) kvs → ks.length = vs.length → Paired scalV vs ps →
    ReadsAll h (es.map (·.key)) (((ks.map keyPy).zip ps).map (·.1)) [] ∧ ReadsAll h (es.map (·.val)) (((ks.map keyPy).zip ps).map (·.2)) []
  | _, _, [], [], _, p, k, _, .nil => by
    cases k
    cases p
    exact ⟨.nil, .nil⟩
  | _, _, key :: ks, v :: vs, _, p, k, hl, .cons h1 h2 => by
    cases k with
    | cons k1 k2 =>
      cases p with
      | cons p1 p2 p3 =>
        obtain ⟨i1, i2⟩ := pairs_reads (h := h) p3 k2 (by simpa using hl) h2
        obtain ⟨e1, e2⟩ := k1
        refine ⟨?_, ?_⟩
        · refine ReadsAll.cons (as := []) (bs := []) ?_ i1
          have p1 := p1
          rw [← e1] at p1
          rcases keyIs_shape p1 with ⟨i, t, z1, z2⟩ | ⟨x, t, z1, z2⟩
          · dsimp only
            show Reads h _ (keyPy key) []
            rw [z2, show key = Sum.inl i from z1]
            exact .int i t
          · dsimp only
            show Reads h _ (keyPy key) []
            rw [z2, show key = Sum.inr x from z1]
            exact .str x t
        · refine ReadsAll.cons (as := []) (bs := []) ?_ i2
          dsimp only
          rw [p2]
          exact scal_reads h1 e2
/-- a value and what it shows as -/
def RdX (K : PySem.W.Frag) (H : Hp) (u : V) (d : PyData) : Prop := (Dp K H u d ∧ d.hasDict = false) ∨ ∃ (a : Addr) (ks : List Key) (vs : List V) (ps : List PyData), u = .ref a ∧ H a = some (.dK (ks.zip vs)) ∧ ks.length = vs.length ∧ d = .dict ((ks.map keyPy).zip ps) ∧ Paired scalV vs ps
theorem call_rep (hg : X.A.guards = some []) (hu : X.A.units + 64 < cLine) : CallR X (.builtin "repr") (fun xs H Q => ∃ u d, xs = [u] ∧ RdX X.K H u d ∧ d.showable = true ∧ d.depth ≤ 20 ∧ d.shown.length ≤ sizeLine ∧ Q (.str d.shown) H) := by
  intro pins s σ H xs us Q I r h
  obtain ⟨u, d, rfl, hd, sh, dp, sz, q⟩ := h
  obtain ⟨v, rfl, rv⟩ := vals1 r
  rcases hd with ⟨hd, nd⟩ | ⟨a, ks, vs, ps, rfl, ha, hl, rfl, hp⟩
  · obtain ⟨as, rd⟩ := Dp.reads I d u v hd rv
    cases rd with
    | none => exact PySem.P.repr_of_none ⟨.str _, H, I.tok _, ⟨_, rfl⟩, q⟩
    | bool b => cases b <;> exact PySem.P.repr_of_bool ⟨.str _, H, I.tok _, ⟨_, rfl⟩, q⟩
    | int i t => exact PySem.P.repr_of_int (of_decide_eq_true sh) ⟨.str _, H, I.tok _, ⟨_, rfl⟩, q⟩
    | str x t => exact PySem.P.repr_of_str ⟨.str _, H, I.tok _, ⟨_, rfl⟩, q⟩ sz
    | list a1 a2 a3 a4 => exact repr_of_reads' (.list a1 a2 a3 a4) sh (fun z => by rw [nd] at z; cases z) hg (by omega) (fun _ _ h => h) (fun h' t tk k => ⟨.str _, H, I.kept (t' := tk) k, ⟨_, rfl⟩, q⟩) sz
    | tuple a1 a2 a3 a4 => exact repr_of_reads' (.tuple a1 a2 a3 a4) sh (fun z => by rw [nd] at z; cases z) hg (by omega) (fun _ _ h => h) (fun h' t tk k => ⟨.str _, H, I.kept (t' := tk) k, ⟨_, rfl⟩, q⟩) sz
    | dict => cases nd
  · cases (show v = Value.ref a from rv)
    obtain ⟨_, hS, vs', kv, o, es, ep, h1, h2, h3, h4, h5, h6⟩ := (show ObjOk X.prog X.w H s.heap a (.dK (ks.zip vs)) from I.hok a _ ha)
    obtain ⟨r1, r2⟩ := pairs_reads (h := s.heap) h5 kv hl hp
    refine repr_of_reads' (.dict h1 h2.1 h3 r1 r2) sh (fun _ z => ?_) hg (by omega) (fun _ _ h => h) (fun h' t tk k => ⟨.str _, H, I.kept (t' := tk) k, ⟨_, rfl⟩, q⟩) sz
    simp only [List.append_nil, List.mem_singleton] at z
    rw [← z] at hS
    simp at hS
theorem scal_den {W : Wd} {d : D} {v : V} (hs : d.scal = true) (h : Den C W d v) : ∃ p, d.py = some p ∧ scalV v p := by
  cases d with
  | non =>
    rw [den_non h]
    exact ⟨.none, rfl, rfl⟩
  | bl b =>
    rw [den_bl h]
    exact ⟨.bool b, rfl, rfl⟩
  | int i =>
    rw [den_int h]
    exact ⟨.int i, rfl, rfl⟩
  | str s =>
    rw [den_str h]
    exact ⟨.str s, rfl, rfl⟩
  | _ => cases hs
theorem scal_all {W : Wd} : ∀ {ds : List D} {vs : List V} {ps : List PyData}, ds.all D.scal = true → DenL C W ds vs → pyL ds = some ps → Paired scalV vs ps
  | [], vs, ps, _, h, e => by
    unfold DenL at h
    unfold pyL at e
    cases e
    rw [h]
    exact .nil
  | d :: ds, vs, ps, hs, h, e => by
    unfold DenL at h
    obtain ⟨v, r, rfl, e2, e3⟩ := h
    rw [List.all_cons, Bool.and_eq_true] at hs
    obtain ⟨p, h1, h2⟩ := scal_den hs.1 e2
    unfold pyL at e
    rw [h1] at e
    cases q : pyL ds with
    | none =>
      rw [q] at e
      cases e
    | some qs =>
      rw [q] at e
      cases e
      exact .cons h2 (scal_all hs.2 e3 q)
theorem rd_rep {K : PySem.W.Frag} (hK : K = C.K) (W : Wd) (σ : L2.St) (H : Hp) (S : Store) (ds : List D) (us : List V) (Q : VK) (r : RelH C W H S) (hu : DenL C W ds us) (p : PQ C Z σ Q W H (repD ds S)) :
    ∃ u d, us = [u] ∧ RdX K H u d ∧ d.showable = true ∧ d.depth ≤ 20 ∧ d.shown.length ≤ sizeLine ∧ Q (.str d.shown) H := by
  unfold repD at p
  split at p
  · rename_i x
    obtain ⟨u, rfl, h⟩ := one_of hu
    split at p
    · rename_i s hs
      unfold reprD at hs
      split at hs
      · rename_i d hd
        split at hs
        · rename_i hc
          cases hs
          simp only [Bool.and_eq_true, decide_eq_true_eq, Bool.or_eq_true, Bool.not_eq_true'] at hc
          obtain ⟨⟨⟨c1, c2⟩, c3⟩, c4⟩ := hc
          rw [hK]
          refine ⟨u, d, rfl, ?_, c1, c3, most_line c4, PQ.ok p r of_str⟩
          rcases c2 with c2 | c2
          · exact .inl ⟨dp_of r.g x u d h hd c2, c2⟩
          · cases x with
            | dct ks ds =>
              simp only [D.flatDct, Bool.and_eq_true, decide_eq_true_eq] at c2
              unfold Den at h
              obtain ⟨a, vs, rfl, e2, e3, e4⟩ := h
              unfold D.py at hd
              cases q : pyL ds with
              | none =>
                rw [q] at hd
                cases hd
              | some qs =>
                rw [q] at hd
                cases hd
                exact .inr ⟨a, ks, vs, qs, rfl, r.g _ _ e2, e3.symm, rfl, scal_all c2.1 e4 q⟩
            | _ => cases c2
        · cases hs
      · cases hs
    · exact p.elim
  · exact p.elim
end
end DL
end
-- DLSup
section
set_option maxHeartbeats 4000000
namespace DL
open PySem PySem.Spec L2
section
variable {C : Ct} {Z : WX} {W0 : Wd} {H0 : Hp} {U : List Addr} {X : Cx} {e e' : Expr} {es : List Expr} {m : Ro → Store → Out D} {ms : Ro → Store → Out (List D)} {pos p p' ap cp : Pos}
theorem Step.transU {W W1 W2 : Wd} {H H1 H2 : Hp} {a : Addr} (s1 : Step U W H W1 H1) (s2 : Step [a] W1 H1 W2 H2) (ha : H a = none ∨ a ∈ U) : Step U W H W2 H2 where
  x := s1.x.trans s2.x
  dom := fun c h => s1.dom c (s2.dom c h)
  fr := fun c o h n u t => s2.fr c o (s1.fr c o h n u t) (fun z => by
    rcases s1.bn c z with q | q
    · exact n q
    · rw [h] at q
      cases q) (fun z => by
    rw [List.mem_singleton] at z
    subst z
    rcases ha with q | q
    · rw [h] at q
      cases q
    · exact u q) t
  gn := fun c h => by
    rcases s2.gn c h with (q | q) | q
    · exact s1.gn c q
    · rcases s1.bn c q with y | y
      · exact .inl (.inr y)
      · exact .inr y
    · exact .inr (s1.dom c q)
  bn := fun c h => by
    rcases s2.bn c h with q | q
    · exact s1.bn c q
    · exact .inr (s1.dom c q)
/-- the owner at slot 0 was changed by a call -/
theorem RelS.stepU {W W' : Wd} {H H' : Hp} {σ : L2.St} {ρ : Ro} {c : Nat} {ns ns' : List Str} {ds ds' : List D} {a dx : Addr} {vs' : List V} (rs : RelS C W H0 U σ H ρ) (o : ρ[0]? = some (some (.owI c ns ds))) (eu : σ[0]? = some (some (.ref a))) (st : Step [a] W H W' H')
    (h1 : H' a = some (.ins (C.ca c) dx (ns'.zip vs'))) (h2 : vs'.length = ns'.length) (h3 : DenL C W' ds' vs') (h4 : Free W' H0 U a) : RelS C W' H0 U σ H' (ρ.set 0 (some (.owI c ns' ds'))) := by
  have hi : 0 < ρ.length := (List.getElem?_eq_some_iff.mp o).1
  refine ⟨by rw [List.length_set]; exact rs.len, fun j t e' => ?_, fun j k t u v e1 e2 o1 o2 f1 f2 => ?_⟩
  · rw [get_set] at e'
    by_cases q : 0 = j ∧ j < ρ.length
    · rw [if_pos q] at e'
      cases e'
      obtain ⟨q1, _⟩ := q
      subst q1
      exact ⟨_, eu, a, dx, vs', rfl, h1, h2, h3, h4⟩
    · rw [if_neg q] at e'
      have nj : j ≠ 0 := fun z => q ⟨z.symm, by rw [z]; exact hi⟩
      obtain ⟨v, e1, e2⟩ := rs.sl j t e'
      refine ⟨v, e1, ?_⟩
      have nv : t.owned = true → v ≠ .ref a := fun ot z => by
        rw [z] at e1
        exact nj (rs.ap j 0 t _ _ e' o ot rfl e1 eu)
      cases t with
      | sh d => exact Den.ext st.x d v e2
      | thk => exact e2
      | owL xs =>
        obtain ⟨b, ys, rfl, c2, c3, c4⟩ := e2
        have nb : b ≠ a := fun z => nv rfl (by rw [z])
        refine ⟨b, ys, rfl, st.fr b _ c2 c4.2.1 (by rw [List.mem_singleton]; exact nb) (fun ps z => by cases z), DenL.ext st.x _ _ c3, ?_, fun z => ?_, c4.2.2⟩
        · cases q : W'.G b with
          | none => rfl
          | some w =>
            rcases st.gn b (by rw [q]; simp) with z | z
            · exact z.elim (fun y => absurd c4.1 y) (fun y => absurd y c4.2.1)
            · rw [c2] at z
              cases z
        · rcases st.bn b z with z | z
          · exact c4.2.1 z
          · rw [c2] at z
            cases z
      | owI c' ns2 ds2 =>
        obtain ⟨b, dx2, ys, rfl, c2, c3, c4, c5⟩ := e2
        have nb : b ≠ a := fun z => nv rfl (by rw [z])
        refine ⟨b, dx2, ys, rfl, st.fr b _ c2 c5.2.1 (by rw [List.mem_singleton]; exact nb) (fun ps z => by cases z), c3, DenL.ext st.x _ _ c4, ?_, fun z => ?_, c5.2.2⟩
        · cases q : W'.G b with
          | none => rfl
          | some w =>
            rcases st.gn b (by rw [q]; simp) with z | z
            · exact z.elim (fun y => absurd c5.1 y) (fun y => absurd y c5.2.1)
            · rw [c2] at z
              cases z
        · rcases st.bn b z with z | z
          · exact c5.2.1 z
          · rw [c2] at z
            cases z
  · rw [get_set] at e1 e2
    by_cases q1 : 0 = j ∧ j < ρ.length
    · by_cases q2 : 0 = k ∧ k < ρ.length
      · exact q1.1.symm.trans q2.1
      · rw [if_neg q2] at e2
        rw [← q1.1] at f1 ⊢
        exact rs.ap 0 k _ u v o e2 rfl o2 f1 f2
    · by_cases q2 : 0 = k ∧ k < ρ.length
      · rw [if_neg q1] at e1
        rw [← q2.1] at f2 ⊢
        exact rs.ap j 0 t _ v e1 o o1 rfl f1 f2
      · rw [if_neg q1] at e1
        rw [if_neg q2] at e2
        exact rs.ap j k t u v e1 e2 o1 o2 f1 f2
/-- .. and is not known any more -/
theorem RelS.lost {W W' : Wd} {H H' : Hp} {σ : L2.St} {ρ : Ro} {c : Nat} {ns : List Str} {ds : List D} {a : Addr} (rs : RelS C W H0 U σ H ρ) (o : ρ[0]? = some (some (.owI c ns ds))) (eu : σ[0]? = some (some (.ref a))) (st : Step [a] W H W' H') : RelS C W' H0 U σ H' (ρ.set 0 none) := by
  have key : ∀ (j : Nat) s, (ρ.set 0 none)[j]? = some (some s) → j ≠ 0 ∧ ρ[j]? = some (some s) := fun j s e => by
    rw [get_set] at e
    split at e
    · cases e
    · rename_i q
      refine ⟨fun z => q ⟨z.symm, ?_⟩, e⟩
      exact (List.getElem?_eq_some_iff.mp e).1
  refine ⟨by rw [List.length_set]; exact rs.len, fun j t e' => ?_, fun j k t u v e1 e2 o1 o2 f1 f2 => ?_⟩
  · obtain ⟨nj, e'⟩ := key j t e'
    obtain ⟨v, e1, e2⟩ := rs.sl j t e'
    refine ⟨v, e1, ?_⟩
    have nv : t.owned = true → v ≠ .ref a := fun ot z => by
      rw [z] at e1
      exact nj (rs.ap j 0 t _ _ e' o ot rfl e1 eu)
    have free : ∀ b ho, H b = some ho → W.G b = none → b ∉ W.B → W'.G b = none ∧ b ∉ W'.B := fun b ho c2 g1 g2 => by
      constructor
      · cases q : W'.G b with
        | none => rfl
        | some w =>
          rcases st.gn b (by rw [q]; simp) with z | z
          · exact z.elim (fun y => absurd g1 y) (fun y => absurd y g2)
          · rw [c2] at z
            cases z
      · intro z
        rcases st.bn b z with z | z
        · exact g2 z
        · rw [c2] at z
          cases z
    cases t with
    | sh d => exact Den.ext st.x d v e2
    | thk => exact e2
    | owL xs =>
      obtain ⟨b, ys, rfl, c2, c3, c4⟩ := e2
      have nb : b ≠ a := fun z => nv rfl (by rw [z])
      obtain ⟨g1, g2⟩ := free b _ c2 c4.1 c4.2.1
      exact ⟨b, ys, rfl, st.fr b _ c2 c4.2.1 (by rw [List.mem_singleton]; exact nb) (fun ps z => by cases z), DenL.ext st.x _ _ c3, g1, g2, c4.2.2⟩
    | owI c' ns2 ds2 =>
      obtain ⟨b, dx2, ys, rfl, c2, c3, c4, c5⟩ := e2
      have nb : b ≠ a := fun z => nv rfl (by rw [z])
      obtain ⟨g1, g2⟩ := free b _ c2 c5.1 c5.2.1
      exact ⟨b, dx2, ys, rfl, st.fr b _ c2 c5.2.1 (by rw [List.mem_singleton]; exact nb) (fun ps z => by cases z), c3, DenL.ext st.x _ _ c4, g1, g2, c5.2.2⟩
  · obtain ⟨_, e1⟩ := key j t e1
    obtain ⟨_, e2⟩ := key k u e2
    exact rs.ap j k t u v e1 e2 o1 o2 f1 f2
/-- a base class whose __init__ is called by hand -/
structure SupT (X : Cx) (C : Ct) (k : Nat) (B : Addr) (f : Addr) (fn : Fn) (x : Str) (F : Nat → List Str → List D → List D → Store → Out (List Str × List D)) (n : Nat) : Prop where
  go : ∃ fd dU, FnG X.prog X.w X.K X.mg X.base k f fd fn.ps (spI C F) ∧ BindOk X.K fd fn.ps dU (n + 1) []
  len : fn.ps.length = n + 1
  kp : PySem.W.keepIn X.K (.ref f) = true
  mg : X.mg x = some (.ref B)
  rd : PySem.W.readsIn X.K B (.type "type") = true
  ga : PySem.W.specialIn X.K (.ref B) "__getattribute__" = some (some (.builtin "type.__getattribute__"))
  at_ : PySem.W.findCls X.K (.ref B) (.type "type") "__init__" = some (.val (.ref f))
theorem bindG_all {α : Type} : ∀ (ps : List Str) (us : List α) (dfl : List (Str × α)), us.length = ps.length → bindG ps dfl us [] = some us
  | [], [], _, _ => by
    unfold bindG
    rfl
  | p :: ps, u :: us, dfl, h => by
    unfold bindG
    rw [bindG_all ps us dfl (by simpa using h)]
/-- Base.__init__(self, ..), the call -/
theorem pe_sup {k : Nat} {B f : Addr} {fn : Fn} {x self : Str} {F : Nat → List Str → List D → List D → Store → Out (List Str × List D)} {pl : Sem Bool} (T : SupT X C k B f fn x F es.length) (hr : Room k X.A) (hg : X.A.guards = some []) (tk : Takes X Z) (hgl : Gl X x) (hdb : (x == ("__debug__" : Str)) = false)
    (hi : X.N[0]? = some self) (hv : Vis X.env.scope self) (hd : (self == ("__debug__" : Str)) = false) (hcd : (self == ("__classdict__" : Str)) = false) (hs : noStar es) (ha : PA X es (tAs C Z ms)) (hlen : ∀ ρ S ds S', ms ρ S = .ok ds S' → ds.length = es.length)
    (ht : eval (.Call (.Attribute (.Name x p) "__init__" ap) (.Name self p' :: es) [] cp) X.env = (do
      let ov ← eval (.Name x p) X.env
      standAt ap.atName
      let (f, first) ← holding [ov] (getMethod ov "__init__" pl)
      callWith cp f first (backTo cp (starEach (.Name self p' :: es) X.env)) (backToKw cp (keywordEach [] X.env)))) :
    PE X (.Call (.Attribute (.Name x p) "__init__" ap) (.Name self p' :: es) [] cp) (fun σ H Q => ∃ a, σ[0]? = some (some (.ref a)) ∧ tAs C Z ms σ H fun us H1 => us.length = es.length ∧ spI C F (.ref a :: us) H1 Q (WE Z σ)) := by
  refine ⟨fun pins s σ H Q I h => ?_⟩
  refine PySem.W.methodCall_KW (pl := pl) (ld_glob I hgl T.mg ?_ hdb) ht
  refine PySem.W.method_cls I.kIn T.ga (PySem.W.cls_value I.kIn T.rd T.at_ rfl ?_)
  have I1 : Inv X pins σ H { s with toks := s.toks + 1 } := I.tok _
  obtain ⟨a, eu, h⟩ := h
  have hst : noStar (.Name self p' :: es) := fun e he => by
    rcases List.mem_cons.mp he with z | z
    · rw [z]
      exact fun _ _ y => nomatch y
    · exact hs e z
  have hpa : PA X (.Name self p' :: es) (tCons (tVar 0) (tAs C Z ms)) := pa_cons (pe_slot hi hv hd hcd) ha
  refine with_args (kws := []) (ks := []) (R := fun vs zs H2 => ∃ us, vs = .ref a :: us ∧ us.length = es.length ∧ spI C F (.ref a :: us) H2 Q (WE Z σ)) T.kp hst rfl hpa pk_nil I1 ⟨_, eu, ?_⟩ ?_
  · obtain ⟨W, H0, U, ρ, S, rh, rs, q⟩ := h
    refine ⟨W, H0, U, ρ, S, rh, rs, q.mono fun W1 H1 ds z us hu => ?_⟩
    obtain ⟨z1, z2⟩ := z us hu
    exact ⟨us, rfl, z1, z2⟩
  · rintro s2 H2 us ws vs zs I2 r1 r2 ⟨us', rfl, hl, sp⟩
    obtain ⟨fd, dU, G, hb⟩ := T.go
    have l1 : us.length = es.length + 1 := by
      rw [← r1.length, List.length_cons, hl]
    have bt := hb s2 us [] us I2.kIn l1 rfl (bindG_all _ _ _ (by rw [l1, T.len]))
    exact run_g (args := ⟨us, []⟩) G hr hg tk I2 bt r1 (by rw [List.length_cons, hl, T.len]) sp
theorem ss_sup {k : Nat} {B f : Addr} {fn : Fn} {x self : Str} {F : Nat → List Str → List D → List D → Store → Out (List Str × List D)} {pl : Sem Bool} (T : SupT X C k B f fn x F es.length) (hr : Room k X.A) (hg : X.A.guards = some []) (tk : Takes X Z) (hgl : Gl X x) (hdb : (x == ("__debug__" : Str)) = false)
    (hi : X.N[0]? = some self) (hv : Vis X.env.scope self) (hd : (self == ("__debug__" : Str)) = false) (hcd : (self == ("__classdict__" : Str)) = false) (hs : noStar es) (ha : PA X es (tAs C Z ms)) (hlen : ∀ ρ S ds S', ms ρ S = .ok ds S' → ds.length = es.length)
    (ht : eval (.Call (.Attribute (.Name x p) "__init__" ap) (.Name self p' :: es) [] cp) X.env = (do
      let ov ← eval (.Name x p) X.env
      standAt ap.atName
      let (f, first) ← holding [ov] (getMethod ov "__init__" pl)
      callWith cp f first (backTo cp (starEach (.Name self p' :: es) X.env)) (backToKw cp (keywordEach [] X.env)))) :
    PS X (.Expr (.Call (.Attribute (.Name x p) "__init__" ap) (.Name self p' :: es) [] cp) pos) (tS C Z W0 H0 U fun ρ S => match (ρ[0]? : Option (Option Sl)) with
      | some (some (.owI _ _ _)) => (ms ρ S).then ρ fun ds S1 => kSup F ds S1 ρ
      | _ => .stk) :=
  PS.imp (ps_expr (pe_sup T hr hg tk hgl hdb hi hv hd hcd hs ha hlen ht)) fun E σ H h => by
    obtain ⟨W, ρ, S, s0, rh, rs, q⟩ := h
    dsimp only at q
    split at q
    · rename_i k0 ns0 fs0 o
      obtain ⟨u, eu, hsl⟩ := rs.sl 0 _ o
      obtain ⟨a, dx, vs, rfl, _⟩ := id hsl
      refine ⟨a, eu, W, H0, U, ρ, S, rh, rs, st_exp s0 rs q fun ds S1 W1 H1 eo s1 r1 q1 us hu => ?_⟩
      have rs1 := rs.step s1
      obtain ⟨u2, eu2, hsl2⟩ := rs1.sl 0 _ o
      rw [eu] at eu2
      cases eu2
      obtain ⟨a2, dx2, vs2, ea2, h1, h2, h3, h4⟩ := id hsl2
      cases ea2
      have hl : us.length = es.length := by rw [← hu.length, hlen ρ S ds S1 eo]
      refine ⟨hl, W1, k0, ns0, fs0, ds, S1, a, dx2, vs2, us, r1, rfl, hu, h1, h2, h3, h4.1, h4.2.1, ?_⟩
      unfold kSup at q1
      rw [o] at q1
      dsimp only at q1
      have sA := s0.trans s1.up
      cases z : F k0 ns0 fs0 ds S1 with
      | stk =>
        rw [z] at q1
        exact q1
      | er e S2 =>
        rw [z] at q1
        intro cls dd W2 H2 s2 r2 dx'
        exact q1 cls dd σ W2 H2 (sA.transU s2 (.inr h4.2.2)) s2.x r2 (rs1.lost o eu s2) dx'
      | ok qq S2 =>
        rw [z] at q1
        intro W2 H2 dx3 zs s2 r2 e1 e2 e3 e4 e5
        exact q1 σ W2 H2 (sA.transU s2 (.inr h4.2.2)) s2.x r2 (rs1.stepU o eu s2 e1 e2 e3 ⟨e4, e5, h4.2.2⟩)
    · exact q.elim
end
end DL
end
-- DLXi
section
set_option maxHeartbeats 4000000
namespace DL
open PySem PySem.Spec L2
open LamX NdefX
/-- a method's call, its form -/
theorem mcall_eq {o : Expr} {name : Str} {apos pos : Pos} {args : List Expr} {kws : List Keyword} {env : Env} (hl : (apos.endLine == pos.line) = true) (hf : methodCallForm (args.length + kws.length) (backTo pos (starEach args env)) (backToKw pos (keywordEach kws env)) = true) :
    eval (.Call (.Attribute o name apos) args kws pos) env = (do
      let ov ← attributeBase o name env (eval o env)
      standAt apos.atName
      let (f, first) ← holding [ov] (getMethod ov name (do return (← importBound o env).getD true))
      callWith pos f first (backTo pos (starEach args env)) (backToKw pos (keywordEach kws env))) := by
  rw [arm_eval_Call]
  unfold methodCall calleeOf methodCallPos
  rw [hf]
  simp only [hl, if_true, Bool.or_true, Bool.not_true, Bool.false_or, pure_bind]
/-- super().__init__(..) of an own exception over ValueError, called -/
theorem call_mw {X : Cx} {pins : List (Addr × Obj)} {σ : L2.St} {H : Hp} {s : Shared} {A : Around} {E : Value → Shared → Prop} {a C u : Addr} {us : List Value} {Q : Value → Shared → Prop} (T : OexC X.K C) (I : Inv X pins σ H s) (e : H a = some (exo a C none)) (hl : us.length ≤ sizeLine)
    (hu : s.heap.get? u = some (PySem.W.kxs_mw "ValueError.__init__" a)) (h : ∀ s', Inv X pins σ H s' → Q .none s') :
    wpAny (model X.prog X.w) A (call (.ref u) us) Q E s := by
  obtain ⟨nm, q, N, bs, bm, sn, sub, ab, col, dd, k0, k1, k2, k3, k5, hC, hbm⟩ := T.cls
  obtain ⟨t1, ho⟩ := exo_at I.hok e
  have KI := I.kIn
  obtain ⟨hh, g, d, tk, os⟩ := s
  refine wpAny_call (codeAny_of_tree ?_)
  show wpAny _ A.in1 (callAny (.ref u) ⟨us, []⟩) _ _ _
  simp only [callAny]
  refine wpAny_bind (wpAny_load hu ?_)
  simp only [PySem.W.kxs_mw, show (Value.type "method-wrapper" == Value.type "method" || Value.type "method-wrapper" == Value.type "builtin_function_or_method" || Value.type "method-wrapper" == Value.type "method-wrapper") = true by decide, if_true]
  refine PySem.W.KFB.if_so (by decide) ?_
  refine wpAny_bind (PySem.W.check_bound_init F.excBase_ValueError.toExcCallFacts (KI _ _ hC) ho rfl ?_)
  refine wpAny_bind (wpAny_pure (wpAny_pure ?_))
  refine ⟨plainId_quiet F.excBase_ValueError.init.plain _, codeAny_builtin F.excBase_ValueError.initEntry ?_⟩
  refine PySem.W.exc_init_tree (cls := .ref C) (t0 := t1) (dv := none) (c2 := .none) (c3 := .none) (b4 := .bool false) ho hl fun h' k hx _ => ?_
  have J := I.write (t' := tk) (x := a) (e := a) (o := exo a C none) (by rw [e]; exact True.intro) (.inl rfl) k ⟨_, hx⟩ (exo_ok hx)
  have eu : upd H a (exo a C none) = H := by
    funext b
    by_cases hb : b = a
    · rw [hb, upd_same, e]
    · rw [upd_ne hb]
  rw [eu] at J
  exact h _ J
/-- what the written part says of an own exception with an __init__ -/
structure XiT (P : Program) (K : PySem.W.Frag) (mg : Str → Option Value) (D fI cc : Addr) (F : NF) (slf : Str) : Prop where
  oex : OexC K D
  fn : ∃ oc od doc pm ctv sl, K.lookup fI = some ⟨oc, od, .func (F.fd doc pm ctv), sl⟩
  cd : PySem.W.codeIn K (.ref F.c) F.qual = true
  cl : F.cl = [(("__class__" : Str), cc)]
  cell : ∃ c1 c2 c3, K.lookup cc = some ⟨c1, c2, .cell (some (.ref D)), c3⟩
  code : ∃ c1 c2 c3 vs file tf, K.lookup F.c = some ⟨c1, c2, .fields vs, c3⟩ ∧ vs[2]? = some (.str file tf) ∧ ((P.main.file : Str) == file) = true
  top : (P.main.scope.names.lookup ("super" : Str)).isSome = false
  sup : mg "super" = none
  par : ∃ ar, (F.params.posonlyargs ++ F.params.args).head? = some ar ∧ ar.arg = slf
  isD : ∃ cd, PySem.W.clsIn K D = some cd
  mro : PySem.W.mroIn K D (.ref D) = some true
  meth : PySem.W.ks_superIn K D D "__init__" = some (some (.builtin "ValueError.__init__"))
  sub : PySem.W.subIn K (.ref D) (.type "ValueError") = some true
  opq : PySem.W.nsIn K cStatics "thirdparty.any" = some none
  k1 : F.scope.names.lookup ("super" : Str) = some .globalImplicit
  k2 : F.scope.names.lookup ("__class__" : Str) = some .free
  k3 : F.scope.names.lookup slf = some .local
section
variable {P : Program} {w : World} {K : PySem.W.Frag} {mg : Str → Option Value} {base : Heap} {D fI cc : Addr} {F : NF} {self : Str} {N : List Str} {A : Around} {outer : List Env} {s0 : Shared} {H0 : Hp} {E : XK}
/-- super().__init__('..') -/
theorem sup_stmt {CX : CXT} {pins : List (Addr × Obj)} {σ : L2.St} {H : Hp} {s : Shared} {a : Addr} {lit : Str} {jj : Nat} {p0 p1 p2 p3 p4 p5 : Pos} {body : List Stmt} {Q : Flow → Shared → Prop} {xe : Value → Shared → Prop}
    (hl : (p2.endLine == p4.line) = true) (T : XiT P K mg D fI cc F self) (hN : N[0]? = some self) (hkd : F.scope.kind = .function) (I : Inv (ncx CX P w K mg base N F fI A outer s0 H0 E) pins σ H s) (e0 : σ[0]? = some (some (.ref a))) (ea : H a = some (exo a D none))
    (h : ∀ s', Inv (ncx CX P w K mg base N F fI A outer s0 H0 E) pins σ H s' → Q .next s') :
    _root_.PySem.wpAt (model P w) (A.deeper (envF F fI s0.heap.objs.size)) (.func body (envF F fI s0.heap.objs.size)) (exec (.Expr (.Call (.Attribute (.Call (.Name "super" p0) [] [] p1) "__init__" p2) [.Constant (.str lit) jj p3] [] p4) p5) (envF F fI s0.heap.objs.size)) Q xe s := by
  obtain ⟨oc, od, doc, pm, ctv, sl, lk⟩ := T.fn
  obtain ⟨c1, c2, c3, lc⟩ := T.cell
  obtain ⟨d1, d2, d3, vs, file, tf, lcd, hvs, hfile⟩ := T.code
  obtain ⟨ar, hp, har⟩ := T.par
  obtain ⟨cd, hcd⟩ := T.isD
  have KI := I.kIn
  obtain ⟨t1, ho⟩ := exo_at I.hok ea
  obtain ⟨m, hns, hloc⟩ := I.loc
  obtain ⟨u, ru, lu⟩ := hloc 0 self (.ref a) hN e0 (.inl T.k3)
  obtain rfl : u = Value.ref a := ru
  have hm : m self = some (.ref a) := by
    rcases lu with ⟨_, z⟩ | ⟨z | z, _⟩
    · exact z
    · have z : F.scope.names.lookup self = _ := z
      rw [T.k3] at z
      cases z
    · have z : F.scope.names.lookup self = _ := z
      rw [T.k3] at z
      cases z
  obtain ⟨oD, hD1, hD2⟩ : ∃ oD, s.heap.get? D = some oD ∧ oD.data = .cls cd := by
    unfold PySem.W.clsIn at hcd
    split at hcd
    · rename_i c d cd' sl ho
      cases hcd
      exact ⟨_, KI _ _ ho, rfl⟩
    · cases hcd
  have hsub : PySem.W.Looks (model P w) s.heap (isSubtype (.ref D) (.ref D)) true := PySem.W.looks_mroIn KI T.mro
  obtain ⟨mb, hb1, hb2⟩ := I.mod.blt
  refine ks_wpAt_Expr_any (ks_wpAt_MethodCall (pl := do return (← importBound _ _).getD true) ?_ (mcall_eq hl rfl)) (by unfold interactive; show (F.scope.kind == _ && _) = false; rw [hkd]; rfl)
  refine ks_wpAt_super_base (env := envF F fI s0.heap.objs.size) T.k1 T.k2 (by decide) rfl (KI _ _ lk) rfl hp rfl (KI _ _ lcd) rfl hvs hfile T.top ?_
  refine PySem.W.ks_loadName_global hkd T.k1 (Calls.loadGlobal_builtin (I.mod.glob.keeps I.bk) T.sup (hb1.keeps I.bk) ((hb2 "super" (by decide)).trans PyProof.Rows.Boot.«super») ⟨rfl, ?_⟩)
  refine wpAny_loadName_free hkd T.k2 (show F.cl.lookup ("__class__" : Str) = some cc by rw [T.cl]; rfl) ⟨_, KI _ _ lc, rfl⟩ ?_
  rw [har]
  refine wpAny_loadName_local hkd T.k3 hns hm ?_
  refine ks_wpAny_isType_cls hD1 hD2 ⟨rfl, ?_⟩
  obtain ⟨hh, g, d, t, os⟩ := s
  refine ks_wpAny_call_super hD1 hD2 ho rfl (fun c z => by cases z) hsub (fun h' hs1 k => ?_)
  have I1 : Inv (ncx CX P w K mg base N F fI A outer s0 H0 E) pins σ H ⟨h', g, d, t, os⟩ := I.kept (t' := t) k
  have IA : PySem.W.InstAt h' a _ D none := ⟨k _ _ ho, rfl, rfl, trivial⟩
  have hI : PySem.W.Looks (model P w) h' (isInstance (.ref a) (.type "ValueError")) true := IA.type.andThen (PySem.W.looks_subIn I1.kIn T.sub)
  have hm2 := T.meth
  unfold PySem.W.ks_superIn at hm2
  rw [hcd] at hm2
  refine PySem.W.kxs_getMethod PySem.W.kxs_ValueError (l₀ := cd.mro) hs1 (PySem.W.looks_opaque I1.kIn T.opq) ?_ rfl I1.kIn hm2 hI (PySem.W.ks_ne I1.kIn IA hcd) (by decide) ?_
  · exact fun A Q E s k q => wpAny_bind ((PySem.W.looks_clsIn I1.kIn hcd) A _ E s k (wpAny_pure q))
  have I2 : Inv (ncx CX P w K mg base N F fI A outer s0 H0 E) pins σ H ⟨h'.push (PySem.W.kxs_mw "ValueError.__init__" a), g, d, t + 1, os⟩ := I1.kept (t' := t + 1) fun b o e => Heap.get?_push_of_some _ e
  have hmw : (h'.push (PySem.W.kxs_mw "ValueError.__init__" a)).get? h'.objs.size = some (PySem.W.kxs_mw "ValueError.__init__" a) := Heap.get?_push_at rfl rfl
  refine PySem.W.kxs_callWith (i := "ValueError.__init__") (x := a) rfl ?_
  refine Calls.evalArgs_plain ?_
  refine Calls.spliced_cons (Calls.Constant_str (k := jj) (pos := p3) (Calls.spliced_nil ?_))
  refine ⟨hmw, call_mw (X := ncx CX P w K mg base N F fI A outer s0 H0 E) T.oex (I2.tok _) ea ?_ hmw fun s' J => h s' J⟩
  rw [sizeLine_eq]
  show 1 ≤ 16777216
  decide
end
/-- self.f = x, line by line -/
inductive Sts (N : List Str) (sc : Scope) (slf : Str) : List (Str × Nat) → List Stmt → Prop
  | nil : Sts N sc slf [] []
  | cons {f x : Str} {i : Nat} {q1 q2 q3 q4 : Pos} {r : List (Str × Nat)} {rest : List Stmt} (hi : N[i]? = some x) (hv : Vis sc x) (hd : (x == ("__debug__" : Str)) = false) (hc : (x == ("__classdict__" : Str)) = false) (t : Sts N sc slf r rest) :
      Sts N sc slf ((f, i) :: r) (.Assign [.Attribute (.Name slf q1) f q2] (.Name x q3) q4 :: rest)
def gtV (σ : L2.St) (i : Nat) : V := match σ[i]? with
  | some (some v) => v
  | _ => .non
def rowV (σ : L2.St) (sts : List (Str × Nat)) : List (Str × V) := sts.map fun p => (p.1, gtV σ p.2)
theorem upd_upd {H : Hp} {a : Addr} {o u : HO} : upd (upd H a o) a u = upd H a u := by
  funext b
  by_cases hb : b = a
  · rw [hb, upd_same, upd_same]
  · rw [upd_ne hb, upd_ne hb, upd_ne hb]
theorem upd_swap {H : Hp} {a b : Addr} {o u : HO} (h : a ≠ b) : upd (upd H a o) b u = upd (upd H b u) a o := by
  funext c
  by_cases ha : c = a
  · subst ha
    rw [upd_ne h, upd_same, upd_same]
  · by_cases hb : c = b
    · subst hb
      rw [upd_same, upd_ne ha, upd_same]
    · rw [upd_ne hb, upd_ne ha, upd_ne ha, upd_ne hb]
section
variable {X : Cx} {slf : Str} {D a : Addr}
theorem sts_old {sts : List (Str × Nat)} {rest : List Stmt} (h : Sts X.N X.env.scope slf sts rest) (T : OexC X.K D) (h0 : X.N[0]? = some slf) (hv : Vis X.env.scope slf) (hd : (slf == ("__debug__" : Str)) = false) (hc : (slf == ("__classdict__" : Str)) = false)
    (hf : ∀ p ∈ sts, PySem.W.findIn X.K (.ref D) p.1 = some none) :
    PSs X rest (fun E σ H => ∃ a dx fs, σ[0]? = some (some (.ref a)) ∧ H a = some (exo a D (some dx)) ∧ H dx = some (exd dx fs) ∧ dx ≠ a ∧ fs.length + sts.length ≤ 900 ∧ (∀ p ∈ sts, ∃ v, σ[p.2]? = some (some v)) ∧ E.nx σ (upd H dx (exd dx ((rowV σ sts).reverse ++ fs)))) := by
  induction h with
  | nil =>
    refine PSs.imp pss_nil fun E σ H ⟨a, dx, fs, e0, e1, e2, e3, e4, e5, e6⟩ => ?_
    have e6 : E.nx σ (upd H dx (exd dx fs)) := e6
    have eq : upd H dx (exd dx fs) = H := by
      funext b
      by_cases hb : b = dx
      · rw [hb, upd_same, e2]
      · rw [upd_ne hb]
    rw [eq] at e6
    exact e6
  | @cons f x i q1 q2 q3 q4 r rest hi hvx hdx hcx t ih =>
    have ih := ih fun p hp => hf p (List.mem_cons_of_mem _ hp)
    have p1 : PS X (.Assign [.Attribute (.Name slf q1) f q2] (.Name x q3) q4) (tOst X.K f (tVar 0) (tVar i)) := ps_ost (pe_var h0 hv hd hc) (pe_var hi hvx hdx hcx)
    refine PSs.imp (pss_cons p1 ih) fun E σ H ⟨a, dx, fs, e0, e1, e2, e3, e4, e5, e6⟩ => ?_
    obtain ⟨v, ev⟩ := e5 (f, i) (List.mem_cons_self ..)
    refine ⟨v, ev, _, e0, a, D, rfl, T, hf (f, i) (List.mem_cons_self ..), .inr ⟨dx, fs, e1, e2, by rw [List.length_cons] at e4; omega, a, dx, (f, v) :: fs, e0, ?_, upd_same, e3, ?_, fun p hp => e5 p (List.mem_cons_of_mem _ hp), ?_⟩⟩
    · rw [upd_ne (Ne.symm e3)]
      exact e1
    · rw [List.length_cons] at e4 ⊢
      omega
    · rw [upd_upd]
      have eg : gtV σ i = v := by
        unfold gtV
        rw [ev]
      have er : (rowV σ ((f, i) :: r)).reverse ++ fs = (rowV σ r).reverse ++ (f, v) :: fs := by
        show (((f, gtV σ i) :: rowV σ r).reverse) ++ fs = _
        rw [List.reverse_cons, List.append_assoc, eg]
        rfl
      rw [er] at e6
      exact e6
theorem sts_new {sts : List (Str × Nat)} {rest : List Stmt} (h : Sts X.N X.env.scope slf sts rest) (ne : sts ≠ []) (T : OexC X.K D) (h0 : X.N[0]? = some slf) (hv : Vis X.env.scope slf) (hd : (slf == ("__debug__" : Str)) = false) (hc : (slf == ("__classdict__" : Str)) = false)
    (hf : ∀ p ∈ sts, PySem.W.findIn X.K (.ref D) p.1 = some none) :
    PSs X rest (fun E σ H => ∃ a, σ[0]? = some (some (.ref a)) ∧ H a = some (exo a D none) ∧ sts.length ≤ 800 ∧ (∀ p ∈ sts, ∃ v, σ[p.2]? = some (some v)) ∧ ∀ dx, H dx = none → dx ≠ a → E.nx σ (upd (upd H dx (exd dx ((rowV σ sts).reverse))) a (exo a D (some dx)))) := by
  cases h with
  | nil => exact absurd rfl ne
  | @cons f x i q1 q2 q3 q4 r rest hi hvx hdx hcx t =>
    have ih := sts_old (D := D) t T h0 hv hd hc fun p hp => hf p (List.mem_cons_of_mem _ hp)
    have p1 : PS X (.Assign [.Attribute (.Name slf q1) f q2] (.Name x q3) q4) (tOst X.K f (tVar 0) (tVar i)) := ps_ost (pe_var h0 hv hd hc) (pe_var hi hvx hdx hcx)
    refine PSs.imp (pss_cons p1 ih) fun E σ H ⟨a, e0, e1, e4, e5, e6⟩ => ?_
    obtain ⟨v, ev⟩ := e5 (f, i) (List.mem_cons_self ..)
    refine ⟨v, ev, _, e0, a, D, rfl, T, hf (f, i) (List.mem_cons_self ..), .inl ⟨e1, fun dx hn hne => ⟨a, dx, [(f, v)], e0, upd_same, ?_, hne, ?_, fun p hp => e5 p (List.mem_cons_of_mem _ hp), ?_⟩⟩⟩
    · rw [upd_ne hne, upd_same]
    · rw [List.length_cons] at e4 ⊢
      show 0 + 1 + r.length ≤ 900
      omega
    · have eg : gtV σ i = v := by
        unfold gtV
        rw [ev]
      have er : (rowV σ ((f, i) :: r)).reverse = (rowV σ r).reverse ++ [(f, v)] := by
        show (((f, gtV σ i) :: rowV σ r).reverse) = _
        rw [List.reverse_cons, eg]
      have e6 := e6 dx hn hne
      rw [er] at e6
      rw [upd_swap (Ne.symm hne), upd_upd]
      exact e6
end
/-- the promise of an own exception's __init__ -/
def exSp (D : Addr) (flds : List Str) : Sp := fun vs H Q _ => ∃ a ws, vs = .ref a :: ws ∧ ws.length = flds.length ∧ H a = some (exo a D none) ∧ ∀ dx, H dx = none → dx ≠ a → Q .non (upd (upd H dx (exd dx (flds.zip ws).reverse)) a (exo a D (some dx)))
def stsOf : List Str → Nat → List (Str × Nat)
  | [], _ => []
  | f :: r, k => (f, k) :: stsOf r (k + 1)
theorem stsOf_len : ∀ (fs : List Str) (k : Nat), (stsOf fs k).length = fs.length
  | [], _ => rfl
  | f :: r, k => by
    unfold stsOf
    rw [List.length_cons, List.length_cons, stsOf_len r]
theorem stsOf_row {σ : L2.St} : ∀ (fs : List Str) (ws : List V) (k : Nat), (∀ i v, ws[i]? = some v → σ[k + i]? = some (some v)) → ws.length = fs.length → rowV σ (stsOf fs k) = fs.zip ws
  | [], [], _, _, _ => rfl
  | f :: r, [], k, _, h => by cases h
  | [], _ :: _, k, _, h => by cases h
  | f :: r, w :: ws, k, hs, h => by
    have e : gtV σ k = w := by
      unfold gtV
      rw [show σ[k]? = some (some w) from hs 0 w rfl]
    show (f, gtV σ k) :: rowV σ (stsOf r (k + 1)) = (f, w) :: r.zip ws
    rw [e, stsOf_row r ws (k + 1) (fun i v hv => by
      have q := hs (i + 1) v (by simpa using hv)
      rw [show k + 1 + i = k + (i + 1) by omega]
      exact q) (by simpa using h)]
theorem stsOf_all {σ : L2.St} : ∀ (fs : List Str) (ws : List V) (k : Nat), (∀ i v, ws[i]? = some v → σ[k + i]? = some (some v)) → ws.length = fs.length → ∀ p ∈ stsOf fs k, ∃ v, σ[p.2]? = some (some v)
  | [], _, _, _, _ => fun p hp => by cases hp
  | f :: r, [], k, _, h => by cases h
  | f :: r, w :: ws, k, hs, h => fun p hp => by
    rcases List.mem_cons.mp hp with z | z
    · rw [z]
      exact ⟨w, hs 0 w rfl⟩
    · exact stsOf_all r ws (k + 1) (fun i v hv => by
        have q := hs (i + 1) v (by simpa using hv)
        rw [show k + 1 + i = k + (i + 1) by omega]
        exact q) (by simpa using h) p z
theorem stsOf_mem : ∀ (fs : List Str) (k : Nat) (p : Str × Nat), p ∈ stsOf fs k → p.1 ∈ fs
  | [], _, p, h => by cases h
  | f :: r, k, p, h => by
    rcases List.mem_cons.mp h with z | z
    · rw [z]
      exact List.mem_cons_self ..
    · exact List.mem_cons_of_mem _ (stsOf_mem r (k + 1) p z)
theorem exc_fn {P : Program} {w : World} {K : PySem.W.Frag} {mg : Str → Option Value} {base : Heap} {D fI cc : Addr} {F : NF} {slf : Str} {N flds : List Str} {lit : Str} {jj : Nat} {p0 p1 p2 p3 p4 p5 : Pos} {rest : List Stmt} {oc doc pm ctv : Value} {od : Option Addr} {sl : Array (Option Value)} {k : Nat}
    (T : XiT P K mg D fI cc F slf) (lk : K.lookup fI = some ⟨oc, od, .func (F.fd doc pm ctv), sl⟩) (S : NScope N (slf :: flds) [("__class__" : Str)] F.scope) (hd : (slf == ("__debug__" : Str)) = false) (hc : (slf == ("__classdict__" : Str)) = false) (hl : (p2.endLine == p4.line) = true)
    (hbody : F.body = .Expr (.Call (.Attribute (.Call (.Name "super" p0) [] [] p1) "__init__" p2) [.Constant (.str lit) jj p3] [] p4) p5 :: rest) (hst : Sts N F.scope slf (stsOf flds 1) rest) (hne : flds ≠ []) (hlen : flds.length ≤ 800) (hf : ∀ f ∈ flds, PySem.W.findIn K (.ref D) f = some none) :
    FnOk P w K mg base (L2.CX P w) (k + 1) fI (F.fd doc pm ctv) (slf :: flds) (exSp D flds) := by
  refine ⟨fun vs H Q E ⟨a, ws, e1, e2, _⟩ => by rw [e1, List.length_cons, List.length_cons, e2], fun A outer s H args us vs Q E hr e0 hb r ⟨a, ws, evs, hws, ea, q⟩ => ?_⟩
  subst evs
  have hN0 : N[0]? = some slf := by
    have z := S.pre
    have z2 := congrArg (fun l => l[0]?) z
    rw [List.getElem?_take_of_lt (by simp)] at z2
    rw [z2]
    rfl
  have KX : K.In s.heap := e0.mod.kin.keeps fun b o e => (e0.bs b o e).1
  have lim : s.heap.NoLimit := e0.mod.nolimit.keeps fun b o e => (e0.bs b o e).1
  obtain ⟨c1, c2, c3, lc⟩ := T.cell
  have hlk : F.cl.lookup ("__class__" : Str) = some cc := by
    rw [T.cl]
    rfl
  have inv : ∀ {y : Str} {c : Addr}, F.cl.lookup y = some c → y = "__class__" ∧ c = cc := fun {y c} z => by
    rw [T.cl] at z
    simp only [List.lookup] at z
    cases hy : (y == ("__class__" : Str)) with
    | true =>
      rw [hy] at z
      cases z
      exact ⟨by simpa using hy, rfl⟩
    | false =>
      rw [hy] at z
      cases z
  have CA : CellsAt F.cl [("__class__" : Str)] [none] s.heap H := {
    len := rfl
    all := fun y c z => by
      obtain ⟨_, rfl⟩ := inv z
      exact ⟨(e0.bs _ _ (e0.mod.kin _ _ lc)).2, _, _, KX _ _ lc, rfl⟩
    inj := fun x y c z1 z2 => (inv z1).1.trans (inv z2).1.symm
    has := fun i y hy => by
      have hi : i < 1 := (List.getElem?_eq_some_iff.mp hy).1
      obtain rfl : i = 0 := by omega
      cases hy
      exact ⟨cc, hlk, fun v z => by cases z⟩ }
  refine codeAny_call_function hr.depth (KX _ _ lk) rfl S.co S.gen rfl (PySem.W.codeRec_of KX T.cd) (hb _ _ _ _ ?_)
  refine wpAny_newFunctionEnv S.nocell (fun ⟨n, _⟩ hy => S.par n (List.of_mem_zip hy).1) (fun h₁ hns hsb => ⟨lim.fresh _ hsb, ?_⟩) S.kind
  show codeAny _ _ (.func F.body (envF F fI s.heap.objs.size)) _ _
  have kp : ∀ b o, s.heap.get? b = some o → h₁.get? b = some o := fun b o e => hsb.extBut b o (Nat.ne_of_lt (Heap.lt_size e)) (Heap.get?_push_of_some _ e)
  have hlv : (V.ref a :: ws).length = (slf :: flds).length := by rw [List.length_cons, List.length_cons, hws]
  have I : Inv (ncx (L2.CX P w) P w K mg base N F fI A outer s H E) [] (startF N (.ref a :: ws) [none]) H { s with heap := h₁, toks := s.toks + ((slf :: flds).zip us).length } := inv_startN S hr.hd e0 hlv r CA hns kp
  refine ks_codeAny_funcAt ?_
  rw [hbody]
  refine ks_wpAt_execs_cons ?_
  refine sup_stmt (CX := L2.CX P w) (E := E) hl T hN0 S.kind I rfl ea fun s' J => ?_
  have st := sts_new (X := ncx (L2.CX P w) P w K mg base N F fI A outer s H E) hst (by cases flds with | nil => exact absurd rfl hne | cons f r => intro z; cases z) T.oex hN0 (.inl T.k3) hd hc (fun p hp => hf p.1 (stsOf_mem _ _ p hp))
  have hs : ∀ (i : Nat) v, ws[i]? = some v → (startF N (.ref a :: ws) [none])[1 + i]? = some (some v) := fun i v hv => by
    have hi : i < ws.length := (List.getElem?_eq_some_iff.mp hv).1
    unfold startF
    rw [List.getElem?_append_left (by simp; omega), List.getElem?_map, show 1 + i = i + 1 by omega, List.getElem?_cons_succ, hv]
    rfl
  refine wpAt_of_wpAny (wpAny_mono (st.run [] s' _ H { nx := fun _ H' => Q .non H', rt := Q } J ⟨a, rfl, ea, by rw [stsOf_len]; exact hlen, stsOf_all flds ws 1 hs hws, fun dx z1 z2 => ?_⟩) (fun fl s'' h' => ?_) fun e s'' h' => h')
  · rw [stsOf_row flds ws 1 hs hws]
    exact q dx z1 z2
  · have fin : ∀ {σ' : L2.St} {H' : Hp} {v : V} {u : Value}, Inv (ncx (L2.CX P w) P w K mg base N F fI A outer s H E) [] σ' H' s'' → L2.RelV v u → Q v H' → CE outer P w H s Q u s'' :=
      fun {σ' H' v u} J rv q => ⟨v, H', J.os, J.bare, J.base, J.hok, rv, q⟩
    cases fl with
    | ret u =>
      obtain ⟨v, σ', H', J, rv, q⟩ := h'
      exact fin J rv q
    | next =>
      obtain ⟨σ', H', J, q⟩ := h'
      exact fin (v := V.non) (u := Value.none) J rfl q
    | brk =>
      obtain ⟨_, _, _, q⟩ := h'
      exact False.elim q
    | cont =>
      obtain ⟨_, _, _, q⟩ := h'
      exact False.elim q
end DL
end
-- DLRaise
section
set_option maxHeartbeats 4000000
namespace DL
open PySem PySem.Spec L2
/-- an own exception class that is raised -/
structure RaT (X : Cx) (C : Ct) (D : Addr) (flds : List Str) (x : Str) : Prop where
  oex : OexC X.K D
  ini : ∃ fI fd ps, PySem.W.findIn X.K (.ref D) "__init__" = some (some (.ref fI)) ∧ PySem.W.typeIn X.K (.ref fI) = some (.type "function") ∧ FnOk X.prog X.w X.K X.mg X.base (L2.CX X.prog X.w) 1 fI fd ps (exSp D flds) ∧ Binds X.K fd ps []
  mg : X.mg x = some (.ref D)
  sm : flds.length ≤ 800
section
variable {C : Ct} {Z : WX} {W0 : Wd} {H0 : Hp} {U : List Addr} {X : Cx} {e : Expr} {es : List Expr} {ms : Ro → Store → Out (List D)} {pos p rp : Pos}
def kRaise (c : Nat) (flds : List Str) (ds : List D) (S1 : Store) (ρ : Ro) : OutS := if flds.length = ds.length then .er (.exc c flds.reverse ds.reverse) ρ S1 else .stk
theorem denL_reverse {W : Wd} : ∀ {ds : List D} {vs : List V}, DenL C W ds vs → DenL C W ds.reverse vs.reverse
  | [], vs, h => by
    unfold DenL at h
    rw [h]
    exact DenL.nil
  | d :: ds, vs, h => by
    unfold DenL at h
    obtain ⟨v, r, rfl, e2, e3⟩ := h
    rw [List.reverse_cons, List.reverse_cons]
    exact (denL_reverse e3).append (DenL.cons e2 DenL.nil)
theorem zip_rev {α β : Type} : ∀ {a : List α} {b : List β}, a.length = b.length → (a.zip b).reverse = a.reverse.zip b.reverse
  | [], [], _ => rfl
  | [], _ :: _, h => by cases h
  | _ :: _, [], h => by cases h
  | x :: a, y :: b, h => by
    have h : a.length = b.length := by simpa using h
    rw [List.zip_cons_cons, List.reverse_cons, List.reverse_cons, List.reverse_cons, zip_rev h, List.zip_append (by rw [List.length_reverse, List.length_reverse, h])]
    rfl
theorem ss_raise {c : Nat} {flds : List Str} {x : Str} (T : RaT X C (C.ca c) flds x) (hr : Room 2 X.A) (hc : X.calm = true) (tk : Takes X Z) (hgl : Gl X x) (hdb : (x == ("__debug__" : Str)) = false) (hs : noStar (e :: es)) (ha : PA X (e :: es) (tAs C Z ms)) :
    PS X (.Raise (some (.Call (.Name x p) (e :: es) [] pos)) none rp) (tS C Z W0 H0 U fun ρ S => (ms ρ S).then ρ fun ds S1 => kRaise c flds ds S1 ρ) := by
  obtain ⟨fI, fd, ps, i1, i2, i3, i4⟩ := T.ini
  have hpm := pmk_oex (p := p) (pos := pos) (dvs := []) T.oex i1 i2 i3 hr i4 .nil (fun pins σ H s e s' I c => passes_call tk (fun cls d σ H z => z.elim) pins σ H s e s' I c) hgl T.mg ha hdb (star_of fun x p => hs e (List.mem_cons_self ..) x p) (star_all fun e' he => hs e' (List.mem_cons_of_mem _ he))
  refine PS.imp (ps_raise (pos := rp) hc tk hpm) fun E σ H h => ?_
  obtain ⟨W, ρ, S, s0, rh, rs, q⟩ := h
  refine ⟨W, H0, U, ρ, S, rh, rs, st_exp s0 rs q fun ds S1 W1 H1 eo s1 r1 q1 vs hv => ?_⟩
  unfold kRaise at q1
  by_cases hl : flds.length = ds.length
  · rw [if_pos hl] at q1
    have hvl : vs.length = flds.length := by rw [hl, hv.length]
    refine ⟨by rw [hvl]; have := T.sm; omega, fun a ha1 => ?_⟩
    rw [List.append_nil]
    refine ⟨a, vs, rfl, hvl, upd_same, fun dx hn hne => ⟨rfl, dx, (flds.zip vs).reverse, upd_same, ?_, ?_, ?_⟩⟩
    · rw [upd_ne hne, upd_same]
    · rw [upd_ne hne] at hn
      exact hn
    · rw [upd_ne hne] at hn
      have eH : upd (del (upd (upd (upd H1 a (exo a (C.ca c) none)) dx (exd dx (flds.zip vs).reverse)) a (exo a (C.ca c) (some dx))) a) dx (.xd (flds.zip vs).reverse) = upd H1 dx (.xd (flds.zip vs).reverse) := by
        funext b
        by_cases hb : b = dx
        · rw [hb, upd_same, upd_same]
        · rw [upd_ne hb, upd_ne hb]
          by_cases hba : b = a
          · rw [hba, del_same, ha1]
          · rw [del_ne hba, upd_ne hba, upd_ne hb, upd_ne hba]
      rw [eH]
      have st := Step.put (o := .xd (flds.zip vs).reverse) r1 hn
      refine q1 _ _ σ (W1.put dx (.xd (flds.zip vs).reverse)) _ (s0.trans (s1.trans st).up) st.x (r1.put hn) ((rs.step s1).step st) ?_
      refine ⟨dx, vs.reverse, rfl, rfl, ?_, by rw [List.length_reverse, List.length_reverse, hvl], DenL.ext st.x _ _ (denL_reverse hv)⟩
      show upd W1.G dx _ dx = _
      rw [upd_same, zip_rev hvl.symm]
  · rw [if_neg hl] at q1
    exact q1.elim
end
end DL
end
-- DLTry
section
set_option maxHeartbeats 4000000
namespace DL
open PySem PySem.Spec L2
/-- an exception that is kept: what 'except c as n: y = n' asks of an exception of the body; slots i (n), j (y) -/
def wKeep (K : PySem.W.Frag) (c : Value) (i j : Nat) (Wo : WX) (E : Ends) : WX := fun cls d σ H =>
  ∃ b, PySem.W.exmOne K cls c = some b ∧ (b = true → ∀ a, H a = none → E.nx (((σ.set i (some (.ref a))).set j (some (.ref a))).set i none) (upd H a (ExV a cls d))) ∧ (b = false → Wo cls d σ H)
theorem exv_ok {P : Program} {w : World} {H : Hp} {h : Heap} {a : Addr} {cls : Value} {d : Option Addr} {o : Obj} {vs : Array Value} (e : h.get? a = some o) (z : Zc cls d o) (hd : o.data = .fields vs) : ObjOk P w H h a (ExV a cls d) :=
  ⟨⟨o, e, z, vs, hd⟩, ⟨_, e⟩, fun h1 h2 ⟨o', q, r⟩ k => ⟨o', k _ q, r⟩⟩
section
variable {X : Cx} {pins : List (Addr × Obj)} {σ : L2.St} {H : Hp} {s : Shared}
/-- an exception object that nobody tracked is tracked from now on -/
theorem Inv.noted (I : Inv X pins σ H s) {a : Addr} {o : Obj} {vs : Array Value} {cls : Value} {d : Option Addr} (e : s.heap.get? a = some o) (z : Zc cls d o) (hd : o.data = .fields vs) (na : H a = none) (n0 : X.s_0.heap.get? a = none) (nL : a ≠ X.env.locals)
    (nP : ∀ p ∈ X.pn ++ pins, p.1 ≠ a) : Inv X pins σ (upd H a (ExV a cls d)) s where
  ok := I.ok
  os := I.os
  bare := I.bare
  base := {
    keep := I.base.keep
    slot := I.base.slot
    free := fun b ob q n hx => by
      have hb : b ≠ a := fun y => by
        rw [y, n0] at q
        cases q
      rw [upd_ne hb]
      exact I.base.free b ob q n hx
    there := I.base.there
    tups := fun b xs q => by
      have y := I.base.tups b xs q
      rw [upd_ne (ne_of_none y na)]
      exact y
    frzs := fun b ob v q => by
      have y := I.base.frzs b ob v q
      rw [upd_ne (ne_of_none y na)]
      exact y
    tbls := fun b ps q => by
      obtain ⟨m, y⟩ := I.base.tbls b ps q
      exact ⟨m, by rw [upd_ne (ne_of_none y na)]; exact y⟩ }
  loc := I.loc
  cell := I.cell
  free := by
    rw [upd_ne (Ne.symm nL)]
    exact I.free
  freeC := fun y c q => by
    have hc : c ≠ a := fun w => by
      obtain ⟨v, ob, q1, q2⟩ := I.cell y c q
      rw [w, e] at q1
      cases q1
      rw [hd] at q2
      cases q2
    rw [upd_ne hc]
    exact I.freeC y c q
  pin := fun p hp => by
    obtain ⟨q1, q2, q3, q4, q5⟩ := I.pin p hp
    refine ⟨q1, ?_, q3, q4, q5⟩
    rw [upd_ne (nP p hp)]
    exact q2
  hok := fun b ob q => by
    by_cases hb : b = a
    · subst hb
      rw [upd_same] at q
      cases q
      exact exv_ok e z hd
    · rw [upd_ne hb] at q
      exact (I.hok b ob q).stay (fun _ _ _ y => y) (fun c y => by rw [upd_ne (ne_of_none y na)]; exact y) fun c xs y => by rw [upd_ne (ne_of_none y na)]; exact y
  len := I.len
end
section
variable {X : Cx} {x n y : Str} {c : Value} {i j : Nat} {body : List Stmt} {np q1 q2 q3 pos hp : Pos} {tb : WX → TS} {Wo : WX}
theorem ps_try_keep (stk : X.stack = X.env :: X.outer) (fr : X.env.frame = some X.env.locals) (exn : X.ex = []) (nd : X.N.Nodup) (ni : X.N[i]? = some n) (kn : X.env.kindOf n = some .local) (nj : X.N[j]? = some y) (ky : X.env.kindOf y = some .local) (hnn : (n == ("__debug__" : Str)) = false) (hnc : (n == ("__classdict__" : Str)) = false) (hc : Names X x c) (tk : Takes X Wo)
    (hb : ∀ (W : WX) (pn : List (Addr × Obj)) (xe : Value → Shared → Prop), Takes (X.tr pn xe) W → PassesOwn (model X.prog X.w) X.A X.env xe → PSs (X.tr pn xe) body (tb W)) :
    PS X (.Try body [.ExceptHandler (some (.Name x np)) (some n) [.Assign [.Name y q1] (.Name n q2) q3] hp] [] [] pos) (fun E σ H => tb (wKeep X.K c i j Wo E) E σ H) := by
  refine ⟨fun pins s σ H E I h => ?_⟩
  have okX := I.ok
  have frsX : X.A.frames = some (X.env :: X.outer) := okX.frames.trans (congrArg some stk)
  refine wpAny_Try_except (wpAny_mono ((hb (wKeep X.K c i j Wo E) (X.pn ++ pins) (fun ex t1 => wpAny (model X.prog X.w) X.A (noteFrame ex X.env) (fun _ t2 => wpAny (model X.prog X.w) X.A (setFlight ex none)
      (fun _ t3 => wpAny (model X.prog X.w) X.A (handleBy ex X.env [.ExceptHandler (some (.Name x np)) (some n) [.Assign [.Name y q1] (.Name n q2) q3] hp]) (SP X pins E) X.xe t3) X.xe t2) X.xe t1)
      (fun u t xx => ?_) PassesOwn.looking).run [] s σ H E (I.toTry _) h) (fun f t1 hsp => ?_) fun _ _ z => z)
  · obtain ⟨a, B, sI, pinsZ, τ, G, cls, d, eu, JZ, inB, upZ, sky, na, osZ, agZ, b, ehm, yes, no⟩ := xx
    subst eu
    have J : Inv X pins τ G sI := JZ.ofTry okX
    have skyX : Sky B (X.env :: X.outer) a (Zc cls d) X.env.locals t.heap := stk ▸ sky
    show wpAny (model X.prog X.w) X.A (noteFrame (.ref a) X.env) _ _ _
    refine Sky.land Zc.steady frsX fr skyX fun k3 fl3 up3 => ?_
    have J3 : Inv X pins τ G { t with heap := k3 } := J.landed inB fl3.1 (upZ.trans up3) osZ agZ
    obtain ⟨o3, v3, at3, z3, da3⟩ := fl3.there
    have offStack : a ∉ frs (X.env :: X.outer) := fun mem => by
      obtain ⟨_, o', at', nf⟩ := (fl3.2.2.1).mem mem
      rw [at3] at at'
      cases at'
      exact nf _ da3
    have nL : a ≠ X.env.locals := fun z => offStack (List.mem_filterMap.mpr ⟨X.env, List.mem_cons_self, z ▸ fr⟩)
    have nF : a ∉ X.fs := fun mem => by
      obtain ⟨en, m1, m2⟩ := List.mem_filterMap.mp mem
      exact offStack (List.mem_filterMap.mpr ⟨en, List.mem_cons_of_mem _ m1, m2⟩)
    have nI : sI.heap.get? a = none := by
      cases q : sI.heap.get? a with
      | none => rfl
      | some o =>
        have w := inB a o q (by rw [stk]; exact offStack)
        rw [fl3.2.1] at w
        cases w
    have n0 : X.s_0.heap.get? a = none := by
      cases q : X.s_0.heap.get? a with
      | none => rfl
      | some o =>
        obtain ⟨o', w⟩ := J.base.there a o q (by rw [exn]; simp)
        rw [nI] at w
        cases w
    have nP : ∀ p ∈ X.pn ++ pins, p.1 ≠ a := fun p m z => by
      have w := (J.pin p m).1
      rw [z, nI] at w
      cases w
    have S3 := J3.suite at3 da3 na nL nF
    refine wpAny_handleBy_cons (codeAny_handlers_test ?_) (fun q => nomatch q)
    have tyA : PySem.W.Looks (model X.prog X.w) k3 (typeOf (.ref a)) cls := fun A Q E' s' k q => wpAny_typeOf_ref (k _ _ at3) (by rw [z3.1]; exact q)
    have matchA := PySem.W.exm_one (M := model X.prog X.w) J3.kIn tyA ehm
    have named : ∀ {Q : Value → Shared → Prop} {E' : Value → Shared → Prop}, Q c { t with heap := k3 } → wpAny (model X.prog X.w) (X.A.mark (some (.ref a))) (eval (.Name x np) X.env) Q E' { t with heap := k3 } := fun {Q E'} q => by
      rcases hc with ⟨g1, g2, g3 | ⟨g3, g4, g5⟩⟩
      · exact ld_glob (X := X.suite a ((a, o3) :: (X.pn ++ pins))) S3 g1 g3 q g2
      · exact ld_blt (X := X.suite a ((a, o3) :: (X.pn ++ pins))) S3 g1 g3 g4 q g5 g2
    refine named (matchA.here ?_)
    cases b with
    | false =>
      show wpAny _ X.A (handleBy (.ref a) X.env []) _ _ _
      refine wpAny_handleBy_nil ?_
      obtain ⟨_, _, _, oe, ws, tb', ot, ts, ae, ze, de, e1, _⟩ := id fl3
      unfold PySem.passOn
      refine wpAny_bind (wpAny_field ae de e1 ?_)
      rw [if_neg (by simp : ¬ ((Value.ref tb' == Value.none) = true))]
      have up : wpAny (model X.prog X.w) X.A (setFlight (.ref a) X.env.frame) (fun _ t4 => wpAny (model X.prog X.w) X.A (throw (.ref a) : Sem Flow) (SP X pins E) X.xe t4) X.xe { t with heap := k3 } := by
        rw [fr]
        refine HandSPX.setFlight_upZ fl3 fun k4 hd4 up4 => wpAny_throw (tk _ _ ⟨a, B, sI, pins, τ, G, cls, d, rfl, J, inB, (upZ.trans up3).trans up4, .inr (.inr ?_), na, osZ, agZ, no rfl⟩)
        rw [stk]
        exact hd4
      first
        | exact wpAny_bind (wpAny_pure (wpAny_bind up))
        | exact wpAny_bind up
    | true =>
      refine codeAny_handlers_suite_as (HandSPX.lands_againZ fl3 fun k4 fl4 up4 => ?_)
      have J4 : Inv X pins τ G { t with heap := k4 } := J.landed inB fl4.1 ((upZ.trans up3).trans up4) osZ agZ
      obtain ⟨o4, v4, at4, z4, da4⟩ := fl4.there
      have S4 := J4.suite at4 da4 na nL nF
      refine store_ok (X := X.suite a ((a, o4) :: (X.pn ++ pins))) (v := .ref a) S4 nd ni (.inl kn) rfl (fun t5 S5 => ?_) (.inr kn)
      have asg : PS (X.suite a ((a, o4) :: (X.pn ++ pins))) (.Assign [.Name y q1] (.Name n q2) q3) (tAsg (tVar i) (gName j)) := ps_asg (pe_var ni (.inl kn) hnn hnc) (pg_name nd nj (.inl ky) (.inr ky))
      have iτ : i < τ.length := by
        rw [J.len]
        exact (List.getElem?_eq_some_iff.mp ni).1
      refine wpAny_mono ((pss_one asg).run [] t5 _ G { nx := fun σ' H' => σ' = (τ.set i (some (.ref a))).set j (some (.ref a)) ∧ H' = G, rt := fun _ _ => False } S5 ⟨.ref a, by rw [List.getElem?_set_self iτ], rfl, rfl⟩) (fun f t6 hsp => ?_) fun _ _ z => z.elim
      cases f with
      | ret u =>
        obtain ⟨_, _, _, _, _, z⟩ := hsp
        exact z.elim
      | brk =>
        obtain ⟨_, _, _, z⟩ := hsp
        exact z.elim
      | cont =>
        obtain ⟨_, _, _, z⟩ := hsp
        exact z.elim
      | next =>
        obtain ⟨σ6, G6, S6, e6, eG⟩ := hsp
        subst e6
        subst eG
        have J6 : Inv X pins _ G6 t6 := S6.unsuite okX
        have pinA := S6.pin (a, o4) (List.mem_append_left _ (List.mem_cons_self ..))
        have K6 : Inv X ((a, o4) :: pins) _ G6 t6 := ⟨okX, J6.os, J6.bare, J6.base, J6.loc, J6.cell, J6.free, J6.freeC, fun p m => by
          rcases List.mem_append.mp m with m | m
          · exact J6.pin p (List.mem_append_left _ m)
          · rcases List.mem_cons.mp m with m | m
            · rw [m]
              exact pinA
            · exact J6.pin p (List.mem_append_right _ m), J6.hok, J6.len⟩
        refine gone_ok K6 nd ni kn fun t7 K7 => ?_
        have pin7 := K7.pin (a, o4) (List.mem_append_right _ (List.mem_cons_self ..))
        have J7 : Inv X pins _ G6 t7 := ⟨okX, K7.os, K7.bare, K7.base, K7.loc, K7.cell, K7.free, K7.freeC, fun p m => K7.pin p (by
          rcases List.mem_append.mp m with m | m
          · exact List.mem_append_left _ m
          · exact List.mem_append_right _ (List.mem_cons_of_mem _ m)), K7.hok, K7.len⟩
        exact ⟨_, _, Inv.noted J7 pin7.1 z4 da4 pin7.2.1 n0 nL nP, yes rfl a na⟩
  · cases f with
    | next =>
      obtain ⟨τ, G, J, q⟩ := hsp
      exact wpAny_execs_nil ⟨τ, G, J.ofTry okX, q⟩
    | ret u =>
      obtain ⟨v, τ, G, J, r, q⟩ := hsp
      exact ⟨v, τ, G, J.ofTry okX, r, q⟩
    | brk =>
      obtain ⟨τ, G, J, q⟩ := hsp
      exact ⟨τ, G, J.ofTry okX, q⟩
    | cont =>
      obtain ⟨τ, G, J, q⟩ := hsp
      exact ⟨τ, G, J.ofTry okX, q⟩
end
section
variable {C : Ct} {Z : WX} {W0 : Wd} {H0 : Hp} {U : List Addr} {X : Cx} {x n y : Str} {P : Pg} {c i j : Nat} {body : List Stmt} {np q1 q2 q3 pos hp : Pos} {m : Ro → Store → OutS}
theorem ss_try (stk : X.stack = X.env :: X.outer) (fr : X.env.frame = some X.env.locals) (exn : X.ex = []) (nd : X.N.Nodup) (ni : X.N[i]? = some n) (kn : X.env.kindOf n = some .local) (nj : X.N[j]? = some y) (ky : X.env.kindOf y = some .local) (hnn : (n == ("__debug__" : Str)) = false) (hnc : (n == ("__classdict__" : Str)) = false) (hc : Names X x (.ref (C.ca c))) (tk : Takes X Z)
    (hX : ∀ k cl, P.cls[k]? = some cl → cl.kind.pl = false → PySem.W.exmOne X.K (.ref (C.ca k)) (.ref (C.ca c)) = some (cl.anc.contains c))
    (hb : ∀ (W : WX) (pn : List (Addr × Obj)) (xe : Value → Shared → Prop), Takes (X.tr pn xe) W → PassesOwn (model X.prog X.w) X.A X.env xe → PSs (X.tr pn xe) body (tS C W W0 H0 U m)) :
    PS X (.Try body [.ExceptHandler (some (.Name x np)) (some n) [.Assign [.Name y q1] (.Name n q2) q3] hp] [] [] pos) (tS C Z W0 H0 U fun ρ S => kTry P c i j (m ρ S)) := by
  refine PS.imp (ps_try_keep (q1 := q1) (q2 := q2) (q3 := q3) (np := np) (hp := hp) (pos := pos) stk fr exn nd ni kn nj ky hnn hnc hc tk hb) fun E σ H h => ?_
  obtain ⟨W, ρ, S, s0, rh, rs, q⟩ := h
  refine ⟨W, ρ, S, s0, rh, rs, ?_⟩
  dsimp only at q
  generalize m ρ S = o at q ⊢
  cases o with
  | nx ρ1 S1 => exact q
  | rt d S1 => exact q
  | bk ρ1 S1 => exact q
  | ct ρ1 S1 => exact q
  | stk => exact q
  | er e ρ1 S1 =>
    cases e with
    | exc k ns ds =>
      unfold kTry at q
      dsimp only at q
      cases hk : P.cls[k]? with
      | none =>
        rw [hk] at q
        exact q.elim
      | some cl =>
        rw [hk] at q
        dsimp only at q
        cases hp : cl.kind.pl with
        | true =>
          rw [hp] at q
          exact q.elim
        | false =>
          rw [hp] at q
          intro cls dd τ W1 H1 s1 x1 r1 rs1 dx
          obtain ⟨da, vs, e1, e2, e3, e4, e5⟩ := dx
          subst e1
          subst e2
          refine ⟨cl.anc.contains c, hX k cl hk hp, fun hb a na => ?_, fun hb => ?_⟩
          · rw [hb] at q
            have st := Step.put (o := ExV a (.ref (C.ca k)) (some da)) r1 na
            have den : Den C (W1.put a (ExV a (.ref (C.ca k)) (some da))) (.exc k ns ds) (.ref a) := by
              unfold Den
              exact ⟨a, da, vs, rfl, upd_same, st.x.g _ _ e3, e4, DenL.ext st.x _ _ e5⟩
            have rs2 := (rs1.step st).sh (i := j) den
            refine q _ _ _ (s1.trans st.up) (x1.trans st.x) (r1.put na) (rs2.off _ (by simp) fun l hl => ?_)
            rw [List.getElem?_set_ne (Ne.symm hl), List.getElem?_set, List.getElem?_set, List.length_set, List.getElem?_set, if_neg (Ne.symm hl)]
          · rw [hb] at q
            exact q _ _ τ W1 H1 s1 x1 r1 rs1 ⟨da, vs, rfl, rfl, e3, e4, e5⟩
    | _ => exact q.elim
end
end DL
end
-- DLLam
section
set_option maxHeartbeats 4000000
namespace DL
open PySem PySem.Spec L2
open LamX PyProof.Rows
/-- what a def got may be called: at a state (W, H) that came from its entry (W0, H0) -/
def ActOk (X : Cx) (C : Ct) (a : Str) (W0 : Wd) (H0 : Hp) (U : List Addr) (act : Store → Out D) : Prop :=
  ∀ (Z : WX) (pn : List (Addr × Obj)) (xe : Value → Shared → Prop) (p1 p2 : Pos), Takes (X.tr pn xe) Z → PE (X.tr pn xe) (.Call (.Name a p1) [] [] p2) (fun σ H Q => ∃ f, U = [f] ∧ σ[0]? = some (some (.ref f)) ∧ ∃ W S, Step U W0 H0 W H ∧ RelH C W H S ∧ PQ C Z σ Q W H (act S))
theorem post_z {α : Type} {C : Ct} {Z : WX} {R : Wd → Hp → α → Prop} {W : Wd} {σ τ : L2.St} {H : Hp} {o : Out α} (p : Post C Z R W σ H o) : Post C (fun cls d _ H => Z cls d σ H) R W τ H o := by
  cases o with
  | ok d S => exact p
  | er e S => exact p
  | stk => exact p
/-- the new code object, the tables: nothing that the ground or the boxes hold -/
theorem RelH.lam {C : Ct} {W : Wd} {H H1 : Hp} {S : Store} (r : RelH C W H S) (x : ExtN H H1) (t : Tabs C.T H1) (ta : ∀ a ps, H1 a = some (.tbl ps) → ∃ q, (a, q) ∈ C.T) : RelH C W H1 S where
  g := fun a o e => x a o (r.g a o e) fun ps z => r.nt a ps (z ▸ e)
  len := r.len
  nd := r.nd
  bx := fun i a b e1 e2 => by
    obtain ⟨f1, f2⟩ := r.bx i a b e1 e2
    obtain ⟨o, ho, nt⟩ := f2.there
    exact ⟨f1, f2.move (Ext.refl W) (by rw [x a o ho nt, ho])⟩
  tab := t
  nt := r.nt
  ta := ta
theorem Step.lam {C : Ct} {W : Wd} {H H1 : Hp} {S : Store} (r : RelH C W H S) (x : ExtN H H1) (t : Tabs C.T H1) : Step [] W H W H1 where
  x := Ext.refl W
  dom := fun a n => by
    cases q : H a with
    | none => rfl
    | some o =>
      by_cases nt : ∀ ps, o ≠ .tbl ps
      · rw [x a o q nt] at n
        cases n
      · have : ∃ ps, o = .tbl ps := Classical.byContradiction fun z => nt fun ps e => z ⟨ps, e⟩
        obtain ⟨ps, e⟩ := this
        subst e
        obtain ⟨s, hs⟩ := r.ta a ps q
        obtain ⟨ps', h1, _⟩ := t _ hs
        rw [n] at h1
        cases h1
  fr := fun a o e _ _ nt => x a o e nt
  gn := fun a h => .inl (.inl h)
  bn := fun a h => .inl h
section
variable {X : Cx} {C : Ct} {pins : List (Addr × Obj)} {σ : L2.St} {H : Hp} {s : Shared}
/-- what is called is a lambda whose def's context is X, at the state of the def that got it -/
theorem act_ok {Eg : XK} {Ng : List Str} {qg a : Str} {sg : Scope} {g f c' : Addr} {cdg pm ctv : Value} {params : Arguments} {body : Expr} {scope : Scope} {k : Nat} {W : Wd} {H0 : Hp} {U : List Addr} {ρ : Ro} {m : Ro → Store → Out D}
    (I : Inv X pins σ H s) (rs : RelS C W H0 U σ H ρ) (nc : c' ∉ W.B) (L : LamS X.env.scope scope) (hf : s.heap.get? f = some (PySem.W.kla_obj "<lambda>" (X.env.qual ++ "<lambda>") params body scope (cloFrom X.env.cells scope.names []) pm c' ctv)) (hfn : H f = none) (hfr : f ∉ frs X.stack) (hco : H c' = some (CodeO c' (X.env.qual ++ "<lambda>")))
    (hbind : bindArgs (PySem.W.kla_fn "<lambda>" (X.env.qual ++ "<lambda>") params body scope (cloFrom X.env.cells scope.names []) pm (.ref c') ctv) ⟨[], []⟩ = pure [])
    (hr : Room (k + 1) (X.A.deeper (envOfC qg sg s.heap.objs.size g cdg))) (hg : X.A.guards = some [])
    (hbody : ∀ (A : Around) (outer : List Env) (s : Shared) (H : Hp) (E : XK), Room k (A.deeper (lamEnv X scope s.heap.objs.size f c')) → A.guards = some [] → PE (lamCx X A outer s H E scope f c') body (tE C (fun cls d _ H => E cls d H) m))
    (hN : Ng[0]? = some a) (hv : Vis sg a) (hd : (a == ("__debug__" : Str)) = false) (hcd : (a == ("__classdict__" : Str)) = false) :
    ActOk (cxOf (L2.CX X.prog X.w) X.prog X.w X.K X.mg X.base Ng qg sg g cdg X.A X.stack s H Eg) C a W H [f] (fun S => m ρ S) := by
  intro Z pn xe p1 p2 tk
  refine ⟨fun pz sz τ Hz Q Iz h => ?_⟩
  obtain ⟨f', ef, e0, W1, S1, st, rh, post⟩ := h
  obtain rfl : f' = f := by
    have := List.cons.inj ef
    exact this.1.symm
  have st0 : Step [] W H W1 Hz := ⟨st.x, st.dom, fun b o e n u t => st.fr b o e n (fun z => by
    rw [List.mem_singleton] at z
    rw [z, hfn] at e
    cases e) t, st.gn, st.bn⟩
  refine wpAny_Call_Name_kw (thn ((pe_var (pos := p1) (i := 0) hN hv hd hcd).run pz sz τ Hz (fun v H1 => v = .ref f' ∧ H1 = Hz) Iz ⟨_, e0, rfl, rfl⟩) fun u s1 hu => ?_)
  obtain ⟨v, H1, I1, r1, ev, eH⟩ := hu
  subst ev
  subst eH
  obtain rfl : u = Value.ref f' := r1
  have of1 := I1.base.keep f' _ hf hfn hfr (fun z => nomatch (show f' ∈ ([] : List Addr) from z))
  refine PySem.W.callWith_F0 ⟨_, _, _, _, of1⟩ ?_
  have hcz : H1 c' = some (CodeO c' (X.env.qual ++ "<lambda>")) := st0.fr c' _ hco nc (by simp) codeO_ne
  obtain ⟨⟨oc, vs, t, at1, at2, at3⟩, _, _⟩ := I1.hok c' _ hcz
  have rt : RelS C W1 H0 U σ H1 ρ := rs.step st0
  have run : codeAny (model X.prog X.w) (X.A.deeper (envOfC qg sg s.heap.objs.size g cdg)) (.call (.ref f') ⟨[], []⟩) (CR (L2.CX X.prog X.w) (envOfC qg sg s.heap.objs.size g cdg :: X.stack) X.prog X.w H1 s1 Q (WE Z τ)) s1 := by
    refine PySem.W.kla_callFunE hr.depth of1 rfl L.co L.gen rfl ⟨c', oc, vs, t, rfl, at1, at2, at3⟩ ?_
    rw [hbind]
    refine wpAny_pure (wpAny_newFunctionEnv (fun y hy => (L.own y hy).2) (fun y hy => absurd hy (by simp)) (fun h₁ hns hsb => ⟨I1.nolimit.fresh _ hsb, ?_⟩) L.kind)
    show codeAny _ _ (.expr body (lamEnv X scope s1.heap.objs.size f' c')) _ _
    have J := lam_start2 (E := WE Z τ) (f := f') (c' := c') (tk := s1.toks + ([] : List (Str × Value)).length) I L I1.env0 hr.hd I1.base hns (fun b o e => hsb.extBut b o (Nat.ne_of_lt (Heap.lt_size e)) (Heap.get?_push_of_some _ e))
    refine PySem.W.kla_codeExpr (wpAny_mono ((hbody _ _ s1 H1 (WE Z τ) (hr.deeper _) hg).run [] _ _ H1 Q J ⟨W1, H0, U, ρ, S1, rh, rt, post_z post⟩) (fun v s' hq => ?_) fun e s' hq => hq)
    obtain ⟨w', H', J', rv, q⟩ := hq
    exact ⟨w', H', J'.os, J'.bare, J'.base, J'.hok, rv, q⟩
  refine wpAny_call (codeAny_mono run fun r s' hq => ?_)
  cases r with
  | error e => exact passAt tk τ pz H1 s1 e s' I1 hq
  | ok fl =>
    cases fl with
    | ret u => exact I1.after hq
    | next => exact False.elim hq
    | brk => exact False.elim hq
    | cont => exact False.elim hq
/-- a lambda is made; no new table comes -/
theorem lam_made {T : List (Addr × Str)} {c tb : Addr} {ar : Arguments} {lb : Expr} {ls : Scope} {lp : Pos} {E : Value → Shared → Prop} {Q : Value → Shared → Prop} (I : Inv X pins σ H s) (B : TabB X.base X.mg c tb) (ec : X.env.code = .ref c)
    (mT : (tb, X.env.qual ++ "<lambda>") ∈ T) (uT : ∀ p ∈ T, p.1 = tb → p.2 = X.env.qual ++ "<lambda>") (tT : Tabs T H) (ed : defaultsOf ar X.env = ([], [])) (fr : ∀ y ∈ ls.names, y.2 = .free → ∃ c, X.env.cells.lookup y.1 = some c)
    (go : ∀ (f d : Addr) (pm cv : Value) (G : Hp) (r : Shared), Inv X pins σ G r → ExtN H G → Tabs T G → (∀ a qs, G a = some (.tbl qs) → ∃ qs', H a = some (.tbl qs')) →
      r.heap.get? f = some (PySem.W.kla_obj "<lambda>" (X.env.qual ++ "<lambda>") ar lb ls (cloFrom X.env.cells ls.names []) pm d cv) → G f = none → f ∉ frs X.stack → G d = some (CodeO d (X.env.qual ++ "<lambda>")) → Q (.ref f) r) :
    wpAny (model X.prog X.w) X.A (eval (.Lambda ar lb ls lp) X.env) Q E s := by
  obtain ⟨qs, eT, okT, allT⟩ := tT _ mT
  have atT : s.heap.get? tb = some { cls := .none, data := .fields qs } := I.hok tb _ eT
  have offSt : ∀ f, s.heap.objs.size ≤ f → f ∉ frs X.stack := fun f hf z => by
    rcases List.mem_cons.mp (I.stkSub _ z) with y | y
    · exact absurd (y ▸ I.lt) (Nat.not_lt_of_le hf)
    · exact I.nofs hf y
  refine PySem.W.kla_eval ed ?_
  cases am : codeAmong lp qs.toList with
  | some cv =>
    obtain ⟨d, rfl, hd⟩ := allT lp cv am
    refine PySem.W.kla_makeFunctionHit (mg := X.mg) (c := c) (P := tb) (ps := qs) (closure_ok fr) I.ok.glob (I.mod.glob.keeps I.bk) ec (B.code.keeps I.bk) atT okT am (B.bm.keeps I.bk) fun ct g tk kp sz => ?_
    refine go g.objs.size d ((X.mg "__name__").getD .none) ct H _ (I.kept (t' := tk) fun b o e => Heap.get?_push_of_some _ (kp b o e)) (ExtN.refl H) tT (fun a qs z => ⟨qs, z⟩) (Heap.get?_push_size _ rfl) (I.hok.fresh sz) (offSt _ sz) hd
  | none =>
    refine PySem.W.kla_makeFunction (mg := X.mg) (c := c) (P := tb) (ps := qs) (closure_ok fr) I.ok.glob (I.mod.glob.keeps I.bk) ec (B.code.keeps I.bk) atT okT am B.gP (B.bm.keeps I.bk) fun d ct g tk kp ge lt rec wr => ?_
    obtain ⟨d', od, us, ut, ed', at1, at2, at3⟩ := rec
    cases ed'
    have nd : H d = none := I.hok.fresh ge
    have sz : s.heap.objs.size ≤ g.objs.size := Nat.le_trans ge (Nat.le_of_lt lt)
    have J := inv_table (t' := tk) (more := #[rawInt lp.line, rawInt lp.col, .ref d]) (h' := g.push (PySem.W.kla_obj "<lambda>" (X.env.qual ++ "<lambda>") ar lb ls (cloFrom X.env.cells ls.names []) ((X.mg "__name__").getD .none) d ct)) I eT (fun b o nb e => Heap.get?_push_of_some _ (kp b o nb e)) (Heap.get?_push_of_some _ wr) ge
      ⟨od, us, ut, Heap.get?_push_of_some _ at1, at2, at3⟩
    have ex : ExtN H (upd (upd H tb (.tbl (qs ++ #[rawInt lp.line, rawInt lp.col, .ref d]))) d (CodeO d (X.env.qual ++ "<lambda>"))) := fun b o e n => by
      have nb : b ≠ tb := fun z => by
        rw [z, eT] at e
        exact n qs (Option.some.inj e).symm
      rw [upd_ne (ne_of_none e nd), upd_ne nb]
      exact e
    have lst : (qs ++ #[rawInt lp.line, rawInt lp.col, .ref d]).toList = qs.toList ++ [rawInt lp.line, rawInt lp.col, .ref d] := by simp
    refine go g.objs.size d ((X.mg "__name__").getD .none) ct _ _ J ex (fun p mp => ?_) (fun a ws z => ?_) (Heap.get?_push_size _ rfl) ?_ (offSt _ sz) upd_same
    · by_cases hb : p.1 = tb
      · rw [uT p mp hb, hb]
        refine ⟨_, by rw [upd_ne (ne_of_none eT nd), upd_same], ?_, fun p2 cv hcv => ?_⟩
        · rw [lst]
          exact PySem.TriplesOk_snoc _ _ _ _ okT
        · rw [lst] at hcv
          rcases among_app _ okT hcv with z | z
          · obtain ⟨d0, y1, y2⟩ := allT p2 cv z
            exact ⟨d0, y1, ex _ _ y2 codeO_ne⟩
          · exact ⟨d, z, upd_same⟩
      · obtain ⟨ws, y1, y2, y3⟩ := tT p mp
        refine ⟨ws, by rw [upd_ne (ne_of_none y1 nd), upd_ne hb]; exact y1, y2, fun p2 cv hcv => ?_⟩
        obtain ⟨d0, z1, z2⟩ := y3 p2 cv hcv
        exact ⟨d0, z1, ex _ _ z2 codeO_ne⟩
    · by_cases ha : a = d
      · rw [ha, upd_same] at z
        exact absurd (Option.some.inj z) (codeO_ne ws)
      · rw [upd_ne ha] at z
        by_cases hb : a = tb
        · exact ⟨qs, by rw [hb]; exact eT⟩
        · rw [upd_ne hb] at z
          exact ⟨ws, z⟩
    · rw [upd_ne (Nat.ne_of_gt lt), upd_ne (Nat.ne_of_gt (Nat.lt_of_lt_of_le (Heap.lt_size atT) sz))]
      exact I.hok.fresh sz
end
section
variable {X : Cx} {C : Ct} {Z : WX}
theorem start_thk {W : Wd} {H : Hp} {f : Addr} (n : Nat) (hn : 0 < n) : RelS C W H [f] (some (.ref f) :: List.replicate (n - 1) none) H (some .thk :: List.replicate (n - 1) none) := by
  refine ⟨by simp, fun i s e => ?_, fun i j s t v e1 e2 o1 o2 _ _ => ?_⟩
  · cases i with
    | zero =>
      cases e
      exact ⟨_, rfl, f, rfl, rfl⟩
    | succ i =>
      rw [List.getElem?_cons_succ, List.getElem?_replicate] at e
      split at e <;> cases e
  · cases i with
    | zero =>
      cases e1
      cases o1
    | succ i =>
      rw [List.getElem?_cons_succ, List.getElem?_replicate] at e1
      split at e1 <;> cases e1
/-- x(lambda: ..) -/
theorem de_heard {x a : Str} {g c tb : Addr} {k : Nat} {pg : Arguments} {bg : List Stmt} {sg : Scope} {dV kV doc pm cdv ct oc : Value} {an od : Option Addr} {osl : Array (Option Value)} {Ng : List Str}
    {ar : Arguments} {lb : Expr} {ls : Scope} {p lp pos : Pos} {m : Ro → Store → Out D} {mh : (Store → Out D) → Ro → Store → OutS} (hgl : Gl X x) (hm : X.mg x = some (.ref g)) (hk : PySem.W.keepIn X.K (.ref g) = true)
    (lk : X.K.lookup g = some ⟨oc, od, .func (PySem.W.fnOf x x pg bg sg dV kV doc pm an cdv ct), osl⟩) (hcg : PySem.W.codeIn X.K cdv x = true) (hb : L2.Binds X.K (PySem.W.fnOf x x pg bg sg dV kV doc pm an cdv ct) [a] []) (Sg : FnScope Ng [a] sg) (hNg : Ng[0]? = some a) (hva : Vis sg a)
    (B : TabB X.base X.mg c tb) (hcode : X.env.code = .ref c) (mT : (tb, X.env.qual ++ "<lambda>") ∈ C.T) (uT : ∀ p ∈ C.T, p.1 = tb → p.2 = X.env.qual ++ "<lambda>") (hr : Room (k + 2) X.A) (hg : X.A.guards = some []) (L : LamS X.env.scope ls) (hdef : defaultsOf ar X.env = ([], []))
    (hbind : ∀ (q : Str) (cl : List (Str × Addr)) (pm cv ctv : Value), bindArgs (PySem.W.kla_fn "<lambda>" q ar lb ls cl pm cv ctv) ⟨[], []⟩ = pure [])
    (hbody : ∀ (f d : Addr) (A : Around) (outer : List Env) (s : Shared) (H : Hp) (E : XK), Room k (A.deeper (lamEnv X ls s.heap.objs.size f d)) → A.guards = some [] → PE (lamCx X A outer s H E ls f d) lb (tE C (fun cls d _ H => E cls d H) m))
    (hG : ∀ (s : Shared) (H1 : Hp) (W1 : Wd) (f : Addr) (act : Store → Out D), ActOk (cxOf (L2.CX X.prog X.w) X.prog X.w X.K X.mg X.base Ng x sg g cdv X.A X.stack s H1 (fun _ _ _ => False)) C a W1 H1 [f] act → Room (k + 1) (X.A.deeper (envOfC x sg s.heap.objs.size g cdv)) →
      PSs (cxOf (L2.CX X.prog X.w) X.prog X.w X.K X.mg X.base Ng x sg g cdv X.A X.stack s H1 (fun _ _ _ => False)) bg (tS C (fun _ _ _ _ => False) W1 H1 [f] (mh act)))
    (hdb : (x == ("__debug__" : Str)) = false) (hd : (a == ("__debug__" : Str)) = false) (hcd : (a == ("__classdict__" : Str)) = false) :
    PE X (.Call (.Name x p) [.Lambda ar lb ls lp] [] pos) (tE C Z fun ρ S => noEr (runB (mh (fun S1 => m ρ S1) (some .thk :: List.replicate (Ng.length - 1) none) S))) := by
  refine ⟨fun pins s σ H Q I h => ?_⟩
  obtain ⟨W, H0, U, ρ, S, rh, rs, post⟩ := h
  refine wpAny_Call_Name_kw (ld_glob I hgl hm ?_ hdb)
  refine PySem.W.callWith_K (h₀ := X.base) I.ok.mod.kin hk ?_ rfl rfl
  show wpAny _ _ (spliced ((false, eval (.Lambda ar lb ls lp) X.env) :: backTo pos (starEach [] X.env))) _ _ s
  refine Calls.spliced_cons (lam_made I B hcode mT uT rh.tab hdef (L.has I.ok) fun f d pm' cv G r J ex tG nG atf nf off atd => Calls.spliced_nil ⟨J.kIn, ?_⟩)
  have ta : ∀ b ps, G b = some (.tbl ps) → ∃ q, (b, q) ∈ C.T := fun b ps z => by
    obtain ⟨ps', y⟩ := nG b ps z
    exact rh.ta b ps' y
  have rh1 : RelH C W G S := rh.lam ex tG ta
  have st : Step [] W H W G := Step.lam rh ex tG
  have rs1 := rs.step st
  have nB : d ∉ W.B := fun z => by
    obtain ⟨i, hi⟩ := List.getElem?_of_mem z
    have hl : i < S.length := by
      rw [← rh1.len]
      exact (List.getElem?_eq_some_iff.mp hi).1
    obtain ⟨_, b⟩ := rh1.bx i d S[i] hi (List.getElem?_eq_getElem hl)
    cases hb : S[i] with
    | fro xs =>
      rw [hb] at b
      obtain ⟨ys, y, _⟩ := b
      rw [atd] at y
      cases y
    | lst xs =>
      rw [hb] at b
      obtain ⟨ys, y, _⟩ := b
      rw [atd] at y
      cases y
    | ins c ns ds =>
      rw [hb] at b
      obtain ⟨dx, vs, y, _⟩ := b
      rw [atd] at y
      cases y
  have run : codeAny (model X.prog X.w) X.A (.call (.ref g) ⟨[.ref f], []⟩) (CR (L2.CX X.prog X.w) X.stack X.prog X.w G r Q (fun _ _ _ => False)) r := by
    refine run_ofS (N := Ng) (ps := [a]) (us := [.ref f]) (vs := [.ref f]) lk hcg Sg hr J.env0 (hb r [.ref f] J.kIn rfl) (.cons rfl .nil) rfl fun hr' => ?_
    have act := act_ok (Eg := fun _ _ _ => False) J rs1 nB L atf nf off atd (hbind _ _ _ _ _) hr' hg (fun A outer s H E => hbody f d A outer s H E) hNg hva hd hcd
    refine ⟨_, hG r G W f _ act hr', W, (some .thk :: List.replicate (Ng.length - 1) none), S, Step.refl _ _ _, rh1, ?_, ?_⟩
    · show RelS C W G [f] (L2.start Ng [.ref f]) G _
      have hn : 0 < Ng.length := (List.getElem?_eq_some_iff.mp hNg).1
      exact start_thk Ng.length hn
    · have p1 : PQ C Z σ Q W G (noEr (runB (mh (fun S1 => m ρ S1) (some .thk :: List.replicate (Ng.length - 1) none) S))) := post.step st
      generalize mh (fun S1 => m ρ S1) (some .thk :: List.replicate (Ng.length - 1) none) S = o at p1 ⊢
      have up : ∀ {W' : Wd} {H' : Hp}, Step [f] W G W' H' → Step [] W G W' H' := fun {W' H'} z => ⟨z.x, z.dom, fun b o e n u t => z.fr b o e n (fun y => by
        rw [List.mem_singleton] at y
        rw [y, nf] at e
        cases e) t, z.gn, z.bn⟩
      cases o with
      | nx ρ' S' => exact fun σ' W' H' z _ r' _ => p1 W' H' (up z) r' _ (by unfold Den; rfl)
      | rt d S' => exact fun v W' H' z _ r' dn => p1 W' H' (up z) r' v dn
      | bk ρ' S' => exact False.elim p1
      | ct ρ' S' => exact False.elim p1
      | er e ρ' S' => exact False.elim p1
      | stk => exact False.elim p1
  refine wpAny_call (codeAny_mono run fun q s2 hq => ?_)
  cases q with
  | error e =>
    obtain ⟨_, _, _, _, _, _, _, _, _, _, _, _, z⟩ := hq
    exact z.elim
  | ok fl =>
    cases fl with
    | ret u => exact J.after hq
    | next => exact False.elim hq
    | brk => exact False.elim hq
    | cont => exact False.elim hq
end
section
variable {C : Ct} {Z : WX} {W0 : Wd} {H0 : Hp} {U : List Addr} {X : Cx} {act : Store → Out D} {a : Str} {pos p p' p1 p2 : Pos}
theorem act_rd {ρ : Ro} {S : Store} {k : D → Store → OutS} {E : Ends} {σ : L2.St} {H : Hp} {W : Wd} {Q : VK} (st : Step U W0 H0 W H) (rh : RelH C W H S) (rs : RelS C W H0 U σ H ρ) (q : PostS C Z W0 H0 U E W (match (ρ[0]? : Option (Option Sl)) with
      | some (some .thk) => (act S).then ρ k
      | _ => .stk)) (h : ∀ x S1 W1 H1, Step [] W H W1 H1 → RelH C W1 H1 S1 → PostS C Z W0 H0 U E W1 (k x S1) → ∀ v, Den C W1 x v → Q v H1) :
    ∃ f, U = [f] ∧ σ[0]? = some (some (.ref f)) ∧ ∃ W S, Step U W0 H0 W H ∧ RelH C W H S ∧ PQ C Z σ Q W H (act S) := by
  split at q
  · rename_i o
    obtain ⟨v, ev, f, e1, e2⟩ := rs.sl 0 _ o
    subst e1
    exact ⟨f, e2, ev, W, S, st, rh, st_exp st rs q fun x S1 W1 H1 _ s1 r1 q1 => h x S1 W1 H1 s1 r1 q1⟩
  · exact q.elim
theorem ss_actA {i : Nat} {x : Str} (hA : ActOk X C a W0 H0 U act) (tk : Takes X Z) (hN : X.N.Nodup) (hi : X.N[i]? = some x) (hx : Loc X.env.scope x) (hf : X.fn x = true) :
    PS X (.Assign [.Name x p'] (.Call (.Name a p1) [] [] p2) pos) (tS C Z W0 H0 U fun ρ S => match (ρ[0]? : Option (Option Sl)) with
      | some (some .thk) => (act S).then ρ fun d S1 => .nx (ρ.set i (some (.sh d))) S1
      | _ => .stk) :=
  PS.imp (ps_asg (X := X) (hA Z X.pn X.xe p1 p2 tk) (pg_name hN hi hx (.inl hf))) fun E σ H h => by
    obtain ⟨W, ρ, S, st, rh, rs, q⟩ := h
    exact act_rd st rh rs q fun d S1 W1 H1 s1 r1 q1 v hv => q1 _ W1 H1 (st.trans s1.up) (Ext.refl _) r1 ((rs.step s1).sh hv)
theorem ss_actE (hA : ActOk X C a W0 H0 U act) (tk : Takes X Z) (hi : interactive X.env = false) :
    PS X (.Expr (.Call (.Name a p1) [] [] p2) pos) (tS C Z W0 H0 U fun ρ S => match (ρ[0]? : Option (Option Sl)) with
      | some (some .thk) => (act S).then ρ fun _ S1 => .nx ρ S1
      | _ => .stk) :=
  PS.imp (ps_expr (X := X) (hA Z X.pn X.xe p1 p2 tk)) fun E σ H h => by
    obtain ⟨W, ρ, S, st, rh, rs, q⟩ := h
    exact act_rd st rh rs q fun d S1 W1 H1 s1 r1 q1 v hv => q1 _ W1 H1 (st.trans s1.up) (Ext.refl _) r1 (rs.step s1)
theorem ss_actR (hA : ActOk X C a W0 H0 U act) (tk : Takes X Z) :
    PS X (.Return (some (.Call (.Name a p1) [] [] p2)) pos) (tS C Z W0 H0 U fun ρ S => match (ρ[0]? : Option (Option Sl)) with
      | some (some .thk) => (act S).then ρ fun d S1 => .rt d S1
      | _ => .stk) :=
  PS.imp (ps_ret (X := X) (hA Z X.pn X.xe p1 p2 tk)) fun E σ H h => by
    obtain ⟨W, ρ, S, st, rh, rs, q⟩ := h
    exact act_rd st rh rs q fun d S1 W1 H1 s1 r1 q1 v hv => q1 v W1 H1 (st.trans s1.up) (Ext.refl _) r1 hv
end
end DL
end
-- DLPar
section
set_option maxHeartbeats 4000000
namespace DL
open PySem PySem.Spec L2
/-- the targets are names of these slots -/
inductive Tgs (X : Cx) : List Expr → List Nat → Prop
  | nil : Tgs X [] []
  | cons {x : Str} {i : Nat} {p : Pos} {es : List Expr} {is : List Nat} (hi : X.N[i]? = some x) (hx : Loc X.env.scope x) (hf : X.fn x = true) (t : Tgs X es is) : Tgs X (.Name x p :: es) (i :: is)
def setV : L2.St → List Nat → List V → L2.St
  | σ, i :: is, v :: vs => setV (σ.set i (some v)) is vs
  | σ, _, _ => σ
section
variable {C : Ct} {Z : WX} {W0 : Wd} {H0 : Hp} {U : List Addr} {X : Cx} {e : Expr} {es ts : List Expr} {is : List Nat} {m : Ro → Store → Out D} {ms : Ro → Store → Out (List D)} {pos p p' : Pos}
theorem Tgs.facts (h : Tgs X ts is) : ts.length = is.length ∧ (assignEach ts X.env).length = is.length ∧ (assignEach ts X.env).findIdx? (·.1) = none := by
  induction h with
  | nil => exact ⟨rfl, rfl, rfl⟩
  | @cons x i p es is hi hx hf t ih =>
    obtain ⟨a, b, c⟩ := ih
    refine ⟨by rw [List.length_cons, List.length_cons, a], ?_, ?_⟩
    · show ((false, assign (.Name x p) X.env) :: assignEach es X.env).length = _
      rw [List.length_cons, List.length_cons, b]
    · show ((false, assign (.Name x p) X.env) :: assignEach es X.env).findIdx? (·.1) = none
      rw [List.findIdx?_cons, c]
      rfl
theorem Tgs.run (hN : X.N.Nodup) (h : Tgs X ts is) : PGs X ts (fun vs σ H Q => vs.length = is.length ∧ Q (setV σ is vs) H) := by
  have imp : ∀ {ts : List Expr} {t t' : TGs}, PGs X ts t → (∀ vs σ H Q, t' vs σ H Q → t vs σ H Q) → PGs X ts t' := fun h k => ⟨fun pins s σ H vs us Q I r q => h.run pins s σ H vs us Q I r (k vs σ H Q q)⟩
  induction h with
  | nil =>
    refine imp pgs_nil fun vs σ H Q ⟨a, b⟩ => ?_
    cases vs with
    | nil => exact ⟨rfl, b⟩
    | cons v vs => cases a
  | @cons x i p es is hi hx hf t ih =>
    refine imp (pgs_cons (pg_name (pos := p) hN hi hx (.inl hf)) ih) fun vs σ H Q ⟨a, b⟩ => ?_
    cases vs with
    | nil => cases a
    | cons v vs => exact ⟨v, vs, rfl, by simpa using a, b⟩
theorem RelS.all {W : Wd} {H : Hp} : ∀ {is : List Nat} {σ : L2.St} {ρ : Ro} {ds : List D} {vs : List V}, RelS C W H0 U σ H ρ → DenL C W ds vs → RelS C W H0 U (setV σ is vs) H (setAll ρ is ds)
  | [], σ, ρ, ds, vs, rs, _ => by
    cases ds <;> cases vs <;> exact rs
  | i :: is, σ, ρ, [], vs, rs, h => by
    unfold DenL at h
    subst h
    exact rs
  | i :: is, σ, ρ, d :: ds, vs, rs, h => by
    unfold DenL at h
    obtain ⟨v, r, rfl, h1, h2⟩ := h
    exact RelS.all (is := is) (rs.sh h1) h2
/-- a, b, .. = a tuple -/
theorem ss_unp {k : Nat} (hc : X.calm = true) (hN : X.N.Nodup) (ht : Tgs X ts is) (hs : swapsWithSole [.Tuple ts k p] e pos.line X.env = pure false) (hw : swappedStores [.Tuple ts k p] e X.env = pure none) (hK : X.K = C.K) (he : PE X e (tE C Z m)) :
    PS X (.Assign [.Tuple ts k p] e pos) (tS C Z W0 H0 U fun ρ S => (m ρ S).then ρ fun d S1 => kUnp is d S1 ρ) := by
  obtain ⟨f1, f2, f3⟩ := ht.facts
  refine PS.imp (ps_asg he (pg_tup hc (ht.run hN) f2 f3) hs hw rfl) fun E σ H h => exp_rd h fun W1 H1 S1 ρ d v s1 r1 rs1 hv q => ?_
  unfold kUnp at q
  split at q
  · rename_i xs
    unfold Den at hv
    obtain ⟨a, ys, rfl, hg, hl⟩ := hv
    split at q
    · rename_i hn
      exact ⟨a, ys, rfl, SqT.of (r1.g _ _ hg), by rw [← hl.length, hn], by rw [← hl.length, hn], q _ W1 H1 s1 (Ext.refl _) r1 (rs1.all hl)⟩
    · exact q.elim
  · exact q.elim
def kPar (is : List Nat) (ds : List D) (S1 : Store) (ρ : Ro) : OutS := if ds.length = is.length then .nx (setAll ρ is ds) S1 else .stk
theorem ss_par2 {i j : Nat} {x y : Str} {a b : Expr} {px py pt pt2 : Pos} {kt k2 : Nat} (hc : X.calm = true) (hN : X.N.Nodup) (hi : X.N[i]? = some x) (hj : X.N[j]? = some y) (hij : i ≠ j)
    (hx : X.env.scope.names.lookup x = some .local) (hy : X.env.scope.names.lookup y = some .local) (ha : PA X [a, b] (tAs C Z ms))
    (hw : swappedStores [.Tuple [.Name x px, .Name y py] kt pt] (.Tuple [a, b] k2 pt2) X.env = pure (some [x, y]))
    (hs : swapsWithSole [.Tuple [.Name x px, .Name y py] kt pt] (.Tuple [a, b] k2 pt2) pos.line X.env = pure false) :
    PS X (.Assign [.Tuple [.Name x px, .Name y py] kt pt] (.Tuple [a, b] k2 pt2) pos) (tS C Z W0 H0 U fun ρ S => (ms ρ S).then ρ fun ds S1 => kPar [i, j] ds S1 ρ) :=
  PS.imp (ps_par hc hN hi hj hij hx hy ha hw hs) fun E σ H h => exps_rd h fun W1 H1 S1 ρ ds vs s1 r1 rs1 hv q => by
    unfold kPar at q
    split at q
    · rename_i hl
      rw [hv.length] at hl
      match vs, hl with
      | [u, w], _ => exact ⟨u, w, rfl, q _ W1 H1 s1 (Ext.refl _) r1 (rs1.all (is := [i, j]) hv)⟩
    · exact q.elim
theorem ss_par3 {i j l : Nat} {x y z : Str} {a b c : Expr} {px py pz pt pt2 : Pos} {kt k2 : Nat} (hc : X.calm = true) (hN : X.N.Nodup) (hi : X.N[i]? = some x) (hj : X.N[j]? = some y) (hl : X.N[l]? = some z) (hij : i ≠ j) (hil : i ≠ l) (hjl : j ≠ l)
    (hx : X.env.scope.names.lookup x = some .local) (hy : X.env.scope.names.lookup y = some .local) (hz : X.env.scope.names.lookup z = some .local) (ha : PA X [a, b, c] (tAs C Z ms))
    (hw : swappedStores [.Tuple [.Name x px, .Name y py, .Name z pz] kt pt] (.Tuple [a, b, c] k2 pt2) X.env = pure (some [x, y, z]))
    (hs : swapsWithSole [.Tuple [.Name x px, .Name y py, .Name z pz] kt pt] (.Tuple [a, b, c] k2 pt2) pos.line X.env = pure false) :
    PS X (.Assign [.Tuple [.Name x px, .Name y py, .Name z pz] kt pt] (.Tuple [a, b, c] k2 pt2) pos) (tS C Z W0 H0 U fun ρ S => (ms ρ S).then ρ fun ds S1 => kPar [i, j, l] ds S1 ρ) :=
  PS.imp (ps_par3 hc hN hi hj hl hij hil hjl hx hy hz ha hw hs) fun E σ H h => exps_rd h fun W1 H1 S1 ρ ds vs s1 r1 rs1 hv q => by
    unfold kPar at q
    split at q
    · rename_i hl
      rw [hv.length] at hl
      match vs, hl with
      | [u, v, w], _ => exact ⟨u, v, w, rfl, q _ W1 H1 s1 (Ext.refl _) r1 (rs1.all (is := [i, j, l]) hv)⟩
    · exact q.elim
end
end DL
end
-- DLBind
section
set_option maxHeartbeats 4000000
namespace DL
open PySem PySem.Spec L2
section
variable {ps : List Str}
theorem lookup_snoc {l : List (Str × Value)} {k x : Str} {v : Value} (h : x ≠ k) : (l ++ [(k, v)]).lookup x = l.lookup x := by
  rw [List.lookup_append]
  have e : (x == k) = false := by simpa using h
  simp [List.lookup, e]
theorem loop1 {body : Str × Value → List (Str × Value) × List (Str × Value) → Sem (ForInStep (List (Str × Value) × List (Str × Value)))}
    (h : ∀ x st, ps.contains x.1 = true → st.1.lookup x.1 = none → body x st = pure (.yield (st.1 ++ [(x.1, x.2)], st.2))) :
    ∀ (kz : List (Str × Value)) (sl ex : List (Str × Value)), (∀ p ∈ kz, ps.contains p.1 = true) → (kz.map (·.1)).Nodup → (∀ p ∈ kz, sl.lookup p.1 = none) → forIn kz (sl, ex) body = pure (sl ++ kz, ex)
  | [], sl, ex, _, _, _ => by
    rw [List.append_nil]
    rfl
  | (k, v) :: kz, sl, ex, h1, h2, h3 => by
    rw [List.forIn_cons, h (k, v) (sl, ex) (h1 _ (List.mem_cons_self ..)) (h3 _ (List.mem_cons_self ..)), pure_bind]
    show forIn kz (sl ++ [(k, v)], ex) body = _
    rw [List.map_cons, List.nodup_cons] at h2
    rw [loop1 h kz (sl ++ [(k, v)]) ex (fun p hp => h1 p (List.mem_cons_of_mem _ hp)) h2.2 fun p hp => ?_]
    · rw [List.append_assoc]
      rfl
    · rw [lookup_snoc (fun z : p.1 = k => h2.1 (List.mem_map.mpr ⟨p, hp, z⟩))]
      exact h3 p (List.mem_cons_of_mem _ hp)
theorem loop2 {body : Str × Value → List (Str × Value) → Sem (ForInStep (List (Str × Value)))} (h : ∀ x st, body x st = pure (.yield (if (st.lookup x.1).isNone then st ++ [(x.1, x.2)] else st))) :
    ∀ (dz : List (Str × Value)) (sl : List (Str × Value)), (dz.map (·.1)).Nodup → ∃ sl', forIn dz sl body = pure sl' ∧ ∀ x, sl'.lookup x = (sl.lookup x).or (dz.lookup x)
  | [], sl, _ => ⟨sl, rfl, fun x => by simp [List.lookup]⟩
  | (k, v) :: dz, sl, nd => by
    rw [List.map_cons, List.nodup_cons] at nd
    rw [List.forIn_cons, h (k, v) sl, pure_bind]
    obtain ⟨sl', e1, e2⟩ := loop2 h dz (if (sl.lookup k).isNone then sl ++ [(k, v)] else sl) nd.2
    refine ⟨sl', e1, fun x => ?_⟩
    rw [e2 x]
    by_cases hx : x = k
    · subst hx
      have hd : dz.lookup x = none := by
        cases q : dz.lookup x with
        | none => rfl
        | some w => exact absurd (List.mem_map_of_mem (f := (·.1)) (PySem.mem_of_lookup q)) nd.1
      rw [hd]
      cases q : sl.lookup x with
      | none => simp [q, List.lookup_append, List.lookup]
      | some w => simp [q, List.lookup]
    · have hk : (x == k) = false := by simpa using hx
      have e3 : ((k, v) :: dz).lookup x = dz.lookup x := by simp [List.lookup, hk]
      rw [e3]
      split
      · rw [lookup_snoc hx]
      · rfl
/-- what the names get -/
theorem bindG_row : ∀ (ps : List Str) {dU us kz r} (L : Str → Option Value), ps.Nodup → (∀ p ∈ ps, L p = ((ps.zip us ++ kz).lookup p).or (dU.lookup p)) → (∀ k ∈ kz.map (·.1), k ∉ ps.take us.length) → bindG ps dU us kz = some r → ps.filterMap (fun n => (L n).map (n, ·)) = ps.zip r
  | [], dU, us, kz, r, L, _, _, _, e => by
    cases us <;> unfold bindG at e <;> cases e
    rfl
  | p :: ps, dU, u :: us, kz, r, L, nd, hL, hk, e => by
    unfold bindG at e
    cases q : bindG ps dU us kz with
    | none =>
      rw [q] at e
      cases e
    | some r1 =>
      rw [q] at e
      cases e
      rw [List.nodup_cons] at nd
      have h0 : L p = some u := by
        rw [hL p (List.mem_cons_self ..)]
        simp [List.zip_cons_cons, List.lookup]
      have ih := bindG_row ps L nd.2 (fun x hx => by
        rw [hL x (List.mem_cons_of_mem _ hx)]
        have ne : (x == p) = false := by
          have : x ≠ p := fun z => nd.1 (z ▸ hx)
          simpa using this
        simp [List.zip_cons_cons, List.lookup, ne]) (fun k h z => hk k h (by
        rw [List.length_cons, List.take_succ_cons]
        exact List.mem_cons_of_mem _ z)) q
      rw [List.filterMap_cons, h0]
      show (p, u) :: _ = (p, u) :: ps.zip r1
      rw [ih]
  | p :: ps, dU, [], kz, r, L, nd, hL, hk, e => by
    unfold bindG at e
    cases q : bindG ps dU [] kz with
    | none =>
      rw [q] at e
      split at e <;> cases e
      rename_i z
      cases z
    | some r1 =>
      rw [q] at e
      rw [List.nodup_cons] at nd
      have ih := bindG_row ps L nd.2 (fun x hx => by
        rw [hL x (List.mem_cons_of_mem _ hx)]
        simp [List.zip_nil_right]) (fun k h z => by simp at z) q
      have h0 := hL p (List.mem_cons_self ..)
      rw [List.zip_nil_right, List.nil_append] at h0
      cases hz : kz.lookup p with
      | some z =>
        rw [hz] at e h0
        cases e
        rw [List.filterMap_cons, h0]
        show (p, z) :: _ = (p, z) :: ps.zip r1
        rw [ih]
      | none =>
        rw [hz] at e h0
        cases hd : dU.lookup p with
        | none =>
          rw [hd] at e
          cases e
        | some z =>
          rw [hd] at e h0
          cases e
          rw [List.filterMap_cons, h0]
          show (p, z) :: _ = (p, z) :: ps.zip r1
          rw [ih]
/-- nothing is missing -/
theorem bindG_has : ∀ (ps : List Str) {dU : List (Str × Value)} {us : List Value} {kz : List (Str × Value)} {r : List Value}, bindG ps dU us kz = some r → ∀ p ∈ ps, ((ps.zip us ++ kz).lookup p).isSome = true ∨ (dU.lookup p).isSome = true
  | [], dU, us, kz, r, e, p, h => by cases h
  | q :: ps, dU, u :: us, kz, r, e, p, h => by
    unfold bindG at e
    cases z : bindG ps dU us kz with
    | none =>
      rw [z] at e
      cases e
    | some r1 =>
      by_cases hp : p = q
      · left
        subst hp
        simp [List.zip_cons_cons, List.lookup]
      · have hp' : (p == q) = false := by simpa using hp
        rcases List.mem_cons.mp h with y | y
        · exact absurd y hp
        · rcases bindG_has ps z p y with w | w
          · left
            simpa [List.zip_cons_cons, List.lookup, hp'] using w
          · exact .inr w
  | q :: ps, dU, [], kz, r, e, p, h => by
    unfold bindG at e
    cases z : bindG ps dU [] kz with
    | none =>
      rw [z] at e
      split at e <;> cases e
      rename_i y
      cases y
    | some r1 =>
      rw [z] at e
      rcases List.mem_cons.mp h with y | y
      · subst y
        rw [List.zip_nil_right, List.nil_append]
        cases hz : kz.lookup p with
        | some v => exact .inl rfl
        | none =>
          rw [hz] at e
          cases hd : dU.lookup p with
          | some v => exact .inr rfl
          | none =>
            rw [hd] at e
            cases e
      · rcases bindG_has ps z p y with w | w
        · left
          simpa using w
        · exact .inr w
/-- the function object's defaults -/
def DfK (K : PySem.W.Frag) (fd : FuncData) (dU : List (Str × Value)) : Prop :=
  (fd.defaults = .none ∧ dU = []) ∨ ∃ T c d its n sl, fd.defaults = .ref T ∧ K.lookup T = some ⟨c, d, .seq its n, sl⟩ ∧ its.toList = dU.map (·.2)
structure Simple (fd : FuncData) (ps : List Str) : Prop where
  po : fd.params.posonlyargs = []
  ar : fd.params.args.map (·.arg) = ps
  ko : fd.params.kwonlyargs = []
  va : fd.params.vararg = none
  kw : fd.params.kwarg = none
  nd : ps.Nodup
theorem wp_dfl {K : PySem.W.Frag} {fd : FuncData} {dU : List (Str × Value)} {M : Model} {A : Around} {E : Value → Shared → Prop} {s : Shared} {Q : Option (Array Value) → Shared → Prop} (h : DfK K fd dU) (k : K.In s.heap) (q : ∀ o, (o.getD #[]).toList = dU.map (·.2) → Q o s) :
    wpAny M A (seqItems? fd.defaults) Q E s := by
  rcases h with ⟨h1, h2⟩ | ⟨T, c, d, its, n, sl, h1, h2, h3⟩
  · rw [h1]
    refine wpAny_pure (q none ?_)
    rw [h2]
    rfl
  · rw [h1]
    unfold seqItems?
    refine wpAny_bind (wpAny_load (k _ _ h2) ?_)
    exact wpAny_pure (q (some its) h3)
theorem bind_ok {K : PySem.W.Frag} {fd : FuncData} {dU : List (Str × Value)} {n : Nat} {ks : List Str} (S : Simple fd ps) (hd : DfK K fd dU) (hdn : dU.map (·.1) = ps.drop (ps.length - dU.length)) (hdl : dU.length ≤ ps.length) (hn : n ≤ ps.length) (hks : ks.Nodup) (hkp : ∀ k ∈ ks, k ∈ ps ∧ k ∉ ps.take n) :
    BindOk K fd ps dU n ks := by
  intro s us ws r kin lu lw eb M A E Q q
  have hkeys : (ks.zip ws).map (·.1) = ks := by
    rw [List.map_fst_zip]
    rw [lw]
    exact Nat.le_refl _
  have hin : ∀ p ∈ ks.zip ws, p.1 ∈ ks := fun p hp => (List.of_mem_zip hp).1
  have hcz : ∀ p ∈ ks.zip ws, ps.contains p.1 = true := fun p hp => by
    rw [List.contains_iff_mem]
    exact (hkp _ (hin p hp)).1
  have hpre : ∀ x, x ∉ ps.take n → (ps.zip us).lookup x = none := fun x hx => by
    cases z : (ps.zip us).lookup x with
    | none => rfl
    | some v =>
      have m := PySem.mem_of_lookup z
      have m2 : x ∈ (ps.take n) := by
        have e : ∀ (l : List Str) (us : List Value), l.zip us = (l.take us.length).zip us := by
          intro l
          induction l with
          | nil => intro us; simp
          | cons a l ih =>
            intro us
            cases us with
            | nil => simp
            | cons u us => rw [List.zip_cons_cons, List.length_cons, List.take_succ_cons, List.zip_cons_cons, ← ih]
        rw [e, lu] at m
        exact (List.of_mem_zip m).1
      exact absurd m2 hx
  unfold bindArgs
  simp only [S.po, S.ar, S.ko, S.va, S.kw, List.map_nil, List.nil_append]
  rw [loop1 (ps := ps) (fun x st h1 h2 => by simp only [h1, h2, Bool.true_or, if_true, Option.isSome_none, Bool.false_eq_true, if_false]) (ks.zip ws) (ps.zip us) [] hcz (by rw [hkeys]; exact hks) (fun p hp => hpre _ (hkp _ (hin p hp)).2), pure_bind]
  refine wpAny_bind (wp_dfl hd kin fun o ho => ?_)
  dsimp only
  rw [ho]
  have l0 : ¬ us.length > ps.length := by omega
  have e1 : dU.length - ps.length = 0 := Nat.sub_eq_zero_of_le hdl
  simp only [l0, decide_false, Bool.false_and, Bool.false_eq_true, if_false, List.length_map, e1, List.drop_zero]
  have has := bindG_has ps eb
  have e2 : (ps.take (ps.length - dU.length)).filter (fun n => ((ps.zip us ++ ks.zip ws).lookup n).isNone) = [] := by
    rw [List.filter_eq_nil_iff]
    intro p hp
    rcases has p (List.mem_of_mem_take hp) with z | z
    · simpa using z
    · exfalso
      cases y : dU.lookup p with
      | none =>
        rw [y] at z
        cases z
      | some v =>
        have m : p ∈ dU.map (·.1) := List.mem_map_of_mem (f := (·.1)) (PySem.mem_of_lookup y)
        rw [hdn] at m
        have nd := S.nd
        rw [← List.take_append_drop (ps.length - dU.length) ps, List.nodup_append] at nd
        exact nd.2.2 p hp p m rfl
  rw [e2]
  simp only [List.isEmpty_nil, Bool.not_true, Bool.false_eq_true, if_false]
  have e3 : (ps.drop (ps.length - dU.length)).zip (dU.map (·.2)) = dU := by
    rw [← hdn]
    clear hdn hd hdl eb has e2 ho e1
    induction dU with
    | nil => rfl
    | cons a l ih =>
      rw [List.map_cons, List.map_cons, List.zip_cons_cons, ih]
  rw [e3]
  obtain ⟨sl', f1, f2⟩ := loop2 (body := fun x __s => if (List.lookup x.1 __s).isNone = true then pure (ForInStep.yield (__s ++ [(x.1, x.2)])) else pure (ForInStep.yield __s)) (fun x st => by split <;> rfl) dU (ps.zip us ++ ks.zip ws) (by
    rw [hdn]
    exact List.Sublist.nodup (List.drop_sublist _ _) S.nd)
  rw [f1, pure_bind]
  have row := bindG_row ps (kz := ks.zip ws) (fun x => sl'.lookup x) S.nd (fun p _ => f2 p) (by
    rw [hkeys, lu]
    exact fun k hk => (hkp k hk).2) eb
  simp only [List.append_nil, List.forIn_nil, pure_bind, List.isEmpty_nil, Bool.not_true, Bool.false_eq_true, if_false]
  rw [row]
  exact wpAny_pure q
end
end DL
end
-- DLLc
section
set_option maxHeartbeats 4000000
namespace DL
open PySem PySem.Spec L2
/-! ### comprehensions -/
def Z0 : WX := fun _ _ _ _ => False
section
variable {C : Ct} {Z : WX} {H0 : Hp} {U : List Addr} {X : Cx} {W W1 : Wd} {H H1 : Hp} {S : Store} {σ : L2.St} {ρ : Ro} {Q : VK} {mc : Ro → Store → Out Bool} {me : Ro → Store → Out D} {i n : Nat} {xs : List D} {Dn : Addr} {d : D} {v : V}
/-- a loose list goes into the ground -/
theorem RelH.frz {a : Addr} {ys : List V} (rh : RelH C W H S) (ha : H a = some (.lst ys)) (g : W.G a = none) (b : a ∉ W.B) : RelH C (W.put a (.lst ys)) H S := by
  refine ⟨fun c u hb => ?_, rh.len, rh.nd, fun k c z e1 e2 => ?_, rh.tab, nt_put rh.nt (fun ps z => nomatch z), rh.ta⟩
  · have hb : upd W.G a (.lst ys) c = some u := hb
    by_cases z : c = a
    · rw [z] at hb ⊢
      rw [upd_same] at hb
      rw [ha]
      exact hb
    · rw [upd_ne z] at hb
      exact rh.g c u hb
  · have nb : c ≠ a := fun z => b (z ▸ List.mem_of_getElem? e1)
    obtain ⟨f1, f2⟩ := rh.bx k c z e1 e2
    refine ⟨fun hm => ?_, f2.move (Ext.put g) rfl⟩
    show upd W.G a _ c = none
    rw [upd_ne nb]
    exact f1 hm
theorem Step.frz {a : Addr} {ys : List V} (s0 : Step U W1 H1 W H) (g : W.G a = none) (hn : H1 a = none) : Step U W1 H1 (W.put a (.lst ys)) H := by
  refine ⟨s0.x.trans (Ext.put g), s0.dom, s0.fr, fun b hb => ?_, s0.bn⟩
  by_cases z : b = a
  · rw [z]
    exact .inr hn
  · have hb : upd W.G a (.lst ys) b ≠ none := hb
    rw [upd_ne z] at hb
    exact s0.gn b hb
/-- what holds between two turns -/
def LcT (C : Ct) (Z : WX) (σ : L2.St) (Q : VK) (W1 : Wd) (H1 : Hp) (Dn : Addr) (f : D → Store → Out (Option D)) (xs : List D) (n : Nat) (H : Hp) : Prop :=
  ∃ W S acc ys, Step [] W1 H1 W H ∧ RelH C W H S ∧ H Dn = some (.lst ys) ∧ DenL C W acc ys ∧ FreeL W H1 Dn ∧ PQ C Z σ Q W1 H1 (lcD f (xs.drop n) acc S)
theorem lc_turn (rs : RelS C W1 H0 U σ H1 ρ) (hx : xs[n]? = some d) (hv : Den C W1 d v) (t : LcT C Z σ Q W1 H1 Dn (lcF i mc me ρ) xs n H) :
    gName i v (wipe σ [i]) H fun σ2 H2 => wipe σ2 [i] = wipe σ [i] ∧ tT C Z0 mc σ2 H2 fun b H3 => if b = true then tE C Z0 me σ2 H3 fun y H4 => ∃ acc, H4 Dn = some (.lst acc) ∧ acc.length < sizeLine ∧ LcT C Z σ Q W1 H1 Dn (lcF i mc me ρ) xs (n + 1) (upd H4 Dn (.lst (acc ++ [y])))
      else LcT C Z σ Q W1 H1 Dn (lcF i mc me ρ) xs (n + 1) H3 := by
  obtain ⟨W, S, acc, ys, st, rh, hD, dl, fl, p⟩ := t
  have hd : xs.drop n = d :: xs.drop (n + 1) := by
    have hl := (List.getElem?_eq_some_iff.mp hx)
    rw [List.drop_eq_getElem_cons hl.1, hl.2]
  rw [hd] at p
  have σe : (wipe σ [i]).set i (some v) = σ.set i (some v) := by
    show ((wipe σ []).set i none).set i (some v) = _
    rw [List.set_set]
    rfl
  show wipe ((wipe σ [i]).set i (some v)) [i] = wipe σ [i] ∧ tT C Z0 mc ((wipe σ [i]).set i (some v)) H _
  rw [σe]
  refine ⟨?_, ?_⟩
  · show (σ.set i (some v)).set i none = σ.set i none
    rw [List.set_set]
  · have rs2 := (rs.step st).sh (i := i) (Den.ext st.x _ _ hv)
    refine ⟨W, H0, U, ρ.set i (some (.sh d)), S, rh, rs2, ?_⟩
    unfold lcD at p
    cases e1 : mc (ρ.set i (some (.sh d))) S with
    | stk =>
      have ef : lcF i mc me ρ d S = .stk := by
        unfold lcF
        rw [e1]
        rfl
      rw [ef] at p
      exact p.elim
    | er e S1 =>
      have ef : lcF i mc me ρ d S = .er e S1 := by
        unfold lcF
        rw [e1]
        rfl
      rw [ef] at p
      exact p.elim
    | ok b S1 =>
      intro W2 H2 st2 rh2
      have hD2 := st2.fr Dn _ hD fl.2.1 (by simp) (fun ps z => by cases z)
      have fl2 := fl.step st2 hD
      cases b with
      | false =>
        have ef : lcF i mc me ρ d S = .ok none S1 := by
          unfold lcF
          rw [e1]
          rfl
        rw [ef] at p
        show LcT C Z σ Q W1 H1 Dn (lcF i mc me ρ) xs (n + 1) H2
        exact ⟨W2, S1, acc, ys, st.trans st2, rh2, hD2, DenL.ext st2.x _ _ dl, fl2, p⟩
      | true =>
        show tE C Z0 me (σ.set i (some v)) H2 _
        refine ⟨W2, H0, U, ρ.set i (some (.sh d)), S1, rh2, rs2.step st2, ?_⟩
        cases e2 : me (ρ.set i (some (.sh d))) S1 with
        | stk =>
          have ef : lcF i mc me ρ d S = .stk := by
            unfold lcF
            rw [e1]
            show (me (ρ.set i (some (.sh d))) S1).bind _ = _
            rw [e2]
            rfl
          rw [ef] at p
          exact p.elim
        | er e S2 =>
          have ef : lcF i mc me ρ d S = .er e S2 := by
            unfold lcF
            rw [e1]
            show (me (ρ.set i (some (.sh d))) S1).bind _ = _
            rw [e2]
            rfl
          rw [ef] at p
          exact p.elim
        | ok y S2 =>
          have ef : lcF i mc me ρ d S = .ok (some y) S2 := by
            unfold lcF
            rw [e1]
            show (me (ρ.set i (some (.sh d))) S1).bind _ = _
            rw [e2]
            rfl
          rw [ef] at p
          dsimp only at p
          split at p
          · rename_i hl
            intro W3 H3 st3 rh3 v3 hv3
            have hD3 := st3.fr Dn _ hD2 fl2.2.1 (by simp) (fun ps z => by cases z)
            have fl3 := fl2.step st3 hD2
            have hlen : ys.length < sizeLine := by
              rw [← dl.length]
              have := most_line (n := most) (Nat.le_refl _)
              omega
            refine ⟨ys, hD3, hlen, W3, S2, acc ++ [y], ys ++ [v3], (st.trans (st2.trans st3)).chg (.inl fl.2.2), rh3.chg fl3.1 fl3.2.1 (fun ps z => by rw [hD3] at z; cases z) (fun c q z => by rw [hD3] at z; cases z), upd_same, ?_, fl3, p⟩
            exact (DenL.ext (st2.x.trans st3.x) _ _ dl).append (DenL.cons hv3 DenL.nil)
          · exact p.elim
theorem lc_done {f : D → Store → Out (Option D)} (hl : xs.length ≤ n) (t : LcT C Z σ Q W1 H1 Dn f xs n H) : Q (.ref Dn) H := by
  obtain ⟨W, S, acc, ys, st, rh, hD, dl, fl, p⟩ := t
  rw [List.drop_eq_nil_of_le hl] at p
  exact p (W.put Dn (.lst ys)) H (st.frz fl.1 fl.2.2) (rh.frz hD fl.1 fl.2.1) _ (lst_new fl.1 dl)
theorem lc_start {f : D → Store → Out (Option D)} (rh : RelH C W1 H1 S) (hn : H1 Dn = none) (p : PQ C Z σ Q W1 H1 (lcD f xs [] S)) : LcT C Z σ Q W1 H1 Dn f xs 0 (upd H1 Dn (.lst [])) := by
  obtain ⟨g, b⟩ := rh.fresh hn
  exact ⟨W1, S, [], [], Step.loose hn, rh.loose hn, upd_same, DenL.nil, ⟨g, b, hn⟩, p⟩
/-- [e for x in ..]: by what is walked -/
def mLc (k : IK) (i : Nat) (mi : Ro → Store → Out D) (mc : Ro → Store → Out Bool) (me : Ro → Store → Out D) : Ro → Store → Out D := fun ρ S => (mi ρ S).bind fun x S1 => (itD k x S1).bind fun xs S2 => lcD (fun d S3 => lcF i mc me ρ d S3) xs [] S2
variable {e : Expr} {mi : Ro → Store → Out D}
theorem lc_rd_lst {K : PySem.W.Frag} (h : tE C Z (mLc .lst i mi mc me) σ H Q) : tE C Z mi σ H fun v H1 => ∃ a, v = .ref a ∧ (∃ xs, SqL K H1 a xs) ∧ ∀ D, H1 D = none → ∃ W : Nat → Nat → Hp → Prop, (∃ m, W 0 m (upd H1 D (.lst []))) ∧ ∀ k m H, W k m H →
      ((Itl K a).stop k H ∧ Q (.ref D) H) ∨ ((Itl K a).go k H ∧ ∃ Nx : Hp → Prop, (∀ H', Nx H' → ∃ m', m' < m ∧ W (k + 1) m' H') ∧ ∀ x H', (Itl K a).yld k H x H' → gName i x (wipe σ [i]) H' fun σ2 H2 => wipe σ2 [i] = wipe σ [i] ∧ tT C Z0 mc σ2 H2 fun b H3 =>
        if b = true then tE C Z0 me σ2 H3 fun y H4 => ∃ acc, H4 D = some (.lst acc) ∧ acc.length < sizeLine ∧ Nx (upd H4 D (.lst (acc ++ [y]))) else Nx H3) := by
  obtain ⟨W, H0, U, ρ, S, rh, rs, p⟩ := h
  refine ⟨W, H0, U, ρ, S, rh, rs, (Post.bind p).mono ?_⟩
  rintro W1 H1 x ⟨st, S1, rh1, _, p1⟩ u hu
  have p1 : PQ C Z σ Q W1 H1 ((itD .lst x S1).bind fun xs S2 => lcD (fun d S3 => lcF i mc me ρ d S3) xs [] S2) := p1
  cases x with
  | lst xs =>
    obtain ⟨a, ys, rfl, ga, ha, dl⟩ := den_lst hu rh1
    refine ⟨a, rfl, ⟨ys, SqL.of ha⟩, fun D hD => lc_list (K := K) (a := a) (xs := ys) (fun n H => LcT C Z σ Q W1 H1 D (lcF i mc me ρ) xs n H) (lc_start rh1 hD p1) (fun k H' _ t => ?_) (fun k y H' hy t => ?_) (fun H' t => lc_done (by rw [dl.length]; exact Nat.le_refl _) t)⟩
    · obtain ⟨W2, S2, _, _, s2, r2, _⟩ := t
      exact SqL.of (r2.g _ _ (s2.x.g _ _ ga))
    · have hn : k < xs.length := by
        rw [dl.length]
        exact (List.getElem?_eq_some_iff.mp hy).1
      obtain ⟨y2, e1, e2⟩ := dl.get (List.getElem?_eq_getElem hn)
      rw [hy] at e1
      cases e1
      exact lc_turn (rs.step st) (List.getElem?_eq_getElem hn) e2 t
  | _ => exact p1.elim
theorem lc_rd_tup {K : PySem.W.Frag} (h : tE C Z (mLc .tup i mi mc me) σ H Q) : tE C Z mi σ H fun v H1 => ∃ a, v = .ref a ∧ (∃ xs, SqT K H1 a xs) ∧ ∀ D, H1 D = none → ∃ W : Nat → Nat → Hp → Prop, (∃ m, W 0 m (upd H1 D (.lst []))) ∧ ∀ k m H, W k m H →
      ((Itt K a).stop k H ∧ Q (.ref D) H) ∨ ((Itt K a).go k H ∧ ∃ Nx : Hp → Prop, (∀ H', Nx H' → ∃ m', m' < m ∧ W (k + 1) m' H') ∧ ∀ x H', (Itt K a).yld k H x H' → gName i x (wipe σ [i]) H' fun σ2 H2 => wipe σ2 [i] = wipe σ [i] ∧ tT C Z0 mc σ2 H2 fun b H3 =>
        if b = true then tE C Z0 me σ2 H3 fun y H4 => ∃ acc, H4 D = some (.lst acc) ∧ acc.length < sizeLine ∧ Nx (upd H4 D (.lst (acc ++ [y]))) else Nx H3) := by
  obtain ⟨W, H0, U, ρ, S, rh, rs, p⟩ := h
  refine ⟨W, H0, U, ρ, S, rh, rs, (Post.bind p).mono ?_⟩
  rintro W1 H1 x ⟨st, S1, rh1, _, p1⟩ u hu
  have p1 : PQ C Z σ Q W1 H1 ((itD .tup x S1).bind fun xs S2 => lcD (fun d S3 => lcF i mc me ρ d S3) xs [] S2) := p1
  cases x with
  | tup xs =>
    obtain ⟨a, ys, rfl, ga, ha, dl⟩ := den_tup hu rh1
    refine ⟨a, rfl, ⟨ys, SqT.of ha⟩, fun D hD => lc_tup (K := K) (a := a) (xs := ys) (fun n H => LcT C Z σ Q W1 H1 D (lcF i mc me ρ) xs n H) (lc_start rh1 hD p1) (fun k H' _ t => ?_) (fun k y H' hy t => ?_) (fun H' t => lc_done (by rw [dl.length]; exact Nat.le_refl _) t)⟩
    · obtain ⟨W2, S2, _, _, s2, r2, _⟩ := t
      exact SqT.of (r2.g _ _ (s2.x.g _ _ ga))
    · have hn : k < xs.length := by
        rw [dl.length]
        exact (List.getElem?_eq_some_iff.mp hy).1
      obtain ⟨y2, e1, e2⟩ := dl.get (List.getElem?_eq_getElem hn)
      rw [hy] at e1
      cases e1
      exact lc_turn (rs.step st) (List.getElem?_eq_getElem hn) e2 t
  | _ => exact p1.elim
theorem lc_rd_rng (h : tE C Z (mLc .rng i mi mc me) σ H Q) : tE C Z mi σ H fun v H1 => ∃ j : Int, v = .int j ∧ -(2 ^ 62) ≤ j ∧ j < 2 ^ 62 ∧ ∀ D, H1 D = none → ∃ W : Nat → Nat → Hp → Prop, (∃ m, W 0 m (upd H1 D (.lst []))) ∧ ∀ k m H, W k m H →
      ((Itr 0 j.toNat).stop k H ∧ Q (.ref D) H) ∨ ((Itr 0 j.toNat).go k H ∧ ∃ Nx : Hp → Prop, (∀ H', Nx H' → ∃ m', m' < m ∧ W (k + 1) m' H') ∧ ∀ x H', (Itr 0 j.toNat).yld k H x H' → gName i x (wipe σ [i]) H' fun σ2 H2 => wipe σ2 [i] = wipe σ [i] ∧ tT C Z0 mc σ2 H2 fun b H3 =>
        if b = true then tE C Z0 me σ2 H3 fun y H4 => ∃ acc, H4 D = some (.lst acc) ∧ acc.length < sizeLine ∧ Nx (upd H4 D (.lst (acc ++ [y]))) else Nx H3) := by
  obtain ⟨W, H0, U, ρ, S, rh, rs, p⟩ := h
  refine ⟨W, H0, U, ρ, S, rh, rs, (Post.bind p).mono ?_⟩
  rintro W1 H1 x ⟨st, S1, rh1, _, p1⟩ u hu
  have p1 : PQ C Z σ Q W1 H1 ((itD .rng x S1).bind fun xs S2 => lcD (fun d S3 => lcF i mc me ρ d S3) xs [] S2) := p1
  cases x with
  | int n =>
    unfold itD at p1
    by_cases hn : n < 2 ^ 60 ∧ -(2 ^ 60) < n
    · dsimp only at p1
      rw [if_pos hn] at p1
      rw [den_int hu]
      have e62 : (2 : Int) ^ 62 = 4611686018427387904 := by decide
      have e60 : (2 : Int) ^ 60 = 1152921504606846976 := by decide
      rw [e60] at hn
      refine ⟨n, rfl, by rw [e62]; omega, by rw [e62]; omega, fun Dn hD => lc_range (lo := 0) (n := n.toNat) (fun k H => LcT C Z σ Q W1 H1 Dn (lcF i mc me ρ) ((List.range n.toNat).map fun k : Nat => D.int k) k H) (lc_start rh1 hD p1) (fun k H' hk t => ?_) (fun H' t => lc_done (by simp) t)⟩
      refine lc_turn (d := .int k) (rs.step st) (by simp [hk]) ?_ t
      rw [Int.zero_add]
      exact of_int
    · dsimp only at p1
      rw [if_neg hn] at p1
      exact p1.elim
  | _ => exact p1.elim
variable {elt it : Expr} {ifs : List Expr} {scope : Scope} {x : Str} {p pos rp p' : Pos}
/-- the parts of a comprehension, in its block -/
structure LcB (X : Cx) (C : Ct) (scope : Scope) (i : Nat) (x : Str) (p : Pos) (ifs : List Expr) (elt : Expr) (mc : Ro → Store → Out Bool) (me : Ro → Store → Out D) : Prop where
  calm : X.calm = true
  nd : X.N.Nodup
  ok : BlkOk X.N X.env.scope scope [(x, i)]
  g : ∀ (s : Shared) (H : Hp) (B : Addr) (cl : List (Str × Addr)) (fp : List Addr), PG (X.blk s H scope (compEnvC scope cl B X.env) fp) (.Name x p) (gName i)
  t : ∀ (s : Shared) (H : Hp) (B : Addr) (cl : List (Str × Addr)) (fp : List Addr), PTs (X.blk s H scope (compEnvC scope cl B X.env) fp) ifs (tT C Z0 mc)
  e : ∀ (s : Shared) (H : Hp) (B : Addr) (cl : List (Str × Addr)) (fp : List Addr), PE (X.blk s H scope (compEnvC scope cl B X.env) fp) elt (tE C Z0 me)
theorem de_lc_lst (L : LcB X C scope i x p ifs elt mc me) (hset : ∀ v, foldedSetIterable it X.env v = pure v) (hi : PE X it (tE C Z mi)) : PE X (.ListComp elt [⟨.Name x p, it, ifs, 0⟩] scope pos) (tE C Z (mLc .lst i mi mc me)) :=
  PE.imp (pe_lc L.calm L.nd (pi_list hi) L.ok L.g L.t L.e hset) fun σ H Q h => lc_rd_lst h
theorem de_lc_tup (L : LcB X C scope i x p ifs elt mc me) (hset : ∀ v, foldedSetIterable it X.env v = pure v) (hi : PE X it (tE C Z mi)) : PE X (.ListComp elt [⟨.Name x p, it, ifs, 0⟩] scope pos) (tE C Z (mLc .tup i mi mc me)) :=
  PE.imp (pe_lc L.calm L.nd (pi_tup hi) L.ok L.g L.t L.e hset) fun σ H Q h => lc_rd_tup h
theorem de_lc_rng (L : LcB X C scope i x p ifs elt mc me) (hg : Gl X "range") (hm : X.mg "range" = none) (hst : ∀ y q, it ≠ .Starred y q) (hi : PE X it (tE C Z mi)) : PE X (.ListComp elt [⟨.Name x p, .Call (.Name "range" rp) [it] [] p', ifs, 0⟩] scope pos) (tE C Z (mLc .rng i mi mc me)) :=
  PE.imp (pe_lc L.calm L.nd (pi_range1 hg hm (pa_cons hi pa_nil (star_of hst)) (star_of hst)) L.ok L.g L.t L.e) fun σ H Q h => by
    obtain ⟨W, H0, U, ρ, S, rh, rs, p⟩ := lc_rd_rng h
    refine ⟨W, H0, U, ρ, S, rh, rs, p.mono fun W1 H1 d z v hv => ?_⟩
    obtain ⟨j, rfl, h1, h2, h3⟩ := z v hv
    exact ⟨j, rfl, h1, h2, h3⟩
variable {W0 : Wd} {k : Nat} {y : Str} {py spos : Pos}
structure LcY (X : Cx) (k : Nat) (y : Str) (py : Pos) (scope : Scope) (pos : Pos) : Prop where
  hy : X.N[k]? = some y
  loc : X.env.scope.names.lookup y = some .local
  knd : X.env.scope.kind = .function
  line : (py.line == pos.line) = true
  no : (scope.names.any fun (n, k) => n == y && (k == .local || k == .cell)) = false
theorem ss_lc_lst (L : LcB X C scope i x p ifs elt mc me) (Y : LcY X k y py scope pos) (hset : ∀ v, foldedSetIterable it X.env v = pure v) (hi : PE X it (tE C Z mi)) :
    PS X (.Assign [.Name y py] (.ListComp elt [⟨.Name x p, it, ifs, 0⟩] scope pos) spos) (tS C Z W0 H0 U fun ρ S => (mLc .lst i mi mc me ρ S).then ρ fun d S1 => .nx (ρ.set k (some (.sh d))) S1) :=
  PS.imp (ps_setLc L.calm L.nd Y.hy Y.loc (sw_true Y.knd Y.loc Y.line Y.no) (pi_list hi) L.ok L.g L.t L.e hset) fun E σ H h => lc_rd_lst (exp_rd (k := fun d S1 ρ => .nx (ρ.set k (some (.sh d))) S1) h fun W1 H1 S1 ρ d v s1 r1 rs1 hv q => q _ W1 H1 s1 (Ext.refl _) r1 (rs1.sh hv))
theorem ss_lc_tup (L : LcB X C scope i x p ifs elt mc me) (Y : LcY X k y py scope pos) (hset : ∀ v, foldedSetIterable it X.env v = pure v) (hi : PE X it (tE C Z mi)) :
    PS X (.Assign [.Name y py] (.ListComp elt [⟨.Name x p, it, ifs, 0⟩] scope pos) spos) (tS C Z W0 H0 U fun ρ S => (mLc .tup i mi mc me ρ S).then ρ fun d S1 => .nx (ρ.set k (some (.sh d))) S1) :=
  PS.imp (ps_setLc L.calm L.nd Y.hy Y.loc (sw_true Y.knd Y.loc Y.line Y.no) (pi_tup hi) L.ok L.g L.t L.e hset) fun E σ H h => lc_rd_tup (exp_rd (k := fun d S1 ρ => .nx (ρ.set k (some (.sh d))) S1) h fun W1 H1 S1 ρ d v s1 r1 rs1 hv q => q _ W1 H1 s1 (Ext.refl _) r1 (rs1.sh hv))
theorem ss_lc_rng (L : LcB X C scope i x p ifs elt mc me) (Y : LcY X k y py scope pos) (hg : Gl X "range") (hm : X.mg "range" = none) (hst : ∀ y q, it ≠ .Starred y q) (hi : PE X it (tE C Z mi)) :
    PS X (.Assign [.Name y py] (.ListComp elt [⟨.Name x p, .Call (.Name "range" rp) [it] [] p', ifs, 0⟩] scope pos) spos) (tS C Z W0 H0 U fun ρ S => (mLc .rng i mi mc me ρ S).then ρ fun d S1 => .nx (ρ.set k (some (.sh d))) S1) :=
  PS.imp (ps_setLc L.calm L.nd Y.hy Y.loc (sw_true Y.knd Y.loc Y.line Y.no) (pi_range1 hg hm (pa_cons hi pa_nil (star_of hst)) (star_of hst)) L.ok L.g L.t L.e) fun E σ H h => by
    obtain ⟨W, H0, U, ρ, S, rh, rs, p⟩ := lc_rd_rng (exp_rd (k := fun d S1 ρ => .nx (ρ.set k (some (.sh d))) S1) h fun W1 H1 S1 ρ d v s1 r1 rs1 hv q => q _ W1 H1 s1 (Ext.refl _) r1 (rs1.sh hv))
    refine ⟨W, H0, U, ρ, S, rh, rs, p.mono fun W1 H1 d z v hv => ?_⟩
    obtain ⟨j, rfl, h1, h2, h3⟩ := z v hv
    exact ⟨j, rfl, h1, h2, h3⟩
end
end DL
end
-- DLMeth
section
set_option maxHeartbeats 4000000
namespace DL
open PySem PySem.Spec L2
/-! ### methods of an instance -/
section
variable {C : Ct} {P : Pg} {Z : WX} {X : Cx} {o e : Expr} {es : List Expr} {kws : List Keyword} {mo : Ro → Store → Out D} {ms mk : Ro → Store → Out (List D)} {pos ap : Pos}
/-- a method by its def -/
def MetF (X : Cx) (C : Ct) (k : Nat) (A : Addr) (m : Str) (f : Addr) (fn : Fn) (F : List D → Store → Out D) (sh : Nat × List Str) : Prop :=
  Cls X.K A ∧ Meth X.K A m f ∧ ∃ fd dU, FnG X.prog X.w X.K X.mg X.base k f fd fn.ps (spD C F) ∧ DflOk fn.dfl dU ∧ ∀ sh' ∈ [sh], BindOk X.K fd fn.ps dU sh'.1 sh'.2
def metM (P : Pg) (F : Fs) (m : Str) (ks : List Str) (mo : Ro → Store → Out D) (ms mk : Ro → Store → Out (List D)) : Ro → Store → Out D := fun ρ S => (mo ρ S).bind fun x S1 => match methJ P x m with
  | some j => (ms ρ S1).bind fun ds S2 => (mk ρ S2).bind fun zs S3 => callD P F j (x :: ds) ks zs S3
  | none => .stk
theorem methJ_ok {x : D} {m : Str} {j : Nat} (h : methJ P x m = some j) : ∃ c ns fs cl, x = .obj c ns fs ∧ P.cls[c]? = some cl ∧ cl.kind.pl = true ∧ ns.contains m = false ∧ cl.meths.lookup m = some j := by
  unfold methJ at h
  split at h
  · rename_i c ns fs
    split at h
    · rename_i cl e
      split at h
      · rename_i q
        rw [Bool.and_eq_true, Bool.not_eq_true'] at q
        exact ⟨c, ns, fs, cl, rfl, e, q.1, q.2, h⟩
      · cases h
    · cases h
  · cases h
theorem zip_no {m : Str} : ∀ {ns : List Str} {vs : List V}, ns.contains m = false → (ns.zip vs).lookup m = none
  | [], _, _ => rfl
  | n :: ns, [], _ => rfl
  | n :: ns, v :: vs, h => by
    rw [List.contains_cons, Bool.or_eq_false_iff] at h
    show List.lookup m ((n, v) :: ns.zip vs) = none
    simp only [List.lookup]
    rw [h.1]
    exact zip_no h.2
theorem de_meth {k : Nat} {F : Fs} {m : Str} {ks : List Str} {n : Nat} (hM : ∀ c cl j, P.cls[c]? = some cl → cl.kind.pl = true → cl.meths.lookup m = some j → ∃ fn, P.fns[j]? = some fn ∧ MetF X C k (C.ca c) m (C.fa j) fn (F.fn j) (n + 1, ks)) (hr : Room k X.A) (hg : X.A.guards = some []) (tk : Takes X Z)
    (hb : attributeBase o m X.env (eval o X.env) = eval o X.env) (hl : (ap.endLine == pos.line) = true) (hf : methodCallForm (es.length + kws.length) (backTo pos (starEach es X.env)) (backToKw pos (keywordEach kws X.env)) = true)
    (ho : PE X o (tE C Z mo)) (hs : noStar es) (hn : named kws ks) (ha : PA X es (tAs C Z ms)) (hw : PK X kws (tAs C Z mk)) (he : es.length = n) (hms : es = [] → ms = fun _ S => .ok [] S) (hlen : ∀ ρ S ds S', ms ρ S = .ok ds S' → ds.length = n) :
    PE X (.Call (.Attribute o m ap) es kws pos) (tE C Z (metM P F m ks mo ms mk)) := by
  refine ⟨fun pins s σ H Q I h => ?_⟩
  have ht := mcall_eq (o := o) (name := m) (env := X.env) hl hf
  rw [hb] at ht
  obtain ⟨W, H0, U, ρ, S, rh, rs, p⟩ := h
  refine PySem.W.methodCall_KW (thn (ho.run pins s σ H (fun v H1 => ∃ W1 S1 x, RelH C W1 H1 S1 ∧ RelS C W1 H0 U σ H1 ρ ∧ Den C W1 x v ∧ PQ C Z σ Q W1 H1 (match methJ P x m with
    | some j => (ms ρ S1).bind fun ds S2 => (mk ρ S2).bind fun zs S3 => callD P F j (x :: ds) ks zs S3
    | none => .stk)) I ⟨W, H0, U, ρ, S, rh, rs, (Post.bind p).mono ?_⟩) fun u s1 hh => ?_) ht
  · rintro W1 H1 x ⟨st, S1, rh1, _, p1⟩ v hv
    exact ⟨W1, S1, x, rh1, rs.step st, hv, p1⟩
  · obtain ⟨v, H1, I1, rv, W1, S1, x, rh1, rs1, hv, p1⟩ := hh
    cases q : methJ P x m with
    | none =>
      rw [q] at p1
      exact p1.elim
    | some j =>
      rw [q] at p1
      have p1 : PQ C Z σ Q W1 H1 ((ms ρ S1).bind fun ds S2 => (mk ρ S2).bind fun zs S3 => callD P F j (x :: ds) ks zs S3) := p1
      obtain ⟨c, ns, fs, cl, rfl, ec, kp, nm, lk⟩ := methJ_ok q
      obtain ⟨fn, ef, cc, hm, G⟩ := hM c cl j ec kp lk
      have hv' := hv
      unfold Den at hv
      obtain ⟨a, dx, vs, rfl, ga, hlv, dl⟩ := hv
      cases rv
      refine getmeth_ok I1 (rh1.g _ _ ga) cc hm (zip_no nm) ?_
      have fin : ∀ s2 H2 us ws vs' zs', Inv X pins σ H2 s2 → Vals vs' us → Vals zs' ws → (∃ W S ds zs, RelH C W H2 S ∧ Den C W (.obj c ns fs) (.ref a) ∧ DenL C W ds vs' ∧ DenL C W zs zs' ∧ ds.length = n ∧ PQ C Z σ Q W H2 (callD P F j (.obj c ns fs :: ds) ks zs S)) → wpAny (model X.prog X.w) X.A (call (.ref (C.fa j)) ([.ref a] ++ us) (ks.zip ws)) (EP X pins σ Q) X.xe s2 := by
        rintro s2 H2 us ws vs' zs' I2 r1 r2 ⟨W, S, ds, zs, rh2, dx2, d1, d2, hl2, p2⟩
        have e2 : callD P F j (.obj c ns fs :: ds) ks zs S = callF fn (F.fn j) ks (.obj c ns fs :: ds) zs S := by
          unfold callD
          rw [ef]
          rfl
        rw [e2] at p2
        exact call_go (n := n + 1) G (List.mem_singleton.mpr rfl) hr hg tk I2 (.cons (show RelV (.ref a) (.ref a) from rfl) r1) r2 rh2 (DenL.cons dx2 d1) d2 (by rw [List.length_cons, hl2]) p2
      cases es with
      | nil =>
        refine with_args0 (first := [.ref a]) (R := fun vs' zs' H2 => ∃ W S ds zs, RelH C W H2 S ∧ Den C W (.obj c ns fs) (.ref a) ∧ DenL C W ds vs' ∧ DenL C W zs zs' ∧ ds.length = n ∧ PQ C Z σ Q W H2 (callD P F j (.obj c ns fs :: ds) ks zs S)) hm.kp hn hw I1 ?_ fin
        obtain rfl := hms rfl
        have p1 : PQ C Z σ Q W1 H1 ((mk ρ S1).bind fun zs S3 => callD P F j (.obj c ns fs :: []) ks zs S3) := p1
        refine ⟨W1, H0, U, ρ, S1, rh1, rs1, (Post.bind p1).mono ?_⟩
        rintro W3 H3 zs ⟨st3, S3, rh3, _, p3⟩ ws hz
        exact ⟨W3, S3, [], zs, rh3, Den.ext st3.x _ _ hv', DenL.nil, hz, he, p3⟩
      | cons e0 es0 =>
        refine with_args (first := [.ref a]) (R := fun vs' zs' H2 => ∃ W S ds zs, RelH C W H2 S ∧ Den C W (.obj c ns fs) (.ref a) ∧ DenL C W ds vs' ∧ DenL C W zs zs' ∧ ds.length = n ∧ PQ C Z σ Q W H2 (callD P F j (.obj c ns fs :: ds) ks zs S)) hm.kp hs hn ha hw I1 ?_ fin
        refine ⟨W1, H0, U, ρ, S1, rh1, rs1, (Post.bind p1).mono ?_⟩
        rintro W2 H2 ds ⟨st2, S2, rh2, eo, p2⟩ us hu
        refine ⟨W2, H0, U, ρ, S2, rh2, rs1.step st2, (Post.bind p2).mono ?_⟩
        rintro W3 H3 zs ⟨st3, S3, rh3, _, p3⟩ ws hz
        exact ⟨W3, S3, ds, zs, rh3, Den.ext (st2.x.trans st3.x) _ _ hv', DenL.ext st3.x _ _ hu, hz, hlen ρ S1 ds S2 eo, p3⟩
end
end DL
end
-- DLEq0
section
set_option maxHeartbeats 4000000
namespace DL
open PySem PySem.SeqAt
open AutoSeq1 (wpAny_loadPart')
open MeetsSeq MeetsSeq2 MeetsSeq3 SeqRoads2
/-! ### == and != of builtin values: an instance on the right is declined -/
abbrev InsO (s : Shared) (y C dx : Addr) : Prop := s.heap.get? y = some (PySem.W.instObj C dx)
theorem int_eqd (b : Int) (u : Tok) (y C dx : Addr) : Meets (Builtin.«int.__eq__» ⟨[.int b u, .ref y], []⟩) (fun _ R s => InsO s y C dx ∧ R (.ok (.ret .notImplemented)) s) :=
  .of_wp fun prog w A R s h => by obtain ⟨hp, g, d, tk, os⟩ := s; obtain ⟨hl, h⟩ := h; unfold InsO PySem.W.instObj at hl; wp_walk using wpAny_loadPart' hl, wpAny_load hl; exact ⟨_, rfl, h⟩
theorem int_ned (b : Int) (u : Tok) (y C dx : Addr) : Meets (Builtin.«int.__ne__» ⟨[.int b u, .ref y], []⟩) (fun _ R s => InsO s y C dx ∧ R (.ok (.ret .notImplemented)) s) :=
  .of_wp fun prog w A R s h => by obtain ⟨hp, g, d, tk, os⟩ := s; obtain ⟨hl, h⟩ := h; unfold InsO PySem.W.instObj at hl; wp_walk using wpAny_loadPart' hl, wpAny_load hl; exact ⟨_, rfl, h⟩
theorem bool_eqd (b : Bool) (y C dx : Addr) : Meets (Builtin.«int.__eq__» ⟨[.bool b, .ref y], []⟩) (fun _ R s => InsO s y C dx ∧ R (.ok (.ret .notImplemented)) s) :=
  .of_wp fun prog w A R s h => by obtain ⟨hp, g, d, tk, os⟩ := s; obtain ⟨hl, h⟩ := h; unfold InsO PySem.W.instObj at hl; wp_walk using wpAny_loadPart' hl, wpAny_load hl; exact ⟨_, rfl, h⟩
theorem bool_ned (b : Bool) (y C dx : Addr) : Meets (Builtin.«int.__ne__» ⟨[.bool b, .ref y], []⟩) (fun _ R s => InsO s y C dx ∧ R (.ok (.ret .notImplemented)) s) :=
  .of_wp fun prog w A R s h => by obtain ⟨hp, g, d, tk, os⟩ := s; obtain ⟨hl, h⟩ := h; unfold InsO PySem.W.instObj at hl; wp_walk using wpAny_loadPart' hl, wpAny_load hl; exact ⟨_, rfl, h⟩
theorem str_eqd (b : Str) (u : Tok) (y C dx : Addr) : Meets (Builtin.«str.__eq__» ⟨[.str b u, .ref y], []⟩) (fun _ R s => InsO s y C dx ∧ R (.ok (.ret .notImplemented)) s) :=
  .of_wp fun prog w A R s h => by obtain ⟨hp, g, d, tk, os⟩ := s; obtain ⟨hl, h⟩ := h; unfold InsO PySem.W.instObj at hl; wp_walk using wpAny_loadPart' hl, wpAny_load hl; exact ⟨_, rfl, h⟩
theorem str_ned (b : Str) (u : Tok) (y C dx : Addr) : Meets (Builtin.«str.__ne__» ⟨[.str b u, .ref y], []⟩) (fun _ R s => InsO s y C dx ∧ R (.ok (.ret .notImplemented)) s) :=
  .of_wp fun prog w A R s h => by obtain ⟨hp, g, d, tk, os⟩ := s; obtain ⟨hl, h⟩ := h; unfold InsO PySem.W.instObj at hl; wp_walk using wpAny_loadPart' hl, wpAny_load hl; exact ⟨_, rfl, h⟩
section
variable {K : PySem.W.Frag} (l : Addr) (items : Array Value) (n : Nat) (dd : Option Addr) (sl : Array (Option Value)) (y C dx : Addr)
theorem list_eqd (e : PySem.W.subIn K (.ref C) (.type "list") = some false) : Meets (Builtin.«list.__eq__» ⟨[.ref l, .ref y], []⟩) (fun _ R s => (s.heap.get? l = some { cls := .type "list", dict := dd, data := .seq items n, slots := sl } ∧ InsO s y C dx ∧ K.In s.heap) ∧ R (.ok (.ret .notImplemented)) s) :=
  .of_wp fun prog w A R s h => by obtain ⟨hp, g, d, tk, os⟩ := s; obtain ⟨⟨hl, hy, X⟩, h⟩ := h; unfold InsO PySem.W.instObj at hy; wp_walk using wpAny_loadPart' hl, wpAny_loadPart' hy, (PySem.W.looks_subIn X e).here; exact ⟨_, rfl, h⟩
theorem list_ned (e : PySem.W.subIn K (.ref C) (.type "list") = some false) : Meets (Builtin.«list.__ne__» ⟨[.ref l, .ref y], []⟩) (fun _ R s => (s.heap.get? l = some { cls := .type "list", dict := dd, data := .seq items n, slots := sl } ∧ InsO s y C dx ∧ K.In s.heap) ∧ R (.ok (.ret .notImplemented)) s) :=
  .of_wp fun prog w A R s h => by obtain ⟨hp, g, d, tk, os⟩ := s; obtain ⟨⟨hl, hy, X⟩, h⟩ := h; unfold InsO PySem.W.instObj at hy; wp_walk using wpAny_loadPart' hl, wpAny_loadPart' hy, (PySem.W.looks_subIn X e).here; exact ⟨_, rfl, h⟩
theorem tuple_eqd (e : PySem.W.subIn K (.ref C) (.type "tuple") = some false) : Meets (Builtin.«tuple.__eq__» ⟨[.ref l, .ref y], []⟩) (fun _ R s => (s.heap.get? l = some { cls := .type "tuple", dict := dd, data := .seq items n, slots := sl } ∧ InsO s y C dx ∧ K.In s.heap) ∧ R (.ok (.ret .notImplemented)) s) :=
  .of_wp fun prog w A R s h => by obtain ⟨hp, g, d, tk, os⟩ := s; obtain ⟨⟨hl, hy, X⟩, h⟩ := h; unfold InsO PySem.W.instObj at hy; wp_walk using wpAny_loadPart' hl, wpAny_loadPart' hy, (PySem.W.looks_subIn X e).here; exact ⟨_, rfl, h⟩
theorem tuple_ned (e : PySem.W.subIn K (.ref C) (.type "tuple") = some false) : Meets (Builtin.«tuple.__ne__» ⟨[.ref l, .ref y], []⟩) (fun _ R s => (s.heap.get? l = some { cls := .type "tuple", dict := dd, data := .seq items n, slots := sl } ∧ InsO s y C dx ∧ K.In s.heap) ∧ R (.ok (.ret .notImplemented)) s) :=
  .of_wp fun prog w A R s h => by obtain ⟨hp, g, d, tk, os⟩ := s; obtain ⟨⟨hl, hy, X⟩, h⟩ := h; unfold InsO PySem.W.instObj at hy; wp_walk using wpAny_loadPart' hl, wpAny_loadPart' hy, (PySem.W.looks_subIn X e).here; exact ⟨_, rfl, h⟩
variable (od : Obj)
theorem dict_eqd (hc : od.cls = .type "dict") (e : PySem.W.subIn K (.ref C) (.type "dict") = some false) : Meets (Builtin.«dict.__eq__» ⟨[.ref l, .ref y], []⟩) (fun _ R s => (s.heap.get? l = some od ∧ InsO s y C dx ∧ K.In s.heap) ∧ R (.ok (.ret .notImplemented)) s) :=
  .of_wp fun prog w A R s h => by obtain ⟨hp, g, d, tk, os⟩ := s; obtain ⟨⟨hl, hy, X⟩, h⟩ := h; unfold InsO PySem.W.instObj at hy; wp_walk using wpAny_loadPart' hl, wpAny_loadPart' hy, (PySem.W.looks_subIn X e).here; exact ⟨_, rfl, h⟩
theorem dict_ned (hc : od.cls = .type "dict") (e : PySem.W.subIn K (.ref C) (.type "dict") = some false) : Meets (Builtin.«dict.__ne__» ⟨[.ref l, .ref y], []⟩) (fun _ R s => (s.heap.get? l = some od ∧ InsO s y C dx ∧ K.In s.heap) ∧ R (.ok (.ret .notImplemented)) s) :=
  .of_wp fun prog w A R s h => by obtain ⟨hp, g, d, tk, os⟩ := s; obtain ⟨⟨hl, hy, X⟩, h⟩ := h; unfold InsO PySem.W.instObj at hy; wp_walk using wpAny_loadPart' hl, wpAny_loadPart' hy, (PySem.W.looks_subIn X e).here; exact ⟨_, rfl, h⟩
end
theorem none_ned (l : Addr) : Gives (Builtin.«NoneType.__ne__» ⟨[.none, .ref l], []⟩) (.val (Value.notImplemented)) :=
  .of_wp fun M A E s Q h => by obtain ⟨hp, g, d, tk, os⟩ := s; wp_walk; exact ⟨_, rfl, h⟩
end DL
end
-- DLEq
section
set_option maxHeartbeats 4000000
namespace DL
open PySem PySem.Spec L2
/-! ### == and != by an own __eq__ -/
section
variable {prog : Program} {w : World} {A : Around} {E : Value → Shared → Prop} {s : Shared} {K : PySem.W.Frag} {x C f : Addr} {ox : Obj} {od : Option Obj} {a b : Value} {name : Str} {Q : Bool → Shared → Prop}
theorem try_own (X : K.In s.heap) (I : PySem.W.InstAt s.heap x ox C od) (hs : PySem.W.findIn K (.ref C) name = some (some (.ref f))) (hf : PySem.W.isFn K (.ref f) = true)
    (h : wpAny (model prog w) A (call (.ref f) [.ref x, b]) (fun v s' => ∃ r, v = .bool r ∧ Q r s') E s) : wpAny (model prog w) A (tryCompare (.ref x) name b) (fun r s' => ∃ t, r = some (.bool t) ∧ Q t s') E s := by
  unfold tryCompare
  refine wpAny_bind (PySem.W.ifBound_K X I hs hf (wpAny_mono h (fun v s' hv => ?_) fun _ _ e => e))
  obtain ⟨r, rfl, q⟩ := hv
  exact wpAny_pure ⟨r, rfl, q⟩
theorem slot_one : Slot "object" "__ne__" "object.__ne__" := F.cmp_object.ne
theorem ifBound_B {M : Model} {args : List Value} {id : String} {Q : Option Value → Shared → Prop} (X : K.In s.heap) (I : PySem.W.InstAt s.heap x ox C od) (hs : PySem.W.findIn K (.ref C) name = some (some (.builtin id))) (hb : ∀ v, bindSpecial (.builtin id) v = pure (.builtin id, [v]))
    (h : wpAny M A (call (.builtin id) (.ref x :: args)) (fun v => Q (some v)) E s) : wpAny M A (callSpecialIfBound? (.ref x) name args) Q E s := by
  simp only [callSpecialIfBound?, bindSpecialIfBound?]
  refine wpAny_holding (wpAny_bind (wpAny_bind (wpAny_bind (I.type.here ((PySem.W.looks_findIn X hs).here ?_)))))
  simp only [hb]
  refine wpAny_bind (wpAny_askSetting (wpAny_ite ?_))
  have fin : wpAny M A (call (.builtin id) ([.ref x] ++ args) >>= fun v => pure (some v)) Q E s := wpAny_bind (wpAny_mono h (fun v s' h' => wpAny_pure h') fun _ _ h' => h')
  split
  · exact wpAny_bind (wpAny_pure (wpAny_pure fin))
  · exact wpAny_tryCatch (wpAny_bind (wpAny_pure (wpAny_pure fin)))
theorem check_obj {M : Model} {id owner n : String} {rest : List Value} {Q : Unit → Shared → Prop} (hk : builtinKind id = some .slot) (hs : splitId id = some (owner, n)) (ha : argsOk id ⟨.ref x :: rest, []⟩) (X : K.In s.heap) (I : PySem.W.InstAt s.heap x ox C od) (ho : PySem.W.subIn K (.ref C) (.type owner) = some true) (hq : Q () s) :
    wpAny M A (checkBuiltinCall id ⟨.ref x :: rest, []⟩) Q E s := by
  simp only [checkBuiltinCall, hk, hs]
  refine wpAny_bind ?_
  unfold isInstance
  refine wpAny_bind (I.type.here ((PySem.W.looks_subIn X ho).here ?_))
  cases hsig : Manifest.signature? id with
  | none => exact wpAny_pure hq
  | some sig =>
    simp only [argsOk, hsig] at ha
    have h2 : Bind.checkArgs id sig ⟨.ref x :: rest, []⟩ = pure () := ha
    show wpAny M A (Bind.checkArgs id sig ⟨.ref x :: rest, []⟩) Q E _
    rw [h2]
    exact wpAny_pure hq
theorem try_ne (hu : A.units + 1 < cLine) (X : K.In s.heap) (I : PySem.W.InstAt s.heap x ox C od) (hs : PySem.W.findIn K (.ref C) "__eq__" = some (some (.ref f))) (hf : PySem.W.isFn K (.ref f) = true) (hn : PySem.W.findIn K (.ref C) "__ne__" = some (some (.builtin "object.__ne__"))) (ho : PySem.W.subIn K (.ref C) (.type "object") = some true)
    (h : wpAny (model prog w) A.in1 (call (.ref f) [.ref x, b]) (fun v s' => ∃ r, v = .bool r ∧ Q (!r) s') E s) : wpAny (model prog w) A (tryCompare (.ref x) "__ne__" b) (fun r s' => ∃ t, r = some (.bool t) ∧ Q t s') E s := by
  unfold tryCompare
  refine wpAny_bind (ifBound_B X I hn slot_one.bind (wpAny_call (codeAny_call_builtin slot_one.plain F.cmpEntry_ne (check_obj F.cmpKind_ne F.cmpSplit_ne (F.cmpArgs_ne _ _) X I ho ?_))))
  unfold Builtin.«object.__ne__»
  have q := PySem.W.ifBound_K (M := model prog w) (A := A.in1) (args := [b]) (Q := fun r s' => ∃ t, r = some (Value.bool t) ∧ Q (!t) s') X I hs hf (wpAny_mono h (fun v s' hv => by obtain ⟨r, rfl, z⟩ := hv; exact ⟨r, rfl, z⟩) fun _ _ e => e)
  repeat (first | with_reducible refine wpAny_cRoomFor hu ?_ | with_reducible refine wpAny_mono q (fun r s' z => ?_) (fun _ _ e => e) | wp_step)
  obtain ⟨t, rfl, z⟩ := z
  repeat wp_step
  exact ⟨!t, rfl, z⟩
theorem rc_left {op : CmpOp} {tb : Value} (hu : A.units < cLine) (X : K.In s.heap) (I : PySem.W.InstAt s.heap x ox C od) (hb : PySem.W.Looks (model prog w) s.heap (typeOf b) tb) (hn : PySem.W.notFirst K C tb = true)
    (one : wpAny (model prog w) A (tryCompare (.ref x) (cmpInfo op).2.1 b) (fun r s' => ∃ t, r = some (.bool t) ∧ Q t s') E s) : wpAny (model prog w) A (richCompare op (.ref x) b) (fun v s' => ∃ t, v = .bool t ∧ Q t s') E s := by
  unfold richCompare
  simp only [oneThing_ref]
  refine wpAny_holding (wpAny_bind (wpAny_cRoomFor hu ?_))
  refine wpAny_bind (I.type.here (wpAny_bind (hb.here ?_)))
  split
  · rename_i q
    have e : PySem.W.subIn K tb (.ref C) = some false := by
      rcases Bool.or_eq_true_iff.mp hn with e | e
      · rw [beq_iff_eq.mp e] at q
        simp at q
      · exact beq_iff_eq.mp e
    refine wpAny_bind ((PySem.W.looks_subIn X e).here ?_)
    simp only [Bool.false_eq_true, if_false]
    refine wpAny_bind (wpAny_mono one (fun r s' z => ?_) fun _ _ e => e)
    obtain ⟨v, rfl, hq⟩ := z
    exact wpAny_pure ⟨v, rfl, hq⟩
  · refine wpAny_bind (wpAny_pure ?_)
    simp only [Bool.false_eq_true, if_false]
    refine wpAny_bind (wpAny_mono one (fun r s' z => ?_) fun _ _ e => e)
    obtain ⟨v, rfl, hq⟩ := z
    exact wpAny_pure ⟨v, rfl, hq⟩
theorem rc_right {op : CmpOp} {T : String} (hu : A.units < cLine) (X : K.In s.heap) (I : PySem.W.InstAt s.heap x ox C od) (ha : s.TypeIs a T) (hsub : PySem.W.subIn K (.ref C) (.type T) = some false)
    (h1 : wpAny (model prog w) A (tryCompare a (cmpInfo op).2.1 (.ref x)) (fun r s' => r = none ∧ s' = s) E s)
    (one : wpAny (model prog w) A (tryCompare (.ref x) (cmpInfo op).2.2 a) (fun r s' => ∃ t, r = some (.bool t) ∧ Q t s') E s) : wpAny (model prog w) A (richCompare op a (.ref x)) (fun v s' => ∃ t, v = .bool t ∧ Q t s') E s := by
  unfold richCompare
  simp only [ha.oneThing_none]
  refine wpAny_holding (wpAny_bind (wpAny_cRoomFor hu ?_))
  refine wpAny_bind (wpAny_typeOf ha (wpAny_bind (I.type.here ?_)))
  have hne : (Value.type T != Value.ref C) = true := rfl
  simp only [hne, if_true]
  refine wpAny_bind ((PySem.W.looks_subIn X hsub).here ?_)
  simp only [Bool.false_eq_true, if_false, Bool.not_false, if_true]
  refine wpAny_bind (wpAny_mono h1 (fun r s' z => ?_) fun _ _ e => e)
  obtain ⟨rfl, rfl⟩ := z
  refine wpAny_bind (wpAny_mono one (fun r s' z => ?_) fun _ _ e => e)
  obtain ⟨v, rfl, hq⟩ := z
  exact wpAny_pure ⟨v, rfl, hq⟩
/-- what is on the left declines -/
def Dcl (prog : Program) (w : World) (A : Around) (E : Value → Shared → Prop) (s : Shared) (op : CmpOp) (a b : Value) : Prop := wpAny (model prog w) A (tryCompare a (cmpInfo op).2.1 b) (fun r s' => r = none ∧ s' = s) E s
end
section
variable {C : Ct} {P : Pg} {Z : WX} {X : Cx} {pins : List (Addr × Obj)} {σ : L2.St} {H : Hp} {s : Shared} {W : Wd} {S : Store}
/-- a builtin value's type and its refusal of an instance -/
theorem data_dcl (neg : Bool) {x : D} {u : V} {uv : Value} {t : String} {y B dx : Addr} (I : Inv X pins σ H s) (rh : RelH C W H S) (hu : Den C W x u) (ru : RelV u uv) (ht : x.tyName = some t) (hy : InsO s y B dx) (sb : ∀ t ∈ (["NoneType", "bool", "int", "str", "tuple", "list", "dict"] : List String), PySem.W.subIn X.K (.ref B) (.type t) = some false) :
    s.TypeIs uv t ∧ Dcl X.prog X.w X.A X.xe s (if neg then .NotEq else .Eq) uv (.ref y) := by
  have kin := I.kIn
  cases x with
  | non =>
    rw [den_non hu] at ru
    cases ht
    cases (show uv = Value.none from ru)
    refine ⟨rfl, ?_⟩
    cases neg with
    | false => exact wpAny_tryCompare_declines rfl F.slot_NoneType_eq (call_gives F.slot_NoneType_eq rfl F.entry_NoneType_eq (F.args_NoneType_eq_2 _ _) (SeqAt.NoneType___eq___none_ref_0 y) ⟨rfl, rfl, rfl⟩)
    | true => exact wpAny_tryCompare_declines rfl F.slot_NoneType_ne (call_gives F.slot_NoneType_ne rfl F.entry_NoneType_ne (F.args_NoneType_ne_2 _ _) (none_ned y) ⟨rfl, rfl, rfl⟩)
  | bl b =>
    rw [den_bl hu] at ru
    cases ht
    cases (show uv = Value.bool b from ru)
    refine ⟨rfl, ?_⟩
    cases neg with
    | false => exact wpAny_tryCompare_declines rfl F.slot_bool_eq (call_meets F.slot_bool_eq rfl F.entry_int_eq (F.args_int_eq_2 _ _) (bool_eqd b y B dx) ⟨hy, rfl, rfl, rfl⟩)
    | true => exact wpAny_tryCompare_declines rfl F.slot_bool_ne (call_meets F.slot_bool_ne rfl F.entry_int_ne (F.args_int_ne_2 _ _) (bool_ned b y B dx) ⟨hy, rfl, rfl, rfl⟩)
  | int i =>
    rw [den_int hu] at ru
    cases ht
    obtain ⟨tk, rfl⟩ := (show ∃ t, uv = Value.int i t from ru)
    refine ⟨rfl, ?_⟩
    cases neg with
    | false => exact wpAny_tryCompare_declines rfl F.slot_int_eq (call_meets F.slot_int_eq rfl F.entry_int_eq (F.args_int_eq_2 _ _) (int_eqd i tk y B dx) ⟨hy, rfl, rfl, rfl⟩)
    | true => exact wpAny_tryCompare_declines rfl F.slot_int_ne (call_meets F.slot_int_ne rfl F.entry_int_ne (F.args_int_ne_2 _ _) (int_ned i tk y B dx) ⟨hy, rfl, rfl, rfl⟩)
  | str b =>
    rw [den_str hu] at ru
    cases ht
    obtain ⟨tk, rfl⟩ := (show ∃ t, uv = Value.str b t from ru)
    refine ⟨rfl, ?_⟩
    cases neg with
    | false => exact wpAny_tryCompare_declines rfl F.slot_str_eq (call_meets F.slot_str_eq rfl F.entry_str_eq (F.args_str_eq_2 _ _) (str_eqd b tk y B dx) ⟨hy, rfl, rfl, rfl⟩)
    | true => exact wpAny_tryCompare_declines rfl F.slot_str_ne (call_meets F.slot_str_ne rfl F.entry_str_ne (F.args_str_ne_2 _ _) (str_ned b tk y B dx) ⟨hy, rfl, rfl, rfl⟩)
  | lst xs =>
    obtain ⟨a, ys, rfl, _, ha, _⟩ := den_lst hu rh
    cases ht
    cases (show uv = Value.ref a from ru)
    obtain ⟨_, its, n, _, h1⟩ := (show ObjOk X.prog X.w H s.heap a (.lst ys) from I.hok a _ ha)
    refine ⟨⟨_, h1, rfl⟩, ?_⟩
    have e := sb "list" (by decide)
    cases neg with
    | false => exact wpAny_tryCompare_declines ⟨_, h1, rfl⟩ F.slot_list_eq (call_meets F.slot_list_eq ⟨_, h1, rfl⟩ F.entry_list_eq (F.args_list_eq_2 _ _) (list_eqd a _ _ _ _ y B dx e) ⟨⟨h1, hy, kin⟩, rfl, rfl, rfl⟩)
    | true => exact wpAny_tryCompare_declines ⟨_, h1, rfl⟩ F.slot_list_ne (call_meets F.slot_list_ne ⟨_, h1, rfl⟩ F.entry_list_ne (F.args_list_ne_2 _ _) (list_ned a _ _ _ _ y B dx e) ⟨⟨h1, hy, kin⟩, rfl, rfl, rfl⟩)
  | tup xs =>
    obtain ⟨a, ys, rfl, _, ha, _⟩ := den_tup hu rh
    cases ht
    cases (show uv = Value.ref a from ru)
    obtain ⟨_, its, _, o, h1, h2, h3⟩ := (show ObjOk X.prog X.w H s.heap a (.tup ys) from I.hok a _ ha)
    obtain ⟨oc, od, odat, osl⟩ := o
    obtain ⟨m, h3⟩ := h3
    dsimp only at h2 h3
    subst h2 h3
    refine ⟨⟨_, h1, rfl⟩, ?_⟩
    have e := sb "tuple" (by decide)
    cases neg with
    | false => exact wpAny_tryCompare_declines ⟨_, h1, rfl⟩ F.slot_tuple_eq (call_meets F.slot_tuple_eq ⟨_, h1, rfl⟩ F.entry_tuple_eq (F.args_tuple_eq_2 _ _) (tuple_eqd a _ _ _ _ y B dx e) ⟨⟨h1, hy, kin⟩, rfl, rfl, rfl⟩)
    | true => exact wpAny_tryCompare_declines ⟨_, h1, rfl⟩ F.slot_tuple_ne (call_meets F.slot_tuple_ne ⟨_, h1, rfl⟩ F.entry_tuple_ne (F.args_tuple_ne_2 _ _) (tuple_ned a _ _ _ _ y B dx e) ⟨⟨h1, hy, kin⟩, rfl, rfl, rfl⟩)
  | dct ks ds =>
    unfold Den at hu
    obtain ⟨a, vs, rfl, e2, _⟩ := hu
    cases ht
    cases (show uv = Value.ref a from ru)
    obtain ⟨_, _, vs', _, o, es, ep, h1, h2, _⟩ := (show ObjOk X.prog X.w H s.heap a (.dK (ks.zip vs)) from I.hok a _ (rh.g _ _ e2))
    refine ⟨⟨_, h1, h2.1⟩, ?_⟩
    have e := sb "dict" (by decide)
    cases neg with
    | false => exact wpAny_tryCompare_declines ⟨_, h1, h2.1⟩ F.slot_dict_eq (call_meets F.slot_dict_eq ⟨_, h1, h2.1⟩ F.entry_dict_eq (F.args_dict_eq_2 _ _) (dict_eqd a y B dx o h2.1 e) ⟨⟨h1, hy, kin⟩, rfl, rfl, rfl⟩)
    | true => exact wpAny_tryCompare_declines ⟨_, h1, h2.1⟩ F.slot_dict_ne (call_meets F.slot_dict_ne ⟨_, h1, h2.1⟩ F.entry_dict_ne (F.args_dict_ne_2 _ _) (dict_ned a y B dx o h2.1 e) ⟨⟨h1, hy, kin⟩, rfl, rfl, rfl⟩)
  | _ => cases ht
/-- an own == that is asked -/
structure EqR (X : Cx) (C : Ct) (k : Nat) (A f : Addr) (fn : Fn) (F : List D → Store → Out D) : Prop where
  hs : PySem.W.findIn X.K (.ref A) "__eq__" = some (some (.ref f))
  hf : PySem.W.isFn X.K (.ref f) = true
  ne : PySem.W.findIn X.K (.ref A) "__ne__" = some (some (.builtin "object.__ne__"))
  ob : PySem.W.subIn X.K (.ref A) (.type "object") = some true
  go : ∃ fd dU, FnG X.prog X.w X.K X.mg X.base k f fd fn.ps (spD C F) ∧ BindOk X.K fd fn.ps dU 2 []
  len : fn.ps.length = 2
theorem run_gA {k : Nat} {f : Addr} {fd : FuncData} {ps : List Str} {sp : Sp} {Q : VK} {A : Around} {args : Args} {us : List Value} {vs : List V} (F : FnG X.prog X.w X.K X.mg X.base k f fd ps sp) (hr : Room k A) (hg : A.guards = some []) (hfr : A.frames = X.A.frames) (tk : Takes X Z) (I : Inv X pins σ H s)
    (hb : BindsTo s fd args (ps.zip us)) (r : Vals vs us) (hl : vs.length = ps.length) (h : sp vs H Q (WE Z σ)) : wpAny (model X.prog X.w) A (call (.ref f) args.pos args.kw) (EP X pins σ Q) X.xe s := by
  have e0 : Env0 X.prog X.w X.K X.mg X.base A X.stack s H := by
    have e := I.env0
    exact ⟨by rw [hfr]; exact e.frames, e.mod, e.bs, e.bsz, e.funs, e.frf, e.hok, e.bare⟩
  refine wpAny_call (codeAny_mono (F.run A X.stack s H args us vs Q (WE Z σ) hr hg e0 hb r hl h) fun rr s' hq => ?_)
  cases rr with
  | error e => exact passAt tk σ pins H s e s' I hq
  | ok fl =>
    cases fl with
    | ret u => exact I.after hq
    | next => exact False.elim hq
    | brk => exact False.elim hq
    | cont => exact False.elim hq
theorem eq_run {k : Nat} {B f : Addr} {fn : Fn} {F : List D → Store → Out D} {A : Around} (E : EqR X C k B f fn F) (neg : Bool) (hr : Room k A) (hg : A.guards = some []) (hfr : A.frames = X.A.frames) (tk : Takes X Z) (I : Inv X pins σ H s) (rh : RelH C W H S)
    {x y : D} {a : Addr} {v : V} {b : Value} {Q : VK} (dx : Den C W x (.ref a)) (dy : Den C W y v) (rv : RelV v b) (p : PQ C Z σ Q W H (retB neg (F [x, y] S))) :
    wpAny (model X.prog X.w) A (call (.ref f) [.ref a, b]) (fun r s' => ∃ t, r = .bool t ∧ EP X pins σ Q (.bool (if neg then !t else t)) s') X.xe s := by
  obtain ⟨fd, dU, G, hb⟩ := E.go
  have bt := hb s [.ref a, b] [] [.ref a, b] I.kIn rfl rfl (bindG_all _ _ _ (by rw [E.len]; rfl))
  have pp : PQ C Z σ (fun r H1 => ∃ t, r = .bl t ∧ Q (.bl (if neg then !t else t)) H1) W H (F [x, y] S) := by
    refine (Post.bind p).mono ?_
    rintro W1 H1 d ⟨st, S1, rh1, _, p1⟩ w hw
    cases d with
    | bl t => exact ⟨t, den_bl hw, PQ.ok p1 rh1 of_bl⟩
    | _ => exact p1.elim
  refine wpAny_mono (run_gA (Q := fun r H1 => ∃ t, r = .bl t ∧ Q (.bl (if neg then !t else t)) H1) (args := ⟨[.ref a, b], []⟩) (us := [.ref a, b]) (vs := [.ref a, v]) G hr hg hfr tk I bt (.cons (show RelV (.ref a) (.ref a) from rfl) (.cons rv .nil)) (by rw [E.len]; rfl) ⟨W, [x, y], S, rh, DenL.cons dx (DenL.cons dy DenL.nil), pp⟩) (fun r s' z => ?_) fun _ _ e => e
  · obtain ⟨w, H1, I1, rw1, t, rfl, q⟩ := z
    cases (show r = Value.bool t from rw1)
    exact ⟨t, rfl, .bl (if neg then !t else t), H1, I1, rfl, q⟩
/-- the comparison, by data -/
def CmpG (X : Cx) (C : Ct) (Z : WX) (P : Pg) (F : Fs) (op : CmpOp) : Prop := ∀ (pins : List (Addr × Obj)) (s : Shared) (σ : L2.St) (H : Hp) (u v : V) (uv vv : Value) (Q : VK) (W : Wd) (S : Store) (x y : D), Inv X pins σ H s → RelV u uv → RelV v vv → RelH C W H S → Den C W x u → Den C W y v → PQ C Z σ Q W H (cmpD P F op x y S) →
  wpAny (model X.prog X.w) X.A (compareOp op uv vv) (EP X pins σ Q) X.xe s
/-- what is known of the own ones -/
structure EqX (X : Cx) (C : Ct) (P : Pg) (F : Fs) (k : Nat) : Prop where
  r : ∀ c cl j, P.cls[c]? = some cl → cl.kind.pl = true → cl.meths.lookup ("__eq__" : Str) = some j → (∃ fn, EqR X C k (C.ca c) (C.fa j) fn (F.fn j)) ∧
    (∀ t ∈ (["NoneType", "bool", "int", "str", "tuple", "list", "dict"] : List String), PySem.W.notFirst X.K (C.ca c) (.type t) = true ∧ PySem.W.subIn X.K (.ref (C.ca c)) (.type t) = some false) ∧
    ∀ c' cl', P.cls[c']? = some cl' → cl'.kind.pl = true → (c' = c ∨ cl'.anc.contains c = false) → PySem.W.notFirst X.K (C.ca c) (.ref (C.ca c')) = true
theorem eqJ_ok {x : D} {c j : Nat} (h : eqJ P x = some (c, j)) : ∃ ns fs cl, x = .obj c ns fs ∧ P.cls[c]? = some cl ∧ cl.kind.pl = true ∧ cl.meths.lookup ("__eq__" : Str) = some j := by
  unfold eqJ at h
  split at h
  · rename_i c0 ns fs
    split at h
    · rename_i cl e
      split at h
      · rename_i q
        split at h
        · rename_i j0 ej
          cases h
          exact ⟨ns, fs, cl, rfl, e, q, ej⟩
        · cases h
      · cases h
    · cases h
  · cases h
theorem inst_at {x : D} {c : Nat} {ns : List Str} {fs : List D} {u : V} (I : Inv X pins σ H s) (rh : RelH C W H S) (hu : Den C W (.obj c ns fs) u) : ∃ a dx od, u = .ref a ∧ InsO s a (C.ca c) dx ∧ PySem.W.InstAt s.heap a (PySem.W.instObj (C.ca c) dx) (C.ca c) (some od) := by
  unfold Den at hu
  obtain ⟨a, dx, vs, rfl, e2, _⟩ := hu
  obtain ⟨mA, O, _⟩ := ins_get I.hok (rh.g _ _ e2)
  obtain ⟨od, J, _⟩ := O.look
  exact ⟨a, dx, od, rfl, O.obj, J⟩
theorem own_G {F : Fs} {k : Nat} (neg : Bool) (T : EqX X C P F k) (hr : Room (k + 1) X.A) (hg : X.A.guards = some []) (tk : Takes X Z) {u v : V} {uv vv : Value} {Q : VK} {x y : D} (I : Inv X pins σ H s) (ru : RelV u uv) (rv : RelV v vv) (rh : RelH C W H S) (hu : Den C W x u) (hv : Den C W y v) (p : PQ C Z σ Q W H (ownEq P F neg x y S)) :
    wpAny (model X.prog X.w) X.A (richCompare (if neg then .NotEq else .Eq) uv vv) (EP X pins σ Q) X.xe s := by
  have un : X.A.units + 1 < cLine := by
    have := hr.un
    omega
  have fin : ∀ {vv' : Value} {s' : Shared}, (∃ t, vv' = Value.bool t ∧ EP X pins σ Q (.bool t) s') → EP X pins σ Q vv' s' := by
    rintro vv' s' ⟨t, rfl, q⟩
    exact q
  have kin := I.kIn
  unfold ownEq at p
  split at p
  · rename_i c j ej
    split at p
    · rename_i hnf
      obtain ⟨ns, fs, cl, rfl, e1, e2, e3⟩ := eqJ_ok ej
      obtain ⟨⟨fn, E⟩, h2, h3⟩ := T.r c cl j e1 e2 e3
      obtain ⟨a, dx, od, rfl, ho, J⟩ := inst_at (x := .non) I rh hu
      cases (show uv = Value.ref a from ru)
      have tb : ∃ tb, PySem.W.Looks (model X.prog X.w) s.heap (typeOf vv) tb ∧ PySem.W.notFirst X.K (C.ca c) tb = true := by
        unfold nfB at hnf
        split at hnf
        · rename_i c' ns' fs'
          obtain ⟨a', dx', od', rfl, ho', J'⟩ := inst_at (x := .non) I rh hv
          cases (show vv = Value.ref a' from rv)
          split at hnf
          · rename_i cl' e'
            rw [Bool.and_eq_true, Bool.or_eq_true, Bool.not_eq_true', decide_eq_true_eq] at hnf
            exact ⟨_, J'.type, h3 c' cl' e' hnf.1 hnf.2⟩
          · cases hnf
        · obtain ⟨t, ht⟩ := Option.isSome_iff_exists.mp hnf
          obtain ⟨PP, kx, hp, _⟩ := kit_of I rv (scal_ty (K := X.K) rh hv ht)
          exact ⟨_, kx.ty _ _ kin hp, (h2 t (List.contains_iff_mem.mp (tyName_in ht))).1⟩
      obtain ⟨tb, l1, l2⟩ := tb
      cases neg with
      | false =>
        refine wpAny_mono (rc_left (op := .Eq) (Q := fun t s' => EP X pins σ Q (.bool t) s') (by omega) kin J l1 l2 (try_own kin J E.hs E.hf ?_)) (fun _ _ z => fin z) fun _ _ e => e
        exact eq_run E false (hr.mono (by omega)) hg rfl tk I rh hu hv rv p
      | true =>
        refine wpAny_mono (rc_left (op := .NotEq) (Q := fun t s' => EP X pins σ Q (.bool t) s') (by omega) kin J l1 l2 (try_ne un kin J E.hs E.hf E.ne E.ob ?_)) (fun _ _ z => fin z) fun _ _ e => e
        exact eq_run E true hr.in1 hg rfl tk I rh hu hv rv p
    · exact p.elim
  · split at p
    · rename_i hx
      split at p
      · rename_i c j ej
        obtain ⟨ns, fs, cl, rfl, e1, e2, e3⟩ := eqJ_ok ej
        obtain ⟨⟨fn, E⟩, h2, h3⟩ := T.r c cl j e1 e2 e3
        obtain ⟨a, dx, od, rfl, ho, J⟩ := inst_at (x := .non) I rh hv
        cases (show vv = Value.ref a from rv)
        obtain ⟨t, ht⟩ := Option.isSome_iff_exists.mp hx
        have sb := (h2 t (List.contains_iff_mem.mp (tyName_in ht))).2
        obtain ⟨d1, d2⟩ := data_dcl neg I rh hu ru ht ho (fun t ht => (h2 t ht).2)
        cases neg with
        | false =>
          refine wpAny_mono (rc_right (op := .Eq) (Q := fun t s' => EP X pins σ Q (.bool t) s') (by omega) kin J d1 sb d2 (try_own kin J E.hs E.hf ?_)) (fun _ _ z => fin z) fun _ _ e => e
          exact eq_run E false (hr.mono (by omega)) hg rfl tk I rh hv hu ru p
        | true =>
          refine wpAny_mono (rc_right (op := .NotEq) (Q := fun t s' => EP X pins σ Q (.bool t) s') (by omega) kin J d1 sb d2 (try_ne un kin J E.hs E.hf E.ne E.ob ?_)) (fun _ _ z => fin z) fun _ _ e => e
          exact eq_run E true hr.in1 hg rfl tk I rh hv hu ru p
      · exact p.elim
    · exact p.elim
theorem cmp_G {F : Fs} {k : Nat} (op : CmpOp) (hK : X.K = C.K) (T : EqX X C P F k) (hr : Room (k + 1) X.A) (hg : X.A.guards = some []) (tk : Takes X Z) : CmpG X C Z P F op := by
  intro pins s σ H u v uv vv Q W S x y I ru rv rh hu hv p
  have un : X.A.units + 64 < cLine := by
    have := hr.un
    omega
  have plain : PQ C Z σ Q W H (opCmp op x y S) → wpAny (model X.prog X.w) X.A (compareOp op uv vv) (EP X pins σ Q) X.xe s := fun q => op_cmp op un pins s σ H u v uv vv Q I ru rv (rd_cmp op hK W σ H S x y u v Q rh hu hv q)
  unfold cmpD at p
  split at p
  · split at p
    · exact own_G false T hr hg tk I ru rv rh hu hv p
    · exact own_G true T hr hg tk I ru rv rh hu hv p
    · exact plain p
  · exact plain p
variable {a b : Expr} {pos : Pos} {ma mb : Ro → Store → Out D}
def mCmpG (P : Pg) (F : Fs) (op : CmpOp) (ma mb : Ro → Store → Out D) : Ro → Store → Out D := fun ρ S => (ma ρ S).bind fun x S1 => (mb ρ S1).bind fun y S2 => cmpD P F op x y S2
theorem two_run {f : D → D → Store → Out D} {Q : VK} {R : Value → Value → Shared → Prop} (ha : PE X a (tE C Z ma)) (hb : PE X b (tE C Z mb)) (I : Inv X pins σ H s) (h : tE C Z (fun ρ S => (ma ρ S).bind fun x S1 => (mb ρ S1).bind fun y S2 => f x y S2) σ H Q)
    (fin : ∀ u v uv vv s2 H2 W2 S2 x y, Inv X pins σ H2 s2 → RelV u uv → RelV v vv → RelH C W2 H2 S2 → Den C W2 x u → Den C W2 y v → PQ C Z σ Q W2 H2 (f x y S2) → R uv vv s2) :
    wpAny (model X.prog X.w) X.A (eval a X.env) (fun uv s1 => wpAny (model X.prog X.w) X.A (eval b X.env) (fun vv s2 => R uv vv s2) X.xe s1) X.xe s := by
  obtain ⟨W, H0, U, ρ, S, rh, rs, p⟩ := h
  refine thn (ha.run pins s σ H (fun u H1 => ∃ W1 S1 x, Den C W1 x u ∧ RelS C W1 H0 U σ H1 ρ ∧ RelH C W1 H1 S1 ∧ PQ C Z σ Q W1 H1 ((mb ρ S1).bind fun y S2 => f x y S2)) I ⟨W, H0, U, ρ, S, rh, rs, (Post.bind p).mono ?_⟩) fun uv s1 hh => ?_
  · rintro W1 H1 x ⟨st, S1, rh1, _, p1⟩ u hu
    exact ⟨W1, S1, x, hu, rs.step st, rh1, p1⟩
  · obtain ⟨u, H1, I1, r1, W1, S1, x, hu, rs1, rh1, p1⟩ := hh
    refine thn (hb.run pins s1 σ H1 (fun v H2 => ∃ W2 S2 y, Den C W2 x u ∧ Den C W2 y v ∧ RelH C W2 H2 S2 ∧ PQ C Z σ Q W2 H2 (f x y S2)) I1 ⟨W1, H0, U, ρ, S1, rh1, rs1, (Post.bind p1).mono ?_⟩) fun vv s2 hh => ?_
    · rintro W2 H2 y ⟨st2, S2, rh2, _, p2⟩ v hv
      exact ⟨W2, S2, y, Den.ext st2.x _ _ hu, hv, rh2, p2⟩
    · obtain ⟨v, H2, I2, r2, W2, S2, y, hu2, hv, rh2, p2⟩ := hh
      exact fin u v uv vv s2 H2 W2 S2 x y I2 r1 r2 rh2 hu2 hv p2
theorem de_cmpG {F : Fs} (op : CmpOp) (G : CmpG X C Z P F op) (hm : behindInMarks op b = false) (ha : PE X a (tE C Z ma)) (hb : PE X b (tE C Z mb)) : PE X (.Compare a [op] [b] pos) (tE C Z (mCmpG P F op ma mb)) :=
  ⟨fun pins s σ H Q I h => wpAny_Compare1 (two_run ha hb I h fun u v uv vv s2 H2 W2 S2 x y I2 r1 r2 rh2 hu hv p2 => G pins s2 σ H2 u v uv vv Q W2 S2 x y I2 r1 r2 rh2 hu hv p2) hm⟩
theorem cmpD_bl {F : Fs} {op : CmpOp} {x y : D} {S S' : Store} {d : D} (h : cmpD P F op x y S = .ok d S') : ∃ t, d = .bl t := by
  have pl : opCmp op x y S = .ok d S' → ∃ t, d = .bl t := fun q => by
    rcases cmp_cases op x y S with z | ⟨k, z⟩
    · rw [z] at q
      cases q
    · rw [z] at q
      cases q
      exact ⟨k, rfl⟩
  have rb : ∀ (neg : Bool) (o : Out D), retB neg o = .ok d S' → ∃ t, d = .bl t := fun neg o q => by
    unfold retB at q
    cases o with
    | ok r S1 =>
      cases r with
      | bl b =>
        cases q
        exact ⟨_, rfl⟩
      | _ => cases q
    | er _ _ => cases q
    | stk => cases q
  have ow : ∀ neg, ownEq P F neg x y S = .ok d S' → ∃ t, d = .bl t := fun neg q => by
    unfold ownEq at q
    split at q
    · split at q
      · exact rb _ _ q
      · cases q
    · split at q
      · split at q
        · exact rb _ _ q
        · cases q
      · cases q
  unfold cmpD at h
  split at h
  · split at h
    · exact ow _ h
    · exact ow _ h
    · exact pl h
  · exact pl h
theorem dt_cmpG {F : Fs} (op : CmpOp) (G : CmpG X C Z P F op) (hm : behindInMarks op b = false) (ha : PE X a (tE C Z ma)) (hb : PE X b (tE C Z mb)) : PT X (.Compare a [op] [b] pos) (tT C Z fun ρ S => (mCmpG P F op ma mb ρ S).bind truD) := by
  refine ⟨fun pins s σ H Q I h => ?_⟩
  have h := bool_test (C := C) (Z := Z) (m := mCmpG P F op ma mb) (fun ρ S d S' e => by
    unfold mCmpG at e
    cases e1 : ma ρ S with
    | stk =>
      rw [e1] at e
      cases e
    | er _ _ =>
      rw [e1] at e
      cases e
    | ok x S1 =>
      rw [e1] at e
      have e : (mb ρ S1).bind (fun y S2 => cmpD P F op x y S2) = .ok d S' := e
      cases e2 : mb ρ S1 with
      | stk =>
        rw [e2] at e
        cases e
      | er _ _ =>
        rw [e2] at e
        cases e
      | ok y S2 =>
        rw [e2] at e
        exact cmpD_bl e) h
  refine wpAny_isTrue_Compare1 (two_run ha hb I h fun u v uv vv s2 H2 W2 S2 x y I2 r1 r2 rh2 hu hv p2 => ?_) hm
  refine thn (G pins s2 σ H2 u v uv vv _ W2 S2 x y I2 r1 r2 rh2 hu hv p2) fun c s3 ⟨z, H3, I3, r3, k, e, q3⟩ => ?_
  subst e
  cases r3
  exact wpAny_truthy_bool ⟨H3, I3, q3⟩
end
end DL
end
-- DLFs
section
set_option maxHeartbeats 4000000
namespace DL
open PySem PySem.Spec L2
/-! ### texts that are put together, str(x) -/
section
variable {C : Ct} {P : Pg} {Z : WX} {X : Cx} {e : Expr} {es : List Expr} {m : Ro → Store → Out D} {pos p : Pos}
theorem de_fmt (he : PE X e (tE C Z m)) : PE X (.FormattedValue e (-1) none pos) (tE C Z fun ρ S => (m ρ S).bind fmtD) :=
  PE.imp (pe_fmt he) fun σ H Q h => by
    obtain ⟨W, H0, U, ρ, S, rh, rs, p⟩ := h
    refine ⟨W, H0, U, ρ, S, rh, rs, (Post.bind p).mono ?_⟩
    rintro W1 H1 x ⟨st, S1, rh1, _, p1⟩ u hu
    unfold fmtD at p1
    split at p1
    · split at p1
      · rename_i i hi
        rw [den_int hu]
        exact .inr ⟨_, rfl, hi, PQ.ok p1 rh1 of_str⟩
      · exact p1.elim
    · split at p1
      · rename_i s hs
        rw [den_str hu]
        exact .inl ⟨_, rfl, most_line hs, PQ.ok p1 rh1 of_str⟩
      · exact p1.elim
    · exact p1.elim
theorem fst_rd {F : Fs} {σ : L2.St} {Q : VK} {H0 : Hp} {U : List Addr} {ρ : Ro} : ∀ {rs : List RE} {acc : Str} {W : Wd} {H : Hp} {S : Store}, RelH C W H S → RelS C W H0 U σ H ρ → PQ C Z σ Q W H (evJ P F rs acc ρ S) → tJs (rs.map fun r => tE C Z (evE P F r)) acc σ H fun out H1 => Q (.str out) H1
  | [], acc, W, H, S, rh, rs, p => PQ.ok p rh of_str
  | r :: rr, acc, W, H, S, rh, rs, p => by
    refine ⟨W, H0, U, ρ, S, rh, rs, (Post.bind p).mono ?_⟩
    rintro W1 H1 d ⟨st, S1, rh1, _, p1⟩ u hu
    cases d with
    | str y =>
      have p1 : PQ C Z σ Q W1 H1 (if (acc ++ y).length ≤ most then evJ P F rr (acc ++ y) ρ S1 else .stk) := p1
      split at p1
      · rename_i hl
        exact ⟨y, den_str hu, most_line hl, fst_rd rh1 (rs.step st) p1⟩
      · exact p1.elim
    | _ => exact p1.elim
theorem de_fst {F : Fs} {rs : List RE} (hl : 2 ≤ rs.length) (h : PJ X es (rs.map fun r => tE C Z (evE P F r))) : PE X (.JoinedStr es pos) (tE C Z (evE P F (.fst rs))) := by
  match rs, es, h with
  | r1 :: r2 :: rr, e1 :: e2 :: ee, h =>
    exact PE.imp (pe_joined h) fun σ H Q q => by
      obtain ⟨W, H0, U, ρ, S, rh, rs, p⟩ := q
      exact fst_rd rh rs p
  | [], _, _ => exact absurd hl (by simp)
  | [_], _, _ => exact absurd hl (by simp)
  | _ :: _ :: _, [], h => exact nomatch h
  | _ :: _ :: _, [_], h => exact (by cases h with | cons _ r => cases r)
/-- an own __str__ that is asked -/
structure StrR (X : Cx) (C : Ct) (k : Nat) (A f : Addr) (fn : Fn) (F : List D → Store → Out D) : Prop where
  hs : PySem.W.findIn X.K (.ref A) "__str__" = some (some (.ref f))
  hf : PySem.W.isFn X.K (.ref f) = true
  go : ∃ fd dU, FnG X.prog X.w X.K X.mg X.base k f fd fn.ps (spD C F) ∧ BindOk X.K fd fn.ps dU 1 []
  len : fn.ps.length = 1
def StrX (X : Cx) (C : Ct) (P : Pg) (F : Fs) (k : Nat) : Prop := ∀ c cl j, P.cls[c]? = some cl → cl.kind.pl = true → cl.meths.lookup ("__str__" : Str) = some j → ∃ fn, StrR X C k (C.ca c) (C.fa j) fn (F.fn j)
theorem specJ_ok {x : D} {m : Str} {c j : Nat} (h : specJ P x m = some (c, j)) : ∃ ns fs cl, x = .obj c ns fs ∧ P.cls[c]? = some cl ∧ cl.kind.pl = true ∧ cl.meths.lookup m = some j := by
  unfold specJ at h
  split at h
  · rename_i c0 ns fs
    split at h
    · rename_i cl e
      split at h
      · rename_i q
        split at h
        · rename_i j0 ej
          cases h
          exact ⟨ns, fs, cl, rfl, e, q, ej⟩
        · cases h
      · cases h
    · cases h
  · cases h
theorem de_strO {F : Fs} {k : Nat} (T : StrX X C P F k) (hr : Room (k + 2) X.A) (hg : X.A.guards = some []) (tk : Takes X Z) (hgl : Gl X "str") (hm : X.mg "str" = none) (hst : ∀ x p, e ≠ .Starred x p) (he : PE X e (tE C Z m)) :
    PE X (.Call (.Name "str" p) [e] [] pos) (tE C Z fun ρ S => (m ρ S).bind fun x S1 => strD P F x S1) := by
  refine ⟨fun pins s σ H Q I h => ?_⟩
  obtain ⟨W, H0, U, ρ, S, rh, rs, pp⟩ := h
  refine wpAny_Call_Name_kw (ld_blt (u := .type "str") I hgl hm (by decide +kernel) ?_ (by decide) (by decide))
  have ha : PA X [e] (tCons (tE C Z m) tNil) := pa_cons he pa_nil (star_of hst)
  refine PyProof.Rows.callWith_type1 (thn (ha.run pos pins s σ H (fun us H1 => ∃ u W1 S1 x, us = [u] ∧ Den C W1 x u ∧ RelH C W1 H1 S1 ∧ PQ C Z σ Q W1 H1 (strD P F x S1)) I ?_) fun us s1 hh => ?_) (star_of hst) rfl
  · refine ⟨W, H0, U, ρ, S, rh, rs, (Post.bind pp).mono ?_⟩
    rintro W1 H1 x ⟨st, S1, rh1, _, p1⟩ u hu
    exact ⟨u, W1, S1, x, rfl, hu, rh1, p1⟩
  · obtain ⟨vs, H1, I1, r1, u, W1, S1, x, rfl, hu, rh1, p1⟩ := hh
    obtain ⟨uv, rfl, ru⟩ := vals1 r1
    cases x with
    | int i =>
      have p1 : PQ C Z σ Q W1 H1 (if i.natAbs.log2 < 1920 then .ok (.str (Str.ofString (toString i))) S1 else .stk) := p1
      split at p1
      · rename_i hi
        rw [den_int hu] at ru
        exact call_str_int pins s1 σ H1 [.int i] [uv] Q I1 (.cons ru .nil) ⟨i, rfl, hi, PQ.ok p1 rh1 of_str⟩
      · exact p1.elim
    | str t =>
      rw [den_str hu] at ru
      exact SkE.call_str_str pins s1 σ H1 [.str t] [uv] Q I1 (.cons ru .nil) ⟨t, rfl, PQ.ok p1 rh1 of_str⟩
    | obj c ns fs =>
      have p1 : PQ C Z σ Q W1 H1 (match specJ P (.obj c ns fs) "__str__" with
        | some (_, j) => retS (F.fn j [.obj c ns fs] S1)
        | none => .stk) := p1
      split at p1
      · rename_i c' j ej
        obtain ⟨ns', fs', cl, ee, e1, e2, e3⟩ := specJ_ok ej
        cases ee
        obtain ⟨fn, E⟩ := T c cl j e1 e2 e3
        obtain ⟨a, dx, od, rfl, ho, J⟩ := inst_at (x := .non) I1 rh1 hu
        cases (show uv = Value.ref a from ru)
        have un := hr.un
        refine PySem.W.kso_call (by show X.A.units + 1 + 1 < cLine; omega) I1.kIn J E.hs E.hf ?_
        obtain ⟨fd, dU, G, hb⟩ := E.go
        have bt := hb s1 [.ref a] [] [.ref a] I1.kIn rfl rfl (bindG_all _ _ _ (by rw [E.len]; rfl))
        have pq : PQ C Z σ (fun r H2 => ∃ t, r = .str t ∧ Q (.str t) H2) W1 H1 (F.fn j [.obj c ns fs] S1) := by
          refine (Post.bind p1).mono ?_
          rintro W2 H2 d ⟨st, S2, rh2, _, p2⟩ w hw
          cases d with
          | str t => exact ⟨t, den_str hw, PQ.ok p2 rh2 of_str⟩
          | _ => exact p2.elim
        refine wpAny_mono (run_gA (Q := fun r H2 => ∃ t, r = .str t ∧ Q (.str t) H2) (args := ⟨[.ref a], []⟩) (us := [.ref a]) (vs := [.ref a]) G hr.in1.in1 hg rfl tk I1 bt (.cons (show RelV (.ref a) (.ref a) from rfl) .nil) (by rw [E.len]; rfl) ⟨W1, [.obj c ns fs], S1, rh1, DenL.cons hu DenL.nil, pq⟩) (fun r s' z => ?_) fun _ _ e => e
        obtain ⟨w, H2, I2, rw2, t, rfl, q⟩ := z
        obtain ⟨tk2, rfl⟩ := (show ∃ tk2, r = Value.str t tk2 from rw2)
        exact ⟨.str t, H2, I2, ⟨tk2, rfl⟩, q⟩
      · exact p1.elim
    | _ => exact p1.elim
end
end DL
end
-- DLB1
section
set_option maxHeartbeats 4000000
namespace DL
open PySem PySem.Spec L2
/-! ### self.f while the instance is made; range(a, b); reversed; while -/
section
variable {C : Ct} {P : Pg} {Z : WX} {X : Cx} {e a b : Expr} {es : List Expr} {m ma mb : Ro → Store → Out D} {pos p p' : Pos}
def mSf (ok : Nat → Str → Bool) (f : Str) : Ro → Store → Out D := fun ρ S => match (ρ[0]? : Option (Option Sl)) with
    | some (some (.owI c ns ds)) => if ok c f then (match lk2 ns ds f with
      | some d => .ok d S
      | none => .stk) else .stk
    | _ => .stk
theorem de_sfld {x f : Str} {ok : Nat → Str → Bool} (hok : ∀ c f, ok c f = true → FldOk X.K C c f) (hi : X.N[0]? = some x) (hv : Vis X.env.scope x) (hd : (x == ("__debug__" : Str)) = false) (hcd : (x == ("__classdict__" : Str)) = false) :
    PE X (.Attribute (.Name x p) f pos) (tE C Z (mSf ok f)) :=
  PE.imp (pe_fld (pe_slot hi hv hd hcd) rfl) fun σ H Q h => by
    obtain ⟨W, H0, U, ρ, S, rh, rs, q⟩ := h
    unfold mSf at q
    split at q
    · rename_i c ns ds e
      obtain ⟨v, ev, a, dx, vs, rfl, ha, hl, dl, fr⟩ := rs.sl 0 _ e
      split at q
      · rename_i ho
        split at q
        · rename_i d hd
          obtain ⟨w, h1, h2⟩ := lk2_zip f ns ds vs hl dl hd
          obtain ⟨k1, k2⟩ := hok c f ho
          exact ⟨_, ev, a, _, dx, _, w, rfl, ha, k1, k2, h1, PQ.ok q rh h2⟩
        · exact q.elim
      · exact q.elim
    · exact q.elim
theorem rng_b {a b : Int} (h : a < 2 ^ 60 ∧ -(2 ^ 60) < a ∧ b < 2 ^ 60 ∧ -(2 ^ 60) < b) : -(2 ^ 62) ≤ a ∧ a < 2 ^ 62 ∧ -(2 ^ 62) ≤ b ∧ b < 2 ^ 62 := by
  have e62 : (2 : Int) ^ 62 = 4611686018427387904 := by decide
  have e60 : (2 : Int) ^ 60 = 1152921504606846976 := by decide
  rw [e60] at h
  rw [e62]
  omega
theorem rngD_ok {x y : D} {S S' : Store} {xs : List D} (h : rngD x y S = .ok xs S') : ∃ a b, x = .int a ∧ y = .int b ∧ (a < 2 ^ 60 ∧ -(2 ^ 60) < a ∧ b < 2 ^ 60 ∧ -(2 ^ 60) < b) ∧ S' = S ∧ xs = (List.range (b - a).toNat).map fun k : Nat => D.int (a + k) := by
  unfold rngD at h
  split at h
  · rename_i a b
    split at h
    · rename_i hb
      cases h
      exact ⟨a, b, rfl, rfl, hb, rfl, rfl⟩
    · cases h
  · cases h
theorem rngD_ne {x y : D} {S S' : Store} {e : D} (h : rngD x y S = .er e S') : False := by
  unfold rngD at h
  split at h
  · split at h <;> cases h
  · cases h
/-- list(range(a, b)) -/
def mLr (ma mb : Ro → Store → Out D) : Ro → Store → Out D := fun ρ S => (ma ρ S).bind fun x S1 => (mb ρ S1).bind fun y S2 => (rngD x y S2).bind fun xs S3 => if xs.length ≤ most then .ok (.lst xs) S3 else .stk
theorem denL_rg {W : Wd} (a b : Int) : DenL C W ((List.range (b - a).toNat).map fun k : Nat => D.int (a + k)) (rgV a b) := by
  unfold rgV
  generalize (List.range (b - a).toNat) = l
  induction l with
  | nil => exact DenL.nil
  | cons k r ih => exact DenL.cons of_int ih
theorem lr_fin {σ : L2.St} {W2 : Wd} {H2 : Hp} {S2 : Store} {x y : D} {Q : VK} (rh2 : RelH C W2 H2 S2) (p2 : PQ C Z σ Q W2 H2 ((rngD x y S2).bind fun xs S3 => if xs.length ≤ most then .ok (.lst xs) S3 else .stk)) :
    ∃ i j, x = .int i ∧ y = .int j ∧ RgOk i j ∧ ∀ q, H2 q = none → Q (.ref q) (upd H2 q (.lst (rgV i j))) := by
  cases hr : rngD x y S2 with
  | stk =>
    rw [hr] at p2
    exact p2.elim
  | er e S3 => exact (rngD_ne hr).elim
  | ok xs S3 =>
    rw [hr] at p2
    obtain ⟨i, j, rfl, rfl, hb, rfl, rfl⟩ := rngD_ok hr
    have p2 : PQ C Z σ Q W2 H2 (if ((List.range (j - i).toNat).map fun k : Nat => D.int (i + k)).length ≤ most then .ok (.lst ((List.range (j - i).toNat).map fun k : Nat => D.int (i + k))) S3 else .stk) := p2
    split at p2
    · rename_i hl
      rw [List.length_map, List.length_range] at hl
      obtain ⟨b1, b2, b3, b4⟩ := rng_b hb
      have hm : most = 1000000 := rfl
      refine ⟨i, j, rfl, rfl, ⟨b1, b2, b3, b4, by omega⟩, fun q nq => PQ.new p2 rh2 nq (lst_new (rh2.fresh nq).1 (denL_rg i j))⟩
    · exact p2.elim
theorem de_lrng {lp rp : Pos} (hc : X.calm = true) (hgl : Gl X "list") (hml : X.mg "list" = none) (hg : Gl X "range") (hm : X.mg "range" = none) (sa : ∀ x p, a ≠ .Starred x p) (sb : ∀ x p, b ≠ .Starred x p) (ha : PE X a (tE C Z ma)) (hb : PE X b (tE C Z mb)) :
    PE X (.Call (.Name "list" lp) [.Call (.Name "range" rp) [a, b] [] p'] [] pos) (tE C Z (mLr ma mb)) :=
  PE.imp (pe_listRg hc hgl hml (prg_2 hg hm ha hb (star_of sa) (star_of sb) (by rw [star_of sb]; rfl)) (star_of fun _ _ z => nomatch z)) fun σ H Q h => by
    obtain ⟨W, H0, U, ρ, S, rh, rs, pp⟩ := h
    refine ⟨W, H0, U, ρ, S, rh, rs, (Post.bind pp).mono ?_⟩
    rintro W1 H1 x ⟨st, S1, rh1, _, p1⟩ u hu
    refine ⟨W1, H0, U, ρ, S1, rh1, rs.step st, (Post.bind p1).mono ?_⟩
    rintro W2 H2 y ⟨st2, S2, rh2, _, p2⟩ v hv
    obtain ⟨i, j, rfl, rfl, ok, q⟩ := lr_fin rh2 p2
    exact ⟨i, j, den_int hu, den_int hv, ok, q⟩
theorem de_lrng1 {lp rp : Pos} (hc : X.calm = true) (hgl : Gl X "list") (hml : X.mg "list" = none) (hg : Gl X "range") (hm : X.mg "range" = none) (sb : ∀ x p, b ≠ .Starred x p) (hb : PE X b (tE C Z mb)) :
    PE X (.Call (.Name "list" lp) [.Call (.Name "range" rp) [b] [] p'] [] pos) (tE C Z fun ρ S => (mb ρ S).bind fun y S2 => (rngD (.int 0) y S2).bind fun xs S3 => if xs.length ≤ most then .ok (.lst xs) S3 else .stk) :=
  PE.imp (pe_listRg hc hgl hml (prg_1 hg hm hb (star_of sb)) (star_of fun _ _ z => nomatch z)) fun σ H Q h => by
    obtain ⟨W, H0, U, ρ, S, rh, rs, pp⟩ := h
    refine ⟨W, H0, U, ρ, S, rh, rs, (Post.bind pp).mono ?_⟩
    rintro W2 H2 y ⟨st2, S2, rh2, _, p2⟩ v hv
    obtain ⟨i, j, e1, rfl, ok, q⟩ := lr_fin rh2 p2
    cases e1
    exact ⟨j, den_int hv, ok, q⟩
/-- xs[::-1] of a list -/
theorem denL_rev {W : Wd} : ∀ {ds : List D} {vs : List V}, DenL C W ds vs → DenL C W ds.reverse vs.reverse
  | [], vs, h => by
    unfold DenL at h
    rw [h]
    exact DenL.nil
  | d :: ds, vs, h => by
    unfold DenL at h
    obtain ⟨v, r, rfl, e2, e3⟩ := h
    rw [List.reverse_cons, List.reverse_cons]
    exact (denL_rev e3).append (DenL.cons e2 DenL.nil)
/-! ### comprehensions over range(a, b) -/
section
variable {i : Nat} {mc : Ro → Store → Out Bool} {me : Ro → Store → Out D} {elt : Expr} {ifs : List Expr} {scope : Scope} {x : Str} {rp : Pos}
def mLc2 (i : Nat) (ma mb : Ro → Store → Out D) (mc : Ro → Store → Out Bool) (me : Ro → Store → Out D) : Ro → Store → Out D := fun ρ S => (ma ρ S).bind fun x S1 => (mb ρ S1).bind fun y S2 => (rngD x y S2).bind fun xs S2 => lcD (fun d S3 => lcF i mc me ρ d S3) xs [] S2
theorem lc2_rd {σ : L2.St} {H : Hp} {Q : VK} (h : tE C Z (mLc2 i ma mb mc me) σ H Q) : iRng2 (tCons (tE C Z ma) (tCons (tE C Z mb) tNil)) σ H fun J H1 => ∀ D, H1 D = none → ∃ W : Nat → Nat → Hp → Prop, (∃ m, W 0 m (upd H1 D (.lst []))) ∧ ∀ k m H, W k m H →
      (J.stop k H ∧ Q (.ref D) H) ∨ (J.go k H ∧ ∃ Nx : Hp → Prop, (∀ H', Nx H' → ∃ m', m' < m ∧ W (k + 1) m' H') ∧ ∀ x H', J.yld k H x H' → gName i x (wipe σ [i]) H' fun σ2 H2 => wipe σ2 [i] = wipe σ [i] ∧ tT C Z0 mc σ2 H2 fun b H3 =>
        if b = true then tE C Z0 me σ2 H3 fun y H4 => ∃ acc, H4 D = some (.lst acc) ∧ acc.length < sizeLine ∧ Nx (upd H4 D (.lst (acc ++ [y]))) else Nx H3) := by
  obtain ⟨W, H0, U, ρ, S, rh, rs, pp⟩ := h
  refine ⟨W, H0, U, ρ, S, rh, rs, (Post.bind pp).mono ?_⟩
  rintro W1 H1 x ⟨st, S1, rh1, _, p1⟩ u hu
  refine ⟨W1, H0, U, ρ, S1, rh1, rs.step st, (Post.bind p1).mono ?_⟩
  rintro W2 H2 y ⟨st2, S2, rh2, _, p2⟩ v hv
  cases hr : rngD x y S2 with
  | stk =>
    rw [hr] at p2
    exact p2.elim
  | er e S3 => exact (rngD_ne hr).elim
  | ok xs S3 =>
    rw [hr] at p2
    obtain ⟨a, b, rfl, rfl, hb, rfl, rfl⟩ := rngD_ok hr
    rw [den_int hu, den_int hv]
    have p2 : PQ C Z σ Q W2 H2 (lcD (fun d S3 => lcF i mc me ρ d S3) ((List.range (b - a).toNat).map fun k : Nat => D.int (a + k)) [] S3) := p2
    refine ⟨a, b, rfl, rng_b hb, fun Dn hD => lc_range (lo := a) (n := (b - a).toNat) (fun k H => LcT C Z σ Q W2 H2 Dn (lcF i mc me ρ) ((List.range (b - a).toNat).map fun k : Nat => D.int (a + k)) k H) (lc_start rh2 hD p2) (fun k H' hk t => ?_) (fun H' t => lc_done (by simp) t)⟩
    exact lc_turn (d := .int (a + k)) ((rs.step st).step st2) (by simp [hk]) of_int t
theorem pa_two (sa : ∀ x p, a ≠ .Starred x p) (sb : ∀ x p, b ≠ .Starred x p) (ha : PE X a (tE C Z ma)) (hb : PE X b (tE C Z mb)) : PA X [a, b] (tCons (tE C Z ma) (tCons (tE C Z mb) tNil)) := pa_cons ha (pa_cons hb pa_nil (star_of sb)) (star_of sa)
theorem de_lc2 (L : LcB X C scope i x p ifs elt mc me) (hg : Gl X "range") (hm : X.mg "range" = none) (sa : ∀ x p, a ≠ .Starred x p) (sb : ∀ x p, b ≠ .Starred x p) (ha : PE X a (tE C Z ma)) (hb : PE X b (tE C Z mb)) :
    PE X (.ListComp elt [⟨.Name x p, .Call (.Name "range" rp) [a, b] [] p', ifs, 0⟩] scope pos) (tE C Z (mLc2 i ma mb mc me)) :=
  PE.imp (pe_lc L.calm L.nd (pi_range2 hg hm (pa_two sa sb ha hb) (by rw [star_of sa, star_of sb]; rfl) (star_of sb)) L.ok L.g L.t L.e) fun σ H Q h => lc2_rd h
variable {W0 : Wd} {H0 : Hp} {U : List Addr} {k : Nat} {y : Str} {py spos : Pos}
theorem ss_lc2 (L : LcB X C scope i x p ifs elt mc me) (Y : LcY X k y py scope pos) (hg : Gl X "range") (hm : X.mg "range" = none) (sa : ∀ x p, a ≠ .Starred x p) (sb : ∀ x p, b ≠ .Starred x p) (ha : PE X a (tE C Z ma)) (hb : PE X b (tE C Z mb)) :
    PS X (.Assign [.Name y py] (.ListComp elt [⟨.Name x p, .Call (.Name "range" rp) [a, b] [] p', ifs, 0⟩] scope pos) spos) (tS C Z W0 H0 U fun ρ S => (mLc2 i ma mb mc me ρ S).then ρ fun d S1 => .nx (ρ.set k (some (.sh d))) S1) :=
  PS.imp (ps_setLc L.calm L.nd Y.hy Y.loc (sw_true Y.knd Y.loc Y.line Y.no) (pi_range2 hg hm (pa_two sa sb ha hb) (by rw [star_of sa, star_of sb]; rfl) (star_of sb)) L.ok L.g L.t L.e) fun E σ H h => lc2_rd (exp_rd (k := fun d S1 ρ => .nx (ρ.set k (some (.sh d))) S1) h fun W1 H1 S1 ρ d v s1 r1 rs1 hv q => q _ W1 H1 s1 (Ext.refl _) r1 (rs1.sh hv))
end
/-! ### calls of one argument -/
theorem intsD_ok : ∀ {xs : List D} {ns : List Int}, intsD xs = some ns → xs = ns.map D.int
  | [], ns, h => by
    unfold intsD at h
    cases h
    rfl
  | x :: xs, ns, h => by
    cases x <;> simp only [intsD] at h
    case int i =>
      split at h
      · rename_i s e
        cases h
        rw [List.map_cons, intsD_ok e]
      · cases h
    all_goals cases h
theorem bolsD_ok : ∀ {xs : List D} {ns : List Bool}, bolsD xs = some ns → xs = ns.map D.bl
  | [], ns, h => by
    unfold bolsD at h
    cases h
    rfl
  | x :: xs, ns, h => by
    cases x <;> simp only [bolsD] at h
    case bl i =>
      split at h
      · rename_i s e
        cases h
        rw [List.map_cons, bolsD_ok e]
      · cases h
    all_goals cases h
theorem denL_ints {W : Wd} : ∀ {ns : List Int} {vs : List V}, DenL C W (ns.map D.int) vs → vs = ns.map V.int
  | [], vs, h => by
    unfold DenL at h
    exact h
  | n :: ns, vs, h => by
    unfold DenL at h
    obtain ⟨v, r, rfl, e2, e3⟩ := h
    rw [List.map_cons, den_int e2, denL_ints e3]
theorem denL_bols {W : Wd} : ∀ {ns : List Bool} {vs : List V}, DenL C W (ns.map D.bl) vs → vs = ns.map V.bl
  | [], vs, h => by
    unfold DenL at h
    exact h
  | n :: ns, vs, h => by
    unfold DenL at h
    obtain ⟨v, r, rfl, e2, e3⟩ := h
    rw [List.map_cons, den_bl e2, denL_bols e3]
theorem of_ints {W : Wd} : ∀ {ns : List Int}, DenL C W (ns.map D.int) (ns.map V.int)
  | [] => DenL.nil
  | n :: ns => DenL.cons of_int of_ints
theorem onI_ok {f : List Int → Option D} {x : D} {S : Store} {σ : L2.St} {W : Wd} {H : Hp} {Q : VK} {u : V} (rh : RelH C W H S) (hu : Den C W x u) (p : PQ C Z σ Q W H (onI f x S)) : ∃ a ns d, u = .ref a ∧ W.G a = some (.lst (ns.map V.int)) ∧ H a = some (.lst (ns.map V.int)) ∧ f ns = some d ∧ PQ C Z σ Q W H (.ok d S) := by
  unfold onI at p
  split at p
  · rename_i xs
    split at p
    · rename_i ns e
      split at p
      · rename_i d ed
        obtain ⟨a, ys, rfl, ga, ha, dl⟩ := den_lst hu rh
        rw [intsD_ok e] at dl
        rw [denL_ints dl] at ga ha
        exact ⟨a, ns, d, rfl, ga, ha, ed, p⟩
      · exact p.elim
    · exact p.elim
  · exact p.elim
theorem onB_ok {f : List Bool → Bool} {x : D} {S : Store} {σ : L2.St} {W : Wd} {H : Hp} {Q : VK} {u : V} (rh : RelH C W H S) (hu : Den C W x u) (p : PQ C Z σ Q W H (onB f x S)) : ∃ a bs, u = .ref a ∧ H a = some (.lst (bs.map V.bl)) ∧ PQ C Z σ Q W H (.ok (.bl (f bs)) S) := by
  unfold onB at p
  split at p
  · rename_i xs
    split at p
    · rename_i bs e
      obtain ⟨a, ys, rfl, ga, ha, dl⟩ := den_lst hu rh
      rw [bolsD_ok e] at dl
      rw [denL_bols dl] at ga ha
      exact ⟨a, bs, rfl, ha, p⟩
    · exact p.elim
  · exact p.elim
/-! sorted -/
theorem insI_perm (x : Int) : ∀ xs, (insI x xs).Perm (x :: xs)
  | [] => List.Perm.refl _
  | y :: ys => by
    unfold insI
    split
    · exact List.Perm.refl _
    · exact ((insI_perm x ys).cons y).trans (List.Perm.swap x y ys)
theorem sortI_perm : ∀ xs, (sortI xs).Perm xs
  | [] => List.Perm.refl _
  | x :: xs => (insI_perm x _).trans ((sortI_perm xs).cons x)
theorem insI_srt (x : Int) : ∀ xs, xs.Pairwise (· ≤ ·) → (insI x xs).Pairwise (· ≤ ·)
  | [], _ => by simp [insI]
  | y :: ys, h => by
    unfold insI
    split
    · rename_i hx
      refine List.Pairwise.cons (fun z hz => ?_) h
      rcases List.mem_cons.mp hz with e | e
      · rw [e]
        exact hx
      · exact Int.le_trans hx (List.rel_of_pairwise_cons h e)
    · rename_i hx
      refine List.Pairwise.cons (fun z hz => ?_) (insI_srt x ys (List.Pairwise.of_cons h))
      rcases List.mem_cons.mp ((insI_perm x ys).mem_iff.mp hz) with e | e
      · rw [e]
        omega
      · exact List.rel_of_pairwise_cons h e
theorem sortI_srt : ∀ xs, (sortI xs).Pairwise (· ≤ ·)
  | [] => List.Pairwise.nil
  | x :: xs => insI_srt x _ (sortI_srt xs)
theorem srt_unique {xs ys : List Int} (hp : xs.Perm ys) (hx : xs.Pairwise (· ≤ ·)) (hy : ys.Pairwise (· ≤ ·)) : xs = ys :=
  hp.eq_of_pairwise (fun a b _ _ h1 h2 => Int.le_antisymm h1 h2) hx hy
theorem foldl_max (xs : List Int) : ∀ x, (xs.foldl (fun a b => if b > a then b else a) x ∈ x :: xs) ∧ ∀ y ∈ x :: xs, y ≤ xs.foldl (fun a b => if b > a then b else a) x := by
  induction xs with
  | nil =>
    intro x
    refine ⟨List.mem_cons_self .., fun y hy => ?_⟩
    rw [List.mem_singleton.mp hy]
    exact Int.le_refl _
  | cons z zs ih =>
    intro x
    rw [List.foldl_cons]
    obtain ⟨h1, h2⟩ := ih (if z > x then z else x)
    refine ⟨?_, fun y hy => ?_⟩
    · rcases List.mem_cons.mp h1 with e | e
      · rw [e]
        split <;> simp
      · exact List.mem_cons_of_mem _ (List.mem_cons_of_mem _ e)
    · have h0 := h2 _ (List.mem_cons_self ..)
      have h3 : x ≤ (if z > x then z else x) ∧ z ≤ (if z > x then z else x) := by
        split <;> omega
      rcases List.mem_cons.mp hy with e | e
      · subst e
        exact Int.le_trans h3.1 h0
      · rcases List.mem_cons.mp e with e | e
        · subst e
          exact Int.le_trans h3.2 h0
        · exact h2 y (List.mem_cons_of_mem _ e)
theorem foldl_min (xs : List Int) : ∀ x, (xs.foldl (fun a b => if b < a then b else a) x ∈ x :: xs) ∧ ∀ y ∈ x :: xs, xs.foldl (fun a b => if b < a then b else a) x ≤ y := by
  induction xs with
  | nil =>
    intro x
    refine ⟨List.mem_cons_self .., fun y hy => ?_⟩
    rw [List.mem_singleton.mp hy]
    exact Int.le_refl _
  | cons z zs ih =>
    intro x
    rw [List.foldl_cons]
    obtain ⟨h1, h2⟩ := ih (if z < x then z else x)
    refine ⟨?_, fun y hy => ?_⟩
    · rcases List.mem_cons.mp h1 with e | e
      · rw [e]
        split <;> simp
      · exact List.mem_cons_of_mem _ (List.mem_cons_of_mem _ e)
    · have h0 := h2 _ (List.mem_cons_self ..)
      have h3 : (if z < x then z else x) ≤ x ∧ (if z < x then z else x) ≤ z := by
        split <;> omega
      rcases List.mem_cons.mp hy with e | e
      · subst e
        exact Int.le_trans h0 h3.1
      · rcases List.mem_cons.mp e with e | e
        · subst e
          exact Int.le_trans h0 h3.2
        · exact h2 y (List.mem_cons_of_mem _ e)
theorem maxL_ok {ns : List Int} (h : ns ≠ []) : maxL ns ∈ ns ∧ ∀ y ∈ ns, y ≤ maxL ns := by
  cases ns with
  | nil => exact absurd rfl h
  | cons x xs => exact foldl_max xs x
theorem minL_ok {ns : List Int} (h : ns ≠ []) : minL ns ∈ ns ∧ ∀ y ∈ ns, minL ns ≤ y := by
  cases ns with
  | nil => exact absurd rfl h
  | cons x xs => exact foldl_min xs x
end
end DL
end
-- DLB2
section
set_option maxHeartbeats 4000000
namespace DL
open PySem PySem.Spec L2
/-! ### own special methods -/
section
variable {C : Ct} {P : Pg} {Z : WX} {X : Cx} {e : Expr} {es : List Expr} {m : Ro → Store → Out D} {pos p : Pos} {pins : List (Addr × Obj)} {σ : L2.St} {H : Hp} {s : Shared} {W : Wd} {S : Store}
structure SpR (X : Cx) (C : Ct) (k : Nat) (A f : Addr) (m : Str) (n : Nat) (fn : Fn) (F : List D → Store → Out D) : Prop where
  hs : PySem.W.findIn X.K (.ref A) m = some (some (.ref f))
  hf : PySem.W.isFn X.K (.ref f) = true
  go : ∃ fd dU, FnG X.prog X.w X.K X.mg X.base k f fd fn.ps (spD C F) ∧ BindOk X.K fd fn.ps dU n []
  len : fn.ps.length = n
def SpX (X : Cx) (C : Ct) (P : Pg) (F : Fs) (k : Nat) (m : Str) (n : Nat) : Prop := ∀ c cl j, P.cls[c]? = some cl → cl.kind.pl = true → cl.meths.lookup m = some j → ∃ fn, SpR X C k (C.ca c) (C.fa j) m n fn (F.fn j)
theorem run_sp {A : Around} {k n : Nat} {B f : Addr} {mm : Str} {fn : Fn} {F : List D → Store → Out D} {Q : VK} {us : List Value} {vs : List V} {ds : List D} (E : SpR X C k B f mm n fn F) (hr : Room k A) (hg : A.guards = some []) (hfr : A.frames = X.A.frames) (tk : Takes X Z) (I : Inv X pins σ H s) (rh : RelH C W H S)
    (dl : DenL C W ds vs) (r : Vals vs us) (hl : ds.length = n) (p : PQ C Z σ Q W H (F ds S)) : wpAny (model X.prog X.w) A (call (.ref f) us) (EP X pins σ Q) X.xe s := by
  obtain ⟨fd, dU, G, hb⟩ := E.go
  have l1 : us.length = n := by rw [← r.length, ← dl.length, hl]
  have bt := hb s us [] us I.kIn l1 rfl (bindG_all _ _ _ (by rw [E.len, l1]))
  exact run_gA (args := ⟨us, []⟩) G hr hg hfr tk I bt r (by rw [E.len, r.length, l1]) ⟨W, ds, S, rh, dl, p⟩
theorem len_own {prog : Program} {w : World} {A : Around} {E : Value → Shared → Prop} {s : Shared} {K : PySem.W.Frag} {x B f : Addr} {ox : Obj} {od : Option Obj} {Q : Value → Shared → Prop} (X : K.In s.heap) (I : PySem.W.InstAt s.heap x ox B od) (hs : PySem.W.findIn K (.ref B) "__len__" = some (some (.ref f))) (hf : PySem.W.isFn K (.ref f) = true)
    (h : wpAny (model prog w) A.in1 (call (.ref f) [.ref x]) (PySem.W.LenBack Q) E s) : wpAny (model prog w) A (call (.builtin "len") [.ref x]) Q E s := by
  refine Calls.call_function_entry PySem.kind_len PySem.plain_len PySem.entry_len (PySem.args_len1 _) ?_
  unfold Builtin.«len»
  refine wpAny_bind (m := oneArg "len" _) (wpAny_pure ?_)
  refine wpAny_bind (m := callSpecial? (.ref x) (Str.ofString "__len__")) (PySem.W.special_fn X I hs (beq_iff_eq.mp hf) (wpAny_mono h (fun r s' hr => ?_) fun _ _ y => y))
  cases r <;> first | exact hr.elim | skip
  rename_i n u
  obtain ⟨⟨h0, h1⟩, hq⟩ := hr
  refine wpAny_bind (wpAny_holding (wpAny_pure ?_))
  refine wpAny_bind (wpAny_letGo ?_)
  show wpAny _ _ (if n < 0 then _ else _) _ _ _
  rw [if_neg (by omega)]
  show wpAny _ _ (if n ≥ 2 ^ 63 then _ else _) _ _ _
  rw [if_neg (by omega)]
  exact wpAny_bind (wpAny_mkInt (wpAny_pure ⟨_, rfl, hq⟩))
theorem de_lenO {F : Fs} {k : Nat} (T : SpX X C P F k "__len__" 1) (hr : Room (k + 2) X.A) (hg : X.A.guards = some []) (tk : Takes X Z) (hgl : Gl X "len") (hm : X.mg "len" = none) (hst : ∀ x p, e ≠ .Starred x p) (he : PE X e (tE C Z m)) :
    PE X (.Call (.Name "len" p) [e] [] pos) (tE C Z fun ρ S => (m ρ S).bind fun x S1 => lenO P F x S1) := by
  refine ⟨fun pins s σ H Q I h => ?_⟩
  obtain ⟨W, H0, U, ρ, S, rh, rs, pp⟩ := h
  refine wpAny_Call_Name_kw (ld_blt I hgl hm (u := .builtin "len") (by decide +kernel) ?_ (by decide) (by decide))
  have ha : PA X [e] (tCons (tE C Z m) tNil) := pa_cons he pa_nil (star_of hst)
  refine PyProof.Rows.callWith_builtin1 (thn (ha.run pos pins s σ H (fun us H1 => ∃ u W1 S1 x, us = [u] ∧ Den C W1 x u ∧ RelH C W1 H1 S1 ∧ PQ C Z σ Q W1 H1 (lenO P F x S1)) I ?_) fun us s1 hh => ?_) (star_of hst) rfl
  · refine ⟨W, H0, U, ρ, S, rh, rs, (Post.bind pp).mono ?_⟩
    rintro W1 H1 x ⟨st, S1, rh1, _, p1⟩ u hu
    exact ⟨u, W1, S1, x, rfl, hu, rh1, p1⟩
  · obtain ⟨vs, H1, I1, r1, u, W1, S1, x, rfl, hu, rh1, p1⟩ := hh
    obtain ⟨uv, rfl, ru⟩ := vals1 r1
    unfold lenO at p1
    split at p1
    · rename_i c j ej
      obtain ⟨ns, fs, cl, rfl, e1, e2, e3⟩ := specJ_ok ej
      obtain ⟨fn, E⟩ := T c cl j e1 e2 e3
      obtain ⟨a, dx, od, rfl, ho, J⟩ := inst_at (x := .non) I1 rh1 hu
      cases (show uv = Value.ref a from ru)
      refine len_own I1.kIn J E.hs E.hf ?_
      have pq : PQ C Z σ (fun r H2 => ∃ n : Int, r = .int n ∧ (0 ≤ n ∧ n < 2 ^ 60) ∧ Q (.int n) H2) W1 H1 (F.fn j [.obj c ns fs] S1) := by
        refine (Post.bind p1).mono ?_
        rintro W2 H2 d ⟨st, S2, rh2, _, p2⟩ w hw
        cases d with
        | int n =>
          have p2 : PQ C Z σ Q W2 H2 (if 0 ≤ n ∧ n < 2 ^ 60 then .ok (.int n) S2 else .stk) := p2
          split at p2
          · rename_i hn
            exact ⟨n, den_int hw, hn, PQ.ok p2 rh2 of_int⟩
          · exact p2.elim
        | _ => exact p2.elim
      refine wpAny_mono (run_sp (A := X.A.in1) E (hr.in1.mono (by omega)) hg rfl tk I1 rh1 (DenL.cons hu DenL.nil) (.cons (show RelV (.ref a) (.ref a) from rfl) .nil) rfl pq) (fun r s' z => ?_) fun _ _ e => e
      obtain ⟨w, H2, I2, rw2, n, rfl, hn, q⟩ := z
      obtain ⟨tk2, rfl⟩ := (show ∃ tk2, r = Value.int n tk2 from rw2)
      have e60 : (2 : Int) ^ 60 = 1152921504606846976 := by decide
      have e63 : (2 : Int) ^ 63 = 9223372036854775808 := by decide
      refine ⟨⟨hn.1, by rw [e60] at hn; rw [e63]; omega⟩, .int n, H2, I2.tok _, ⟨_, rfl⟩, q⟩
    · exact call_len pins s1 σ H1 [u] [uv] Q I1 (.cons ru .nil) (rd_len W1 σ H1 S1 [x] [u] Q rh1 (DenL.cons hu DenL.nil) p1)
/-- any, all, sorted, sum, max, min -/
def o1N : O1 → Str
  | .len => "len"
  | .bool => "bool"
  | .any => "any"
  | .all => "all"
  | .sorted => "sorted"
  | .sum => "sum"
  | .max => "max"
  | .min => "min"
theorem de_o1B {x : Str} {id : String} {r : List V → Hp → VK → Prop} {f : D → Store → Out D} (hc : CallR X (.builtin id) r) (hg : Gl X x) (hm : X.mg x = none) (hv : bootBuiltins x = some (.builtin id)) (hn : x ≠ "__name__") (hdb : (x == ("__debug__" : Str)) = false)
    (hst : ∀ x p, e ≠ .Starred x p) (he : PE X e (tE C Z m)) (hr : ∀ W σ H S x u Q, RelH C W H S → Den C W x u → PQ C Z σ Q W H (f x S) → r [u] H Q) :
    PE X (.Call (.Name x p) [e] [] pos) (tE C Z fun ρ S => (m ρ S).bind fun x S1 => f x S1) :=
  PE.imp (pe_callB hc hg hm hv (pa_cons he pa_nil (star_of hst)) hn hdb (star_of hst) rfl) fun σ H Q h => by
    obtain ⟨W, H0, U, ρ, S, rh, rs, q⟩ := h
    refine ⟨W, H0, U, ρ, S, rh, rs, (Post.bind q).mono ?_⟩
    rintro W1 H1 d ⟨st, S1, rh1, _, p1⟩ u hu
    exact hr W1 σ H1 S1 d u Q rh1 hu p1
theorem de_o1 {F : Fs} {k : Nat} (o : O1) (hno : o ≠ .bool) (hc : X.calm = true) (T : SpX X C P F k "__len__" 1) (hr : Room (k + 2) X.A) (hg : X.A.guards = some []) (tk : Takes X Z) (hgl : Gl X (o1N o)) (hm : X.mg (o1N o) = none) (hst : ∀ x p, e ≠ .Starred x p) (he : PE X e (tE C Z m)) :
    PE X (.Call (.Name (o1N o) p) [e] [] pos) (tE C Z fun ρ S => (m ρ S).bind fun x S1 => o1D P F o x S1) := by
  cases o with
  | bool => exact absurd rfl hno
  | len => exact de_lenO T hr hg tk hgl hm hst he
  | any =>
      refine de_o1B (f := onB fun bs => bs.any id) (cr_any hc) hgl hm (by decide +kernel) (by decide) (by decide) hst he fun W σ H S x u Q rh hu p => ?_
      obtain ⟨a, bs, rfl, ha, p⟩ := onB_ok rh hu p
      exact ⟨a, bs, rfl, SqL.of ha, PQ.ok p rh of_bl⟩
  | all =>
      refine de_o1B (f := onB fun bs => bs.all id) (cr_all hc) hgl hm (by decide +kernel) (by decide) (by decide) hst he fun W σ H S x u Q rh hu p => ?_
      obtain ⟨a, bs, rfl, ha, p⟩ := onB_ok rh hu p
      exact ⟨a, bs, rfl, SqL.of ha, PQ.ok p rh of_bl⟩
  | sorted =>
      refine de_o1B (f := onI fun ns => some (.lst ((sortI ns).map D.int))) cr_sortedI hgl hm (by decide +kernel) (by decide) (by decide) hst he fun W σ H S x u Q rh hu p => ?_
      obtain ⟨a, ns, d, rfl, ga, ha, ed, p⟩ := onI_ok rh hu p
      cases ed
      refine ⟨a, ns, rfl, SqL.of ha, fun ns' q hp hs nq => ?_⟩
      have e := srt_unique (hp.trans (sortI_perm ns).symm) hs (sortI_srt ns)
      rw [e]
      exact PQ.new p rh nq (lst_new (rh.fresh nq).1 of_ints)
  | sum =>
      refine de_o1B (f := onI fun ns => some (.int ns.sum)) (cr_sum hc) hgl hm (by decide +kernel) (by decide) (by decide) hst he fun W σ H S x u Q rh hu p => ?_
      obtain ⟨a, ns, d, rfl, ga, ha, ed, p⟩ := onI_ok rh hu p
      cases ed
      exact ⟨a, ns, rfl, SqL.of ha, PQ.ok p rh of_int⟩
  | max =>
      refine de_o1B (f := onI fun ns => if ns = [] then none else some (.int (maxL ns))) (cr_max hc) hgl hm (by decide +kernel) (by decide) (by decide) hst he fun W σ H S x u Q rh hu p => ?_
      obtain ⟨a, ns, d, rfl, ga, ha, ed, p⟩ := onI_ok rh hu p
      split at ed
      · cases ed
      · rename_i hne
        cases ed
        obtain ⟨m1, m2⟩ := maxL_ok hne
        refine ⟨a, ns, rfl, SqL.of ha, List.length_pos_iff.mpr hne, fun m' h1 h2 => ?_⟩
        have e : m' = maxL ns := Int.le_antisymm (m2 m' h1) (h2 _ m1)
        rw [e]
        exact PQ.ok p rh of_int
  | min =>
      refine de_o1B (f := onI fun ns => if ns = [] then none else some (.int (minL ns))) (cr_min hc) hgl hm (by decide +kernel) (by decide) (by decide) hst he fun W σ H S x u Q rh hu p => ?_
      obtain ⟨a, ns, d, rfl, ga, ha, ed, p⟩ := onI_ok rh hu p
      split at ed
      · cases ed
      · rename_i hne
        cases ed
        obtain ⟨m1, m2⟩ := minL_ok hne
        refine ⟨a, ns, rfl, SqL.of ha, List.length_pos_iff.mpr hne, fun m' h1 h2 => ?_⟩
        have e : m' = minL ns := Int.le_antisymm (h2 _ m1) (m2 m' h1)
        rw [e]
        exact PQ.ok p rh of_int
/-- xs[::-1] -/
theorem de_rev {k : Nat} {p1 p2 p3 : Pos} (he : PE X e (tE C Z m)) (hn : ∀ ρ S x S1, m ρ S = .ok x S1 → ∀ xs, x ≠ .tup xs) : PE X (.Subscript e (.Slice none none (some (.UnaryOp .USub (.Constant (.int 1) k p1) p2)) p3) pos) (tE C Z fun ρ S => (m ρ S).bind revD) :=
  PE.imp (pe_revL he) fun σ H Q h => by
    obtain ⟨W, H0, U, ρ, S, rh, rs, q⟩ := h
    refine ⟨W, H0, U, ρ, S, rh, rs, (Post.bind q).mono ?_⟩
    rintro W1 H1 d ⟨st, S1, rh1, eo, p1⟩ u hu
    cases d with
    | lst xs =>
      obtain ⟨a, ys, rfl, ga, ha, dl⟩ := den_lst hu rh1
      exact ⟨a, ys, rfl, SqL.of ha, fun q nq => PQ.new p1 rh1 nq (lst_new (rh1.fresh nq).1 (denL_rev dl))⟩
    | tup xs => exact absurd rfl (hn ρ S _ S1 eo xs)
    | _ => exact p1.elim
end
/-! ### while -/
section
variable {C : Ct} {Z : WX} {W0 : Wd} {H0 : Hp} {U : List Addr} {X : Cx} {c : Expr} {body : List Stmt} {b : Ro → Store → OutS} {mc : Ro → Store → Out Bool} {pos : Pos}
theorem ss_whil {n : Nat} (hp : PassesOwn (model X.prog X.w) X.A X.env X.xe) (hc : PT X c (tT C Z mc)) (hb : PSs X body (tS C Z W0 H0 U b)) : PS X (.While c body [] pos) (tS C Z W0 H0 U fun ρ S => whilL mc b n ρ S) :=
  PS.imp (ps_while hp hc hb) fun E σ H h => by
    obtain ⟨W, ρ, S, s0, rh, rs, q⟩ := h
    refine ⟨fun n σ H => ∃ V1 ρ S, Step U W0 H0 V1 H ∧ RelH C V1 H S ∧ RelS C V1 H0 U σ H ρ ∧ Ext W V1 ∧ PostS C Z W0 H0 U E W (whilL mc b n ρ S), ⟨n, W, ρ, S, s0, rh, rs, Ext.refl _, q⟩, ?_⟩
    rintro k σ1 H1 ⟨V1, ρ1, S1, s1, r1, rs1, x1, q1⟩
    cases k with
    | zero => exact q1.elim
    | succ k =>
      refine ⟨V1, H0, U, ρ1, S1, r1, rs1, ?_⟩
      unfold whilL at q1
      cases o : mc ρ1 S1 with
      | stk =>
        rw [o] at q1
        exact q1.elim
      | er e S2 =>
        rw [o] at q1
        exact fun cls dd W' H' st r x => q1 cls dd σ1 W' H' (s1.trans st.up) (x1.trans st.x) r (rs1.step st) x
      | ok t S2 =>
        rw [o] at q1
        intro V2 H2 st2 r2
        have s2 := s1.trans st2.up
        have rs2 := rs1.step st2
        cases t with
        | false => exact q1 σ1 V2 H2 s2 (x1.trans st2.x) r2 rs2
        | true =>
          dsimp only
          rw [if_pos rfl]
          refine ⟨fun σ' H' => ∃ V1 ρ S, Step U W0 H0 V1 H' ∧ RelH C V1 H' S ∧ RelS C V1 H0 U σ' H' ρ ∧ Ext W V1 ∧ PostS C Z W0 H0 U E W (whilL mc b k ρ S), fun σ' H' hN => ⟨k, Nat.lt_succ_self _, hN⟩, V2, ρ1, S2, s2, r2, rs2, ?_⟩
          have q1 : PostS C Z W0 H0 U E W (match b ρ1 S2 with
            | .nx ρ1 S2 => whilL mc b k ρ1 S2
            | .ct ρ1 S2 => whilL mc b k ρ1 S2
            | .bk ρ1 S2 => .nx ρ1 S2
            | .rt d S2 => .rt d S2
            | .er e ρ1 S2 => .er e ρ1 S2
            | .stk => .stk) := q1
          generalize b ρ1 S2 = ob at q1 ⊢
          have xx := x1.trans st2.x
          cases ob with
          | nx ρ3 S3 => exact fun σ3 V3 H3 s3 x3 r3 rs3 => ⟨V3, ρ3, S3, s3, r3, rs3, xx.trans x3, q1⟩
          | ct ρ3 S3 => exact fun σ3 V3 H3 s3 x3 r3 rs3 => ⟨V3, ρ3, S3, s3, r3, rs3, xx.trans x3, q1⟩
          | bk ρ3 S3 => exact fun σ3 V3 H3 s3 x3 r3 rs3 => q1 σ3 V3 H3 s3 (xx.trans x3) r3 rs3
          | rt d S3 => exact fun v V3 H3 s3 x3 r3 hv => q1 v V3 H3 s3 (xx.trans x3) r3 hv
          | er e ρ3 S3 => exact fun cls dd σ3 V3 H3 s3 x3 r3 rs3 dx => q1 cls dd σ3 V3 H3 s3 (xx.trans x3) r3 rs3 dx
          | stk => exact q1
end
end DL
end
-- DLB3
section
set_option maxHeartbeats 4000000
namespace DL
open PySem PySem.Spec L2
open PyProof.Rows
/-! ### t[::-1] -/
section
variable {prog : Program} {w : World} {A : Around} {E : Value → Shared → Prop} {s : Shared}
theorem sliceApplied_rev {sl : Addr} {vl vu vs : Value} {n : Nat} {Q : Int × Int × Nat → Shared → Prop} (hs : s.heap.IsSliceOf sl vl vu vs) (pl : IsPart vl none) (pu : IsPart vu none) (ps : IsPart vs (some (-1)))
    (h : Q ((n : Int) - 1, -1, n) s) : wpAny (model prog w) A (Builtin.Slice.sliceApplied (.ref sl) (pure (n : Int))) Q E s := by
  obtain ⟨os, hos, hcs, hds⟩ := id hs
  unfold Builtin.Slice.sliceApplied Builtin.Slice.sliceFields
  refine wpAny_bind (wpAny_bind (wpAny_field hos hds (x := vl) rfl (wpAny_bind (wpAny_field hos hds (x := vu) rfl (wpAny_bind (wpAny_field hos hds (x := vs) rfl (wpAny_pure ?_)))))))
  refine wpAny_bind (HT.slicePart_ ps ?_)
  show wpAny _ _ (if ((-1 : Int) == 0) = true then _ else _) _ _ s
  rw [if_neg (by decide)]
  refine wpAny_bind (HT.slicePart_ pl (wpAny_bind (HT.slicePart_ pu (wpAny_bind (wpAny_pure ?_)))))
  show wpAny _ _ (match Builtin.Slice.sliceAdjust none none (-1) (n : Int) with | (lo, hi) => pure (lo, (-1 : Int), Builtin.Slice.slicePlaces lo hi (-1))) _ _ s
  have e1 : Builtin.Slice.sliceAdjust none none (-1) (n : Int) = ((n : Int) - 1, -1) := rfl
  rw [e1]
  show wpAny _ _ (pure ((n : Int) - 1, (-1 : Int), Builtin.Slice.slicePlaces ((n : Int) - 1) (-1) (-1))) _ _ s
  have e2 : Builtin.Slice.slicePlaces ((n : Int) - 1) (-1) (-1) = n := by
    unfold Builtin.Slice.slicePlaces
    simp
    omega
  rw [e2]
  exact wpAny_pure h
theorem filterMap_all {α β : Type} {f : α → Option β} {g : α → β} : ∀ (l : List α), (∀ x ∈ l, f x = some (g x)) → l.filterMap f = l.map g
  | [], _ => rfl
  | x :: r, h => by
    rw [List.filterMap_cons, h x (List.mem_cons_self ..), List.map_cons, filterMap_all r fun y hy => h y (List.mem_cons_of_mem _ hy)]
theorem pick_rev (xs : Array Value) : ((List.range xs.size).filterMap fun (m : Nat) => xs[(((xs.size : Nat) : Int) - 1 + (m : Int) * (-1)).toNat]?).toArray = xs.toList.reverse.toArray := by
  congr 1
  apply List.ext_getElem?
  intro i
  have e : ((List.range xs.size).filterMap fun (m : Nat) => xs[(((xs.size : Nat) : Int) - 1 + (m : Int) * (-1)).toNat]?) = (List.range xs.size).map fun m => xs.toList.reverse.getD m .none := by
    refine filterMap_all _ fun m hm => ?_
    have hm := List.mem_range.mp hm
    have e1 : (((xs.size : Nat) : Int) - 1 + (m : Int) * (-1)).toNat = xs.size - 1 - m := by omega
    rw [e1]
    have h2 : xs.size - 1 - m < xs.size := by omega
    rw [List.getD_eq_getElem?_getD, List.getElem?_reverse (by simpa using hm), Array.getElem?_eq_getElem h2]
    simp [h2]
  rw [e, List.getElem?_map]
  by_cases hi : i < xs.size
  · rw [List.getElem?_range hi, Option.map_some, List.getD_eq_getElem?_getD, List.getElem?_eq_getElem (by simpa using hi)]
    rfl
  · rw [List.getElem?_eq_none (by simpa using hi), List.getElem?_eq_none (by simpa using hi)]
    rfl
theorem getItem_tuple_rev {t sl : Addr} {items : Array Value} {vl vu vs : Value} {Q : Value → Shared → Prop} (ht : IsTup s.heap t items) (hs : s.heap.IsSliceOf sl vl vu vs) (pl : IsPart vl none) (pu : IsPart vu none) (ps : IsPart vs (some (-1)))
    (h : Q (.ref s.heap.objs.size) { s with heap := s.heap.push { cls := .type "tuple", data := .seq items.toList.reverse.toArray } })
    (hsz : items.size ≤ sizeLine) : wpAny (model prog w) A (getItem (.ref t) (.ref sl)) Q E s := by
  have htake : sizeOk (.seq items.toList.reverse.toArray) := by
    show items.toList.reverse.toArray.size ≤ sizeLine
    rw [List.size_toArray, List.length_reverse, Array.length_toList]
    omega
  obtain ⟨os, hos, hcs, hds⟩ := id hs
  have hTs : s.TypeIs (.ref sl) "slice" := ⟨os, hos, hcs⟩
  unfold getItem
  try with_reducible refine wpAny_holding ?_
  first | refine wpAny_bind (wpAny_pure ?_) | skip
  refine wpAny_bind (wpAny_sequenceKey ht.typeIs (by decide) ?_)
  refine wpAny_bind (wpAny_callSpecial?_slot (name := Str.ofString "__getitem__") ht.typeIs PyProof.Rows.slot_tuple_getitem
    (wpAny_call_entry PyProof.Rows.slot_tuple_getitem ht.typeIs entry_tuple_getitem ?_ (args_tuple_getitem _ _)))
  show wpAny _ _ (Builtin.Tuple.tupleItemsOf (.ref t) >>= _) _ _ s
  refine wpAny_bind (tupleItemsOf_ ht ?_)
  refine wpAny_bind (wpAny_typeOf hTs ?_)
  rw [if_pos (by decide)]
  refine wpAny_bind (sliceApplied_rev hs pl pu ps ?_)
  have hno : ¬ (((((items.size : Nat) : Int) - 1) == 0 && (-1 : Int) == 1 && items.size == items.size) = true) := by
    intro q
    rw [Bool.and_eq_true, Bool.and_eq_true] at q
    cases q.1.2
  show wpAny _ _ (if ((((items.size : Nat) : Int) - 1) == 0 && (-1 : Int) == 1 && items.size == items.size) = true then _ else _) _ _ s
  rw [if_neg hno, pick_rev]
  first
    | exact wpAny_bind (m := Builtin.Tuple.tupleExact _) (wpAny_newObj_type (wpAny_pure ⟨_, rfl, wpAny_pure h⟩) htake)
    | exact wpAny_bind (m := Builtin.Tuple.tupleExact _) (wpAny_newObj_type (wpAny_bind (wpAny_pure (wpAny_pure ⟨_, rfl, wpAny_pure h⟩))) htake)
    | exact wpAny_bind (wpAny_bind (m := Builtin.Tuple.tupleExact _) (wpAny_newObj_type (wpAny_pure (wpAny_pure ⟨_, rfl, wpAny_pure h⟩)) htake))
    | exact wpAny_bind (wpAny_bind (m := Builtin.Tuple.tupleExact _) (wpAny_newObj_type (wpAny_pure ⟨_, rfl, wpAny_pure h⟩) htake))
end
section
variable {C : Ct} {P : Pg} {Z : WX} {X : Cx} {e : Expr} {m : Ro → Store → Out D} {pos : Pos}
def tRevA (K : PySem.W.Frag) (te : TE) : TE := fun σ H Q => te σ H fun x H1 => (∃ a xs, x = .ref a ∧ SqL K H1 a xs ∧ ∀ p, H1 p = none → Q (.ref p) (upd H1 p (.lst xs.reverse))) ∨ ∃ a xs, x = .ref a ∧ SqT K H1 a xs ∧ ∀ p, H1 p = none → Q (.ref p) (upd H1 p (.tup xs.reverse))
theorem pe_revA {te : TE} {k : Nat} {p1 p2 p3 : Pos} (he : PE X e te) : PE X (.Subscript e (.Slice none none (some (.UnaryOp .USub (.Constant (.int 1) k p1) p2)) p3) pos) (tRevA X.K te) := by
  refine ⟨fun pins s σ H Q I h => ?_⟩
  refine Subscript_ (thn (he.run pins s σ H _ I h) fun v s1 ⟨x, H1, I1, r1, q1⟩ => ?_)
  have hst : PO X (some (.UnaryOp .USub (.Constant (.int 1) k p1) p2)) (tPart (tUn (rU fun i => .int (-i)) (tC (.int 1)))) := po_some (pe_un un_neg pe_int)
  refine wpAny_Slice (thn (po_none.run pins s1 σ H1 (fun o H2 => o = none ∧ H2 = H1) I1 ⟨rfl, rfl⟩) fun vl s2 ⟨l, H2, I2, pl, el, e2⟩ => ?_)
  subst el e2
  refine thn (po_none.run pins s2 σ H2 (fun o H3 => o = none ∧ H3 = H2) I2 ⟨rfl, rfl⟩) fun vu s3 ⟨u, H3, I3, pu, eu, e3⟩ => ?_
  subst eu e3
  refine thn (hst.run pins s3 σ H3 (fun o H4 => o = some (-1) ∧ H4 = H3) I3 ⟨1, rfl, -1, rfl, rfl, rfl⟩) fun vs s4 ⟨o, H4, I4, ps, eo, e4⟩ => ?_
  subst eo e4
  have I5 : Inv X pins σ H4 { s4 with heap := s4.heap.push { cls := .type "slice", data := .fields #[vl, vu, vs] } } := I4.kept (t' := s4.toks) fun b ob q => Heap.get?_push_of_some _ q
  rcases q1 with ⟨a, xs, rfl, hx, q⟩ | ⟨a, xs, rfl, hx, q⟩
  · cases r1
    obtain ⟨its, r, ht, hz⟩ := I5.list hx
    have hlen := r.length
    show wpAny (model X.prog X.w) X.A (PyProof.Rows.subscriptTail e (.Slice none none (some (.UnaryOp .USub (.Constant (.int 1) k p1) p2)) p3) (.ref a) (.ref s4.heap.objs.size)) (EP X pins σ Q) X.xe { s4 with heap := s4.heap.push { cls := .type "slice", data := .fields #[vl, vu, vs] } }
    refine tail_any (ops := [.ref a, .ref s4.heap.objs.size]) ht.isList.typeIs (PySem.slot_list_getitem.lookup) ?_ (by with_unfolding_all rfl)
    refine wpAny_getItem_list_slice ht.isList (Heap.IsSliceOf.new _ vl vu vs) pl pu ps (by decide) ?_ (by rw [List.size_toArray]; omega)
    rw [PySem.W.krv_pick]
    refine ⟨.ref _, _, I5.laid (t' := s4.toks) (o := .lst xs.reverse) (fun b ob q => Heap.get?_push_of_some _ q) (Nat.le_refl _) ?_, rfl, q _ (I5.hok.fresh (Nat.le_refl _))⟩
    exact ⟨by rw [List.length_reverse]; exact hz, _, 0, r.reverse, Heap.get?_push_size _ rfl⟩
  · cases r1
    obtain ⟨its, r, ht, hz⟩ := I5.tuple hx
    have hlen := r.length
    show wpAny (model X.prog X.w) X.A (PyProof.Rows.subscriptTail e (.Slice none none (some (.UnaryOp .USub (.Constant (.int 1) k p1) p2)) p3) (.ref a) (.ref s4.heap.objs.size)) (EP X pins σ Q) X.xe { s4 with heap := s4.heap.push { cls := .type "slice", data := .fields #[vl, vu, vs] } }
    refine tail_any (ops := [.ref a, .ref s4.heap.objs.size]) ht.typeIs (PyProof.Rows.slot_tuple_getitem.lookup) ?_ (by with_unfolding_all rfl)
    refine getItem_tuple_rev ht (Heap.IsSliceOf.new _ vl vu vs) pl pu ps ?_ (by rw [List.size_toArray]; omega)
    refine ⟨.ref _, _, I5.laid (t' := s4.toks) (o := .tup xs.reverse) (fun b ob q => Heap.get?_push_of_some _ q) (Nat.le_refl _) ?_, rfl, q _ (I5.hok.fresh (Nat.le_refl _))⟩
    exact ⟨by rw [List.length_reverse]; exact hz, _, r.reverse, IsTup.new _ _⟩
theorem de_revA {k : Nat} {p1 p2 p3 : Pos} (he : PE X e (tE C Z m)) : PE X (.Subscript e (.Slice none none (some (.UnaryOp .USub (.Constant (.int 1) k p1) p2)) p3) pos) (tE C Z fun ρ S => (m ρ S).bind revD) :=
  PE.imp (pe_revA he) fun σ H Q h => by
    obtain ⟨W, H0, U, ρ, S, rh, rs, q⟩ := h
    refine ⟨W, H0, U, ρ, S, rh, rs, (Post.bind q).mono ?_⟩
    rintro W1 H1 d ⟨st, S1, rh1, eo, p1⟩ u hu
    cases d with
    | lst xs =>
      obtain ⟨a, ys, rfl, ga, ha, dl⟩ := den_lst hu rh1
      exact .inl ⟨a, ys, rfl, SqL.of ha, fun q nq => PQ.new p1 rh1 nq (lst_new (rh1.fresh nq).1 (denL_rev dl))⟩
    | tup xs =>
      obtain ⟨a, ys, rfl, ga, ha, dl⟩ := den_tup hu rh1
      exact .inr ⟨a, ys, rfl, SqT.of ha, fun q nq => PQ.new p1 rh1 nq (tup_new (rh1.fresh nq).1 (denL_rev dl))⟩
    | _ => exact p1.elim
end
end DL
end
-- DLB4
section
set_option maxHeartbeats 4000000
namespace DL
open PySem PySem.Spec L2
/-! ### {k: v for x in t} -/
section
variable {α : Type}
theorem putD2_len (k : Key) (z : α) : ∀ (ks : List Key) (vs : List α), vs.length = ks.length → (putD2 ks vs k z).2.length = (putD2 ks vs k z).1.length
  | [], [], _ => rfl
  | [], _ :: _, h => by cases h
  | _ :: _, [], h => by cases h
  | n :: ns, v :: vs, h => by
    unfold putD2
    split
    · exact h
    · simp only [List.length_cons]
      rw [putD2_len k z ns vs (by simpa using h)]
open Classical in
theorem putD2_fst (k : Key) (z : α) : ∀ (ks : List Key) (vs : List α), vs.length = ks.length → (putD2 ks vs k z).1 = if k ∈ ks then ks else ks ++ [k]
  | [], [], _ => by simp [putD2]
  | [], _ :: _, h => by cases h
  | _ :: _, [], h => by cases h
  | n :: ns, v :: vs, h => by
    unfold putD2
    by_cases q : n = k
    · have hm : k ∈ n :: ns := by
        rw [q]
        exact List.mem_cons_self ..
      rw [if_pos q, if_pos hm]
    · rw [if_neg q]
      dsimp only
      rw [putD2_fst k z ns vs (by simpa using h)]
      by_cases m : k ∈ ns
      · rw [if_pos m, if_pos (List.mem_cons_of_mem _ m)]
      · rw [if_neg m, if_neg (by
          intro hm
          rcases List.mem_cons.mp hm with e | e
          · exact q e.symm
          · exact m e)]
        rfl
theorem putD2_nd {k : Key} {z : α} {ks : List Key} {vs : List α} (hl : vs.length = ks.length) (h : ks.Nodup) : (putD2 ks vs k z).1.Nodup := by
  rw [putD2_fst k z ks vs hl]
  split
  · exact h
  · rename_i m
    rw [List.nodup_append]
    refine ⟨h, by simp, fun a ha b hb => ?_⟩
    rw [List.mem_singleton.mp hb]
    intro e
    rw [e] at ha
    exact m ha
theorem map_same {k : Key} {z : V} : ∀ (l : List (Key × V)), (∀ p ∈ l, p.1 ≠ k) → l.map (fun kv => if kv.1 = k then (kv.1, z) else kv) = l
  | [], _ => rfl
  | p :: r, h => by
    rw [List.map_cons, if_neg (h p (List.mem_cons_self ..)), map_same r fun q hq => h q (List.mem_cons_of_mem _ hq)]
theorem putK_cons_ne {k n : Key} {v z : V} {r : List (Key × V)} (q : n ≠ k) : putK ((n, v) :: r) k z = (n, v) :: putK r k z := by
  unfold putK
  have e1 : ((n, v) :: r).any (fun kv => decide (kv.1 = k)) = r.any (fun kv => decide (kv.1 = k)) := by
    rw [List.any_cons]
    simp [q]
  rw [e1]
  split
  · rw [List.map_cons, if_neg q]
  · rfl
theorem putK_cons_eq {k : Key} {v z : V} {r : List (Key × V)} (hr : ∀ p ∈ r, p.1 ≠ k) : putK ((k, v) :: r) k z = (k, z) :: r := by
  unfold putK
  have e1 : ((k, v) :: r).any (fun kv => decide (kv.1 = k)) = true := by
    rw [List.any_cons]
    simp
  rw [if_pos e1, List.map_cons, if_pos rfl, map_same r hr]
theorem putD2_zip (k : Key) (z : V) : ∀ (ks : List Key) (vs : List V), vs.length = ks.length → ks.Nodup → putK (ks.zip vs) k z = (putD2 ks vs k z).1.zip (putD2 ks vs k z).2
  | [], [], _, _ => rfl
  | [], _ :: _, h, _ => by cases h
  | _ :: _, [], h, _ => by cases h
  | n :: ns, v :: vs, h, nd => by
    have nd := List.nodup_cons.mp nd
    show putK ((n, v) :: ns.zip vs) k z = _
    unfold putD2
    by_cases q : n = k
    · rw [if_pos q]
      subst q
      rw [putK_cons_eq fun p hp e => nd.1 (by rw [← e]; exact (List.of_mem_zip hp).1)]
      rfl
    · rw [if_neg q, putK_cons_ne q, putD2_zip k z ns vs (by simpa using h) nd.2]
      rfl
theorem putD2_fst2 {β : Type} (k : Key) (x : α) (y : β) {ks : List Key} {ds : List α} {vs : List β} (h1 : ds.length = ks.length) (h2 : vs.length = ks.length) : (putD2 ks ds k x).1 = (putD2 ks vs k y).1 := by
  rw [putD2_fst k x ks ds h1, putD2_fst k y ks vs h2]
end
theorem putD2_den {C : Ct} {W : Wd} (k : Key) {x : D} {y : V} (h : Den C W x y) : ∀ (ks : List Key) (ds : List D) (vs : List V), vs.length = ks.length → DenL C W ds vs → DenL C W (putD2 ks ds k x).2 (putD2 ks vs k y).2
  | [], ds, vs, hl, dl => by
    cases ds with
    | nil =>
      unfold DenL at dl
      subst dl
      exact DenL.cons h DenL.nil
    | cons d ds =>
      unfold DenL at dl
      obtain ⟨v, r, rfl, _, _⟩ := dl
      cases hl
  | n :: ns, [], vs, hl, dl => by
    unfold DenL at dl
    subst dl
    cases hl
  | n :: ns, d :: ds, vs, hl, dl => by
    unfold DenL at dl
    obtain ⟨v, r, rfl, e2, e3⟩ := dl
    unfold putD2
    by_cases q : n = k
    · rw [if_pos q, if_pos q]
      exact DenL.cons h e3
    · rw [if_neg q, if_neg q]
      exact DenL.cons e2 (putD2_den k h ns ds r (by simpa using hl) e3)
section
variable {C : Ct} {Z : WX} {H0 : Hp} {U : List Addr} {X : Cx} {W W1 : Wd} {H H1 : Hp} {S : Store} {σ : L2.St} {ρ : Ro} {Q : VK} {mc : Ro → Store → Out Bool} {mk mv : Ro → Store → Out D} {i n : Nat} {xs : List D} {Dn : Addr} {d : D} {v : V}
/-- a loose thing goes into the ground -/
theorem RelH.frzO {a : Addr} {o : HO} (rh : RelH C W H S) (ha : H a = some o) (g : W.G a = none) (b : a ∉ W.B) (ho : ∀ ps, o ≠ .tbl ps) : RelH C (W.put a o) H S := by
  refine ⟨fun c u hb => ?_, rh.len, rh.nd, fun k c z e1 e2 => ?_, rh.tab, nt_put rh.nt ho, rh.ta⟩
  · have hb : upd W.G a o c = some u := hb
    by_cases z : c = a
    · rw [z] at hb ⊢
      rw [upd_same] at hb
      rw [ha]
      exact hb
    · rw [upd_ne z] at hb
      exact rh.g c u hb
  · have nb : c ≠ a := fun z => b (z ▸ List.mem_of_getElem? e1)
    obtain ⟨f1, f2⟩ := rh.bx k c z e1 e2
    refine ⟨fun hm => ?_, f2.move (Ext.put g) rfl⟩
    show upd W.G a _ c = none
    rw [upd_ne nb]
    exact f1 hm
theorem Step.frzO {a : Addr} {o : HO} (s0 : Step U W1 H1 W H) (g : W.G a = none) (hn : H1 a = none) : Step U W1 H1 (W.put a o) H := by
  refine ⟨s0.x.trans (Ext.put g), s0.dom, s0.fr, fun b hb => ?_, s0.bn⟩
  by_cases z : b = a
  · rw [z]
    exact .inr hn
  · have hb : upd W.G a o b ≠ none := hb
    rw [upd_ne z] at hb
    exact s0.gn b hb
theorem keyD_den {W : Wd} {x : D} {k : Key} {u : V} (h : keyD x = some k) (hu : Den C W x u) : u = kV k := by
  cases x <;> cases h
  · exact den_int hu
  · exact den_str hu
/-- what holds between two turns -/
def DcT (C : Ct) (Z : WX) (σ : L2.St) (Q : VK) (W1 : Wd) (H1 : Hp) (Dn : Addr) (f : D → Store → Out (Option (D × D))) (xs : List D) (n : Nat) (H : Hp) : Prop :=
  ∃ W S ks ds vs, Step [] W1 H1 W H ∧ RelH C W H S ∧ H Dn = some (.dK (ks.zip vs)) ∧ vs.length = ks.length ∧ ks.Nodup ∧ DenL C W ds vs ∧ FreeL W H1 Dn ∧ PQ C Z σ Q W1 H1 (dcD f (xs.drop n) ks ds S)
theorem dc_turn (rs : RelS C W1 H0 U σ H1 ρ) (hx : xs[n]? = some d) (hv : Den C W1 d v) (t : DcT C Z σ Q W1 H1 Dn (dcF i mc mk mv ρ) xs n H) :
    gName i v (wipe σ [i]) H fun σ2 H2 => wipe σ2 [i] = wipe σ [i] ∧ tT C Z0 mc σ2 H2 fun b H3 => if b = true then tE C Z0 mk σ2 H3 fun y H4 => tE C Z0 mv σ2 H4 fun z H5 => ∃ kvs k, y = kV k ∧ H5 Dn = some (.dK kvs) ∧ kvs.length < sizeLine ∧ DcT C Z σ Q W1 H1 Dn (dcF i mc mk mv ρ) xs (n + 1) (upd H5 Dn (.dK (putK kvs k z)))
      else DcT C Z σ Q W1 H1 Dn (dcF i mc mk mv ρ) xs (n + 1) H3 := by
  obtain ⟨W, S, ks, ds, vs, st, rh, hD, hlv, nd, dl, fl, p⟩ := t
  have hd : xs.drop n = d :: xs.drop (n + 1) := by
    have hl := (List.getElem?_eq_some_iff.mp hx)
    rw [List.drop_eq_getElem_cons hl.1, hl.2]
  rw [hd] at p
  have σe : (wipe σ [i]).set i (some v) = σ.set i (some v) := by
    show ((wipe σ []).set i none).set i (some v) = _
    rw [List.set_set]
    rfl
  show wipe ((wipe σ [i]).set i (some v)) [i] = wipe σ [i] ∧ tT C Z0 mc ((wipe σ [i]).set i (some v)) H _
  rw [σe]
  refine ⟨?_, ?_⟩
  · show (σ.set i (some v)).set i none = σ.set i none
    rw [List.set_set]
  · have rs2 := (rs.step st).sh (i := i) (Den.ext st.x _ _ hv)
    refine ⟨W, H0, U, ρ.set i (some (.sh d)), S, rh, rs2, ?_⟩
    unfold dcD at p
    cases e1 : mc (ρ.set i (some (.sh d))) S with
    | stk =>
      have ef : dcF i mc mk mv ρ d S = .stk := by
        unfold dcF
        rw [e1]
        rfl
      rw [ef] at p
      exact p.elim
    | er e S1 =>
      have ef : dcF i mc mk mv ρ d S = .er e S1 := by
        unfold dcF
        rw [e1]
        rfl
      rw [ef] at p
      exact p.elim
    | ok b S1 =>
      intro W2 H2 st2 rh2
      have hD2 := st2.fr Dn _ hD fl.2.1 (by simp) (fun ps z => by cases z)
      have fl2 := fl.step st2 hD
      cases b with
      | false =>
        have ef : dcF i mc mk mv ρ d S = .ok none S1 := by
          unfold dcF
          rw [e1]
          rfl
        rw [ef] at p
        show DcT C Z σ Q W1 H1 Dn (dcF i mc mk mv ρ) xs (n + 1) H2
        exact ⟨W2, S1, ks, ds, vs, st.trans st2, rh2, hD2, hlv, nd, DenL.ext st2.x _ _ dl, fl2, p⟩
      | true =>
        show tE C Z0 mk (σ.set i (some v)) H2 _
        refine ⟨W2, H0, U, ρ.set i (some (.sh d)), S1, rh2, rs2.step st2, ?_⟩
        have ef0 : dcF i mc mk mv ρ d S = (mk (ρ.set i (some (.sh d))) S1).bind fun y S2 => (mv (ρ.set i (some (.sh d))) S2).bind fun z S3 => .ok (some (y, z)) S3 := by
          unfold dcF
          rw [e1]
          rfl
        rw [ef0] at p
        cases e2 : mk (ρ.set i (some (.sh d))) S1 with
        | stk =>
          rw [e2] at p
          exact p.elim
        | er e S2 =>
          rw [e2] at p
          exact p.elim
        | ok y S2 =>
          rw [e2] at p
          intro W3 H3 st3 rh3 yv hyv
          refine ⟨W3, H0, U, ρ.set i (some (.sh d)), S2, rh3, (rs2.step st2).step st3, ?_⟩
          have hD3 := st3.fr Dn _ hD2 fl2.2.1 (by simp) (fun ps z => by cases z)
          have fl3 := fl2.step st3 hD2
          simp only [Out.bind] at p
          cases e3 : mv (ρ.set i (some (.sh d))) S2 with
          | stk =>
            rw [e3] at p
            exact p.elim
          | er e S3 =>
            rw [e3] at p
            exact p.elim
          | ok z S3 =>
            rw [e3] at p
            dsimp only at p
            intro W4 H4 st4 rh4 zv hzv
            have hD4 := st4.fr Dn _ hD3 fl3.2.1 (by simp) (fun ps z => by cases z)
            have fl4 := fl3.step st4 hD3
            split at p
            · rename_i k ek
              split at p
              · rename_i hl
                have hlen : (ks.zip vs).length < sizeLine := by
                  rw [List.length_zip, hlv, Nat.min_self]
                  have := most_line (n := most) (Nat.le_refl _)
                  omega
                have dl4 := DenL.ext (st2.x.trans (st3.x.trans st4.x)) _ _ dl
                have hld : ds.length = ks.length := by rw [dl.length, hlv]
                refine ⟨ks.zip vs, k, keyD_den ek hyv, hD4, hlen, W4, S3, (putD2 ks ds k z).1, (putD2 ks ds k z).2, (putD2 ks vs k zv).2, (st.trans (st2.trans (st3.trans st4))).chg (.inl fl.2.2), rh4.chg fl4.1 fl4.2.1 (fun ps z => by rw [hD4] at z; cases z) (fun c q z => by rw [hD4] at z; cases z), ?_, ?_, putD2_nd hld nd, ?_, fl4, p⟩
                · rw [upd_same, putD2_zip k zv ks vs hlv nd, putD2_fst2 k z zv hld hlv]
                · rw [putD2_len k zv ks vs hlv, putD2_fst2 k z zv hld hlv]
                · exact putD2_den k hzv ks ds vs hlv dl4
              · exact p.elim
            · exact p.elim
theorem dc_done {f : D → Store → Out (Option (D × D))} (hl : xs.length ≤ n) (t : DcT C Z σ Q W1 H1 Dn f xs n H) : Q (.ref Dn) H := by
  obtain ⟨W, S, ks, ds, vs, st, rh, hD, hlv, nd, dl, fl, p⟩ := t
  rw [List.drop_eq_nil_of_le hl] at p
  refine p (W.put Dn (.dK (ks.zip vs))) H (st.frzO fl.1 fl.2.2) (rh.frzO hD fl.1 fl.2.1 (fun ps z => nomatch z)) _ ?_
  unfold Den
  exact ⟨Dn, vs, rfl, upd_same, hlv, DenL.ext (Ext.put fl.1) _ _ dl⟩
theorem dc_start {f : D → Store → Out (Option (D × D))} (rh : RelH C W1 H1 S) (hn : H1 Dn = none) (p : PQ C Z σ Q W1 H1 (dcD f xs [] [] S)) : DcT C Z σ Q W1 H1 Dn f xs 0 (upd H1 Dn (.dK [])) := by
  obtain ⟨g, b⟩ := rh.fresh hn
  exact ⟨W1, S, [], [], [], Step.loose hn, rh.loose hn, upd_same, rfl, List.nodup_nil, DenL.nil, ⟨g, b, hn⟩, p⟩
def mDc (i : Nat) (mi : Ro → Store → Out D) (mc : Ro → Store → Out Bool) (mk mv : Ro → Store → Out D) : Ro → Store → Out D := fun ρ S => (mi ρ S).bind fun x S1 => (itD .tup x S1).bind fun xs S2 => dcD (fun d S3 => dcF i mc mk mv ρ d S3) xs [] [] S2
variable {kx vx it : Expr} {mi : Ro → Store → Out D} {ifs : List Expr} {scope : Scope} {x : Str} {p pos : Pos}
theorem dc_rd {K : PySem.W.Frag} (h : tE C Z (mDc i mi mc mk mv) σ H Q) : tE C Z mi σ H fun v H1 => ∃ a, v = .ref a ∧ (∃ xs, SqT K H1 a xs) ∧ ∀ D, H1 D = none → ∃ W : Nat → Nat → Hp → Prop, (∃ m, W 0 m (upd H1 D (.dK []))) ∧ ∀ k m H, W k m H →
      ((Itt K a).stop k H ∧ Q (.ref D) H) ∨ ((Itt K a).go k H ∧ ∃ Nx : Hp → Prop, (∀ H', Nx H' → ∃ m', m' < m ∧ W (k + 1) m' H') ∧ ∀ x H', (Itt K a).yld k H x H' → gName i x (wipe σ [i]) H' fun σ2 H2 => wipe σ2 [i] = wipe σ [i] ∧ tT C Z0 mc σ2 H2 fun b H3 =>
        if b = true then tE C Z0 mk σ2 H3 fun y H4 => tE C Z0 mv σ2 H4 fun z H5 => ∃ kvs k, y = kV k ∧ H5 D = some (.dK kvs) ∧ kvs.length < sizeLine ∧ Nx (upd H5 D (.dK (putK kvs k z))) else Nx H3) := by
  obtain ⟨W, H0, U, ρ, S, rh, rs, p⟩ := h
  refine ⟨W, H0, U, ρ, S, rh, rs, (Post.bind p).mono ?_⟩
  rintro W1 H1 x ⟨st, S1, rh1, _, p1⟩ u hu
  have p1 : PQ C Z σ Q W1 H1 ((itD .tup x S1).bind fun xs S2 => dcD (fun d S3 => dcF i mc mk mv ρ d S3) xs [] [] S2) := p1
  cases x with
  | tup xs =>
    obtain ⟨a, ys, rfl, ga, ha, dl⟩ := den_tup hu rh1
    refine ⟨a, rfl, ⟨ys, SqT.of ha⟩, fun D hD => dc_tup (K := K) (a := a) (xs := ys) (fun n H => DcT C Z σ Q W1 H1 D (dcF i mc mk mv ρ) xs n H) (dc_start rh1 hD p1) (fun k H' _ t => ?_) (fun k y H' hy t => ?_) (fun H' t => dc_done (by rw [dl.length]; exact Nat.le_refl _) t)⟩
    · obtain ⟨W2, S2, _, _, _, s2, r2, _⟩ := t
      exact SqT.of (r2.g _ _ (s2.x.g _ _ ga))
    · have hn : k < xs.length := by
        rw [dl.length]
        exact (List.getElem?_eq_some_iff.mp hy).1
      obtain ⟨y2, e1, e2⟩ := dl.get (List.getElem?_eq_getElem hn)
      rw [hy] at e1
      cases e1
      exact dc_turn (rs.step st) (List.getElem?_eq_getElem hn) e2 t
  | _ => exact p1.elim
theorem de_dc (L : LcB X C scope i x p ifs kx mc mk) (L2 : LcB X C scope i x p ifs vx mc mv) (hset : ∀ v, foldedSetIterable it X.env v = pure v) (hi : PE X it (tE C Z mi)) : PE X (.DictComp kx vx [⟨.Name x p, it, ifs, 0⟩] scope pos) (tE C Z (mDc i mi mc mk mv)) :=
  PE.imp (pe_dc L.calm L.nd (pi_tup hi) L.ok L.g L.t L.e L2.e hset) fun σ H Q h => dc_rd h
/-! ### [e for x in d] -/
/-- nothing of the ground, no boxes -/
def Wd0 : Wd := ⟨fun _ => none, []⟩
theorem relH0 (rh : RelH C W H S) : RelH C Wd0 H [] := ⟨fun _ _ h => (by cases h), rfl, List.nodup_nil, fun i a b h => (by cases i <;> cases h), rh.tab, fun a ps h => (by cases h), rh.ta⟩
theorem relH_back {W' : Wd} {H' : Hp} {S' : Store} (rh : RelH C W H S) (st : Step [] Wd0 H W' H') (rh' : RelH C W' H' S') : RelH C W H' S ∧ Step [] W H W H' := by
  have kp : ∀ a o, H a = some o → (∀ ps, o ≠ .tbl ps) → H' a = some o := fun a o h nt => st.fr a o h (by simp [Wd0]) (by simp) nt
  refine ⟨⟨fun a o h => ?_, rh.len, rh.nd, fun i a b e1 e2 => ?_, rh'.tab, rh.nt, rh'.ta⟩, ⟨Ext.refl _, st.dom, fun a o h _ _ nt => kp a o h nt, fun a h => .inl (.inl h), fun a h => .inl h⟩⟩
  · exact kp a o (rh.g a o h) fun ps e => rh.nt a ps (by rw [h, e])
  · obtain ⟨f1, f2⟩ := rh.bx i a b e1 e2
    obtain ⟨o, h1, h2⟩ := f2.there
    exact ⟨f1, f2.move (Ext.refl W) (by rw [h1]; exact kp a o h1 h2)⟩
theorem scal_any {W W' : Wd} {d : D} {v : V} (hs : d.scal = true) (h : Den C W d v) : Den C W' d v := by
  cases d <;> first | (unfold Den at h ⊢; exact h) | cases hs
def mLcK (i : Nat) (j : Nat) (me : Ro → Store → Out D) : Ro → Store → Out D := fun ρ S => match (ρ[j]? : Option (Option Sl)) with
    | some (some (.sh (.dct ks _))) => (match lcKD (fun x => me ((List.replicate ρ.length none).set i (some (.sh x))) []) ks [] with
      | some ys => .ok (.lst ys) S
      | none => .stk)
    | _ => .stk
theorem rel_one {W : Wd} {N : Nat} {d : D} {v : V} (hl : σ.length = N) (h : Den C W d v) : RelS C W H0 U (σ.set i (some v)) H ((List.replicate N none).set i (some (.sh d))) := by
  refine RelS.sh (ρ := List.replicate N none) ⟨by rw [List.length_replicate, hl], fun k s e => ?_, fun k j s t u e _ _ _ _ _ => ?_⟩ h
  · rw [List.getElem?_replicate] at e
    split at e <;> cases e
  · rw [List.getElem?_replicate] at e
    split at e <;> cases e
def LcKT (C : Ct) (W1 : Wd) (H1 : Hp) (Dn dd : Addr) (od : Obj) (kvs : List (Key × V)) (S : Store) (f : D → Out D) (ks : List Key) (ys : List D) (n : Nat) (H : Hp) : Prop :=
  ∃ acc vs, Step [] W1 H1 W1 (upd H dd (.dK kvs)) ∧ RelH C W1 (upd H dd (.dK kvs)) S ∧ H dd = some (.frz od (.dK kvs)) ∧ H Dn = some (.lst vs) ∧ (∀ W, DenL C W acc vs) ∧ acc.length ≤ most ∧ lcKD f (ks.drop n) acc = some ys
variable {me : Ro → Store → Out D} {elt : Expr} {j : Nat} {y : Str} {py : Pos}
theorem kD_den {W : Wd} (k : Key) : Den C W (kD k) (kV k) := by
  cases k with
  | inl i => exact of_int
  | inr x => exact of_str
theorem lcK_rd (h : tE C Z (mLcK i j me) σ H Q) (hij : i ≠ j) : tLockE (tLc (iKeys (tVar j)) (gName i) tYes (tE C Z0 me) [i]) σ H Q := by
  obtain ⟨W, H0, U, ρ, S, rh, rs, p⟩ := h
  unfold mLcK at p
  split at p
  · rename_i ks ds e
    split at p
    · rename_i ys ey
      obtain ⟨v, ev, hv⟩ := rs.sl j _ e
      have hv : Den C W (.dct ks ds) v := hv
      unfold Den at hv
      obtain ⟨a, vs, rfl, ga, hl, dl⟩ := hv
      have ha := rh.g _ _ ga
      refine ⟨a, .dK (ks.zip vs), ha, trivial, fun od => ⟨_, ev, a, od, rfl, .inl ⟨ks.zip vs, upd_same, fun D hD => ?_⟩⟩⟩
      have hDa : D ≠ a := fun z => by
        rw [z, upd_same] at hD
        cases hD
      have hDn : H D = none := by
        rw [upd_ne hDa] at hD
        exact hD
      have lenz : (ks.zip vs).length = ks.length := by rw [List.length_zip, hl, Nat.min_self]
      have back0 : upd (upd (upd H a (.frz od (.dK (ks.zip vs)))) D (.lst [])) a (.dK (ks.zip vs)) = upd H D (.lst []) := by
        funext b
        by_cases q : b = a
        · rw [q, upd_same, upd_ne (Ne.symm hDa), ha]
        · rw [upd_ne q]
          by_cases q2 : b = D
          · rw [q2, upd_same, upd_same]
          · rw [upd_ne q2, upd_ne q2, upd_ne q]
      refine ⟨fun n m H' => m = ks.length - n ∧ n ≤ ks.length ∧ LcKT C W H D a od (ks.zip vs) S (fun x => me ((List.replicate ρ.length none).set i (some (.sh x))) []) ks ys n H', ⟨ks.length, by simp, Nat.zero_le _, [], [], ?_, ?_, ?_, upd_same, fun _ => DenL.nil, Nat.zero_le _, ey⟩, ?_⟩
      · rw [back0]
        exact Step.loose hDn
      · rw [back0]
        exact rh.loose hDn
      · rw [upd_ne (Ne.symm hDa), upd_same]
      · rintro n m H' ⟨rfl, hn, acc, zs, st, r1, hf, hD1, dz, hla, el⟩
        by_cases hlt : n < ks.length
        · refine .inr ⟨⟨hf, by rw [lenz]; exact hlt⟩, fun H'' => LcKT C W H D a od (ks.zip vs) S (fun x => me ((List.replicate ρ.length none).set i (some (.sh x))) []) ks ys (n + 1) H'', fun H'' t => ⟨ks.length - (n + 1), by omega, rfl, hlt, t⟩, fun x H'' yl => ?_⟩
          obtain ⟨rfl, k, vk, hk, rfl⟩ := yl
          have ek : ks[n] = k := by
            have := List.getElem?_zip_eq_some.mp hk
            rw [List.getElem?_eq_getElem hlt] at this
            exact Option.some.inj this.1
          rw [List.drop_eq_getElem_cons hlt, ek] at el
          unfold lcKD at el
          have σe : (wipe σ [i]).set i (some (kV k)) = σ.set i (some (kV k)) := by
            show ((wipe σ []).set i none).set i (some (kV k)) = _
            rw [List.set_set]
            rfl
          show wipe ((wipe σ [i]).set i (some (kV k))) [i] = wipe σ [i] ∧ tYes ((wipe σ [i]).set i (some (kV k))) H'' _
          rw [σe]
          refine ⟨?_, ?_⟩
          · show (σ.set i (some (kV k))).set i none = σ.set i none
            rw [List.set_set]
          · dsimp only [tYes]
            rw [if_pos rfl]
            -- the heap under the lock
            have fe : H'' = upd (upd H'' a (.dK (ks.zip vs))) a (.frz od (.dK (ks.zip vs))) := by
              funext b
              by_cases q : b = a
              · rw [q, upd_same, hf]
              · rw [upd_ne q, upd_ne q]
            have r2 : RelH C Wd0 H'' [] := by
              have q := (relH0 r1).chg (a := a) (o := .frz od (.dK (ks.zip vs))) rfl (by simp [Wd0]) (fun ps z => by rw [upd_same] at z; cases z) (fun c q z => by rw [upd_same] at z; cases z)
              rw [← fe] at q
              exact q
            refine ⟨Wd0, H0, U, (List.replicate ρ.length none).set i (some (.sh (kD k))), [], r2, rel_one rs.len.symm (kD_den k), ?_⟩
            cases eo : me ((List.replicate ρ.length none).set i (some (.sh (kD k)))) [] with
            | stk =>
              rw [eo] at el
              cases el
            | er e2 S2 =>
              rw [eo] at el
              cases el
            | ok yd S2 =>
              rw [eo] at el
              dsimp only at el
              split at el
              · rename_i hs
                rw [Bool.and_eq_true, decide_eq_true_eq] at hs
                intro W' H3 st3 rh3 yv hyv
                have hD3 := st3.fr D _ hD1 (by simp [Wd0]) (by simp) (fun ps z => by cases z)
                have hf3 := st3.fr a _ hf (by simp [Wd0]) (by simp) (fun ps z => by cases z)
                have hyW : ∀ W2, Den C W2 yd yv := fun W2 => scal_any hs.1 hyv
                have hlen : zs.length < sizeLine := by
                  rw [← (dz W).length]
                  have := most_line (n := most) (Nat.le_refl _)
                  omega
                have st4 : Step [] Wd0 (upd H'' a (.dK (ks.zip vs))) W' (upd H3 a (.dK (ks.zip vs))) := by
                  refine ⟨st3.x, fun b hb => ?_, fun b o hb _ _ nt => ?_, fun b hb => ?_, fun b hb => ?_⟩
                  · by_cases q : b = a
                    · rw [q, upd_same] at hb
                      cases hb
                    · rw [upd_ne q] at hb ⊢
                      exact st3.dom b hb
                  · by_cases q : b = a
                    · rw [q, upd_same] at hb ⊢
                      exact hb
                    · rw [upd_ne q] at hb ⊢
                      exact st3.fr b o hb (by simp [Wd0]) (by simp) nt
                  · rcases st3.gn b hb with z | z
                    · exact .inl z
                    · by_cases q : b = a
                      · rw [q, hf] at z
                        cases z
                      · rw [upd_ne q]
                        exact .inr z
                  · rcases st3.bn b hb with z | z
                    · exact .inl z
                    · by_cases q : b = a
                      · rw [q, hf] at z
                        cases z
                      · rw [upd_ne q]
                        exact .inr z
                have g' : W'.G a = none := by
                  cases q : W'.G a with
                  | none => rfl
                  | some o =>
                    rcases st3.gn a (by rw [q]; simp) with z | z
                    · exact z.elim (fun y => absurd rfl y) (fun y => by cases y)
                    · rw [hf] at z
                      cases z
                have b' : a ∉ W'.B := fun z => by
                  rcases st3.bn a z with z | z
                  · cases z
                  · rw [hf] at z
                    cases z
                have rh4 : RelH C W' (upd H3 a (.dK (ks.zip vs))) S2 := rh3.chg g' b' (fun ps z => by rw [hf3] at z; cases z) (fun c q z => by rw [hf3] at z; cases z)
                obtain ⟨k1, k2⟩ := relH_back r1 st4 rh4
                have nD : H D = none := hDn
                have gD := rh.fresh hDn
                have ce : upd (upd H3 D (.lst (zs ++ [yv]))) a (.dK (ks.zip vs)) = upd (upd H3 a (.dK (ks.zip vs))) D (.lst (zs ++ [yv])) := by
                  funext b
                  by_cases q : b = a
                  · rw [q, upd_same, upd_ne (Ne.symm hDa), upd_same]
                  · rw [upd_ne q]
                    by_cases q2 : b = D
                    · rw [q2, upd_same, upd_same]
                    · rw [upd_ne q2, upd_ne q2, upd_ne q]
                have hD5 : upd H3 a (.dK (ks.zip vs)) D = some (.lst zs) := by
                  rw [upd_ne hDa]
                  exact hD3
                refine ⟨zs, hD3, hlen, acc ++ [yd], zs ++ [yv], ?_, ?_, ?_, upd_same, fun W2 => (dz W2).append (DenL.cons (hyW W2) DenL.nil), ?_, el⟩
                · rw [ce]
                  exact (st.trans k2).chg (.inl nD)
                · rw [ce]
                  exact k1.chg gD.1 gD.2 (fun ps z => by rw [hD5] at z; cases z) (fun c q z => by rw [hD5] at z; cases z)
                · rw [upd_ne (Ne.symm hDa)]
                  exact hf3
                · rw [List.length_append]
                  have := hs.2
                  show acc.length + 1 ≤ most
                  omega
              · cases el
        · have en : n = ks.length := by omega
          subst en
          rw [List.drop_length] at el
          unfold lcKD at el
          cases el
          refine .inl ⟨⟨hf, by rw [lenz]; exact Nat.le_refl _⟩, hf, ?_⟩
          have gD := rh.fresh hDn
          have hD5 : upd H' a (.dK (ks.zip vs)) D = some (.lst zs) := by
            rw [upd_ne hDa]
            exact hD1
          exact p (W.put D (.lst zs)) _ (st.frz gD.1 hDn) (r1.frz hD5 gD.1 gD.2) _ (lst_new gD.1 (dz W))
    · exact p.elim
  · exact p.elim
theorem de_lcK (L : LcB X C scope i x p [] elt (fun _ S => .ok true S) me) (hij : i ≠ j) (hj : X.N[j]? = some y) (hv : Vis X.env.scope y) (hd : (y == ("__debug__" : Str)) = false) (hcd : (y == ("__classdict__" : Str)) = false) :
    PE X (.ListComp elt [⟨.Name x p, .Name y py, [], 0⟩] scope pos) (tE C Z (mLcK i j me)) :=
  PE.imp (pe_lock (pe_lc L.calm L.nd (pi_keys (pe_slot hj hv hd hcd)) L.ok L.g (fun _ _ _ _ _ => pts_nil) L.e)) fun σ H Q h => lcK_rd h hij
end
end DL
end
-- DLB5
section
set_option maxHeartbeats 4000000
namespace PySem
open Sem (wp)
open AutoSeq1 (wpAny_loadPart')
theorem meets_enumerate_newT (l : Addr) (items : Array Value) (n : Nat) (dct : Option Addr) (sl : Array (Option Value)) :
    Meets (Builtin.«enumerate.__new__» ⟨[.type "enumerate", .ref l], []⟩) (fun _ R s => s.heap.get? l = some { cls := .type "tuple", dict := dct, data := .seq items n, slots := sl } ∧
      R (.ok (.ret (.ref (s.heap.push { cls := .type "tuple_iterator", data := .fields #[.ref l, .int 0 0] }).objs.size)))
        { s with heap := (s.heap.push { cls := .type "tuple_iterator", data := .fields #[.ref l, .int 0 0] }).push { cls := .type "enumerate", data := .fields #[.none, .bool false, .ref s.heap.objs.size, rawInt 0, .none, .none] } }) :=
  .of_wp fun prog w A R s h => by
    obtain ⟨hp, g, d, tk, os⟩ := s; obtain ⟨hl, h⟩ := h
    have hsub := sub_enumerate
    have hL : Heap.IsTuple (Shared.heap ⟨hp, g, d, tk, os⟩) l items := ⟨_, hl, rfl, n, rfl⟩
    wp_walk using wpAny_loadPart' hl
    refine wpAny_stack_any fun st => wpAny_pure ?_
    split
    · rename_i c _ _ _ _ _
      cases (c == Value.type "enumerate")
      · wp_walk using wpAny_loadPart' hl, wpAny_pyIter_tuple hL
        exact ⟨_, rfl, h⟩
      · wp_walk using wpAny_loadPart' hl, wpAny_pyIter_tuple hL
        exact ⟨_, rfl, h⟩
    · wp_walk using wpAny_loadPart' hl, wpAny_pyIter_tuple hL
      exact ⟨_, rfl, h⟩
theorem call_enumerate_tup {prog : Program} {w : World} {A : Around} {E : Value → Shared → Prop} {s : Shared} {l : Addr} {items : Array Value} {Q : Value → Shared → Prop} (hL : s.heap.IsTuple l items)
    (h : ∀ h', IsEnum h' (s.heap.objs.size + 1) s.heap.objs.size 0 .none → h'.IsTupleIter s.heap.objs.size l 0 → h'.objs.size = s.heap.objs.size + 2 →
      (∀ b o, s.heap.get? b = some o → h'.get? b = some o) → Q (.ref (s.heap.objs.size + 1)) { s with heap := h' }) :
    wpAny (model prog w) A (call (.type "enumerate") [.ref l]) Q E s := by
  obtain ⟨⟨c, dct, dt, sl⟩, hl, hc, n, hd⟩ := hL
  replace hc : c = .type "tuple" := hc
  replace hd : dt = .seq items n := hd
  subst hc hd
  refine callType_new F.called_enumerate (by decide) (F.typeCall_enumerate_1 _) (F.newCall_enumerate_1 _) (fun obj => F.args_object_init_2 obj _) F.entry_enumerate_new
    (meets_enumerate_newT l items n dct sl) ⟨hl, ?_⟩
  have hz : (s.heap.push { cls := .type "tuple_iterator", data := .fields #[.ref l, .int 0 0] }).objs.size = s.heap.objs.size + 1 := Heap.size_push ..
  show _ ∧ _
  rw [hz]
  have he : IsEnum ((s.heap.push { cls := .type "tuple_iterator", data := .fields #[.ref l, .int 0 0] }).push
      { cls := .type "enumerate", data := .fields #[.none, .bool false, .ref s.heap.objs.size, rawInt 0, .none, .none] }) (s.heap.objs.size + 1) s.heap.objs.size 0 .none := by
    have := Heap.get?_push_size (s.heap.push { cls := .type "tuple_iterator", data := .fields #[.ref l, .int 0 0] })
      (o := { cls := .type "enumerate", data := .fields #[.none, .bool false, .ref s.heap.objs.size, rawInt 0, .none, .none] }) rfl
    rw [hz] at this; exact this
  refine ⟨⟨_, he, rfl⟩, h _ he ⟨_, Heap.get?_push_of_some _ (Heap.get?_push_size _ rfl), rfl, rfl⟩ (by rw [Heap.size_push, hz]) fun b o x => Heap.get?_push_of_some _ (Heap.get?_push_of_some _ x)⟩
end PySem
namespace DL
open PySem PySem.Spec L2
/-! ### enumerate(tuple) -/
/-- a tuple of the heap, each item in a new pair -/
def IteT (a : Addr) : It :=
  ⟨fun i H => ∃ (xs : List V) (x : V), H a = some (.tup xs) ∧ xs[i]? = some x, fun i H v H' => ∃ T x, v = .ref T ∧ H T = none ∧ H' = upd H T (.tup [.int (i : Nat), x]) ∧ ∀ xs, H a = some (.tup xs) → xs[i]? = some x, fun i H => ∃ xs : List V, H a = some (.tup xs) ∧ xs.length = i⟩
theorem turn_enumT {P : Program} {w : World} {K : PySem.W.Frag} {elts : List Expr} {kk : Nat} {tpos : Pos} (a e it : Addr) :
    Turn P w K (.Tuple elts kk tpos) (IteT a) [e, it] e (fun i h => (∃ old, IsEnum h e it ((i : Nat) : Int) old) ∧ h.IsTupleIter it a i ∧ e ≠ it) where
  mem := by simp
  obj := fun i h st b hb => by
    obtain ⟨⟨old, he⟩, ⟨o, ho, hc, hd⟩, _⟩ := st
    have e' : b = e ∨ b = it := by simpa using hb
    rcases e' with z | z
    · rw [z]; exact ⟨_, he, fun v q => nomatch q⟩
    · rw [z]; exact ⟨o, ho, fun v q => by rw [hd] at q; cases q⟩
  keep := fun i h h' st k => let ⟨⟨old, he⟩, hi, hne⟩ := st; ⟨⟨old, k e (by simp) _ he⟩, hi.at fun o q => k it (by simp) o q, hne⟩
  item := by
    intro X hP hw hK hc i pins s σ H E I hf st hg
    subst hP hw hK
    obtain ⟨⟨old, he⟩, hit, hne⟩ := st
    obtain ⟨xs, x, hq, hx⟩ := hg
    obtain ⟨its, rv, p, hz⟩ := I.tuple (SqT.of hq)
    obtain ⟨u, hu, ru⟩ := rv.get hx
    have hel : e < s.heap.objs.size := Heap.lt_size he
    have hil : it < s.heap.objs.size := by obtain ⟨_, q, _⟩ := hit; exact Heap.lt_size q
    have hae : a ≠ e := fun z => by
      have q := (hf e (by simp)).1
      rw [← z, hq] at q
      cases q
    have hai : a ≠ it := fun z => by
      have q := (hf it (by simp)).1
      rw [← z, hq] at q
      cases q
    have pT : s.heap.IsTuple a its.toArray := p
    have hlt : i < its.toArray.size := by
      rw [List.size_toArray]
      exact (List.getElem?_eq_some_iff.mp hu).1
    refine wpAny_pyNext_enum_itemD (Draws.tuple (A := X.A.in1) (by exact I.ok.hd hc) it a hai its.toArray) he ⟨hit, pT⟩ hlt hne (by simp [hne, Ne.symm hae]) fun x' h' tk hP ho hSt hT hsz hk => ?_
    have ex : x' = u := by
      rw [List.getElem?_toArray, hu] at hP
      exact (Option.some.inj hP).symm
    subst ex
    refine ⟨_, rfl, wpAny_letOwnedTupleGo_enum (s := { s with heap := h', toks := tk + 1 }) ho fun h'' he' sb => ?_⟩
    have hT2 : h''.get? s.heap.objs.size = some { cls := .type "tuple", data := .seq #[.int i tk, x'] } := (sb.2 _ (Nat.ne_of_gt hel)).trans hT
    have new : ObjOk X.prog X.w (upd H s.heap.objs.size (.tup [.int (i : Nat), x])) h'' s.heap.objs.size (.tup [.int (i : Nat), x]) :=
      ⟨by show 2 ≤ sizeLine; decide, [.int i tk, x'], .cons ⟨_, rfl⟩ (.cons ru .nil), ⟨_, hT2, rfl, _, rfl⟩⟩
    have I1 : Inv X pins σ (upd H s.heap.objs.size (.tup [.int (i : Nat), x])) { s with heap := h'', toks := tk + 1 } :=
      I.turnedNew (ch := [e, it]) (fun b ob hb q => (sb.2 b (fun z => hb (by simp [z]))).trans (hk b ob (fun z => hb (by simp [z])) (fun z => hb (by simp [z])) q)) hf (Nat.le_refl _) new
    refine ⟨.ref s.heap.objs.size, _, I1, rfl, ⟨_, x, rfl, I.hok.fresh (Nat.le_refl _), rfl, fun ys hy => by rw [hq] at hy; cases hy; exact hx⟩, ⟨⟨x', ?_⟩, hSt.1.at fun o q => (sb.2 it (Ne.symm hne)).trans q, hne⟩, fun b hb => ?_⟩
    · have e1 : ((i + 1 : Nat) : Int) = (i : Int) + 1 := by omega
      rw [e1]; exact he'
    · have hb' : b < s.heap.objs.size := by
        have e' : b = e ∨ b = it := by simpa using hb
        rcases e' with z | z
        · rw [z]; exact hel
        · rw [z]; exact hil
      rw [upd_ne (Nat.ne_of_lt hb')]
      exact (hf b hb).1
  done := by
    intro X hP hw hK hc i pins s σ H E I hf st hg
    subst hP hw hK
    obtain ⟨⟨old, he⟩, hit, hne⟩ := st
    obtain ⟨xs, hq, hx⟩ := hg
    obtain ⟨its, rv, p, hz⟩ := I.tuple (SqT.of hq)
    obtain ⟨f0, f1, f2, f3, f4, f5⟩ := hf it (by simp)
    have hl := rv.length
    have hai : a ≠ it := fun z => by
      rw [← z, hq] at f0
      cases f0
    have pT : s.heap.IsTuple a its.toArray := p
    refine wpAny_pyNext_enum_endD (i := i) (Draws.tuple (A := X.A.in1) (by exact I.ok.hd hc) it a hai (its.toArray)) he (n := its.toArray.size) ?_ fun h' eb => ⟨rfl, I.turned (t' := s.toks) (fun b o hb q => eb b o hb q) f0 f1 f3 f4 f5⟩
    have ei : its.toArray.size = i := by
      rw [List.size_toArray, ← hl, hx]
    rw [ei]
    exact ⟨hit, pT⟩
  self := fun A i s Q E st h => let ⟨⟨_, he⟩, _⟩ := st; wpAny_pyIter_enum he h
def iEnumT (ta : TA) : TI := fun σ H R => ta σ H fun vs H1 => ∃ a xs, vs = [.ref a] ∧ H1 a = some (.tup xs) ∧ R (IteT a) H1
theorem pi_enumT {X : Cx} {e : Expr} {ta : TA} {p pos tpos : Pos} {elts : List Expr} {kk : Nat} (hg : Gl X "enumerate") (hm : X.mg "enumerate" = none) (ha : PA X [e] ta) (hs : starEach [e] X.env = [(false, eval e X.env)]) :
    PI X (.Tuple elts kk tpos) (.Call (.Name "enumerate" p) [e] [] pos) (iEnumT ta) := by
  refine ⟨fun pins s σ H R I h => ?_⟩
  refine PyProof.Rows.Call_ (ld_blt I hg hm PyProof.Rows.boot_enumerate (PyProof.Rows.callWith_type1 (thn (ha.run pos pins s σ H _ I h) fun us s1 ⟨vs, H1, I1, r1, q1⟩ => ?_) hs rfl))
  obtain ⟨a, xs, ex, hq, q⟩ := q1
  subst ex
  cases r1 with
  | cons r rr =>
    cases rr
    cases r
    obtain ⟨its, rv, p', hz⟩ := I1.tuple (SqT.of hq)
    have pT : s1.heap.IsTuple a its.toArray := p'
    refine call_enumerate_tup pT fun h' he hit hsz hk => wpAny_pyIter_enum he ?_
    have I2 : Inv X pins σ H1 { s1 with heap := h' } := I1.kept (t' := s1.toks) hk
    refine ⟨s1.heap.objs.size + 1, [s1.heap.objs.size + 1, s1.heap.objs.size], _, _, H1, rfl, I2, turn_enumT a (s1.heap.objs.size + 1) s1.heap.objs.size, ⟨⟨.none, he⟩, hit, Nat.succ_ne_self _⟩, fun b hb => ?_, q⟩
    have e' : b = s1.heap.objs.size + 1 ∨ b = s1.heap.objs.size := by simpa using hb
    have hle : s1.heap.objs.size ≤ b := by
      rcases e' with z | z
      · rw [z]; exact Nat.le_add_right _ _
      · rw [z]; exact Nat.le_refl _
    exact I1.fpOk hle (I1.hok.fresh hle)
section
variable {C : Ct} {Z : WX} {W0 : Wd} {H0 : Hp} {U : List Addr} {X : Cx} {e a : Expr} {es : List Expr} {m ma mb : Ro → Store → Out D} {ms : Ro → Store → Out (List D)} {pos p p' : Pos} {body : List Stmt} {b : Ro → Store → OutS} {i j : Nat} {x y : Str}
/-- what holds between two turns -/
def TurnE (C : Ct) (Z : WX) (W0 : Wd) (H0 : Hp) (U : List Addr) (Wl : Wd) (i j : Nat) (b : Ro → Store → OutS) (E : Ends) (xs : List D) (n : Nat) (σ : L2.St) (H : Hp) : Prop :=
  ∃ W ρ S, Step U W0 H0 W H ∧ RelH C W H S ∧ RelS C W H0 U σ H ρ ∧ Ext Wl W ∧ PostS C Z W0 H0 U E W (forEL i j b n (xs.drop n) ρ S)
theorem turnE_one {Wl : Wd} {E : Ends} {xs : List D} {n : Nat} {d : D} {v : V} {σ : L2.St} {H : Hp} {T : Addr} (t : TurnE C Z W0 H0 U Wl i j b E xs n σ H) (hx : xs[n]? = some d) (hv : Den C Wl d v) (hT : H T = none) :
    tS C Z W0 H0 U b { E with nx := TurnE C Z W0 H0 U Wl i j b E xs (n + 1), ct := TurnE C Z W0 H0 U Wl i j b E xs (n + 1), bk := E.nx } (setV σ [i, j] [.int (n : Nat), v]) (upd H T (.tup [.int (n : Nat), v])) := by
  obtain ⟨W, ρ, S, s0, rh, rs, ex, q⟩ := t
  have hd : xs.drop n = d :: xs.drop (n + 1) := by
    have hl := (List.getElem?_eq_some_iff.mp hx)
    rw [List.drop_eq_getElem_cons hl.1, hl.2]
  rw [hd] at q
  unfold forEL at q
  have sl := Step.loose (W := W) (o := .tup [.int (n : Nat), v]) hT
  have rs2 : RelS C W H0 U (setV σ [i, j] [.int (n : Nat), v]) (upd H T (.tup [.int (n : Nat), v])) (setAll ρ [i, j] [.int n, d]) := (rs.step sl).all (DenL.cons of_int (DenL.cons (Den.ext ex _ _ hv) DenL.nil))
  refine ⟨W, (ρ.set i (some (.sh (.int n)))).set j (some (.sh d)), S, s0.trans sl.up, rh.loose hT, rs2, ?_⟩
  cases o : b ((ρ.set i (some (.sh (.int n)))).set j (some (.sh d))) S with
  | nx ρ1 S1 =>
    rw [o] at q
    exact fun σ1 W1 H1 s1 x1 r1 rs1 => ⟨W1, ρ1, S1, s1, r1, rs1, ex.trans x1, PostS.up (o := forEL i j b (n + 1) (xs.drop (n + 1)) ρ1 S1) q x1⟩
  | ct ρ1 S1 =>
    rw [o] at q
    exact fun σ1 W1 H1 s1 x1 r1 rs1 => ⟨W1, ρ1, S1, s1, r1, rs1, ex.trans x1, PostS.up (o := forEL i j b (n + 1) (xs.drop (n + 1)) ρ1 S1) q x1⟩
  | bk ρ1 S1 =>
    rw [o] at q
    exact q
  | rt d1 S1 =>
    rw [o] at q
    exact q
  | er e1 ρ1 S1 =>
    rw [o] at q
    exact q
  | stk =>
    rw [o] at q
    exact q
theorem turnE_end {Wl : Wd} {E : Ends} {xs : List D} {n : Nat} {σ : L2.St} {H : Hp} (t : TurnE C Z W0 H0 U Wl i j b E xs n σ H) (hn : xs.length ≤ n) : E.nx σ H := by
  obtain ⟨W, ρ, S, s0, rh, rs, ex, q⟩ := t
  rw [List.drop_eq_nil_of_le hn] at q
  exact q σ W H s0 (Ext.refl _) rh rs
theorem ss_forE {kk : Nat} {tpos ep : Pos} (hp : PassesOwn (model X.prog X.w) X.A X.env X.xe) (hc : X.calm = true) (hg : Gl X "enumerate") (hm : X.mg "enumerate" = none) (hN : X.N.Nodup) {ts : List Expr} (ht : Tgs X ts [i, j]) (hst : ∀ y q, e ≠ .Starred y q) (he : PE X e (tE C Z m)) (hb : PSs X body (tS C Z W0 H0 U b)) :
    PS X (.For (.Tuple ts kk tpos) (.Call (.Name "enumerate" ep) [e] [] p') body [] pos) (tS C Z W0 H0 U fun ρ S => (m ρ S).then ρ fun x S1 => match x with
      | .tup xs => forEL i j b 0 xs ρ S1
      | _ => .stk) := by
  obtain ⟨f1, f2, f3⟩ := ht.facts
  refine PS.imp (ps_for hp hc (pi_enumT hg hm (pa_cons he pa_nil (star_of hst)) (star_of hst)) (pg_tup hc (ht.run hN) f2 f3) hb) fun E σ H h => ?_
  obtain ⟨W, ρ, S, s0, rh, rs, q⟩ := h
  refine ⟨W, H0, U, ρ, S, rh, rs, ?_⟩
  refine st_exp s0 rs q fun x S1 W1 H1 _ s1 r1 q1 v hv => ?_
  split at q1
  · rename_i xs _h
    obtain ⟨a, ys, rfl, ga, ha, dl⟩ := den_tup hv r1
    refine ⟨a, ys, rfl, ha, fun n mm σ H => mm = xs.length - n ∧ n ≤ xs.length ∧ TurnE C Z W0 H0 U W1 i j b E xs n σ H, ⟨xs.length, by simp, Nat.zero_le _, W1, ρ, S1, s0.trans s1.up, r1, rs.step s1, Ext.refl _, q1⟩, ?_⟩
    rintro n mm σ' H' ⟨rfl, hn, t⟩
    have hat : H' a = some (.tup ys) := by
      obtain ⟨W2, ρ2, S2, s2, r2, _, x2, _⟩ := t
      exact r2.g _ _ (x2.g _ _ ga)
    by_cases hlt : n < xs.length
    · have hly : n < ys.length := by
        rw [← dl.length]
        exact hlt
      refine .inr ⟨⟨ys, ys[n], hat, List.getElem?_eq_getElem hly⟩, TurnE C Z W0 H0 U W1 i j b E xs (n + 1), fun σ2 H2 t2 => ⟨xs.length - (n + 1), by omega, rfl, hlt, t2⟩, fun z H2 yl => ?_⟩
      obtain ⟨T, y, rfl, hT, rfl, hy⟩ := yl
      have hy := hy ys hat
      obtain ⟨y2, e1, e2⟩ := dl.get (List.getElem?_eq_getElem hlt)
      rw [hy] at e1
      cases e1
      exact ⟨T, _, rfl, SqT.of upd_same, rfl, rfl, turnE_one t (List.getElem?_eq_getElem hlt) e2 hT⟩
    · have en : n = xs.length := by omega
      refine .inl ⟨⟨ys, hat, by rw [en, dl.length]⟩, turnE_end t (by omega)⟩
  · exact q1.elim
theorem ss_for_rng2 {rp : Pos} {a2 : Expr} (hp : PassesOwn (model X.prog X.w) X.A X.env X.xe) (hc : X.calm = true) (hg : Gl X "range") (hmr : X.mg "range" = none) (hN : X.N.Nodup) (hi : X.N[i]? = some x) (hx : Loc X.env.scope x) (hf : X.fn x = true) (sa : ∀ y q, a ≠ .Starred y q) (sb : ∀ y q, a2 ≠ .Starred y q) (ha : PE X a (tE C Z ma)) (hb2 : PE X a2 (tE C Z mb)) (hb : PSs X body (tS C Z W0 H0 U b)) :
    PS X (.For (.Name x p) (.Call (.Name "range" rp) [a, a2] [] p') body [] pos) (tS C Z W0 H0 U fun ρ S => ((ma ρ S).bind fun x S1 => (mb ρ S1).bind fun y S2 => rngD x y S2).then ρ fun xs S1 => forL i b xs ρ S1) :=
  PS.imp (ps_for hp hc (pi_range2 hg hmr (pa_two sa sb ha hb2) (by rw [star_of sa, star_of sb]; rfl) (star_of sb)) (pg_name hN hi hx (.inl hf)) hb) fun E σ H h => by
    obtain ⟨W, ρ, S, s0, rh, rs, q⟩ := h
    refine ⟨W, H0, U, ρ, S, rh, rs, ?_⟩
    have q2 : PostS C Z W0 H0 U E W ((ma ρ S).then ρ fun x S1 => ((mb ρ S1).bind fun y S2 => rngD x y S2).then ρ fun xs S1 => forL i b xs ρ S1) := by
      dsimp only at q
      cases o : ma ρ S <;> rw [o] at q <;> exact q
    refine st_exp s0 rs q2 fun x S1 W1 H1 _ s1 r1 q1 v hv => ?_
    refine ⟨W1, H0, U, ρ, S1, r1, rs.step s1, ?_⟩
    have q3 : PostS C Z W0 H0 U E W1 ((mb ρ S1).then ρ fun y S2 => (rngD x y S2).then ρ fun xs S1 => forL i b xs ρ S1) := by
      cases o : mb ρ S1 <;> rw [o] at q1 <;> exact q1
    refine st_exp (s0.trans s1.up) (rs.step s1) q3 fun y S2 W2 H2 _ s2 r2 q4 u hu => ?_
    cases hr : rngD x y S2 with
    | stk =>
      rw [hr] at q4
      exact q4.elim
    | er e S3 => exact (rngD_ne hr).elim
    | ok xs S3 =>
      rw [hr] at q4
      obtain ⟨a, b', rfl, rfl, hbd, rfl, rfl⟩ := rngD_ok hr
      rw [den_int hv, den_int hu]
      refine ⟨a, b', rfl, rng_b hbd, for_range (lo := a) (n := (b' - a).toNat) (Turned C Z W0 H0 U W2 i b E ((List.range (b' - a).toNat).map fun k : Nat => D.int (a + k))) ⟨W2, ρ, S3, (s0.trans s1.up).trans s2.up, r2, (rs.step s1).step s2, Ext.refl _, q4⟩ (fun k σ' H' hk t => ?_) (fun σ' H' t => turn_end t (by simp))⟩
      exact turn_one (d := .int (a + k)) t (by simp [hk]) of_int
/-! ### displays with stars -/
theorem starD_den {W : Wd} {H : Hp} {S : Store} {K : PySem.W.Frag} {x : D} {xs : List D} {u : V} (r : RelH C W H S) (h : starD x = some xs) (hu : Den C W x u) : ∃ q ys, u = .ref q ∧ (SqT K H q ys ∨ SqL K H q ys) ∧ DenL C W xs ys := by
  cases x <;> cases h
  · obtain ⟨q, ys, rfl, _, ha, dl⟩ := den_tup hu r
    exact ⟨q, ys, rfl, .inl (SqT.of ha), dl⟩
  · obtain ⟨q, ys, rfl, _, ha, dl⟩ := den_lst hu r
    exact ⟨q, ys, rfl, .inr (SqL.of ha), dl⟩
end
end DL
end
-- DLB6
section
set_option maxHeartbeats 4000000
namespace DL
open PySem PySem.Spec L2
/-! ### def __init__(self, *rest) -/
structure StarP (fd : FuncData) (p1 pv : Str) : Prop where
  po : fd.params.posonlyargs = []
  ar : fd.params.args.map (·.arg) = [p1]
  ko : fd.params.kwonlyargs = []
  va : ∃ a, fd.params.vararg = some a ∧ a.arg = pv
  kw : fd.params.kwarg = none
  df : fd.defaults = .none
theorem star_bind {fd : FuncData} {p1 pv : Str} (S : StarP fd p1 pv) (u : Value) (rest : List Value) : bindArgs fd ⟨u :: rest, []⟩ = (newTuple rest >>= fun t => pure [(p1, u), (pv, t)]) := by
  obtain ⟨a, va, rfl⟩ := S.va
  unfold bindArgs
  simp only [S.po, S.ar, S.ko, va, S.kw, List.map_nil, List.nil_append, S.df]
  have e1 : seqItems? Value.none = pure none := rfl
  rw [e1]
  simp only [List.forIn_nil, pure_bind, List.zip_cons_cons, List.zip_nil_left, Option.getD_none, List.length_cons, List.length_nil]
  simp [List.lookup]
structure FnGR (P : Program) (w : World) (K : PySem.W.Frag) (mg : Str → Option Value) (base : Heap) (k : Nat) (f : Addr) (sp : Sp) : Prop where
  run : ∀ (A : Around) (outer : List Env) (s : Shared) (H : Hp) (us : List Value) (vs : List V) (Q : VK) (E : XK), Room k A → A.guards = some [] → Env0 P w K mg base A outer s H → Vals vs us → sp vs H Q E → codeAny (model P w) A (.call (.ref f) ⟨us, []⟩) (CR (L2.CX P w) outer P w H s Q E) s
def iniS (F : Nat → List Str → List D → List D → Store → Out (List Str × List D)) : Nat → List Str → List D → List D → Store → Out (List Str × List D) := fun c ns fs ds S => if ds.length ≤ most then F c ns fs [.tup ds] S else .stk
section
variable {C : Ct} {P : Pg} {Z : WX} {X : Cx} {e : Expr} {es : List Expr} {m : Ro → Store → Out D} {ms : Ro → Store → Out (List D)} {pos p p2 : Pos} {pins : List (Addr × Obj)} {σ : L2.St} {H : Hp} {s : Shared} {W : Wd} {S : Store}
/-- a class whose __init__ has a star -/
structure MkSt (X : Cx) (C : Ct) (k : Nat) (c : Nat) (f : Addr) (F : Nat → List Str → List D → List D → Store → Out (List Str × List D)) : Prop where
  go : FnGR X.prog X.w X.K X.mg X.base k f (spI C (iniS F))
  mkc : Mk X.K (C.ca c) f
theorem mkS_go {k c : Nat} {f : Addr} {F : Nat → List Str → List D → List D → Store → Out (List Str × List D)} (T : MkSt X C k c f F) (hr : Room (k + 1) X.A) (hg : X.A.guards = some []) (tk : Takes X Z)
    {Q : VK} {us : List Value} {vs : List V} {ds : List D} (I : Inv X pins σ H s) (r1 : Vals vs us) (rh : RelH C W H S) (d1 : DenL C W ds vs)
    (p : PQ C Z σ Q W H ((iniS F c [] [] ds S).bind fun q S1 => .ok (.obj c q.1 q.2) S1)) : wpAny (model X.prog X.w) X.A (call (.ref (C.ca c)) us) (EP X pins σ Q) X.xe s := by
  have I2 := Inv.made (C := C.ca c) I
  have nx : H (s.heap.objs.size + 1) = none := I.hok.fresh (Nat.le_succ _)
  have nd : H s.heap.objs.size = none := I.hok.fresh (Nat.le_refl _)
  have ne : s.heap.objs.size ≠ s.heap.objs.size + 1 := Nat.ne_of_lt (Nat.lt_succ_self _)
  have rh1 : RelH C W (upd H s.heap.objs.size (.own (s.heap.objs.size + 1))) S := rh.loose nd
  have nx1 : upd H s.heap.objs.size (.own (s.heap.objs.size + 1)) (s.heap.objs.size + 1) = none := by
    rw [upd_ne ne.symm]
    exact nx
  have rh2 := rh1.loose (o := .ins (C.ca c) s.heap.objs.size []) nx1
  have fr := rh.fresh nx
  have sp : spI C (iniS F) (V.ref (s.heap.objs.size + 1) :: vs) (upd (upd H s.heap.objs.size (.own (s.heap.objs.size + 1))) (s.heap.objs.size + 1) (.ins (C.ca c) s.heap.objs.size [])) (fun v H2 => v = .non ∧ Q (.ref (s.heap.objs.size + 1)) H2) (WE Z σ) := by
    refine ⟨W, c, [], [], ds, S, _, s.heap.objs.size, [], vs, rh2, rfl, d1, upd_same, rfl, DenL.nil, fr.1, fr.2, ?_⟩
    cases q : iniS F c [] [] ds S with
    | stk =>
      rw [q] at p
      exact p
    | er er' S' =>
      rw [q] at p
      intro cls dd W' H' st rh' dx
      refine p cls dd W' H' ?_ rh' dx
      have dn : ∀ b, upd (upd H s.heap.objs.size (.own (s.heap.objs.size + 1))) (s.heap.objs.size + 1) (.ins (C.ca c) s.heap.objs.size []) b = none → H b = none := fun b z => by
        by_cases q1 : b = s.heap.objs.size + 1
        · rw [q1]
          exact nx
        · rw [upd_ne q1] at z
          by_cases q2 : b = s.heap.objs.size
          · rw [q2]
            exact nd
          · rw [upd_ne q2] at z
            exact z
      refine ⟨st.x, fun b h => dn b (st.dom b h), fun b o h nb _ nt => ?_, fun b h => ?_, fun b h => ?_⟩
      · have n1 := ne_of_none h nx
        refine st.fr b o ?_ nb (by rw [List.mem_singleton]; exact n1) nt
        rw [upd_ne n1, upd_ne (ne_of_none h nd)]
        exact h
      · rcases st.gn b h with z | z
        · exact .inl z
        · exact .inr (dn b z)
      · rcases st.bn b h with z | z
        · exact .inl z
        · exact .inr (dn b z)
    | ok qq S' =>
      rw [q] at p
      intro W' H' dx3 zs' st rh' hx hlz dz hg' hb'
      obtain ⟨st2, rh3⟩ := made_in rh nx nd ne st rh' hx hg' hb'
      refine ⟨rfl, p _ H' st2 rh3 _ ?_⟩
      unfold Den
      exact ⟨_, dx3, zs', rfl, upd_same, hlz, DenL.ext (Ext.put hg') _ _ dz⟩
  refine wpAny_call (make_map (f := f) I.kIn T.mkc.makes T.mkc.init (beq_iff_eq.mp T.mkc.fn) (codeAny_mono (T.go.run _ X.stack _ _ (Value.ref (s.heap.objs.size + 1) :: us) _ _ (WE Z σ) (hr.make (C.ca c) us []) (guards_make hg)
    (I2.env0.make (C.ca c) us []) (Paired.cons (show RelV (V.ref (s.heap.objs.size + 1)) (Value.ref (s.heap.objs.size + 1)) from rfl) r1) sp) fun rr s' hq' => ?_))
  cases rr with
  | error e =>
    have := passAt tk σ pins _ _ e s' I2 hq'
    exact this
  | ok fl =>
    cases fl with
    | ret u =>
      obtain ⟨v, H', I3, rv', ev, q3⟩ := I2.after hq'
      subst ev
      exact ⟨rv', ⟨V.ref (s.heap.objs.size + 1), H', I3, rfl, q3⟩⟩
    | next => exact False.elim hq'
    | brk => exact False.elim hq'
    | cont => exact False.elim hq'
/-- all classes that are made so -/
def MkSX (X : Cx) (C : Ct) (P : Pg) (F : Fs) (k : Nat) : Prop := ∀ c cl f, P.cls[c]? = some cl → cl.kind.pl = true → P.fns[cl.init]? = some f → f.kind = .inS → MkSt X C k c (C.fa cl.init) (F.ini cl.init)
theorem mkSD_ok {F : Fs} {c : Nat} {ds : List D} {Q : VK} (p : PQ C Z σ Q W H (mkSD P F c ds S)) : ∃ cl f, P.cls[c]? = some cl ∧ cl.kind.pl = true ∧ P.fns[cl.init]? = some f ∧ f.kind = .inS ∧ PQ C Z σ Q W H ((iniS (F.ini cl.init) c [] [] ds S).bind fun q S1 => .ok (.obj c q.1 q.2) S1) := by
  unfold mkSD at p
  split at p
  · rename_i cl e
    split at p
    · rename_i f ef
      split at p
      · rename_i h
        refine ⟨cl, f, e, h.1, ef, h.2.1, ?_⟩
        unfold iniS
        rw [if_pos h.2.2]
        exact p
      · exact p.elim
    · exact p.elim
  · exact p.elim
theorem okS_kp {F : Fs} {k c : Nat} (T : MkSX X C P F k) (h : okS P c = true) : PySem.W.keepIn X.K (.ref (C.ca c)) = true := by
  unfold okS at h
  split at h
  · rename_i cl e
    rw [Bool.and_eq_true] at h
    obtain ⟨h1, h2⟩ := h
    split at h2
    · rename_i f ef
      exact (T c cl f e h1 ef (of_decide_eq_true h2)).mkc.kp
    · cases h2
  · cases h
/-- C(a, ..) -/
theorem de_mkS {F : Fs} {k c : Nat} {x : Str} (T : MkSX X C P F k) (hok : okS P c = true) (hmg : X.mg x = some (.ref (C.ca c))) (hr : Room (k + 1) X.A) (hg : X.A.guards = some []) (tk : Takes X Z)
    (hgl : Gl X x) (hdb : (x == ("__debug__" : Str)) = false) (hs : noStar es) (ha : PA X es (tAs C Z ms)) (h0 : es = [] → ms = fun _ S => .ok [] S) :
    PE X (.Call (.Name x p) es [] pos) (tE C Z fun ρ S => (ms ρ S).bind fun ds S1 => mkSD P F c ds S1) := by
  refine ⟨fun pins s σ H Q I h => ?_⟩
  have hk := okS_kp T hok
  refine wpAny_Call_Name_kw (ld_glob I hgl hmg ?_ hdb)
  have fin : ∀ s2 H2 us ws vs ys, Inv X pins σ H2 s2 → Vals vs us → Vals ys ws → (∃ W S ds, RelH C W H2 S ∧ DenL C W ds vs ∧ PQ C Z σ Q W H2 (mkSD P F c ds S)) → wpAny (model X.prog X.w) X.A (call (.ref (C.ca c)) ([] ++ us) (([] : List Str).zip ws)) (EP X pins σ Q) X.xe s2 := by
    rintro s2 H2 us ws vs ys I2 r1 r2 ⟨W, S, ds, rh, d1, p⟩
    obtain ⟨cl, f, e1, e2, e3, e4, p⟩ := mkSD_ok p
    exact mkS_go (T c cl f e1 e2 e3 e4) hr hg tk I2 r1 rh d1 p
  obtain ⟨W, H0, U, ρ, S, rh, rs, pp⟩ := h
  cases es with
  | nil =>
    refine with_args0 (ks := []) (R := fun vs ys H2 => ∃ W S ds, RelH C W H2 S ∧ DenL C W ds vs ∧ PQ C Z σ Q W H2 (mkSD P F c ds S)) hk rfl pk_nil I ?_ fin
    obtain rfl := h0 rfl
    exact ⟨W, S, [], rh, DenL.nil, pp⟩
  | cons e0 es0 =>
    refine with_args (ks := []) (R := fun vs ys H2 => ∃ W S ds, RelH C W H2 S ∧ DenL C W ds vs ∧ PQ C Z σ Q W H2 (mkSD P F c ds S)) hk hs rfl ha pk_nil I ?_ fin
    refine ⟨W, H0, U, ρ, S, rh, rs, (Post.bind pp).mono ?_⟩
    rintro W1 H1 ds ⟨st, S1, rh1, eo, p1⟩ u hu
    exact ⟨W1, S1, ds, rh1, hu, p1⟩
/-- C(*e), by the class that stands there -/
theorem star_go {F : Fs} {k c : Nat} (T : MkSX X C P F k) (hok : okS P c = true) (hr : Room (k + 1) X.A) (hg : X.A.guards = some []) (tk : Takes X Z) {Q : VK} {H0 : Hp} {U : List Addr} {ρ : Ro}
    (I : Inv X pins σ H s) (he : PE X e (tE C Z m)) (rh : RelH C W H S) (rs : RelS C W H0 U σ H ρ) (pp : PQ C Z σ Q W H ((m ρ S).bind fun x S1 => mkTD P F c x S1)) :
    wpAny (model X.prog X.w) X.A (callWith pos (.ref (C.ca c)) [] (backTo pos (starEach [.Starred e p2] X.env)) (backToKw pos (keywordEach [] X.env))) (EP X pins σ Q) X.xe s := by
  have hk := okS_kp T hok
  refine PySem.W.callWith_S (h₀ := X.base) I.ok.mod.kin hk (thn (he.run pins s σ H (fun u H1 => ∃ W1 S1 x, RelH C W1 H1 S1 ∧ Den C W1 x u ∧ PQ C Z σ Q W1 H1 (mkTD P F c x S1)) I ⟨W, H0, U, ρ, S, rh, rs, (Post.bind pp).mono ?_⟩) fun v s1 hh => ?_) rfl
  · rintro W1 H1 x ⟨st, S1, rh1, eo, p1⟩ u hu
    exact ⟨W1, S1, x, rh1, hu, p1⟩
  · obtain ⟨y, H1, I1, ry, W1, S1, x, rh1, hu, p1⟩ := hh
    unfold mkTD at p1
    split at p1
    · rename_i ds ed
      obtain ⟨q, ys, rfl, hq, dl⟩ := starD_den (K := X.K) rh1 ed hu
      obtain rfl : v = Value.ref q := ry
      refine StX.star_any I1 hq fun us s2 I2 rv => ⟨I2.kIn, ?_⟩
      obtain ⟨cl, f, e1, e2, e3, e4, p1⟩ := mkSD_ok p1
      exact mkS_go (T c cl f e1 e2 e3 e4) hr hg tk I2 rv rh1 dl p1
    · exact p1.elim
theorem de_mkT {F : Fs} {k c : Nat} {x : Str} (T : MkSX X C P F k) (hok : okS P c = true) (hmg : X.mg x = some (.ref (C.ca c))) (hr : Room (k + 1) X.A) (hg : X.A.guards = some []) (tk : Takes X Z)
    (hgl : Gl X x) (hdb : (x == ("__debug__" : Str)) = false) (he : PE X e (tE C Z m)) :
    PE X (.Call (.Name x p) [.Starred e p2] [] pos) (tE C Z fun ρ S => (m ρ S).bind fun x S1 => mkTD P F c x S1) := by
  refine ⟨fun pins s σ H Q I h => ?_⟩
  refine wpAny_Call_Name_kw (ld_glob I hgl hmg ?_ hdb)
  obtain ⟨W, H0, U, ρ, S, rh, rs, pp⟩ := h
  exact star_go T hok hr hg tk I he rh rs pp
/-- cls(*e) -/
def mMkV (P : Pg) (F : Fs) (i : Nat) (m : Ro → Store → Out D) : Ro → Store → Out D := fun ρ S => match (ρ[i]? : Option (Option Sl)) with
    | some (some (.sh (.cls c))) => if okS P c then (m ρ S).bind fun x S1 => mkTD P F c x S1 else .stk
    | _ => .stk
end
end DL
end
-- DLB7
section
set_option maxHeartbeats 4000000
namespace DL
open PySem PySem.Spec L2
section
variable {C : Ct} {P : Pg} {Z : WX} {X : Cx} {e : Expr} {es : List Expr} {m : Ro → Store → Out D} {ms : Ro → Store → Out (List D)} {pos p p2 ap : Pos} {pins : List (Addr × Obj)} {σ : L2.St} {H : Hp} {s : Shared} {W : Wd} {S : Store}
/-- cls(*e) -/
theorem de_mkV {F : Fs} {k i : Nat} {x : Str} (T : MkSX X C P F k) (hr : Room (k + 1) X.A) (hg : X.A.guards = some []) (tk : Takes X Z)
    (hi : X.N[i]? = some x) (hv : Vis X.env.scope x) (hd : (x == ("__debug__" : Str)) = false) (hcd : (x == ("__classdict__" : Str)) = false) (he : PE X e (tE C Z m)) :
    PE X (.Call (.Name x p) [.Starred e p2] [] pos) (tE C Z (mMkV P F i m)) := by
  refine ⟨fun pins s σ H Q I h => ?_⟩
  obtain ⟨W, H0, U, ρ, S, rh, rs, pp⟩ := h
  unfold mMkV at pp
  split at pp
  · rename_i c ei
    split at pp
    · rename_i ho
      obtain ⟨v, ev, hv'⟩ := rs.sl i _ ei
      have hv' : Den C W (.cls c) v := hv'
      rw [den_cls hv'] at ev
      refine wpAny_Call_Name_kw (thn ((pe_slot (p := p) hi hv hd hcd).run pins s σ H (fun v H1 => v = .ref (C.ca c) ∧ H1 = H) I ⟨_, ev, rfl, rfl⟩) fun u s1 hh => ?_)
      obtain ⟨v1, H1, I1, r1, rfl, rfl⟩ := hh
      cases (show u = Value.ref (C.ca c) from r1)
      exact star_go T ho hr hg tk I1 he rh rs pp
    · exact pp.elim
  · exact pp.elim
/-! ### C.m(..) -/
/-- a def by position, its code -/
theorem call_code {k : Nat} {f : Addr} {fn : Fn} {F : List D → Store → Out D} {n : Nat} (T : ∃ fd dU, FnG X.prog X.w X.K X.mg X.base k f fd fn.ps (spD C F) ∧ DflOk fn.dfl dU ∧ BindOk X.K fd fn.ps dU n []) (hr : Room k X.A) (hg : X.A.guards = some []) (tk : Takes X Z)
    {Q : VK} {us : List Value} {vs : List V} {ds : List D} (I : Inv X pins σ H s) (r1 : Vals vs us) (rh : RelH C W H S) (d1 : DenL C W ds vs) (hn : ds.length = n)
    (p : PQ C Z σ Q W H (callF fn F [] ds [] S)) : codeAny (model X.prog X.w) X.A (.call (.ref f) ⟨us, []⟩) (fun r s' => match r with | .ok (.ret v) => EP X pins σ Q v s' | .ok _ => False | .error e => X.xe e s') s := by
  obtain ⟨fd, dU, G, hd, hb⟩ := T
  unfold callF at p
  rw [if_pos (show ([] : List Str).length = ([] : List D).length from rfl)] at p
  split at p
  · rename_i r e
    obtain ⟨rv, ru, e', dr, vr⟩ := bind_all (ks := []) (ws := []) hd e d1 DenL.nil r1 .nil
    have l1 : us.length = n := by rw [← r1.length, ← d1.length, hn]
    have hbt := hb s us [] ru I.kIn l1 rfl e'
    refine codeAny_mono (G.run X.A X.stack s H ⟨us, []⟩ ru rv Q (WE Z σ) hr hg I.env0 hbt vr (by rw [← dr.length, bindG_len _ e]) ⟨W, r, S, rh, dr, p⟩) fun rr s' hq => ?_
    cases rr with
    | error e => exact passAt tk σ pins H s e s' I hq
    | ok fl =>
      cases fl with
      | ret u => exact I.after hq
      | next => exact False.elim hq
      | brk => exact False.elim hq
      | cont => exact False.elim hq
  · exact p.elim
theorem callD_eq {F : Fs} {j : Nat} {fn : Fn} (ef : P.fns[j]? = some fn) (ds : List D) (S : Store) : callD P F j ds [] [] S = callF fn (F.fn j) [] ds [] S := by
  unfold callD
  rw [ef]
  rfl
/-- C.m(e, ..), m a classmethod -/
theorem de_cm {F : Fs} {k c j : Nat} {x mm : Str} {fn : Fn} {pA : Addr} {mc : Value} (r : ClX.CRead X.K (C.ca c) mc) (cm : ClX.CMet X.K (C.ca c) mc mm pA (C.fa j)) (ef : P.fns[j]? = some fn)
    (G : ∃ fd dU, FnG X.prog X.w X.K X.mg X.base k (C.fa j) fd fn.ps (spD C (F.fn j)) ∧ DflOk fn.dfl dU ∧ BindOk X.K fd fn.ps dU ((e :: es).length + 1) []) (hr : Room k X.A) (hg : X.A.guards = some []) (tk : Takes X Z)
    (hgl : Gl X x) (hdb : (x == ("__debug__" : Str)) = false) (hmg : X.mg x = some (.ref (C.ca c))) (hl : (ap.endLine == pos.line) = true) (hf : methodCallForm ((e :: es).length + ([] : List Keyword).length) (backTo pos (starEach (e :: es) X.env)) (backToKw pos (keywordEach [] X.env)) = true)
    (hs : noStar (e :: es)) (ha : PA X (e :: es) (tAs C Z ms)) (hlen : ∀ ρ S ds S', ms ρ S = .ok ds S' → ds.length = (e :: es).length) :
    PE X (.Call (.Attribute (.Name x p) mm ap) (e :: es) [] pos) (tE C Z fun ρ S => (ms ρ S).bind fun ds S1 => callD P F j (.cls c :: ds) [] [] S1) := by
  refine ⟨fun pins s σ H Q I h => ?_⟩
  have ht := mcall_eq (o := .Name x p) (name := mm) (env := X.env) hl hf
  refine PySem.W.methodCall_KW (ld_glob I hgl hmg ?_ hdb) ht
  refine ClX.getmethcm_ok I r cm fun s2 I2 => ?_
  refine ClX.callwith_cm I2 (ClX.base_none I (Nat.le_refl _)) cm.fi (thn (ha.run pos _ s2 σ H (fun vs H2 => ∃ W S ds, RelH C W H2 S ∧ DenL C W ds vs ∧ ds.length = (e :: es).length ∧ PQ C Z σ Q W H2 (callD P F j (.cls c :: ds) [] [] S)) I2 ?_) fun us s3 hh => ?_) (star_of fun x p => hs e (List.mem_cons_self ..) x p) (star_all fun e' he => hs e' (List.mem_cons_of_mem _ he))
  · obtain ⟨W, H0, U, ρ, S, rh, rs, pp⟩ := h
    refine ⟨W, H0, U, ρ, S, rh, rs, (Post.bind pp).mono ?_⟩
    rintro W1 H1 ds ⟨st, S1, rh1, eo, p1⟩ u hu
    exact ⟨W1, S1, ds, rh1, hu, hlen ρ S ds S1 eo, p1⟩
  · obtain ⟨vs, H2, I3, rv, W2, S2, ds, rh2, dl, hl2, p2⟩ := hh
    refine ⟨⟨ClX.pin_at I3, I3.kIn⟩, ?_⟩
    rw [callD_eq ef] at p2
    have z : wpAny (model X.prog X.w) X.A (call (.ref s.heap.objs.size) us) (EP X ((s.heap.objs.size, PySem.W.methodObj (.ref (C.fa j)) (.ref (C.ca c))) :: pins) σ Q) X.xe s3 :=
      wpAny_call (PySem.W.method_call (ClX.pin_at I3) (call_code (n := (e :: es).length + 1) G hr hg tk I3 (.cons (show RelV (.ref (C.ca c)) (.ref (C.ca c)) from rfl) rv) rh2 (DenL.cons (by unfold Den; rfl) dl) (by rw [List.length_cons, hl2]) p2))
    exact thn z fun _ _ y => ClX.unpinE y
/-- C.m(e, ..), m a static method -/
structure SMet (K : PySem.W.Frag) (C : Addr) (m : Str) (p g : Addr) : Prop where
  at_ : PySem.W.findCls K (.ref C) (.type "type") m = some (.get (.builtin "staticmethod.__get__") (.ref p) .none (.ref C))
  rc : ∃ rest, PySem.W.recIn K p "staticmethod" = some (.ref g :: rest)
theorem de_sm {F : Fs} {k c j : Nat} {x mm : Str} {fn : Fn} {pA : Addr} (r : ClX.CRead X.K (C.ca c) (.type "type")) (sm : SMet X.K (C.ca c) mm pA (C.fa j)) (ef : P.fns[j]? = some fn) (hkp : PySem.W.keepIn X.K (.ref (C.fa j)) = true)
    (G : ∃ fd dU, FnG X.prog X.w X.K X.mg X.base k (C.fa j) fd fn.ps (spD C (F.fn j)) ∧ DflOk fn.dfl dU ∧ BindOk X.K fd fn.ps dU (e :: es).length []) (hr : Room k X.A) (hg : X.A.guards = some []) (tk : Takes X Z)
    (hgl : Gl X x) (hdb : (x == ("__debug__" : Str)) = false) (hmg : X.mg x = some (.ref (C.ca c))) (hl : (ap.endLine == pos.line) = true) (hf : methodCallForm ((e :: es).length + ([] : List Keyword).length) (backTo pos (starEach (e :: es) X.env)) (backToKw pos (keywordEach [] X.env)) = true)
    (hs : noStar (e :: es)) (ha : PA X (e :: es) (tAs C Z ms)) (hlen : ∀ ρ S ds S', ms ρ S = .ok ds S' → ds.length = (e :: es).length) :
    PE X (.Call (.Attribute (.Name x p) mm ap) (e :: es) [] pos) (tE C Z fun ρ S => (ms ρ S).bind fun ds S1 => callD P F j ds [] [] S1) := by
  refine ⟨fun pins s σ H Q I h => ?_⟩
  have ht := mcall_eq (o := .Name x p) (name := mm) (env := X.env) hl hf
  refine PySem.W.methodCall_KW (ld_glob I hgl hmg ?_ hdb) ht
  obtain ⟨rest, hp⟩ := sm.rc
  refine PySem.W.method_cls I.kIn r.ga (PySem.W.cls_bind I.kIn r.rd sm.at_ (wpAny_call (PySem.W.sm_get (s := { s with toks := s.toks + 1 }) I.kIn hp (PySem.W.handed_on rfl ?_))))
  have I1 : Inv X pins σ H { s with toks := s.toks + 1 } := I.tok _
  refine with_args (ks := []) (first := []) (R := fun vs ys H2 => ∃ W S ds, RelH C W H2 S ∧ DenL C W ds vs ∧ ds.length = (e :: es).length ∧ PQ C Z σ Q W H2 (callD P F j ds [] [] S)) hkp hs rfl ha pk_nil I1 ?_ ?_
  · obtain ⟨W, H0, U, ρ, S, rh, rs, pp⟩ := h
    refine ⟨W, H0, U, ρ, S, rh, rs, (Post.bind pp).mono ?_⟩
    rintro W1 H1 ds ⟨st, S1, rh1, eo, p1⟩ u hu
    exact ⟨W1, S1, ds, rh1, hu, hlen ρ S ds S1 eo, p1⟩
  · rintro s2 H2 us ws vs ys I2 r1 r2 ⟨W2, S2, ds, rh2, dl, hl2, p2⟩
    rw [callD_eq ef] at p2
    exact wpAny_call (call_code G hr hg tk I2 r1 rh2 dl hl2 p2)
/-! ### displays with stars -/
theorem de_dispL (h : PA X es (tAs C Z ms)) : PE X (.List es pos) (tE C Z fun ρ S => (ms ρ S).bind fun xs S1 => if xs.length ≤ most then .ok (if false = true then .tup xs else .lst xs) S1 else .stk) := de_lst h
theorem de_dispT {k : Nat} (h : PA X es (tAs C Z ms)) : PE X (.Tuple es k pos) (tE C Z fun ρ S => (ms ρ S).bind fun xs S1 => if xs.length ≤ most then .ok (if true = true then .tup xs else .lst xs) S1 else .stk) := de_tup h
theorem da_star (he : PE X e (tE C Z m)) (hr : PA X es (tAs C Z ms)) :
    PA X (.Starred e p :: es) (tAs C Z fun ρ S => (m ρ S).bind fun d S1 => (match starD d with
      | some xs => (ms ρ S1).bind fun ys S2 => .ok (xs ++ ys) S2
      | none => .stk)) :=
  PA.imp (StX.pa_star he hr rfl) fun σ H Q h => by
    obtain ⟨W, H0, U, ρ, S, rh, rs, pp⟩ := h
    refine ⟨W, H0, U, ρ, S, rh, rs, (Post.bind pp).mono ?_⟩
    rintro W1 H1 d ⟨st, S1, rh1, _, p1⟩ u hu
    cases ed : starD d with
    | none =>
      rw [ed] at p1
      exact p1.elim
    | some xs =>
      rw [ed] at p1
      obtain ⟨a, ys, rfl, hq, dl⟩ := starD_den (K := X.K) rh1 ed hu
      refine ⟨a, ys, rfl, hq, W1, H0, U, ρ, S1, rh1, rs.step st, (Post.bind p1).mono ?_⟩
      rintro W2 H2 zs ⟨st2, S2, rh2, _, p2⟩ vs hv
      exact p2 W2 H2 (Step.refl _ _ _) rh2 _ ((DenL.ext st2.x _ _ dl).append hv)
end
end DL
end
-- DLB8
section
set_option maxHeartbeats 4000000
namespace DL
open PySem PySem.Spec L2
open PyProof.Rows
section
variable {X : Cx}
theorem ps_setDc {i : Nat} {y : Str} {py : Pos} {kx vx tg iter : Expr} {ifs : List Expr} {scope : Scope} {own : List (Str × Nat)} {pos spos : Pos} {wi : TI} {g : TG} {tt : TT} {tk tv : TE} (hc : X.calm = true) (hN : X.N.Nodup) (hy : X.N[i]? = some y) (hyl : X.env.scope.names.lookup y = some .local)
    (hsw : swapsWith (.DictComp kx vx [⟨tg, iter, ifs, 0⟩] scope pos) (some (.Name y py)) spos.line X.env = pure true) (hi : PI X tg iter wi) (ok : BlkOk X.N X.env.scope scope own)
    (hg : ∀ (s : Shared) (H : Hp) (C : Addr) (cl : List (Str × Addr)) (fp : List Addr), PG (X.blk s H scope (compEnvC scope cl C X.env) fp) tg g) (ht : ∀ (s : Shared) (H : Hp) (C : Addr) (cl : List (Str × Addr)) (fp : List Addr), PTs (X.blk s H scope (compEnvC scope cl C X.env) fp) ifs tt)
    (hk : ∀ (s : Shared) (H : Hp) (C : Addr) (cl : List (Str × Addr)) (fp : List Addr), PE (X.blk s H scope (compEnvC scope cl C X.env) fp) kx tk)
    (he : ∀ (s : Shared) (H : Hp) (C : Addr) (cl : List (Str × Addr)) (fp : List Addr), PE (X.blk s H scope (compEnvC scope cl C X.env) fp) vx tv) (hs : ∀ x, foldedSetIterable iter X.env x = pure x) :
    PS X (.Assign [.Name y py] (.DictComp kx vx [⟨tg, iter, ifs, 0⟩] scope pos) spos) (tAsg (tDc wi g tt tk tv (own.map (·.2))) (gName i)) := by
  refine ⟨fun pins s σ H D I h => ?_⟩
  rw [exec_Assign_Name_used _ _ _ _ hsw]
  refine wpAny_bind (wpAny_standAt (wpAny_bind ?_))
  show wpAny _ X.A (do let _ ← comprehension (.DictComp kx vx [⟨tg, iter, ifs, 0⟩] scope pos) scope X.env (firstIterPos [⟨tg, iter, ifs, 0⟩] pos) newDict false (eval iter X.env) (some (assign (.Name y py) X.env))) _ _ s
  have h : tDc wi g tt tk tv (own.map (·.2)) σ H (fun x H1 => gName i x σ H1 D.nx) := h
  refine wpAny_bind (thn (dc_core (Qf := fun _ s' => SP X pins D .next s') hc hN I hi ok hg ht hk he hs h fun L C s' m H' I' q hn f => ?_) fun _ s' hq => wpAny_pure (wpAny_pure hq))
  show wpAny _ _ (assign (.Name y py) X.env (.ref L)) _ _ _
  refine wpAny_assign_Name (store_ok2 (v := V.ref L) I' hN hy (.inl hyl) rfl (fun s2 I2 ⟨a, sb, ha⟩ => ?_) (.inr hyl))
  obtain ⟨f0, f1, f2, f3, f4, f5⟩ := f
  have haC : C ≠ a := by
    rcases ha with z | z
    · rw [z]; exact f1
    · exact fun e => f4 y a z e.symm
  refine ⟨m, hn.sameBut sb haC, fun h3 sb3 => ?_⟩
  exact ⟨_, H', I2.turned (t' := s2.toks) (fun b o hb e => (sb3.2 b hb).trans e) f0 f1 f3 f4 f5, q⟩
theorem sw_trueD {kx vx : Expr} {gs : List Comprehension} {scope : Scope} {pos py : Pos} {y : Str} {l : Nat} {env : Env} (hk : env.scope.kind = .function) (hy : env.scope.names.lookup y = some .local) (hl : (py.line == pos.line) = true)
    (ha : (scope.names.any fun (n, k) => n == y && (k == .local || k == .cell)) = false) : swapsWith (.DictComp kx vx gs scope pos) (some (.Name y py)) l env = pure true := by
  have ky : env.kindOf y = some .local := hy
  have hb : env.blockKind = .function := by
    unfold Env.blockKind
    rw [hk]
    rfl
  unfold swapsWith
  simp only [hb, ky, ha, Expr.pos, hl]
  rfl
end
section
variable {C : Ct} {Z : WX} {H0 : Hp} {U : List Addr} {X : Cx} {W0 : Wd} {mc : Ro → Store → Out Bool} {mk mv mi : Ro → Store → Out D} {i k : Nat} {kx vx it : Expr} {ifs : List Expr} {scope : Scope} {x y : Str} {p pos py spos : Pos}
theorem ss_dc (L : LcB X C scope i x p ifs kx mc mk) (L2 : LcB X C scope i x p ifs vx mc mv) (Y : LcY X k y py scope pos) (hset : ∀ v, foldedSetIterable it X.env v = pure v) (hi : PE X it (tE C Z mi)) :
    PS X (.Assign [.Name y py] (.DictComp kx vx [⟨.Name x p, it, ifs, 0⟩] scope pos) spos) (tS C Z W0 H0 U fun ρ S => (mDc i mi mc mk mv ρ S).then ρ fun d S1 => .nx (ρ.set k (some (.sh d))) S1) :=
  PS.imp (ps_setDc L.calm L.nd Y.hy Y.loc (sw_trueD Y.knd Y.loc Y.line Y.no) (pi_tup hi) L.ok L.g L.t L.e L2.e hset) fun E σ H h => dc_rd (exp_rd (k := fun d S1 ρ => .nx (ρ.set k (some (.sh d))) S1) h fun W1 H1 S1 ρ d v s1 r1 rs1 hv q => q _ W1 H1 s1 (Ext.refl _) r1 (rs1.sh hv))
variable {W0 : Wd} {e : Expr} {m : Ro → Store → Out D} {lp : Pos}
/-- x = list(e), an own list -/
theorem ss_ownL (hN : X.N.Nodup) (hi : X.N[i]? = some x) (hx : Loc X.env.scope x) (hf : X.fn x = true) (hgl : Gl X "list") (hml : X.mg "list" = none) (hst : ∀ x p, e ≠ .Starred x p) (he : PE X e (tE C Z m)) :
    PS X (.Assign [.Name x p] (.Call (.Name "list" lp) [e] [] pos) spos) (tS C Z W0 H0 U fun ρ S => (m ρ S).then ρ fun d S1 => match starD d with
      | some xs => .nx (ρ.set i (some (.owL xs))) S1
      | none => .stk) := by
  have hp : PE X (.Call (.Name "list" lp) [e] [] pos) _ := pe_callTy call_list_of hgl hml (by decide +kernel) (pa_cons he pa_nil (star_of hst)) (by decide) (by decide) (star_of hst) rfl
  refine PS.imp (ps_set hN hi hx hp rfl (.inl hf)) fun E σ H h => ?_
  obtain ⟨W, ρ, S, s0, rh, rs, q⟩ := h
  refine ⟨W, H0, U, ρ, S, rh, rs, ?_⟩
  refine st_exp s0 rs q fun d S1 W1 H1 _ s1 r1 q1 v hv => ?_
  cases ed : starD d with
  | none =>
    rw [ed] at q1
    exact q1.elim
  | some xs =>
    rw [ed] at q1
    obtain ⟨a, ys, rfl, hq, dl⟩ := starD_den (K := X.K) r1 ed hv
    refine ⟨a, ys, rfl, hq.symm, fun l hl => ?_⟩
    have fr := r1.fresh hl
    refine q1 _ W1 _ ((s0.trans s1.up).trans (Step.loose hl).up) (Ext.refl _) (r1.loose hl) ?_
    refine RelS.own (rs.step s1) hl (fun b hb => upd_ne hb) ⟨l, ys, rfl, upd_same, dl, fr.1, fr.2, ?_⟩
    exact (s0.trans s1.up).dom l hl
end
end DL
end
-- DLSet
section
set_option maxHeartbeats 4000000
namespace DL
open PySem PySem.Spec PyProof.Rows L2
/-! ### set(xs), xs a list of numbers -/
abbrev voidS (w : World) : Obj := ⟨.type "set", none, .set #[] 0 (.fresh 0 0 (!w.params.followText "set-order")), #[]⟩
section
variable {P : Program} {w : World} {A : Around} {E : Value → Shared → Prop} {s : Shared}
set_option maxHeartbeats 8000000 in
theorem call_setL {l : Addr} {its : Array Value} (ns : List Int) {Q : Value → Shared → Prop} (a0 : A.handled = none) (hl : s.heap.IsList l its) (hi : IntsAre its.toList ns) (hb : ns.length + 1 < scanBound)
    (q : ∀ (g : Heap) (tk c : Nat), SetR w g s.heap.objs.size (fun j => decide (j ∈ ns)) c → c ≤ ns.length → (∀ b o, s.heap.get? b = some o → g.get? b = some o) → Q (.ref s.heap.objs.size) { s with heap := g, toks := tk }) :
    wpAny (model P w) A (call (.type "set") [.ref l]) Q E s := by
  have len : its.size = ns.length := Array.length_toList.symm.trans (IntsAre.length hi)
  obtain ⟨c, tl, m1⟩ := F.called_set.mro
  have m2 := F.called_set.made
  have m3 := F.called_set.sub
  refine wpAny_call (codeAny_of_tree (show wpAny _ _ (callAny (.type "set") _) _ _ _ from wpAny_pure ⟨Code.quiet_builtin _ (by decide +kernel), codeAny_builtin F.entry_type_call ?_⟩))
  rw [Around.under_plain (weight_type_call_type "set" [.ref l] []) rfl]
  have m4 := F.called_set.notType
  have m5 := F.called_set.canCreate
  have m6 := F.typeCall_set_1 (.ref l)
  repeat (any_goals (first | assumption | wp_step))
  refine codeAny_mono (code_set_led1 (.ref l) (E := E) (Q₁ := fun ob t => ob = .ref s.heap.objs.size ∧ t = { s with heap := s.heap.push (voidS w) }) ⟨rfl, rfl⟩) fun r t hr => ?_
  cases r with
  | error e => exact hr
  | ok fl =>
    cases fl with
    | ret ob =>
      obtain ⟨rfl, rfl⟩ := hr
      have e0 : (s.heap.push (voidS w)).get? s.heap.objs.size = some (voidS w) := Heap.get?_push_size _ rfl
      have ty : Shared.TypeIs { s with heap := s.heap.push (voidS w) } (.ref s.heap.objs.size) "set" := ⟨_, e0, rfl⟩
      have n1 := F.called_set.init.lookup
      have n2 := F.called_set.init.bind (.ref s.heap.objs.size)
      repeat (any_goals (first | assumption | wp_step))
      refine codeAny_mono (codeAny_call_builtin (R := wants (fun r t => r = .none ∧ ∃ g tk c, t = { s with heap := g, toks := tk } ∧ SetR w g s.heap.objs.size (fun j => decide (j ∈ ns)) c ∧ c ≤ ns.length ∧ ∀ b o, s.heap.get? b = some o → g.get? b = some o) E)
        F.called_set.init.plain F.entry_set_init (check_set_init_1 ty ?_)) fun r2 t2 h2 => ?_
      · obtain ⟨ob, h1, h2, nl, h3⟩ := hl
        obtain ⟨oc, od, oa, os⟩ := ob
        dsimp only at h2 h3
        subst h2 h3
        have at1 : (s.heap.push (voidS w)).get? l = some ⟨.type "list", od, .seq its nl, os⟩ := Heap.get?_push_of_some _ h1
        have b1 := F.sub_list_set
        have b2 := F.sub_list_frozenset
        have b3 : (Value.type "list" == Value.type "dict") = false := by decide
        have isl : (s.heap.push (voidS w)).IsList l its := ⟨_, at1, rfl, nl, rfl⟩
        unfold Builtin.«set.__init__» noKeywords Builtin.Frozenset.updateFrom
        generalize hy : pyIter = Y
        wp_walk
        subst hy
        refine wpAny_pyIter_list isl (wpAny_bind (wpAny_runValue ?_))
        have lt : l < s.heap.objs.size := Heap.lt_size h1
        have sz : (s.heap.push (voidS w)).objs.size = s.heap.objs.size + 1 := Heap.size_push ..
        have ne1 : l ≠ (s.heap.push (voidS w)).objs.size := by
          rw [sz]
          exact Nat.ne_of_lt (Nat.lt_succ_of_lt lt)
        have nf : s.heap.objs.size ∉ [(s.heap.push (voidS w)).objs.size, l] := by
          rw [sz, List.mem_cons, List.mem_singleton]
          rintro (z | z)
          · exact absurd z (Nat.ne_of_lt (Nat.lt_succ_self _))
          · exact absurd z (Nat.ne_of_gt lt)
        have vals : ∀ (i : Nat) (v : Value), its[i]? = some v → ∃ k t, ns[i]? = some k ∧ v = .int k t := fun i v hv => by
          obtain ⟨t, e⟩ := IntsAre.int_at hi i v (by rw [Array.getElem?_toList]; exact hv)
          have h4 : i < ns.length := by
            rw [← len]
            exact (Array.getElem?_eq_some_iff.mp hv).1
          exact ⟨ns[i], t, List.getElem?_eq_getElem h4, by rw [e, List.getD_eq_getElem?_getD, List.getElem?_eq_getElem h4]; rfl⟩
        refine set_update_ints ((Walks.list (by simp [a0]) _ l ne1 its).toS) s.heap.objs.size nf ns len hb vals (its.size - 0) 0 _ (by omega) (Nat.zero_le _) ⟨⟨_, Heap.get?_push_size _ rfl, rfl, rfl⟩, isl.push _⟩ ⟨0, Nat.le_refl 0, setR_new_at (Heap.get?_push_of_some _ e0)⟩ fun t c' mv hc hS => ?_
        obtain ⟨g, g2, d2, tk, os2⟩ := t
        have x1 : g2 = s.gens := mv.gens
        have x2 : d2 = s.drawn := mv.drawn
        have x3 : os2 = s.os := mv.os
        subst x1 x2 x3
        refine (show wpAny _ _ _ _ _ _ from wpAny_pure (show wpAny _ _ (ret Value.none) _ _ _ from wpAny_pure ⟨rfl, g, tk, c', rfl, hS, by rw [← len]; exact hc, fun b o e => ?_⟩))
        have y0 : b < s.heap.objs.size := Heap.lt_size e
        refine mv.heap b o ?_ (Heap.get?_push_of_some _ (Heap.get?_push_of_some _ e))
        rw [sz, List.mem_cons, List.mem_singleton]
        rintro (z | z)
        · exact absurd z (Nat.ne_of_lt y0)
        · exact absurd z (Nat.ne_of_lt (Nat.lt_succ_of_lt y0))
      · cases r2 with
        | error e => exact h2
        | ok f2 =>
          cases f2 with
          | ret r =>
            obtain ⟨rfl, g, tk, c', rfl, hS, hc, hk⟩ := h2
            repeat (any_goals (first | assumption | wp_step))
            exact q g tk c' hS hc hk
          | _ => exact h2.elim
    | _ => exact hr.elim
end
variable {X : Cx}
/-- set(xs) -/
def rSetL (K : PySem.W.Frag) (w : World) : List V → Hp → VK → Prop := fun xs H Q => ∃ (l : Addr) (ns : List Int), xs = [V.ref l] ∧ SqL K H l (ns.map V.int) ∧ ns.length ≤ 4000 ∧ ∀ p c, H p = none → c ≤ ns.length → Q (.ref p) (upd H p (SetO w p (fun k => decide (k ∈ ns)) c))
theorem cr_setL (hc : X.calm = true) : CallR X (.type "set") (rSetL X.K X.w) := by
  intro pins s σ H xs us Q I r h
  obtain ⟨l, ns, rfl, hq, hl, q⟩ := h
  rw [Vals.ref1 r]
  obtain ⟨its, r2, pl, hz⟩ := I.list hq
  refine call_setL ns (I.ok.hd hc) pl.isList (by simpa using ints_of_vals r2) (by unfold scanBound; omega) fun g tk c hS hc hk => ?_
  exact ⟨.ref _, upd H s.heap.objs.size (SetO X.w s.heap.objs.size (fun k => decide (k ∈ ns)) c), I.laid hk (Nat.le_refl _) (setO_new hS), rfl, q _ _ (I.hok.fresh (Nat.le_refl _)) hc⟩
variable {C : Ct} {Z : WX} {m : Ro → Store → Out D} {e : Expr} {p1 p2 q1 pos : Pos}
theorem sortU_all {b : Int} : ∀ l : List Int, b ∈ sortU l ↔ b ∈ l := by
  have hi : ∀ (a : Int) (l : List Int), b ∈ insU a l ↔ b = a ∨ b ∈ l := by
    intro a l
    induction l with
    | nil => simp [insU]
    | cons y ys ih =>
      unfold insU
      split
      · simp
      · split
        · rename_i h
          subst h
          simp
        · simp only [List.mem_cons, ih]
          constructor
          · rintro (h | h | h) <;> simp [h]
          · rintro (h | h | h) <;> simp [h]
  intro l
  induction l with
  | nil => simp [sortU]
  | cons y ys ih =>
    unfold sortU
    rw [hi, ih, List.mem_cons]
theorem sortU_srt : ∀ l : List Int, (sortU l).Pairwise (· < ·) := by
  have mem : ∀ (a b : Int) (l : List Int), b ∈ insU a l → b = a ∨ b ∈ l := by
    intro a b l
    induction l with
    | nil => simp [insU]
    | cons y ys ih =>
      unfold insU
      split
      · simp
      · split
        · intro h
          exact .inr h
        · intro h
          rcases List.mem_cons.mp h with h | h
          · simp [h]
          · rcases ih h with h | h <;> simp [h]
  have hi : ∀ (a : Int) (l : List Int), l.Pairwise (· < ·) → (insU a l).Pairwise (· < ·) := by
    intro a l
    induction l with
    | nil => simp [insU]
    | cons y ys ih =>
      intro h
      have hp := List.pairwise_cons.mp h
      unfold insU
      split
      · rename_i lt
        refine List.pairwise_cons.mpr ⟨fun b hb => ?_, h⟩
        rcases List.mem_cons.mp hb with rfl | hb
        · exact lt
        · have := hp.1 b hb
          omega
      · split
        · exact h
        · refine List.pairwise_cons.mpr ⟨fun b hb => ?_, ih hp.2⟩
          rcases mem a b ys hb with rfl | hb
          · omega
          · exact hp.1 b hb
  intro l
  induction l with
  | nil => exact List.Pairwise.nil
  | cons y ys ih => exact hi y _ ih
theorem srt_one : ∀ {a b : List Int}, a.Pairwise (· < ·) → b.Pairwise (· < ·) → (∀ c, c ∈ a ↔ c ∈ b) → a = b
  | [], [], _, _, _ => rfl
  | [], y :: ys, _, _, h => absurd ((h y).mpr (List.mem_cons_self ..)) (by simp)
  | x :: xs, [], _, _, h => absurd ((h x).mp (List.mem_cons_self ..)) (by simp)
  | x :: xs, y :: ys, ha, hb, h => by
    have pa := List.pairwise_cons.mp ha
    have pb := List.pairwise_cons.mp hb
    have e : x = y := by
      rcases List.mem_cons.mp ((h x).mp (List.mem_cons_self ..)) with e | hx
      · exact e
      · rcases List.mem_cons.mp ((h y).mpr (List.mem_cons_self ..)) with e | hy
        · exact e.symm
        · have h1 := pb.1 x hx
          have h2 := pa.1 y hy
          omega
    subst e
    rw [srt_one pa.2 pb.2 fun c => ?_]
    constructor
    · intro hc
      rcases List.mem_cons.mp ((h c).mp (List.mem_cons_of_mem _ hc)) with e | hc'
      · have := pa.1 c hc
        omega
      · exact hc'
    · intro hc
      rcases List.mem_cons.mp ((h c).mpr (List.mem_cons_of_mem _ hc)) with e | hc'
      · have := pb.1 c hc
        omega
      · exact hc'
/-- sorted(set(e)) -/
theorem de_sset (hc : X.calm = true) (hg : Gl X "sorted") (hm : X.mg "sorted" = none) (hg2 : Gl X "set") (hm2 : X.mg "set" = none) (hst : ∀ y q, e ≠ .Starred y q) (he : PE X e (tE C Z m)) :
    PE X (.Call (.Name "sorted" p1) [.Call (.Name "set" p2) [e] [] q1] [] pos) (tE C Z fun ρ S => (m ρ S).bind ssetD) := by
  have i1 := pe_callTy (cr_setL (X := X) hc) hg2 hm2 (by decide +kernel) (pa_cons he pa_nil (star_of hst)) (by decide) (by decide) (star_of hst) rfl (p := p2) (pos := q1)
  refine PE.imp (pe_callB (cr_sortedSet hc) hg hm (by decide +kernel) (pa_cons i1 pa_nil rfl) (by decide) (by decide) rfl rfl) fun σ H Q h => ?_
  obtain ⟨W, H0, U, ρ, S, rh, rs, q⟩ := h
  refine ⟨W, H0, U, ρ, S, rh, rs, (Post.bind q).mono ?_⟩
  rintro W1 H1 d ⟨st, S1, rh1, _, p1⟩ u hu
  unfold ssetD at p1
  split at p1
  · rename_i xs
    split at p1
    · rename_i ns e0
      split at p1
      · rename_i hl
        obtain ⟨a, ys, rfl, ga, ha, dl⟩ := den_lst hu rh1
        rw [intsD_ok e0] at dl
        rw [denL_ints dl] at ha
        refine ⟨a, ns, rfl, SqL.of ha, by omega, fun p c hp hcn => ⟨p, _, c, rfl, upd_same, by omega, fun ns' p' hs hm' hl' hp' => ?_⟩⟩
        have en : ns' = sortU ns := srt_one hs (sortU_srt ns) fun k => by
          rw [hm', sortU_all]
          simp
        subst en
        have nt : ∀ ps, SetO X.w p (fun k => decide (k ∈ ns)) c ≠ .tbl ps := fun ps z => nomatch z
        have p2 := Post.step p1 (Step.loose (W := W1) (o := SetO X.w p (fun k => decide (k ∈ ns)) c) hp)
        refine PQ.new p2 (rh1.loose hp nt) hp' ?_
        unfold Den
        exact ⟨p', _, rfl, upd_same, of_ints⟩
      · exact p1.elim
    · exact p1.elim
  · exact p1.elim
end DL
end
-- DLChk
section
set_option maxHeartbeats 4000000
namespace DL
open PySem PySem.Spec L2
open LamX
/-! ### the check: a term against the text -/
def visK (k : Option NameKind) : Bool := decide (k = some .local) || decide (k = some .cell) || decide (k = some .free)
def locK (k : Option NameKind) : Bool := decide (k = some .local) || decide (k = some .cell)
def oddB (x : Str) : Bool := x == ("__debug__" : Str) || x == ("__classdict__" : Str)
def visB (N : List Str) (sc : Scope) (i : Nat) (x : Str) : Bool := decide (N[i]? = some x) && visK (sc.names.lookup x) && !oddB x
def locB (N : List Str) (sc : Scope) (i : Nat) (x : Str) : Bool := decide (N[i]? = some x) && locK (sc.names.lookup x) && !oddB x
def glB (sc : Scope) (x : Str) : Bool := decide (sc.names.lookup x = some .globalImplicit) && !oddB x
def tyB (x : Str) (n : String) : Bool := (x == ("int" : Str) && n == "int") || (x == ("bool" : Str) && n == "bool") || (x == ("str" : Str) && n == "str") || (x == ("list" : Str) && n == "list") || (x == ("tuple" : Str) && n == "tuple") || (x == ("dict" : Str) && n == "dict") || (x == ("ValueError" : Str) && n == "ValueError")
def biName : Bi → Str
  | .len => "len"
  | .abs => "abs"
  | .int => "int"
  | .repr => "repr"
  | .list => "list"
  | .isinst => "isinstance"
  | .max => "max"
  | .min => "min"
  | .tuple => "tuple"
def starB : Expr → Bool
  | .Starred _ _ => true
  | _ => false
def sliceB : Expr → Bool
  | .Slice _ _ _ _ => true
  | _ => false
def compB : Expr → Bool
  | .ListComp _ _ _ _ => true
  | .SetComp _ _ _ _ => true
  | .DictComp _ _ _ _ _ => true
  | _ => false
/-- an attribute's base that is no super() -/
def baseB : Expr → Bool
  | .Call (.Name id _) [] [] _ => id != ("super" : Str)
  | _ => true
def noArgs : Arguments → Bool
  | ⟨[], [], none, [], [], none, []⟩ => true
  | _ => false
def tstB (_ : RE) : Bool := true
def kwsB (kws : List Keyword) (ks : List Str) : Bool := decide (kws.map (·.arg) = ks.map some)
def fnB (P : Pg) (j : Nat) (k : FK) (x : Str) (sh : Nat × List Str) : Bool := match P.fns[j]? with
  | some f => decide (f.at_ = (x, none)) && decide (f.kind = k) && f.shapes.contains sh
  | none => false
def mkB (P : Pg) (c : Nat) (x : Str) (sh : Nat × List Str) : Bool := match P.cls[c]? with
  | some cl => decide (cl.name = x) && cl.kind.pl && (match P.fns[cl.init]? with
    | some f => decide (f.kind = .ini) && f.shapes.contains sh
    | none => false)
  | none => false
def setB_ : Expr → Bool
  | .Set _ _ _ => true
  | _ => false
def catB (P : Pg) (c : Nat) (x f : Str) (v : Int) : Bool := match P.cls[c]? with
  | some cl => decide (cl.name = x) && cl.kind.pl && cl.catt.contains (f, v)
  | none => false
/-- every method of this name takes this form -/
def metB (P : Pg) (m : Str) (sh : Nat × List Str) : Bool := P.cls.all fun cl => match cl.meths.lookup m with
  | some j => (match P.fns[j]? with
    | some f => decide (f.kind = .fn) && f.shapes.contains sh
    | none => false)
  | none => true
/-- every own == takes two -/
def eqB (P : Pg) : Bool := P.cls.all fun cl => match cl.meths.lookup ("__eq__" : Str) with
  | some j => (match P.fns[j]? with
    | some f => decide (f.kind = .fn) && f.shapes.contains (2, []) && decide (f.ps.length = 2)
    | none => false)
  | none => true
/-- every own __str__ takes one -/
def strB (P : Pg) : Bool := P.cls.all fun cl => match cl.meths.lookup ("__str__" : Str) with
  | some j => (match P.fns[j]? with
    | some f => decide (f.kind = .fn) && f.shapes.contains (1, []) && decide (f.ps.length = 1)
    | none => false)
  | none => true
/-- own special methods and how many they take -/
def specs : List (Str × Nat) := [("__len__", 1), ("__bool__", 1), ("__or__", 2), ("__and__", 2), ("__sub__", 2), ("__xor__", 2), ("__contains__", 2)]
def spB1 (P : Pg) (p : Str × Nat) : Bool := P.cls.all fun cl => match cl.meths.lookup p.1 with
  | some j => (match P.fns[j]? with
    | some f => decide (f.kind = .fn) && f.shapes.contains (p.2, []) && decide (f.ps.length = p.2)
    | none => false)
  | none => true
def spB (P : Pg) : Bool := specs.all (spB1 P)
def mkSB (P : Pg) (c : Nat) (x : Str) : Bool := okS P c && (match P.cls[c]? with
  | some cl => decide (cl.name = x)
  | none => false)
def cmB (P : Pg) (c : Nat) (x m : Str) (j : Nat) (sm : Bool) (n : Nat) : Bool := P.cms.contains (c, m, j, sm) && (match P.cls[c]? with
  | some cl => decide (cl.name = x)
  | none => false) && (match P.fns[j]? with
  | some f => decide (f.kind = .fn) && f.shapes.contains (if sm then n else n + 1, [])
  | none => false)
mutual
def chkE (P : Pg) (N : List Str) : RE → Scope → Bool → Expr → Bool
  | .var i, sc, _, e => (match e with
    | .Name x _ => visB N sc i x
    | _ => false)
  | .non, _, _, e => (match e with
    | .Constant .none _ _ => true
    | _ => false)
  | .bl b, _, _, e => (match e with
    | .Constant (.bool c) _ _ => b == c
    | _ => false)
  | .int i, _, _, e => (match e with
    | .Constant (.int j) _ _ => decide (i = j)
    | _ => false)
  | .str s, _, _, e => (match e with
    | .Constant (.str t) _ _ => decide (s = t)
    | _ => false)
  | .gint x i, sc, _, e => (match e with
    | .Name y _ => decide (x = y) && glB sc x && P.gints.contains (x, i)
    | _ => false)
  | .gcls x c, sc, _, e => (match e with
    | .Name y _ => decide (x = y) && glB sc x && (match P.cls[c]? with
      | some cl => decide (cl.name = x)
      | none => false)
    | _ => false)
  | .gty x n, sc, _, e => (match e with
    | .Name y _ => decide (x = y) && glB sc x && P.frees.contains x && tyB x n
    | _ => false)
  | .bin op a b, sc, l, e => (match e with
    | .BinOp x o y _ => decide (op = o) && chkE P N a sc l x && chkE P N b sc l y
    | _ => false)
  | .neg a, sc, l, e => (match e with
    | .UnaryOp .USub x _ => chkE P N a sc l x
    | _ => false)
  | .cmp op a b, sc, l, e => (match e with
    | .Compare x [o] [y] _ => decide (op = o) && !behindInMarks op y && chkE P N a sc l x && chkE P N b sc l y
    | _ => false)
  | .chain op op' a b c, sc, l, e => (match e with
    | .Compare x [o, o'] [y, z] _ => decide (op = o) && decide (op' = o') && !behindInMarks op y && !behindInMarks op' z && chkE P N a sc l x && chkE P N b sc l y && chkE P N c sc l z
    | _ => false)
  | .and es, sc, l, e => (match e with
    | .BoolOp .And xs _ => !es.isEmpty && es.all tstB && chkEs P N es sc l xs
    | _ => false)
  | .or es, sc, l, e => (match e with
    | .BoolOp .Or xs _ => !es.isEmpty && es.all tstB && chkEs P N es sc l xs
    | _ => false)
  | .not a, sc, l, e => (match e with
    | .UnaryOp .Not x _ => tstB a && chkE P N a sc l x
    | _ => false)
  | .ite c a b, sc, l, e => (match e with
    | .IfExp t x y _ => tstB c && chkE P N c sc l t && chkE P N a sc l x && chkE P N b sc l y
    | _ => false)
  | .tup es, sc, l, e => (match e with
    | .Tuple xs _ _ => chkEs P N es sc l xs
    | _ => false)
  | .lst es, sc, l, e => (match e with
    | .List xs _ => chkEs P N es sc l xs
    | _ => false)
  | .box es, sc, l, e => (match e with
    | .List xs _ => chkEs P N es sc l xs
    | _ => false)
  | .emp, _, _, e => (match e with
    | .Dict [] [] _ => true
    | _ => false)
  | .idx a i, sc, l, e => (match e with
    | .Subscript x y _ => !sliceB y && chkE P N a sc l x && chkE P N i sc l y
    | _ => false)
  | .cut a lo hi, sc, l, e => (match e with
    | .Subscript x (.Slice y z none _) _ => chkE P N a sc l x && chkO P N lo sc l y && chkO P N hi sc l z
    | _ => false)
  | .call j es ks kes, sc, l, e => (match e with
    | .Call (.Name x _) xs kws _ => glB sc x && fnB P j .fn x (es.length, ks) && kwsB kws ks && chkEs P N es sc l xs && chkEs P N kes sc l (kws.map (·.value))
    | _ => false)
  | .mk c es ks kes, sc, l, e => (match e with
    | .Call (.Name x _) xs kws _ => glB sc x && mkB P c x (es.length, ks) && kwsB kws ks && chkEs P N es sc l xs && chkEs P N kes sc l (kws.map (·.value))
    | _ => false)
  | .bi b es, sc, l, e => (match e with
    | .Call (.Name x _) xs [] _ => glB sc x && P.frees.contains x && decide (x = biName b) && !es.isEmpty && chkEs P N es sc l xs
    | _ => false)
  | .fld o f, sc, l, e => (match e with
    | .Attribute x g _ => decide (f = g) && baseB x && chkE P N o sc l x
    | _ => false)
  | .heard j body, sc, l, e => (match e with
    | .Call (.Name x _) [.Lambda ar lb ls _] [] _ => l && glB sc x && fnB P j .hrd x (1, []) && lamSB sc ls && noArgs ar && chkE P N body ls false lb
    | _ => false)
  | .lc e i k it c, sc, l, ex => (match ex with
    | .ListComp elt [⟨.Name x _, iter, ifs, a⟩] scope _ => decide (a = 0) && blkC N sc scope [(x, i)] && decide ((relS scope sc).names.lookup x = some .local) && chkE P N e (relS scope sc) false elt && chkC P N c (relS scope sc) ifs && (match k with
      | .rng => (match iter with
        | .Call (.Name y _) [r] [] _ => decide (y = ("range" : Str)) && glB sc y && P.frees.contains y && !starB r && chkE P N it sc l r
        | _ => false)
      | .lst => !setB_ iter && chkE P N it sc l iter
      | .tup => !setB_ iter && chkE P N it sc l iter)
    | _ => false)
  | .cat x c f v, sc, _, e => (match e with
    | .Attribute (.Name y _) g _ => decide (x = y) && decide (f = g) && glB sc x && catB P c x f v
    | _ => false)
  | .meth o m es ks kes, sc, l, e => (match e with
    | .Call (.Attribute x g ap) xs kws p => decide (m = g) && baseB x && (ap.endLine == p.line) && decide (es.length + ks.length < 28) && kwsB kws ks && metB P m (es.length + 1, ks) && chkE P N o sc l x && chkEs P N es sc l xs && chkEs P N kes sc l (kws.map (·.value))
    | _ => false)
  | .fmt r, sc, l, e => (match e with
    | .FormattedValue x c none _ => decide (c = -1) && chkE P N r sc l x
    | _ => false)
  | .fst es, sc, l, e => (match e with
    | .JoinedStr xs _ => decide (2 ≤ es.length) && chkEs P N es sc l xs
    | _ => false)
  | .strO r, sc, l, e => (match e with
    | .Call (.Name x _) [a] [] _ => decide (x = ("str" : Str)) && glB sc x && P.frees.contains x && !starB a && chkE P N r sc l a
    | _ => false)
  | .sfld f, sc, _, e => (match e with
    | .Attribute (.Name x _) g _ => decide (f = g) && visB N sc 0 x
    | _ => false)
  | .dc k v i kd it c, sc, l, ex => (match ex with
    | .DictComp kx vx [⟨.Name x _, iter, ifs, a⟩] scope _ => decide (a = 0) && decide (kd = .tup) && blkC N sc scope [(x, i)] && decide ((relS scope sc).names.lookup x = some .local) && chkE P N k (relS scope sc) false kx && chkE P N v (relS scope sc) false vx && chkC P N c (relS scope sc) ifs && !setB_ iter && chkE P N it sc l iter
    | _ => false)
  | .lcK r i j, sc, _, ex => (match ex with
    | .ListComp elt [⟨.Name x _, .Name y _, [], a⟩] scope _ => decide (a = 0) && blkC N sc scope [(x, i)] && decide ((relS scope sc).names.lookup x = some .local) && chkE P N r (relS scope sc) false elt && decide (i ≠ j) && visB N sc j y
    | _ => false)
  | .lc2 e i r1 r2 c, sc, l, ex => (match ex with
    | .ListComp elt [⟨.Name x _, .Call (.Name y _) [e1, e2] [] _, ifs, a⟩] scope _ => decide (a = 0) && blkC N sc scope [(x, i)] && decide ((relS scope sc).names.lookup x = some .local) && chkE P N e (relS scope sc) false elt && chkC P N c (relS scope sc) ifs && decide (y = ("range" : Str)) && glB sc y && P.frees.contains y && !starB e1 && !starB e2 && chkE P N r1 sc l e1 && chkE P N r2 sc l e2
    | _ => false)
  | .mkS c es, sc, l, e => (match e with
    | .Call (.Name x _) xs [] _ => glB sc x && mkSB P c x && chkEs P N es sc l xs
    | _ => false)
  | .mkT c r, sc, l, e => (match e with
    | .Call (.Name x _) [.Starred y _] [] _ => glB sc x && mkSB P c x && chkE P N r sc l y
    | _ => false)
  | .mkV i r, sc, l, e => (match e with
    | .Call (.Name x _) [.Starred y _] [] _ => visB N sc i x && chkE P N r sc l y
    | _ => false)
  | .cm c m j sm es, sc, l, e => (match e with
    | .Call (.Attribute (.Name x _) g ap) xs [] p => decide (m = g) && glB sc x && (ap.endLine == p.line) && decide (es.length < 28) && !es.isEmpty && cmB P c x m j sm es.length && chkEs P N es sc l xs
    | _ => false)
  | .o1 o r, sc, l, e => (match e with
    | .Call (.Name x _) [a] [] _ => decide (x = o1N o) && decide (o ≠ .bool) && glB sc x && P.frees.contains x && !starB a && chkE P N r sc l a
    | _ => false)
  | .sset r, sc, l, e => (match e with
    | .Call (.Name x _) [.Call (.Name y _) [e2] [] _] [] _ => decide (x = ("sorted" : Str)) && glB sc x && P.frees.contains x && decide (y = ("set" : Str)) && glB sc y && P.frees.contains y && !starB e2 && chkE P N r sc l e2
    | _ => false)
  | .rev r, sc, l, e => (match e with
    | .Subscript x (.Slice none none (some (.UnaryOp .USub (.Constant (.int k) _ _) _)) _) _ => decide (k = 1) && chkE P N r sc l x
    | _ => false)
  | .lrng a b, sc, l, e => (match e with
    | .Call (.Name x _) [.Call (.Name y _) [e1, e2] [] _] [] _ => decide (x = ("list" : Str)) && glB sc x && P.frees.contains x && decide (y = ("range" : Str)) && glB sc y && P.frees.contains y && !starB e1 && !starB e2 && chkE P N a sc l e1 && chkE P N b sc l e2
    | _ => false)
  | .lrng1 b, sc, l, e => (match e with
    | .Call (.Name x _) [.Call (.Name y _) [e2] [] _] [] _ => decide (x = ("list" : Str)) && glB sc x && P.frees.contains x && decide (y = ("range" : Str)) && glB sc y && P.frees.contains y && !starB e2 && chkE P N b sc l e2
    | _ => false)
  | .opr _ _ _, _, _, _ => false
  | .disp t bs es, sc, l, e => (match e with
    | .List xs _ => !t && chkSt P N bs es sc l xs
    | .Tuple xs _ _ => t && chkSt P N bs es sc l xs
    | _ => false)
def chkSt (P : Pg) (N : List Str) : List Bool → List RE → Scope → Bool → List Expr → Bool
  | bs, [], _, _, xs => bs.isEmpty && xs.isEmpty
  | bs, r :: rs, sc, l, xs => (match bs, xs with
    | true :: bs, .Starred x _ :: xs => chkE P N r sc l x && chkSt P N bs rs sc l xs
    | false :: bs, x :: xs => !starB x && chkE P N r sc l x && chkSt P N bs rs sc l xs
    | _, _ => false)
def chkC (P : Pg) (N : List Str) : Option RE → Scope → List Expr → Bool
  | none, _, xs => xs.isEmpty
  | some r, sc, xs => (match xs with
    | [x] => tstB r && chkE P N r sc false x
    | _ => false)
def chkEs (P : Pg) (N : List Str) : List RE → Scope → Bool → List Expr → Bool
  | [], _, _, xs => xs.isEmpty
  | r :: rs, sc, l, xs => (match xs with
    | x :: xs => !starB x && chkE P N r sc l x && chkEs P N rs sc l xs
    | [] => false)
def chkO (P : Pg) (N : List Str) : Option RE → Scope → Bool → Option Expr → Bool
  | none, _, _, x => x.isNone
  | some r, sc, l, x => (match x with
    | some x => chkE P N r sc l x
    | none => false)
end
end DL
end
-- DLSnd
section
set_option maxHeartbeats 4000000
namespace DL
open PySem PySem.Spec L2
open LamX PyProof.Rows
/-! ### the facts -/
/-- an own exception class that is raised -/
structure RaF (prog : Program) (w : World) (K : PySem.W.Frag) (mg : Str → Option Value) (base : Heap) (D : Addr) (flds : List Str) : Prop where
  oex : OexC K D
  ini : ∃ fI fd ps, PySem.W.findIn K (.ref D) "__init__" = some (some (.ref fI)) ∧ PySem.W.typeIn K (.ref fI) = some (.type "function") ∧ FnOk prog w K mg base (L2.CX prog w) 1 fI fd ps (exSp D flds) ∧ Binds K fd ps []
  sm : flds.length ≤ 800
/-- what an own == asks of the classes -/
structure EqF (K : PySem.W.Frag) (C : Ct) (P : Pg) (c : Nat) : Prop where
  nfT : ∀ t ∈ (["NoneType", "bool", "int", "str", "tuple", "list", "dict"] : List String), PySem.W.notFirst K (C.ca c) (.type t) = true
  nfC : ∀ c' cl', P.cls[c']? = some cl' → cl'.kind.pl = true → (c' = c ∨ cl'.anc.contains c = false) → PySem.W.notFirst K (C.ca c) (.ref (C.ca c')) = true
  ne : PySem.W.findIn K (.ref (C.ca c)) "__ne__" = some (some (.builtin "object.__ne__"))
  sb : ∀ t ∈ (["NoneType", "bool", "int", "str", "tuple", "list", "dict"] : List String), PySem.W.subIn K (.ref (C.ca c)) (.type t) = some false
  ob : PySem.W.subIn K (.ref (C.ca c)) (.type "object") = some true
structure Stat2 (K : PySem.W.Frag) (C : Ct) (P : Pg) : Prop where
  ct : ∀ c cl f v, P.cls[c]? = some cl → cl.kind.pl = true → cl.catt.contains (f, v) = true → PySem.W.readsIn K (C.ca c) (.type "type") = true ∧ ∃ t, PySem.W.findCls K (.ref (C.ca c)) (.type "type") f = some (.val (.int v t))
  me : ∀ c cl m j, P.cls[c]? = some cl → cl.kind.pl = true → cl.meths.lookup m = some j → Meth K (C.ca c) m (C.fa j)
  eb : eqB P = true
  sb : strB P = true
  sp : spB P = true
  eq : ∀ c cl j, P.cls[c]? = some cl → cl.kind.pl = true → cl.meths.lookup ("__eq__" : Str) = some j → EqF K C P c
structure Stat (prog : Program) (w : World) (K : PySem.W.Frag) (mg : Str → Option Value) (base : Heap) (C : Ct) (P : Pg) : Prop where
  kk : K = C.K
  s2 : Stat2 K C P
  cf : ClsF K C P
  exm : ∀ k cl c cl', P.cls[k]? = some cl → cl.kind.pl = false → P.cls[c]? = some cl' → cl'.kind.pl = false → PySem.W.exmOne K (.ref (C.ca k)) (.ref (C.ca c)) = some (cl.anc.contains c)
  gi : ∀ x i, P.gints.contains (x, i) = true → ∃ t, mg x = some (.int i t)
  gc : ∀ c cl, P.cls[c]? = some cl → mg cl.name = some (.ref (C.ca c))
  fr : ∀ x, P.frees.contains x = true → mg x = none
  fg : ∀ j f, P.fns[j]? = some f → f.at_.2 = none → mg f.at_.1 = some (.ref (C.fa j))
  kp : ∀ j f, P.fns[j]? = some f → PySem.W.keepIn K (.ref (C.fa j)) = true
  df : ∀ j f, P.fns[j]? = some f → DflOk f.dfl (C.dU j)
  bo : ∀ j f sh, P.fns[j]? = some f → sh ∈ f.shapes → BindOk K (C.fd j) f.ps (C.dU j) (if f.kind = .ini then sh.1 + 1 else sh.1) sh.2
  mki : ∀ c cl f, P.cls[c]? = some cl → cl.kind.pl = true → P.fns[cl.init]? = some f → f.kind = .ini → Mk K (C.ca c) (C.fa cl.init) ∧ f.ps ≠ []
  fo : ∀ c f, fldOk P c f = true → FldOk K C c f
  ra : ∀ c cl, P.cls[c]? = some cl → cl.kind.pl = false → cl.flds ≠ [] → RaF prog w K mg base (C.ca c) cl.flds
  su : ∀ c cl f, P.cls[c]? = some cl → cl.kind.pl = true → P.fns[cl.init]? = some f → f.kind = .ini → PySem.W.readsIn K (C.ca c) (.type "type") = true ∧ PySem.W.specialIn K (.ref (C.ca c)) "__getattribute__" = some (some (.builtin "type.__getattribute__")) ∧
    PySem.W.findCls K (.ref (C.ca c)) (.type "type") "__init__" = some (.val (.ref (C.fa cl.init)))
  mkS : ∀ c cl f, P.cls[c]? = some cl → cl.kind.pl = true → P.fns[cl.init]? = some f → f.kind = .inS → Mk K (C.ca c) (C.fa cl.init)
  cmm : ∀ c m j sm cl, P.cms.contains (c, m, j, sm) = true → P.cls[c]? = some cl → ClX.CRead K (C.ca c) (.type "type") ∧ ∃ pA, (sm = false → ClX.CMet K (C.ca c) (.type "type") m pA (C.fa j)) ∧ (sm = true → SMet K (C.ca c) m pA (C.fa j))
def argN : Arguments := ⟨[], [], none, [], [], none, []⟩
structure Dyn (prog : Program) (w : World) (K : PySem.W.Frag) (mg : Str → Option Value) (base : Heap) (C : Ct) (P : Pg) (F : Fs) (n : Nat) : Prop where
  fn : ∀ j f, P.fns[j]? = some f → f.kind = .fn → FnG prog w K mg base (8 * n) (C.fa j) (C.fd j) f.ps (spD C (F.fn j))
  ini : ∀ j f, P.fns[j]? = some f → f.kind = .ini → FnG prog w K mg base (8 * n) (C.fa j) (C.fd j) f.ps (spI C (F.ini j))
  inS : ∀ j f, P.fns[j]? = some f → f.kind = .inS → FnGR prog w K mg base (8 * n) (C.fa j) (spI C (iniS (F.ini j)))
  hrd : ∀ j f x, P.fns[j]? = some f → f.kind = .hrd → f.at_ = (x, none) → ∀ (X : Cx), X.prog = prog → X.w = w → X.K = K → X.mg = mg → X.base = base → ∀ (Z : WX) (m : Ro → Store → Out D) (lb : Expr) (ls : Scope) (p lp pos : Pos) (c tb : Addr),
    Gl X x → (x == ("__debug__" : Str)) = false → TabB X.base X.mg c tb → X.env.code = .ref c → (tb, X.env.qual ++ "<lambda>") ∈ C.T → (∀ p ∈ C.T, p.1 = tb → p.2 = X.env.qual ++ "<lambda>") → Room (8 * n + 7) X.A → X.A.guards = some [] → LamS X.env.scope ls →
    (∀ (f d : Addr) (A : Around) (outer : List Env) (s : Shared) (H : Hp) (E : XK), Room (8 * n + 5) (A.deeper (lamEnv X ls s.heap.objs.size f d)) → A.guards = some [] → PE (lamCx X A outer s H E ls f d) lb (tE C (fun cls d _ H => E cls d H) m)) →
    PE X (.Call (.Name x p) [.Lambda argN lb ls lp] [] pos) (tE C Z fun ρ S => F.hrd j (fun S1 => m ρ S1) S)
structure Cn (X : Cx) (C : Ct) (P : Pg) (F : Fs) (n : Nat) (N : List Str) (sc : Scope) (l : Bool) (Z : WX) : Prop where
  hN : X.N = N
  hs : X.env.scope = sc
  gd : X.A.guards = some []
  rm : Room (8 * n + 5) X.A
  tk : Takes X Z
  st : Stat X.prog X.w X.K X.mg X.base C P
  dy : Dyn X.prog X.w X.K X.mg X.base C P F n
  nd : X.N.Nodup
  calm : X.calm = true
  lm : l = true → Room (8 * n + 7) X.A ∧ ∃ c tb, TabB X.base X.mg c tb ∧ X.env.code = .ref c ∧ (tb, X.env.qual ++ "<lambda>") ∈ C.T ∧ ∀ p ∈ C.T, p.1 = tb → p.2 = X.env.qual ++ "<lambda>"
theorem Cn.un {X : Cx} {C : Ct} {P : Pg} {F : Fs} {n : Nat} {N : List Str} {sc : Scope} {l : Bool} {Z : WX} (c : Cn X C P F n N sc l Z) : X.A.units + 64 < cLine := by
  have := c.rm.un
  omega
/-! ### the check's parts -/
theorem oddB_no {x : Str} (h : (!oddB x) = true) : (x == ("__debug__" : Str)) = false ∧ (x == ("__classdict__" : Str)) = false := by
  unfold oddB at h
  simpa using h
theorem visK_ok {sc : Scope} {x : Str} (h : visK (sc.names.lookup x) = true) : Vis sc x := by
  unfold visK at h
  simp only [Bool.or_eq_true, decide_eq_true_eq] at h
  rcases h with (h | h) | h
  · exact .inl h
  · exact .inr (.inl h)
  · exact .inr (.inr h)
theorem locK_ok {sc : Scope} {x : Str} (h : locK (sc.names.lookup x) = true) : Loc sc x := by
  unfold locK at h
  simp only [Bool.or_eq_true, decide_eq_true_eq] at h
  exact h
theorem visB_ok {N : List Str} {sc : Scope} {i : Nat} {x : Str} (h : visB N sc i x = true) : N[i]? = some x ∧ Vis sc x ∧ (x == ("__debug__" : Str)) = false ∧ (x == ("__classdict__" : Str)) = false := by
  unfold visB at h
  rw [Bool.and_eq_true, Bool.and_eq_true] at h
  exact ⟨of_decide_eq_true h.1.1, visK_ok h.1.2, oddB_no h.2⟩
theorem locB_ok {N : List Str} {sc : Scope} {i : Nat} {x : Str} (h : locB N sc i x = true) : N[i]? = some x ∧ Loc sc x ∧ (x == ("__debug__" : Str)) = false ∧ (x == ("__classdict__" : Str)) = false := by
  unfold locB at h
  rw [Bool.and_eq_true, Bool.and_eq_true] at h
  exact ⟨of_decide_eq_true h.1.1, locK_ok h.1.2, oddB_no h.2⟩
theorem glB_ok {X : Cx} {sc : Scope} {x : Str} (e : X.env.scope = sc) (h : glB sc x = true) : Gl X x ∧ (x == ("__debug__" : Str)) = false := by
  unfold glB at h
  rw [Bool.and_eq_true] at h
  refine ⟨?_, (oddB_no h.2).1⟩
  show X.env.scope.names.lookup x = _
  rw [e]
  exact of_decide_eq_true h.1
theorem tyB_ok {x : Str} {n : String} (h : tyB x n = true) : bootBuiltins x = some (.type n) ∧ x ≠ ("__name__" : Str) := by
  unfold tyB at h
  simp only [Bool.or_eq_true, Bool.and_eq_true, beq_iff_eq] at h
  rcases h with (((((h | h) | h) | h) | h) | h) | h
  all_goals (obtain ⟨h1, h2⟩ := h; subst h1; subst h2; exact ⟨by decide +kernel, by decide⟩)
theorem base_ok {o : Expr} {f : Str} {env : Env} {whole : Sem Value} (h : baseB o = true) : attributeBase o f env whole = whole := by
  cases o with
  | Call g as ks p =>
    cases g with
    | Name id q =>
      cases as with
      | nil =>
        cases ks with
        | nil => exact abase_call h
        | cons _ _ => rfl
      | cons _ _ => rfl
    | _ => rfl
  | _ => rfl
theorem slice_ok {b : Expr} (h : (!sliceB b) = true) : ∀ x y z w, b ≠ .Slice x y z w := fun x y z w e => by
  subst e
  cases h
theorem star_ok {b : Expr} (h : (!starB b) = true) : ∀ x p, b ≠ .Starred x p := fun x p e => by
  subst e
  cases h
theorem noArgs_ok {a : Arguments} (h : noArgs a = true) : a = argN := by
  unfold noArgs at h
  split at h
  · rfl
  · cases h
theorem kwsB_ok {kws : List Keyword} {ks : List Str} (h : kwsB kws ks = true) : named kws ks := by
  unfold named
  exact of_decide_eq_true h
theorem fnB_ok {P : Pg} {j : Nat} {k : FK} {x : Str} {sh : Nat × List Str} (h : fnB P j k x sh = true) : ∃ f, P.fns[j]? = some f ∧ f.at_ = (x, none) ∧ f.kind = k ∧ sh ∈ f.shapes := by
  unfold fnB at h
  split at h
  · rename_i f e
    rw [Bool.and_eq_true, Bool.and_eq_true] at h
    exact ⟨f, e, of_decide_eq_true h.1.1, of_decide_eq_true h.1.2, List.contains_iff_mem.mp h.2⟩
  · cases h
theorem mkB_ok {P : Pg} {c : Nat} {x : Str} {sh : Nat × List Str} (h : mkB P c x sh = true) : ∃ cl f, P.cls[c]? = some cl ∧ cl.name = x ∧ cl.kind.pl = true ∧ P.fns[cl.init]? = some f ∧ f.kind = .ini ∧ sh ∈ f.shapes := by
  unfold mkB at h
  split at h
  · rename_i cl e
    rw [Bool.and_eq_true, Bool.and_eq_true] at h
    obtain ⟨⟨h1, h2⟩, h3⟩ := h
    split at h3
    · rename_i f e2
      rw [Bool.and_eq_true] at h3
      exact ⟨cl, f, e, of_decide_eq_true h1, h2, e2, of_decide_eq_true h3.1, List.contains_iff_mem.mp h3.2⟩
    · cases h3
  · cases h
/-! ### simple terms -/
section
variable {C : Ct} {Z : WX} {X : Cx} {pos : Pos}
theorem de_const {e : Expr} {v : V} {d : D} (h : PE X e (tC v)) (hd : ∀ W, Den C W d v) : PE X e (tE C Z fun _ S => .ok d S) := PE.imp h fun σ H Q q => by
  obtain ⟨W, H0, U, ρ, S, rh, rs, p⟩ := q
  exact PQ.ok p rh (hd W)
theorem de_var {i : Nat} {x : Str} (hi : X.N[i]? = some x) (hv : Vis X.env.scope x) (hd : (x == ("__debug__" : Str)) = false) (hcd : (x == ("__classdict__" : Str)) = false) :
    PE X (.Name x pos) (tE C Z fun ρ S => match ρ[i]? with
      | some (some (.sh d)) => .ok d S
      | _ => .stk) := PE.imp (pe_var hi hv hd hcd) fun σ H Q q => by
  obtain ⟨W, H0, U, ρ, S, rh, rs, p⟩ := q
  dsimp only at p
  split at p
  · rename_i d e
    obtain ⟨v, e1, e2⟩ := rs.sl i _ e
    exact ⟨v, e1, PQ.ok p rh e2⟩
  · exact p.elim
theorem evEs_len {P : Pg} {F : Fs} : ∀ (es : List RE) (ρ : Ro) (S : Store) (ds : List D) (S' : Store), evEs P F es ρ S = .ok ds S' → ds.length = es.length
  | [], ρ, S, ds, S', e => by
    cases e
    rfl
  | r :: rs, ρ, S, ds, S', e => by
    have e : (evE P F r ρ S).bind (fun d S1 => (evEs P F rs ρ S1).bind fun ds S2 => .ok (d :: ds) S2) = .ok ds S' := e
    cases h1 : evE P F r ρ S with
    | stk =>
      rw [h1] at e
      cases e
    | er x S1 =>
      rw [h1] at e
      cases e
    | ok d S1 =>
      rw [h1] at e
      have e : (evEs P F rs ρ S1).bind (fun ds S2 => .ok (d :: ds) S2) = .ok ds S' := e
      cases h2 : evEs P F rs ρ S1 with
      | stk =>
        rw [h2] at e
        cases e
      | er x S2 =>
        rw [h2] at e
        cases e
      | ok ds2 S2 =>
        rw [h2] at e
        cases e
        rw [List.length_cons, List.length_cons, evEs_len rs ρ S1 ds2 _ h2]
end
/-! ### terms -/
section
variable {C : Ct} {P : Pg} {F : Fs} {n : Nat} {N : List Str}
theorem is_plain {X : Cx} {e : Expr} (h1 : ∀ x p, e ≠ .UnaryOp .Not x p) (h2 : ∀ o x p, e ≠ .BoolOp o x p) (h3 : ∀ a b c p, e ≠ .IfExp a b c p) (h4 : ∀ a b c p, e ≠ .Compare a b c p) :
    ∀ whole, isTrue e X.env whole = (do let v ← whole; standAt e.pos; holding [v] (truthy v)) := fun whole => by
  cases e with
  | UnaryOp o x p =>
    cases o with
    | Not => exact absurd rfl (h1 x p)
    | _ => rfl
  | BoolOp o x p => exact absurd rfl (h2 o x p)
  | IfExp a b c p => exact absurd rfl (h3 a b c p)
  | Compare a b c p => exact absurd rfl (h4 a b c p)
  | _ => rfl
abbrev Both (X : Cx) (C : Ct) (Z : WX) (P : Pg) (F : Fs) (r : RE) (e : Expr) : Prop := PE X e (tE C Z (evE P F r)) ∧ (tstB r = true → PT X e (tT C Z fun ρ S => (evE P F r ρ S).bind truD))
theorem both_plain {X : Cx} {sc : Scope} {l : Bool} {Z : WX} {r : RE} {e : Expr} (c : Cn X C P F n N sc l Z) (h : PE X e (tE C Z (evE P F r))) (h1 : ∀ x p, e ≠ .UnaryOp .Not x p) (h2 : ∀ o x p, e ≠ .BoolOp o x p) (h3 : ∀ a b c p, e ≠ .IfExp a b c p) (h4 : ∀ a b c p, e ≠ .Compare a b c p) : Both X C Z P F r e :=
  ⟨h, fun _ => dt_plain c.st.kk h (is_plain h1 h2 h3 h4)⟩
theorem lamCn {X : Cx} {sc ls : Scope} {l : Bool} {Z : WX} (c : Cn X C P F n N sc l Z) {A : Around} {outer : List Env} {s : Shared} {H : Hp} {E : XK} {f d : Addr} (hr : Room (8 * n + 5) (A.deeper (lamEnv X ls s.heap.objs.size f d))) (hg : A.guards = some []) :
    Cn (lamCx X A outer s H E ls f d) C P F n N ls false (fun cls d _ H => E cls d H) :=
  ⟨c.hN, rfl, hg, hr, takes_of rfl rfl rfl rfl, c.st, c.dy, c.nd, rfl, fun z => nomatch z⟩
theorem and1_pe {X : Cx} {Z : WX} {e : Expr} {p : Pos} {m : Ro → Store → Out D} (h : PE X e (tE C Z m)) : PE X (.BoolOp .And [e] p) (tE C Z m) := ⟨fun pins s σ H Q I q => h.run pins s σ H Q I q⟩
theorem or1_pe {X : Cx} {Z : WX} {e : Expr} {p : Pos} {m : Ro → Store → Out D} (h : PE X e (tE C Z m)) : PE X (.BoolOp .Or [e] p) (tE C Z m) := ⟨fun pins s σ H Q I q => h.run pins s σ H Q I q⟩
theorem and1_pw {X : Cx} {Z : WX} {e : Expr} {p : Pos} {m : Ro → Store → Out D} (h : PT X e (tT C Z fun ρ S => (m ρ S).bind truD)) : PW X (.BoolOp .And [e] p) (tT C Z fun ρ S => (m ρ S).bind truD) := pw_and1 h
theorem or1_pw {X : Cx} {Z : WX} {e : Expr} {p : Pos} {m : Ro → Store → Out D} (h : PT X e (tT C Z fun ρ S => (m ρ S).bind truD)) : PW X (.BoolOp .Or [e] p) (tT C Z fun ρ S => (m ρ S).bind truD) := pw_or1 h
theorem call_snd {X : Cx} {sc : Scope} {l : Bool} {Z : WX} {j : Nat} {es kes : List RE} {ks : List Str} {f : Fn} {x : Str} {xs : List Expr} {kws : List Keyword} {p pos : Pos} (c : Cn X C P F n N sc l Z) (f1 : P.fns[j]? = some f) (f2 : f.at_ = (x, none)) (f3 : f.kind = .fn) (f4 : (es.length, ks) ∈ f.shapes)
    (g1 : Gl X x) (g2 : (x == ("__debug__" : Str)) = false) (hn : named kws ks) (a1 : PA X xs (tAs C Z (evEs P F es))) (a2 : noStar xs) (a3 : xs.length = es.length) (hk : PK X kws (tAs C Z (evEs P F kes))) :
    PE X (.Call (.Name x p) xs kws pos) (tE C Z (evE P F (.call j es ks kes))) := by
  have ee : evE P F (.call j es ks kes) = mArgs (evEs P F es) (evEs P F kes) (callF f (F.fn j) ks) := by
    funext ρ S
    show (evEs P F es ρ S).bind (fun ds S1 => (evEs P F kes ρ S1).bind fun zs S2 => callD P F j ds ks zs S2) = _
    unfold callD
    rw [f1]
    rfl
  have T : FnT X C (8 * n) (C.fa j) f x (F.fn j) f.shapes := ⟨⟨C.fd j, C.dU j, c.dy.fn j f f1 f3, c.st.df j f f1, fun sh hs => by
    have q := c.st.bo j f sh f1 hs
    rw [f3] at q
    exact q⟩, by
    have q := c.st.fg j f f1 (by rw [f2])
    rw [f2] at q
    exact q, c.st.kp j f f1⟩
  rw [ee]
  cases xs with
  | nil =>
    cases es with
    | nil => exact de_call0 T f4 (c.rm.mono (by omega)) c.gd c.tk g1 g2 hn hk
    | cons r rs => cases a3
  | cons y ys =>
    refine de_call T (by rw [a3]; exact f4) (c.rm.mono (by omega)) c.gd c.tk g1 g2 a2 hn a1 hk fun ρ S ds S' e => ?_
    rw [a3]
    exact evEs_len es ρ S ds S' e
theorem mk_snd {X : Cx} {sc : Scope} {l : Bool} {Z : WX} {k : Nat} {es kes : List RE} {ks : List Str} {cl : Cl} {f : Fn} {x : Str} {xs : List Expr} {kws : List Keyword} {p pos : Pos} (c : Cn X C P F n N sc l Z) (f1 : P.cls[k]? = some cl) (f2 : cl.name = x) (f3 : cl.kind.pl = true) (f4 : P.fns[cl.init]? = some f) (f5 : f.kind = .ini) (f6 : (es.length, ks) ∈ f.shapes)
    (g1 : Gl X x) (g2 : (x == ("__debug__" : Str)) = false) (hn : named kws ks) (a1 : PA X xs (tAs C Z (evEs P F es))) (a2 : noStar xs) (a3 : xs.length = es.length) (hk : PK X kws (tAs C Z (evEs P F kes))) :
    PE X (.Call (.Name x p) xs kws pos) (tE C Z (evE P F (.mk k es ks kes))) := by
  have kp : cl.kind = .plain := by
    cases z : cl.kind with
    | plain => rfl
    | exc =>
      rw [z] at f3
      cases f3
  have ee : evE P F (.mk k es ks kes) = mArgs (evEs P F es) (evEs P F kes) (mkF k f (F.ini cl.init) ks) := by
    funext ρ S
    show (evEs P F es ρ S).bind (fun ds S1 => (evEs P F kes ρ S1).bind fun zs S2 => mkD P F k ds ks zs S2) = _
    unfold mkD
    rw [f1]
    dsimp only
    rw [kp, f4]
    rfl
  obtain ⟨m1, m2⟩ := c.st.mki k cl f f1 f3 f4 f5
  have T : MkT X C (8 * n) k (C.fa cl.init) f x (F.ini cl.init) f.shapes := ⟨⟨C.fd cl.init, C.dU cl.init, c.dy.ini _ f f4 f5, c.st.df _ f f4, fun sh hs => by
    have q := c.st.bo _ f sh f4 hs
    rw [f5] at q
    exact q⟩, m2, m1, by
    have q := c.st.gc k cl f1
    rw [f2] at q
    exact q⟩
  rw [ee]
  cases xs with
  | nil =>
    cases es with
    | nil => exact de_mk0 T f6 (c.rm.mono (by omega)) c.gd c.tk g1 g2 hn hk
    | cons r rs => cases a3
  | cons y ys =>
    refine de_mk T (by rw [a3]; exact f6) (c.rm.mono (by omega)) c.gd c.tk g1 g2 a2 hn a1 hk fun ρ S ds S' e => ?_
    rw [a3]
    exact evEs_len es ρ S ds S' e
theorem rd_tupO {Z : WX} {K : PySem.W.Frag} (W : Wd) (σ : L2.St) (H : Hp) (S : Store) (ds : List D) (us : List V) (Q : VK) (r : RelH C W H S) (hu : DenL C W ds us) (p : PQ C Z σ Q W H (tupD ds S)) : ∃ p ys, us = [.ref p] ∧ ((SqL K H p ys ∧ ∀ l, H l = none → Q (.ref l) (upd H l (.tup ys))) ∨ (SqT K H p ys ∧ Q (.ref p) H)) := by
  unfold tupD at p
  split at p
  · obtain ⟨u, rfl, h⟩ := one_of hu
    obtain ⟨a, ys, rfl, _, ha, dl⟩ := den_lst h r
    exact ⟨a, ys, rfl, .inl ⟨SqL.of ha, fun l hl => p.new r hl (tup_new (r.fresh hl).1 dl)⟩⟩
  · obtain ⟨u, rfl, h⟩ := one_of hu
    obtain ⟨a, ys, rfl, _, ha, dl⟩ := den_tup h r
    exact ⟨a, ys, rfl, .inr ⟨SqT.of ha, PQ.ok p r h⟩⟩
  · exact p.elim
theorem rd_mx {Z : WX} (g : Int → Int → Int) (W : Wd) (σ : L2.St) (H : Hp) (S : Store) (ds : List D) (us : List V) (Q : VK) (r : RelH C W H S) (hu : DenL C W ds us) (p : PQ C Z σ Q W H (mxD g ds S)) : ∃ i j, us = [.int i, .int j] ∧ Q (.int (g i j)) H := by
  unfold mxD at p
  split at p
  · rename_i i j
    obtain ⟨u, v, rfl, h1, h2⟩ := two_of hu
    rw [den_int h1, den_int h2]
    exact ⟨i, j, rfl, PQ.ok p r of_int⟩
  · exact p.elim
theorem bi_snd {X : Cx} {sc : Scope} {l : Bool} {Z : WX} {b : Bi} {es : List RE} {xs : List Expr} {p pos : Pos} (c : Cn X C P F n N sc l Z) (ne : es ≠ []) (fr : P.frees.contains (biName b) = true) (g1 : Gl X (biName b)) (g2 : (biName b == ("__debug__" : Str)) = false) (a1 : PA X xs (tAs C Z (evEs P F es))) (a2 : noStar xs) (a3 : xs.length = es.length) :
    PE X (.Call (.Name (biName b) p) xs [] pos) (tE C Z (evE P F (.bi b es))) := by
  have hm := c.st.fr _ fr
  cases xs with
  | nil =>
    cases es with
    | nil => exact absurd rfl ne
    | cons r rs => cases a3
  | cons y ys =>
    cases b with
    | len => exact de_biB (f := lenD) call_len g1 hm (by decide +kernel) (by decide) g2 a2 a1 (rd_len)
    | abs => exact de_biB (f := absD) call_abs g1 hm (by decide +kernel) (by decide) g2 a2 a1 (rd_abs)
    | int => exact de_biT (f := intD) call_int1 g1 hm (by decide +kernel) (by decide) g2 a2 a1 (rd_int)
    | repr => exact de_biB (f := repD) (call_rep c.gd c.un) g1 hm (by decide +kernel) (by decide) g2 a2 a1 (rd_rep c.st.kk)
    | list => exact de_biT (f := listD) call_list_of g1 hm (by decide +kernel) (by decide) g2 a2 a1 (rd_list)
    | isinst => exact de_biB (f := isD P) call_is g1 hm (by decide +kernel) (by decide) g2 a2 a1 (rd_is c.st.cf)
    | max => exact de_biB (f := mxD mx2) (call_max2 c.calm) g1 hm (by decide +kernel) (by decide) g2 a2 a1 (rd_mx mx2)
    | tuple => exact de_biT (f := tupD) call_tuple_of g1 hm (by decide +kernel) (by decide) g2 a2 a1 (rd_tupO)
    | min => exact de_biB (f := mxD mn2) (call_min2 c.calm) g1 hm (by decide +kernel) (by decide) g2 a2 a1 (rd_mx mn2)
theorem blkCn {X : Cx} {sc scope : Scope} {l : Bool} {Z : WX} (c : Cn X C P F n N sc l Z) {s : Shared} {H : Hp} {B : Addr} {cl : List (Str × Addr)} {fp : List Addr} : Cn (X.blk s H scope (compEnvC scope cl B X.env) fp) C P F n N (relS scope sc) false Z0 where
  hN := c.hN
  hs := by
    rw [← c.hs]
    rfl
  gd := c.gd
  rm := c.rm
  tk := fun u s' x => by
    obtain ⟨a, B, sI, pins, σ, H, cls, d, e, I, nb, up, sky, na, os, ag, w⟩ := x
    exact w
  st := c.st
  dy := c.dy
  nd := c.nd
  calm := c.calm
  lm := fun z => nomatch z
theorem lcB_mk {X : Cx} {sc scope : Scope} {l : Bool} {Z : WX} {i : Nat} {x : Str} {p : Pos} {ifs : List Expr} {elt : Expr} {r : RE} {cd : Option RE} (c : Cn X C P F n N sc l Z) (hb : blkC N sc scope [(x, i)] = true) (hx : (relS scope sc).names.lookup x = some .local)
    (he : ∀ X', Cn X' C P F n N (relS scope sc) false Z0 → PE X' elt (tE C Z0 (evE P F r))) (ht : ∀ X', Cn X' C P F n N (relS scope sc) false Z0 → PTs X' ifs (tT C Z0 (evC P F cd))) : LcB X C scope i x p ifs elt (evC P F cd) (evE P F r) := by
  have ok := blkOk_by hb
  refine ⟨c.calm, c.nd, by rw [c.hN, c.hs]; exact ok, fun s H B cl fp => ?_, fun s H B cl fp => ht _ (blkCn c), fun s H B cl fp => he _ (blkCn c)⟩
  have e1 : (X.blk s H scope (compEnvC scope cl B X.env) fp).env.scope.names.lookup x = some .local := by
    have q := (blkCn (scope := scope) (s := s) (H := H) (B := B) (cl := cl) (fp := fp) c).hs
    rw [q]
    exact hx
  exact pg_name c.nd (by rw [c.hN]; exact ok.ix (x, i) (List.mem_singleton.mpr rfl)) (.inl e1) (.inr e1)
theorem lc_eq {e it : RE} {i : Nat} {k : IK} {cd : Option RE} : evE P F (.lc e i k it cd) = mLc k i (evE P F it) (evC P F cd) (evE P F e) := rfl
theorem pts_none {X : Cx} : PTs X [] (tT C Z0 (evC P F none)) := ⟨fun pins s σ H Q I h => pts_nil.run pins s σ H Q I (by
  obtain ⟨W, H0, U, ρ, S, rh, rs, p⟩ := h
  exact p W H (Step.refl _ _ _) rh)⟩
theorem setB_ok {e : Expr} {env : Env} (h : (!setB_ e) = true) (v : Value) : foldedSetIterable e env v = pure v := by
  cases e <;> first | rfl | cases h
theorem form2_ok {env : Env} {pos : Pos} {es : List Expr} {kws : List Keyword} {ks : List Str} (h : noStar es) (hn : named kws ks) (hl : es.length + ks.length < 28) : methodCallForm (es.length + kws.length) (backTo pos (starEach es env)) (backToKw pos (keywordEach kws env)) = true := by
  unfold methodCallForm
  have a := star_all (pos := pos) (env := env) h
  have b : (backTo pos (starEach es env)).all (fun x => !x.1) = true := by
    rw [List.all_eq_true]
    intro x hx
    rw [List.any_eq_false] at a
    simpa using a x hx
  obtain ⟨n1, n2, n3⟩ := named_all (pos := pos) (env := env) hn
  have hk : kws.length = ks.length := by
    unfold named at hn
    have := congrArg List.length hn
    simpa using this
  rw [b, n1]
  simp only [Bool.true_and, decide_eq_true_eq]
  rw [hk]
  split <;> omega
theorem cat_snd {X : Cx} {sc : Scope} {l : Bool} {Z : WX} {k : Nat} {x f : Str} {v : Int} {p pos : Pos} (c : Cn X C P F n N sc l Z) (g1 : Gl X x) (g2 : (x == ("__debug__" : Str)) = false) (h : catB P k x f v = true) : PE X (.Attribute (.Name x p) f pos) (tE C Z (evE P F (.cat x k f v))) := by
  unfold catB at h
  split at h
  · rename_i cl e
    simp only [Bool.and_eq_true, decide_eq_true_eq] at h
    obtain ⟨⟨h1, h2⟩, h3⟩ := h
    obtain ⟨r1, t, r2⟩ := c.st.s2.ct k cl f v e h2 h3
    refine ⟨fun pins s σ H Q I q => ?_⟩
    have hm : X.mg x = some (.ref (C.ca k)) := by
      rw [← h1]
      exact c.st.gc k cl e
    refine attr_of rfl (ld_glob I g1 hm ?_ g2)
    refine PySem.W.cls_value I.kIn r1 r2 rfl ?_
    obtain ⟨W, H0, U, ρ, S, rh, rs, pq⟩ := q
    exact ⟨.int v, H, I.tok _, ⟨t, rfl⟩, PQ.ok pq rh of_int⟩
  · cases h
theorem metB_ok {m : Str} {sh : Nat × List Str} (h : metB P m sh = true) {k : Nat} {cl : Cl} {j : Nat} (e : P.cls[k]? = some cl) (q : cl.meths.lookup m = some j) : ∃ f, P.fns[j]? = some f ∧ f.kind = .fn ∧ sh ∈ f.shapes := by
  unfold metB at h
  have h := List.all_eq_true.mp h cl (List.mem_of_getElem? e)
  rw [q] at h
  dsimp only at h
  split at h
  · rename_i f e2
    rw [Bool.and_eq_true] at h
    exact ⟨f, e2, of_decide_eq_true h.1, List.contains_iff_mem.mp h.2⟩
  · cases h
theorem meth_snd {X : Cx} {sc : Scope} {l : Bool} {Z : WX} {o : RE} {m : Str} {es kes : List RE} {ks : List Str} {x : Expr} {xs : List Expr} {kws : List Keyword} {ap pos : Pos} (c : Cn X C P F n N sc l Z) (hb : baseB x = true) (hl : (ap.endLine == pos.line) = true) (hf : es.length + ks.length < 28) (hn : named kws ks) (hm : metB P m (es.length + 1, ks) = true)
    (ho : PE X x (tE C Z (evE P F o))) (a1 : PA X xs (tAs C Z (evEs P F es))) (a2 : noStar xs) (a3 : xs.length = es.length) (hk : PK X kws (tAs C Z (evEs P F kes))) : PE X (.Call (.Attribute x m ap) xs kws pos) (tE C Z (evE P F (.meth o m es ks kes))) := by
  have ee : evE P F (.meth o m es ks kes) = metM P F m ks (evE P F o) (evEs P F es) (evEs P F kes) := rfl
  rw [ee]
  refine de_meth (k := 8 * n) (n := es.length) (fun k cl j e1 e2 e3 => ?_) (c.rm.mono (by omega)) c.gd c.tk (base_ok hb) hl (form2_ok a2 hn (by rw [a3]; exact hf)) ho a2 hn a1 hk a3 (fun z => ?_) (fun ρ S ds S' e => evEs_len es ρ S ds S' e)
  · obtain ⟨f, f1, f2, f3⟩ := metB_ok hm e1 e3
    have kp : cl.kind = .plain := by
      cases z : cl.kind with
      | plain => rfl
      | exc =>
        rw [z] at e2
        cases e2
    refine ⟨f, f1, c.st.cf.pl k cl e1 kp, c.st.s2.me k cl m j e1 e2 e3, C.fd j, C.dU j, c.dy.fn j f f1 f2, c.st.df j f f1, fun sh hs => ?_⟩
    obtain rfl := List.mem_singleton.mp hs
    have q := c.st.bo j f _ f1 f3
    rw [f2] at q
    exact q
  · subst z
    cases es with
    | nil => rfl
    | cons r rs => cases a3
theorem eqX_of {X : Cx} {sc : Scope} {l : Bool} {Z : WX} (c : Cn X C P F n N sc l Z) : EqX X C P F (8 * n) := ⟨fun k cl j e1 e2 e3 => by
  have E := c.st.s2.eq k cl j e1 e2 e3
  have M := c.st.s2.me k cl _ j e1 e2 e3
  have b := c.st.s2.eb
  unfold eqB at b
  have b := List.all_eq_true.mp b cl (List.mem_of_getElem? e1)
  rw [e3] at b
  dsimp only at b
  split at b
  · rename_i f e4
    simp only [Bool.and_eq_true, decide_eq_true_eq] at b
    obtain ⟨⟨b1, b2⟩, b3⟩ := b
    refine ⟨⟨f, M.at_, M.fn, E.ne, E.ob, ⟨C.fd j, C.dU j, c.dy.fn j f e4 b1, ?_⟩, b3⟩, fun t ht => ⟨E.nfT t ht, E.sb t ht⟩, fun c' cl' f1 f2 f3 => E.nfC c' cl' f1 f2 f3⟩
    have q := c.st.bo j f _ e4 (List.contains_iff_mem.mp b2)
    rw [b1] at q
    exact q
  · cases b⟩
theorem strX_of {X : Cx} {sc : Scope} {l : Bool} {Z : WX} (c : Cn X C P F n N sc l Z) : StrX X C P F (8 * n) := fun k cl j e1 e2 e3 => by
  have M := c.st.s2.me k cl _ j e1 e2 e3
  have b := c.st.s2.sb
  unfold strB at b
  have b := List.all_eq_true.mp b cl (List.mem_of_getElem? e1)
  rw [e3] at b
  dsimp only at b
  split at b
  · rename_i f e4
    simp only [Bool.and_eq_true, decide_eq_true_eq] at b
    obtain ⟨⟨b1, b2⟩, b3⟩ := b
    refine ⟨f, M.at_, M.fn, ⟨C.fd j, C.dU j, c.dy.fn j f e4 b1, ?_⟩, b3⟩
    have q := c.st.bo j f _ e4 (List.contains_iff_mem.mp b2)
    rw [b1] at q
    exact q
  · cases b
theorem spX_of {X : Cx} {sc : Scope} {l : Bool} {Z : WX} {m : Str} {k : Nat} (c : Cn X C P F n N sc l Z) (hm : (m, k) ∈ specs) : SpX X C P F (8 * n) m k := fun a cl j e1 e2 e3 => by
  have M := c.st.s2.me a cl _ j e1 e2 e3
  have b := c.st.s2.sp
  unfold spB at b
  have b := List.all_eq_true.mp b _ hm
  unfold spB1 at b
  have b := List.all_eq_true.mp b cl (List.mem_of_getElem? e1)
  rw [e3] at b
  dsimp only at b
  split at b
  · rename_i f e4
    simp only [Bool.and_eq_true, decide_eq_true_eq] at b
    obtain ⟨⟨b1, b2⟩, b3⟩ := b
    refine ⟨f, M.at_, M.fn, ⟨C.fd j, C.dU j, c.dy.fn j f e4 b1, ?_⟩, b3⟩
    have q := c.st.bo j f _ e4 (List.contains_iff_mem.mp b2)
    rw [b1] at q
    exact q
  · cases b
theorem mkSX_of {X : Cx} {sc : Scope} {l : Bool} {Z : WX} (c : Cn X C P F n N sc l Z) : MkSX X C P F (8 * n) := fun k cl f e1 e2 e3 e4 => ⟨c.dy.inS _ f e3 e4, c.st.mkS k cl f e1 e2 e3 e4⟩
theorem mkSB_ok {X : Cx} {sc : Scope} {l : Bool} {Z : WX} {k : Nat} {x : Str} (c : Cn X C P F n N sc l Z) (h : mkSB P k x = true) : okS P k = true ∧ X.mg x = some (.ref (C.ca k)) := by
  unfold mkSB at h
  rw [Bool.and_eq_true] at h
  refine ⟨h.1, ?_⟩
  have h2 := h.2
  split at h2
  · rename_i cl e
    have q := c.st.gc k cl e
    rw [of_decide_eq_true h2] at q
    exact q
  · cases h2
theorem cm_snd {X : Cx} {sc : Scope} {l : Bool} {Z : WX} {k j : Nat} {x m : Str} {sm : Bool} {es : List RE} {xs : List Expr} {p ap pos : Pos} (c : Cn X C P F n N sc l Z) (g1 : Gl X x) (g2 : (x == ("__debug__" : Str)) = false) (hl : (ap.endLine == pos.line) = true) (hf : es.length < 28) (ne : es ≠ []) (h : cmB P k x m j sm es.length = true)
    (a1 : PA X xs (tAs C Z (evEs P F es))) (a2 : noStar xs) (a3 : xs.length = es.length) : PE X (.Call (.Attribute (.Name x p) m ap) xs [] pos) (tE C Z (evE P F (.cm k m j sm es))) := by
  unfold cmB at h
  rw [Bool.and_eq_true, Bool.and_eq_true] at h
  obtain ⟨⟨h1, h2⟩, h3⟩ := h
  split at h2
  · rename_i cl ec
    split at h3
    · rename_i f ef
      simp only [Bool.and_eq_true, decide_eq_true_eq] at h3
      have q := c.st.gc k cl ec
      rw [of_decide_eq_true h2] at q
      obtain ⟨cr, pA, k1, k2⟩ := c.st.cmm k m j sm cl h1 ec
      have b := c.st.bo j f _ ef (List.contains_iff_mem.mp h3.2)
      rw [h3.1] at b
      have form := form2_ok (env := X.env) (pos := pos) (kws := []) (ks := []) a2 rfl (by rw [a3]; simpa using hf)
      cases xs with
      | nil =>
        cases es with
        | nil => exact absurd rfl ne
        | cons r rs => cases a3
      | cons y ys =>
        cases sm with
        | false =>
          exact de_cm cr (k1 rfl) ef ⟨C.fd j, C.dU j, c.dy.fn j f ef h3.1, c.st.df j f ef, by rw [a3]; exact b⟩ (c.rm.mono (by omega)) c.gd c.tk g1 g2 q hl form a2 a1 fun ρ S ds S' e => by rw [a3]; exact evEs_len es ρ S ds S' e
        | true =>
          exact de_sm cr (k2 rfl) ef (c.st.kp j f ef) ⟨C.fd j, C.dU j, c.dy.fn j f ef h3.1, c.st.df j f ef, by rw [a3]; exact b⟩ (c.rm.mono (by omega)) c.gd c.tk g1 g2 q hl form a2 a1 fun ρ S ds S' e => by rw [a3]; exact evEs_len es ρ S ds S' e
    · cases h3
  · cases h2
mutual
theorem chkE_ok : ∀ (r : RE) (X : Cx) (sc : Scope) (l : Bool) (Z : WX) (e : Expr), Cn X C P F n N sc l Z → chkE P N r sc l e = true → Both X C Z P F r e
  | .var i, X, sc, l, Z, e, c, h => by
    simp only [chkE] at h
    split at h
    · obtain ⟨h1, h2, h3, h4⟩ := visB_ok h
      exact both_plain c (de_var (by rw [c.hN]; exact h1) (by rw [c.hs]; exact h2) h3 h4) (fun _ _ z => nomatch z) (fun _ _ _ z => nomatch z) (fun _ _ _ _ z => nomatch z) (fun _ _ _ _ z => nomatch z)
    · cases h
  | .non, X, sc, l, Z, e, c, h => by
    simp only [chkE] at h
    split at h
    · exact both_plain c (de_const pe_non fun W => of_non) (fun _ _ z => nomatch z) (fun _ _ _ z => nomatch z) (fun _ _ _ _ z => nomatch z) (fun _ _ _ _ z => nomatch z)
    · cases h
  | .bl b, X, sc, l, Z, e, c, h => by
    simp only [chkE] at h
    split at h
    · obtain rfl := eq_of_beq h
      exact both_plain c (de_const pe_bl fun W => of_bl) (fun _ _ z => nomatch z) (fun _ _ _ z => nomatch z) (fun _ _ _ _ z => nomatch z) (fun _ _ _ _ z => nomatch z)
    · cases h
  | .int i, X, sc, l, Z, e, c, h => by
    simp only [chkE] at h
    split at h
    · obtain rfl := of_decide_eq_true h
      exact both_plain c (de_const pe_int fun W => of_int) (fun _ _ z => nomatch z) (fun _ _ _ z => nomatch z) (fun _ _ _ _ z => nomatch z) (fun _ _ _ _ z => nomatch z)
    · cases h
  | .str s, X, sc, l, Z, e, c, h => by
    simp only [chkE] at h
    split at h
    · obtain rfl := of_decide_eq_true h
      exact both_plain c (de_const pe_str fun W => of_str) (fun _ _ z => nomatch z) (fun _ _ _ z => nomatch z) (fun _ _ _ _ z => nomatch z) (fun _ _ _ _ z => nomatch z)
    · cases h
  | .gint x i, X, sc, l, Z, e, c, h => by
    simp only [chkE] at h
    split at h
    · rw [Bool.and_eq_true, Bool.and_eq_true] at h
      obtain ⟨⟨h1, h2⟩, h3⟩ := h
      obtain rfl := of_decide_eq_true h1
      obtain ⟨g1, g2⟩ := glB_ok c.hs h2
      obtain ⟨t, ht⟩ := c.st.gi x i h3
      exact both_plain c (de_const (v := .int i) (pe_glob g1 ht ⟨t, rfl⟩ g2) fun W => of_int) (fun _ _ z => nomatch z) (fun _ _ _ z => nomatch z) (fun _ _ _ _ z => nomatch z) (fun _ _ _ _ z => nomatch z)
    · cases h
  | .gcls x k, X, sc, l, Z, e, c, h => by
    simp only [chkE] at h
    split at h
    · rw [Bool.and_eq_true, Bool.and_eq_true] at h
      obtain ⟨⟨h1, h2⟩, h3⟩ := h
      obtain rfl := of_decide_eq_true h1
      obtain ⟨g1, g2⟩ := glB_ok c.hs h2
      split at h3
      · rename_i cl ec
        obtain rfl := of_decide_eq_true h3
        exact both_plain c (de_const (v := .ref (C.ca k)) (pe_glob g1 (c.st.gc k cl ec) rfl g2) fun W => by unfold Den; rfl) (fun _ _ z => nomatch z) (fun _ _ _ z => nomatch z) (fun _ _ _ _ z => nomatch z) (fun _ _ _ _ z => nomatch z)
      · cases h3
    · cases h
  | .gty x t, X, sc, l, Z, e, c, h => by
    simp only [chkE] at h
    split at h
    · rw [Bool.and_eq_true, Bool.and_eq_true, Bool.and_eq_true] at h
      obtain ⟨⟨⟨h1, h2⟩, h3⟩, h4⟩ := h
      obtain rfl := of_decide_eq_true h1
      obtain ⟨g1, g2⟩ := glB_ok c.hs h2
      obtain ⟨b1, b2⟩ := tyB_ok h4
      exact both_plain c (de_const (v := .ty t) (pe_bltn g1 (c.st.fr x h3) b1 rfl b2 g2) fun W => by unfold Den; rfl) (fun _ _ z => nomatch z) (fun _ _ _ z => nomatch z) (fun _ _ _ _ z => nomatch z) (fun _ _ _ _ z => nomatch z)
    · cases h
  | .bin op a b, X, sc, l, Z, e, c, h => by
    simp only [chkE] at h
    split at h
    · rw [Bool.and_eq_true, Bool.and_eq_true] at h
      obtain ⟨⟨h1, h2⟩, h3⟩ := h
      obtain rfl := of_decide_eq_true h1
      exact both_plain c (de_bin op (chkE_ok a X sc l Z _ c h2).1 (chkE_ok b X sc l Z _ c h3).1) (fun _ _ z => nomatch z) (fun _ _ _ z => nomatch z) (fun _ _ _ _ z => nomatch z) (fun _ _ _ _ z => nomatch z)
    · cases h
  | .neg a, X, sc, l, Z, e, c, h => by
    simp only [chkE] at h
    split at h
    · exact both_plain c (de_neg (chkE_ok a X sc l Z _ c h).1) (fun _ _ z => nomatch z) (fun _ _ _ z => nomatch z) (fun _ _ _ _ z => nomatch z) (fun _ _ _ _ z => nomatch z)
    · cases h
  | .cmp op a b, X, sc, l, Z, e, c, h => by
    simp only [chkE] at h
    split at h
    · simp only [Bool.and_eq_true, Bool.not_eq_true'] at h
      obtain ⟨⟨⟨h1, h2⟩, h3⟩, h4⟩ := h
      obtain rfl := of_decide_eq_true h1
      have ha := (chkE_ok a X sc l Z _ c h3).1
      have hb := (chkE_ok b X sc l Z _ c h4).1
      have G := cmp_G op c.st.kk (eqX_of c) (c.rm.mono (by omega)) c.gd c.tk
      exact ⟨de_cmpG op G h2 ha hb, fun _ => dt_cmpG op G h2 ha hb⟩
    · cases h
  | .chain op op' a b d, X, sc, l, Z, e, c, h => by
    simp only [chkE] at h
    split at h
    · simp only [Bool.and_eq_true, Bool.not_eq_true'] at h
      obtain ⟨⟨⟨⟨⟨⟨h1, h2⟩, h3⟩, h4⟩, h5⟩, h6⟩, h7⟩ := h
      obtain rfl := of_decide_eq_true h1
      obtain rfl := of_decide_eq_true h2
      have ha := (chkE_ok a X sc l Z _ c h5).1
      have hb := (chkE_ok b X sc l Z _ c h6).1
      have hd := (chkE_ok d X sc l Z _ c h7).1
      exact ⟨de_chain op op' c.st.kk c.un h3 h4 ha hb hd, fun _ => dt_chain op op' c.st.kk c.un h3 h4 ha hb hd⟩
    · cases h
  | .and es, X, sc, l, Z, e, c, h => by
    simp only [chkE] at h
    split at h
    · simp only [Bool.and_eq_true, Bool.not_eq_true'] at h
      obtain ⟨⟨h1, h2⟩, h3⟩ := h
      obtain ⟨k1, k2⟩ := chkAnd_ok es X sc l Z _ _ c h1 h2 h3
      exact ⟨k1, fun _ => ⟨fun pins s σ H Q I q => k2.run _ pins s σ H Q I q⟩⟩
    · cases h
  | .or es, X, sc, l, Z, e, c, h => by
    simp only [chkE] at h
    split at h
    · simp only [Bool.and_eq_true, Bool.not_eq_true'] at h
      obtain ⟨⟨h1, h2⟩, h3⟩ := h
      obtain ⟨k1, k2⟩ := chkOr_ok es X sc l Z _ _ c h1 h2 h3
      exact ⟨k1, fun _ => ⟨fun pins s σ H Q I q => k2.run _ pins s σ H Q I q⟩⟩
    · cases h
  | .not a, X, sc, l, Z, e, c, h => by
    simp only [chkE] at h
    split at h
    · rw [Bool.and_eq_true] at h
      obtain ⟨ha, ht⟩ := chkE_ok a X sc l Z _ c h.2
      exact ⟨de_not c.st.kk ha, fun _ => dt_not (ht h.1)⟩
    · cases h
  | .ite t a b, X, sc, l, Z, e, c, h => by
    simp only [chkE] at h
    split at h
    · simp only [Bool.and_eq_true] at h
      obtain ⟨⟨⟨h1, h2⟩, h3⟩, h4⟩ := h
      have tt := (chkE_ok t X sc l Z _ c h2).2 h1
      exact ⟨de_ite tt (chkE_ok a X sc l Z _ c h3).1 (chkE_ok b X sc l Z _ c h4).1, fun _ => dt_ite tt ((chkE_ok a X sc l Z _ c h3).2 rfl) ((chkE_ok b X sc l Z _ c h4).2 rfl)⟩
    · cases h
  | .tup es, X, sc, l, Z, e, c, h => by
    simp only [chkE] at h
    split at h
    · exact both_plain c (de_tup (chkEs_ok es X sc l Z _ c h).1) (fun _ _ z => nomatch z) (fun _ _ _ z => nomatch z) (fun _ _ _ _ z => nomatch z) (fun _ _ _ _ z => nomatch z)
    · cases h
  | .lst es, X, sc, l, Z, e, c, h => by
    simp only [chkE] at h
    split at h
    · exact both_plain c (de_lst (chkEs_ok es X sc l Z _ c h).1) (fun _ _ z => nomatch z) (fun _ _ _ z => nomatch z) (fun _ _ _ _ z => nomatch z) (fun _ _ _ _ z => nomatch z)
    · cases h
  | .box es, X, sc, l, Z, e, c, h => by
    simp only [chkE] at h
    split at h
    · exact both_plain c (de_box (chkEs_ok es X sc l Z _ c h).1) (fun _ _ z => nomatch z) (fun _ _ _ z => nomatch z) (fun _ _ _ _ z => nomatch z) (fun _ _ _ _ z => nomatch z)
    · cases h
  | .emp, X, sc, l, Z, e, c, h => by
    simp only [chkE] at h
    split at h
    · exact both_plain c de_emp (fun _ _ z => nomatch z) (fun _ _ _ z => nomatch z) (fun _ _ _ _ z => nomatch z) (fun _ _ _ _ z => nomatch z)
    · cases h
  | .idx a i, X, sc, l, Z, e, c, h => by
    simp only [chkE] at h
    split at h
    · rw [Bool.and_eq_true, Bool.and_eq_true] at h
      exact both_plain c (de_idx c.un c.st.kk (slice_ok h.1.1) (chkE_ok a X sc l Z _ c h.1.2).1 (chkE_ok i X sc l Z _ c h.2).1) (fun _ _ z => nomatch z) (fun _ _ _ z => nomatch z) (fun _ _ _ _ z => nomatch z) (fun _ _ _ _ z => nomatch z)
    · cases h
  | .cut a lo hi, X, sc, l, Z, e, c, h => by
    simp only [chkE] at h
    split at h
    · rw [Bool.and_eq_true, Bool.and_eq_true] at h
      exact both_plain c (de_cut c.st.kk (chkE_ok a X sc l Z _ c h.1.1).1 (chkO_ok lo X sc l Z _ c h.1.2) (chkO_ok hi X sc l Z _ c h.2)) (fun _ _ z => nomatch z) (fun _ _ _ z => nomatch z) (fun _ _ _ _ z => nomatch z) (fun _ _ _ _ z => nomatch z)
    · cases h
  | .call j es ks kes, X, sc, l, Z, e, c, h => by
    simp only [chkE] at h
    split at h
    · simp only [Bool.and_eq_true] at h
      obtain ⟨⟨⟨⟨h1, h2⟩, h3⟩, h4⟩, h5⟩ := h
      obtain ⟨g1, g2⟩ := glB_ok c.hs h1
      obtain ⟨f, f1, f2, f3, f4⟩ := fnB_ok h2
      obtain ⟨a1, a2, a3⟩ := chkEs_ok es X sc l Z _ c h4
      have hk := chkK_ok kes X sc l Z _ c h5
      exact both_plain c (call_snd c f1 f2 f3 f4 g1 g2 (kwsB_ok h3) a1 a2 a3 hk) (fun _ _ z => nomatch z) (fun _ _ _ z => nomatch z) (fun _ _ _ _ z => nomatch z) (fun _ _ _ _ z => nomatch z)
    · cases h
  | .mk k es ks kes, X, sc, l, Z, e, c, h => by
    simp only [chkE] at h
    split at h
    · simp only [Bool.and_eq_true] at h
      obtain ⟨⟨⟨⟨h1, h2⟩, h3⟩, h4⟩, h5⟩ := h
      obtain ⟨g1, g2⟩ := glB_ok c.hs h1
      obtain ⟨cl, f, f1, f2, f3, f4, f5, f6⟩ := mkB_ok h2
      obtain ⟨a1, a2, a3⟩ := chkEs_ok es X sc l Z _ c h4
      have hk := chkK_ok kes X sc l Z _ c h5
      exact both_plain c (mk_snd c f1 f2 f3 f4 f5 f6 g1 g2 (kwsB_ok h3) a1 a2 a3 hk) (fun _ _ z => nomatch z) (fun _ _ _ z => nomatch z) (fun _ _ _ _ z => nomatch z) (fun _ _ _ _ z => nomatch z)
    · cases h
  | .bi b es, X, sc, l, Z, e, c, h => by
    simp only [chkE] at h
    split at h
    · simp only [Bool.and_eq_true, Bool.not_eq_true'] at h
      obtain ⟨⟨⟨⟨h1, h2⟩, h3⟩, h4⟩, h5⟩ := h
      obtain ⟨g1, g2⟩ := glB_ok c.hs h1
      obtain rfl := of_decide_eq_true h3
      obtain ⟨a1, a2, a3⟩ := chkEs_ok es X sc l Z _ c h5
      exact both_plain c (bi_snd c (by intro z; rw [z] at h4; cases h4) h2 g1 g2 a1 a2 a3) (fun _ _ z => nomatch z) (fun _ _ _ z => nomatch z) (fun _ _ _ _ z => nomatch z) (fun _ _ _ _ z => nomatch z)
    · cases h
  | .fld o f, X, sc, l, Z, e, c, h => by
    simp only [chkE] at h
    split at h
    · rw [Bool.and_eq_true, Bool.and_eq_true] at h
      obtain ⟨⟨h1, h2⟩, h3⟩ := h
      obtain rfl := of_decide_eq_true h1
      exact both_plain c (de_fld c.st.cf (base_ok h2) (chkE_ok o X sc l Z _ c h3).1) (fun _ _ z => nomatch z) (fun _ _ _ z => nomatch z) (fun _ _ _ _ z => nomatch z) (fun _ _ _ _ z => nomatch z)
    · cases h
  | .heard j body, X, sc, l, Z, e, c, h => by
    simp only [chkE] at h
    split at h
    · simp only [Bool.and_eq_true] at h
      obtain ⟨⟨⟨⟨⟨h1, h2⟩, h3⟩, h4⟩, h5⟩, h6⟩ := h
      obtain ⟨g1, g2⟩ := glB_ok c.hs h2
      obtain ⟨f, f1, f2, f3, f4⟩ := fnB_ok h3
      obtain rfl := noArgs_ok h5
      obtain ⟨rm, cc, tb, B, ec, mT, uT⟩ := c.lm h1
      have L := lamS_by h4
      rw [← c.hs] at L
      exact both_plain c (c.dy.hrd j f _ f1 f3 f2 X rfl rfl rfl rfl rfl Z (evE P F body) _ _ _ _ _ cc tb g1 g2 B ec mT uT rm c.gd L fun f d A outer s H E hr hg => (chkE_ok body _ _ false _ _ (lamCn c hr hg) h6).1) (fun _ _ z => nomatch z) (fun _ _ _ z => nomatch z) (fun _ _ _ _ z => nomatch z) (fun _ _ _ _ z => nomatch z)
    · cases h
  | .lc r i k it cd, X, sc, l, Z, e, c, h => by
    simp only [chkE] at h
    split at h
    · rename_i elt x px iter ifs a scope pos
      simp only [Bool.and_eq_true] at h
      obtain ⟨⟨⟨⟨⟨h1, h2⟩, h3⟩, h4⟩, h5⟩, h6⟩ := h
      obtain rfl := of_decide_eq_true h1
      have L : LcB X C scope i x px ifs elt (evC P F cd) (evE P F r) := lcB_mk c h2 (of_decide_eq_true h3) (fun X' c' => (chkE_ok r X' _ false Z0 _ c' h4).1) (fun X' c' => chkC_ok cd X' _ _ c' h5)
      cases k with
      | lst =>
        rw [Bool.and_eq_true] at h6
        exact both_plain c (de_lc_lst L (setB_ok h6.1) (chkE_ok it X sc l Z _ c h6.2).1) (fun _ _ z => nomatch z) (fun _ _ _ z => nomatch z) (fun _ _ _ _ z => nomatch z) (fun _ _ _ _ z => nomatch z)
      | tup =>
        rw [Bool.and_eq_true] at h6
        exact both_plain c (de_lc_tup L (setB_ok h6.1) (chkE_ok it X sc l Z _ c h6.2).1) (fun _ _ z => nomatch z) (fun _ _ _ z => nomatch z) (fun _ _ _ _ z => nomatch z) (fun _ _ _ _ z => nomatch z)
      | rng =>
        dsimp only at h6
        split at h6
        · simp only [Bool.and_eq_true] at h6
          obtain ⟨⟨⟨⟨k1, k2⟩, k3⟩, k4⟩, k5⟩ := h6
          obtain rfl := of_decide_eq_true k1
          exact both_plain c (de_lc_rng L (glB_ok c.hs k2).1 (c.st.fr _ k3) (star_ok k4) (chkE_ok it X sc l Z _ c k5).1) (fun _ _ z => nomatch z) (fun _ _ _ z => nomatch z) (fun _ _ _ _ z => nomatch z) (fun _ _ _ _ z => nomatch z)
        · cases h6
    · cases h
  | .cat x k f v, X, sc, l, Z, e, c, h => by
    simp only [chkE] at h
    split at h
    · simp only [Bool.and_eq_true] at h
      obtain ⟨⟨⟨h1, h2⟩, h3⟩, h4⟩ := h
      obtain rfl := of_decide_eq_true h1
      obtain rfl := of_decide_eq_true h2
      obtain ⟨g1, g2⟩ := glB_ok c.hs h3
      exact both_plain c (cat_snd c g1 g2 h4) (fun _ _ z => nomatch z) (fun _ _ _ z => nomatch z) (fun _ _ _ _ z => nomatch z) (fun _ _ _ _ z => nomatch z)
    · cases h
  | .meth o m es ks kes, X, sc, l, Z, e, c, h => by
    simp only [chkE] at h
    split at h
    · simp only [Bool.and_eq_true] at h
      obtain ⟨⟨⟨⟨⟨⟨⟨⟨h1, h2⟩, h3⟩, h4⟩, h5⟩, h6⟩, h7⟩, h8⟩, h9⟩ := h
      obtain rfl := of_decide_eq_true h1
      obtain ⟨a1, a2, a3⟩ := chkEs_ok es X sc l Z _ c h8
      have hk := chkK_ok kes X sc l Z _ c h9
      exact both_plain c (meth_snd c h2 h3 (of_decide_eq_true h4) (kwsB_ok h5) h6 (chkE_ok o X sc l Z _ c h7).1 a1 a2 a3 hk) (fun _ _ z => nomatch z) (fun _ _ _ z => nomatch z) (fun _ _ _ _ z => nomatch z) (fun _ _ _ _ z => nomatch z)
    · cases h
  | .fmt r, X, sc, l, Z, e, c, h => by
    simp only [chkE] at h
    split at h
    · rw [Bool.and_eq_true] at h
      obtain rfl := of_decide_eq_true h.1
      exact both_plain c (de_fmt (chkE_ok r X sc l Z _ c h.2).1) (fun _ _ z => nomatch z) (fun _ _ _ z => nomatch z) (fun _ _ _ _ z => nomatch z) (fun _ _ _ _ z => nomatch z)
    · cases h
  | .fst es, X, sc, l, Z, e, c, h => by
    simp only [chkE] at h
    split at h
    · rw [Bool.and_eq_true] at h
      exact both_plain c (de_fst (of_decide_eq_true h.1) (chkJ_ok es X sc l Z _ c h.2)) (fun _ _ z => nomatch z) (fun _ _ _ z => nomatch z) (fun _ _ _ _ z => nomatch z) (fun _ _ _ _ z => nomatch z)
    · cases h
  | .strO r, X, sc, l, Z, e, c, h => by
    simp only [chkE] at h
    split at h
    · simp only [Bool.and_eq_true] at h
      obtain ⟨⟨⟨⟨h1, h2⟩, h3⟩, h4⟩, h5⟩ := h
      obtain rfl := of_decide_eq_true h1
      obtain ⟨g1, g2⟩ := glB_ok c.hs h2
      exact both_plain c (de_strO (strX_of c) (c.rm.mono (by omega)) c.gd c.tk g1 (c.st.fr _ h3) (star_ok h4) (chkE_ok r X sc l Z _ c h5).1) (fun _ _ z => nomatch z) (fun _ _ _ z => nomatch z) (fun _ _ _ _ z => nomatch z) (fun _ _ _ _ z => nomatch z)
    · cases h
  | .sfld f, X, sc, l, Z, e, c, h => by
    simp only [chkE] at h
    split at h
    · rw [Bool.and_eq_true] at h
      obtain rfl := of_decide_eq_true h.1
      obtain ⟨v1, v2, v3, v4⟩ := visB_ok h.2
      exact both_plain c (de_sfld c.st.fo (by rw [c.hN]; exact v1) (by rw [c.hs]; exact v2) v3 v4) (fun _ _ z => nomatch z) (fun _ _ _ z => nomatch z) (fun _ _ _ _ z => nomatch z) (fun _ _ _ _ z => nomatch z)
    · cases h
  | .dc k v i kd it cd, X, sc, l, Z, e, c, h => by
    simp only [chkE] at h
    split at h
    · rename_i kx vx x px iter ifs a scope pos
      simp only [Bool.and_eq_true] at h
      obtain ⟨⟨⟨⟨⟨⟨⟨⟨h1, h2⟩, h3⟩, h4⟩, h5⟩, h6⟩, h7⟩, h8⟩, h9⟩ := h
      obtain rfl := of_decide_eq_true h1
      obtain rfl := of_decide_eq_true h2
      have L : LcB X C scope i x px ifs kx (evC P F cd) (evE P F k) := lcB_mk c h3 (of_decide_eq_true h4) (fun X' c' => (chkE_ok k X' _ false Z0 _ c' h5).1) (fun X' c' => chkC_ok cd X' _ _ c' h7)
      have L2 : LcB X C scope i x px ifs vx (evC P F cd) (evE P F v) := lcB_mk c h3 (of_decide_eq_true h4) (fun X' c' => (chkE_ok v X' _ false Z0 _ c' h6).1) (fun X' c' => chkC_ok cd X' _ _ c' h7)
      exact both_plain c (de_dc L L2 (setB_ok h8) (chkE_ok it X sc l Z _ c h9).1) (fun _ _ z => nomatch z) (fun _ _ _ z => nomatch z) (fun _ _ _ _ z => nomatch z) (fun _ _ _ _ z => nomatch z)
    · cases h
  | .lcK r i j, X, sc, l, Z, e, c, h => by
    simp only [chkE] at h
    split at h
    · rename_i elt x px y py a scope pos
      simp only [Bool.and_eq_true] at h
      obtain ⟨⟨⟨⟨⟨h1, h2⟩, h3⟩, h4⟩, h5⟩, h6⟩ := h
      obtain rfl := of_decide_eq_true h1
      obtain ⟨v1, v2, v3, v4⟩ := visB_ok h6
      have L : LcB X C scope i x px [] elt (evC P F none) (evE P F r) := lcB_mk c h2 (of_decide_eq_true h3) (fun X' c' => (chkE_ok r X' _ false Z0 _ c' h4).1) (fun X' c' => pts_none)
      have e0 : evC P F none = fun _ S => .ok true S := by
        funext ρ S
        rfl
      rw [e0] at L
      exact both_plain c (de_lcK L (of_decide_eq_true h5) (by rw [c.hN]; exact v1) (by rw [c.hs]; exact v2) v3 v4) (fun _ _ z => nomatch z) (fun _ _ _ z => nomatch z) (fun _ _ _ _ z => nomatch z) (fun _ _ _ _ z => nomatch z)
    · cases h
  | .lc2 r i ra rb cd, X, sc, l, Z, e, c, h => by
    simp only [chkE] at h
    split at h
    · rename_i elt x px y py e1 e2 p' ifs a scope pos
      simp only [Bool.and_eq_true] at h
      obtain ⟨⟨⟨⟨⟨⟨⟨⟨⟨⟨⟨h1, h2⟩, h3⟩, h4⟩, h5⟩, h6⟩, h7⟩, h8⟩, h9⟩, h10⟩, h11⟩, h12⟩ := h
      obtain rfl := of_decide_eq_true h1
      obtain rfl := of_decide_eq_true h6
      have L : LcB X C scope i x px ifs elt (evC P F cd) (evE P F r) := lcB_mk c h2 (of_decide_eq_true h3) (fun X' c' => (chkE_ok r X' _ false Z0 _ c' h4).1) (fun X' c' => chkC_ok cd X' _ _ c' h5)
      exact both_plain c (de_lc2 L (glB_ok c.hs h7).1 (c.st.fr _ h8) (star_ok h9) (star_ok h10) (chkE_ok ra X sc l Z _ c h11).1 (chkE_ok rb X sc l Z _ c h12).1) (fun _ _ z => nomatch z) (fun _ _ _ z => nomatch z) (fun _ _ _ _ z => nomatch z) (fun _ _ _ _ z => nomatch z)
    · cases h
  | .mkS k es, X, sc, l, Z, e, c, h => by
    simp only [chkE] at h
    split at h
    · simp only [Bool.and_eq_true] at h
      obtain ⟨⟨h1, h2⟩, h3⟩ := h
      obtain ⟨g1, g2⟩ := glB_ok c.hs h1
      obtain ⟨o1, o2⟩ := mkSB_ok c h2
      obtain ⟨a1, a2, a3⟩ := chkEs_ok es X sc l Z _ c h3
      exact both_plain c (de_mkS (mkSX_of c) o1 o2 (c.rm.mono (by omega)) c.gd c.tk g1 g2 a2 a1 (fun z => by
        subst z
        cases es with
        | nil => rfl
        | cons r rs => cases a3)) (fun _ _ z => nomatch z) (fun _ _ _ z => nomatch z) (fun _ _ _ _ z => nomatch z) (fun _ _ _ _ z => nomatch z)
    · cases h
  | .mkT k r, X, sc, l, Z, e, c, h => by
    simp only [chkE] at h
    split at h
    · simp only [Bool.and_eq_true] at h
      obtain ⟨⟨h1, h2⟩, h3⟩ := h
      obtain ⟨g1, g2⟩ := glB_ok c.hs h1
      obtain ⟨o1, o2⟩ := mkSB_ok c h2
      exact both_plain c (de_mkT (mkSX_of c) o1 o2 (c.rm.mono (by omega)) c.gd c.tk g1 g2 (chkE_ok r X sc l Z _ c h3).1) (fun _ _ z => nomatch z) (fun _ _ _ z => nomatch z) (fun _ _ _ _ z => nomatch z) (fun _ _ _ _ z => nomatch z)
    · cases h
  | .mkV i r, X, sc, l, Z, e, c, h => by
    simp only [chkE] at h
    split at h
    · rw [Bool.and_eq_true] at h
      obtain ⟨v1, v2, v3, v4⟩ := visB_ok h.1
      exact both_plain c (de_mkV (mkSX_of c) (c.rm.mono (by omega)) c.gd c.tk (by rw [c.hN]; exact v1) (by rw [c.hs]; exact v2) v3 v4 (chkE_ok r X sc l Z _ c h.2).1) (fun _ _ z => nomatch z) (fun _ _ _ z => nomatch z) (fun _ _ _ _ z => nomatch z) (fun _ _ _ _ z => nomatch z)
    · cases h
  | .cm k m j sm es, X, sc, l, Z, e, c, h => by
    simp only [chkE] at h
    split at h
    · simp only [Bool.and_eq_true, Bool.not_eq_true'] at h
      obtain ⟨⟨⟨⟨⟨⟨h1, h2⟩, h3⟩, h4⟩, h5⟩, h6⟩, h7⟩ := h
      obtain rfl := of_decide_eq_true h1
      obtain ⟨g1, g2⟩ := glB_ok c.hs h2
      obtain ⟨a1, a2, a3⟩ := chkEs_ok es X sc l Z _ c h7
      exact both_plain c (cm_snd c g1 g2 h3 (of_decide_eq_true h4) (by intro z; rw [z] at h5; cases h5) h6 a1 a2 a3) (fun _ _ z => nomatch z) (fun _ _ _ z => nomatch z) (fun _ _ _ _ z => nomatch z) (fun _ _ _ _ z => nomatch z)
    · cases h
  | .o1 o r, X, sc, l, Z, e, c, h => by
    simp only [chkE] at h
    split at h
    · simp only [Bool.and_eq_true] at h
      obtain ⟨⟨⟨⟨⟨h1, h2⟩, h3⟩, h4⟩, h5⟩, h6⟩ := h
      obtain rfl := of_decide_eq_true h1
      exact both_plain c (de_o1 o (of_decide_eq_true h2) c.calm (spX_of c (by decide)) (c.rm.mono (by omega)) c.gd c.tk (glB_ok c.hs h3).1 (c.st.fr _ h4) (star_ok h5) (chkE_ok r X sc l Z _ c h6).1) (fun _ _ z => nomatch z) (fun _ _ _ z => nomatch z) (fun _ _ _ _ z => nomatch z) (fun _ _ _ _ z => nomatch z)
    · cases h
  | .sset rb, X, sc, l, Z, e, c, h => by
    simp only [chkE] at h
    split at h
    · simp only [Bool.and_eq_true] at h
      obtain ⟨⟨⟨⟨⟨⟨⟨h1, h2⟩, h3⟩, h4⟩, h5⟩, h6⟩, h7⟩, h8⟩ := h
      obtain rfl := of_decide_eq_true h1
      obtain rfl := of_decide_eq_true h4
      exact both_plain c (de_sset c.calm (glB_ok c.hs h2).1 (c.st.fr _ h3) (glB_ok c.hs h5).1 (c.st.fr _ h6) (star_ok h7) (chkE_ok rb X sc l Z _ c h8).1) (fun _ _ z => nomatch z) (fun _ _ _ z => nomatch z) (fun _ _ _ _ z => nomatch z) (fun _ _ _ _ z => nomatch z)
    · cases h
  | .rev r, X, sc, l, Z, e, c, h => by
    simp only [chkE] at h
    split at h
    · rw [Bool.and_eq_true] at h
      obtain rfl := of_decide_eq_true h.1
      exact both_plain c (de_revA (chkE_ok r X sc l Z _ c h.2).1) (fun _ _ z => nomatch z) (fun _ _ _ z => nomatch z) (fun _ _ _ _ z => nomatch z) (fun _ _ _ _ z => nomatch z)
    · cases h
  | .lrng ra rb, X, sc, l, Z, e, c, h => by
    simp only [chkE] at h
    split at h
    · simp only [Bool.and_eq_true] at h
      obtain ⟨⟨⟨⟨⟨⟨⟨⟨⟨h1, h2⟩, h3⟩, h4⟩, h5⟩, h6⟩, h7⟩, h8⟩, h9⟩, h10⟩ := h
      obtain rfl := of_decide_eq_true h1
      obtain rfl := of_decide_eq_true h4
      exact both_plain c (de_lrng c.calm (glB_ok c.hs h2).1 (c.st.fr _ h3) (glB_ok c.hs h5).1 (c.st.fr _ h6) (star_ok h7) (star_ok h8) (chkE_ok ra X sc l Z _ c h9).1 (chkE_ok rb X sc l Z _ c h10).1) (fun _ _ z => nomatch z) (fun _ _ _ z => nomatch z) (fun _ _ _ _ z => nomatch z) (fun _ _ _ _ z => nomatch z)
    · cases h
  | .lrng1 rb, X, sc, l, Z, e, c, h => by
    simp only [chkE] at h
    split at h
    · simp only [Bool.and_eq_true] at h
      obtain ⟨⟨⟨⟨⟨⟨⟨h1, h2⟩, h3⟩, h4⟩, h5⟩, h6⟩, h7⟩, h8⟩ := h
      obtain rfl := of_decide_eq_true h1
      obtain rfl := of_decide_eq_true h4
      exact both_plain c (de_lrng1 c.calm (glB_ok c.hs h2).1 (c.st.fr _ h3) (glB_ok c.hs h5).1 (c.st.fr _ h6) (star_ok h7) (chkE_ok rb X sc l Z _ c h8).1) (fun _ _ z => nomatch z) (fun _ _ _ z => nomatch z) (fun _ _ _ _ z => nomatch z) (fun _ _ _ _ z => nomatch z)
    · cases h
  | .opr op a b, X, sc, l, Z, e, c, h => by
    simp only [chkE] at h
    cases h
  | .disp t bs es, X, sc, l, Z, e, c, h => by
    simp only [chkE] at h
    split at h
    · rw [Bool.and_eq_true, Bool.not_eq_true'] at h
      obtain ⟨h1, h2⟩ := h
      subst h1
      exact both_plain c (de_dispL (chkSt_ok es bs X sc l Z _ c h2)) (fun _ _ z => nomatch z) (fun _ _ _ z => nomatch z) (fun _ _ _ _ z => nomatch z) (fun _ _ _ _ z => nomatch z)
    · rw [Bool.and_eq_true] at h
      obtain ⟨h1, h2⟩ := h
      subst h1
      exact both_plain c (de_dispT (chkSt_ok es bs X sc l Z _ c h2)) (fun _ _ z => nomatch z) (fun _ _ _ z => nomatch z) (fun _ _ _ _ z => nomatch z) (fun _ _ _ _ z => nomatch z)
    · cases h
theorem chkSt_ok : ∀ (rs : List RE) (bs : List Bool) (X : Cx) (sc : Scope) (l : Bool) (Z : WX) (es : List Expr), Cn X C P F n N sc l Z → chkSt P N bs rs sc l es = true → PA X es (tAs C Z (evSt P F rs bs))
  | [], bs, X, sc, l, Z, es, c, h => by
    simp only [chkSt] at h
    rw [Bool.and_eq_true] at h
    obtain rfl := List.isEmpty_iff.mp h.1
    obtain rfl := List.isEmpty_iff.mp h.2
    exact da_nil
  | r :: rs, bs, X, sc, l, Z, es, c, h => by
    simp only [chkSt] at h
    split at h
    · rw [Bool.and_eq_true] at h
      exact da_star (chkE_ok r X sc l Z _ c h.1).1 (chkSt_ok rs _ X sc l Z _ c h.2)
    · rw [Bool.and_eq_true, Bool.and_eq_true] at h
      exact da_cons (star_ok h.1.1) (chkE_ok r X sc l Z _ c h.1.2).1 (chkSt_ok rs _ X sc l Z _ c h.2)
    · cases h
theorem chkJ_ok : ∀ (rs : List RE) (X : Cx) (sc : Scope) (l : Bool) (Z : WX) (es : List Expr), Cn X C P F n N sc l Z → chkEs P N rs sc l es = true → PJ X es (rs.map fun r => tE C Z (evE P F r))
  | [], X, sc, l, Z, es, c, h => by
    simp only [chkEs] at h
    obtain rfl := List.isEmpty_iff.mp h
    exact .nil
  | r :: rs, X, sc, l, Z, es, c, h => by
    simp only [chkEs] at h
    split at h
    · rw [Bool.and_eq_true, Bool.and_eq_true] at h
      exact .cons (chkE_ok r X sc l Z _ c h.1.2).1 (chkJ_ok rs X sc l Z _ c h.2)
    · cases h
theorem chkC_ok : ∀ (cd : Option RE) (X : Cx) (sc : Scope) (ifs : List Expr), Cn X C P F n N sc false Z0 → chkC P N cd sc ifs = true → PTs X ifs (tT C Z0 (evC P F cd))
  | none, X, sc, ifs, c, h => by
    simp only [chkC] at h
    obtain rfl := List.isEmpty_iff.mp h
    exact pts_none
  | some r, X, sc, ifs, c, h => by
    simp only [chkC] at h
    split at h
    · rw [Bool.and_eq_true] at h
      exact pts_one ((chkE_ok r X sc false Z0 _ c h.2).2 h.1)
    · cases h
theorem chkEs_ok : ∀ (rs : List RE) (X : Cx) (sc : Scope) (l : Bool) (Z : WX) (es : List Expr), Cn X C P F n N sc l Z → chkEs P N rs sc l es = true → PA X es (tAs C Z (evEs P F rs)) ∧ noStar es ∧ es.length = rs.length
  | [], X, sc, l, Z, es, c, h => by
    simp only [chkEs] at h
    obtain rfl := List.isEmpty_iff.mp h
    exact ⟨da_nil, fun e he => (by cases he), rfl⟩
  | r :: rs, X, sc, l, Z, es, c, h => by
    simp only [chkEs] at h
    split at h
    · rw [Bool.and_eq_true, Bool.and_eq_true] at h
      obtain ⟨⟨h1, h2⟩, h3⟩ := h
      obtain ⟨k1, k2, k3⟩ := chkEs_ok rs X sc l Z _ c h3
      refine ⟨da_cons (star_ok h1) (chkE_ok r X sc l Z _ c h2).1 k1, fun e he => ?_, by rw [List.length_cons, List.length_cons, k3]⟩
      rcases List.mem_cons.mp he with z | z
      · rw [z]
        exact star_ok h1
      · exact k2 e z
    · cases h
theorem chkAnd_ok : ∀ (rs : List RE) (X : Cx) (sc : Scope) (l : Bool) (Z : WX) (es : List Expr) (p : Pos), Cn X C P F n N sc l Z → rs.isEmpty = false → rs.all tstB = true → chkEs P N rs sc l es = true → PE X (.BoolOp .And es p) (tE C Z (evAnd P F rs)) ∧ PW X (.BoolOp .And es p) (tT C Z fun ρ S => (evAnd P F rs ρ S).bind truD)
  | [], X, sc, l, Z, es, p, c, h1, h2, h3 => by cases h1
  | [r], X, sc, l, Z, es, p, c, h1, h2, h3 => by
    simp only [chkEs] at h3
    split at h3
    · rename_i x xs
      rw [Bool.and_eq_true, Bool.and_eq_true] at h3
      obtain rfl := List.isEmpty_iff.mp h3.2
      rw [List.all_cons, Bool.and_eq_true] at h2
      obtain ⟨k1, k2⟩ := chkE_ok r X sc l Z _ c h3.1.2
      exact ⟨and1_pe k1, and1_pw (k2 h2.1)⟩
    · cases h3
  | r :: r1 :: rs, X, sc, l, Z, es, p, c, h1, h2, h3 => by
    simp only [chkEs] at h3
    split at h3
    · rename_i x xs
      rw [Bool.and_eq_true, Bool.and_eq_true] at h3
      rw [List.all_cons, Bool.and_eq_true] at h2
      obtain ⟨k1, k2⟩ := chkE_ok r X sc l Z _ c h3.1.2
      obtain ⟨m1, m2⟩ := chkAnd_ok (r1 :: rs) X sc l Z xs p c rfl h2.2 (by simp only [chkEs]; exact h3.2)
      cases xs with
      | nil => cases h3.2
      | cons y ys => exact ⟨de_and c.st.kk k1 m1, dw_and (k2 h2.1) m2⟩
    · cases h3
theorem chkOr_ok : ∀ (rs : List RE) (X : Cx) (sc : Scope) (l : Bool) (Z : WX) (es : List Expr) (p : Pos), Cn X C P F n N sc l Z → rs.isEmpty = false → rs.all tstB = true → chkEs P N rs sc l es = true → PE X (.BoolOp .Or es p) (tE C Z (evOr P F rs)) ∧ PW X (.BoolOp .Or es p) (tT C Z fun ρ S => (evOr P F rs ρ S).bind truD)
  | [], X, sc, l, Z, es, p, c, h1, h2, h3 => by cases h1
  | [r], X, sc, l, Z, es, p, c, h1, h2, h3 => by
    simp only [chkEs] at h3
    split at h3
    · rename_i x xs
      rw [Bool.and_eq_true, Bool.and_eq_true] at h3
      obtain rfl := List.isEmpty_iff.mp h3.2
      rw [List.all_cons, Bool.and_eq_true] at h2
      obtain ⟨k1, k2⟩ := chkE_ok r X sc l Z _ c h3.1.2
      exact ⟨or1_pe k1, or1_pw (k2 h2.1)⟩
    · cases h3
  | r :: r1 :: rs, X, sc, l, Z, es, p, c, h1, h2, h3 => by
    simp only [chkEs] at h3
    split at h3
    · rename_i x xs
      rw [Bool.and_eq_true, Bool.and_eq_true] at h3
      rw [List.all_cons, Bool.and_eq_true] at h2
      obtain ⟨k1, k2⟩ := chkE_ok r X sc l Z _ c h3.1.2
      obtain ⟨m1, m2⟩ := chkOr_ok (r1 :: rs) X sc l Z xs p c rfl h2.2 (by simp only [chkEs]; exact h3.2)
      cases xs with
      | nil => cases h3.2
      | cons y ys => exact ⟨de_or c.st.kk k1 m1, dw_or (k2 h2.1) m2⟩
    · cases h3
theorem chkK_ok : ∀ (rs : List RE) (X : Cx) (sc : Scope) (l : Bool) (Z : WX) (kws : List Keyword), Cn X C P F n N sc l Z → chkEs P N rs sc l (kws.map (·.value)) = true → PK X kws (tAs C Z (evEs P F rs))
  | [], X, sc, l, Z, kws, c, h => by
    simp only [chkEs] at h
    cases kws with
    | nil => exact dk_nil
    | cons k ks => cases h
  | r :: rs, X, sc, l, Z, kws, c, h => by
    cases kws with
    | nil =>
      simp only [chkEs] at h
      cases h
    | cons k ks =>
      obtain ⟨nm, v, kp⟩ := k
      simp only [chkEs, List.map_cons] at h
      rw [Bool.and_eq_true, Bool.and_eq_true] at h
      exact dk_cons (chkE_ok r X sc l Z _ c h.1.2).1 (chkK_ok rs X sc l Z _ c h.2)
theorem chkO_ok : ∀ (r : Option RE) (X : Cx) (sc : Scope) (l : Bool) (Z : WX) (e : Option Expr), Cn X C P F n N sc l Z → chkO P N r sc l e = true → PO X e (tO C Z (evO P F r))
  | none, X, sc, l, Z, e, c, h => by
    simp only [chkO] at h
    cases e with
    | none => exact do_none
    | some e => cases h
  | some r, X, sc, l, Z, e, c, h => by
    simp only [chkO] at h
    split at h
    · exact do_some (chkE_ok r X sc l Z _ c h).1
    · cases h
end
end
end DL
end
-- DLChs
section
set_option maxHeartbeats 4000000
namespace DL
open PySem PySem.Spec L2
open LamX PyProof.Rows
def tgB (N : List Str) (sc : Scope) : List Nat → List Expr → Bool
  | [], [] => true
  | i :: is, .Name x _ :: es => locB N sc i x && tgB N sc is es
  | _, _ => false
/-- the stores of a tuple's display are not swapped: constants alone -/
def celB (sc : Scope) : Expr → Bool
  | .Name x _ => decide (sc.names.lookup x = some .cell)
  | _ => false
def noSwap (sc : Scope) (ts : List Expr) : Expr → Bool
  | .Tuple vs _ _ => !(ts.length == 2 || ts.length == 3) || (vs.length == ts.length && vs.all (foldedForSure 8)) || (ts.any (celB sc) && vs.all fun | .Starred .. => false | _ => true)
  | _ => true
/-- the stores of these are swapped for sure -/
def parC (vs : List Expr) : Bool := !vs.all (foldedForSure 8) && !vs.all (constantsAlone 8)
def raB (P : Pg) (c : Nat) (x : Str) : Bool := match P.cls[c]? with
  | some cl => decide (cl.name = x) && !cl.kind.pl && !cl.flds.isEmpty
  | none => false
def clB (P : Pg) (c : Nat) (x : Str) : Bool := match P.cls[c]? with
  | some cl => decide (cl.name = x) && !cl.kind.pl
  | none => false
def suB (P : Pg) (c j : Nat) (x : Str) (n : Nat) : Bool := match P.cls[c]?, P.fns[j]? with
  | some cl, some f => decide (cl.name = x) && cl.kind.pl && decide (cl.init = j) && decide (f.kind = .ini) && f.shapes.contains (n, []) && decide (f.ps.length = n + 1) && decide (n < 29)
  | _, _ => false
def itB (P : Pg) (N : List Str) (it : RI) (sc : Scope) (l : Bool) (e : Expr) : Bool := match it with
  | .lst r => !setB_ e && chkE P N r sc l e
  | .tup r => !setB_ e && chkE P N r sc l e
  | .rng r => (match e with
    | .Call (.Name x _) [a] [] _ => decide (x = ("range" : Str)) && glB sc x && P.frees.contains x && !starB a && chkE P N r sc l a
    | _ => false)
  | .rng2 r1 r2 => (match e with
    | .Call (.Name x _) [a, b] [] _ => decide (x = ("range" : Str)) && glB sc x && P.frees.contains x && !starB a && !starB b && chkE P N r1 sc l a && chkE P N r2 sc l b
    | _ => false)
/-- a comprehension that is stored: the name a local that it does not have -/
def lcYB (sc : Scope) (y : Str) (py : Pos) : Expr → Bool
  | .ListComp _ _ scope pos => decide (sc.names.lookup y = some .local) && (py.line == pos.line) && !(scope.names.any fun (n, k) => n == y && (k == .local || k == .cell))
  | .DictComp _ _ _ scope pos => decide (sc.names.lookup y = some .local) && (py.line == pos.line) && !(scope.names.any fun (n, k) => n == y && (k == .local || k == .cell))
  | _ => false
def noK : RE → Bool
  | .lcK _ _ _ => false
  | _ => true
mutual
def chkS (P : Pg) (N : List Str) (ha : Option Str) : RS → Scope → Bool → Stmt → Bool
  | .asg i r, sc, l, s => (match s with
    | .Assign [.Name x px] e _ => locB N sc i x && (!compB e || (decide (sc.names.lookup x = some .cell) || (lcYB sc x px e && noK r))) && chkE P N r sc l e
    | _ => false)
  | .own i rs, sc, l, s => (match s with
    | .Assign [.Name x _] (.List es _) _ => locB N sc i x && chkEs P N rs sc l es
    | _ => false)
  | .par is rs, sc, l, s => (match s, is with
    | .Assign [.Tuple [.Name x px, .Name y py] _ _] (.Tuple [a, b] _ _) _, [i, j] => locB N sc i x && locB N sc j y && decide (i ≠ j) && decide (sc.names.lookup x = some .local) && decide (sc.names.lookup y = some .local) && (py.line == px.line) && parC [a, b] && chkEs P N rs sc l [a, b]
    | _, _ => false)
  | .unp is r, sc, l, s => (match s with
    | .Assign [.Tuple ts _ _] e _ => tgB N sc is ts && !compB e && noSwap sc ts e && chkE P N r sc l e
    | _ => false)
  | .setI i k r, sc, l, s => (match s with
    | .Assign [.Subscript (.Name x _) a _] e _ => visB N sc i x && !sliceB a && !compB e && chkE P N k sc l a && chkE P N r sc l e
    | _ => false)
  | .setB i k r, sc, l, s => (match s with
    | .Assign [.Subscript (.Name x _) a _] e _ => visB N sc i x && !sliceB a && !compB e && chkE P N k sc l a && chkE P N r sc l e
    | _ => false)
  | .setF f r, sc, l, s => (match s with
    | .Assign [.Attribute (.Name x _) g _] e _ => decide (f = g) && visB N sc 0 x && !compB e && chkE P N r sc l e
    | _ => false)
  | .app i r, sc, l, s => (match s with
    | .Expr (.Call (.Attribute (.Name x _) m ap) [a] [] p) _ => decide (m = ("append" : Str)) && visB N sc i x && !starB a && (ap.endLine == p.line) && chkE P N r sc l a
    | _ => false)
  | .expr r, sc, l, s => (match s with
    | .Expr e _ => !compB e && chkE P N r sc l e
    | _ => false)
  | .ret r, sc, l, s => (match s with
    | .Return (some e) _ => chkE P N r sc l e
    | _ => false)
  | .retN, _, _, s => (match s with
    | .Return none _ => true
    | _ => false)
  | .pass, _, _, s => (match s with
    | .Pass _ => true
    | _ => false)
  | .ifs c a b, sc, l, s => (match s with
    | .If t x y _ => tstB c && chkE P N c sc l t && chkSs P N ha a sc l x && chkSs P N ha b sc l y
    | _ => false)
  | .for_ i it b, sc, l, s => (match s with
    | .For (.Name x _) e body [] _ => locB N sc i x && itB P N it sc l e && chkSs P N ha b sc l body
    | _ => false)
  | .raise c rs, sc, l, s => (match s with
    | .Raise (some (.Call (.Name x _) es [] _)) none _ => glB sc x && raB P c x && !rs.isEmpty && chkEs P N rs sc l es
    | _ => false)
  | .tryK b c i j, sc, l, s => (match s with
    | .Try body [.ExceptHandler (some (.Name x _)) (some n) [.Assign [.Name y _] (.Name n' _) _] _] [] [] _ =>
      glB sc x && clB P c x && decide (n = n') && locB N sc i n && locB N sc j y && decide (sc.names.lookup n = some .local) && decide (sc.names.lookup y = some .local) && chkSs P N ha b sc l body
    | _ => false)
  | .sup c j rs, sc, l, s => (match s with
    | .Expr (.Call (.Attribute (.Name x _) m ap) (.Name y _ :: es) [] p) _ => decide (m = ("__init__" : Str)) && glB sc x && suB P c j x rs.length && visB N sc 0 y && (ap.endLine == p.line) && chkEs P N rs sc l es
    | _ => false)
  | .actA i, sc, _, s => (match s, ha with
    | .Assign [.Name x _] (.Call (.Name y _) [] [] _) _, some a => decide (a = y) && locB N sc i x
    | _, _ => false)
  | .actE, _, _, s => (match s, ha with
    | .Expr (.Call (.Name y _) [] [] _) _, some a => decide (a = y)
    | _, _ => false)
  | .actR, _, _, s => (match s, ha with
    | .Return (some (.Call (.Name y _) [] [] _)) _, some a => decide (a = y)
    | _, _ => false)
  | .frz _, _, _, _ => false
  | .lend _, _, _, _ => false
  | .frzB _, _, _, _ => false
  | .appB i r, sc, l, s => (match s with
    | .Expr (.Call (.Attribute (.Name x _) m ap) [a] [] p) _ => decide (m = ("append" : Str)) && visB N sc i x && !starB a && (ap.endLine == p.line) && chkE P N r sc l a
    | _ => false)
  | .whil c b, sc, l, s => (match s with
    | .While t x [] _ => tstB c && chkE P N c sc l t && chkSs P N ha b sc l x
    | _ => false)
  | .forE i j r b, sc, l, s => (match s with
    | .For (.Tuple ts _ _) (.Call (.Name x _) [e] [] _) body [] _ => decide (x = ("enumerate" : Str)) && glB sc x && P.frees.contains x && !starB e && tgB N sc [i, j] ts && chkE P N r sc l e && chkSs P N ha b sc l body
    | _ => false)
  | .ownL i r, sc, l, s => (match s with
    | .Assign [.Name x _] (.Call (.Name y _) [e] [] _) _ => locB N sc i x && decide (y = ("list" : Str)) && glB sc y && P.frees.contains y && !starB e && chkE P N r sc l e
    | _ => false)
def chkSs (P : Pg) (N : List Str) (ha : Option Str) : List RS → Scope → Bool → List Stmt → Bool
  | [], _, _, ss => ss.isEmpty
  | .frz _ :: rs, sc, l, ss => chkSs P N ha rs sc l ss
  | .lend _ :: rs, sc, l, ss => chkSs P N ha rs sc l ss
  | .frzB _ :: rs, sc, l, ss => chkSs P N ha rs sc l ss
  | r :: rs, sc, l, ss => (match ss with
    | s :: ss => chkS P N ha r sc l s && chkSs P N ha rs sc l ss
    | [] => false)
end
end DL
end
-- DLSns
section
set_option maxHeartbeats 4000000
namespace DL
open PySem PySem.Spec L2
open LamX PyProof.Rows
/-- the context of a def's body; (W0, H0): its entry -/
structure Cs (X : Cx) (C : Ct) (P : Pg) (F : Fs) (n : Nat) (N : List Str) (sc : Scope) (l : Bool) (ha : Option Str) (W0 : Wd) (H0 : Hp) (U : List Addr) (Z : WX) : Prop extends Cn X C P F n N sc l Z where
  fnx : ∀ x, X.fn x = true
  po : PassesOwn (model X.prog X.w) X.A X.env X.xe
  stk : X.stack = X.env :: X.outer
  frm : X.env.frame = some X.env.locals
  exn : X.ex = []
  knd : X.env.scope.kind = .function
  rs : Room (8 * n + 7) X.A
  act : ∀ a, ha = some a → ActOk X C a W0 H0 U F.act
theorem comp_sw {e : Expr} {t : Option Expr} {ln : Nat} {env : Env} (h : (!compB e) = true) : swapsWith e t ln env = pure false := by
  cases e <;> first | rfl | cases h
theorem sole_sw {e t : Expr} {ln : Nat} {env : Env} (h : (!compB e) = true) : swapsWithSole [t] e ln env = pure false := by
  unfold swapsWithSole
  exact comp_sw h
theorem cell_sw {e : Expr} {y : Str} {p : Pos} {ln : Nat} {env : Env} (h : env.scope.names.lookup y = some .cell) : swapsWith e (some (.Name y p)) ln env = pure false := by
  have k : env.kindOf y = some .cell := h
  unfold swapsWith
  split
  · simp only [k]
    have e : ((some NameKind.cell : Option NameKind) == some NameKind.local) = false := by decide
    rw [e]
    simp
  · rfl
theorem names_lt {env : Env} {l : Nat} : ∀ (ts : List Expr), ts.any (celB env.scope) = true → (ts.filterMap fun
    | .Name id pos => if env.kindOf id == some .local && pos.line == l then some id else none
    | _ => none).length < ts.length
  | [], h => by cases h
  | t :: ts, h => by
    rw [List.any_cons, Bool.or_eq_true] at h
    rw [List.filterMap_cons]
    rcases h with h | h
    · cases t with
      | Name x p =>
        have k : env.kindOf x = some .cell := of_decide_eq_true h
        have e : ((some NameKind.cell : Option NameKind) == some NameKind.local) = false := by decide
        simp only [k, e, Bool.false_and, Bool.false_eq_true, if_false]
        exact Nat.lt_succ_of_le (List.length_filterMap_le _ _)
      | _ => cases h
    · have ih := names_lt (l := l) ts h
      split
      · rw [List.length_cons]
        omega
      · rw [List.length_cons, List.length_cons]
        omega
theorem noswap_ok {env : Env} {ts : List Expr} {e : Expr} {k : Nat} {p : Pos} {sc : Scope} (hs : env.scope = sc) (h : noSwap sc ts e = true) : swappedStores [.Tuple ts k p] e env = pure none := by
  subst hs
  cases e with
  | Tuple vs k2 p2 =>
    have h : ((!(ts.length == 2 || ts.length == 3) || (vs.length == ts.length && vs.all (foldedForSure 8))) || (ts.any (celB env.scope) && vs.all fun | .Starred .. => false | _ => true)) = true := h
    rw [Bool.or_eq_true] at h
    rcases h with h | h
    · unfold swappedStores
      dsimp only
      by_cases h1 : (ts.length == 2 || ts.length == 3) = true
      · rw [h1] at h
        simp only [Bool.not_true, Bool.false_or, Bool.and_eq_true] at h
        rw [h.2]
        repeat' split
        all_goals first | rfl | contradiction
      · simp only [Bool.not_eq_true] at h1
        rw [h1]
        rfl
    · rw [Bool.and_eq_true] at h
      have hl := names_lt (l := (ts.head?.map (·.pos.line)).getD 0) ts h.1
      have ne : ((ts.filterMap fun
        | .Name id pos => if env.kindOf id == some .local && pos.line == (ts.head?.map (·.pos.line)).getD 0 then some id else none
        | _ => none).length != ts.length) = true := by
        rw [bne_iff_ne]
        omega
      unfold swappedStores
      dsimp only
      split
      · rfl
      · split
        · rfl
        · exact if_pos (Bool.or_eq_true_iff.mpr (.inl ne))
  | _ => rfl
section
variable {C : Ct} {P : Pg} {F : Fs} {n : Nat} {N : List Str} {ha : Option Str} {W0 : Wd} {H0 : Hp} {U : List Addr}
theorem tgB_ok {X : Cx} {sc : Scope} (hN : X.N = N) (hs : X.env.scope = sc) (hf : ∀ x, X.fn x = true) : ∀ (is : List Nat) (es : List Expr), tgB N sc is es = true → Tgs X es is
  | [], [], _ => .nil
  | [], _ :: _, h => by simp [tgB] at h
  | i :: is, [], h => by simp [tgB] at h
  | i :: is, e :: es, h => by
    cases e with
    | Name x p =>
      have h : (locB N sc i x && tgB N sc is es) = true := h
      rw [Bool.and_eq_true] at h
      obtain ⟨h1, h2, _, _⟩ := locB_ok h.1
      exact .cons (by rw [hN]; exact h1) (by rw [hs]; exact h2) (hf x) (tgB_ok hN hs hf is es h.2)
    | _ => simp [tgB] at h
theorem raB_ok {c : Nat} {x : Str} (h : raB P c x = true) : ∃ cl, P.cls[c]? = some cl ∧ cl.name = x ∧ cl.kind.pl = false ∧ cl.flds ≠ [] := by
  unfold raB at h
  split at h
  · rename_i cl e
    simp only [Bool.and_eq_true, Bool.not_eq_true'] at h
    refine ⟨cl, e, of_decide_eq_true h.1.1, h.1.2, fun z => ?_⟩
    rw [z] at h
    cases h.2
  · cases h
theorem clB_ok {c : Nat} {x : Str} (h : clB P c x = true) : ∃ cl, P.cls[c]? = some cl ∧ cl.name = x ∧ cl.kind.pl = false := by
  unfold clB at h
  split at h
  · rename_i cl e
    rw [Bool.and_eq_true, Bool.not_eq_true'] at h
    exact ⟨cl, e, of_decide_eq_true h.1, h.2⟩
  · cases h
theorem suB_ok {c j : Nat} {x : Str} {m : Nat} (h : suB P c j x m = true) : ∃ cl f, P.cls[c]? = some cl ∧ P.fns[j]? = some f ∧ cl.name = x ∧ cl.kind.pl = true ∧ cl.init = j ∧ f.kind = .ini ∧ (m, ([] : List Str)) ∈ f.shapes ∧ f.ps.length = m + 1 ∧ m < 29 := by
  unfold suB at h
  split at h
  · rename_i cl f e1 e2
    simp only [Bool.and_eq_true, decide_eq_true_eq] at h
    obtain ⟨⟨⟨⟨⟨⟨h1, h2⟩, h3⟩, h4⟩, h5⟩, h6⟩, h7⟩ := h
    exact ⟨cl, f, e1, e2, h1, h2, h3, h4, List.contains_iff_mem.mp h5, h6, h7⟩
  · cases h
theorem form_ok {env : Env} {pos : Pos} {es : List Expr} (h : noStar es) (hl : es.length < 30) : methodCallForm (es.length + ([] : List Keyword).length) (backTo pos (starEach es env)) (backToKw pos (keywordEach [] env)) = true := by
  unfold methodCallForm
  have a := star_all (pos := pos) (env := env) h
  have b : (backTo pos (starEach es env)).all (fun x => !x.1) = true := by
    rw [List.all_eq_true]
    intro x hx
    rw [List.any_eq_false] at a
    simpa using a x hx
  rw [b]
  show (true && true && decide (es.length + 0 + 0 < 30)) = true
  simpa using hl
theorem Cs.tr {X : Cx} {sc : Scope} {l : Bool} {Z W : WX} (c : Cs X C P F n N sc l ha W0 H0 U Z) {pn : List (Addr × Obj)} {xe : Value → Shared → Prop} (tk : Takes (X.tr pn xe) W) (po : PassesOwn (model X.prog X.w) X.A X.env xe) : Cs (X.tr pn xe) C P F n N sc l ha W0 H0 U W :=
  { hN := c.hN, hs := c.hs, gd := c.gd, rm := c.rm, tk := tk, st := c.st, dy := c.dy, lm := c.lm, nd := c.nd, calm := c.calm, fnx := c.fnx, po := po, stk := c.stk, frm := c.frm, exn := c.exn, knd := c.knd, rs := c.rs, act := c.act }
theorem sup_snd {X : Cx} {sc : Scope} {l : Bool} {Z : WX} {c j : Nat} {rs : List RE} {es : List Expr} {x y : Str} {p p' ap cp pos : Pos} (cs : Cs X C P F n N sc l ha W0 H0 U Z) (g1 : Gl X x) (g2 : (x == ("__debug__" : Str)) = false) (h : suB P c j x rs.length = true) (hv : visB N sc 0 y = true) (hl : (ap.endLine == cp.line) = true)
    (a1 : PA X es (tAs C Z (evEs P F rs))) (a2 : noStar es) (a3 : es.length = rs.length) : PS X (.Expr (.Call (.Attribute (.Name x p) "__init__" ap) (.Name y p' :: es) [] cp) pos) (tS C Z W0 H0 U (evS P F (.sup c j rs))) := by
  obtain ⟨cl, f, f1, f2, f3, f4, f5, f6, f7, f8, f9⟩ := suB_ok h
  obtain ⟨v1, v2, v3, v4⟩ := visB_ok hv
  subst f5
  obtain ⟨s1, s2, s3⟩ := cs.st.su c cl f f1 f4 f2 f6
  have T : SupT X C (8 * n) (C.ca c) (C.fa cl.init) f x (F.ini cl.init) es.length := {
    go := ⟨C.fd cl.init, C.dU cl.init, cs.dy.ini _ f f2 f6, by
      have q := cs.st.bo _ f _ f2 f7
      rw [f6] at q
      rw [a3]
      exact q⟩
    len := by rw [a3]; exact f8
    kp := cs.st.kp _ f f2
    mg := by
      have q := cs.st.gc c cl f1
      rw [f3] at q
      exact q
    rd := s1
    ga := s2
    at_ := s3 }
  have ns : noStar (.Name y p' :: es) := fun e he => by
    rcases List.mem_cons.mp he with z | z
    · rw [z]
      exact fun _ _ w => nomatch w
    · exact a2 e z
  exact ss_sup T (cs.rm.mono (by omega)) cs.gd cs.tk g1 g2 (by rw [cs.hN]; exact v1) (by rw [cs.hs]; exact v2) v3 v4 a2 a1 (fun ρ S ds S' e => by rw [a3]; exact evEs_len rs ρ S ds S' e)
    (mcall_eq hl (form_ok ns (by rw [List.length_cons, a3]; omega)))
theorem raise_snd {X : Cx} {sc : Scope} {l : Bool} {Z : WX} {c : Nat} {rs : List RE} {es : List Expr} {x : Str} {p pos rp : Pos} (cs : Cs X C P F n N sc l ha W0 H0 U Z) (g1 : Gl X x) (g2 : (x == ("__debug__" : Str)) = false) (h : raB P c x = true) (ne : rs ≠ [])
    (a1 : PA X es (tAs C Z (evEs P F rs))) (a2 : noStar es) (a3 : es.length = rs.length) : PS X (.Raise (some (.Call (.Name x p) es [] pos)) none rp) (tS C Z W0 H0 U (evS P F (.raise c rs))) := by
  obtain ⟨cl, f1, f2, f3, f4⟩ := raB_ok h
  have R := cs.st.ra c cl f1 f3 f4
  have ee : evS P F (.raise c rs) = fun ρ S => (evEs P F rs ρ S).then ρ fun ds S1 => kRaise c cl.flds ds S1 ρ := by
    funext ρ S
    show (evEs P F rs ρ S).then ρ (fun ds S1 => match excD P c ds with
      | some e => .er e ρ S1
      | none => .stk) = _
    congr 1
    funext ds S1
    unfold excD kRaise
    rw [f1]
    have kp : cl.kind = .exc := by
      cases z : cl.kind with
      | exc => rfl
      | plain =>
        rw [z] at f3
        cases f3
    dsimp only
    rw [kp]
    dsimp only
    by_cases hl : cl.flds.length = ds.length
    · rw [if_pos hl, if_pos hl]
    · rw [if_neg hl, if_neg hl]
  rw [ee]
  have T : RaT X C (C.ca c) cl.flds x := ⟨R.oex, R.ini, by
    have q := cs.st.gc c cl f1
    rw [f2] at q
    exact q, R.sm⟩
  cases es with
  | nil =>
    cases rs with
    | nil => exact absurd rfl ne
    | cons r rs => cases a3
  | cons e es => exact ss_raise T (cs.rs.mono (by omega)) cs.calm cs.tk g1 g2 a2 a1
theorem for_snd {X : Cx} {sc : Scope} {l : Bool} {Z : WX} {i : Nat} {it : RI} {b : List RS} {x : Str} {e : Expr} {body : List Stmt} {p pos : Pos} (cs : Cs X C P F n N sc l ha W0 H0 U Z) (hi : locB N sc i x = true) (ht : itB P N it sc l e = true) (hb : PSs X body (tS C Z W0 H0 U (evSs P F b))) :
    PS X (.For (.Name x p) e body [] pos) (tS C Z W0 H0 U (evS P F (.for_ i it b))) := by
  obtain ⟨v1, v2, v3, v4⟩ := locB_ok hi
  have i1 : X.N[i]? = some x := by rw [cs.hN]; exact v1
  have i2 : Loc X.env.scope x := by rw [cs.hs]; exact v2
  cases it with
  | lst r =>
    unfold itB at ht
    rw [Bool.and_eq_true] at ht
    have hset : ∀ v, foldedSetIterable e X.env v = pure v := fun v => by
      cases e <;> first | rfl | cases ht.1
    exact ss_for_lst cs.po cs.calm cs.st.kk cs.nd i1 i2 (cs.fnx x) hset (chkE_ok r X sc l Z e cs.toCn ht.2).1 hb
  | tup r =>
    unfold itB at ht
    rw [Bool.and_eq_true] at ht
    have hset : ∀ v, foldedSetIterable e X.env v = pure v := fun v => by
      cases e <;> first | rfl | cases ht.1
    exact ss_for_tup cs.po cs.calm cs.st.kk cs.nd i1 i2 (cs.fnx x) hset (chkE_ok r X sc l Z e cs.toCn ht.2).1 hb
  | rng r =>
    unfold itB at ht
    dsimp only at ht
    split at ht
    · simp only [Bool.and_eq_true] at ht
      obtain ⟨⟨⟨⟨h1, h2⟩, h3⟩, h4⟩, h5⟩ := ht
      obtain rfl := of_decide_eq_true h1
      exact ss_for_rng cs.po cs.calm (glB_ok cs.hs h2).1 (cs.st.fr _ h3) cs.nd i1 i2 (cs.fnx x) (star_ok h4) (chkE_ok r X sc l Z _ cs.toCn h5).1 hb
    · cases ht
  | rng2 r1 r2 =>
    unfold itB at ht
    dsimp only at ht
    split at ht
    · simp only [Bool.and_eq_true] at ht
      obtain ⟨⟨⟨⟨⟨⟨h1, h2⟩, h3⟩, h4⟩, h5⟩, h6⟩, h7⟩ := ht
      obtain rfl := of_decide_eq_true h1
      exact ss_for_rng2 cs.po cs.calm (glB_ok cs.hs h2).1 (cs.st.fr _ h3) cs.nd i1 i2 (cs.fnx x) (star_ok h4) (star_ok h5) (chkE_ok r1 X sc l Z _ cs.toCn h6).1 (chkE_ok r2 X sc l Z _ cs.toCn h7).1 hb
    · cases ht
theorem nodup_ix {N : List Str} (h : N.Nodup) {i j : Nat} {x : Str} (e1 : N[i]? = some x) (e2 : N[j]? = some x) : i = j := by
  have h1 := List.getElem?_eq_some_iff.mp e1
  have h2 := List.getElem?_eq_some_iff.mp e2
  exact (List.getElem_inj h).mp (h1.2.trans h2.2.symm)
theorem swap2 {env : Env} {x y : Str} {px py pt pt2 : Pos} {kt k2 : Nat} {a b : Expr} (hk : env.scope.kind = .function) (hx : env.scope.names.lookup x = some .local) (hy : env.scope.names.lookup y = some .local) (hxy : x ≠ y) (hl : (py.line == px.line) = true) (ns : noStar [a, b]) (hf : parC [a, b] = true) :
    swappedStores [.Tuple [.Name x px, .Name y py] kt pt] (.Tuple [a, b] k2 pt2) env = pure (some [x, y]) := by
  have hb : env.blockKind = .function := by
    unfold Env.blockKind
    rw [hk]
    rfl
  have kx : env.kindOf x = some .local := hx
  have ky : env.kindOf y = some .local := hy
  unfold parC at hf
  rw [Bool.and_eq_true, Bool.not_eq_true', Bool.not_eq_true'] at hf
  have nn : ([x, y] : List Str).eraseDups.length = 2 := by
    have : (y == x) = false := by
      cases z : (y == x) with
      | false => rfl
      | true => exact absurd (eq_of_beq z).symm hxy
    simp [List.eraseDups_cons, this]
  have kn : ([x, y] : List Str).length = 2 := rfl
  unfold swappedStores
  dsimp only
  refine Eq.trans (if_neg ?_) (Eq.trans (if_neg ?_) ?_)
  · rw [hb]
    exact Bool.false_ne_true
  · intro z
    simp only [List.any_cons, List.any_nil, Bool.or_false, Bool.or_eq_true] at z
    rcases z with z | z
    · cases a <;> first | exact absurd rfl (ns _ (List.mem_cons_self ..) _ _) | cases z
    · cases b <;> first | exact absurd rfl (ns _ (List.mem_cons_of_mem _ (List.mem_cons_self ..)) _ _) | cases z
  · simp only [List.head?_cons, Option.map_some, Option.getD_some, Expr.pos, List.filterMap_cons, kx, ky, beq_self_eq_true, hl, Bool.and_self, if_true, List.filterMap_nil, nn, hf.1, hf.2, kn, List.length_cons, List.length_nil]
    rfl
theorem lc_asg {X : Cx} {sc : Scope} {l : Bool} {Z : WX} {i : Nat} {r : RE} {y : Str} {py pos : Pos} {e : Expr} (c : Cs X C P F n N sc l ha W0 H0 U Z) (hy : N[i]? = some y) (hl : lcYB sc y py e = true) (hk : noK r = true) (h : chkE P N r sc l e = true) : PS X (.Assign [.Name y py] e pos) (tS C Z W0 H0 U (evS P F (.asg i r))) := by
  unfold lcYB at hl
  split at hl
  · rename_i elt gs scope cp
    simp only [Bool.and_eq_true, decide_eq_true_eq, Bool.not_eq_true'] at hl
    obtain ⟨⟨l1, l2⟩, l3⟩ := hl
    have Y : LcY X i y py scope cp := ⟨by rw [c.hN]; exact hy, by rw [c.hs]; exact l1, c.knd, l2, l3⟩
    cases r with
    | lc r k w it cd =>
      simp only [chkE] at h
      split at h
      · rename_i elt' x px iter ifs a scope' pos' ee
        cases ee
        simp only [Bool.and_eq_true] at h
        obtain ⟨⟨⟨⟨⟨h1, h2⟩, h3⟩, h4⟩, h5⟩, h6⟩ := h
        obtain rfl := of_decide_eq_true h1
        have L : LcB X C scope k x px ifs elt (evC P F cd) (evE P F r) := lcB_mk c.toCn h2 (of_decide_eq_true h3) (fun X' c' => (chkE_ok r X' _ false Z0 _ c' h4).1) (fun X' c' => chkC_ok cd X' _ _ c' h5)
        cases w with
        | lst =>
          rw [Bool.and_eq_true] at h6
          exact ss_lc_lst L Y (setB_ok h6.1) (chkE_ok it X sc l Z _ c.toCn h6.2).1
        | tup =>
          rw [Bool.and_eq_true] at h6
          exact ss_lc_tup L Y (setB_ok h6.1) (chkE_ok it X sc l Z _ c.toCn h6.2).1
        | rng =>
          dsimp only at h6
          split at h6
          · simp only [Bool.and_eq_true] at h6
            obtain ⟨⟨⟨⟨k1, k2⟩, k3⟩, k4⟩, k5⟩ := h6
            obtain rfl := of_decide_eq_true k1
            exact ss_lc_rng L Y (glB_ok c.hs k2).1 (c.st.fr _ k3) (star_ok k4) (chkE_ok it X sc l Z _ c.toCn k5).1
          · cases h6
      · cases h
    | lc2 r k ra rb cd =>
      simp only [chkE] at h
      split at h
      · rename_i elt' x px y' py' e1 e2 p' ifs a scope' pos' ee
        cases ee
        simp only [Bool.and_eq_true] at h
        obtain ⟨⟨⟨⟨⟨⟨⟨⟨⟨⟨⟨h1, h2⟩, h3⟩, h4⟩, h5⟩, h6⟩, h7⟩, h8⟩, h9⟩, h10⟩, h11⟩, h12⟩ := h
        obtain rfl := of_decide_eq_true h1
        obtain rfl := of_decide_eq_true h6
        have L : LcB X C scope k x px ifs elt (evC P F cd) (evE P F r) := lcB_mk c.toCn h2 (of_decide_eq_true h3) (fun X' c' => (chkE_ok r X' _ false Z0 _ c' h4).1) (fun X' c' => chkC_ok cd X' _ _ c' h5)
        exact ss_lc2 L Y (glB_ok c.hs h7).1 (c.st.fr _ h8) (star_ok h9) (star_ok h10) (chkE_ok ra X sc l Z _ c.toCn h11).1 (chkE_ok rb X sc l Z _ c.toCn h12).1
      · cases h
    | lcK r k j => cases hk
    | _ => simp [chkE] at h
  · rename_i kx vx gs scope cp
    simp only [Bool.and_eq_true, decide_eq_true_eq, Bool.not_eq_true'] at hl
    obtain ⟨⟨l1, l2⟩, l3⟩ := hl
    have Y : LcY X i y py scope cp := ⟨by rw [c.hN]; exact hy, by rw [c.hs]; exact l1, c.knd, l2, l3⟩
    cases r with
    | dc k v w kd it cd =>
      simp only [chkE] at h
      split at h
      · rename_i kx' vx' x px iter ifs a scope' pos' ee
        cases ee
        simp only [Bool.and_eq_true] at h
        obtain ⟨⟨⟨⟨⟨⟨⟨⟨h1, h2⟩, h3⟩, h4⟩, h5⟩, h6⟩, h7⟩, h8⟩, h9⟩ := h
        obtain rfl := of_decide_eq_true h1
        obtain rfl := of_decide_eq_true h2
        have L : LcB X C scope w x px ifs kx (evC P F cd) (evE P F k) := lcB_mk c.toCn h3 (of_decide_eq_true h4) (fun X' c' => (chkE_ok k X' _ false Z0 _ c' h5).1) (fun X' c' => chkC_ok cd X' _ _ c' h7)
        have L2 : LcB X C scope w x px ifs vx (evC P F cd) (evE P F v) := lcB_mk c.toCn h3 (of_decide_eq_true h4) (fun X' c' => (chkE_ok v X' _ false Z0 _ c' h6).1) (fun X' c' => chkC_ok cd X' _ _ c' h7)
        exact ss_dc L L2 Y (setB_ok h8) (chkE_ok it X sc l Z _ c.toCn h9).1
      · cases h
    | _ => simp [chkE] at h
  · cases hl
mutual
theorem chkS_ok : ∀ (r : RS) (X : Cx) (sc : Scope) (l : Bool) (Z : WX) (s : Stmt), Cs X C P F n N sc l ha W0 H0 U Z → chkS P N ha r sc l s = true → PS X s (tS C Z W0 H0 U (evS P F r))
  | .asg i r, X, sc, l, Z, s, c, h => by
    simp only [chkS] at h
    split at h
    · rw [Bool.and_eq_true, Bool.and_eq_true, Bool.or_eq_true, Bool.or_eq_true, Bool.and_eq_true] at h
      obtain ⟨⟨h1, h2⟩, h3⟩ := h
      obtain ⟨v1, v2, v3, v4⟩ := locB_ok h1
      rcases h2 with h2 | h2 | h2
      · exact ss_asg c.nd (by rw [c.hN]; exact v1) (by rw [c.hs]; exact v2) (c.fnx _) (comp_sw h2) (chkE_ok r X sc l Z _ c.toCn h3).1
      · exact ss_asg c.nd (by rw [c.hN]; exact v1) (by rw [c.hs]; exact v2) (c.fnx _) (cell_sw (by rw [c.hs]; exact of_decide_eq_true h2)) (chkE_ok r X sc l Z _ c.toCn h3).1
      · exact lc_asg c v1 h2.1 h2.2 h3
    · cases h
  | .own i rs, X, sc, l, Z, s, c, h => by
    simp only [chkS] at h
    split at h
    · rw [Bool.and_eq_true] at h
      obtain ⟨v1, v2, v3, v4⟩ := locB_ok h.1
      exact ss_own c.nd (by rw [c.hN]; exact v1) (by rw [c.hs]; exact v2) (c.fnx _) (chkEs_ok rs X sc l Z _ c.toCn h.2).1
    · cases h
  | .par is rs, X, sc, l, Z, s, c, h => by
    simp only [chkS] at h
    split at h
    · rename_i x px y py kt pt a b k2 pt2 pos i j
      simp only [Bool.and_eq_true, decide_eq_true_eq, Bool.not_eq_true', Bool.and_eq_false_iff] at h
      obtain ⟨⟨⟨⟨⟨⟨⟨h1, h2⟩, h3⟩, h4⟩, h5⟩, h6⟩, h7⟩, h8⟩ := h
      obtain ⟨a1, a2, a3⟩ := chkEs_ok rs X sc l Z _ c.toCn h8
      have e : evS P F (.par [i, j] rs) = fun ρ S => (evEs P F rs ρ S).then ρ fun ds S1 => kPar [i, j] ds S1 ρ := rfl
      rw [e]
      refine ss_par2 c.calm c.nd (by rw [c.hN]; exact (locB_ok h1).1) (by rw [c.hN]; exact (locB_ok h2).1) h3 (by rw [c.hs]; exact h4) (by rw [c.hs]; exact h5) a1 ?_ rfl
      exact swap2 c.knd (by rw [c.hs]; exact h4) (by rw [c.hs]; exact h5) (by
        rintro rfl
        have q1 := (locB_ok h1).1
        have q2 := (locB_ok h2).1
        exact h3 (nodup_ix (c.hN ▸ c.nd) q1 q2)) h6 a2 h7
    · cases h
  | .unp is r, X, sc, l, Z, s, c, h => by
    simp only [chkS] at h
    split at h
    · simp only [Bool.and_eq_true] at h
      obtain ⟨⟨⟨h1, h2⟩, h3⟩, h4⟩ := h
      exact ss_unp c.calm c.nd (tgB_ok c.hN c.hs c.fnx is _ h1) (sole_sw h2) (noswap_ok c.hs h3) c.st.kk (chkE_ok r X sc l Z _ c.toCn h4).1
    · cases h
  | .setI i k r, X, sc, l, Z, s, c, h => by
    simp only [chkS] at h
    split at h
    · simp only [Bool.and_eq_true] at h
      obtain ⟨⟨⟨⟨h1, h2⟩, h3⟩, h4⟩, h5⟩ := h
      obtain ⟨v1, v2, v3, v4⟩ := visB_ok h1
      exact ss_setI (by rw [c.hN]; exact v1) (by rw [c.hs]; exact v2) v3 v4 (sole_sw h3) rfl (slice_ok h2) (chkE_ok r X sc l Z _ c.toCn h5).1 (chkE_ok k X sc l Z _ c.toCn h4).1
    · cases h
  | .setB i k r, X, sc, l, Z, s, c, h => by
    simp only [chkS] at h
    split at h
    · simp only [Bool.and_eq_true] at h
      obtain ⟨⟨⟨⟨h1, h2⟩, h3⟩, h4⟩, h5⟩ := h
      obtain ⟨v1, v2, v3, v4⟩ := visB_ok h1
      exact ss_setB (by rw [c.hN]; exact v1) (by rw [c.hs]; exact v2) v3 v4 (sole_sw h3) rfl (slice_ok h2) (chkE_ok r X sc l Z _ c.toCn h5).1 (chkE_ok k X sc l Z _ c.toCn h4).1
    · cases h
  | .setF f r, X, sc, l, Z, s, c, h => by
    simp only [chkS] at h
    split at h
    · simp only [Bool.and_eq_true] at h
      obtain ⟨⟨⟨h1, h2⟩, h3⟩, h4⟩ := h
      obtain rfl := of_decide_eq_true h1
      obtain ⟨v1, v2, v3, v4⟩ := visB_ok h2
      exact ss_setF c.st.fo (by rw [c.hN]; exact v1) (by rw [c.hs]; exact v2) v3 v4 (comp_sw h3) (chkE_ok r X sc l Z _ c.toCn h4).1
    · cases h
  | .app i r, X, sc, l, Z, s, c, h => by
    simp only [chkS] at h
    split at h
    · simp only [Bool.and_eq_true] at h
      obtain ⟨⟨⟨⟨h1, h2⟩, h3⟩, h4⟩, h5⟩ := h
      obtain rfl := of_decide_eq_true h1
      obtain ⟨v1, v2, v3, v4⟩ := visB_ok h2
      exact ss_app (by rw [c.hN]; exact v1) (by rw [c.hs]; exact v2) v3 v4 (star_ok h3) h4 (chkE_ok r X sc l Z _ c.toCn h5).1
    · cases h
  | .lend i, X, sc, l, Z, s, c, h => by
    simp only [chkS] at h
    cases h
  | .frzB i, X, sc, l, Z, s, c, h => by
    simp only [chkS] at h
    cases h
  | .appB i r, X, sc, l, Z, s, c, h => by
    simp only [chkS] at h
    split at h
    · simp only [Bool.and_eq_true] at h
      obtain ⟨⟨⟨⟨h1, h2⟩, h3⟩, h4⟩, h5⟩ := h
      obtain rfl := of_decide_eq_true h1
      obtain ⟨v1, v2, v3, v4⟩ := visB_ok h2
      exact ss_appB (by rw [c.hN]; exact v1) (by rw [c.hs]; exact v2) v3 v4 (star_ok h3) h4 (chkE_ok r X sc l Z _ c.toCn h5).1
    · cases h
  | .expr r, X, sc, l, Z, s, c, h => by
    simp only [chkS] at h
    split at h
    · rw [Bool.and_eq_true] at h
      exact ss_expr (comp_sw h.1) (chkE_ok r X sc l Z _ c.toCn h.2).1
    · cases h
  | .ret r, X, sc, l, Z, s, c, h => by
    simp only [chkS] at h
    split at h
    · exact ss_ret (chkE_ok r X sc l Z _ c.toCn h).1
    · cases h
  | .retN, X, sc, l, Z, s, c, h => by
    simp only [chkS] at h
    split at h
    · exact ss_retN
    · cases h
  | .pass, X, sc, l, Z, s, c, h => by
    simp only [chkS] at h
    split at h
    · exact ss_pass
    · cases h
  | .ifs t a b, X, sc, l, Z, s, c, h => by
    simp only [chkS] at h
    split at h
    · simp only [Bool.and_eq_true] at h
      obtain ⟨⟨⟨h1, h2⟩, h3⟩, h4⟩ := h
      exact ss_if ((chkE_ok t X sc l Z _ c.toCn h2).2 h1) (chkSs_ok a X sc l Z _ c h3) (chkSs_ok b X sc l Z _ c h4)
    · cases h
  | .for_ i it b, X, sc, l, Z, s, c, h => by
    simp only [chkS] at h
    split at h
    · simp only [Bool.and_eq_true] at h
      exact for_snd c h.1.1 h.1.2 (chkSs_ok b X sc l Z _ c h.2)
    · cases h
  | .raise k rs, X, sc, l, Z, s, c, h => by
    simp only [chkS] at h
    split at h
    · simp only [Bool.and_eq_true, Bool.not_eq_true'] at h
      obtain ⟨⟨⟨h1, h2⟩, h3⟩, h4⟩ := h
      obtain ⟨g1, g2⟩ := glB_ok c.hs h1
      obtain ⟨a1, a2, a3⟩ := chkEs_ok rs X sc l Z _ c.toCn h4
      exact raise_snd c g1 g2 h2 (by intro z; rw [z] at h3; cases h3) a1 a2 a3
    · cases h
  | .tryK b k i j, X, sc, l, Z, s, c, h => by
    simp only [chkS] at h
    split at h
    · simp only [Bool.and_eq_true] at h
      obtain ⟨⟨⟨⟨⟨⟨⟨h1, h2⟩, h3⟩, h4⟩, h5⟩, h6⟩, h7⟩, h8⟩ := h
      obtain rfl := of_decide_eq_true h3
      obtain ⟨g1, g2⟩ := glB_ok c.hs h1
      obtain ⟨cl, f1, f2, f3⟩ := clB_ok h2
      obtain ⟨v1, v2, v3, v4⟩ := locB_ok h4
      obtain ⟨w1, w2, w3, w4⟩ := locB_ok h5
      have kn := of_decide_eq_true h6
      have ky := of_decide_eq_true h7
      refine ss_try (P := P) c.stk c.frm c.exn c.nd (by rw [c.hN]; exact v1) (show X.env.scope.names.lookup _ = _ by rw [c.hs]; exact kn) (by rw [c.hN]; exact w1) (show X.env.scope.names.lookup _ = _ by rw [c.hs]; exact ky) v3 v4 ⟨g1, g2, .inl ?_⟩ c.tk (fun q cq e1 e2 => c.st.exm q cq k cl e1 e2 f1 f3) fun W pn xe tk po => chkSs_ok b _ sc l W _ (c.tr tk po) h8
      have q := c.st.gc k cl f1
      rw [f2] at q
      exact q
    · cases h
  | .sup k j rs, X, sc, l, Z, s, c, h => by
    simp only [chkS] at h
    split at h
    · simp only [Bool.and_eq_true] at h
      obtain ⟨⟨⟨⟨⟨h1, h2⟩, h3⟩, h4⟩, h5⟩, h6⟩ := h
      obtain rfl := of_decide_eq_true h1
      obtain ⟨g1, g2⟩ := glB_ok c.hs h2
      obtain ⟨a1, a2, a3⟩ := chkEs_ok rs X sc l Z _ c.toCn h6
      exact sup_snd c g1 g2 h3 h4 h5 a1 a2 a3
    · cases h
  | .actA i, X, sc, l, Z, s, c, h => by
    simp only [chkS] at h
    split at h
    · rw [Bool.and_eq_true] at h
      obtain rfl := of_decide_eq_true h.1
      obtain ⟨v1, v2, v3, v4⟩ := locB_ok h.2
      exact ss_actA (c.act _ rfl) c.tk c.nd (by rw [c.hN]; exact v1) (by rw [c.hs]; exact v2) (c.fnx _)
    · cases h
  | .actE, X, sc, l, Z, s, c, h => by
    simp only [chkS] at h
    split at h
    · obtain rfl := of_decide_eq_true h
      exact ss_actE (c.act _ rfl) c.tk (by unfold interactive; rw [c.knd]; rfl)
    · cases h
  | .actR, X, sc, l, Z, s, c, h => by
    simp only [chkS] at h
    split at h
    · obtain rfl := of_decide_eq_true h
      exact ss_actR (c.act _ rfl) c.tk
    · cases h
  | .frz i, X, sc, l, Z, s, c, h => by
    simp only [chkS] at h
    cases h
  | .whil t b, X, sc, l, Z, s, c, h => by
    simp only [chkS] at h
    split at h
    · simp only [Bool.and_eq_true] at h
      exact ss_whil (n := most) c.po ((chkE_ok t X sc l Z _ c.toCn h.1.2).2 h.1.1) (chkSs_ok b X sc l Z _ c h.2)
    · cases h
  | .forE i j r b, X, sc, l, Z, s, c, h => by
    simp only [chkS] at h
    split at h
    · simp only [Bool.and_eq_true] at h
      obtain ⟨⟨⟨⟨⟨⟨h1, h2⟩, h3⟩, h4⟩, h5⟩, h6⟩, h7⟩ := h
      obtain rfl := of_decide_eq_true h1
      exact ss_forE c.po c.calm (glB_ok c.hs h2).1 (c.st.fr _ h3) c.nd (tgB_ok c.hN c.hs c.fnx [i, j] _ h5) (star_ok h4) (chkE_ok r X sc l Z _ c.toCn h6).1 (chkSs_ok b X sc l Z _ c h7)
    · cases h
  | .ownL i r, X, sc, l, Z, s, c, h => by
    simp only [chkS] at h
    split at h
    · simp only [Bool.and_eq_true] at h
      obtain ⟨⟨⟨⟨⟨h1, h2⟩, h3⟩, h4⟩, h5⟩, h6⟩ := h
      obtain rfl := of_decide_eq_true h2
      obtain ⟨v1, v2, v3, v4⟩ := locB_ok h1
      exact ss_ownL c.nd (by rw [c.hN]; exact v1) (by rw [c.hs]; exact v2) (c.fnx _) (glB_ok c.hs h3).1 (c.st.fr _ h4) (star_ok h5) (chkE_ok r X sc l Z _ c.toCn h6).1
    · cases h
theorem chkSs_ok : ∀ (rs : List RS) (X : Cx) (sc : Scope) (l : Bool) (Z : WX) (ss : List Stmt), Cs X C P F n N sc l ha W0 H0 U Z → chkSs P N ha rs sc l ss = true → PSs X ss (tS C Z W0 H0 U (evSs P F rs))
  | [], X, sc, l, Z, ss, c, h => by
    simp only [chkSs] at h
    obtain rfl := List.isEmpty_iff.mp h
    exact ss_nil
  | r :: rs, X, sc, l, Z, ss, c, h => by
    by_cases hf : ∃ i, r = .frz i ∨ r = .lend i ∨ r = .frzB i
    · obtain ⟨i, rfl | rfl | rfl⟩ := hf
      · simp only [chkSs] at h
        have ih := chkSs_ok rs X sc l Z ss c h
        exact PSs.imp ih fun E σ H q => frz_rd q
      · simp only [chkSs] at h
        have ih := chkSs_ok rs X sc l Z ss c h
        exact PSs.imp ih fun E σ H q => lend_rd q
      · simp only [chkSs] at h
        have ih := chkSs_ok rs X sc l Z ss c h
        exact PSs.imp ih fun E σ H q => frzB_rd q
    · cases ss with
      | nil => cases r <;> first | exact absurd ⟨_, .inl rfl⟩ hf | exact absurd ⟨_, .inr (.inl rfl)⟩ hf | exact absurd ⟨_, .inr (.inr rfl)⟩ hf | (simp only [chkSs] at h; cases h)
      | cons s ss =>
        have h : (chkS P N ha r sc l s && chkSs P N ha rs sc l ss) = true := by
          cases r <;> first | exact absurd ⟨_, .inl rfl⟩ hf | exact absurd ⟨_, .inr (.inl rfl)⟩ hf | exact absurd ⟨_, .inr (.inr rfl)⟩ hf | exact h
        rw [Bool.and_eq_true] at h
        exact ss_cons (chkS_ok r X sc l Z _ c h.1) (chkSs_ok rs X sc l Z _ c h.2)
end
end
end DL
end
-- DLDyn
section
set_option maxHeartbeats 4000000
namespace DL
open PySem PySem.Spec L2
open LamX PyProof.Rows
def haOf (f : Fn) : Option Str := match f.kind with
  | .hrd => f.ps.head?
  | _ => none
/-- what the written part says of a def -/
structure Body (K : PySem.W.Frag) (mg : Str → Option Value) (base : Heap) (C : Ct) (P : Pg) (j : Nat) (f : Fn) (name qual : Str) (params : Arguments) (body : List Stmt) (scope : Scope) (dV kV doc pm : Value) (an : Option Addr) (cdv ct oc : Value) (od : Option Addr) (osl : Array (Option Value)) : Prop where
  fd : C.fd j = PySem.W.fnOf name qual params body scope dV kV doc pm an cdv ct
  lk : K.lookup (C.fa j) = some ⟨oc, od, .func (PySem.W.fnOf name qual params body scope dV kV doc pm an cdv ct), osl⟩
  cd : PySem.W.codeIn K cdv qual = true
  sc : FnScope f.N f.ps scope
  chk : chkSs P f.N (haOf f) f.body scope f.lam body = true
  lam : f.lam = true → ∃ c tb, cdv = .ref c ∧ TabB base mg c tb ∧ (tb, qual ++ ".<locals>." ++ "<lambda>") ∈ C.T ∧ ∀ p ∈ C.T, p.1 = tb → p.2 = qual ++ ".<locals>." ++ "<lambda>"
  hr : f.kind = .hrd → ∃ a, f.ps = [a] ∧ f.at_ = (name, none) ∧ qual = name ∧ Vis scope a ∧ (a == ("__debug__" : Str)) = false ∧ (a == ("__classdict__" : Str)) = false
  ini : f.kind = .ini → f.ps ≠ []
  inS : f.kind = .inS → ∃ p1 pv, f.ps = [p1, pv] ∧ StarP (PySem.W.fnOf name qual params body scope dV kV doc pm an cdv ct) p1 pv
def Bods (K : PySem.W.Frag) (mg : Str → Option Value) (base : Heap) (C : Ct) (P : Pg) : Prop := ∀ j f, P.fns[j]? = some f → ∃ name qual params body scope dV kV doc pm an cdv ct oc od osl, Body K mg base C P j f name qual params body scope dV kV doc pm an cdv ct oc od osl
section
variable {prog : Program} {w : World} {K : PySem.W.Frag} {mg : Str → Option Value} {base : Heap} {C : Ct} {P : Pg}
theorem start_rel {W : Wd} {H : Hp} {N : List Str} {ds : List D} {vs : List V} (h : DenL C W ds vs) (hl : ds.length ≤ N.length) : RelS C W H [] (L2.start N vs) H (start0 N.length ds) := by
  have hv := h.length
  have e : start0 N.length ds = ds.map (fun d => some (Sl.sh d)) ++ List.replicate (N.length - ds.length) none := rfl
  have e2 : L2.start N vs = vs.map some ++ List.replicate (N.length - vs.length) none := rfl
  have sh : ∀ (i : Nat) s, (start0 N.length ds)[i]? = some (some s) → ∃ d, ds[i]? = some d ∧ s = .sh d := fun i s q => by
    rw [e] at q
    by_cases hi : i < ds.length
    · rw [List.getElem?_append_left (by simpa using hi), List.getElem?_map, List.getElem?_eq_getElem hi] at q
      cases q
      exact ⟨_, List.getElem?_eq_getElem hi, rfl⟩
    · rw [List.getElem?_append_right (by simpa using hi), List.getElem?_replicate] at q
      split at q <;> cases q
  refine ⟨?_, fun i s q => ?_, fun i j s t v q1 q2 o1 o2 _ _ => ?_⟩
  · rw [e, e2]
    simp only [List.length_append, List.length_map, List.length_replicate, hv]
  · obtain ⟨d, hd, rfl⟩ := sh i s q
    obtain ⟨v, h1, h2⟩ := h.get hd
    refine ⟨v, ?_, h2⟩
    rw [e2, List.getElem?_append_left (by simpa using (List.getElem?_eq_some_iff.mp h1).1), List.getElem?_map, h1]
    rfl
  · obtain ⟨d, _, rfl⟩ := sh i s q1
    cases o1
theorem start_ini {W : Wd} {H : Hp} {N : List Str} {ds fs : List D} {us ys : List V} {a dx : Addr} {c : Nat} {ns : List Str} (h : DenL C W ds us) (hl : ds.length + 1 ≤ N.length) (ha : H a = some (.ins (C.ca c) dx (ns.zip ys))) (hy : ys.length = ns.length) (hd : DenL C W fs ys) (hg : W.G a = none) (hb : a ∉ W.B) :
    RelS C W H [a] (L2.start N (.ref a :: us)) H (some (.owI c ns fs) :: start0 (N.length - 1) ds) := by
  have hv := h.length
  have e : start0 (N.length - 1) ds = ds.map (fun d => some (Sl.sh d)) ++ List.replicate (N.length - 1 - ds.length) none := rfl
  have e2 : L2.start N (.ref a :: us) = some (.ref a) :: (us.map some ++ List.replicate (N.length - (us.length + 1)) none) := rfl
  have sh : ∀ (i : Nat) s, (start0 (N.length - 1) ds)[i]? = some (some s) → ∃ d, ds[i]? = some d ∧ s = .sh d := fun i s q => by
    rw [e] at q
    by_cases hi : i < ds.length
    · rw [List.getElem?_append_left (by simpa using hi), List.getElem?_map, List.getElem?_eq_getElem hi] at q
      cases q
      exact ⟨_, List.getElem?_eq_getElem hi, rfl⟩
    · rw [List.getElem?_append_right (by simpa using hi), List.getElem?_replicate] at q
      split at q <;> cases q
  refine ⟨?_, fun i s q => ?_, fun i j s t v q1 q2 o1 o2 _ _ => ?_⟩
  · rw [e, e2]
    simp only [List.length_cons, List.length_append, List.length_map, List.length_replicate, hv]
    omega
  · cases i with
    | zero =>
      cases q
      exact ⟨_, rfl, a, dx, ys, rfl, ha, hy, hd, hg, hb, List.mem_singleton.mpr rfl⟩
    | succ i =>
      rw [List.getElem?_cons_succ] at q
      obtain ⟨d, hd2, rfl⟩ := sh i s q
      obtain ⟨v, h1, h2⟩ := h.get hd2
      refine ⟨v, ?_, h2⟩
      rw [e2, List.getElem?_cons_succ, List.getElem?_append_left (by simpa using (List.getElem?_eq_some_iff.mp h1).1), List.getElem?_map, h1]
      rfl
  · cases i with
    | succ i =>
      rw [List.getElem?_cons_succ] at q1
      obtain ⟨d, _, rfl⟩ := sh i s q1
      cases o1
    | zero =>
      cases j with
      | zero => rfl
      | succ j =>
        rw [List.getElem?_cons_succ] at q2
        obtain ⟨d, _, rfl⟩ := sh j t q2
        cases o2
/-- the context of a def's body -/
theorem body_cs {j : Nat} {f : Fn} {name qual : Str} {params : Arguments} {body : List Stmt} {scope : Scope} {dV kV doc pm : Value} {an : Option Addr} {cdv ct oc : Value} {od : Option Addr} {osl : Array (Option Value)} {F : Fs} {n : Nat} (B : Body K mg base C P j f name qual params body scope dV kV doc pm an cdv ct oc od osl)
    (st : Stat prog w K mg base C P) (dy : Dyn prog w K mg base C P F n) {A : Around} {outer : List Env} {s : Shared} {H : Hp} {E : XK} {W0 : Wd} {U : List Addr} {ha : Option Str} (hg : A.guards = some []) (hr : Room (8 * n + 7) (A.deeper (envOfC qual scope s.heap.objs.size (C.fa j) cdv)))
    (act : ∀ a, ha = some a → ActOk (cxOf (L2.CX prog w) prog w K mg base f.N qual scope (C.fa j) cdv A outer s H E) C a W0 H U F.act) :
    Cs (cxOf (L2.CX prog w) prog w K mg base f.N qual scope (C.fa j) cdv A outer s H E) C P F n f.N scope f.lam ha W0 H U (fun cls d _ H => E cls d H) := {
  hN := rfl
  hs := rfl
  gd := hg
  rm := hr.mono (by omega)
  tk := takes_of rfl rfl rfl rfl
  st := st
  dy := dy
  lm := fun z => by
    obtain ⟨c, tb, h1, h2, h3, h4⟩ := B.lam z
    exact ⟨hr, c, tb, h2, h1, h3, h4⟩
  nd := B.sc.nd
  calm := rfl
  fnx := fun _ => rfl
  po := passes_of rfl
  stk := rfl
  frm := rfl
  exn := rfl
  knd := B.sc.kind
  rs := hr
  act := act }
theorem pre_len {N ps : List Str} {sc : Scope} (S : FnScope N ps sc) : ps.length ≤ N.length := by
  have := congrArg List.length S.pre
  rw [List.length_take] at this
  omega
theorem dyn_fn {j : Nat} {f : Fn} {n : Nat} (bd : Bods K mg base C P) (st : Stat prog w K mg base C P) (dy : Dyn prog w K mg base C P (fsN P n) n) (hf : P.fns[j]? = some f) (hk : f.kind = .fn) :
    FnG prog w K mg base (8 * (n + 1)) (C.fa j) (C.fd j) f.ps (spD C ((fsN P (n + 1)).fn j)) := by
  obtain ⟨name, qual, params, body, scope, dV, kV, doc, pm, an, cdv, ct, oc, od, osl, B⟩ := bd j f hf
  refine ⟨fun A outer s H args us vs Q E hr hg e0 hb r hl hsp => ?_⟩
  rw [B.fd] at hb
  refine run_ofS (k := 8 * n + 7) B.lk B.cd B.sc hr e0 hb r hl fun hr' => ?_
  have hha : haOf f = none := by
    unfold haOf
    rw [hk]
  obtain ⟨W, ds, S, rh, dn, post⟩ := hsp
  refine ⟨_, chkSs_ok f.body _ scope f.lam _ body (body_cs (W0 := W) (U := []) (ha := haOf f) B st dy hg hr' (fun a z => by rw [hha] at z; cases z)) B.chk, W, start0 f.N.length ds, S, Step.refl _ _ _, rh, ?_, ?_⟩
  · have hps := pre_len B.sc
    exact start_rel dn (by rw [dn.length, hl]; exact hps)
  · have ee : (fsN P (n + 1)).fn j ds S = runB (evSs P (fsN P n) f.body (start0 f.N.length ds) S) := by
      show (match P.fns[j]? with
        | some f => if ds.length = f.ps.length then runB (evSs P (fsN P n) f.body (start0 f.N.length ds) S) else .stk
        | none => .stk) = _
      rw [hf]
      dsimp only
      rw [if_pos (by rw [dn.length, hl])]
    rw [ee] at post
    generalize evSs P (fsN P n) f.body (start0 f.N.length ds) S = o at post ⊢
    cases o with
    | nx ρ S' => exact fun σ W' H' z _ r' _ => post W' H' z r' _ (by unfold Den; rfl)
    | rt d S' => exact fun v W' H' z _ r' dn => post W' H' z r' v dn
    | bk ρ S' => exact False.elim post
    | ct ρ S' => exact False.elim post
    | er e ρ S' => exact fun cls dd σ W' H' z _ r' _ dx => post cls dd W' H' z r' dx
    | stk => exact False.elim post
theorem dyn_ini {j : Nat} {f : Fn} {n : Nat} (bd : Bods K mg base C P) (st : Stat prog w K mg base C P) (dy : Dyn prog w K mg base C P (fsN P n) n) (hf : P.fns[j]? = some f) (hk : f.kind = .ini) :
    FnG prog w K mg base (8 * (n + 1)) (C.fa j) (C.fd j) f.ps (spI C ((fsN P (n + 1)).ini j)) := by
  obtain ⟨name, qual, params, body, scope, dV, kV, doc, pm, an, cdv, ct, oc, od, osl, B⟩ := bd j f hf
  refine ⟨fun A outer s H args us vs Q E hr hg e0 hb r hl hsp => ?_⟩
  rw [B.fd] at hb
  refine run_ofS (k := 8 * n + 7) B.lk B.cd B.sc hr e0 hb r hl fun hr' => ?_
  have hha : haOf f = none := by
    unfold haOf
    rw [hk]
  obtain ⟨W, c, ns, fs, ds, S, a, dx, ys, us', rh, evs, dn, ea, hy, hd, hg1, hb1, post⟩ := hsp
  subst evs
  have hlen : ds.length + 1 = f.ps.length := by
    rw [dn.length, ← hl]
    rfl
  refine ⟨_, chkSs_ok f.body _ scope f.lam _ body (body_cs (W0 := W) (U := [a]) (ha := haOf f) B st dy hg hr' (fun a z => by rw [hha] at z; cases z)) B.chk, W, some (.owI c ns fs) :: start0 (f.N.length - 1) ds, S, Step.refl _ _ _, rh, ?_, ?_⟩
  · have hps := pre_len B.sc
    exact start_ini dn (by rw [hlen]; exact hps) ea hy hd hg1 hb1
  · have ee : (fsN P (n + 1)).ini j c ns fs ds S = runI c (evSs P (fsN P n) f.body (some (.owI c ns fs) :: start0 (f.N.length - 1) ds) S) := by
      show (match P.fns[j]? with
        | some f => if ds.length + 1 = f.ps.length then runI c (evSs P (fsN P n) f.body (some (.owI c ns fs) :: start0 (f.N.length - 1) ds) S) else .stk
        | none => .stk) = _
      rw [hf]
      dsimp only
      rw [if_pos hlen]
    rw [ee] at post
    generalize evSs P (fsN P n) f.body (some (.owI c ns fs) :: start0 (f.N.length - 1) ds) S = o at post ⊢
    cases o with
    | nx ρ S' =>
      intro σ W' H' z _ r' rs
      unfold runI at post
      dsimp only at post
      cases o : (ρ[0]? : Option (Option Sl)) with
      | none =>
        rw [o] at post
        exact False.elim post
      | some q =>
        rw [o] at post
        cases q with
        | none => exact False.elim post
        | some sl =>
          cases sl with
          | owI k ns' ds' =>
            dsimp only at post
            by_cases hkc : k = c
            · rw [if_pos hkc] at post
              subst hkc
              obtain ⟨v, ev, b, dx', zs, e1, e2, e3, e4, e5, e6, e7⟩ := rs.sl 0 _ o
              rw [List.mem_singleton] at e7
              subst e7
              exact post W' H' dx' zs z r' e2 e3 e4 e5 e6
            · rw [if_neg hkc] at post
              exact False.elim post
          | sh d => exact False.elim post
          | owL xs => exact False.elim post
          | thk => exact False.elim post
    | rt d S' => exact False.elim post
    | bk ρ S' => exact False.elim post
    | ct ρ S' => exact False.elim post
    | er e ρ S' => exact fun cls dd σ W' H' z _ r' _ dx => post cls dd W' H' z r' dx
    | stk => exact False.elim post
theorem dyn_inS {j : Nat} {f : Fn} {n : Nat} (bd : Bods K mg base C P) (st : Stat prog w K mg base C P) (dy : Dyn prog w K mg base C P (fsN P n) n) (hf : P.fns[j]? = some f) (hk : f.kind = .inS) :
    FnGR prog w K mg base (8 * (n + 1)) (C.fa j) (spI C (iniS ((fsN P (n + 1)).ini j))) := by
  obtain ⟨name, qual, params, body, scope, dV, kV, doc, pm, an, cdv, ct, oc, od, osl, B⟩ := bd j f hf
  obtain ⟨p1, pv, eps, SP⟩ := B.inS hk
  refine ⟨fun A outer s H us vs Q E hr hg e0 r hsp => ?_⟩
  have hha : haOf f = none := by
    unfold haOf
    rw [hk]
  obtain ⟨W, c, ns, fs, ds, S, a, dx, ys, us', rh, evs, dn, ea, hy, hd, hg1, hb1, post⟩ := hsp
  subst evs
  cases r with
  | @cons _ u0 _ urest ru rr =>
    have hn : H s.heap.objs.size = none := e0.hok.fresh (Nat.le_refl _)
    have iniE : iniS ((fsN P (n + 1)).ini j) c ns fs ds S = if ds.length ≤ most then runI c (evSs P (fsN P n) f.body (some (.owI c ns fs) :: start0 (f.N.length - 1) [.tup ds]) S) else .stk := by
      unfold iniS
      split
      · show (match P.fns[j]? with
          | some f => if ([D.tup ds] : List D).length + 1 = f.ps.length then runI c (evSs P (fsN P n) f.body (some (.owI c ns fs) :: start0 (f.N.length - 1) [.tup ds]) S) else .stk
          | none => .stk) = _
        rw [hf]
        dsimp only
        rw [if_pos (by rw [eps]; rfl)]
      · rfl
    rw [iniE] at post
    by_cases hlm : ds.length ≤ most
    · rw [if_pos hlm] at post
      have hz : us'.length ≤ sizeLine := by
        rw [← dn.length]
        exact most_line hlm
      have hl2 : urest.length ≤ sizeLine := by rw [← rr.length]; exact hz
      refine StX.run_bnd (k := 8 * n + 7) B.lk B.cd B.sc hr e0 (G := fun xs H2 => ∃ q, H q = none ∧ xs = [V.ref a, V.ref q] ∧ H2 = upd H q (.tup us')) (fun A' Ex Q' h => ?_) fun s2 H2 xs ⟨q, hq, ex, eH⟩ hr' => ?_
      · rw [star_bind SP u0 urest]
        refine wpAny_bind (wpAny_newTuple (wpAny_pure ?_) hl2)
        have new : ObjOk prog w (upd H s.heap.objs.size (.tup us')) (s.heap.push ({ cls := .type "tuple", data := .seq urest.toArray } : Obj)) s.heap.objs.size (.tup us') := ⟨hz, urest, rr, ⟨_, Heap.get?_push_size _ rfl, rfl, _, rfl⟩⟩
        have un := StX.un_laid (fs := frs outer) (s := s) (o := ({ cls := .type "tuple", data := .seq urest.toArray } : Obj)) (u := .tup us') hn
        have z := h _ _ [V.ref a, V.ref s.heap.objs.size] [u0, Value.ref s.heap.objs.size] (StX.env0_laid e0 new) un rfl (fun e s' => StX.cxUp outer s H _ _ E e s' un (fun b o q => Heap.get?_push_of_some _ q) rfl) (.cons ru (.cons rfl .nil)) (by rw [eps]; rfl) ⟨_, hn, rfl, rfl⟩
        rw [eps] at z
        exact z
      · subst ex eH
        have rh2 : RelH C (W.put q (.tup us')) (upd H q (.tup us')) S := rh.put hq
        have aq : a ≠ q := ne_of_none ea hq
        have st0 := Step.put (o := .tup us') rh hq
        refine ⟨_, chkSs_ok f.body _ scope f.lam _ body (body_cs (W0 := W.put q (.tup us')) (U := [a]) (ha := haOf f) B st dy hg hr' (fun a z => by rw [hha] at z; cases z)) B.chk, W.put q (.tup us'), some (.owI c ns fs) :: start0 (f.N.length - 1) [.tup ds], S, Step.refl _ _ _, rh2, ?_, ?_⟩
        · have hps := pre_len B.sc
          rw [eps] at hps
          refine start_ini (us := [.ref q]) (DenL.cons (tup_new (rh.fresh hq).1 dn) DenL.nil) hps (by rw [upd_ne aq]; exact ea) hy (DenL.ext st0.x _ _ hd) ?_ hb1
          show upd W.G q _ a = none
          rw [upd_ne aq]
          exact hg1
        · generalize evSs P (fsN P n) f.body (some (.owI c ns fs) :: start0 (f.N.length - 1) [.tup ds]) S = o at post ⊢
          cases o with
          | nx ρ S' =>
            intro σ W' H' z _ r' rs
            unfold runI at post
            dsimp only at post
            cases o : (ρ[0]? : Option (Option Sl)) with
            | none =>
              rw [o] at post
              exact False.elim post
            | some q =>
              rw [o] at post
              cases q with
              | none => exact False.elim post
              | some sl =>
                cases sl with
                | owI k ns' ds' =>
                  dsimp only at post
                  by_cases hkc : k = c
                  · rw [if_pos hkc] at post
                    subst hkc
                    obtain ⟨v, ev, b, dx', zs, e1, e2, e3, e4, e5, e6, e7⟩ := rs.sl 0 _ o
                    rw [List.mem_singleton] at e7
                    subst e7
                    exact post W' H' dx' zs (st0.up.trans z) r' e2 e3 e4 e5 e6
                  · rw [if_neg hkc] at post
                    exact False.elim post
                | sh d => exact False.elim post
                | owL xs => exact False.elim post
                | thk => exact False.elim post
          | rt d S' => exact False.elim post
          | bk ρ S' => exact False.elim post
          | ct ρ S' => exact False.elim post
          | er e ρ S' => exact fun cls dd σ W' H' z _ r' _ dx => post cls dd W' H' (st0.up.trans z) r' dx
          | stk => exact False.elim post
    · rw [if_neg hlm] at post
      exact False.elim post
theorem dyn_hrd {j : Nat} {f : Fn} {n : Nat} {x : Str} (bd : Bods K mg base C P) (st : Stat prog w K mg base C P) (dy : Dyn prog w K mg base C P (fsN P n) n) (hf : P.fns[j]? = some f) (hk : f.kind = .hrd) (hx : f.at_ = (x, none)) (hsh : (1, ([] : List Str)) ∈ f.shapes) {X : Cx} (x1 : X.prog = prog) (x2 : X.w = w) (x3 : X.K = K) (x4 : X.mg = mg) (x5 : X.base = base)
    {Z : WX} {m : Ro → Store → Out D} {lb : Expr} {ls : Scope} {p lp pos : Pos} {c tb : Addr} (hgl : Gl X x) (hdb : (x == ("__debug__" : Str)) = false) (T : TabB X.base X.mg c tb) (hc : X.env.code = .ref c) (mT : (tb, X.env.qual ++ "<lambda>") ∈ C.T) (uT : ∀ p ∈ C.T, p.1 = tb → p.2 = X.env.qual ++ "<lambda>")
    (hr : Room (8 * (n + 1) + 7) X.A) (hg : X.A.guards = some []) (L : LamS X.env.scope ls)
    (hb : ∀ (f d : Addr) (A : Around) (outer : List Env) (s : Shared) (H : Hp) (E : XK), Room (8 * (n + 1) + 5) (A.deeper (lamEnv X ls s.heap.objs.size f d)) → A.guards = some [] → PE (lamCx X A outer s H E ls f d) lb (tE C (fun cls d _ H => E cls d H) m)) :
    PE X (.Call (.Name x p) [.Lambda argN lb ls lp] [] pos) (tE C Z fun ρ S => (fsN P (n + 1)).hrd j (fun S1 => m ρ S1) S) := by
  subst x1
  subst x2
  subst x3
  subst x4
  subst x5
  obtain ⟨name, qual, params, body, scope, dV, kV, doc, pm, an, cdv, ct, oc, od, osl, B⟩ := bd j f hf
  obtain ⟨a, ps, at_, qn, va, d1, d2⟩ := B.hr hk
  rw [hx] at at_
  have en : x = name := congrArg Prod.fst at_
  rw [qn, ← en] at B
  clear qn
  have hha : haOf f = some a := by
    unfold haOf
    rw [hk, ps]
    rfl
  have sc := B.sc
  rw [ps] at sc
  have hN0 : f.N[0]? = some a := by
    have z2 := congrArg (fun l => l[0]?) sc.pre
    rw [List.getElem?_take_of_lt (by simp)] at z2
    rw [z2]
    rfl
  have ee : (fun (ρ : Ro) (S : Store) => (fsN P (n + 1)).hrd j (fun S1 => m ρ S1) S) = fun ρ S => noEr (runB ((fun (act : Store → Out D) => evSs P { fsN P n with act := act } f.body) (fun S1 => m ρ S1) (some .thk :: List.replicate (f.N.length - 1) none) S)) := by
    funext ρ S
    show (match P.fns[j]? with
      | some f => noEr (runB (evSs P { fsN P n with act := fun S1 => m ρ S1 } f.body (some .thk :: List.replicate (f.N.length - 1) none) S))
      | none => .stk) = _
    rw [hf]
  rw [ee]
  have bb : L2.Binds X.K (PySem.W.fnOf x x params body scope dV kV doc pm an cdv ct) [a] [] := fun s us kin hl => by
    have q := st.bo j f _ hf hsh
    rw [hk, B.fd, ps] at q
    have l1 : us.length = 1 := by
      rw [List.append_nil] at hl
      exact hl
    rw [List.append_nil]
    exact q s us [] us kin l1 rfl (bindG_all _ _ _ (by rw [l1]; rfl))
  have gl : X.mg x = some (.ref (C.fa j)) := by
    have q := st.fg j f hf (by rw [hx])
    rw [hx] at q
    exact q
  have hdf : defaultsOf argN X.env = ([], []) := rfl
  have hbi : ∀ (q : Str) (cl : List (Str × Addr)) (pm cv ctv : Value), bindArgs (PySem.W.kla_fn "<lambda>" q argN lb ls cl pm cv ctv) ⟨[], []⟩ = pure [] := fun q cl pm cv ctv => by
    rfl
  refine de_heard (k := 8 * (n + 1) + 5) (mh := fun (act : Store → Out D) => evSs P { fsN P n with act := act } f.body) hgl gl (st.kp j f hf) B.lk B.cd bb sc hN0 va T hc mT uT hr hg L hdf hbi hb (fun s H1 W1 g act ha hr' => ?_) hdb d1 d2
  have dy' : Dyn X.prog X.w X.K X.mg X.base C P { fsN P n with act := act } n := ⟨dy.fn, dy.ini, dy.inS, dy.hrd⟩
  have cs := body_cs (W0 := W1) (U := [g]) (ha := haOf f) (E := fun _ _ _ => False) (s := s) (H := H1) (outer := X.stack) B st dy' hg (hr'.mono (by omega)) (fun b z => by
    rw [hha] at z
    cases z
    exact ha)
  exact chkSs_ok f.body _ scope f.lam _ body cs B.chk
/-- all defs, to every depth -/
theorem dyn_all (bd : Bods K mg base C P) (st : Stat prog w K mg base C P) (hs : ∀ (j : Nat) (f : Fn), P.fns[j]? = some f → f.kind = .hrd → (1, ([] : List Str)) ∈ f.shapes) : ∀ n, Dyn prog w K mg base C P (fsN P n) n
  | 0 => {
    fn := fun j f h1 h2 => ⟨fun A outer s H args us vs Q E hr hg e0 hb r hl hsp => by
      obtain ⟨W, ds, S, _, _, z⟩ := hsp
      exact False.elim z⟩
    ini := fun j f h1 h2 => ⟨fun A outer s H args us vs Q E hr hg e0 hb r hl hsp => by
      obtain ⟨W, c, ns, fs, ds, S, a, dx, ys, us', rh, evs, dn, ea, hy, hd, hg1, hb1, z⟩ := hsp
      exact False.elim z⟩
    inS := fun j f h1 h2 => ⟨fun A outer s H us vs Q E hr hg e0 r hsp => by
      obtain ⟨W, c, ns, fs, ds, S, a, dx, ys, us', rh, evs, dn, ea, hy, hd, hg1, hb1, z⟩ := hsp
      unfold iniS at z
      split at z
      · rename_i q
        split at q
        · cases q
        · cases q
      · rename_i q
        split at q
        · cases q
        · cases q
      · exact False.elim z⟩
    hrd := fun j f x h1 h2 h3 X _ _ _ _ _ Z m lb ls p lp pos c tb _ _ _ _ _ _ _ _ _ _ => ⟨fun pins s σ H Q I h => by
      obtain ⟨W, H0, U, ρ, S, rh, rs, z⟩ := h
      exact False.elim z⟩ }
  | n + 1 => {
    fn := fun j f h1 h2 => dyn_fn bd st (dyn_all bd st hs n) h1 h2
    ini := fun j f h1 h2 => dyn_ini bd st (dyn_all bd st hs n) h1 h2
    inS := fun j f h1 h2 => dyn_inS bd st (dyn_all bd st hs n) h1 h2
    hrd := fun j f x h1 h2 h3 X x1 x2 x3 x4 x5 Z m lb ls p lp pos c tb a1 a2 a3 a4 a5 a6 a7 a8 a9 a10 => dyn_hrd bd st (dyn_all bd st hs n) h1 h2 h3 (hs j f h1 h2) x1 x2 x3 x4 x5 a1 a2 a3 a4 a5 a6 a7 a8 a9 a10 }
end
end DL
end
-- DLHd
section
set_option maxHeartbeats 4000000
namespace DL
open PySem PySem.Spec L2
open LamX PyProof.Rows NdefX
/-! ### the tables' addresses, by names -/
def funAt (K : PySem.W.Frag) (a : Addr) : Option FuncData := match K.lookup a with
  | some ⟨_, _, .func fd, _⟩ => some fd
  | _ => none
theorem funAt_ok {K : PySem.W.Frag} {a : Addr} {fd : FuncData} (h : funAt K a = some fd) : ∃ oc od sl, K.lookup a = some ⟨oc, od, .func fd, sl⟩ := by
  unfold funAt at h
  split at h
  · rename_i c d f s e
    cases h
    exact ⟨c, d, s, e⟩
  · cases h
def caK (P : Pg) (K : PySem.W.Frag) (c : Nat) : Addr := match P.cls[c]? with
  | some cl => He.ga K cl.name
  | none => 0
/-- the def within a classmethod's, a static method's or a property's record -/
def unw (K : PySem.W.Frag) (a : Addr) : Addr := match PySem.W.recIn K a "classmethod" with
  | some (.ref g :: _) => g
  | _ => (match PySem.W.recIn K a "staticmethod" with
    | some (.ref g :: _) => g
    | _ => (match PySem.W.recIn K a "property" with
      | some (.ref g :: _) => g
      | _ => a))
def faA (K : PySem.W.Frag) (p : Str × Option Str) : Addr := match p.2 with
  | none => He.fAd K p
  | some _ => unw K (He.fAd K p)
def faK (P : Pg) (K : PySem.W.Frag) (j : Nat) : Addr := match P.fns[j]? with
  | some f => faA K f.at_
  | none => 0
def fdK (P : Pg) (K : PySem.W.Frag) (j : Nat) : FuncData := (funAt K (faK P K j)).getD default
def dflVals (K : PySem.W.Frag) (fd : FuncData) : List Value := match fd.defaults with
  | .ref T => (match K.lookup T with
    | some ⟨_, _, .seq its _, _⟩ => its.toList
    | _ => [])
  | _ => []
def dUK (P : Pg) (K : PySem.W.Frag) (j : Nat) : List (Str × Value) := match P.fns[j]? with
  | some f => (f.dfl.map (·.1)).zip (dflVals K (fdK P K j))
  | none => []
/-- the table of the code object -/
def tabAt (K : PySem.W.Frag) (v : Value) : Option (Addr × Addr) := match v with
  | .ref c => (match K.lookup c with
    | some ⟨_, _, .fields vs, _⟩ => (match (vs[11]? : Option Value) with
      | some (.ref p) => some (c, p)
      | _ => none)
    | _ => none)
  | _ => none
def lamQ (q : Str) : Str := q ++ ".<locals>." ++ "<lambda>"
def csK (P : Pg) (K : PySem.W.Frag) : List (Addr × Addr × Str) := (List.range P.fns.length).filterMap fun j => match P.fns[j]? with
  | some f => if f.lam then (tabAt K (fdK P K j).code).map fun p => (p.1, p.2, lamQ (fdK P K j).qualname) else none
  | none => none
def tbK (P : Pg) (K : PySem.W.Frag) : List (Addr × Addr) := (csK P K).map fun p => (p.1, p.2.1)
def ctK (P : Pg) (K : PySem.W.Frag) : Ct := ⟨caK P K, K, (csK P K).map fun p => (p.2.1, p.2.2), faK P K, fdK P K, dUK P K⟩
/-! ### the checks -/
def dO {α : Type} [DecidableEq α] (a b : Option α) : Bool := decide (a = b)
def clsTyB (K : PySem.W.Frag) (A : Addr) : Bool := He.eqO (PySem.W.findIn K (.ref A) "__class__") (some (some (.builtin "object.__class__"))) && He.eqO (PySem.W.specialIn K (.builtin "object.__class__") "__get__") (some (some (.builtin "getset_descriptor.__get__"))) &&
  decide (PySem.W.takesIn K (.builtin "object.__class__") = some true) && decide (PySem.W.mroIn K A (.type "object") = some true)
theorem clsTyB_ok {K : PySem.W.Frag} {A : Addr} (h : clsTyB K A = true) : ClsTy K A := by
  unfold clsTyB at h
  simp only [Bool.and_eq_true] at h
  obtain ⟨⟨⟨h1, h2⟩, h3⟩, h4⟩ := h
  exact ⟨He.eqO_ok h1, He.eqO_ok h2, of_decide_eq_true h3, of_decide_eq_true h4⟩
def excObjB (K : PySem.W.Frag) (C : Addr) : Bool := match K.lookup C with
  | some ⟨.type "type", _, .cls cd, sl⟩ => (match cd.mro, sl.toList with
    | .ref C' :: bm, [_, _, _, _, some (.builtin n), _] => C' == C && n == "ValueError.__new__" && !cd.hasDel && cd.hasDict && PySem.HandSPX.refsVE bm
    | _, _ => false)
  | _ => false
theorem excObjB_ok {K : PySem.W.Frag} {C : Addr} (h : excObjB K C = true) : ∃ nm q N bs bm sn sub ab col dd k0 k1 k2 k3 k5, K.lookup C = some (excClassObj nm q C N bs bm true sn sub ab col dd k0 k1 k2 k3 k5 "ValueError.__new__") ∧ PySem.HandSPX.refsVE bm = true := by
  unfold excObjB at h
  split at h
  · rename_i dd cd sl e
    split at h
    · rename_i C' bm k0 k1 k2 k3 n k5 e1 e2
      simp only [Bool.and_eq_true, Bool.not_eq_true', beq_iff_eq] at h
      obtain ⟨⟨⟨⟨h1, h2⟩, h3⟩, h4⟩, h5⟩ := h
      obtain ⟨nm, bs, mro, ns, qn, hd, sn, sb, ab, col, del⟩ := cd
      dsimp only at e1 h3 h4
      subst h1 h2 e1 h3 h4
      have es : sl = #[k0, k1, k2, k3, some (.builtin "ValueError.__new__"), k5] := by
        apply Array.ext'
        exact e2
      subst es
      exact ⟨nm, qn, ns, bs, bm, sn, sb, ab, col, dd, k0, k1, k2, k3, k5, e, h5⟩
    · cases h
  · cases h
def oexB (K : PySem.W.Frag) (C : Addr) : Bool := excObjB K C && He.eqO (PySem.W.findIn K (.ref C) "__setattr__") (some (some (.builtin "object.__setattr__"))) && decide (PySem.W.subIn K (.ref C) (.type "BaseException") = some true) && decide (PySem.W.typeIn K (.ref C) = some (.type "type")) && PySem.W.keepIn K (.ref C)
theorem oexB_ok {K : PySem.W.Frag} {C : Addr} (h : oexB K C = true) : OexC K C := by
  unfold oexB at h
  simp only [Bool.and_eq_true] at h
  obtain ⟨⟨⟨⟨h1, h2⟩, h3⟩, h4⟩, h5⟩ := h
  exact ⟨excObjB_ok h1, He.eqO_ok h2, of_decide_eq_true h3, of_decide_eq_true h4, h5⟩
/-- the parameters are plain -/
def simB (fd : FuncData) (ps : List Str) : Bool := fd.params.posonlyargs.isEmpty && decide (fd.params.args.map (·.arg) = ps) && fd.params.kwonlyargs.isEmpty && fd.params.vararg.isNone && fd.params.kwarg.isNone && decide ps.Nodup
theorem simB_ok {fd : FuncData} {ps : List Str} (h : simB fd ps = true) : Simple fd ps := by
  unfold simB at h
  simp only [Bool.and_eq_true] at h
  obtain ⟨⟨⟨⟨⟨h1, h2⟩, h3⟩, h4⟩, h5⟩, h6⟩ := h
  exact ⟨List.isEmpty_iff.mp h1, of_decide_eq_true h2, List.isEmpty_iff.mp h3, Option.isNone_iff_eq_none.mp h4, Option.isNone_iff_eq_none.mp h5, of_decide_eq_true h6⟩
/-- self and a star -/
def stB (fd : FuncData) (ps : List Str) : Bool := fd.params.posonlyargs.isEmpty && decide (fd.params.args.map (·.arg) = ps.take 1) && fd.params.kwonlyargs.isEmpty && (match fd.params.vararg with
  | some a => decide (ps.drop 1 = [a.arg])
  | none => false) && fd.params.kwarg.isNone && decide (ps.length = 2) && (match fd.defaults with
  | .none => true
  | _ => false)
theorem stB_ok {fd : FuncData} {ps : List Str} (h : stB fd ps = true) : ∃ p1 pv, ps = [p1, pv] ∧ StarP fd p1 pv := by
  unfold stB at h
  simp only [Bool.and_eq_true] at h
  obtain ⟨⟨⟨⟨⟨⟨h1, h2⟩, h3⟩, h4⟩, h5⟩, h6⟩, h7⟩ := h
  have h6 := of_decide_eq_true h6
  match ps, h6 with
  | [p1, pv], _ =>
    refine ⟨p1, pv, rfl, List.isEmpty_iff.mp h1, of_decide_eq_true h2, List.isEmpty_iff.mp h3, ?_, Option.isNone_iff_eq_none.mp h5, ?_⟩
    · split at h4
      · rename_i a ea
        have q := of_decide_eq_true h4
        cases q
        exact ⟨a, ea, rfl⟩
      · cases h4
    · split at h7
      · rename_i e
        exact e
      · cases h7
/-! ### own exceptions' __init__ -/
def stsB (N : List Str) (sc : Scope) (slf : Str) : List (Str × Nat) → List Stmt → Bool
  | [], [] => true
  | (f, i) :: r, .Assign [.Attribute (.Name s _) g _] (.Name x _) _ :: rest => decide (s = slf) && decide (f = g) && visB N sc i x && stsB N sc slf r rest
  | _, _ => false
theorem stsB_ok {N : List Str} {sc : Scope} {slf : Str} : ∀ (r : List (Str × Nat)) (ss : List Stmt), stsB N sc slf r ss = true → Sts N sc slf r ss
  | [], [], _ => .nil
  | [], s :: ss, h => by simp [stsB] at h
  | (f, i) :: r, [], h => by simp [stsB] at h
  | (f, i) :: r, s :: ss, h => by
    unfold stsB at h
    split at h
    · rename_i e _
      cases e
    · rename_i f' i' r' s' p1 g p2 x p3 p4 rest e1 e2
      cases e1
      cases e2
      simp only [Bool.and_eq_true, decide_eq_true_eq] at h
      obtain ⟨⟨⟨h1, h2⟩, h3⟩, h4⟩ := h
      subst h1
      subst h2
      obtain ⟨v1, v2, v3, v4⟩ := visB_ok h3
      exact .cons v1 v2 v3 v4 (stsB_ok _ _ h4)
    · cases h
def iniN (slf : Str) (flds : List Str) : List Str := slf :: flds ++ [("__class__" : Str)]
def cellB (K : PySem.W.Frag) (cc D : Addr) : Bool := match K.lookup cc with
  | some ⟨_, _, .cell (some (.ref a)), _⟩ => decide (a = D)
  | _ => false
def fileB (K : PySem.W.Frag) (c : Addr) (file : Str) : Bool := match K.lookup c with
  | some ⟨_, _, .fields vs, _⟩ => (match (vs[2]? : Option Value) with
    | some (.str f _) => file == f
    | _ => false)
  | _ => false
def bodyB (N : List Str) (sc : Scope) (slf : Str) (flds : List Str) : FuncBody → Bool
  | .stmts (.Expr (.Call (.Attribute (.Call (.Name s _) [] [] _) m p2) [.Constant (.str _) _ _] [] p4) _ :: rest) => decide (s = ("super" : Str)) && decide (m = ("__init__" : Str)) && (p2.endLine == p4.line) && stsB N sc slf (stsOf flds 1) rest
  | _ => false
def xiB (K : PySem.W.Frag) (prog : Program) (D : Addr) (slf : Str) (flds : List Str) (fd : FuncData) : Bool := match fd.closure, fd.code, fd.defaults, fd.kwdefaults, fd.annotations with
  | [(n, cc)], .ref c, .none, .none, none => decide (n = ("__class__" : Str)) && decide (fd.globals = mainGlobals) && decide (fd.builtins = builtinsNs) && PySem.W.codeIn K (.ref c) fd.qualname && cellB K cc D && fileB K c prog.main.file && !(prog.main.scope.names.lookup ("super" : Str)).isSome &&
    He.eqO (PySem.W.nsIn K mainGlobals "super") (some none) && (PySem.W.clsIn K D).isSome && decide (PySem.W.mroIn K D (.ref D) = some true) && He.eqO (PySem.W.ks_superIn K D D "__init__") (some (some (.builtin "ValueError.__init__"))) &&
    decide (PySem.W.subIn K (.ref D) (.type "ValueError") = some true) && He.eqO (PySem.W.nsIn K cStatics "thirdparty.any") (some none) && decide (fd.scope.names.lookup ("super" : Str) = some .globalImplicit) && decide (fd.scope.names.lookup ("__class__" : Str) = some .free) &&
    decide (fd.scope.names.lookup slf = some .local) && nscB (iniN slf flds) (slf :: flds) [("__class__" : Str)] fd.scope && !oddB slf && bodyB (iniN slf flds) fd.scope slf flds fd.body && simB fd (slf :: flds)
  | _, _, _, _, _ => false
def raK (K : PySem.W.Frag) (prog : Program) (D : Addr) (flds : List Str) : Bool := oexB K D && (match PySem.W.findIn K (.ref D) "__init__" with
  | some (some (.ref fI)) => decide (PySem.W.typeIn K (.ref fI) = some (.type "function")) && (match funAt K fI with
    | some fd => (match fd.params.args with
      | a :: _ => xiB K prog D a.arg flds fd
      | [] => false)
    | none => false)
  | _ => false) && !flds.isEmpty && decide (flds.length ≤ 800) && flds.all fun f => He.eqO (PySem.W.findIn K (.ref D) f) (some none)
theorem raK_ok {K : PySem.W.Frag} {prog : Program} {D : Addr} {flds : List Str} (h : raK K prog D flds = true) {w : World} {mg : Str → Option Value} {base : Heap} (hm : mg "super" = none) : RaF prog w K mg base D flds := by
  unfold raK at h
  simp only [Bool.and_eq_true] at h
  obtain ⟨⟨⟨⟨h1, h2⟩, h3⟩, h4⟩, h5⟩ := h
  have T := oexB_ok h1
  split at h2
  · rename_i fI e1
    rw [Bool.and_eq_true] at h2
    obtain ⟨h6, h7⟩ := h2
    split at h7
    · rename_i fd e2
      split at h7
      · rename_i a as e3
        obtain ⟨oc, od, sl, lk⟩ := funAt_ok e2
        obtain ⟨name, qual, params, body, scope, globals, closure, dV, kV, doc, pm, an, cd, ct, bl⟩ := fd
        unfold xiB at h7
        split at h7
        · rename_i n cc c g1 g2 g3 g4 g5
          dsimp only at g1 g2 g3 g4 g5 e3 h7
          subst g1 g2 g3 g4 g5
          simp only [Bool.and_eq_true, decide_eq_true_eq, Bool.not_eq_true'] at h7
          obtain ⟨⟨⟨⟨⟨⟨⟨⟨⟨⟨⟨⟨⟨⟨⟨⟨⟨⟨⟨k1, k2⟩, k3⟩, k4⟩, k5⟩, k6⟩, k7⟩, k8⟩, k9⟩, k10⟩, k11⟩, k12⟩, k13⟩, k14⟩, k15⟩, k16⟩, k17⟩, k18⟩, k19⟩, k20⟩ := h7
          subst k1 k2 k3
          unfold bodyB at k19
          split at k19
          · rename_i s p0 p1 m p2 lit jj p3 p4 p5 rest
            simp only [Bool.and_eq_true, decide_eq_true_eq] at k19
            obtain ⟨⟨⟨b1, b2⟩, b3⟩, b4⟩ := k19
            subst b1 b2
            let F : NF := ⟨name, qual, params, .Expr (.Call (.Attribute (.Call (.Name "super" p0) [] [] p1) "__init__" p2) [.Constant (.str lit) jj p3] [] p4) p5 :: rest, scope, [(("__class__" : Str), cc)], c⟩
            have S := nscope_by k17
            obtain ⟨o1, o2⟩ := oddB_no (by rw [k18]; rfl)
            have cel : ∃ c1 c2 c3, K.lookup cc = some ⟨c1, c2, .cell (some (.ref D)), c3⟩ := by
              unfold cellB at k5
              split at k5
              · rename_i c1 c2 a c3 e
                obtain rfl := of_decide_eq_true k5
                exact ⟨c1, c2, c3, e⟩
              · cases k5
            have fil : ∃ c1 c2 c3 vs file tf, K.lookup c = some ⟨c1, c2, .fields vs, c3⟩ ∧ (vs[2]? : Option Value) = some (.str file tf) ∧ ((prog.main.file : Str) == file) = true := by
              unfold fileB at k6
              split at k6
              · rename_i c1 c2 vs c3 e
                split at k6
                · rename_i f t e2
                  exact ⟨c1, c2, c3, vs, f, t, e, e2, k6⟩
                · cases k6
              · cases k6
            have sim := simB_ok k20
            have X : XiT prog K mg D fI cc F a.arg := {
              oex := T
              fn := ⟨oc, od, doc, pm, ct, sl, lk⟩
              cd := k4
              cl := rfl
              cell := cel
              code := fil
              top := k7
              sup := hm
              par := ⟨a, by rw [show F.params = params from rfl, sim.po, e3]; rfl, rfl⟩
              isD := Option.isSome_iff_exists.mp k9
              mro := k10
              meth := He.eqO_ok k11
              sub := k12
              opq := He.eqO_ok k13
              k1 := k14
              k2 := k15
              k3 := k16 }
            refine ⟨T, ⟨fI, F.fd doc pm ct, a.arg :: flds, e1, of_decide_eq_true h6, exc_fn (F := F) X lk S o1 o2 b3 rfl (stsB_ok _ _ b4) (fun z => by rw [z] at h3; cases h3) (of_decide_eq_true h4) (fun f hf => He.eqO_ok (List.all_eq_true.mp h5 f hf)), ?_⟩, of_decide_eq_true h4⟩
            intro s us kin hl
            rw [List.append_nil] at hl ⊢
            have bo := bind_ok (K := K) (dU := []) (n := (a.arg :: flds).length) (ks := []) sim (.inl ⟨rfl, rfl⟩) (by simp) (Nat.zero_le _) (Nat.le_refl _) List.nodup_nil (fun k hk => by cases hk)
            exact bo s us [] us kin hl rfl (bindG_all _ _ _ hl)
          · cases k19
        · cases h7
      · cases h7
    · cases h7
  · cases h2
/-! ### classes -/
def scTys : List String := ["NoneType", "bool", "int", "str", "tuple", "list", "dict"]
def cfB (o : Option PySem.W.CFound) (f : Addr) : Bool := match o with
  | some (.val (.ref a)) => decide (a = f)
  | _ => false
theorem cfB_ok {o : Option PySem.W.CFound} {f : Addr} (h : cfB o f = true) : o = some (.val (.ref f)) := by
  unfold cfB at h
  split at h
  · rw [of_decide_eq_true h]
  · cases h
def iniK (P : Pg) (K : PySem.W.Frag) (cl : Cl) : Bool := match P.fns[cl.init]? with
  | some f => (!decide (f.kind = .inS) || ((He.Fa.mkr cl.name).ok K && decide (faK P K cl.init = He.ma K (He.ga K cl.name) "__init__"))) && (!decide (f.kind = .ini) || ((He.Fa.mkr cl.name).ok K && decide (faK P K cl.init = He.ma K (He.ga K cl.name) "__init__") && PySem.W.readsIn K (He.ga K cl.name) (.type "type") &&
    He.eqO (PySem.W.specialIn K (.ref (He.ga K cl.name)) "__getattribute__") (some (some (.builtin "type.__getattribute__"))) && cfB (PySem.W.findCls K (.ref (He.ga K cl.name)) (.type "type") "__init__") (faK P K cl.init)))
  | none => true
/-- no exception class -/
def plAt (P : Pg) (c : Nat) : Bool := match P.cls[c]? with
  | some cl => cl.kind.pl
  | none => true
def clsK (P : Pg) (prog : Program) (K : PySem.W.Frag) (cl : Cl) : Bool :=
  (if cl.kind.pl then (He.Fa.cls cl.name).ok K else (xfB K (He.ga K cl.name) && (PySem.W.clsIn K (He.ga K cl.name)).isSome)) && clsTyB K (He.ga K cl.name) && (He.Fa.glo cl.name).ok K &&
  (List.range P.cls.length).all (fun c' => decide (PySem.W.kitOne K (.ref (He.ga K cl.name)) (.ref (caK P K c')) = some (cl.anc.contains c'))) &&
  P.tys.all (fun n => decide (PySem.W.kitOne K (.ref (He.ga K cl.name)) (.type n) = some (cl.bas.contains n))) && scTys.all (fun t => decide (PySem.W.kitOne K (.type t) (.ref (He.ga K cl.name)) = some false)) &&
  cl.fnames.all (fun f => He.eqO (PySem.W.findIn K (.ref (He.ga K cl.name)) f) (some none)) &&
  (cl.kind.pl || (List.range P.cls.length).all (fun c' => plAt P c' || decide (PySem.W.exmOne K (.ref (He.ga K cl.name)) (.ref (caK P K c')) = some (cl.anc.contains c')))) && (!cl.kind.pl || iniK P K cl) && (cl.kind.pl || cl.flds.isEmpty || raK K prog (He.ga K cl.name) cl.flds)
structure ClsKF (P : Pg) (prog : Program) (K : PySem.W.Frag) (cl : Cl) : Prop where
  a : if cl.kind.pl then (He.Fa.cls cl.name).ok K = true else (xfB K (He.ga K cl.name) = true ∧ (PySem.W.clsIn K (He.ga K cl.name)).isSome = true)
  ty : clsTyB K (He.ga K cl.name) = true
  gl : (He.Fa.glo cl.name).ok K = true
  isC : ∀ c', c' < P.cls.length → PySem.W.kitOne K (.ref (He.ga K cl.name)) (.ref (caK P K c')) = some (cl.anc.contains c')
  isT : ∀ n ∈ P.tys, PySem.W.kitOne K (.ref (He.ga K cl.name)) (.type n) = some (cl.bas.contains n)
  sc : ∀ t ∈ scTys, PySem.W.kitOne K (.type t) (.ref (He.ga K cl.name)) = some false
  fl : ∀ f ∈ cl.fnames, PySem.W.findIn K (.ref (He.ga K cl.name)) f = some none
  ex : cl.kind.pl = false → ∀ c', c' < P.cls.length → plAt P c' = false → PySem.W.exmOne K (.ref (He.ga K cl.name)) (.ref (caK P K c')) = some (cl.anc.contains c')
  ini : cl.kind.pl = true → iniK P K cl = true
  ra : cl.kind.pl = false → cl.flds ≠ [] → raK K prog (He.ga K cl.name) cl.flds = true
theorem clsK_ok {P : Pg} {prog : Program} {K : PySem.W.Frag} {cl : Cl} (h : clsK P prog K cl = true) : ClsKF P prog K cl := by
  unfold clsK at h
  simp only [Bool.and_eq_true, Bool.or_eq_true, Bool.not_eq_true'] at h
  obtain ⟨⟨⟨⟨⟨⟨⟨⟨⟨h1, h2⟩, h3⟩, h4⟩, h5⟩, h6⟩, h7⟩, h8⟩, h9⟩, h10⟩ := h
  refine ⟨?_, h2, h3, fun c' hc => ?_, fun n hn => ?_, fun t ht => ?_, fun f hf => ?_, fun hp c' hc hq => ?_, fun hp => ?_, fun hp hn => ?_⟩
  · split at h1
    · rename_i hp
      rw [if_pos hp]
      exact h1
    · rename_i hp
      rw [if_neg hp]
      rw [Bool.and_eq_true] at h1
      exact h1
  · exact of_decide_eq_true (List.all_eq_true.mp h4 c' (List.mem_range.mpr hc))
  · exact of_decide_eq_true (List.all_eq_true.mp h5 n hn)
  · exact of_decide_eq_true (List.all_eq_true.mp h6 t ht)
  · exact He.eqO_ok (List.all_eq_true.mp h7 f hf)
  · rcases h8 with z | z
    · rw [hp] at z
      cases z
    · have y := List.all_eq_true.mp z c' (List.mem_range.mpr hc)
      rw [hq, Bool.false_or] at y
      exact of_decide_eq_true y
  · rcases h9 with z | z
    · rw [hp] at z
      cases z
    · exact z
  · rcases h10 with (z | z) | z
    · rw [hp] at z
      cases z
    · exact absurd (List.isEmpty_iff.mp z) hn
    · exact z
/-! ### defs -/
def fnScB (N ps : List Str) (sc : Scope) : Bool := decide (sc.kind = .function) && !sc.isCoroutine && !sc.isGenerator && decide N.Nodup && decide (N.take ps.length = ps) && ps.all (fun x => locK (sc.names.lookup x)) && sc.names.all fun y => !decide (y.2 = .free)
theorem fnScB_ok {N ps : List Str} {sc : Scope} (h : fnScB N ps sc = true) : FnScope N ps sc := by
  unfold fnScB at h
  simp only [Bool.and_eq_true, Bool.not_eq_true', decide_eq_true_eq, List.all_eq_true, decide_eq_false_iff_not] at h
  obtain ⟨⟨⟨⟨⟨⟨h1, h2⟩, h3⟩, h4⟩, h5⟩, h6⟩, h7⟩ := h
  exact ⟨h1, h2, h3, h4, h5, fun x hx => locK_ok (h6 x hx), h7⟩
def relDfl : List (Str × D) → List Value → Bool
  | [], [] => true
  | (_, d) :: r, u :: us => (match cV d with
    | some v => He.relB v u
    | none => false) && relDfl r us
  | _, _ => false
theorem relDfl_ok : ∀ {r : List (Str × D)} {us : List Value}, relDfl r us = true → DflOk r ((r.map (·.1)).zip us) ∧ us.length = r.length
  | [], [], _ => ⟨.nil, rfl⟩
  | [], _ :: _, h => by simp [relDfl] at h
  | _ :: _, [], h => by simp [relDfl] at h
  | (x, d) :: r, u :: us, h => by
    unfold relDfl at h
    rw [Bool.and_eq_true] at h
    obtain ⟨h1, h2⟩ := h
    obtain ⟨k1, k2⟩ := relDfl_ok h2
    split at h1
    · rename_i v e
      exact ⟨.cons ⟨rfl, v, e, He.relB_ok h1⟩ k1, by rw [List.length_cons, List.length_cons, k2]⟩
    · cases h1
def dflK (K : PySem.W.Frag) (f : Fn) (fd : FuncData) : Bool := decide (f.dfl.length ≤ f.ps.length) && decide (f.dfl.map (·.1) = f.ps.drop (f.ps.length - f.dfl.length)) && (match f.dfl, fd.defaults with
  | [], .none => true
  | _ :: _, .ref T => (match K.lookup T with
    | some ⟨_, _, .seq its _, _⟩ => relDfl f.dfl its.toList
    | _ => false)
  | _, _ => false)
theorem dflK_ok {K : PySem.W.Frag} {f : Fn} {fd : FuncData} (h : dflK K f fd = true) : DflOk f.dfl ((f.dfl.map (·.1)).zip (dflVals K fd)) ∧ DfK K fd ((f.dfl.map (·.1)).zip (dflVals K fd)) ∧ ((f.dfl.map (·.1)).zip (dflVals K fd)).map (·.1) = f.ps.drop (f.ps.length - ((f.dfl.map (·.1)).zip (dflVals K fd)).length) ∧ ((f.dfl.map (·.1)).zip (dflVals K fd)).length ≤ f.ps.length := by
  unfold dflK at h
  simp only [Bool.and_eq_true] at h
  obtain ⟨⟨h1, h2⟩, h3⟩ := h
  have h1 := of_decide_eq_true h1
  have h2 := of_decide_eq_true h2
  split at h3
  · rename_i e1 e2
    rw [e1] at h2 ⊢
    refine ⟨.nil, .inl ⟨e2, rfl⟩, ?_, Nat.zero_le _⟩
    simp
  · rename_i p r T e1 e2
    rw [← e1] at *
    split at h3
    · rename_i c d its n sl e3
      obtain ⟨k1, k2⟩ := relDfl_ok h3
      have ev : dflVals K fd = its.toList := by
        unfold dflVals
        rw [e2]
        dsimp only
        rw [e3]
      rw [ev]
      have ll : ((f.dfl.map (·.1)).zip its.toList).length = f.dfl.length := by
        rw [List.length_zip, List.length_map, k2, Nat.min_self]
      have m1 : ((f.dfl.map (·.1)).zip its.toList).map (·.1) = f.dfl.map (·.1) := by
        rw [List.map_fst_zip]
        rw [List.length_map, k2]
        exact Nat.le_refl _
      have m2 : ((f.dfl.map (·.1)).zip its.toList).map (·.2) = its.toList := by
        rw [List.map_snd_zip]
        rw [List.length_map, k2]
        exact Nat.le_refl _
      exact ⟨k1, .inr ⟨T, c, d, its, n, sl, e2, e3, m2.symm⟩, by rw [m1, ll]; exact h2, by rw [ll]; exact h1⟩
    · cases h3
  · cases h3
def shN (f : Fn) (n : Nat) : Nat := if f.kind = .ini then n + 1 else n
def shB (f : Fn) (sh : Nat × List Str) : Bool := decide (shN f sh.1 ≤ f.ps.length) && decide sh.2.Nodup && sh.2.all fun k => f.ps.contains k && !(f.ps.take (shN f sh.1)).contains k
def codeHdB (K : PySem.W.Frag) (c tb : Addr) : Bool := match K.lookup c with
  | some ⟨.type "code", _, .fields vs, _⟩ => decide ((vs[11]? : Option Value) = some (.ref tb)) && decide (vs.getD 11 .none = .ref tb) && (match vs.getD 18 .none with
    | .str _ _ => true
    | _ => false) && (match vs.getD 7 .none with
    | .int _ _ => true
    | _ => false) && (match vs.getD 9 .none with
    | .bool _ => true
    | _ => false) && (match vs.getD 10 .none with
    | .int _ _ => true
    | _ => false) && decide (c ≠ tb)
  | _ => false
theorem codeHdB_ok {K : PySem.W.Frag} {c tb : Addr} {h : Heap} (kin : K.In h) (q : codeHdB K c tb = true) : PySem.W.CodeHd h c tb := by
  unfold codeHdB at q
  split at q
  · rename_i dd vs sl e
    simp only [Bool.and_eq_true] at q
    obtain ⟨⟨⟨⟨⟨⟨h1, h2⟩, h3⟩, h4⟩, h5⟩, h6⟩, h7⟩ := q
    split at h3
    · rename_i f t e3
      split at h4
      · rename_i a b e4
        split at h5
        · rename_i b' e5
          split at h6
          · rename_i a2 b2 e6
            exact ⟨_, vs, f, t, a, b, b', a2, b2, kin _ _ e, rfl, rfl, of_decide_eq_true h1, of_decide_eq_true h2, e3, e4, e5, e6, of_decide_eq_true h7⟩
          · cases h6
        · cases h5
      · cases h4
    · cases h3
  · cases q
def lamK (P : Pg) (K : PySem.W.Frag) (fd : FuncData) : Bool := match tabAt K fd.code with
  | some p => codeHdB K p.1 p.2 && (csK P K).all fun q => !decide (q.2.1 = p.2) || decide (q.2.2 = lamQ fd.qualname)
  | none => false
def kindK (f : Fn) (fd : FuncData) : Bool := match f.kind with
  | .fn => true
  | .ini => !f.ps.isEmpty
  | .inS => stB fd f.ps && f.shapes.isEmpty
  | .hrd => (match f.ps with
    | [a] => decide (f.at_ = (fd.name, none)) && decide (fd.qualname = fd.name) && visK (fd.scope.names.lookup a) && !oddB a && f.shapes.contains (1, [])
    | _ => false)
def fnK (P : Pg) (K : PySem.W.Frag) (f : Fn) : Bool := match funAt K (faA K f.at_) with
  | none => false
  | some fd => decide (fd.globals = mainGlobals) && fd.closure.isEmpty && decide (fd.builtins = builtinsNs) && PySem.W.keepIn K (.ref (faA K f.at_)) && PySem.W.codeIn K fd.code fd.qualname && fnScB f.N f.ps fd.scope && (decide (f.kind = .inS) || simB fd f.ps) && dflK K f fd && f.shapes.all (shB f) && kindK f fd && (!f.lam || lamK P K fd) &&
    (f.at_.2.isSome || (He.Fa.glo f.at_.1).ok K) && (match fd.body with
    | .stmts b => chkSs P f.N (haOf f) f.body fd.scope f.lam b
    | _ => false)
/-! ### methods, class attributes, own == -/
def catK (K : PySem.W.Frag) (A : Addr) (p : Str × Int) : Bool := PySem.W.readsIn K A (.type "type") && (match PySem.W.findCls K (.ref A) (.type "type") p.1 with
  | some (.val (.int v _)) => decide (v = p.2)
  | _ => false)
def metK (P : Pg) (K : PySem.W.Frag) (A : Addr) (p : Str × Nat) : Bool := He.eqO (PySem.W.findIn K (.ref A) p.1) (some (some (.ref (faK P K p.2)))) && PySem.W.isFn K (.ref (faK P K p.2)) && PySem.W.keepIn K (.ref (faK P K p.2))
def eqFK (P : Pg) (K : PySem.W.Frag) (c : Nat) (A : Addr) : Bool := scTys.all (fun t => PySem.W.notFirst K A (.type t) && decide (PySem.W.subIn K (.ref A) (.type t) = some false)) && (List.range P.cls.length).all (fun c' => match P.cls[c']? with
    | some cl' => !cl'.kind.pl || (!decide (c' = c) && cl'.anc.contains c) || PySem.W.notFirst K A (.ref (caK P K c'))
    | none => true) && He.eqO (PySem.W.findIn K (.ref A) "__ne__") (some (some (.builtin "object.__ne__"))) && decide (PySem.W.subIn K (.ref A) (.type "object") = some true)
def cl2K (P : Pg) (K : PySem.W.Frag) (c : Nat) : Bool := match P.cls[c]? with
  | some cl => cl.catt.all (catK K (He.ga K cl.name)) && cl.meths.all (metK P K (He.ga K cl.name)) && (!(cl.meths.lookup ("__eq__" : Str)).isSome || eqFK P K c (He.ga K cl.name))
  | none => true
/-- a classmethod, a static method -/
def cmK (P : Pg) (K : PySem.W.Frag) (q : Nat × Str × Nat × Bool) : Bool := match P.cls[q.1]? with
  | some cl => PySem.W.readsIn K (He.ga K cl.name) (.type "type") && He.eqO (PySem.W.specialIn K (.ref (He.ga K cl.name)) "__getattribute__") (some (some (.builtin "type.__getattribute__"))) &&
    (match PySem.W.findCls K (.ref (He.ga K cl.name)) (.type "type") q.2.1 with
    | some (.get (.builtin g) (.ref p) .none (.ref A)) => decide (A = He.ga K cl.name) && (match q.2.2.2 with
      | false => decide (g = "classmethod.__get__") && (match PySem.W.recIn K p "classmethod" with
        | some (.ref f :: _) => decide (f = faK P K q.2.2.1)
        | _ => false) && PySem.W.fnIn K (faK P K q.2.2.1)
      | true => decide (g = "staticmethod.__get__") && (match PySem.W.recIn K p "staticmethod" with
        | some (.ref f :: _) => decide (f = faK P K q.2.2.1)
        | _ => false))
    | _ => false)
  | none => false
def okK (P : Pg) (prog : Program) (K : PySem.W.Frag) : Bool := P.cls.all (clsK P prog K) && P.fns.all (fnK P K) && P.gints.all (fun p => (He.Fa.int p.1 p.2).ok K) && P.frees.all (fun x => (He.Fa.free x).ok K) && (He.Fa.free "super").ok K && (eqB P && strB P && spB P && P.cms.all (cmK P K)) && (List.range P.cls.length).all (cl2K P K)
/-- all of it but the defs -/
def okR (P : Pg) (prog : Program) (K : PySem.W.Frag) : Bool := P.cls.all (clsK P prog K) && P.gints.all (fun p => (He.Fa.int p.1 p.2).ok K) && P.frees.all (fun x => (He.Fa.free x).ok K) && (He.Fa.free "super").ok K && (eqB P && strB P && spB P && P.cms.all (cmK P K)) && (List.range P.cls.length).all (cl2K P K)
theorem okK_split {P : Pg} {prog : Program} {K : PySem.W.Frag} : okK P prog K = (okR P prog K && P.fns.all (fnK P K)) := by
  unfold okK okR
  cases P.cls.all (clsK P prog K) <;> cases P.fns.all (fnK P K) <;> simp
end DL
end
-- DLHd2
section
set_option maxHeartbeats 4000000
namespace DL
open PySem PySem.Spec L2
open LamX PyProof.Rows NdefX
section
variable {P : Pg} {prog : Program} {K : PySem.W.Frag} {w : World} {mg : Str → Option Value} {base : Heap}
theorem caK_at {c : Nat} {cl : Cl} (h : P.cls[c]? = some cl) : caK P K c = He.ga K cl.name := by
  unfold caK
  rw [h]
theorem faK_at {j : Nat} {f : Fn} (h : P.fns[j]? = some f) : faK P K j = faA K f.at_ := by
  unfold faK
  rw [h]
structure FnKF (P : Pg) (K : PySem.W.Frag) (j : Nat) (f : Fn) (fd : FuncData) (b : List Stmt) : Prop where
  eq : fdK P K j = fd
  at_ : funAt K (faA K f.at_) = some fd
  gl : fd.globals = mainGlobals
  cl : fd.closure = []
  bl : fd.builtins = builtinsNs
  kp : PySem.W.keepIn K (.ref (faA K f.at_)) = true
  cd : PySem.W.codeIn K fd.code fd.qualname = true
  sc : FnScope f.N f.ps fd.scope
  si : f.kind = .inS ∨ Simple fd f.ps
  df : dflK K f fd = true
  sh : f.shapes.all (shB f) = true
  kd : kindK f fd = true
  lm : f.lam = true → lamK P K fd = true
  go : f.at_.2 = none → (He.Fa.glo f.at_.1).ok K = true
  bd : fd.body = .stmts b
  ck : chkSs P f.N (haOf f) f.body fd.scope f.lam b = true
theorem fnK_ok {j : Nat} {f : Fn} (e : P.fns[j]? = some f) (h : fnK P K f = true) : ∃ fd b, FnKF P K j f fd b := by
  unfold fnK at h
  split at h
  · cases h
  · rename_i fd e1
    simp only [Bool.and_eq_true, decide_eq_true_eq, Bool.or_eq_true, Bool.not_eq_true'] at h
    obtain ⟨⟨⟨⟨⟨⟨⟨⟨⟨⟨⟨⟨h1, h2⟩, h3⟩, h4⟩, h5⟩, h6⟩, h7⟩, h8⟩, h9⟩, h10⟩, h11⟩, h12⟩, h13⟩ := h
    split at h13
    · rename_i b eb
      refine ⟨fd, b, ?_, e1, h1, List.isEmpty_iff.mp h2, h3, h4, h5, fnScB_ok h6, h7.imp id simB_ok, h8, h9, h10, fun z => ?_, fun z => ?_, eb, h13⟩
      · unfold fdK
        rw [faK_at e, e1]
        rfl
      · rcases h11 with y | y
        · rw [z] at y
          cases y
        · exact y
      · rcases h12 with y | y
        · rw [z] at y
          cases y
        · exact y
    · cases h13
theorem dU_at {j : Nat} {f : Fn} {fd : FuncData} {b : List Stmt} (e : P.fns[j]? = some f) (F : FnKF P K j f fd b) : dUK P K j = (f.dfl.map (·.1)).zip (dflVals K fd) := by
  unfold dUK
  rw [e]
  dsimp only
  rw [F.eq]
theorem ok_cls (h : okK P prog K = true) {c : Nat} {cl : Cl} (e : P.cls[c]? = some cl) : ClsKF P prog K cl := by
  unfold okK at h
  simp only [Bool.and_eq_true] at h
  exact clsK_ok (List.all_eq_true.mp h.1.1.1.1.1.1 cl (List.mem_of_getElem? e))
theorem ok_fn (h : okK P prog K = true) {j : Nat} {f : Fn} (e : P.fns[j]? = some f) : ∃ fd b, FnKF P K j f fd b := by
  unfold okK at h
  simp only [Bool.and_eq_true] at h
  exact fnK_ok e (List.all_eq_true.mp h.1.1.1.1.1.2 f (List.mem_of_getElem? e))
theorem pl_of {cl : Cl} (h : cl.kind = .plain) : cl.kind.pl = true := by
  rw [h]
  rfl
theorem ex_of {cl : Cl} (h : cl.kind = .exc) : cl.kind.pl = false := by
  rw [h]
  rfl
theorem lookup_in {α : Type} {m : Str} {j : α} : ∀ {l : List (Str × α)}, l.lookup m = some j → (m, j) ∈ l
  | [], h => by cases h
  | (n, k) :: r, h => by
    simp only [List.lookup] at h
    split at h
    · rename_i q
      cases h
      rw [eq_of_beq q]
      exact List.mem_cons_self ..
    · exact List.mem_cons_of_mem _ (lookup_in h)
theorem ok_stat2 (h : okK P prog K = true) : Stat2 K (ctK P K) P := by
  unfold okK at h
  simp only [Bool.and_eq_true] at h
  have hb := h.1.2
  have h := h.2
  have at_ : ∀ {c : Nat} {cl : Cl}, P.cls[c]? = some cl → cl.catt.all (catK K (He.ga K cl.name)) = true ∧ cl.meths.all (metK P K (He.ga K cl.name)) = true ∧ ((cl.meths.lookup ("__eq__" : Str)).isSome = false ∨ eqFK P K c (He.ga K cl.name) = true) := fun {c cl} e => by
    have q := List.all_eq_true.mp h c (List.mem_range.mpr (List.getElem?_eq_some_iff.mp e).1)
    unfold cl2K at q
    rw [e] at q
    simp only [Bool.and_eq_true, Bool.or_eq_true, Bool.not_eq_true'] at q
    exact ⟨q.1.1, q.1.2, q.2⟩
  refine ⟨fun c cl f v e1 e2 e3 => ?_, fun c cl m j e1 e2 e3 => ?_, hb.1.1.1, hb.1.1.2, hb.1.2, fun c cl j e1 e2 e3 => ?_⟩
  · have q := List.all_eq_true.mp (at_ e1).1 (f, v) (List.contains_iff_mem.mp e3)
    unfold catK at q
    rw [Bool.and_eq_true] at q
    obtain ⟨q1, q2⟩ := q
    show PySem.W.readsIn K (caK P K c) (.type "type") = true ∧ ∃ t, PySem.W.findCls K (.ref (caK P K c)) (.type "type") f = some (.val (.int v t))
    rw [caK_at e1]
    refine ⟨q1, ?_⟩
    dsimp only at q2
    split at q2
    · rename_i v' t ee
      rw [ee, of_decide_eq_true q2]
      exact ⟨t, rfl⟩
    · cases q2
  · have q := List.all_eq_true.mp (at_ e1).2.1 (m, j) (lookup_in e3)
    unfold metK at q
    simp only [Bool.and_eq_true] at q
    show Meth K (caK P K c) m (faK P K j)
    rw [caK_at e1]
    exact ⟨He.eqO_ok q.1.1, q.1.2, q.2⟩
  · rcases (at_ e1).2.2 with z | z
    · rw [e3] at z
      cases z
    · unfold eqFK at z
      simp only [Bool.and_eq_true, decide_eq_true_eq] at z
      obtain ⟨⟨⟨z1, z2⟩, z3⟩, z4⟩ := z
      have ea : (ctK P K).ca c = He.ga K cl.name := caK_at e1
      refine ⟨fun t ht => ?_, fun c' cl' f1 f2 f3 => ?_, ?_, fun t ht => ?_, ?_⟩
      · have y := List.all_eq_true.mp z1 t ht
        simp only [Bool.and_eq_true, decide_eq_true_eq] at y
        rw [ea]
        exact y.1
      · have y := List.all_eq_true.mp z2 c' (List.mem_range.mpr (List.getElem?_eq_some_iff.mp f1).1)
        rw [f1] at y
        simp only [Bool.or_eq_true, Bool.not_eq_true', Bool.and_eq_true, decide_eq_false_iff_not] at y
        rw [ea]
        rcases y with (y | y) | y
        · rw [f2] at y
          cases y
        · rcases f3 with f3 | f3
          · exact absurd f3 y.1
          · rw [f3] at y
            cases y.2
        · exact y
      · rw [ea]
        exact He.eqO_ok z3
      · have y := List.all_eq_true.mp z1 t ht
        simp only [Bool.and_eq_true, decide_eq_true_eq] at y
        rw [ea]
        exact y.2
      · rw [ea]
        exact z4
theorem ok_stat (h : okK P prog K = true) (kin : K.In base) (ns : base.Ns mainGlobals mg) : Stat prog w K mg base (ctK P K) P := by
  have hc := h
  unfold okK at hc
  simp only [Bool.and_eq_true] at hc
  obtain ⟨⟨⟨⟨⟨⟨_, _⟩, h3⟩, h4⟩, h5⟩, h6⟩, _⟩ := hc
  have len : ∀ {c : Nat} {cl : Cl}, P.cls[c]? = some cl → c < P.cls.length := fun e => (List.getElem?_eq_some_iff.mp e).1
  have fldc : ∀ c f, (fldOk P c f = true ∨ xfdOk P c f = true) → PySem.W.findIn K (.ref (caK P K c)) f = some none := fun c f hf => by
    rcases hf with z | z
    · unfold fldOk at z
      split at z
      · rename_i cl e
        rw [Bool.and_eq_true] at z
        rw [caK_at e]
        exact (ok_cls h e).fl f (List.contains_iff_mem.mp z.2)
      · cases z
    · unfold xfdOk at z
      split at z
      · rename_i cl e
        rw [Bool.and_eq_true] at z
        rw [caK_at e]
        exact (ok_cls h e).fl f (List.contains_iff_mem.mp z.2)
      · cases z
  refine { kk := rfl, s2 := ok_stat2 h, cf := ?_, exm := ?_, gi := ?_, gc := ?_, fr := ?_, fg := ?_, kp := ?_, df := ?_, bo := ?_, mki := ?_, fo := ?_, ra := ?_, su := ?_, mkS := ?_, cmm := ?_ }
  · refine ⟨fun c cl e k => ?_, fun c cl e k => ?_, fun c cl e => ?_, fun c cl c' cl' e e' => ?_, fun c cl n e hn => ?_, fun t c cl ht e => ?_, fldc⟩
    · have q := (ok_cls h e).a
      rw [if_pos (pl_of k)] at q
      show Cls K (caK P K c)
      rw [caK_at e]
      exact He.cls_ok q
    · have q := (ok_cls h e).a
      rw [if_neg (by rw [ex_of k]; decide)] at q
      show XfC K (caK P K c) ∧ (PySem.W.clsIn K (caK P K c)).isSome = true
      rw [caK_at e]
      exact ⟨xfB_ok q.1, q.2⟩
    · show ClsTy K (caK P K c)
      rw [caK_at e]
      exact clsTyB_ok (ok_cls h e).ty
    · show PySem.W.kitOne K (.ref (caK P K c)) (.ref (caK P K c')) = _
      rw [caK_at e]
      exact (ok_cls h e).isC c' (len e')
    · show PySem.W.kitOne K (.ref (caK P K c)) (.type n) = _
      rw [caK_at e]
      exact (ok_cls h e).isT n (List.contains_iff_mem.mp hn)
    · show PySem.W.kitOne K (.type t) (.ref (caK P K c)) = _
      rw [caK_at e]
      exact (ok_cls h e).sc t (List.contains_iff_mem.mp ht)
  · intro k cl c cl' e1 e2 e3 e4
    show PySem.W.exmOne K (.ref (caK P K k)) (.ref (caK P K c)) = _
    rw [caK_at e1]
    exact (ok_cls h e1).ex e2 c (len e3) (by unfold plAt; rw [e3]; exact e4)
  · intro x i hx
    exact He.int_ok kin ns (List.all_eq_true.mp h3 (x, i) (List.contains_iff_mem.mp hx))
  · intro c cl e
    show mg cl.name = some (.ref (caK P K c))
    rw [caK_at e]
    exact He.glo_ok kin ns (ok_cls h e).gl
  · intro x hx
    exact He.free_ok kin ns (List.all_eq_true.mp h4 x (List.contains_iff_mem.mp hx))
  · intro j f e z
    obtain ⟨fd, b, F⟩ := ok_fn h e
    show mg f.at_.1 = some (.ref (faK P K j))
    rw [faK_at e]
    have q := He.glo_ok kin ns (F.go z)
    rw [q]
    unfold faA
    rw [z]
    dsimp only
    unfold He.fAd
    rw [z]
  · intro j f e
    obtain ⟨fd, b, F⟩ := ok_fn h e
    show PySem.W.keepIn K (.ref (faK P K j)) = true
    rw [faK_at e]
    exact F.kp
  · intro j f e
    obtain ⟨fd, b, F⟩ := ok_fn h e
    show DflOk f.dfl (dUK P K j)
    rw [dU_at e F]
    exact (dflK_ok F.df).1
  · intro j f sh e hs
    obtain ⟨fd, b, F⟩ := ok_fn h e
    show BindOk K (fdK P K j) f.ps (dUK P K j) _ sh.2
    rw [dU_at e F, F.eq]
    obtain ⟨_, d2, d3, d4⟩ := dflK_ok F.df
    have q := List.all_eq_true.mp F.sh sh hs
    unfold shB at q
    simp only [Bool.and_eq_true, decide_eq_true_eq, List.all_eq_true, Bool.not_eq_true'] at q
    obtain ⟨⟨q1, q2⟩, q3⟩ := q
    have hsi : Simple fd f.ps := by
      rcases F.si with z | z
      · have kd := F.kd
        unfold kindK at kd
        rw [z] at kd
        dsimp only at kd
        rw [Bool.and_eq_true] at kd
        rw [List.isEmpty_iff.mp kd.2] at hs
        cases hs
      · exact z
    refine bind_ok hsi d2 d3 d4 q1 q2 fun k hk => ?_
    have z := q3 k hk
    refine ⟨List.contains_iff_mem.mp z.1, fun y => ?_⟩
    have w := List.contains_iff_mem.mpr y
    have z2 := z.2
    unfold shN at z2
    rw [w] at z2
    cases z2
  · intro c cl f e1 e2 e3 e4
    obtain ⟨fd, b, F⟩ := ok_fn h e3
    have q := (ok_cls h e1).ini e2
    unfold iniK at q
    rw [e3] at q
    simp only [Bool.or_eq_true, Bool.and_eq_true, Bool.not_eq_true', decide_eq_false_iff_not, decide_eq_true_eq] at q
    rcases q.2 with z | ⟨⟨⟨⟨z1, z2⟩, z3⟩, z4⟩, z5⟩
    · exact absurd e4 z
    · constructor
      · show Mk K (caK P K c) (faK P K cl.init)
        rw [caK_at e1, z2]
        exact He.mkr_ok z1
      · have kd := F.kd
        unfold kindK at kd
        rw [e4] at kd
        intro y
        rw [y] at kd
        cases kd
  · intro c f hf
    obtain ⟨cl, e, k⟩ := fld_cls hf
    have q := (ok_cls h e).a
    rw [if_pos (pl_of k)] at q
    show Cls K (caK P K c) ∧ NoAttr K (caK P K c) f
    refine ⟨?_, fldc c f (.inl hf)⟩
    rw [caK_at e]
    exact He.cls_ok q
  · intro c cl e1 e2 e3
    show RaF prog w K mg base (caK P K c) cl.flds
    rw [caK_at e1]
    exact raK_ok ((ok_cls h e1).ra e2 e3) (He.free_ok kin ns h5)
  · intro c cl f e1 e2 e3 e4
    have q := (ok_cls h e1).ini e2
    unfold iniK at q
    rw [e3] at q
    simp only [Bool.or_eq_true, Bool.and_eq_true, Bool.not_eq_true', decide_eq_false_iff_not, decide_eq_true_eq] at q
    rcases q.2 with z | ⟨⟨⟨⟨z1, z2⟩, z3⟩, z4⟩, z5⟩
    · exact absurd e4 z
    · show PySem.W.readsIn K (caK P K c) (.type "type") = true ∧ PySem.W.specialIn K (.ref (caK P K c)) "__getattribute__" = _ ∧ PySem.W.findCls K (.ref (caK P K c)) (.type "type") "__init__" = some (.val (.ref (faK P K cl.init)))
      rw [caK_at e1]
      exact ⟨z3, He.eqO_ok z4, cfB_ok z5⟩
  · intro c cl f e1 e2 e3 e4
    have q := (ok_cls h e1).ini e2
    unfold iniK at q
    rw [e3] at q
    simp only [Bool.or_eq_true, Bool.and_eq_true, Bool.not_eq_true', decide_eq_false_iff_not, decide_eq_true_eq] at q
    rcases q.1 with z | ⟨z1, z2⟩
    · exact absurd e4 z
    · show Mk K (caK P K c) (faK P K cl.init)
      rw [caK_at e1, z2]
      exact He.mkr_ok z1
  · intro c m j sm cl hq e1
    have q := List.all_eq_true.mp h6.2 (c, m, j, sm) (List.contains_iff_mem.mp hq)
    unfold cmK at q
    dsimp only at q
    rw [e1] at q
    simp only [Bool.and_eq_true] at q
    obtain ⟨⟨q1, q2⟩, q3⟩ := q
    show ClX.CRead K (caK P K c) (.type "type") ∧ ∃ pA, (sm = false → ClX.CMet K (caK P K c) (.type "type") m pA (faK P K j)) ∧ (sm = true → SMet K (caK P K c) m pA (faK P K j))
    rw [caK_at e1]
    refine ⟨⟨q1, He.eqO_ok q2⟩, ?_⟩
    split at q3
    · rename_i g p A ef
      rw [Bool.and_eq_true] at q3
      obtain ⟨k1, k2⟩ := q3
      obtain rfl := of_decide_eq_true k1
      refine ⟨p, fun z => ?_, fun z => ?_⟩
      · subst z
        simp only [Bool.and_eq_true] at k2
        obtain ⟨⟨k3, k4⟩, k5⟩ := k2
        obtain rfl := of_decide_eq_true k3
        split at k4
        · rename_i f rest er
          rw [of_decide_eq_true k4] at er
          exact ⟨ef, ⟨rest, er⟩, k5⟩
        · cases k4
      · subst z
        simp only [Bool.and_eq_true] at k2
        obtain ⟨k3, k4⟩ := k2
        obtain rfl := of_decide_eq_true k3
        split at k4
        · rename_i f rest er
          rw [of_decide_eq_true k4] at er
          exact ⟨ef, ⟨rest, er⟩⟩
        · cases k4
    · cases q3
theorem ok_bods (h : okK P prog K = true) (tb : ∀ p ∈ tbK P K, TabB base mg p.1 p.2) : Bods K mg base (ctK P K) P := by
  intro j f e
  obtain ⟨fd, b, F⟩ := ok_fn h e
  obtain ⟨oc, od, sl, lk⟩ := funAt_ok F.at_
  obtain ⟨name, qual, params, body, scope, globals, closure, dV, kV, doc, pm, an, cd, ct, bl⟩ := fd
  have g1 := F.gl
  have g2 := F.cl
  have g3 := F.bl
  have g4 := F.bd
  dsimp only at g1 g2 g3 g4
  subst g1 g2 g3 g4
  refine ⟨name, qual, params, b, scope, dV, kV, doc, pm, an, cd, ct, oc, od, sl, ?_, ?_, F.cd, F.sc, F.ck, fun z => ?_, fun z => ?_, fun z => ?_, fun z => ?_⟩
  · exact F.eq
  · show K.lookup (faK P K j) = _
    rw [faK_at e]
    exact lk
  · have q := F.lm z
    unfold lamK at q
    dsimp only at q
    split at q
    · rename_i p ep
      rw [Bool.and_eq_true] at q
      have mem : (p.1, p.2, lamQ qual) ∈ csK P K := by
        unfold csK
        rw [List.mem_filterMap]
        refine ⟨j, List.mem_range.mpr (List.getElem?_eq_some_iff.mp e).1, ?_⟩
        rw [e]
        dsimp only
        rw [if_pos z, F.eq]
        dsimp only
        rw [ep]
        rfl
      refine ⟨p.1, p.2, ?_, tb _ (List.mem_map.mpr ⟨_, mem, rfl⟩), List.mem_map.mpr ⟨_, mem, rfl⟩, fun r hr er => ?_⟩
      · unfold tabAt at ep
        split at ep
        · split at ep
          · split at ep
            · cases ep
              rfl
            · cases ep
          · cases ep
        · cases ep
      · obtain ⟨r', hr', rfl⟩ := List.mem_map.mp hr
        have y := List.all_eq_true.mp q.2 r' hr'
        rw [Bool.or_eq_true, Bool.not_eq_true', decide_eq_false_iff_not, decide_eq_true_eq] at y
        rcases y with y | y
        · exact absurd er y
        · exact y
    · cases q
  · have kd := F.kd
    unfold kindK at kd
    rw [z] at kd
    dsimp only at kd
    split at kd
    · rename_i a ea
      simp only [Bool.and_eq_true, decide_eq_true_eq] at kd
      obtain ⟨⟨⟨⟨k1, k2⟩, k3⟩, k4⟩, k5⟩ := kd
      obtain ⟨o1, o2⟩ := oddB_no k4
      exact ⟨a, ea, k1, k2, visK_ok k3, o1, o2⟩
    · cases kd
  · have kd := F.kd
    unfold kindK at kd
    rw [z] at kd
    intro y
    rw [y] at kd
    cases kd
  · have kd := F.kd
    unfold kindK at kd
    rw [z] at kd
    dsimp only at kd
    rw [Bool.and_eq_true] at kd
    exact stB_ok kd.1
theorem ok_hrd (h : okK P prog K = true) : ∀ (j : Nat) (f : Fn), P.fns[j]? = some f → f.kind = .hrd → (1, ([] : List Str)) ∈ f.shapes := fun j f e z => by
  obtain ⟨fd, b, F⟩ := ok_fn h e
  have kd := F.kd
  unfold kindK at kd
  rw [z] at kd
  dsimp only at kd
  split at kd
  · simp only [Bool.and_eq_true] at kd
    exact List.contains_iff_mem.mp kd.2
  · cases kd
end
end DL
end
-- DLEnd
section
set_option maxHeartbeats 4000000
namespace DL
open PySem PySem.Spec L2
open LamX PyProof.Rows
/-- what is tracked at the law's call: the tables, and the script unless the written part has it -/
def H1 (K : PySem.W.Frag) (tbs : List Addr) (a : Addr) (so : Obj) (xs : List V) : Hp := fun b => if b ∈ tbs then some (.tbl #[]) else if b = a ∧ K.lookup a = none then some (.frz so (.lst xs)) else none
section
variable {K : PySem.W.Frag} {tbs : List Addr} {a : Addr} {so : Obj} {xs : List V}
theorem H1_tb {b : Addr} (h : b ∈ tbs) : H1 K tbs a so xs b = some (.tbl #[]) := if_pos h
theorem H1_cases (b : Addr) : (b ∈ tbs ∧ H1 K tbs a so xs b = some (.tbl #[])) ∨ (b ∉ tbs ∧ b = a ∧ K.lookup a = none ∧ H1 K tbs a so xs b = some (.frz so (.lst xs))) ∨ (b ∉ tbs ∧ ¬ (b = a ∧ K.lookup a = none) ∧ H1 K tbs a so xs b = none) := by
  by_cases h : b ∈ tbs
  · exact .inl ⟨h, if_pos h⟩
  · by_cases h2 : b = a ∧ K.lookup a = none
    · exact .inr (.inl ⟨h, h2.1, h2.2, (if_neg h).trans (if_pos h2)⟩)
    · exact .inr (.inr ⟨h, h2, (if_neg h).trans (if_neg h2)⟩)
end
theorem law_callG {P : Program} {w : World} {K : PySem.W.Frag} {mg mb : Str → Option Value} {k : Nat} {fa a : Addr} {cs : List (Addr × Addr)} {fd : FuncData} {x : Str} {sp : Sp} {t : Shared} {vs : List Value} {ns : List Int}
    (kin : K.In t.heap) (gns : t.heap.Ns mainGlobals mg) (bns : t.heap.Ns builtinsNs mb) (bok : ∀ x : Str, x ≠ "__name__" → mb x = bootBuiltins x) (lim : t.heap.NoLimit) (gen : t.gens = #[])
    (atT : ∀ p ∈ cs, t.heap.get? p.2 = some { cls := .none, data := .fields #[] }) (offT : ∀ p ∈ cs, K.lookup p.2 = none) (hd : ∀ p ∈ cs, PySem.W.CodeHd t.heap p.1 p.2)
    (bm : ∃ (b : Addr) (o : Obj), mg "__builtins__" = some (.ref b) ∧ b ≠ builtinsNs ∧ t.heap.get? b = some o ∧ o.cls = .type "module" ∧ o.dict = some builtinsNs ∧ o.data = .plain)
    (ha : t.heap.get? a = some { cls := .type "list", data := .seq vs.toArray }) (hi : IntsAre vs ns) (hl : ns.length ≤ sizeLine) (hr : Room k callerA)
    (F : ∀ base : Heap, K.In base → base.Ns mainGlobals mg → (∀ p ∈ cs, TabB base mg p.1 p.2) → FnG P w K mg base k fa fd [x] sp) (hbind : ∀ (s : Shared) (u : Value), K.In s.heap → BindsTo s fd ⟨[u], []⟩ [(x, u)])
    (hsp : ∀ H : Hp, (∀ p ∈ cs, H p.2 = some (.tbl #[])) → (∀ b ps, H b = some (.tbl ps) → b ∈ cs.map (·.2)) → SqL K H a (ns.map V.int) → sp [.ref a] H (fun v _ => v = .bl true) fun _ _ _ => False) :
    codeAny (model P w) callerA (.call (.ref fa) ⟨[.ref a], []⟩) (fun r s' => r = .ok (.ret (.bool true)) ∧ OldK t.heap s'.heap ∧ s'.os = t.os ∧ AllBare s'.gens) t := by
  have rel : Vals (ns.map V.int) vs := vals_ints hi
  have lenV := hi.length
  let tbs := cs.map (·.2)
  let so : Obj := { cls := .type "list", data := .seq vs.toArray }
  let H : Hp := H1 K tbs a so (ns.map V.int)
  have tbObj : ∀ b, b ∈ tbs → t.heap.get? b = some { cls := .none, data := .fields #[] } := fun b hb => by
    obtain ⟨p, hp, e⟩ := List.mem_map.mp hb
    rw [← e]
    exact atT p hp
  have tbK' : ∀ b, b ∈ tbs → K.lookup b = none := fun b hb => by
    obtain ⟨p, hp, e⟩ := List.mem_map.mp hb
    rw [← e]
    exact offT p hp
  have aoff : a ∉ tbs := fun z => by
    have y := tbObj a z
    rw [ha] at y
    have y2 := congrArg Obj.data (Option.some.inj y)
    cases y2
  -- whatever is neither a list nor an empty record is not tracked
  have untr : ∀ {b : Addr} {o : Obj}, t.heap.get? b = some o → (∀ its m, o.data ≠ .seq its m) → o.data ≠ .fields #[] → H b = none := fun {b o} e n1 n2 => by
    rcases H1_cases (K := K) (tbs := tbs) (a := a) (so := so) (xs := ns.map V.int) b with ⟨y, _⟩ | ⟨_, y, _, _⟩ | ⟨_, _, y⟩
    · rw [tbObj b y] at e
      cases e
      exact absurd rfl n2
    · rw [y, ha] at e
      cases e
      exact absurd rfl (n1 _ _)
    · exact y
  have inK : ∀ {b : Addr} {o : Obj}, K.lookup b = some o → H b = none := fun {b o} e => by
    rcases H1_cases (K := K) (tbs := tbs) (a := a) (so := so) (xs := ns.map V.int) b with ⟨y, _⟩ | ⟨_, y, z, _⟩ | ⟨_, _, y⟩
    · rw [tbK' b y] at e
      cases e
    · rw [y, z] at e
      cases e
    · exact y
  have keepNs : ∀ {b : Addr} {m : Str → Option Value}, t.heap.Ns b m → (hidT t.heap H).Ns b m := fun {b m} ⟨o, es, ep, e, d, r⟩ => ⟨o, es, ep, hidT_get e (untr e (fun _ _ z => by rw [d] at z; cases z) fun z => by rw [d] at z; cases z), d, r⟩
  have kinB : K.In (hidT t.heap H) := fun b o e => hidT_get (kin b o e) (inK e)
  have md : L2.Mod K mg (hidT t.heap H) := by
    obtain ⟨mc, c1, c2⟩ := lim
    exact ⟨kinB, keepNs gns, ⟨mb, keepNs bns, bok⟩, ⟨mc, keepNs c1, c2⟩⟩
  have tabs : ∀ p ∈ cs, TabB (hidT t.heap H) mg p.1 p.2 := fun p hp => by
    refine ⟨?_, ?_, fun z => ?_⟩
    · obtain ⟨o, us, file, tf, flags, tg, inF, text, tt, e, c1, c2, c3, c4, c5, c6, c7, c8, c9⟩ := hd p hp
      refine ⟨o, us, file, tf, flags, tg, inF, text, tt, hidT_get e (untr e (fun _ _ z => by rw [c2] at z; cases z) fun z => ?_), c1, c2, c3, c4, c5, c6, c7, c8, c9⟩
      rw [c2] at z
      cases z
      simp at c3
    · obtain ⟨b, ob, b1, b2, b3, b4, b5, b6⟩ := bm
      have nG : b ≠ mainGlobals := fun z => by
        obtain ⟨o, es, ep, e, d, _⟩ := gns
        rw [z, e] at b3
        cases b3
        rw [d] at b6
        cases b6
      have nP : b ≠ p.2 := fun z => by
        rw [z, atT p hp] at b3
        cases b3
        cases b6
      exact ⟨b, ob, b1, b2, nG, nP, hidT_get b3 (untr b3 (fun _ _ z => by rw [b6] at z; cases z) fun z => by rw [b6] at z; cases z), b4, b5, b6⟩
    · obtain ⟨o, es, ep, e, d, _⟩ := gns
      rw [z, atT p hp] at e
      cases e
      cases d
  have hok : HOk P w H t.heap := fun b u e => by
    rcases H1_cases (K := K) (tbs := tbs) (a := a) (so := so) (xs := ns.map V.int) b with ⟨y, z⟩ | ⟨_, y, _, z⟩ | ⟨_, _, z⟩
    · have e : H1 K tbs a so (ns.map V.int) b = some u := e
      rw [z] at e
      cases e
      exact tbObj b y
    · have e : H1 K tbs a so (ns.map V.int) b = some u := e
      rw [z] at e
      cases e
      rw [y]
      exact ⟨ha, by rw [List.length_map]; exact hl, vs, _, rel, ha⟩
    · have e : H1 K tbs a so (ns.map V.int) b = some u := e
      rw [z] at e
      cases e
  have scr : SqL K H a (ns.map V.int) := by
    cases hk : K.lookup a with
    | some o =>
      have e := kin a o hk
      rw [ha] at e
      cases e
      exact .inr ⟨_, vs.toArray, _, hk, rfl, rfl, rfl, by rw [List.size_toArray, lenV]; exact hl, by simpa using rel⟩
    | none => exact .inl (.inr ⟨so, (if_neg aoff).trans (if_pos ⟨rfl, hk⟩)⟩)
  have e0 : Env0 P w K mg (hidT t.heap H) callerA [] t H := ⟨rfl, md, fun b o e => of_hidT e, Nat.le_of_eq (hidT_size _ _), trivial, fun b hb => absurd (show b ∈ ([] : List Addr) from hb) (by simp), hok, .of_eq gen⟩
  have onlyT : ∀ b ps, H b = some (.tbl ps) → b ∈ tbs := fun b ps e => by
    rcases H1_cases (K := K) (tbs := tbs) (a := a) (so := so) (xs := ns.map V.int) b with ⟨y, _⟩ | ⟨_, _, _, z⟩ | ⟨_, _, z⟩
    · exact y
    · have e : H1 K tbs a so (ns.map V.int) b = some (.tbl ps) := e
      rw [z] at e
      cases e
    · have e : H1 K tbs a so (ns.map V.int) b = some (.tbl ps) := e
      rw [z] at e
      cases e
  refine codeAny_mono ((F _ kinB (keepNs gns) tabs).run callerA [] t H ⟨[.ref a], []⟩ [.ref a] [.ref a] _ _ hr rfl e0 (hbind t (.ref a) kin) (.cons rfl .nil) rfl (hsp H (fun p hp => H1_tb (List.mem_map.mpr ⟨p, hp, rfl⟩)) onlyT scr)) fun r s' h => ?_
  cases r with
  | error e =>
    obtain ⟨_, _, _, _, _, _, _, _, _, _, _, _, z⟩ := h
    exact z.elim
  | ok fl =>
    cases fl with
    | next => exact False.elim h
    | brk => exact False.elim h
    | cont => exact False.elim h
    | ret u =>
      obtain ⟨v, G, os, bare, un, okG, rv, q⟩ := h
      have q : v = .bl true := q
      subst q
      obtain rfl : u = Value.bool true := rv
      have stays : ∀ b o, b ∉ tbs → t.heap.get? b = some o → s'.heap.get? b = some o := fun b o nb e => by
        rcases H1_cases (K := K) (tbs := tbs) (a := a) (so := so) (xs := ns.map V.int) b with ⟨y, _⟩ | ⟨_, y, _, z⟩ | ⟨_, _, z⟩
        · exact absurd y nb
        · have z2 := un.frzs b so _ z
          obtain ⟨e1, _⟩ := hok b _ z
          obtain ⟨e2, _⟩ := okG b _ z2
          rw [e] at e1
          cases e1
          exact e2
        · exact un.keep b o e z (fun y => by cases y) (by simp)
      have grows : ∀ p ∈ cs, ∃ more : Array Value, s'.heap.get? p.2 = some { cls := .none, data := .fields more } := fun p hp => by
        obtain ⟨more, z⟩ := un.tbls p.2 #[] (H1_tb (List.mem_map.mpr ⟨p, hp, rfl⟩))
        exact ⟨_, okG p.2 _ z⟩
      refine ⟨rfl, ⟨fun b o e => ?_, fun b o e => ?_⟩, os, bare⟩
      · by_cases hb : b ∈ tbs
        · obtain ⟨p, hp, ep⟩ := List.mem_map.mp hb
          obtain ⟨more, m⟩ := grows p hp
          rw [← ep] at e ⊢
          rw [atT p hp] at e
          cases e
          exact .inr (.inl ⟨((hd p hp).tab (atT p hp)).isCodeTable, rfl, #[], more, rfl, by rw [Array.empty_append]; exact m⟩)
        · exact .inl (stays b o hb e)
      · by_cases hb : b ∈ tbs
        · obtain ⟨p, hp, ep⟩ := List.mem_map.mp hb
          obtain ⟨more, m⟩ := grows p hp
          rw [← ep]
          exact ⟨_, m⟩
        · exact ⟨o, stays b o hb e⟩
end DL
end
-- DLLaw
section
set_option maxHeartbeats 4000000
namespace DL
open PySem PySem.Spec L2
open LamX PyProof.Rows
/-! ### the Hook: one Bool -/
/-- where we look: the objects of the top's run -/
def asD (_ : Addr → Option Obj) (n : Nat) : List Addr := mainGlobals :: cStatics :: List.range n
def tabObjB (o : Option Obj) : Bool := match o with
  | some ⟨.none, none, .fields vs, sl⟩ => vs.isEmpty && sl.isEmpty
  | _ => false
theorem tabObjB_ok {o : Option Obj} (h : tabObjB o = true) : o = some { cls := .none, data := .fields #[] } := by
  unfold tabObjB at h
  split at h
  · rename_i vs sl
    rw [Bool.and_eq_true, Array.isEmpty_iff, Array.isEmpty_iff] at h
    rw [h.1, h.2]
  · cases h
def K0 (g : Addr → Option Obj) (n : Nat) : PySem.W.Frag := He.frG g (asD g n)
def K1 (P : Pg) (g : Addr → Option Obj) (n : Nat) : PySem.W.Frag := (K0 g n).filter fun p => !((tbK P (K0 g n)).map (·.2)).contains p.1
theorem lookup_filter {α β : Type} [BEq α] [LawfulBEq α] {p : α → Bool} {a : α} {b : β} : ∀ (l : List (α × β)), (l.filter fun q => p q.1).lookup a = some b → l.lookup a = some b
  | [], h => by cases h
  | (x, y) :: l, h => by
    rw [List.filter_cons] at h
    by_cases hx : p x = true
    · rw [if_pos hx] at h
      cases q : (a == x) with
      | true =>
        simp only [List.lookup, q] at h ⊢
        exact h
      | false =>
        simp only [List.lookup, q] at h ⊢
        exact lookup_filter l h
    · rw [if_neg hx] at h
      have ih := lookup_filter l h
      cases q : (a == x) with
      | true =>
        have e : a = x := eq_of_beq q
        exfalso
        have key : ∀ (l : List (α × β)), (l.filter fun q => p q.1).lookup a ≠ some b := fun l => by
          induction l with
          | nil => intro z; cases z
          | cons r l ih2 =>
            intro z
            rw [List.filter_cons] at z
            by_cases hr : p r.1 = true
            · rw [if_pos hr] at z
              cases q2 : (a == r.1) with
              | true =>
                rw [← e, eq_of_beq q2] at hx
                exact hx hr
              | false =>
                obtain ⟨r1, r2⟩ := r
                simp only [List.lookup, q2] at z
                exact ih2 z
            · rw [if_neg hr] at z
              exact ih2 z
        exact key l h
      | false =>
        simp only [List.lookup, q]
        exact ih
theorem K1_in {P : Pg} {h : Heap} {n : Nat} : (K1 P h.get? n).In h := fun b o e => by
  have q : (K0 h.get? n).lookup b = some o := lookup_filter (p := fun a : Addr => !((tbK P (K0 h.get? n)).map (fun r : Addr × Addr => r.2)).contains a) (K0 h.get? n) e
  exact He.frG_in (as := asD h.get? n) b o q
def fcObj {α : Type} (o : Obj) (k : Obj → α) : α := match o with
  | ⟨a, b, c, d⟩ => k ⟨a, b, c, d⟩
theorem fcObj_eq {α : Type} (o : Obj) (k : Obj → α) : fcObj o k = k o := by
  cases o
  rfl
def fcNat {α : Type} (n : Nat) (k : Nat → α) : α := match n with
  | 0 => k 0
  | m + 1 => k (m + 1)
theorem fcNat_eq {α : Type} (n : Nat) (k : Nat → α) : fcNat n k = k n := by
  cases n <;> rfl
/-- the fragment, told in full -/
def fcFr {α : Type} : PySem.W.Frag → (PySem.W.Frag → α) → α
  | [], k => k []
  | (a, o) :: r, k => fcNat a fun a => fcObj o fun o => fcFr r fun r => k ((a, o) :: r)
theorem fcFr_eq {α : Type} : ∀ (K : PySem.W.Frag) (k : PySem.W.Frag → α), fcFr K k = k K
  | [], _ => rfl
  | (a, o) :: r, k => by
    show fcNat a (fun a => fcObj o fun o => fcFr r fun r => k ((a, o) :: r)) = _
    rw [fcNat_eq, fcObj_eq, fcFr_eq r]
def okG (P : Pg) (prog : Program) (n : Nat) (g : Addr → Option Obj) : Bool := okK P prog (K1 P g n) && (tbK P (K1 P g n)).all fun p => tabObjB (g p.2) && ((K1 P g n).lookup p.2).isNone
/-- the check in parts: all but the defs; the defs from one on -/
def okG1 (P : Pg) (prog : Program) (n : Nat) (g : Addr → Option Obj) : Bool := fcFr (K1 P g n) fun K => okR P prog K && (tbK P K).all fun p => tabObjB (g p.2) && (K.lookup p.2).isNone
def okG2 (P : Pg) (lo hi : Nat) (n : Nat) (g : Addr → Option Obj) : Bool := fcFr (K1 P g n) fun K => ((P.fns.drop lo).take (hi - lo)).all (fnK P K)
theorem okG_split {P : Pg} {prog : Program} {n : Nat} {g : Addr → Option Obj} (h1 : okG1 P prog n g = true) (h2 : okG2 P 0 P.fns.length n g = true) : okG P prog n g = true := by
  unfold okG1 at h1
  unfold okG2 at h2
  rw [fcFr_eq] at h1 h2
  rw [Bool.and_eq_true] at h1
  unfold okG
  rw [okK_split, Bool.and_eq_true, Bool.and_eq_true]
  have e : (P.fns.drop 0).take (P.fns.length - 0) = P.fns := by simp
  rw [e] at h2
  exact ⟨⟨h1.1, h2⟩, h1.2⟩
theorem okG2_join {P : Pg} {a b c n : Nat} {g : Addr → Option Obj} (hab : a ≤ b) (hbc : b ≤ c) (h1 : okG2 P a b n g = true) (h2 : okG2 P b c n g = true) : okG2 P a c n g = true := by
  unfold okG2 at *
  rw [fcFr_eq] at *
  have e : (P.fns.drop a).take (c - a) = (P.fns.drop a).take (b - a) ++ (P.fns.drop b).take (c - b) := by
    have e1 : c - a = (b - a) + (c - b) := by omega
    rw [e1, List.take_add, List.drop_drop, show a + (b - a) = b by omega]
  rw [e, List.all_append, h1, h2]
  rfl
/-- the run's equation, in parts -/
theorem run_parts {α β σ : Type} {o : Option σ} {f : σ → α} {g : σ → β} {h1 ob : σ → Bool} {a : α} {b : β} (hs : ∀ s, o = some s → h1 s = true → ob s = true) (r1 : o.map (fun s => (f s, g s, h1 s)) = some (a, b, true)) : o.map (fun s => (f s, g s, ob s)) = some (a, b, true) := by
  cases o with
  | none => cases r1
  | some s =>
    have e : (f s, g s, h1 s) = (a, b, true) := Option.some.inj r1
    simp only [Prod.mk.injEq] at e
    show some (f s, g s, ob s) = _
    rw [e.1, e.2.1, hs s rfl e.2.2]
theorem run_at {σ : Type} {o : Option σ} {f : σ → Bool} (r : o.map f = some true) {s : σ} (e : o = some s) : f s = true := by
  subst e
  exact Option.some.inj r
def hkK (P : Pg) (prog : Program) (n : Nat) : PySem.W.Hook where
  α := Bool
  obs := fun s => okG P prog n s.heap.get?
  val := fun _ => true
  says := fun _ h => ∃ K : PySem.W.Frag, K.In h ∧ okK P prog K = true ∧ ∀ p ∈ tbK P K, h.get? p.2 = some { cls := .none, data := .fields #[] } ∧ K.lookup p.2 = none
  of := fun _ s e => by
    have e : okG P prog n s.heap.get? = true := e
    unfold okG at e
    rw [Bool.and_eq_true] at e
    refine ⟨K1 P s.heap.get? n, K1_in, e.1, fun p hp => ?_⟩
    have q := List.all_eq_true.mp e.2 p hp
    rw [Bool.and_eq_true] at q
    exact ⟨tabObjB_ok q.1, Option.isNone_iff_eq_none.mp q.2⟩
  keeps := fun _ h h' ⟨K, a, b, c⟩ k => ⟨K, PySem.W.Frag.In.keeps a k, b, fun p hp => ⟨k _ _ (c p hp).1, (c p hp).2⟩⟩
theorem okG_eq {P : Pg} {prog : Program} {n : Nat} {g : Addr → Option Obj} {s : Shared} (h : ∀ a, g a = s.heap.get? a) : okG P prog n g = (hkK P prog n).obs s := by
  have e : g = s.heap.get? := funext h
  rw [e]
  rfl
/-! ### a law by its table -/
theorem tabs_empty {T : List (Addr × Str)} {H : Hp} (h : ∀ p ∈ T, H p.1 = some (.tbl #[])) : Tabs T H := fun p hp => ⟨#[], h p hp, by first | trivial | decide | exact True.intro | (unfold TriplesOk; trivial), fun pos cv e => by
  simp [codeAmong] at e⟩
theorem law_walk {l : PySem.W.OpenLaw} {P : Pg} {m n : Nat} {q : Program} {loose : List Str} {XP : (Str → Option Value) → Heap → Prop} {d : DefRec} {jl depth : Nat} {fl : Fn} {x : Str}
    (hn : l.most = some n) (hn2 : n ≤ sizeLine) (hdf : d.params.defaults = []) (hr : Room (8 * depth) callerA) (ej : P.fns[jl]? = some fl) (hk : fl.kind = .fn) (hat : fl.at_ = (d.name, none)) (hps : fl.ps = [x]) (hsh : (1, ([] : List Str)) ∈ fl.shapes)
    (plain : ∀ ns : List Int, ns.length ≤ n → (∀ z ∈ ns, Builtin.Int.intBits z ≤ 1048576) → ∃ S, (fsN P depth).fn jl [.scr (ns.map D.int)] [] = .ok (.bl true) S) :
    PySem.W.WalkO q loose XP (hkK P l.prog m).says l.row.toRowW d [] (fun f vs => PySem.call f vs) := by
  refine Att.attach_callB hn hdf fun w s₀ t mg mb fa o pm cd doc a vs ns G Y ho hd hcd hmg hobj hints hlen hbits hg => ?_
  obtain ⟨K, kin, ok, tb⟩ := Y
  have faE : fa = faK P K jl := by
    have st := ok_stat (w := w) ok kin G.T.g
    have q := st.fg jl fl ej (by rw [hat])
    rw [hat] at q
    rw [hmg] at q
    cases q
    rfl
  have lamOk : ∀ p ∈ tbK P K, PySem.W.CodeHd t.heap p.1 p.2 := fun p hp => by
    obtain ⟨r, hr, rfl⟩ := List.mem_map.mp hp
    unfold csK at hr
    rw [List.mem_filterMap] at hr
    obtain ⟨j, hj, e⟩ := hr
    cases ef : P.fns[j]? with
    | none =>
      rw [ef] at e
      cases e
    | some f =>
      rw [ef] at e
      dsimp only at e
      by_cases hl : f.lam = true
      · rw [if_pos hl] at e
        obtain ⟨fd, b, F⟩ := ok_fn ok ef
        have q := F.lm hl
        unfold lamK at q
        rw [F.eq] at e
        cases ta : tabAt K fd.code with
        | none =>
          rw [ta] at e
          cases e
        | some p =>
          rw [ta] at e q
          cases e
          rw [Bool.and_eq_true] at q
          exact codeHdB_ok kin q.1
      · rw [if_neg hl] at e
        cases e
  rw [faE]
  refine law_callG (k := 8 * depth) (cs := tbK P K) (fd := fdK P K jl) (x := x) (sp := spD (ctK P K) ((fsN P depth).fn jl)) kin G.T.g G.T.b G.T.builtins G.T.nolimit hg (fun p hp => (tb p hp).1) (fun p hp => (tb p hp).2) lamOk G.T.bmain hobj hints (Nat.le_trans hlen hn2) hr (fun base kb nb tbb => ?_) (fun s u ks => ?_) (fun H hH onlyT hS => ?_)
  · have q := (dyn_all (ok_bods ok tbb) (ok_stat (prog := l.prog) (w := w) ok kb nb) (ok_hrd ok) depth).fn jl fl ej hk
    rw [hps] at q
    exact q
  · have q := (ok_stat (w := w) ok kin G.T.g).bo jl fl _ ej hsh
    rw [hk, hps] at q
    exact q s [u] [] [u] ks rfl rfl rfl
  · obtain ⟨S, e⟩ := plain ns hlen hbits
    let W : Wd := ⟨fun b => match H b with
      | some (.tbl _) => none
      | r => r, []⟩
    have Wg : ∀ b u, W.G b = some u → H b = some u := fun b u z => by
      have z : (match H b with
        | some (.tbl _) => none
        | r => r) = some u := z
      split at z
      · cases z
      · exact z
    refine ⟨W, [.scr (ns.map D.int)], [], ⟨Wg, rfl, List.nodup_nil, fun i b x e1 e2 => by simp at e2, tabs_empty fun p hp => ?_, fun b ps z => ?_, fun b ps z => ?_⟩, ?_, ?_⟩
    · obtain ⟨r, hr, rfl⟩ := List.mem_map.mp hp
      exact hH (r.1, r.2.1) (List.mem_map.mpr ⟨r, hr, rfl⟩)
    · have y := Wg b _ z
      have z : (match H b with
        | some (.tbl _) => none
        | r => r) = some (.tbl ps) := z
      rw [y] at z
      cases z
    · obtain ⟨r, hr, er⟩ := List.mem_map.mp (onlyT b ps z)
      obtain ⟨r', hr', rfl⟩ := List.mem_map.mp hr
      have er : r'.2.1 = b := er
      exact ⟨r'.2.2, List.mem_map.mpr ⟨r', hr', by rw [er]⟩⟩
    · refine DenL.cons ?_ DenL.nil
      unfold Den
      refine ⟨a, ns.map V.int, rfl, ?_, ?_⟩
      · rcases hS with z | z
        · left
          rcases z with z | ⟨o', z⟩
          · left
            show (match H a with
              | some (.tbl _) => none
              | r => r) = _
            rw [z]
          · right
            refine ⟨o', ?_⟩
            show (match H a with
              | some (.tbl _) => none
              | r => r) = _
            rw [z]
        · exact .inr z
      · clear hlen hbits e hints hS
        induction ns with
        | nil => exact DenL.nil
        | cons z zs ih => exact DenL.cons of_int ih
    · rw [e]
      intro W' H' st r v dv
      exact den_bl dv
end DL
end
-- PIx0
section
set_option maxHeartbeats 4000000
namespace DL
open PySem PySem.Spec L2
/-- where the program's own defs and classes stand in a law's table -/
structure Ix where
  (isInt isHeap needHeap comMul needPart rested sized fixed down fStands dStands fLeft dLeft fTaken dTaken leaving fEq dEq restText fStr dStr fOrder dOrder comMod inOrd bInit bOf lefts takes rulesOf bOr bAnd bSub bXor bEq bLen bBool bIn bPart bPlain : Nat := 0)
  (cRule cRested cSized cFixed cDown cBook eFree eRule eSize eTake eBook eMany eNum : Nat := 0)
end DL
end
-- T08
section
set_option maxHeartbeats 4000000
namespace K08
open DL PySem PySem.Spec L2
-- defs: 0 law, 1 Book.__len__, 2 _law_pen, 3 _law_form, 4 _law_whole_right, 5 _law_finer_right, 6 _law_leave_right, 7 _law_pick, 8 _law_draw, 9 _law_rule, 10 Book.of, 11 Book.__init__, 12 _law_heaps, 13 Book.takes, 14 Fixed.stands_at, 15 Down.stands_at, 16 Fixed.left_at, 17 Down.left_at, 18 Fixed.taken_at, 19 Down.taken_at, 20 Book.lefts, 21 Fixed.__init__, 22 Fixed.leaving, 23 Down.__init__, 24 common_modulus, 25 in_order, 26 need_heap, 27 Sized.__init__, 28 Rested.__init__, 29 need_part, 30 common_multiple, 31 Fixed.number_in_order, 32 Down.number_in_order, 33 is_heap, 34 is_integer
-- classes: 0 Book, 1 Fixed, 2 Down, 3 BadBook, 4 Rule, 5 TooMany, 6 NoTake, 7 Sized, 8 Rested, 9 BadSize, 10 BadRule, 11 FreeError
def ix : Ix := { bLen := 1, bOf := 10, bInit := 11, takes := 13, fStands := 14, dStands := 15, fLeft := 16, dLeft := 17, fTaken := 18, dTaken := 19, lefts := 20, fixed := 21, leaving := 22, down := 23, comMod := 24, inOrd := 25, needHeap := 26, sized := 27, rested := 28, needPart := 29, comMul := 30, fOrder := 31, dOrder := 32, isHeap := 33, isInt := 34, cBook := 0, cFixed := 1, cDown := 2, eBook := 3, cRule := 4, eMany := 5, eTake := 6, cSized := 7, cRested := 8, eSize := 9, eRule := 10, eFree := 11 }
def t_law_b0 : List RS := [
  .asg 3 (.call 3 [.var 1] [] []),
  .ifs (.or [.not (.call 4 [.var 1, .var 3] [] []), .not (.call 5 [.var 1, .var 3] [] []), .not (.call 6 [.var 1, .var 3] [] [])]) [.ret (.bl false)] []]
def t_law : List RS := [
  .asg 1 (.call 2 [.var 0] [] []),
  .for_ 2 (.rng (.int 6)) t_law_b0,
  .ret (.bl true)]
def t_Book_len : List RS := [
  .ret (.bi .len [.fld (.var 0) "rules"])]
def t__law_pen : List RS := [
  .ret (.box [.bi .list [.cut (.var 0) none (some (.int 63))], .int 0, .int 0])]
def t__law_form : List RS := [
  .asg 1 (.call 7 [.var 0, .lst [.int 3, .int 9, .int 399]] [] []),
  .ret (.tup [.call 8 [.var 0, .int 2] [] [], .bin .Add (.int 1) (.call 8 [.var 0, .var 1] [] []), .call 7 [.var 0, .lst [.int 0, .int 0, .int 1, .call 8 [.var 0, .var 1] [] []]] [] []])]
def t__law_whole_right_b0 : List RS := [
  .ifs (.or [.cmp .NotEq (.meth (.var 2) "takes" [.var 4] [] []) (.meth (.var 3) "takes" [.var 4] [] []), .cmp .NotEq (.o1 .len (.meth (.var 2) "takes" [.var 4] [] [])) (.bi .int [.meth (.var 5) "stands_at" [.var 4] [] []])]) [.ret (.bl false)] [],
  .ifs (.and [.meth (.var 5) "stands_at" [.var 4] [] [], .cmp .NotEq (.bin .Add (.meth (.var 5) "left_at" [.var 4] [] []) (.meth (.var 5) "taken_at" [.var 4] [] [])) (.var 4)]) [.ret (.bl false)] []]
def t__law_whole_right : List RS := [
  .unp [5, 6] (.tup [.call 9 [.var 1, .int 0, .int 1] [] [], .bin .Add (.int 1) (.call 8 [.var 0, .int 6] [] [])]),
  .asg 2 (.cm ix.cBook "of" ix.bOf false [.lc (.call 9 [.var 1, .var 7, .var 6] [] []) 7 .rng (.var 6) none]),
  .asg 3 (.mkS ix.cBook [.var 5]),
  .for_ 4 (.lst (.call 12 [.var 0, .var 5] [] [])) t__law_whole_right_b0,
  .ret (.and [.cmp .Eq (.o1 .len (.var 2)) (.var 6), .cmp .Eq (.fld (.var 2) "start") (.fld (.var 5) "start"), .cmp .Eq (.fld (.var 2) "reach") (.fld (.var 3) "reach")])]
def t__law_finer_right_b0 : List RS := [
  .ifs (.cmp .NotEq (.meth (.var 5) "lefts" [.var 7] [] []) (.meth (.mkS ix.cBook [.var 6]) "lefts" [.var 7] [] [])) [.ret (.bl false)] []]
def t__law_finer_right : List RS := [
  .asg 2 (.bin .Add (.int 1) (.call 8 [.var 0, .int 3] [] [])),
  .asg 3 (.call 7 [.var 0, .idx (.lst [.lst [.int 2, .int 3, .int 4, .int 5, .int 6], .lst [.int 2, .int 3], .lst [.int 2]]) (.bin .Sub (.var 2) (.int 1))] [] []),
  .asg 4 (.call 8 [.var 0, .var 2] [] []),
  .asg 5 (.cm ix.cBook "of" ix.bOf false [.lc (.call 9 [.var 1, .bin .Add (.var 4) (.bin .Mult (.var 2) (.var 8)), .bin .Mult (.var 2) (.var 3)] [] []) 8 .rng (.var 3) none]),
  .asg 6 (.call 9 [.var 1, .var 4, .var 2] [] []),
  .for_ 7 (.lst (.call 12 [.var 0, .var 6] [] [])) t__law_finer_right_b0,
  .ret (.bl true)]
def t__law_leave_right_b0 : List RS := [
  .ifs (.cmp .NotEq (.meth (.var 4) "stands_at" [.var 5] [] []) (.and [.meth (.var 3) "stands_at" [.var 5] [] [], .cmp .GtE (.meth (.var 3) "left_at" [.var 5] [] []) (.var 7)])) [.ret (.bl false)] []]
def t__law_leave_right : List RS := [
  .asg 2 (.bin .Add (.int 1) (.call 8 [.var 0, .int 6] [] [])),
  .par [6, 7] [.call 8 [.var 0, .var 2] [] [], .call 8 [.var 0, .int 12] [] []],
  .asg 3 (.mk ix.cFixed [.idx (.var 1) (.int 1), .var 6, .var 2] [] []),
  .asg 4 (.meth (.var 3) "leaving" [.var 7] [] []),
  .for_ 5 (.lst (.call 12 [.var 0, .var 4] [] [])) t__law_leave_right_b0,
  .ret (.cmp .Eq (.fld (.var 4) "start") (.bin .Add (.fld (.var 3) "start") (.var 7)))]
def t__law_pick : List RS := [
  .ret (.idx (.var 1) (.call 8 [.var 0, .bi .len [.var 1]] [] []))]
def t__law_draw : List RS := [
  .ifs (.cmp .Gt (.idx (.var 0) (.int 2)) (.int 0)) [.asg 5 (.bin .Mod (.bi .int [.idx (.var 0) (.int 2)]) (.var 1)), .setB 0 (.int 2) (.bin .FloorDiv (.bi .int [.idx (.var 0) (.int 2)]) (.var 1)), .ret (.var 5)] [],
  .asg 2 (.idx (.var 0) (.int 1)),
  .setB 0 (.int 1) (.bin .Add (.var 2) (.int 1)),
  .asg 3 (.bin .Add (.bin .Mult (.int 91305) (.var 2)) (.int 2091)),
  .ifs (.cmp .NotEq (.idx (.var 0) (.int 0)) (.lst [])) [.asg 3 (.idx (.idx (.var 0) (.int 0)) (.bin .Mod (.bi .int [.var 2]) (.bi .len [.idx (.var 0) (.int 0)])))] [],
  .ifs (.and [.cmp .Lt (.var 2) (.bi .len [.idx (.var 0) (.int 0)]), .cmp .GtE (.bi .abs [.var 3]) (.bin .Pow (.int 10) (.int 18))]) [.asg 6 (.bin .Add (.bin .Mult (.int 2) (.bin .Sub (.bi .abs [.var 3]) (.bin .Pow (.int 10) (.int 18)))) (.bi .int [.cmp .Lt (.var 3) (.int 0)])), .setB 0 (.int 2) (.bin .FloorDiv (.bi .int [.var 6]) (.var 1)), .ret (.bin .Mod (.bi .int [.var 6]) (.var 1))] [],
  .asg 4 (.bin .Mod (.bi .int [.bin .Pow (.bin .Add (.bin .Add (.bin .Mod (.bi .int [.var 3]) (.int 2147483587)) (.bin .Mult (.int 91292) (.var 2))) (.int 2096)) (.int 5)]) (.int 2147483563)),
  .asg 4 (.bin .Mod (.bi .int [.bin .Pow (.bin .Add (.bin .Add (.bin .Mult (.var 4) (.bin .Add (.bin .Mult (.int 2) (.var 2)) (.int 117))) (.bin .Mult (.bin .Mult (.int 60149) (.var 2)) (.var 2))) (.int 1191)) (.int 3)]) (.int 2147483497)),
  .ret (.bin .Mod (.bi .int [.bin .FloorDiv (.var 4) (.int 32)]) (.var 1))]
def t__law_rule : List RS := [
  .ret (.ite (.cmp .Eq (.idx (.var 0) (.int 0)) (.int 0)) (.mk ix.cDown [.idx (.var 0) (.int 1), .var 1, .var 2] [] []) (.mk ix.cFixed [.idx (.var 0) (.int 1), .var 1, .var 2] ["leave"] [.idx (.var 0) (.int 2)]))]
def t_Book_of : List RS := [
  .ifs (.not (.bi .isinst [.var 1, .tup [.gty "list" "list", .gty "tuple" "tuple"]])) [.raise 3 [.non]] [],
  .ret (.mkV 0 (.var 1))]
def t_Book_init : List RS := [
  .forE 3 2 (.var 1) [.ifs (.not (.bi .isinst [.var 2, .gcls "Rule" 4])) [.raise 3 [.var 3]] []],
  .setF "modulus" (.call 24 [.var 1] [] []),
  .setF "rules" (.call 25 [.var 1] [] []),
  .ifs (.cmp .Gt (.bi .len [.sfld "rules"]) (.gint "MOST_RULES" 400)) [.raise 5 [.str "rules", .gint "MOST_RULES" 400]] [],
  .setF "start" (.int 0),
  .setF "reach" (.int 0),
  .for_ 2 (.tup (.sfld "rules")) [.setF "start" (.bi .max [.bi .int [.sfld "start"], .bi .int [.fld (.var 2) "start"]]), .setF "reach" (.bi .max [.bi .int [.sfld "reach"], .bi .int [.fld (.var 2) "reach"]])]]
def t__law_heaps : List RS := [
  .asg 2 (.bi .max [.int 0, .bin .Sub (.bi .int [.fld (.var 1) "start"]) (.int 3)]),
  .ret (.bin .Add (.lrng (.var 2) (.bin .Add (.var 2) (.int 14))) (.lst [.call 8 [.var 0, .bin .Pow (.int 10) (.int 30)] [] [], .int 0, .bin .Pow (.int 10) (.int 30)]))]
def t_Book_takes : List RS := [
  .ret (.bi .tuple [.lc (.bin .Sub (.var 1) (.var 2)) 2 .tup (.rev (.meth (.var 0) "lefts" [.var 1] [] [])) none])]
def t_Fixed_stands_at : List RS := [
  .expr (.call 26 [.var 1] [] []),
  .ret (.and [.cmp .GtE (.var 1) (.fld (.var 0) "start"), .cmp .Eq (.bin .Mod (.var 1) (.fld (.var 0) "modulus")) (.fld (.var 0) "rest")])]
def t_Down_stands_at : List RS := [
  .expr (.call 26 [.var 1] [] []),
  .ret (.and [.cmp .GtE (.var 1) (.fld (.var 0) "start"), .cmp .Eq (.bin .Mod (.var 1) (.fld (.var 0) "modulus")) (.fld (.var 0) "rest")])]
def t_Fixed_left_at : List RS := [
  .ifs (.not (.meth (.var 0) "stands_at" [.var 1] [] [])) [.raise 6 [.var 1]] [],
  .ret (.bin .Sub (.var 1) (.fld (.var 0) "size"))]
def t_Down_left_at : List RS := [
  .ifs (.not (.meth (.var 0) "stands_at" [.var 1] [] [])) [.raise 6 [.var 1]] [],
  .ret (.fld (.var 0) "to")]
def t_Fixed_taken_at : List RS := [
  .ret (.bin .Sub (.var 1) (.meth (.var 0) "left_at" [.var 1] [] []))]
def t_Down_taken_at : List RS := [
  .ret (.bin .Sub (.var 1) (.meth (.var 0) "left_at" [.var 1] [] []))]
def t_Book_lefts : List RS := [
  .expr (.call 26 [.var 1] [] []),
  .asg 2 (.dc (.meth (.var 3) "left_at" [.var 1] [] []) (.bl true) 3 .tup (.fld (.var 0) "rules") (some (.meth (.var 3) "stands_at" [.var 1] [] []))),
  .ret (.bi .tuple [.o1 .sorted (.lcK (.bi .int [.var 4]) 4 2)])]
def t_Fixed_init : List RS := [
  .sup 7 27 [.var 1, .var 4],
  .sup 8 28 [.var 2, .var 3],
  .setF "start" (.bin .Add (.var 1) (.var 4)),
  .setF "reach" (.var 1)]
def t_Fixed_leaving : List RS := [
  .ret (.mk 1 [.fld (.var 0) "size", .fld (.var 0) "rest", .fld (.var 0) "modulus", .var 1] [] [])]
def t_Down_init : List RS := [
  .expr (.call 29 [.var 1, .int 0, .gint "MOST_NUMBER" 400, .str "to"] [] []),
  .sup 8 28 [.var 2, .var 3],
  .setF "to" (.var 1),
  .setF "start" (.bin .Add (.var 1) (.int 1)),
  .setF "reach" (.int 0)]
def t_common_modulus : List RS := [
  .asg 1 (.int 1),
  .for_ 2 (.tup (.var 0)) [.asg 1 (.call 30 [.var 1, .fld (.var 2) "modulus"] [] []), .ifs (.cmp .Gt (.var 1) (.gint "MOST_COMMON" 12)) [.raise 5 [.str "modulus", .gint "MOST_COMMON" 12]] []],
  .ret (.var 1)]
def t_in_order : List RS := [
  .asg 1 (.dc (.meth (.var 2) "number_in_order" [] [] []) (.var 2) 2 .tup (.var 0) none),
  .ret (.bi .tuple [.lc (.idx (.var 1) (.var 3)) 3 .lst (.o1 .sorted (.lcK (.bi .int [.var 3]) 3 1)) none])]
def t_need_heap : List RS := [
  .ifs (.not (.call 33 [.var 0] [] [])) [.raise 9 [.var 0]] []]
def t_Sized_init : List RS := [
  .expr (.call 29 [.var 1, .int 1, .gint "MOST_NUMBER" 400, .str "size"] [] []),
  .expr (.call 29 [.var 2, .int 0, .gint "MOST_NUMBER" 400, .str "leave"] [] []),
  .setF "size" (.var 1),
  .setF "leave" (.var 2)]
def t_Rested_init : List RS := [
  .expr (.call 29 [.var 2, .int 1, .gint "MOST_MODULUS" 6, .str "modulus"] [] []),
  .expr (.call 29 [.var 1, .int 0, .bin .Sub (.var 2) (.int 1), .str "rest"] [] []),
  .setF "rest" (.var 1),
  .setF "modulus" (.var 2)]
def t_need_part : List RS := [
  .ifs (.not (.call 34 [.var 0, .var 1, .var 2] [] [])) [.raise 10 [.var 3]] []]
def t_common_multiple : List RS := [
  .asg 2 (.var 0),
  .whil (.cmp .NotEq (.bin .Mod (.var 2) (.var 1)) (.int 0)) [.asg 2 (.bin .Add (.var 2) (.var 0))],
  .ret (.var 2)]
def t_Fixed_number_in_order : List RS := [
  .ret (.bin .Add (.bin .Mult (.bin .Add (.bin .Mult (.bin .Add (.bin .Mult (.fld (.var 0) "size") (.int 7)) (.fld (.var 0) "modulus")) (.int 7)) (.fld (.var 0) "rest")) (.int 1000)) (.fld (.var 0) "leave"))]
def t_Down_number_in_order : List RS := [
  .ret (.bin .Mult (.bin .Add (.bin .Mult (.bin .Add (.bin .Mult (.bin .Add (.int 1000) (.fld (.var 0) "to")) (.int 7)) (.fld (.var 0) "modulus")) (.int 7)) (.fld (.var 0) "rest")) (.int 1000))]
def t_is_heap : List RS := [
  .ret (.call 34 [.var 0, .int 0, .gint "MOST_HEAP" 1000000000000000000000000000000] [] [])]
def t_is_integer : List RS := [
  .ret (.and [.bi .isinst [.var 0, .gty "int" "int"], .not (.bi .isinst [.var 0, .gty "bool" "bool"]), .chain .LtE .LtE (.var 1) (.var 0) (.var 2)])]
def tP : Pg := {
  cls := [⟨"Book", .plain, 11, [], [0], [], ["modulus", "rules", "start", "reach"], [("__len__", 1), ("lefts", 20), ("takes", 13)], []⟩,
    ⟨"Fixed", .plain, 21, [], [1, 7, 8, 4], [], ["start", "reach", "size", "leave", "rest", "modulus"], [("leaving", 22), ("left_at", 16), ("number_in_order", 31), ("stands_at", 14), ("taken_at", 18)], []⟩,
    ⟨"Down", .plain, 23, [], [2, 8, 4], [], ["to", "start", "reach", "rest", "modulus"], [("left_at", 17), ("number_in_order", 32), ("stands_at", 15), ("taken_at", 19)], []⟩,
    ⟨"BadBook", .exc, 999, ["at"], [3, 11], [], ["at"], [], []⟩,
    ⟨"Rule", .plain, 999, [], [4], [], [], [], []⟩,
    ⟨"TooMany", .exc, 999, ["what", "most"], [5, 11], [], ["what", "most"], [], []⟩,
    ⟨"NoTake", .exc, 999, ["number"], [6, 11], [], ["number"], [], []⟩,
    ⟨"Sized", .plain, 27, [], [7, 4], [], ["size", "leave"], [], []⟩,
    ⟨"Rested", .plain, 28, [], [8, 4], [], ["rest", "modulus"], [], []⟩,
    ⟨"BadSize", .exc, 999, ["value"], [9, 11], [], ["value"], [], []⟩,
    ⟨"BadRule", .exc, 999, ["part"], [10, 11], [], ["part"], [], []⟩,
    ⟨"FreeError", .exc, 999, [], [11], [], [], [], []⟩]
  fns := [⟨("law", none), .fn, ["_law_script"], [], ["_law_script", "_law_pen_here", "_law_turn", "_law_form_here"], false, [(1, [])], t_law⟩,
    ⟨("Book", some "__len__"), .fn, ["self"], [], ["self"], false, [(1, [])], t_Book_len⟩,
    ⟨("_law_pen", none), .fn, ["_law_script"], [], ["_law_script"], false, [(1, [])], t__law_pen⟩,
    ⟨("_law_form", none), .fn, ["_law_pen_here"], [], ["_law_pen_here", "_law_most"], false, [(1, [])], t__law_form⟩,
    ⟨("_law_whole_right", none), .fn, ["_law_pen_here", "_law_form_here"], [], ["_law_pen_here", "_law_form_here", "_law_book", "_law_alone", "_law_heap", "_law_plain", "_law_many", "_law_rem"], false, [(2, [])], t__law_whole_right⟩,
    ⟨("_law_finer_right", none), .fn, ["_law_pen_here", "_law_form_here"], [], ["_law_pen_here", "_law_form_here", "_law_many", "_law_times", "_law_rem", "_law_book", "_law_rule_here", "_law_heap", "_law_k"], false, [(2, [])], t__law_finer_right⟩,
    ⟨("_law_leave_right", none), .fn, ["_law_pen_here", "_law_form_here"], [], ["_law_pen_here", "_law_form_here", "_law_many", "_law_bare", "_law_rule_here", "_law_heap", "_law_rem", "_law_spare"], false, [(2, [])], t__law_leave_right⟩,
    ⟨("_law_pick", none), .fn, ["_law_pen_here", "_law_some"], [], ["_law_pen_here", "_law_some"], false, [(2, [])], t__law_pick⟩,
    ⟨("_law_draw", none), .fn, ["_law_pen_here", "_law_many"], [], ["_law_pen_here", "_law_many", "_law_spot", "_law_cell", "_law_mixed", "_law_digit", "_law_great"], false, [(2, [])], t__law_draw⟩,
    ⟨("_law_rule", none), .fn, ["_law_form_here", "_law_rem", "_law_many"], [], ["_law_form_here", "_law_rem", "_law_many"], false, [(3, [])], t__law_rule⟩,
    ⟨("Book", some "of"), .fn, ["cls", "rules"], [], ["cls", "rules"], false, [(2, [])], t_Book_of⟩,
    ⟨("Book", some "__init__"), .inS, ["self", "rules"], [], ["self", "rules", "rule", "at"], false, [], t_Book_init⟩,
    ⟨("_law_heaps", none), .fn, ["_law_pen_here", "_law_rule_here"], [], ["_law_pen_here", "_law_rule_here", "_law_first"], false, [(2, [])], t__law_heaps⟩,
    ⟨("Book", some "takes"), .fn, ["self", "n"], [], ["self", "n", "left"], false, [(2, [])], t_Book_takes⟩,
    ⟨("Fixed", some "stands_at"), .fn, ["self", "n"], [], ["self", "n"], false, [(2, [])], t_Fixed_stands_at⟩,
    ⟨("Down", some "stands_at"), .fn, ["self", "n"], [], ["self", "n"], false, [(2, [])], t_Down_stands_at⟩,
    ⟨("Fixed", some "left_at"), .fn, ["self", "n"], [], ["self", "n"], false, [(2, [])], t_Fixed_left_at⟩,
    ⟨("Down", some "left_at"), .fn, ["self", "n"], [], ["self", "n"], false, [(2, [])], t_Down_left_at⟩,
    ⟨("Fixed", some "taken_at"), .fn, ["self", "n"], [], ["self", "n"], false, [(2, [])], t_Fixed_taken_at⟩,
    ⟨("Down", some "taken_at"), .fn, ["self", "n"], [], ["self", "n"], false, [(2, [])], t_Down_taken_at⟩,
    ⟨("Book", some "lefts"), .fn, ["self", "n"], [], ["self", "n", "found", "rule", "left"], false, [(2, [])], t_Book_lefts⟩,
    ⟨("Fixed", some "__init__"), .ini, ["self", "size", "rest", "modulus", "leave"], [("rest", .int 0), ("modulus", .int 1), ("leave", .int 0)], ["self", "size", "rest", "modulus", "leave"], false, [(3, []), (3, ["leave"]), (4, [])], t_Fixed_init⟩,
    ⟨("Fixed", some "leaving"), .fn, ["self", "leave"], [], ["self", "leave"], false, [(2, [])], t_Fixed_leaving⟩,
    ⟨("Down", some "__init__"), .ini, ["self", "to", "rest", "modulus"], [("rest", .int 0), ("modulus", .int 1)], ["self", "to", "rest", "modulus"], false, [(3, [])], t_Down_init⟩,
    ⟨("common_modulus", none), .fn, ["rules"], [], ["rules", "found", "rule"], false, [(1, [])], t_common_modulus⟩,
    ⟨("in_order", none), .fn, ["rules"], [], ["rules", "known", "rule", "number"], false, [(1, [])], t_in_order⟩,
    ⟨("need_heap", none), .fn, ["value"], [], ["value"], false, [(1, [])], t_need_heap⟩,
    ⟨("Sized", some "__init__"), .ini, ["self", "size", "leave"], [], ["self", "size", "leave"], false, [(2, [])], t_Sized_init⟩,
    ⟨("Rested", some "__init__"), .ini, ["self", "rest", "modulus"], [], ["self", "rest", "modulus"], false, [(2, [])], t_Rested_init⟩,
    ⟨("need_part", none), .fn, ["value", "least", "most", "part"], [], ["value", "least", "most", "part"], false, [(4, [])], t_need_part⟩,
    ⟨("common_multiple", none), .fn, ["one", "other"], [], ["one", "other", "found"], false, [(2, [])], t_common_multiple⟩,
    ⟨("Fixed", some "number_in_order"), .fn, ["self"], [], ["self"], false, [(1, [])], t_Fixed_number_in_order⟩,
    ⟨("Down", some "number_in_order"), .fn, ["self"], [], ["self"], false, [(1, [])], t_Down_number_in_order⟩,
    ⟨("is_heap", none), .fn, ["value"], [], ["value"], false, [(1, [])], t_is_heap⟩,
    ⟨("is_integer", none), .fn, ["value", "least", "most"], [], ["value", "least", "most"], false, [(3, [])], t_is_integer⟩]
  tys := ["bool", "int", "list", "tuple"]
  gints := [("MOST_COMMON", 12), ("MOST_HEAP", 1000000000000000000000000000000), ("MOST_MODULUS", 6), ("MOST_NUMBER", 400), ("MOST_RULES", 400)]
  frees := ["abs", "bool", "enumerate", "int", "isinstance", "len", "list", "max", "range", "sorted", "tuple"]
  cms := [(0, "of", 10, false)] }
end K08
end
-- H08
section
set_option maxHeartbeats 0
namespace K08
open PySem PySem.W PySem.Calls PyProof.Rows DL
abbrev R : OpenRow := OpenLaw.row PySem.Challenge.rw_freetakes_k08_whole_rules_by_their_rests
abbrev qv : Program := view R.prog [65]
def names : List PySem.Str := (["_wall", "FreeError", "BadRule", "BadBook", "BadSize", "BadTable", "BadNumber", "NoTake", "TooMany", "BadText", "MOST_HEAP", "is_integer", "is_heap", "need_heap", "common_multiple", "MOST_NUMBER", "MOST_MODULUS", "FIGURES_rules", "need_part", "number_in", "rest_in", "leave_in", "rule_in", "rest_text"] : List PySem.Str) ++ (["Rule", "Rested", "Sized", "Fixed", "Down", "MOST_PARTS", "MOST_WORTH", "FIRST_BOUND", "FIGURES_tables", "are_worths", "shortest_turn", "least_form", "worth_in", "rows_in", "Table", "least_missing", "grown", "begin_of", "table_in", "table_of", "MOST_RULES", "MOST_COMMON", "common_modulus", "in_order"] : List PySem.Str) ++ (["rules_of", "Book", "_law_pen", "_law_draw", "_law_pick", "_law_rule", "_law_form", "_law_heaps", "_law_whole_right", "_law_finer_right", "_law_leave_right"] : List PySem.Str)
abbrev hk : Hook := hkK tP R.prog 4000
def ob (s : SharedT) : Bool := okG tP R.prog 4000 (HandSHeadRun.getT s)
theorem ob_eq (s : SharedT) : ob s = hk.obs s.abs := okG_eq (HandSHeadRun.getT_eq s)
theorem run1 (w : World) : ∀ os : OsState, (HandSHeadRun.endF (HandSHeadRun.stepQ (HandSHeadRun.denQ HandSHeadRun.tabQ) R.prog w) 16000 R.prog w os).map (fun s => (HandSHeadRun.looksF R.prog (boot_heap w.params) s.abs, HandSHeadRun.seenQ qv names (importedModules R.prog.main.body) (fun s => xlAt qv [] s && recOk R.toRowW.records s) s.abs, okG1 tP R.prog 4000 (HandSHeadRun.getT s))) = some (true, openGood qv names, true) := by
  intro os
  kernel_rfl
theorem run2_0 (w : World) : ∀ os : OsState, (HandSHeadRun.endF (HandSHeadRun.stepQ (HandSHeadRun.denQ HandSHeadRun.tabQ) R.prog w) 16000 R.prog w os).map (fun s => okG2 tP 0 26 4000 (HandSHeadRun.getT s)) = some true := by
  intro os
  kernel_rfl
theorem run2_1 (w : World) : ∀ os : OsState, (HandSHeadRun.endF (HandSHeadRun.stepQ (HandSHeadRun.denQ HandSHeadRun.tabQ) R.prog w) 16000 R.prog w os).map (fun s => okG2 tP 26 35 4000 (HandSHeadRun.getT s)) = some true := by
  intro os
  kernel_rfl
theorem run (w : World) : HandSHeadRun.RunEq R qv hk ob 16000 names w := fun os => run_parts (fun s e h => okG_split h (okG2_join (by decide) (by decide) (run_at (run2_0 w os) e) (run_at (run2_1 w os) e))) (run1 w os)
end K08
end
-- PLib
section
set_option maxHeartbeats 4000000
namespace DL
open PySem PySem.Spec L2
/-! ### plain facts about the evaluator: the law's pen -/
def pen (xs : List Int) (sp dg : Int) : Bx := .lst [.lst (xs.map D.int), .int sp, .int dg]
def drawR (a b m c d m2 e f g m3 : Int) : List RS := [
  .ifs (.cmp .Gt (.idx (.var 0) (.int 2)) (.int 0)) [.asg 5 (.bin .Mod (.bi .int [.idx (.var 0) (.int 2)]) (.var 1)), .setB 0 (.int 2) (.bin .FloorDiv (.bi .int [.idx (.var 0) (.int 2)]) (.var 1)), .ret (.var 5)] [],
  .asg 2 (.idx (.var 0) (.int 1)),
  .setB 0 (.int 1) (.bin .Add (.var 2) (.int 1)),
  .asg 3 (.bin .Add (.bin .Mult (.int a) (.var 2)) (.int b)),
  .ifs (.cmp .NotEq (.idx (.var 0) (.int 0)) (.lst [])) [.asg 3 (.idx (.idx (.var 0) (.int 0)) (.bin .Mod (.bi .int [.var 2]) (.bi .len [.idx (.var 0) (.int 0)])))] [],
  .ifs (.and [.cmp .Lt (.var 2) (.bi .len [.idx (.var 0) (.int 0)]), .cmp .GtE (.bi .abs [.var 3]) (.bin .Pow (.int 10) (.int 18))]) [.asg 6 (.bin .Add (.bin .Mult (.int 2) (.bin .Sub (.bi .abs [.var 3]) (.bin .Pow (.int 10) (.int 18)))) (.bi .int [.cmp .Lt (.var 3) (.int 0)])), .setB 0 (.int 2) (.bin .FloorDiv (.bi .int [.var 6]) (.var 1)), .ret (.bin .Mod (.bi .int [.var 6]) (.var 1))] [],
  .asg 4 (.bin .Mod (.bi .int [.bin .Pow (.bin .Add (.bin .Add (.bin .Mod (.bi .int [.var 3]) (.int m)) (.bin .Mult (.int c) (.var 2))) (.int d)) (.int 5)]) (.int m2)),
  .asg 4 (.bin .Mod (.bi .int [.bin .Pow (.bin .Add (.bin .Add (.bin .Mult (.var 4) (.bin .Add (.bin .Mult (.int 2) (.var 2)) (.int e))) (.bin .Mult (.bin .Mult (.int f) (.var 2)) (.var 2))) (.int g)) (.int 3)]) (.int m3)),
  .ret (.bin .Mod (.bi .int [.bin .FloorDiv (.var 4) (.int 32)]) (.var 1))]
theorem pyL_ints : ∀ xs : List Int, pyL (xs.map D.int) = some (xs.map PyData.int)
  | [] => rfl
  | x :: xs => by
    rw [List.map_cons, pyL, pyL_ints xs]
    rfl
theorem can_ints : ∀ xs : List Int, PyData.canLayAll0 (xs.map PyData.int) = true
  | [] => rfl
  | x :: xs => by
    rw [List.map_cons, PyData.canLayAll0, can_ints xs]
    rfl
theorem dep_ints : ∀ xs : List Int, PyData.depthAll (xs.map PyData.int) ≤ 1
  | [] => by decide
  | x :: xs => by
    rw [List.map_cons, PyData.depthAll]
    have := dep_ints xs
    have h : PyData.depth (.int x) ≤ 1 := by simp [PyData.depth]
    omega
theorem eqD_nil (xs : List Int) : eqD (.lst (xs.map D.int)) (.lst []) = some xs.isEmpty := by
  have e1 : D.py (.lst (xs.map D.int)) = some (.list (xs.map PyData.int)) := by
    rw [D.py, pyL_ints]
  have e2 : D.py (.lst []) = some (.list []) := rfl
  have s1 : SeqAt.shaped (.list (xs.map PyData.int)) = true := by
    unfold SeqAt.shaped
    rw [Bool.and_eq_true]
    refine ⟨by rw [PyData.canLay0]; exact can_ints xs, decide_eq_true ?_⟩
    rw [PyData.depth]
    have := dep_ints xs
    omega
  have s2 : SeqAt.shaped (.list []) = true := by decide
  unfold eqD
  rw [e1, e2]
  dsimp only
  rw [s1, s2]
  cases xs with
  | nil => rfl
  | cons x xs => rfl
section
variable {α : Type} {x y z w : α} {l : List α}
theorem at0 : atI (x :: l) 0 = some x := by simp [atI, ixN]
theorem at1 : atI (x :: y :: l) 1 = some y := by
  have h : (1 : Int) < (x :: y :: l).length := by simp; omega
  simp only [atI, ixN, h, if_true]
  rfl
theorem at2 : atI (x :: y :: z :: l) 2 = some z := by
  have h : (2 : Int) < (x :: y :: z :: l).length := by simp; omega
  simp only [atI, ixN, h, if_true]
  rfl
theorem at3 : atI (x :: y :: z :: w :: l) 3 = some w := by
  have h : (3 : Int) < (x :: y :: z :: w :: l).length := by simp; omega
  simp only [atI, ixN, h, if_true]
  rfl
end
end DL
end
-- PLib2
section
set_option maxHeartbeats 4000000
namespace DL
open PySem PySem.Spec L2
section
variable {P : Pg} {F : Fs} {xs : List Int} {sp dg many : Int} {R : Store} {a b m c d m2 e f g m3 : Int}
theorem draw_dig (h1 : 0 < dg) (hm : 0 < many) (hm2 : many < 1606938044258990275541962092341162602522202993782792835301376) :
    runB (evSs P F (drawR a b m c d m2 e f g m3) (start0 7 [.box 0, .int many]) (pen xs sp dg :: R)) = .ok (.int (dg % many)) (pen xs sp (dg / many) :: R) := by
  simp [drawR, pen, start0, evSs, evS, evE, evEs, evT, cmpD, D.isObj, opCmp, deS, idxD, at0, at1, at2, Out.bind, truD, biD, intD, opBin, opMod, opDiv, setD, runB, h1, hm, hm2]
def draw2R (a b m c d m2 e f g m3 : Int) : List RS := (drawR a b m c d m2 e f g m3).drop 5
theorem small_mul {i : Int} (h : -(2 ^ 64) < i) (h2 : i < 2 ^ 64) : small i = true := by
  unfold small
  simp only [Bool.and_eq_true, decide_eq_true_eq]
  exact ⟨h, h2⟩
theorem at_map {l : List Int} {i : Int} (h : 0 ≤ i) (h2 : i < l.length) : ∃ x, x ∈ l ∧ atI (l.map D.int) i = some (.int x) := by
  have hi : i.toNat < l.length := by omega
  refine ⟨l[i.toNat], List.getElem_mem hi, ?_⟩
  unfold atI ixN
  rw [if_pos h, List.length_map, if_pos h2]
  show (l.map D.int)[i.toNat]? = _
  rw [List.getElem?_map, List.getElem?_eq_getElem hi]
  rfl
theorem draw_cell (h1 : ¬ 0 < dg) (hs : 0 ≤ sp) (ha : small a = true) :
    ∃ cell : Int, evSs P F (drawR a b m c d m2 e f g m3) (start0 7 [.box 0, .int many]) (pen xs sp dg :: R) =
      evSs P F (draw2R a b m c d m2 e f g m3) [some (.sh (.box 0)), some (.sh (.int many)), some (.sh (.int sp)), some (.sh (.int cell)), none, none, none] (pen xs (sp + 1) dg :: R) := by
  have en := eqD_nil xs
  cases hx : xs.isEmpty with
  | true =>
    refine ⟨a * sp + b, ?_⟩
    rw [hx] at en
    simp [drawR, draw2R, pen, start0, evSs, evS, evE, evEs, evT, cmpD, D.isObj, opCmp, deS, idxD, at0, at1, at2, Out.bind, truD, biD, intD, opBin, opAdd, opMul, opMod, opDiv, setD, h1, ha, en, most]
  | false =>
    rw [hx] at en
    have hl : 0 < (xs.length : Int) := by
      cases xs with
      | nil => cases hx
      | cons x xs => simp
    obtain ⟨x, hx1, hx2⟩ := at_map (l := xs) (i := sp % xs.length) (Int.emod_nonneg _ (by omega)) (Int.emod_lt_of_pos _ hl)
    refine ⟨x, ?_⟩
    have hl2 : 0 < xs.length := by omega
    simp [drawR, draw2R, pen, start0, evSs, evS, evE, evEs, evT, cmpD, D.isObj, opCmp, deS, idxD, at0, at1, at2, Out.bind, truD, biD, intD, lenD, opBin, opAdd, opMul, opMod, opDiv, setD, h1, ha, en, most, hl2, hx2]
def absI (i : Int) : Int := if i < 0 then -i else i
theorem draw_big {cell : Int} (hb : sp < xs.length ∧ 1000000000000000000 ≤ absI cell) (hm : 0 < many) (hm2 : many < 1606938044258990275541962092341162602522202993782792835301376) :
    ∃ gr : Int, 0 ≤ gr ∧ runB (evSs P F (draw2R a b m c d m2 e f g m3) [some (.sh (.box 0)), some (.sh (.int many)), some (.sh (.int sp)), some (.sh (.int cell)), none, none, none] (pen xs (sp + 1) dg :: R)) = .ok (.int (gr % many)) (pen xs (sp + 1) (gr / many) :: R) := by
  have s2 : small 2 = true := by decide
  obtain ⟨hb1, hb2⟩ := hb
  unfold absI at hb2
  refine ⟨2 * ((if cell < 0 then -cell else cell) - 1000000000000000000) + (if cell < 0 then 1 else 0), ?_, ?_⟩
  · split <;> omega
  · have p18 : ((10 : Int) ^ (18 : Nat)) = 1000000000000000000 := by decide
    by_cases hc : cell < 0
    · rw [if_pos hc] at hb2
      simp [draw2R, drawR, pen, evSs, evS, evE, evEs, evAnd, evT, cmpD, D.isObj, opCmp, deS, idxD, at0, at1, at2, Out.bind, truD, biD, intD, lenD, absD, opBin, opAdd, opSub, opMul, opMod, opDiv, opPow, setD, runB, most, hm, hm2, hb1, hb2, hc, s2]
    · rw [if_neg hc] at hb2
      simp [draw2R, drawR, pen, evSs, evS, evE, evEs, evAnd, evT, cmpD, D.isObj, opCmp, deS, idxD, at0, at1, at2, Out.bind, truD, biD, intD, lenD, absD, opBin, opAdd, opSub, opMul, opMod, opDiv, opPow, setD, runB, most, hm, hm2, hb1, hb2, hc, s2]
theorem draw_mix {cell : Int} (hb : ¬ (sp < xs.length ∧ 1000000000000000000 ≤ absI cell)) (hm : 0 < many) (hs : 0 ≤ sp) (hs2 : sp < 4194304) (k1 : 0 < m ∧ m < 4294967296) (k2 : 0 ≤ c ∧ c < 131072) (k3 : 0 ≤ d ∧ d < 131072) (k4 : 0 < m2 ∧ m2 < 4294967296) (k5 : 0 ≤ e ∧ e < 131072) (k6 : 0 ≤ f ∧ f < 131072) (k7 : 0 ≤ g ∧ g < 131072) (k8 : 0 < m3) :
    ∃ mx : Int, 0 ≤ mx ∧ runB (evSs P F (draw2R a b m c d m2 e f g m3) [some (.sh (.box 0)), some (.sh (.int many)), some (.sh (.int sp)), some (.sh (.int cell)), none, none, none] (pen xs (sp + 1) dg :: R)) = .ok (.int (mx % many)) (pen xs (sp + 1) dg :: R) := by
  have s2 : small 2 = true := by decide
  have sc : small c = true := small_mul (by omega) (by omega)
  have sf : small f = true := small_mul (by omega) (by omega)
  have ssp : small sp = true := small_mul (by omega) (by omega)
  have c1 := Int.emod_nonneg cell (b := m) (by omega)
  have c2 := Int.emod_lt_of_pos cell k1.1
  have q1 : 0 ≤ c * sp := Int.mul_nonneg k2.1 hs
  have q2 : c * sp ≤ 131072 * 4194304 := Int.mul_le_mul (by omega) (by omega) hs (by omega)
  have v1 := Int.emod_nonneg ((cell % m + c * sp + d) ^ 5) (b := m2) (by omega)
  have v2 := Int.emod_lt_of_pos ((cell % m + c * sp + d) ^ 5) k4.1
  have sv : small ((cell % m + c * sp + d) ^ 5 % m2) = true := small_mul (by omega) (by omega)
  have w1 : 0 ≤ ((cell % m + c * sp + d) ^ 5 % m2) * (2 * sp + e) := Int.mul_nonneg v1 (by omega)
  have w2 : ((cell % m + c * sp + d) ^ 5 % m2) * (2 * sp + e) ≤ 4294967296 * (8388608 + 131072) := Int.mul_le_mul (by omega) (by omega) (by omega) (by omega)
  have x1 : 0 ≤ f * sp := Int.mul_nonneg k6.1 hs
  have x2 : f * sp ≤ 131072 * 4194304 := Int.mul_le_mul (by omega) (by omega) hs (by omega)
  have x3 : 0 ≤ f * sp * sp := Int.mul_nonneg x1 hs
  have x4 : f * sp * sp ≤ 131072 * 4194304 * 4194304 := Int.mul_le_mul x2 (by omega) hs (by omega)
  refine ⟨(((cell % m + c * sp + d) ^ 5 % m2) * (2 * sp + e) + f * sp * sp + g) ^ 3 % m3 / 32, Int.ediv_nonneg (Int.emod_nonneg _ (by omega)) (by omega), ?_⟩
  have b1 : -9223372036854775808 < cell % m + c * sp + d ∧ cell % m + c * sp + d < 9223372036854775808 := by omega
  have b2 : -9223372036854775808 < ((cell % m + c * sp + d) ^ 5 % m2) * (2 * sp + e) + f * sp * sp + g ∧ ((cell % m + c * sp + d) ^ 5 % m2) * (2 * sp + e) + f * sp * sp + g < 9223372036854775808 := by omega
  have ssf : small (f * sp) = true ∨ small sp = true := .inr ssp
  have hb' : ∀ {α : Type} {u v : α}, True := fun {_ _ _} => trivial
  by_cases hb1 : sp < xs.length
  · have hb2 : ¬ 1000000000000000000 ≤ absI cell := fun z => hb ⟨hb1, z⟩
    unfold absI at hb2
    simp [draw2R, drawR, pen, evSs, evS, evE, evEs, evAnd, evT, cmpD, D.isObj, opCmp, deS, idxD, at0, at1, at2, Out.bind, truD, biD, intD, lenD, absD, opBin, opAdd, opSub, opMul, opMod, opDiv, opPow, setD, runB, most, hm, hb1, hb2, s2, sc, sf, ssp, sv, b1, b2, k1.1, k4.1, k8]
  · simp [draw2R, drawR, pen, evSs, evS, evE, evEs, evAnd, evT, cmpD, D.isObj, opCmp, deS, idxD, at0, at1, at2, Out.bind, truD, biD, intD, lenD, absD, opBin, opAdd, opSub, opMul, opMod, opDiv, opPow, setD, runB, most, hm, hb1, s2, sc, sf, ssp, sv, b1, b2, k1.1, k4.1, k8]
end
end DL
end
-- PLib3
section
set_option maxHeartbeats 4000000
namespace DL
open PySem PySem.Spec L2
/-- the pen at box 0, at most k draws past -/
def Pn (xs : List Int) (R : Store) (k : Int) (S : Store) : Prop := ∃ sp dg, S = pen xs sp dg :: R ∧ 0 ≤ sp ∧ sp ≤ k ∧ 0 ≤ dg
theorem Pn.mono {xs : List Int} {R : Store} {k k' : Int} {S : Store} (h : Pn xs R k S) (hk : k ≤ k') : Pn xs R k' S := by
  obtain ⟨sp, dg, e, h1, h2, h3⟩ := h
  exact ⟨sp, dg, e, h1, by omega, h3⟩
structure DrawC (a b m c d m2 e f g m3 : Int) : Prop where
  ha : small a = true
  k1 : 0 < m ∧ m < 4294967296
  k2 : 0 ≤ c ∧ c < 131072
  k3 : 0 ≤ d ∧ d < 131072
  k4 : 0 < m2 ∧ m2 < 4294967296
  k5 : 0 ≤ e ∧ e < 131072
  k6 : 0 ≤ f ∧ f < 131072
  k7 : 0 ≤ g ∧ g < 131072
  k8 : 0 < m3
theorem draw_ok {P : Pg} {F : Fs} {xs : List Int} {many k : Int} {R S : Store} {a b m c d m2 e f g m3 : Int} (C : DrawC a b m c d m2 e f g m3) (hp : Pn xs R k S) (hk : k < 4194304) (hm : 0 < many) (hm2 : many < 1606938044258990275541962092341162602522202993782792835301376) :
    ∃ r S', runB (evSs P F (drawR a b m c d m2 e f g m3) (start0 7 [.box 0, .int many]) S) = .ok (.int r) S' ∧ Pn xs R (k + 1) S' ∧ 0 ≤ r ∧ r < many := by
  obtain ⟨sp, dg, rfl, h1, h2, h3⟩ := hp
  by_cases hd : 0 < dg
  · exact ⟨dg % many, _, draw_dig hd hm (by omega), ⟨sp, dg / many, rfl, h1, by omega, Int.ediv_nonneg h3 (by omega)⟩, Int.emod_nonneg _ (by omega), Int.emod_lt_of_pos _ hm⟩
  · obtain ⟨cell, e1⟩ := draw_cell (P := P) (F := F) (xs := xs) (many := many) (R := R) (b := b) (m := m) (c := c) (d := d) (m2 := m2) (e := e) (f := f) (g := g) (m3 := m3) hd h1 C.ha
    rw [e1]
    by_cases hb : sp < xs.length ∧ 1000000000000000000 ≤ absI cell
    · obtain ⟨gr, g1, g2⟩ := draw_big (P := P) (F := F) (dg := dg) (R := R) (a := a) (b := b) (m := m) (c := c) (d := d) (m2 := m2) (e := e) (f := f) (g := g) (m3 := m3) hb hm (by omega)
      exact ⟨gr % many, _, g2, ⟨sp + 1, gr / many, rfl, by omega, by omega, Int.ediv_nonneg g1 (by omega)⟩, Int.emod_nonneg _ (by omega), Int.emod_lt_of_pos _ hm⟩
    · obtain ⟨mx, g1, g2⟩ := draw_mix (P := P) (F := F) (dg := dg) (R := R) (a := a) (b := b) hb hm h1 (by omega) C.k1 C.k2 C.k3 C.k4 C.k5 C.k6 C.k7 C.k8
      exact ⟨mx % many, _, g2, ⟨sp + 1, dg, rfl, by omega, by omega, h3⟩, Int.emod_nonneg _ (by omega), Int.emod_lt_of_pos _ hm⟩
/-! ### texts -/
theorem sok_of (s : String) : PySem.PyData.strOk (Str.ofString s) = true := by
  rw [Str.ofString_eq_toList]
  unfold PySem.PyData.strOk
  rw [Array.all_eq_true']
  intro x hx
  rw [List.mem_toArray, List.mem_map] at hx
  obtain ⟨c, _, rfl⟩ := hx
  refine decide_eq_true ?_
  have := c.valid
  unfold UInt32.isValidChar Nat.isValidChar at this
  show c.val.toNat < 1114112
  omega
theorem sok_app {a b : Str} (ha : PySem.PyData.strOk a = true) (hb : PySem.PyData.strOk b = true) : PySem.PyData.strOk (a ++ b) = true := by
  unfold PySem.PyData.strOk at *
  show (a.cps ++ b.cps).all _ = true
  rw [Array.all_append, ha, hb]
  rfl
theorem sok_from : ∀ (ts : List Str) (k : Nat) (acc : Str), PySem.PyData.strOk acc = true → (∀ t ∈ ts, PySem.PyData.strOk t = true) → PySem.PyData.strOk (textFrom k acc ts) = true
  | [], k, acc, h, _ => h
  | t :: ts, k, acc, h, ht => sok_from ts (k + 1) _ (sok_app (sok_app h (sok_of _)) (ht t (List.mem_cons_self ..))) fun x hx => ht x (List.mem_cons_of_mem _ hx)
theorem sok_list {ts : List Str} (ht : ∀ t ∈ ts, PySem.PyData.strOk t = true) : PySem.PyData.strOk (listText ts) = true := sok_app (sok_from ts 0 _ (sok_of _) ht) (sok_of _)
theorem sok_ints : ∀ ns : List Int, ∀ t ∈ PyData.shownAll (ns.map .int), PySem.PyData.strOk t = true
  | [], t, h => by cases h
  | n :: ns, t, h => by
    rw [List.map_cons, PyData.shownAll] at h
    rcases List.mem_cons.mp h with z | z
    · rw [z, PyData.shown]
      exact sok_of _
    · exact sok_ints ns t z
theorem eqD_str {a b : Str} (ha : PySem.PyData.strOk a = true) (hb : PySem.PyData.strOk b = true) : eqD (.str a) (.str b) = some (a == b) := by
  have s1 : ∀ {x : Str}, PySem.PyData.strOk x = true → SeqAt.shaped (.str x) = true := fun {x} h => by
    unfold SeqAt.shaped
    rw [PyData.canLay0, h]
    rfl
  unfold eqD
  show (if SeqAt.shaped (.str a) && SeqAt.shaped (.str b) then some (PyData.eqv (.str a) (.str b)) else none) = _
  rw [s1 ha, s1 hb]
  rfl
/-! ### repr of a list of numbers -/
theorem shAll_ints : ∀ ns : List Int, (∀ n ∈ ns, n.natAbs < 10 ^ 12) → PyData.showableAll (ns.map .int) = true ∧ ((PyData.shownAll (ns.map .int)).map (·.length)).sum ≤ 13 * ns.length ∧ (PyData.shownAll (ns.map .int)).length = ns.length ∧ PyData.hasDictAll (ns.map .int) = false
  | [], _ => ⟨rfl, Nat.le_refl _, rfl, rfl⟩
  | n :: ns, h => by
    obtain ⟨h1, h2, h3, h4⟩ := shAll_ints ns fun x hx => h x (List.mem_cons_of_mem _ hx)
    have hn := h n (List.mem_cons_self ..)
    have hl := PyData.shown_int_le hn
    have hs : (n.natAbs.log2 < 1920) := by
      have : n.natAbs.log2 < 40 := by
        by_cases z : n.natAbs = 0
        · rw [z]
          decide
        · rw [Nat.log2_lt z]
          omega
      omega
    refine ⟨?_, ?_, ?_, ?_⟩
    · rw [List.map_cons, PyData.showableAll, h1, Bool.and_true, PyData.showable]
      exact decide_eq_true hs
    · rw [List.map_cons, PyData.shownAll, List.map_cons, List.sum_cons, List.length_cons]
      omega
    · rw [List.map_cons, PyData.shownAll, List.length_cons, List.length_cons, h3]
    · rw [List.map_cons, PyData.hasDictAll, h4, PyData.hasDict]
      rfl
theorem rep_ints {ns : List Int} (h : ∀ n ∈ ns, n.natAbs < 10 ^ 12) (hl : ns.length ≤ 1000) : ∃ s, reprD (.lst (ns.map D.int)) = some s ∧ PySem.PyData.strOk s = true := by
  obtain ⟨h1, h2, h3, h4⟩ := shAll_ints ns h
  refine ⟨(PyData.list (ns.map .int)).shown, ?_, by rw [PyData.shown]; exact sok_list (sok_ints ns)⟩
  have e1 : D.py (.lst (ns.map D.int)) = some (.list (ns.map PyData.int)) := by
    rw [D.py, pyL_ints]
  unfold reprD
  rw [e1]
  dsimp only
  rw [if_pos]
  rw [Bool.and_eq_true, Bool.and_eq_true, Bool.and_eq_true]
  refine ⟨⟨⟨?_, ?_⟩, decide_eq_true ?_⟩, decide_eq_true ?_⟩
  · rw [PyData.showable]
    exact h1
  · rw [PyData.hasDict, h4]
    rfl
  · rw [PyData.depth]
    have := dep_ints ns
    omega
  · rw [PyData.shown]
    have := listText_len_le (PyData.shownAll (ns.map .int))
    rw [h3] at this
    unfold most
    omega
end DL
end
-- PRule
section
set_option maxHeartbeats 4000000
namespace DL
open PySem PySem.Spec L2
/-! ### defs of a table, by their bodies -/
theorem bindG_full {α : Type} : ∀ (ps : List Str) (us : List α) (dfl : List (Str × α)), us.length = ps.length → bindG ps dfl us [] = some us
  | [], [], _, _ => by
    unfold bindG
    rfl
  | p :: ps, u :: us, dfl, h => by
    unfold bindG
    rw [bindG_full ps us dfl (by simpa using h)]
/-- the def j of the table -/
def fnAt (P : Pg) (j : Nat) (ps : List Str) (dfl : List (Str × D)) (N : Nat) (body : List RS) : Prop := ∃ f, P.fns[j]? = some f ∧ f.ps = ps ∧ f.dfl = dfl ∧ f.N.length = N ∧ f.body = body
section
variable {P : Pg} {j N n : Nat} {ps : List Str} {dfl : List (Str × D)} {body : List RS} {F : Fs} {S : Store} {ds : List D}
theorem fnAt.run (h : fnAt P j ps dfl N body) (hl : ds.length = ps.length) : (fsN P (n + 1)).fn j ds S = runB (evSs P (fsN P n) body (start0 N ds) S) := by
  obtain ⟨f, e, rfl, rfl, rfl, rfl⟩ := h
  show (match P.fns[j]? with
    | some f => if ds.length = f.ps.length then runB (evSs P (fsN P n) f.body (start0 f.N.length ds) S) else .stk
    | none => .stk) = _
  rw [e]
  dsimp only
  rw [if_pos hl]
theorem fnAt.ini (h : fnAt P j ps dfl N body) {c : Nat} {ns : List Str} {fs : List D} (hl : ds.length + 1 = ps.length) : (fsN P (n + 1)).ini j c ns fs ds S = runI c (evSs P (fsN P n) body (some (.owI c ns fs) :: start0 (N - 1) ds) S) := by
  obtain ⟨f, e, rfl, rfl, rfl, rfl⟩ := h
  show (match P.fns[j]? with
    | some f => if ds.length + 1 = f.ps.length then runI c (evSs P (fsN P n) f.body (some (.owI c ns fs) :: start0 (f.N.length - 1) ds) S) else .stk
    | none => .stk) = _
  rw [e]
  dsimp only
  rw [if_pos hl]
theorem fnAt.hrd (h : fnAt P j ps dfl N body) {a : Store → Out D} : (fsN P (n + 1)).hrd j a S = noEr (runB (evSs P { fsN P n with act := a } body (some .thk :: List.replicate (N - 1) none) S)) := by
  obtain ⟨f, e, rfl, rfl, rfl, rfl⟩ := h
  show (match P.fns[j]? with
    | some f => noEr (runB (evSs P { fsN P n with act := a } f.body (some .thk :: List.replicate (f.N.length - 1) none) S))
    | none => .stk) = _
  rw [e]
theorem fnAt.call (h : fnAt P j ps dfl N body) (hl : ds.length = ps.length) : callD P F j ds [] [] S = F.fn j ds S := by
  obtain ⟨f, e, rfl, rfl, rfl, rfl⟩ := h
  unfold callD
  rw [e]
  show (match bindG f.ps f.dfl ds [] with
    | some r => F.fn j r S
    | none => .stk) = _
  rw [bindG_full _ _ _ hl]
theorem fnAt.callK (h : fnAt P j ps dfl N body) {ks : List Str} {zs r : List D} (hk : ks.length = zs.length) (hb : bindG ps dfl ds (ks.zip zs) = some r) : callD P F j ds ks zs S = F.fn j r S := by
  obtain ⟨f, e, rfl, rfl, rfl, rfl⟩ := h
  unfold callD
  rw [e]
  dsimp only
  rw [if_pos hk, hb]
/-- C(..) of a plain class -/
theorem fnAt.mk (h : fnAt P j ps dfl N body) {c : Nat} {cl : Cl} (hc : P.cls[c]? = some cl) (hp : cl.kind = .plain) (hi : cl.init = j) {ks : List Str} {zs r : List D} (hk : ks.length = zs.length) (hb : bindG ps.tail dfl ds (ks.zip zs) = some r) :
    mkD P F c ds ks zs S = (F.ini j c [] [] r S).bind fun q S1 => .ok (.obj c q.1 q.2) S1 := by
  obtain ⟨f, e, rfl, rfl, rfl, rfl⟩ := h
  unfold mkD
  rw [hc]
  dsimp only
  rw [hp]
  dsimp only
  rw [hi, e]
  dsimp only
  rw [if_pos hk, hb]
end
theorem put2_new {α : Type} (f : Str) (x : α) : ∀ (ns : List Str) (ds : List α), ds.length = ns.length → ns.contains f = false → put2 ns ds f x = (ns ++ [f], ds ++ [x])
  | [], [], _, _ => by
    unfold put2
    rfl
  | n :: ns, d :: ds, hl, h => by
    rw [List.contains_cons, Bool.or_eq_false_iff] at h
    have hn : n ≠ f := fun z => by
      rw [z] at h
      simp at h
    unfold put2
    rw [if_neg hn, put2_new f x ns ds (by simpa using hl) h.2]
    rfl
/-! ### values that are drawn -/
/-- data, or an instance that is no number -/
def Val (P : Pg) (x : D) : Prop := x.tyName.isSome = true ∨ ∃ c ns ds cl, x = .obj c ns ds ∧ P.cls[c]? = some cl ∧ cl.kind = .plain ∧ cl.bas = [] ∧ P.tys.contains "int" = true
def isI (x : D) (lo hi : Int) : Bool := match x with
  | .int i => decide (lo ≤ i) && decide (i ≤ hi)
  | _ => false
theorem isI_int {x : D} {lo hi : Int} (h : isI x lo hi = true) : ∃ i, x = .int i ∧ lo ≤ i ∧ i ≤ hi := by
  cases x with
  | int i =>
    simp only [isI, Bool.and_eq_true, decide_eq_true_eq] at h
    exact ⟨i, rfl, h⟩
  | _ => cases h
theorem isI_of {i lo hi : Int} (h1 : lo ≤ i) (h2 : i ≤ hi) : isI (.int i) lo hi = true := by
  simp only [isI, Bool.and_eq_true, decide_eq_true_eq]
  exact ⟨h1, h2⟩
def isR : List RS := [.ret (.and [.bi .isinst [.var 0, .gty "int" "int"], .not (.bi .isinst [.var 0, .gty "bool" "bool"]), .chain .LtE .LtE (.var 1) (.var 0) (.var 2)])]
section
variable {P : Pg} {n : Nat} {S : Store} {F : Fs}
theorem is_run {x : D} {lo hi : Int} (h : Val P x) : runB (evSs P F isR (start0 3 [x, .int lo, .int hi]) S) = .ok (.bl (isI x lo hi)) S := by
  rcases h with h | ⟨c, ns, ds, cl, rfl, e, k, b, t⟩
  · cases x <;> first | (exfalso; simp [D.tyName] at h; done) | (simp [isR, start0, evSs, evS, evE, evEs, evAnd, Out.bind, biD, isD, isiD, isi1, isiTy, clsOf, D.tyName, knownTys, truD, cmpD, D.isObj, opCmp, deS, runB, isI])
    all_goals (rename_i i; cases decide (lo ≤ i) <;> rfl)
  · have t := List.contains_iff_mem.mp t
    simp [isR, start0, evSs, evS, evE, evEs, evAnd, Out.bind, biD, isD, isiD, isi1, isiTy, clsOf, e, k, Kd.pl, b, t, truD, runB, isI]
/-- is_integer and its like -/
abbrev isAt (P : Pg) (j : Nat) (ps : List Str) : Prop := fnAt P j ps [] 3 isR ∧ ps.length = 3
theorem is_ {j : Nat} {ps : List Str} (J : isAt P j ps) {x : D} {lo hi : Int} (h : Val P x) : (fsN P (n + 1)).fn j [x, .int lo, .int hi] S = .ok (.bl (isI x lo hi)) S :=
  (J.1.run (by rw [J.2]; rfl)).trans (is_run h)
def needR (jI cB : Nat) : List RS := [.ifs (.not (.call jI [.var 0, .var 1, .var 2] [] [])) [.raise cB [.var 3]] []]
/-- an own exception with these fields -/
def excAt (P : Pg) (c : Nat) (flds : List Str) : Prop := ∃ cl, P.cls[c]? = some cl ∧ cl.kind = .exc ∧ cl.flds = flds
theorem excAt.mk {c : Nat} {flds : List Str} (h : excAt P c flds) {ds : List D} (hl : flds.length = ds.length) : excD P c ds = some (.exc c flds.reverse ds.reverse) := by
  obtain ⟨cl, e, k, rfl⟩ := h
  unfold excD
  rw [e]
  dsimp only
  rw [k]
  dsimp only
  rw [if_pos hl]
structure RuleT (P : Pg) (jI jN jR cB : Nat) : Prop where
  i : fnAt P jI ["value", "least", "most"] [] 3 isR
  n : fnAt P jN ["value", "least", "most", "part"] [] 4 (needR jI cB)
  r : fnAt P jR ["self", "rest", "modulus"] [] 3 [.expr (.call jN [.var 2, .int 1, .gint "MOST_MODULUS" 6, .str "modulus"] [] []), .expr (.call jN [.var 1, .int 0, .bin .Sub (.var 2) (.int 1), .str "rest"] [] []), .setF "rest" (.var 1), .setF "modulus" (.var 2)]
  b : excAt P cB ["part"]
variable {jI jN jR cB : Nat}
theorem RuleT.need (T : RuleT P jI jN jR cB) {x : D} {lo hi : Int} {s : Str} (h : Val P x) : (fsN P (n + 2)).fn jN [x, .int lo, .int hi, .str s] S = if isI x lo hi then .ok .non S else .er (.exc cB ["part"] [.str s]) S := by
  rw [T.n.run rfl]
  have c1 : ∀ {F : Fs}, callD P F jI [x, .int lo, .int hi] [] [] S = F.fn jI [x, .int lo, .int hi] S := T.i.call rfl
  have e1 := is_ (n := n) (S := S) ⟨T.i, rfl⟩ (lo := lo) (hi := hi) h
  cases hi' : isI x lo hi with
  | true => simp [needR, start0, evSs, evS, evE, evEs, evT, Out.bind, c1, e1, hi', truD, runB]
  | false =>
    have ex := T.b.mk (ds := [.str s]) rfl
    simp [needR, start0, evSs, evS, evE, evEs, evT, Out.bind, c1, e1, hi', truD, runB, ex]
/-- what Rested.__init__ does -/
def restO (cB : Nat) (ns : List Str) (fs : List D) (p1 p2 : D) (S : Store) : Out (List Str × List D) := if isI p2 1 6 then (match p2 with
    | .int m => if isI p1 0 (m - 1) then .ok (ns ++ (["rest", "modulus"] : List Str), fs ++ [p1, p2]) S else .er (.exc cB ["part"] [.str "rest"]) S
    | _ => .stk) else .er (.exc cB ["part"] [.str "modulus"]) S
theorem RuleT.rested (T : RuleT P jI jN jR cB) {c : Nat} {ns : List Str} {fs : List D} {p1 p2 : D} (h1 : Val P p1) (h2 : Val P p2) (hl : fs.length = ns.length) (l9 : ns.length < 800) (n1 : ns.contains "rest" = false) (n2 : ns.contains "modulus" = false) (f1 : fldOk P c "rest" = true) (f2 : fldOk P c "modulus" = true) :
    (fsN P (n + 3)).ini jR c ns fs [p1, p2] S = restO cB ns fs p1 p2 S := by
  rw [T.r.ini rfl]
  have c1 : ∀ {F : Fs} {x y z w : D} {S : Store}, callD P F jN [x, y, z, w] [] [] S = F.fn jN [x, y, z, w] S := T.n.call rfl
  unfold restO
  cases b : isI p2 1 6 with
  | false => simp [start0, evSs, evS, evE, evEs, Out.bind, c1, T.need h2, b, runI]
  | true =>
    obtain ⟨m, rfl, m1, m2⟩ := isI_int b
    cases e : isI p1 0 (m - 1) with
    | false => simp [start0, evSs, evS, evE, evEs, Out.bind, c1, T.need h2, T.need h1, b, e, runI, opBin, opSub]
    | true =>
      have q1 := put2_new ("rest" : Str) p1 ns fs hl n1
      have q2 := put2_new ("modulus" : Str) (.int m) (ns ++ [("rest" : Str)]) (fs ++ [p1]) (by rw [List.length_append, List.length_append, hl]; rfl) (by rw [List.contains_append, n2]; decide)
      have l1 : ns.length < 900 := by omega
      have l2 : ns.length + 1 < 900 := by omega
      simp [start0, evSs, evS, evE, evEs, Out.bind, c1, T.need h2, T.need h1, b, e, runI, opBin, opSub, f1, f2, q1, q2, l1, l2]
/-! ### Sized, Fixed -/
structure FixT (P : Pg) (jI jN jR cB jS jF cS cR cF : Nat) : Prop extends RuleT P jI jN jR cB where
  s : fnAt P jS ["self", "size", "leave"] [] 3 [.expr (.call jN [.var 1, .int 1, .gint "MOST_NUMBER" 400, .str "size"] [] []), .expr (.call jN [.var 2, .int 0, .gint "MOST_NUMBER" 400, .str "leave"] [] []), .setF "size" (.var 1), .setF "leave" (.var 2)]
  f : fnAt P jF ["self", "size", "rest", "modulus", "leave"] [("rest", .int 0), ("modulus", .int 1), ("leave", .int 0)] 5 [.sup cS jS [.var 1, .var 4], .sup cR jR [.var 2, .var 3], .setF "start" (.bin .Add (.var 1) (.var 4)), .setF "reach" (.var 1)]
  c : ∃ cl, P.cls[cF]? = some cl ∧ cl.kind = .plain ∧ cl.init = jF ∧ cl.fnames = (["start", "reach", "size", "leave", "rest", "modulus"] : List Str)
variable {jS jF cS cR cF : Nat}
theorem fldOk_of {c : Nat} {cl : Cl} {f : Str} (e : P.cls[c]? = some cl) (k : cl.kind = .plain) (h : cl.fnames.contains f = true) : fldOk P c f = true := by
  unfold fldOk
  rw [e]
  dsimp only
  rw [k, h]
  rfl
theorem FixT.fld (T : FixT P jI jN jR cB jS jF cS cR cF) {f : Str} (h : (["start", "reach", "size", "leave", "rest", "modulus"] : List Str).contains f = true) : fldOk P cF f = true := by
  obtain ⟨cl, e, k, _, q⟩ := T.c
  exact fldOk_of e k (by rw [q]; exact h)
theorem FixT.sized (T : FixT P jI jN jR cB jS jF cS cR cF) {p0 p3 : D} (h0 : Val P p0) (h3 : Val P p3) : (fsN P (n + 3)).ini jS cF [] [] [p0, p3] S = if isI p0 1 400 then (if isI p3 0 400 then .ok ((["size", "leave"] : List Str), [p0, p3]) S else .er (.exc cB ["part"] [.str "leave"]) S) else .er (.exc cB ["part"] [.str "size"]) S := by
  rw [T.s.ini rfl]
  have c1 : ∀ {F : Fs} {x y z w : D} {S : Store}, callD P F jN [x, y, z, w] [] [] S = F.fn jN [x, y, z, w] S := T.n.call rfl
  cases b : isI p0 1 400 with
  | false => simp [start0, evSs, evS, evE, evEs, Out.bind, c1, T.need h0, b, runI]
  | true =>
    cases e : isI p3 0 400 with
    | false => simp [start0, evSs, evS, evE, evEs, Out.bind, c1, T.need h0, T.need h3, b, e, runI]
    | true =>
      have f1 := T.fld (f := "size") (by decide)
      have f2 := T.fld (f := "leave") (by decide)
      have n1 : ("size" : Str) ≠ "leave" := by decide
      simp [start0, evSs, evS, evE, evEs, Out.bind, c1, T.need h0, T.need h3, b, e, runI, f1, f2, put2, n1]
/-- the first wrong part of a Fixed rule -/
def dueF (p0 p1 p2 p3 : D) : Option Str := if isI p0 1 400 then (if isI p3 0 400 then (if isI p2 1 6 then (match p2 with
  | .int m => if isI p1 0 (m - 1) then none else some "rest"
  | _ => none) else some "modulus") else some "leave") else some "size"
/-- the rule that is made -/
def fobj (cF : Nat) (a b c d : Int) : D := .obj cF ["size", "leave", "rest", "modulus", "start", "reach"] [.int a, .int d, .int b, .int c, .int (a + d), .int a]
theorem dueF_none {p0 p1 p2 p3 : D} (h : dueF p0 p1 p2 p3 = none) : ∃ a b c d : Int, p0 = .int a ∧ p1 = .int b ∧ p2 = .int c ∧ p3 = .int d ∧ (1 ≤ a ∧ a ≤ 400) ∧ (0 ≤ b ∧ b ≤ c - 1) ∧ (1 ≤ c ∧ c ≤ 6) ∧ (0 ≤ d ∧ d ≤ 400) := by
  unfold dueF at h
  split at h
  · rename_i h1
    split at h
    · rename_i h2
      split at h
      · rename_i h3
        obtain ⟨a, rfl, a1, a2⟩ := isI_int h1
        obtain ⟨d, rfl, d1, d2⟩ := isI_int h2
        obtain ⟨c, rfl, c1, c2⟩ := isI_int h3
        dsimp only at h
        split at h
        · rename_i h4
          obtain ⟨b, rfl, b1, b2⟩ := isI_int h4
          exact ⟨a, b, c, d, rfl, rfl, rfl, rfl, ⟨a1, a2⟩, ⟨b1, b2⟩, ⟨c1, c2⟩, ⟨d1, d2⟩⟩
        · cases h
      · cases h
    · cases h
  · cases h
theorem dueF_ok {a b c d : Int} (ha : 1 ≤ a ∧ a ≤ 400) (hb : 0 ≤ b ∧ b ≤ c - 1) (hc : 1 ≤ c ∧ c ≤ 6) (hd : 0 ≤ d ∧ d ≤ 400) : dueF (.int a) (.int b) (.int c) (.int d) = none := by
  unfold dueF
  rw [if_pos (isI_of ha.1 ha.2), if_pos (isI_of hd.1 hd.2), if_pos (isI_of hc.1 hc.2)]
  dsimp only
  rw [if_pos (isI_of hb.1 hb.2)]
theorem dueF_cases (p0 p1 p2 p3 : D) : dueF p0 p1 p2 p3 = some "size" ∨ dueF p0 p1 p2 p3 = some "leave" ∨ dueF p0 p1 p2 p3 = some "modulus" ∨ dueF p0 p1 p2 p3 = some "rest" ∨ dueF p0 p1 p2 p3 = none := by
  unfold dueF
  split
  · split
    · split
      · split
        · split
          · exact .inr (.inr (.inr (.inr rfl)))
          · exact .inr (.inr (.inr (.inl rfl)))
        · exact .inr (.inr (.inr (.inr rfl)))
      · exact .inr (.inr (.inl rfl))
    · exact .inr (.inl rfl)
  · exact .inl rfl
/-- Fixed(..) as an outcome -/
def fixO (cB cF : Nat) (p0 p1 p2 p3 : D) (S : Store) : Out D := match dueF p0 p1 p2 p3 with
  | some s => .er (.exc cB ["part"] [.str s]) S
  | none => (match p0, p1, p2, p3 with
    | .int a, .int b, .int c, .int d => .ok (fobj cF a b c d) S
    | _, _, _, _ => .stk)
theorem FixT.fixed (T : FixT P jI jN jR cB jS jF cS cR cF) {p0 p1 p2 p3 : D} (h0 : Val P p0) (h1 : Val P p1) (h2 : Val P p2) (h3 : Val P p3) :
    ((fsN P (n + 4)).ini jF cF [] [] [p0, p1, p2, p3] S).bind (fun q S1 => .ok (D.obj cF q.1 q.2) S1) = fixO cB cF p0 p1 p2 p3 S := by
  rw [T.f.ini rfl]
  have s1 := T.sized (n := n) (S := S) h0 h3
  have r1 := T.rested (n := n) (S := S) (c := cF) (ns := ["size", "leave"]) (fs := [p0, p3]) h1 h2 rfl (by decide) (by decide) (by decide) (T.fld (by decide)) (T.fld (by decide))
  unfold fixO
  cases a : isI p0 1 400 with
  | false =>
    rw [a] at s1
    simp [start0, evSs, evS, evE, evEs, Out.bind, kSup, s1, runI, dueF, a]
  | true =>
    cases d : isI p3 0 400 with
    | false =>
      rw [a, d] at s1
      simp [start0, evSs, evS, evE, evEs, Out.bind, kSup, s1, runI, dueF, a, d]
    | true =>
      rw [a, d] at s1
      cases c : isI p2 1 6 with
      | false =>
        unfold restO at r1
        rw [c] at r1
        simp [start0, evSs, evS, evE, evEs, Out.bind, kSup, s1, r1, runI, dueF, a, c, d]
      | true =>
        obtain ⟨q0, rfl, _, _⟩ := isI_int a
        obtain ⟨q3, rfl, _, _⟩ := isI_int d
        obtain ⟨q2, rfl, _, _⟩ := isI_int c
        unfold restO at r1
        rw [c] at r1
        cases b : isI p1 0 (q2 - 1) with
        | false =>
          simp [b] at r1
          simp [start0, evSs, evS, evE, evEs, Out.bind, kSup, s1, r1, runI, dueF, a, b, c, d]
        | true =>
          obtain ⟨q1, rfl, _, _⟩ := isI_int b
          simp [b] at r1
          have f1 := T.fld (f := "start") (by decide)
          have f2 := T.fld (f := "reach") (by decide)
          have p1 : ∀ x : D, put2 (["size", "leave", "rest", "modulus"] : List Str) [D.int q0, .int q3, .int q1, .int q2] "start" x = ((["size", "leave", "rest", "modulus", "start"] : List Str), [.int q0, .int q3, .int q1, .int q2, x]) := fun x => put2_new _ _ _ _ rfl rfl
          have p2 : ∀ y x : D, put2 (["size", "leave", "rest", "modulus", "start"] : List Str) [D.int q0, .int q3, .int q1, .int q2, y] "reach" x = ((["size", "leave", "rest", "modulus", "start", "reach"] : List Str), [.int q0, .int q3, .int q1, .int q2, y, x]) := fun y x => put2_new _ _ _ _ rfl rfl
          simp [start0, evSs, evS, evE, evEs, Out.bind, kSup, s1, r1, runI, dueF, a, b, c, d, f1, f2, p1, p2, opBin, opAdd, fobj]
theorem FixT.make (T : FixT P jI jN jR cB jS jF cS cR cF) {ds zs : List D} {ks : List Str} {p0 p1 p2 p3 : D} (h0 : Val P p0) (h1 : Val P p1) (h2 : Val P p2) (h3 : Val P p3) (hk : ks.length = zs.length)
    (hb : bindG ["size", "rest", "modulus", "leave"] [("rest", D.int 0), ("modulus", .int 1), ("leave", .int 0)] ds (ks.zip zs) = some [p0, p1, p2, p3]) : mkD P (fsN P (n + 4)) cF ds ks zs S = fixO cB cF p0 p1 p2 p3 S := by
  obtain ⟨cl, e, k, i, _⟩ := T.c
  rw [T.f.mk e k i hk hb]
  exact T.fixed h0 h1 h2 h3
/-! ### Down -/
structure DwnT (P : Pg) (jI jN jR cB jD cR cD : Nat) : Prop extends RuleT P jI jN jR cB where
  d : fnAt P jD ["self", "to", "rest", "modulus"] [("rest", .int 0), ("modulus", .int 1)] 4 [.expr (.call jN [.var 1, .int 0, .gint "MOST_NUMBER" 400, .str "to"] [] []), .sup cR jR [.var 2, .var 3], .setF "to" (.var 1), .setF "start" (.bin .Add (.var 1) (.int 1)), .setF "reach" (.int 0)]
  c : ∃ cl, P.cls[cD]? = some cl ∧ cl.kind = .plain ∧ cl.init = jD ∧ cl.fnames = (["to", "start", "reach", "rest", "modulus"] : List Str)
variable {jD cD : Nat}
theorem DwnT.fld (T : DwnT P jI jN jR cB jD cR cD) {f : Str} (h : (["to", "start", "reach", "rest", "modulus"] : List Str).contains f = true) : fldOk P cD f = true := by
  obtain ⟨cl, e, k, _, q⟩ := T.c
  exact fldOk_of e k (by rw [q]; exact h)
def dueDn (p0 p1 p2 : D) : Option Str := if isI p0 0 400 then (if isI p2 1 6 then (match p2 with
  | .int m => if isI p1 0 (m - 1) then none else some "rest"
  | _ => none) else some "modulus") else some "to"
def dobj (cD : Nat) (a b c : Int) : D := .obj cD ["rest", "modulus", "to", "start", "reach"] [.int b, .int c, .int a, .int (a + 1), .int 0]
theorem dueDn_ok {a b c : Int} (ha : 0 ≤ a ∧ a ≤ 400) (hb : 0 ≤ b ∧ b ≤ c - 1) (hc : 1 ≤ c ∧ c ≤ 6) : dueDn (.int a) (.int b) (.int c) = none := by
  unfold dueDn
  rw [if_pos (isI_of ha.1 ha.2), if_pos (isI_of hc.1 hc.2)]
  dsimp only
  rw [if_pos (isI_of hb.1 hb.2)]
def dwnO (cB cD : Nat) (p0 p1 p2 : D) (S : Store) : Out D := match dueDn p0 p1 p2 with
  | some s => .er (.exc cB ["part"] [.str s]) S
  | none => (match p0, p1, p2 with
    | .int a, .int b, .int c => .ok (dobj cD a b c) S
    | _, _, _ => .stk)
theorem DwnT.down (T : DwnT P jI jN jR cB jD cR cD) {p0 p1 p2 : D} (h0 : Val P p0) (h1 : Val P p1) (h2 : Val P p2) :
    ((fsN P (n + 4)).ini jD cD [] [] [p0, p1, p2] S).bind (fun q S1 => .ok (D.obj cD q.1 q.2) S1) = dwnO cB cD p0 p1 p2 S := by
  rw [T.d.ini rfl]
  have c1 : ∀ {F : Fs} {x y z w : D} {S : Store}, callD P F jN [x, y, z, w] [] [] S = F.fn jN [x, y, z, w] S := T.n.call rfl
  have r1 := T.rested (n := n) (S := S) (c := cD) (ns := []) (fs := []) h1 h2 rfl (by decide) rfl rfl (T.fld (by decide)) (T.fld (by decide))
  unfold dwnO
  cases a : isI p0 0 400 with
  | false => simp [start0, evSs, evS, evE, evEs, Out.bind, c1, T.need h0, a, runI, dueDn]
  | true =>
    obtain ⟨q0, rfl, a1, a2⟩ := isI_int a
    cases c : isI p2 1 6 with
    | false =>
      unfold restO at r1
      rw [c] at r1
      simp [start0, evSs, evS, evE, evEs, Out.bind, c1, T.need h0, a, c, runI, dueDn, kSup, r1]
    | true =>
      obtain ⟨q2, rfl, _, _⟩ := isI_int c
      unfold restO at r1
      rw [c] at r1
      cases b : isI p1 0 (q2 - 1) with
      | false =>
        simp [b] at r1
        simp [start0, evSs, evS, evE, evEs, Out.bind, c1, T.need h0, a, b, c, runI, dueDn, kSup, r1]
      | true =>
        obtain ⟨q1, rfl, _, _⟩ := isI_int b
        simp [b] at r1
        have f1 := T.fld (f := "to") (by decide)
        have f2 := T.fld (f := "start") (by decide)
        have f3 := T.fld (f := "reach") (by decide)
        have p1 : ∀ x : D, put2 (["rest", "modulus"] : List Str) [D.int q1, .int q2] "to" x = ((["rest", "modulus", "to"] : List Str), [.int q1, .int q2, x]) := fun x => put2_new _ _ _ _ rfl rfl
        have p2 : ∀ x y : D, put2 (["rest", "modulus", "to"] : List Str) [D.int q1, .int q2, x] "start" y = ((["rest", "modulus", "to", "start"] : List Str), [.int q1, .int q2, x, y]) := fun x y => put2_new _ _ _ _ rfl rfl
        have p3 : ∀ x y z : D, put2 (["rest", "modulus", "to", "start"] : List Str) [D.int q1, .int q2, x, y] "reach" z = ((["rest", "modulus", "to", "start", "reach"] : List Str), [.int q1, .int q2, x, y, z]) := fun x y z => put2_new _ _ _ _ rfl rfl
        simp [start0, evSs, evS, evE, evEs, Out.bind, c1, T.need h0, a, b, c, runI, dueDn, kSup, r1, f1, f2, f3, p1, p2, p3, opBin, opAdd, dobj]
theorem DwnT.make (T : DwnT P jI jN jR cB jD cR cD) {ds zs : List D} {ks : List Str} {p0 p1 p2 : D} (h0 : Val P p0) (h1 : Val P p1) (h2 : Val P p2) (hk : ks.length = zs.length)
    (hb : bindG ["to", "rest", "modulus"] [("rest", D.int 0), ("modulus", .int 1)] ds (ks.zip zs) = some [p0, p1, p2]) : mkD P (fsN P (n + 4)) cD ds ks zs S = dwnO cB cD p0 p1 p2 S := by
  obtain ⟨cl, e, k, i, _⟩ := T.c
  rw [T.d.mk e k i hk hb]
  exact T.down h0 h1 h2
end
end DL
end
-- PPen
section
set_option maxHeartbeats 4000000
namespace DL
open PySem PySem.Spec L2
theorem at_lst {l : List D} {i : Int} (h : 0 ≤ i) (h2 : i < l.length) : ∃ x, x ∈ l ∧ atI l i = some x := by
  have hi : i.toNat < l.length := by omega
  refine ⟨l[i.toNat], List.getElem_mem hi, ?_⟩
  unfold atI ixN
  rw [if_pos h, if_pos h2]
  show l[i.toNat]? = _
  rw [List.getElem?_eq_getElem hi]
/-- the law's pen -/
structure PenT (P : Pg) (jn jd jp : Nat) (a b m c d m2 e f g m3 : Int) : Prop where
  fn : fnAt P jn ["_law_script"] [] 1 [.ret (.box [.bi .list [.cut (.var 0) none (some (.int 63))], .int 0, .int 0])]
  fd : fnAt P jd ["_law_pen_here", "_law_many"] [] 7 (drawR a b m c d m2 e f g m3)
  fp : fnAt P jp ["_law_pen_here", "_law_some"] [] 2 [.ret (.idx (.var 1) (.call jd [.var 0, .bi .len [.var 1]] [] []))]
  C : DrawC a b m c d m2 e f g m3
section
variable {P : Pg} {jn jd jp : Nat} {a b m c d m2 e f g m3 : Int} {xs : List Int} {R S : Store} {k : Int} {n : Nat} {F : Fs}
theorem PenT.draw (T : PenT P jn jd jp a b m c d m2 e f g m3) {many : Int} (hp : Pn xs R k S) (hk : k < 4194304) (hm : 0 < many) (hm2 : many < 1606938044258990275541962092341162602522202993782792835301376) : ∃ r S', (fsN P (n + 1)).fn jd [.box 0, .int many] S = .ok (.int r) S' ∧ Pn xs R (k + 1) S' ∧ 0 ≤ r ∧ r < many := by
  rw [T.fd.run rfl]
  exact draw_ok T.C hp hk hm hm2
theorem PenT.cd (T : PenT P jn jd jp a b m c d m2 e f g m3) {x y : D} : callD P F jd [x, y] [] [] S = F.fn jd [x, y] S := T.fd.call rfl
theorem PenT.cp (T : PenT P jn jd jp a b m c d m2 e f g m3) {x y : D} : callD P F jp [x, y] [] [] S = F.fn jp [x, y] S := T.fp.call rfl
theorem PenT.cn (T : PenT P jn jd jp a b m c d m2 e f g m3) {x : D} : callD P F jn [x] [] [] S = F.fn jn [x] S := T.fn.call rfl
theorem PenT.pick (T : PenT P jn jd jp a b m c d m2 e f g m3) {opts : List D} (hp : Pn xs R k S) (hk : k < 4194304) (h0 : 0 < opts.length) (h1 : opts.length < 1000000) : ∃ x S', x ∈ opts ∧ (fsN P (n + 2)).fn jp [.box 0, .lst opts] S = .ok x S' ∧ Pn xs R (k + 1) S' := by
  obtain ⟨r, S', e, p, h2, h3⟩ := T.draw (n := n) (many := opts.length) hp hk (by omega) (by omega)
  obtain ⟨x, hx, ex⟩ := at_lst (l := opts) h2 h3
  refine ⟨x, S', hx, ?_, p⟩
  rw [T.fp.run rfl]
  simp [start0, evSs, evS, evE, evEs, Out.bind, biD, lenD, T.cd, e, idxD, deS, ex, runB]
theorem PenT.start (T : PenT P jn jd jp a b m c d m2 e f g m3) (ns : List Int) : (fsN P (n + 1)).fn jn [.scr (ns.map D.int)] [] = .ok (.box 0) [pen (cutD ns none (some 63)) 0 0] ∧ Pn (cutD ns none (some 63)) [] 0 [pen (cutD ns none (some 63)) 0 0] := by
  have cm : cutD (ns.map D.int) none (some 63) = (cutD ns none (some 63)).map D.int := by
    unfold cutD
    rw [List.length_map, List.map_take, List.map_drop]
  refine ⟨?_, 0, 0, rfl, by decide, by decide, by decide⟩
  rw [T.fn.run rfl]
  simp [start0, evSs, evS, evE, evEs, evO, Out.bind, sliceD, biD, listD, most, runB, pen, cm]
end
/-! ### heard: an exception's part or what was given -/
theorem cons_ {P : Pg} {F : Fs} (s : RS) (r : List RS) (ρ : Ro) (S : Store) : evSs P F (s :: r) ρ S = (evS P F s ρ S).andThen fun ρ1 S1 => evSs P F r ρ1 S1 := rfl
theorem seq1 {P : Pg} {F : Fs} {s : RS} {r : List RS} {ρ ρ1 : Ro} {S S1 : Store} (h : evS P F s ρ S = .nx ρ1 S1) : evSs P F (s :: r) ρ S = evSs P F r ρ1 S1 := by
  rw [cons_, h]
  rfl
/-- a loop by an invariant -/
theorem for_inv {i : Nat} {b : Ro → Store → OutS} (I : Nat → Ro → Store → Prop) : ∀ (ds : List D) (t : Nat) (ρ : Ro) (S : Store), I t ρ S → (∀ k d ρ S, ds[k]? = some d → I (t + k) ρ S → ∃ ρ' S', b (ρ.set i (some (.sh d))) S = .nx ρ' S' ∧ I (t + k + 1) ρ' S') → ∃ ρ' S', forL i b ds ρ S = .nx ρ' S' ∧ I (t + ds.length) ρ' S'
  | [], t, ρ, S, h, _ => ⟨ρ, S, rfl, h⟩
  | d :: ds, t, ρ, S, h, hb => by
    obtain ⟨ρ1, S1, e1, i1⟩ := hb 0 d ρ S rfl h
    obtain ⟨ρ2, S2, e2, i2⟩ := for_inv I ds (t + 1) ρ1 S1 i1 fun k x ρ S hx hi => by
      have q := hb (k + 1) x ρ S (by simpa using hx)
      have e : t + (k + 1) = t + 1 + k := by omega
      rw [e] at q
      exact q hi
    refine ⟨ρ2, S2, ?_, ?_⟩
    · unfold forL
      rw [e1]
      exact e2
    · rw [List.length_cons]
      have e : t + (ds.length + 1) = t + 1 + ds.length := by omega
      rw [e]
      exact i2
end DL
end
-- PRep
section
set_option maxHeartbeats 4000000
namespace DL
open PySem PySem.Spec L2
theorem sok_join : ∀ ts : List Str, (∀ t ∈ ts, PySem.PyData.strOk t = true) → PySem.PyData.strOk (Str.join ", " ts) = true
  | [], _ => (by decide +kernel)
  | [t], h => h t (List.mem_cons_self ..)
  | t :: u :: r, h => by
    show PySem.PyData.strOk (t ++ ", " ++ Str.join ", " (u :: r)) = true
    exact sok_app (sok_app (h t (List.mem_cons_self ..)) (sok_of _)) (sok_join (u :: r) fun x hx => h x (List.mem_cons_of_mem _ hx))
theorem sok_tuple {ts : List Str} (ht : ∀ t ∈ ts, PySem.PyData.strOk t = true) : PySem.PyData.strOk (tupleText ts) = true := by
  unfold tupleText
  first
    | exact sok_app (sok_app (sok_of _) (sok_join ts ht)) (sok_of _)
    | exact sok_app (sok_from ts 0 _ (sok_of _) ht) (sok_of _)
/-! ### repr of plain data -/
mutual
def Nice : D → Prop
  | .non => True
  | .bl _ => True
  | .int i => i.natAbs < 10 ^ 50
  | .str s => PySem.PyData.strOk (PyData.shown (.str s)) = true ∧ (PyData.shown (.str s)).length ≤ 100
  | .tup xs => NiceL xs
  | .lst xs => NiceL xs
  | _ => False
def NiceL : List D → Prop
  | [] => True
  | d :: ds => Nice d ∧ NiceL ds
end
mutual
def wt : D → Nat
  | .tup xs => wtL xs + 3
  | .lst xs => wtL xs + 3
  | _ => 100
def wtL : List D → Nat
  | [] => 0
  | d :: ds => wt d + 2 + wtL ds
end
mutual
def dpt : D → Nat
  | .tup xs => dptL xs + 1
  | .lst xs => dptL xs + 1
  | _ => 0
def dptL : List D → Nat
  | [] => 0
  | d :: ds => max (dpt d) (dptL ds)
end
theorem int_len {i : Int} (h : i.natAbs < 10 ^ 50) : (PyData.shown (.int i)).length ≤ 51 ∧ i.natAbs.log2 < 1920 := by
  refine ⟨?_, ?_⟩
  · have e := int_text_length_le10 (k := 50) (by decide) h
    show (Str.ofString (toString i)).length ≤ 51
    rw [ofString_length]
    exact e
  · by_cases z : i.natAbs = 0
    · rw [z]
      decide
    · have : i.natAbs.log2 < 200 := by
        rw [Nat.log2_lt z]
        have e : (10 : Nat) ^ 50 < 2 ^ 200 := by decide +kernel
        omega
      omega
mutual
theorem nice_py : ∀ d : D, Nice d → ∃ p, d.py = some p ∧ p.showable = true ∧ p.hasDict = false ∧ p.depth = dpt d ∧ p.shown.length ≤ wt d ∧ PySem.PyData.strOk p.shown = true
  | .non, _ => ⟨.none, rfl, rfl, rfl, rfl, (by decide), (by decide +kernel)⟩
  | .bl b, _ => ⟨.bool b, rfl, rfl, rfl, rfl, (by cases b <;> decide), (by cases b <;> decide +kernel)⟩
  | .int i, h => by
    unfold Nice at h
    obtain ⟨h1, h2⟩ := int_len h
    refine ⟨.int i, rfl, ?_, rfl, rfl, ?_, ?_⟩
    · rw [PyData.showable]
      exact decide_eq_true h2
    · show _ ≤ 100
      omega
    · rw [PyData.shown]
      exact sok_of _
  | .str s, h => by
    unfold Nice at h
    exact ⟨.str s, rfl, rfl, rfl, rfl, h.2, h.1⟩
  | .tup xs, h => by
    unfold Nice at h
    obtain ⟨ps, e, h1, h2, h3, h4, h5, h6⟩ := niceL_py xs h
    refine ⟨.tuple ps, ?_, ?_, ?_, ?_, ?_, ?_⟩
    · rw [D.py, e]
    · rw [PyData.showable]
      exact h1
    · rw [PyData.hasDict]
      exact h2
    · rw [PyData.depth, h3, dpt]
    · rw [PyData.shown, wt]
      have := tupleText_len_le (PyData.shownAll ps)
      omega
    · rw [PyData.shown]
      exact sok_tuple h6
  | .lst xs, h => by
    unfold Nice at h
    obtain ⟨ps, e, h1, h2, h3, h4, h5, h6⟩ := niceL_py xs h
    refine ⟨.list ps, ?_, ?_, ?_, ?_, ?_, ?_⟩
    · rw [D.py, e]
    · rw [PyData.showable]
      exact h1
    · rw [PyData.hasDict]
      exact h2
    · rw [PyData.depth, h3, dpt]
    · rw [PyData.shown, wt]
      have := listText_len_le (PyData.shownAll ps)
      omega
    · rw [PyData.shown]
      exact sok_list h6
  | .scr _, h => by unfold Nice at h; exact h.elim
  | .dct _ _, h => by unfold Nice at h; exact h.elim
  | .obj _ _ _, h => by unfold Nice at h; exact h.elim
  | .exc _ _ _, h => by unfold Nice at h; exact h.elim
  | .box _, h => by unfold Nice at h; exact h.elim
  | .cls _, h => by unfold Nice at h; exact h.elim
  | .ty _, h => by unfold Nice at h; exact h.elim
theorem niceL_py : ∀ ds : List D, NiceL ds → ∃ ps, pyL ds = some ps ∧ PyData.showableAll ps = true ∧ PyData.hasDictAll ps = false ∧ PyData.depthAll ps = dptL ds ∧ ((PyData.shownAll ps).map (·.length)).sum + 2 * (PyData.shownAll ps).length ≤ wtL ds ∧ True ∧ ∀ t ∈ PyData.shownAll ps, PySem.PyData.strOk t = true
  | [], _ => ⟨[], rfl, rfl, rfl, rfl, Nat.le_refl _, trivial, fun t h => by cases h⟩
  | d :: ds, h => by
    unfold NiceL at h
    obtain ⟨p, e1, a1, a2, a3, a4, a5⟩ := nice_py d h.1
    obtain ⟨ps, e2, b1, b2, b3, b4, _, b6⟩ := niceL_py ds h.2
    refine ⟨p :: ps, ?_, ?_, ?_, ?_, ?_, trivial, fun t ht => ?_⟩
    · rw [pyL, e1, e2]
    · rw [PyData.showableAll, a1, b1]
      rfl
    · rw [PyData.hasDictAll, a2, b2]
      rfl
    · rw [PyData.depthAll, a3, b3, dptL]
    · rw [PyData.shownAll, wtL, List.map_cons, List.sum_cons, List.length_cons]
      omega
    · rw [PyData.shownAll] at ht
      rcases List.mem_cons.mp ht with z | z
      · rw [z]
        exact a5
      · exact b6 t z
end
theorem rep_nice {d : D} (h : Nice d) (h1 : dpt d ≤ 20) (h2 : wt d ≤ most) : ∃ s, reprD d = some s ∧ PySem.PyData.strOk s = true := by
  obtain ⟨p, e, a1, a2, a3, a4, a5⟩ := nice_py d h
  refine ⟨p.shown, ?_, a5⟩
  unfold reprD
  rw [e]
  dsimp only
  rw [if_pos]
  rw [a1, a2, a3]
  simp only [Bool.not_false, Bool.true_or, Bool.true_and, Bool.and_eq_true, decide_eq_true_eq]
  exact ⟨h1, by omega⟩
theorem eqD_refl {s : Str} (ok : PySem.PyData.strOk s = true) : eqD (.str s) (.str s) = some true := by
  rw [eqD_str ok ok]
  simp
end DL
end
-- PPart
section
set_option maxHeartbeats 4000000
namespace DL
open PySem PySem.Spec L2
theorem eqD_int (a b : Int) : eqD (.int a) (.int b) = some (decide (a = b)) := by
  unfold eqD
  show (if SeqAt.shaped (.int a) && SeqAt.shaped (.int b) then some (PyData.eqv (.int a) (.int b)) else none) = _
  have h : ∀ i : Int, SeqAt.shaped (.int i) = true := fun i => rfl
  rw [h, h]
  show some (a == b) = _
  congr 1
theorem eqD_bl (a b : Bool) : eqD (.bl a) (.bl b) = some (a == b) := by
  cases a <;> cases b <;> decide +kernel
theorem at4 (a b c d e : D) (l : List D) : atI (a :: b :: c :: d :: e :: l) 4 = some e := by
  unfold atI ixN
  simp
  rw [if_pos (by omega)]
  rfl
/-! ### the parts of a rule, the rule -/
def pD (t r m : Int) : D := .tup [.str "down", .int t, .int r, .int m, .int 0]
def pF (s r m l : Int) : D := .tup [.str "fixed", .int s, .int r, .int m, .int l]
/-- parts and the rule that they make -/
def Part (cF cD : Nat) (p o : D) : Prop := (∃ t r m : Int, p = pD t r m ∧ o = dobj cD t r m ∧ (0 ≤ t ∧ t ≤ 400) ∧ (0 ≤ r ∧ r ≤ m - 1) ∧ (1 ≤ m ∧ m ≤ 6)) ∨ ∃ s r m l : Int, p = pF s r m l ∧ o = fobj cF s r m l ∧ (1 ≤ s ∧ s ≤ 400) ∧ (0 ≤ r ∧ r ≤ m - 1) ∧ (1 ≤ m ∧ m ≤ 6) ∧ (0 ≤ l ∧ l ≤ 400)
theorem eq_dd : eqD (.str "down") (.str "down") = some true := by decide +kernel
theorem eq_fd : eqD (.str "fixed") (.str "down") = some false := by decide +kernel
theorem eq_ff : eqD (.str "fixed") (.str "fixed") = some true := by decide +kernel
theorem eq_df : eqD (.str "down") (.str "fixed") = some false := by decide +kernel
def ruleR (cF cD : Nat) : List RS := [.ifs (.cmp .Eq (.idx (.var 0) (.int 0)) (.str "down")) [.ret (.mk cD [.idx (.var 0) (.int 1), .idx (.var 0) (.int 2), .idx (.var 0) (.int 3)] [] [])] [],
  .ret (.mk cF [.idx (.var 0) (.int 1), .idx (.var 0) (.int 2), .idx (.var 0) (.int 3), .idx (.var 0) (.int 4)] [] [])]
def partsR (jd jp : Nat) : List RS := [.asg 2 (.call jp [.var 0, .lst [.int 1, .int 1, .int 2, .int 3, .int 4, .int 5, .int 6]] [] []),
  .par [3, 4] [.call jd [.var 0, .var 2] [] [], .call jd [.var 0, .var 1] [] []],
  .ifs (.cmp .Eq (.call jd [.var 0, .int 3] [] []) (.int 0)) [.ret (.tup [.str "down", .var 4, .var 3, .var 2, .int 0])] [],
  .ret (.tup [.str "fixed", .bin .Add (.int 1) (.var 4), .var 3, .var 2, .call jp [.var 0, .lst [.int 0, .int 0, .int 0, .int 1, .int 2, .call jd [.var 0, .var 1] [] []]] [] []])]
section
variable {P : Pg} {xs : List Int} {R S : Store} {k : Int} {n jI jN jR cB jS jF cS cR cF jD cD j jn jd jp : Nat} {a b m c d m2 e f g m3 : Int}
theorem int_v {i : Int} : Val P (.int i) := .inl rfl
theorem rule_ok (fT : FixT P jI jN jR cB jS jF cS cR cF) (dT : DwnT P jI jN jR cB jD cR cD) {ps : List Str} (J : fnAt P j ps [] 1 (ruleR cF cD)) (hps : ps.length = 1) {p o : D} (h : Part cF cD p o) : (fsN P (n + 5)).fn j [p] S = .ok o S := by
  rw [J.run (by rw [hps]; rfl)]
  rcases h with ⟨t, r, m, rfl, rfl, h1, h2, h3⟩ | ⟨s, r, m, l, rfl, rfl, h1, h2, h3, h4⟩
  · have mk : mkD P (fsN P (n + 4)) cD [.int t, .int r, .int m] [] [] S = .ok (dobj cD t r m) S := (dT.make int_v int_v int_v rfl rfl).trans (by unfold dwnO; rw [dueDn_ok h1 h2 h3])
    simp [ruleR, pD, start0, evSs, evS, evE, evEs, evT, Out.bind, idxD, at0, at1, at2, at3, cmpD, D.isObj, opCmp, deS, eq_dd, truD, mk, runB]
  · have mk : mkD P (fsN P (n + 4)) cF [.int s, .int r, .int m, .int l] [] [] S = .ok (fobj cF s r m l) S := (fT.make int_v int_v int_v int_v rfl rfl).trans (by unfold fixO; rw [dueF_ok h1 h2 h3 h4])
    simp [ruleR, pF, start0, evSs, evS, evE, evEs, evT, Out.bind, idxD, at0, at1, at2, at3, at4, cmpD, D.isObj, opCmp, deS, eq_fd, truD, mk, runB]
/-- parts that are drawn -/
def PartM (most : Int) (p : D) : Prop := (∃ t r m : Int, p = pD t r m ∧ (0 ≤ t ∧ t < most) ∧ (0 ≤ r ∧ r ≤ m - 1) ∧ (1 ≤ m ∧ m ≤ 6)) ∨ ∃ s r m l : Int, p = pF s r m l ∧ (1 ≤ s ∧ s ≤ most) ∧ (0 ≤ r ∧ r ≤ m - 1) ∧ (1 ≤ m ∧ m ≤ 6) ∧ (0 ≤ l ∧ (l ≤ 2 ∨ l < most))
theorem parts_ok (T : PenT P jn jd jp a b m c d m2 e f g m3) {ps : List Str} (J : fnAt P j ps [] 5 (partsR jd jp)) (hps : ps.length = 2) {most : Int} (hm1 : 0 < most ∧ most ≤ 400) (hp : Pn xs R k S) (hk : k + 20 < 4194304) : ∃ p S', PartM most p ∧ (fsN P (n + 3)).fn j [.box 0, .int most] S = .ok p S' ∧ Pn xs R (k + 6) S' := by
  obtain ⟨x1, S1, hx1, e1, q1⟩ := T.pick (n := n) (opts := [.int 1, .int 1, .int 2, .int 3, .int 4, .int 5, .int 6]) hp (by omega) (by simp) (by simp)
  obtain ⟨m, hm', m1, m2⟩ : ∃ m : Int, x1 = .int m ∧ 1 ≤ m ∧ m ≤ 6 := by
    simp only [List.mem_cons, List.not_mem_nil, or_false] at hx1
    rcases hx1 with rfl | rfl | rfl | rfl | rfl | rfl | rfl <;> exact ⟨_, rfl, by decide, by decide⟩
  subst hm'
  obtain ⟨r, S2, e2, q2, r1, r2⟩ := T.draw (n := n + 1) (many := m) q1 (by omega) (by omega) (by omega)
  obtain ⟨t, S3, e3, q3, t1, t2⟩ := T.draw (n := n + 1) (many := most) q2 (by omega) (by omega) (by omega)
  obtain ⟨c, S4, e4, q4, c1, c2⟩ := T.draw (n := n + 1) (many := 3) q3 (by omega) (by decide) (by decide)
  have f1 : evS P (fsN P (n + 2)) (.asg 2 (.call jp [.var 0, .lst [.int 1, .int 1, .int 2, .int 3, .int 4, .int 5, .int 6]] [] [])) (start0 5 [.box 0, .int most]) S = .nx [some (.sh (.box 0)), some (.sh (.int most)), some (.sh (.int m)), none, none] S1 := by
    simp [start0, evS, evE, evEs, Out.bind, T.cp, e1, DL.most]
  have f2 : evS P (fsN P (n + 2)) (.par [3, 4] [.call jd [.var 0, .var 2] [] [], .call jd [.var 0, .var 1] [] []]) [some (.sh (.box 0)), some (.sh (.int most)), some (.sh (.int m)), none, none] S1 = .nx [some (.sh (.box 0)), some (.sh (.int most)), some (.sh (.int m)), some (.sh (.int r)), some (.sh (.int t))] S3 := by
    simp [evS, evE, evEs, Out.bind, T.cd, e2, e3, setAll]
  by_cases hc : c = 0
  · subst hc
    refine ⟨pD t r m, S4, .inl ⟨t, r, m, rfl, ⟨t1, t2⟩, ⟨r1, by omega⟩, m1, m2⟩, ?_, q4.mono (by omega)⟩
    rw [J.run (by rw [hps]; rfl)]
    unfold partsR
    rw [seq1 f1, seq1 f2]
    simp [evSs, evS, evE, evEs, evT, Out.bind, T.cd, e4, cmpD, D.isObj, opCmp, deS, eqD_int, truD, DL.most, runB, pD]
  · obtain ⟨v, S5, e5, q5, v1, v2⟩ := T.draw (n := n + 1) (many := most) q4 (by omega) (by omega) (by omega)
    obtain ⟨x6, S6, hx6, e6, q6⟩ := T.pick (n := n) (opts := [.int 0, .int 0, .int 0, .int 1, .int 2, .int v]) q5 (by omega) (by simp) (by simp)
    obtain ⟨l, hl', l1, l2⟩ : ∃ l : Int, x6 = .int l ∧ 0 ≤ l ∧ (l ≤ 2 ∨ l < most) := by
      simp only [List.mem_cons, List.not_mem_nil, or_false] at hx6
      rcases hx6 with rfl | rfl | rfl | rfl | rfl | rfl
      · exact ⟨_, rfl, by decide, .inl (by decide)⟩
      · exact ⟨_, rfl, by decide, .inl (by decide)⟩
      · exact ⟨_, rfl, by decide, .inl (by decide)⟩
      · exact ⟨_, rfl, by decide, .inl (by decide)⟩
      · exact ⟨_, rfl, by decide, .inl (by decide)⟩
      · exact ⟨_, rfl, v1, .inr v2⟩
    subst hl'
    refine ⟨pF (1 + t) r m l, S6, .inr ⟨1 + t, r, m, l, rfl, ⟨by omega, by omega⟩, ⟨r1, by omega⟩, ⟨m1, m2⟩, l1, l2⟩, ?_, q6.mono (by omega)⟩
    rw [J.run (by rw [hps]; rfl)]
    unfold partsR
    rw [seq1 f1, seq1 f2]
    simp [evSs, evS, evE, evEs, evT, Out.bind, T.cd, T.cp, e4, e5, e6, cmpD, D.isObj, opCmp, deS, eqD_int, hc, truD, DL.most, runB, pF, opBin, opAdd]
/-! ### == of rules -/
def eqFR (cF : Nat) : List RS := [.ifs (.or [.not (.bi .isinst [.var 1, .gcls "Fixed" cF]), .cmp .NotEq (.fld (.var 0) "size") (.fld (.var 1) "size"), .cmp .NotEq (.fld (.var 0) "leave") (.fld (.var 1) "leave")]) [.ret (.bl false)] [],
  .ret (.and [.cmp .Eq (.fld (.var 0) "rest") (.fld (.var 1) "rest"), .cmp .Eq (.fld (.var 0) "modulus") (.fld (.var 1) "modulus")])]
def eqDR (cD : Nat) : List RS := [.ifs (.or [.not (.bi .isinst [.var 1, .gcls "Down" cD]), .cmp .NotEq (.fld (.var 0) "to") (.fld (.var 1) "to")]) [.ret (.bl false)] [],
  .ret (.and [.cmp .Eq (.fld (.var 0) "rest") (.fld (.var 1) "rest"), .cmp .Eq (.fld (.var 0) "modulus") (.fld (.var 1) "modulus")])]
/-- the two classes and their == -/
structure EqT (P : Pg) (cF cD jf jd : Nat) : Prop where
  f : fnAt P jf ["self", "other"] [] 2 (eqFR cF)
  d : fnAt P jd ["self", "other"] [] 2 (eqDR cD)
  kF : ∃ cl, P.cls[cF]? = some cl ∧ cl.kind = .plain ∧ cl.fnames = (["start", "reach", "size", "leave", "rest", "modulus"] : List Str) ∧ cl.anc.contains cF = true ∧ cl.anc.contains cD = false ∧ cl.meths.lookup ("__eq__" : Str) = some jf
  kD : ∃ cl, P.cls[cD]? = some cl ∧ cl.kind = .plain ∧ cl.fnames = (["to", "start", "reach", "rest", "modulus"] : List Str) ∧ cl.anc.contains cD = true ∧ cl.anc.contains cF = false ∧ cl.meths.lookup ("__eq__" : Str) = some jd
variable {jf jd' : Nat}
section
variable {s r m l s' r' m' l' t t' : Int}
theorem EqT.fF (T : EqT P cF cD jf jd') {f : Str} {i : Nat} (hf : (["size", "leave", "rest", "modulus", "start", "reach"] : List Str)[i]? = some f) (hf2 : (["start", "reach", "size", "leave", "rest", "modulus"] : List Str).contains f = true) {x : D} (hx : lk2 (["size", "leave", "rest", "modulus", "start", "reach"] : List Str) [.int s, .int l, .int r, .int m, .int (s + l), .int s] f = some x) : fldD P (fobj cF s r m l) f S = .ok x S := by
  obtain ⟨cl, e, k, q, _⟩ := T.kF
  have h : fldOk P cF f = true := fldOk_of e k (by rw [q]; exact hf2)
  unfold fobj fldD
  dsimp only
  rw [if_pos h, hx]
theorem EqT.fD (T : EqT P cF cD jf jd') {f : Str} (hf2 : (["to", "start", "reach", "rest", "modulus"] : List Str).contains f = true) {x : D} (hx : lk2 (["rest", "modulus", "to", "start", "reach"] : List Str) [.int r, .int m, .int t, .int (t + 1), .int 0] f = some x) : fldD P (dobj cD t r m) f S = .ok x S := by
  obtain ⟨cl, e, k, q, _⟩ := T.kD
  have h : fldOk P cD f = true := fldOk_of e k (by rw [q]; exact hf2)
  unfold dobj fldD
  dsimp only
  rw [if_pos h, hx]
theorem EqT.isFF (T : EqT P cF cD jf jd') : isiD P (fobj cF s r m l) (.cls cF) = some true := by
  obtain ⟨cl, e, k, q, a1, a2, _⟩ := T.kF
  simp only [isiD, isi1, isiCls, fobj, clsOf, e, k, Kd.pl, if_true, a1]
theorem EqT.isDF (T : EqT P cF cD jf jd') : isiD P (dobj cD t r m) (.cls cF) = some false := by
  obtain ⟨cl, e, k, q, a1, a2, _⟩ := T.kD
  obtain ⟨cl2, e2, _⟩ := T.kF
  simp only [isiD, isi1, isiCls, dobj, clsOf, e, e2, k, Kd.pl, if_true, a2]
theorem EqT.isDD (T : EqT P cF cD jf jd') : isiD P (dobj cD t r m) (.cls cD) = some true := by
  obtain ⟨cl, e, k, q, a1, a2, _⟩ := T.kD
  simp only [isiD, isi1, isiCls, dobj, clsOf, e, k, Kd.pl, if_true, a1]
theorem EqT.isFD (T : EqT P cF cD jf jd') : isiD P (fobj cF s r m l) (.cls cD) = some false := by
  obtain ⟨cl, e, k, q, a1, a2, _⟩ := T.kF
  obtain ⟨cl2, e2, _⟩ := T.kD
  simp only [isiD, isi1, isiCls, fobj, clsOf, e, e2, k, Kd.pl, if_true, a2]
theorem EqT.isX (T : EqT P cF cD jf jd') {x : D} (h : x.tyName.isSome = true) : isiD P x (.cls cF) = some false ∧ isiD P x (.cls cD) = some false := by
  obtain ⟨cl1, e1, _⟩ := T.kF
  obtain ⟨cl2, e2, _⟩ := T.kD
  cases x <;> first | (exfalso; simp [D.tyName] at h; done) | (simp [isiD, isi1, isiCls, e1, e2, clsOf, D.tyName])
theorem EqT.ff (T : EqT P cF cD jf jd') : (fsN P (n + 1)).fn jf [fobj cF s r m l, fobj cF s' r' m' l'] S = .ok (.bl (decide (s = s' ∧ l = l' ∧ r = r' ∧ m = m'))) S := by
  rw [T.f.run rfl]
  have a1 := fun {s r m l : Int} {S : Store} => T.fF (s := s) (r := r) (m := m) (l := l) (S := S) (f := "size") (i := 0) rfl rfl rfl
  have a2 := fun {s r m l : Int} {S : Store} => T.fF (s := s) (r := r) (m := m) (l := l) (S := S) (f := "leave") (i := 1) rfl rfl rfl
  have a3 := fun {s r m l : Int} {S : Store} => T.fF (s := s) (r := r) (m := m) (l := l) (S := S) (f := "rest") (i := 2) rfl rfl rfl
  have a4 := fun {s r m l : Int} {S : Store} => T.fF (s := s) (r := r) (m := m) (l := l) (S := S) (f := "modulus") (i := 3) rfl rfl rfl
  by_cases h1 : s = s' <;> by_cases h2 : l = l' <;> by_cases h3 : r = r' <;> simp [eqFR, start0, evSs, evS, evE, evEs, evT, evOr, evAnd, Out.bind, biD, isD, T.isFF, truD, a1, a2, a3, a4, cmpD, D.isObj, opCmp, deS, eqD_int, runB, h1, h2, h3]
theorem EqT.dd (T : EqT P cF cD jf jd') : (fsN P (n + 1)).fn jd' [dobj cD t r m, dobj cD t' r' m'] S = .ok (.bl (decide (t = t' ∧ r = r' ∧ m = m'))) S := by
  rw [T.d.run rfl]
  have a1 := fun {t r m : Int} {S : Store} => T.fD (t := t) (r := r) (m := m) (S := S) (f := "to") rfl rfl
  have a3 := fun {t r m : Int} {S : Store} => T.fD (t := t) (r := r) (m := m) (S := S) (f := "rest") rfl rfl
  have a4 := fun {t r m : Int} {S : Store} => T.fD (t := t) (r := r) (m := m) (S := S) (f := "modulus") rfl rfl
  by_cases h1 : t = t' <;> by_cases h3 : r = r' <;> simp [eqDR, start0, evSs, evS, evE, evEs, evT, evOr, evAnd, Out.bind, biD, isD, T.isDD, truD, a1, a3, a4, cmpD, D.isObj, opCmp, deS, eqD_int, runB, h1, h3]
theorem EqT.fx (T : EqT P cF cD jf jd') {x : D} (h : isiD P x (.cls cF) = some false) : (fsN P (n + 1)).fn jf [fobj cF s r m l, x] S = .ok (.bl false) S := by
  rw [T.f.run rfl]
  simp [eqFR, start0, evSs, evS, evE, evEs, evT, evOr, Out.bind, biD, isD, h, truD, runB]
theorem EqT.dx (T : EqT P cF cD jf jd') {x : D} (h : isiD P x (.cls cD) = some false) : (fsN P (n + 1)).fn jd' [dobj cD t r m, x] S = .ok (.bl false) S := by
  rw [T.d.run rfl]
  simp [eqDR, start0, evSs, evS, evE, evEs, evT, evOr, Out.bind, biD, isD, h, truD, runB]
theorem EqT.eF (T : EqT P cF cD jf jd') : eqJ P (fobj cF s r m l) = some (cF, jf) := by
  obtain ⟨cl, e, k, q, a1, a2, a3⟩ := T.kF
  simp only [eqJ, fobj, e, k, Kd.pl, if_true, a3]
theorem EqT.eD (T : EqT P cF cD jf jd') : eqJ P (dobj cD t r m) = some (cD, jd') := by
  obtain ⟨cl, e, k, q, a1, a2, a3⟩ := T.kD
  simp only [eqJ, dobj, e, k, Kd.pl, if_true, a3]
theorem EqT.nF (T : EqT P cF cD jf jd') : nfB P cF (fobj cF s r m l) = true ∧ nfB P cD (fobj cF s r m l) = true := by
  obtain ⟨cl, e, k, q, a1, a2, a3⟩ := T.kF
  have a2' : ¬ cD ∈ cl.anc := by simpa using a2
  constructor <;> simp [nfB, fobj, e, k, Kd.pl, a2']
theorem EqT.nD (T : EqT P cF cD jf jd') : nfB P cF (dobj cD t r m) = true ∧ nfB P cD (dobj cD t r m) = true := by
  obtain ⟨cl, e, k, q, a1, a2, a3⟩ := T.kD
  have a2' : ¬ cF ∈ cl.anc := by simpa using a2
  constructor <;> simp [nfB, dobj, e, k, Kd.pl, a2']
theorem nf_data {x : D} {c : Nat} (h : x.tyName.isSome = true) : nfB P c x = true := by
  cases x <;> first | rfl | (exfalso; simp [D.tyName] at h; done)
end
theorem own_l {x y : D} {c j : Nat} {b : Bool} {F : Fs} (ho : x.isObj = true) (h1 : eqJ P x = some (c, j)) (h2 : nfB P c y = true) (h3 : F.fn j [x, y] S = .ok (.bl b) S) : cmpD P F .Eq x y S = .ok (.bl b) S ∧ cmpD P F .NotEq x y S = .ok (.bl (!b)) S := by
  unfold cmpD ownEq
  rw [ho, h1]
  dsimp only
  rw [h2, h3]
  exact ⟨rfl, rfl⟩
theorem own_r {x y : D} {c j : Nat} {b : Bool} {F : Fs} (ho : x.tyName.isSome = true) (hy : y.isObj = true) (h1 : eqJ P y = some (c, j)) (h3 : F.fn j [y, x] S = .ok (.bl b) S) : cmpD P F .Eq x y S = .ok (.bl b) S ∧ cmpD P F .NotEq x y S = .ok (.bl (!b)) S := by
  have n1 : eqJ P x = none := by
    cases x <;> first | rfl | (exfalso; simp [D.tyName] at ho; done)
  unfold cmpD ownEq
  rw [hy, n1, h1, Bool.or_true]
  dsimp only
  rw [ho, h3]
  exact ⟨rfl, rfl⟩
theorem eqD_parts {a b : Str} (ha : PySem.PyData.strOk a = true) (hb : PySem.PyData.strOk b = true) (x1 x2 x3 x4 y1 y2 y3 y4 : Int) : eqD (.tup [.str a, .int x1, .int x2, .int x3, .int x4]) (.tup [.str b, .int y1, .int y2, .int y3, .int y4]) = some (a == b && decide (x1 = y1 ∧ x2 = y2 ∧ x3 = y3 ∧ x4 = y4)) := by
  by_cases h1 : x1 = y1 <;> by_cases h2 : x2 = y2 <;> by_cases h3 : x3 = y3 <;> by_cases h4 : x4 = y4 <;> simp [eqD, D.py, pyL, SeqAt.shaped, PyData.canLay0, PyData.canLayAll0, PyData.depth, PyData.depthAll, PyData.eqv, PyData.eqvAll, ha, hb, h1, h2, h3, h4]
/-- two rules are equal as their parts are -/
theorem eq_rules (T : EqT P cF cD jf jd') {p o p' o' : D} (h : Part cF cD p o) (h' : Part cF cD p' o') : ∃ b, eqD p p' = some b ∧ ∀ (n : Nat) (S : Store), cmpD P (fsN P (n + 1)) .Eq o o' S = .ok (.bl b) S ∧ cmpD P (fsN P (n + 1)) .NotEq o o' S = .ok (.bl (!b)) S ∧ cmpD P (fsN P (n + 1)) .Eq o' o S = .ok (.bl b) S := by
  have sd : PySem.PyData.strOk ("down" : Str) = true := by decide +kernel
  have sf : PySem.PyData.strOk ("fixed" : Str) = true := by decide +kernel
  have n1 : (("down" : Str) == "fixed") = false := by decide
  have n2 : (("fixed" : Str) == "down") = false := by decide
  rcases h with ⟨t, r, m, rfl, rfl, _⟩ | ⟨s, r, m, l, rfl, rfl, _⟩ <;> rcases h' with ⟨t', r', m', rfl, rfl, _⟩ | ⟨s', r', m', l', rfl, rfl, _⟩
  · refine ⟨decide (t = t' ∧ r = r' ∧ m = m'), ?_, fun n S => ?_⟩
    · unfold pD
      rw [eqD_parts sd sd]
      simp
    · obtain ⟨a1, a2⟩ := own_l (F := fsN P (n + 1)) (S := S) rfl T.eD (T.nD (t := t') (r := r') (m := m')).2 (T.dd (t := t) (r := r) (m := m) (n := n) (S := S))
      obtain ⟨a3, _⟩ := own_l (F := fsN P (n + 1)) (S := S) rfl T.eD (T.nD (t := t) (r := r) (m := m)).2 (T.dd (t := t') (r := r') (m := m') (n := n) (S := S))
      refine ⟨a1, a2, a3.trans ?_⟩
      congr 3
      apply propext
      constructor <;> rintro ⟨h1, h2, h3⟩ <;> exact ⟨h1.symm, h2.symm, h3.symm⟩
  · refine ⟨false, ?_, fun n S => ?_⟩
    · unfold pD pF
      rw [eqD_parts sd sf, n1]
      rfl
    · obtain ⟨a1, a2⟩ := own_l (F := fsN P (n + 1)) (S := S) rfl T.eD (T.nF (s := s') (r := r') (m := m') (l := l')).2 (T.dx (t := t) (r := r) (m := m) (n := n) (S := S) T.isFD)
      obtain ⟨a3, _⟩ := own_l (F := fsN P (n + 1)) (S := S) rfl T.eF (T.nD (t := t) (r := r) (m := m)).1 (T.fx (s := s') (r := r') (m := m') (l := l') (n := n) (S := S) T.isDF)
      exact ⟨a1, a2, a3⟩
  · refine ⟨false, ?_, fun n S => ?_⟩
    · unfold pD pF
      rw [eqD_parts sf sd, n2]
      rfl
    · obtain ⟨a1, a2⟩ := own_l (F := fsN P (n + 1)) (S := S) rfl T.eF (T.nD (t := t') (r := r') (m := m')).1 (T.fx (s := s) (r := r) (m := m) (l := l) (n := n) (S := S) T.isDF)
      obtain ⟨a3, _⟩ := own_l (F := fsN P (n + 1)) (S := S) rfl T.eD (T.nF (s := s) (r := r) (m := m) (l := l)).2 (T.dx (t := t') (r := r') (m := m') (n := n) (S := S) T.isFD)
      exact ⟨a1, a2, a3⟩
  · refine ⟨decide (s = s' ∧ l = l' ∧ r = r' ∧ m = m'), ?_, fun n S => ?_⟩
    · unfold pF
      rw [eqD_parts sf sf]
      simp only [beq_self_eq_true, Bool.true_and, Option.some.injEq, decide_eq_decide]
      constructor <;> rintro ⟨h1, h2, h3, h4⟩
      · exact ⟨h1, h4, h2, h3⟩
      · exact ⟨h1, h3, h4, h2⟩
    · obtain ⟨a1, a2⟩ := own_l (F := fsN P (n + 1)) (S := S) rfl T.eF (T.nF (s := s') (r := r') (m := m') (l := l')).1 (T.ff (s := s) (r := r) (m := m) (l := l) (n := n) (S := S))
      obtain ⟨a3, _⟩ := own_l (F := fsN P (n + 1)) (S := S) rfl T.eF (T.nF (s := s) (r := r) (m := m) (l := l)).1 (T.ff (s := s') (r := r') (m := m') (l := l') (n := n) (S := S))
      refine ⟨a1, a2, a3.trans ?_⟩
      congr 3
      apply propext
      constructor <;> rintro ⟨h1, h2, h3, h4⟩ <;> exact ⟨h1.symm, h2.symm, h3.symm, h4.symm⟩
end
/-! ### texts -/
theorem evJ_one {P : Pg} {F : Fs} {e : RE} {es : List RE} {acc y : Str} {ρ : Ro} {S S1 : Store} (h : evE P F e ρ S = .ok (.str y) S1) (hl : acc.length + y.length ≤ most) : evJ P F (e :: es) acc ρ S = evJ P F es (acc ++ y) ρ S1 := by
  show (evE P F e ρ S).bind _ = _
  rw [h]
  show (if (acc ++ y).length ≤ most then _ else _) = _
  rw [if_pos]
  rw [strLen_append]
  exact hl
theorem evJ_all {P : Pg} {F : Fs} {ρ : Ro} {S : Store} (B : Nat) : ∀ (es : List RE) (acc : Str), (∀ e ∈ es, ∃ y, evE P F e ρ S = .ok (.str y) S ∧ y.length ≤ B) → acc.length + B * es.length ≤ most → ∃ t, evJ P F es acc ρ S = .ok (.str t) S ∧ t.length ≤ acc.length + B * es.length
  | [], acc, _, _ => ⟨acc, rfl, Nat.le_refl _⟩
  | e :: es, acc, h, hl => by
    rw [List.length_cons, Nat.mul_succ] at hl
    obtain ⟨y, h1, h2⟩ := h e (List.mem_cons_self ..)
    rw [evJ_one h1 (by omega)]
    obtain ⟨t, h3, h4⟩ := evJ_all B es (acc ++ y) (fun e' he => h e' (List.mem_cons_of_mem _ he)) (by rw [strLen_append]; omega)
    refine ⟨t, h3, ?_⟩
    rw [strLen_append] at h4
    rw [List.length_cons, Nat.mul_succ]
    omega
theorem fmt_int {P : Pg} {F : Fs} {e : RE} {ρ : Ro} {S : Store} {i : Int} {B : Nat} (h : evE P F e ρ S = .ok (.int i) S) (hi : i.natAbs < 10 ^ 50) (hB : 51 ≤ B) : ∃ y, evE P F (.fmt e) ρ S = .ok (.str y) S ∧ y.length ≤ B := by
  obtain ⟨h1, h2⟩ := int_len hi
  refine ⟨Str.ofString (toString i), ?_, ?_⟩
  · show (evE P F e ρ S).bind fmtD = _
    rw [h]
    show (if _ then _ else _) = _
    rw [if_pos h2]
  · have h1 : (Str.ofString (toString i)).length ≤ 51 := h1
    omega
theorem fmt_str {P : Pg} {F : Fs} {e : RE} {ρ : Ro} {S : Store} {y : Str} {B : Nat} (h : evE P F e ρ S = .ok (.str y) S) (hl : y.length ≤ B) (hB : B ≤ 100000) : ∃ y, evE P F (.fmt e) ρ S = .ok (.str y) S ∧ y.length ≤ B := by
  refine ⟨y, ?_, hl⟩
  show (evE P F e ρ S).bind fmtD = _
  rw [h]
  show (if _ then _ else _) = _
  rw [if_pos (by unfold most; omega)]
end DL
end
-- PSim
section
set_option maxHeartbeats 4000000
namespace DL
open PySem PySem.Spec L2
def contC (P : Pg) (F : Fs) (e : Option RE) : Ro → Store → Out Bool := fun ρ S => evC P F e ρ S
@[simp] theorem contC_s {P : Pg} {F : Fs} {e : Option RE} {ρ : Ro} {S : Store} : contC P F e ρ S = evC P F e ρ S := rfl
def contE (P : Pg) (F : Fs) (e : RE) : Ro → Store → Out D := fun ρ S => evE P F e ρ S
@[simp] theorem contE_s {P : Pg} {F : Fs} {e : RE} {ρ : Ro} {S : Store} : contE P F e ρ S = evE P F e ρ S := rfl
def contS (P : Pg) (F : Fs) (e : List RS) : Ro → Store → OutS := fun ρ S => evSs P F e ρ S
@[simp] theorem contS_s {P : Pg} {F : Fs} {e : List RS} {ρ : Ro} {S : Store} : contS P F e ρ S = evSs P F e ρ S := rfl
def contT (P : Pg) (F : Fs) (e : RE) : Ro → Store → Out Bool := fun ρ S => evT P F e ρ S
@[simp] theorem contT_s {P : Pg} {F : Fs} {e : RE} {ρ : Ro} {S : Store} : contT P F e ρ S = evT P F e ρ S := rfl
def contA (P : Pg) (F : Fs) (e : RE) (ρ : Ro) : Store → Out D := fun S => evE P F e ρ S
@[simp] theorem contA_s {P : Pg} {F : Fs} {e : RE} {ρ : Ro} {S : Store} : contA P F e ρ S = evE P F e ρ S := rfl
def contK (P : Pg) (F : Fs) (e : RE) (i : Nat) (ρ : Ro) : D → Out D := fun x => evE P F e ((List.replicate ρ.length none).set i (some (.sh x))) []
@[simp] theorem contK_s {P : Pg} {F : Fs} {e : RE} {i : Nat} {ρ : Ro} {x : D} : contK P F e i ρ x = evE P F e ((List.replicate ρ.length none).set i (some (.sh x))) [] := rfl
def rngL (n : Nat) : List D := (List.range n).map fun k : Nat => D.int k
@[simp] theorem evE_s0 {P : Pg} {F : Fs} {i : Nat} {ρ : Ro} {S : Store} : evE P F (.var i) ρ S = match ρ[i]? with
    | some (some (.sh d)) => .ok d S
    | _ => .stk := id rfl
@[simp] theorem evE_s1 {P : Pg} {F : Fs} {w1 : Ro} {S : Store} : evE P F (.non) w1 S = .ok .non S := id rfl
@[simp] theorem evE_s2 {P : Pg} {F : Fs} {b : Bool} {w1 : Ro} {S : Store} : evE P F (.bl b) w1 S = .ok (.bl b) S := id rfl
@[simp] theorem evE_s3 {P : Pg} {F : Fs} {i : Int} {w1 : Ro} {S : Store} : evE P F (.int i) w1 S = .ok (.int i) S := id rfl
@[simp] theorem evE_s4 {P : Pg} {F : Fs} {s : Str} {w1 : Ro} {S : Store} : evE P F (.str s) w1 S = .ok (.str s) S := id rfl
@[simp] theorem evE_s5 {P : Pg} {F : Fs} {w1 : Str} {i : Int} {w2 : Ro} {S : Store} : evE P F (.gint w1 i) w2 S = .ok (.int i) S := id rfl
@[simp] theorem evE_s6 {P : Pg} {F : Fs} {w1 : Str} {c : Nat} {w2 : Ro} {S : Store} : evE P F (.gcls w1 c) w2 S = .ok (.cls c) S := id rfl
@[simp] theorem evE_s7 {P : Pg} {F : Fs} {w1 : Str} {n : String} {w2 : Ro} {S : Store} : evE P F (.gty w1 n) w2 S = .ok (.ty n) S := id rfl
def k_evE_8_0 (P : Pg) (F : Fs) (op : Operator) (x : D) : D → Store → Out D := fun y S2 => opBin op x y S2
@[simp] theorem k_evE_8_0_s {P : Pg} {F : Fs} {op : Operator} {x : D} {y : D} {S2 : Store} : k_evE_8_0 P F op x y S2 = opBin op x y S2 := id rfl
def k_evE_8_1 (P : Pg) (F : Fs) (op : Operator) (b : RE) (ρ : Ro) : D → Store → Out D := fun x S1 => (evE P F b ρ S1).bind (k_evE_8_0 P F op x)
@[simp] theorem k_evE_8_1_s {P : Pg} {F : Fs} {op : Operator} {b : RE} {ρ : Ro} {x : D} {S1 : Store} : k_evE_8_1 P F op b ρ x S1 = (evE P F b ρ S1).bind (k_evE_8_0 P F op x) := id rfl
@[simp] theorem evE_s8 {P : Pg} {F : Fs} {op : Operator} {a : RE} {b : RE} {ρ : Ro} {S : Store} : evE P F (.bin op a b) ρ S = (evE P F a ρ S).bind (k_evE_8_1 P F op b ρ) := id rfl
def k_evE_9_0 (P : Pg) (F : Fs)  : D → Store → Out D := fun x S1 => opNeg x S1
@[simp] theorem k_evE_9_0_s {P : Pg} {F : Fs} {x : D} {S1 : Store} : k_evE_9_0 P F  x S1 = opNeg x S1 := id rfl
@[simp] theorem evE_s9 {P : Pg} {F : Fs} {a : RE} {ρ : Ro} {S : Store} : evE P F (.neg a) ρ S = (evE P F a ρ S).bind (k_evE_9_0 P F ) := id rfl
def k_evE_10_0 (P : Pg) (F : Fs) (op : CmpOp) (x : D) : D → Store → Out D := fun y S2 => cmpD P F op x y S2
@[simp] theorem k_evE_10_0_s {P : Pg} {F : Fs} {op : CmpOp} {x : D} {y : D} {S2 : Store} : k_evE_10_0 P F op x y S2 = cmpD P F op x y S2 := id rfl
def k_evE_10_1 (P : Pg) (F : Fs) (op : CmpOp) (b : RE) (ρ : Ro) : D → Store → Out D := fun x S1 => (evE P F b ρ S1).bind (k_evE_10_0 P F op x)
@[simp] theorem k_evE_10_1_s {P : Pg} {F : Fs} {op : CmpOp} {b : RE} {ρ : Ro} {x : D} {S1 : Store} : k_evE_10_1 P F op b ρ x S1 = (evE P F b ρ S1).bind (k_evE_10_0 P F op x) := id rfl
@[simp] theorem evE_s10 {P : Pg} {F : Fs} {op : CmpOp} {a : RE} {b : RE} {ρ : Ro} {S : Store} : evE P F (.cmp op a b) ρ S = (evE P F a ρ S).bind (k_evE_10_1 P F op b ρ) := id rfl
def k_evE_11_0 (P : Pg) (F : Fs) (op' : CmpOp) (y : D) : D → Store → Out D := fun z S4 => opCmp op' y z S4
@[simp] theorem k_evE_11_0_s {P : Pg} {F : Fs} {op' : CmpOp} {y : D} {z : D} {S4 : Store} : k_evE_11_0 P F op' y z S4 = opCmp op' y z S4 := id rfl
def k_evE_11_1 (P : Pg) (F : Fs) (op' : CmpOp) (c : RE) (ρ : Ro) (y : D) : D → Store → Out D := fun r S3 => match r with
    | .bl true => (evE P F c ρ S3).bind (k_evE_11_0 P F op' y)
    | .bl false => .ok (.bl false) S3
    | _ => .stk
@[simp] theorem k_evE_11_1_s {P : Pg} {F : Fs} {op' : CmpOp} {c : RE} {ρ : Ro} {y : D} {r : D} {S3 : Store} : k_evE_11_1 P F op' c ρ y r S3 = match r with
    | .bl true => (evE P F c ρ S3).bind (k_evE_11_0 P F op' y)
    | .bl false => .ok (.bl false) S3
    | _ => .stk := id rfl
def k_evE_11_2 (P : Pg) (F : Fs) (op : CmpOp) (op' : CmpOp) (c : RE) (ρ : Ro) (x : D) : D → Store → Out D := fun y S2 => (opCmp op x y S2).bind (k_evE_11_1 P F op' c ρ y)
@[simp] theorem k_evE_11_2_s {P : Pg} {F : Fs} {op : CmpOp} {op' : CmpOp} {c : RE} {ρ : Ro} {x : D} {y : D} {S2 : Store} : k_evE_11_2 P F op op' c ρ x y S2 = (opCmp op x y S2).bind (k_evE_11_1 P F op' c ρ y) := id rfl
def k_evE_11_3 (P : Pg) (F : Fs) (op : CmpOp) (op' : CmpOp) (b : RE) (c : RE) (ρ : Ro) : D → Store → Out D := fun x S1 => (evE P F b ρ S1).bind (k_evE_11_2 P F op op' c ρ x)
@[simp] theorem k_evE_11_3_s {P : Pg} {F : Fs} {op : CmpOp} {op' : CmpOp} {b : RE} {c : RE} {ρ : Ro} {x : D} {S1 : Store} : k_evE_11_3 P F op op' b c ρ x S1 = (evE P F b ρ S1).bind (k_evE_11_2 P F op op' c ρ x) := id rfl
@[simp] theorem evE_s11 {P : Pg} {F : Fs} {op : CmpOp} {op' : CmpOp} {a : RE} {b : RE} {c : RE} {ρ : Ro} {S : Store} : evE P F (.chain op op' a b c) ρ S = (evE P F a ρ S).bind (k_evE_11_3 P F op op' b c ρ) := id rfl
@[simp] theorem evE_s12 {P : Pg} {F : Fs} {es : List RE} {ρ : Ro} {S : Store} : evE P F (.and es) ρ S = evAnd P F es ρ S := id rfl
@[simp] theorem evE_s13 {P : Pg} {F : Fs} {es : List RE} {ρ : Ro} {S : Store} : evE P F (.or es) ρ S = evOr P F es ρ S := id rfl
def k_evE_14_0 (P : Pg) (F : Fs)  : Bool → Store → Out D := fun b S1 => .ok (.bl (!b)) S1
@[simp] theorem k_evE_14_0_s {P : Pg} {F : Fs} {b : Bool} {S1 : Store} : k_evE_14_0 P F  b S1 = .ok (.bl (!b)) S1 := id rfl
@[simp] theorem evE_s14 {P : Pg} {F : Fs} {a : RE} {ρ : Ro} {S : Store} : evE P F (.not a) ρ S = ((evE P F a ρ S).bind truD).bind (k_evE_14_0 P F ) := id rfl
def k_evE_15_0 (P : Pg) (F : Fs) (a : RE) (b : RE) (ρ : Ro) : Bool → Store → Out D := fun t S1 => if t then evE P F a ρ S1 else evE P F b ρ S1
@[simp] theorem k_evE_15_0_s {P : Pg} {F : Fs} {a : RE} {b : RE} {ρ : Ro} {t : Bool} {S1 : Store} : k_evE_15_0 P F a b ρ t S1 = if t then evE P F a ρ S1 else evE P F b ρ S1 := id rfl
@[simp] theorem evE_s15 {P : Pg} {F : Fs} {c : RE} {a : RE} {b : RE} {ρ : Ro} {S : Store} : evE P F (.ite c a b) ρ S = ((evE P F c ρ S).bind truD).bind (k_evE_15_0 P F a b ρ) := id rfl
def k_evE_16_0 (P : Pg) (F : Fs)  : List D → Store → Out D := fun ds S1 => if ds.length ≤ most then .ok (.tup ds) S1 else .stk
@[simp] theorem k_evE_16_0_s {P : Pg} {F : Fs} {ds : List D} {S1 : Store} : k_evE_16_0 P F  ds S1 = if ds.length ≤ most then .ok (.tup ds) S1 else .stk := id rfl
@[simp] theorem evE_s16 {P : Pg} {F : Fs} {es : List RE} {ρ : Ro} {S : Store} : evE P F (.tup es) ρ S = (evEs P F es ρ S).bind (k_evE_16_0 P F ) := id rfl
def k_evE_17_0 (P : Pg) (F : Fs)  : List D → Store → Out D := fun ds S1 => if ds.length ≤ most then .ok (.lst ds) S1 else .stk
@[simp] theorem k_evE_17_0_s {P : Pg} {F : Fs} {ds : List D} {S1 : Store} : k_evE_17_0 P F  ds S1 = if ds.length ≤ most then .ok (.lst ds) S1 else .stk := id rfl
@[simp] theorem evE_s17 {P : Pg} {F : Fs} {es : List RE} {ρ : Ro} {S : Store} : evE P F (.lst es) ρ S = (evEs P F es ρ S).bind (k_evE_17_0 P F ) := id rfl
def k_evE_18_0 (P : Pg) (F : Fs)  : List D → Store → Out D := fun ds S1 => if ds.length ≤ most then .ok (.box S1.length) (S1 ++ [.lst ds]) else .stk
@[simp] theorem k_evE_18_0_s {P : Pg} {F : Fs} {ds : List D} {S1 : Store} : k_evE_18_0 P F  ds S1 = if ds.length ≤ most then .ok (.box S1.length) (S1 ++ [.lst ds]) else .stk := id rfl
@[simp] theorem evE_s18 {P : Pg} {F : Fs} {es : List RE} {ρ : Ro} {S : Store} : evE P F (.box es) ρ S = (evEs P F es ρ S).bind (k_evE_18_0 P F ) := id rfl
@[simp] theorem evE_s19 {P : Pg} {F : Fs} {w1 : Ro} {S : Store} : evE P F (.emp) w1 S = .ok (.dct [] []) S := id rfl
def k_evE_20_0 (P : Pg) (F : Fs) (x : D) : D → Store → Out D := fun y S2 => idxD x y S2
@[simp] theorem k_evE_20_0_s {P : Pg} {F : Fs} {x : D} {y : D} {S2 : Store} : k_evE_20_0 P F x y S2 = idxD x y S2 := id rfl
def k_evE_20_1 (P : Pg) (F : Fs) (i : RE) (ρ : Ro) : D → Store → Out D := fun x S1 => (evE P F i ρ S1).bind (k_evE_20_0 P F x)
@[simp] theorem k_evE_20_1_s {P : Pg} {F : Fs} {i : RE} {ρ : Ro} {x : D} {S1 : Store} : k_evE_20_1 P F i ρ x S1 = (evE P F i ρ S1).bind (k_evE_20_0 P F x) := id rfl
@[simp] theorem evE_s20 {P : Pg} {F : Fs} {a : RE} {i : RE} {ρ : Ro} {S : Store} : evE P F (.idx a i) ρ S = (evE P F a ρ S).bind (k_evE_20_1 P F i ρ) := id rfl
def k_evE_21_0 (P : Pg) (F : Fs) (x : D) (l : Option Int) : Option Int → Store → Out D := fun h S3 => sliceD x l h S3
@[simp] theorem k_evE_21_0_s {P : Pg} {F : Fs} {x : D} {l : Option Int} {h : Option Int} {S3 : Store} : k_evE_21_0 P F x l h S3 = sliceD x l h S3 := id rfl
def k_evE_21_1 (P : Pg) (F : Fs) (hi : Option RE) (ρ : Ro) (x : D) : Option Int → Store → Out D := fun l S2 => (evO P F hi ρ S2).bind (k_evE_21_0 P F x l)
@[simp] theorem k_evE_21_1_s {P : Pg} {F : Fs} {hi : Option RE} {ρ : Ro} {x : D} {l : Option Int} {S2 : Store} : k_evE_21_1 P F hi ρ x l S2 = (evO P F hi ρ S2).bind (k_evE_21_0 P F x l) := id rfl
def k_evE_21_2 (P : Pg) (F : Fs) (lo : Option RE) (hi : Option RE) (ρ : Ro) : D → Store → Out D := fun x S1 => (evO P F lo ρ S1).bind (k_evE_21_1 P F hi ρ x)
@[simp] theorem k_evE_21_2_s {P : Pg} {F : Fs} {lo : Option RE} {hi : Option RE} {ρ : Ro} {x : D} {S1 : Store} : k_evE_21_2 P F lo hi ρ x S1 = (evO P F lo ρ S1).bind (k_evE_21_1 P F hi ρ x) := id rfl
@[simp] theorem evE_s21 {P : Pg} {F : Fs} {a : RE} {lo : Option RE} {hi : Option RE} {ρ : Ro} {S : Store} : evE P F (.cut a lo hi) ρ S = (evE P F a ρ S).bind (k_evE_21_2 P F lo hi ρ) := id rfl
def k_evE_22_0 (P : Pg) (F : Fs) (j : Nat) (ks : List Str) (ds : List D) : List D → Store → Out D := fun zs S2 => callD P F j ds ks zs S2
@[simp] theorem k_evE_22_0_s {P : Pg} {F : Fs} {j : Nat} {ks : List Str} {ds : List D} {zs : List D} {S2 : Store} : k_evE_22_0 P F j ks ds zs S2 = callD P F j ds ks zs S2 := id rfl
def k_evE_22_1 (P : Pg) (F : Fs) (j : Nat) (ks : List Str) (kes : List RE) (ρ : Ro) : List D → Store → Out D := fun ds S1 => (evEs P F kes ρ S1).bind (k_evE_22_0 P F j ks ds)
@[simp] theorem k_evE_22_1_s {P : Pg} {F : Fs} {j : Nat} {ks : List Str} {kes : List RE} {ρ : Ro} {ds : List D} {S1 : Store} : k_evE_22_1 P F j ks kes ρ ds S1 = (evEs P F kes ρ S1).bind (k_evE_22_0 P F j ks ds) := id rfl
@[simp] theorem evE_s22 {P : Pg} {F : Fs} {j : Nat} {es : List RE} {ks : List Str} {kes : List RE} {ρ : Ro} {S : Store} : evE P F (.call j es ks kes) ρ S = (evEs P F es ρ S).bind (k_evE_22_1 P F j ks kes ρ) := id rfl
def k_evE_23_0 (P : Pg) (F : Fs) (c : Nat) (ks : List Str) (ds : List D) : List D → Store → Out D := fun zs S2 => mkD P F c ds ks zs S2
@[simp] theorem k_evE_23_0_s {P : Pg} {F : Fs} {c : Nat} {ks : List Str} {ds : List D} {zs : List D} {S2 : Store} : k_evE_23_0 P F c ks ds zs S2 = mkD P F c ds ks zs S2 := id rfl
def k_evE_23_1 (P : Pg) (F : Fs) (c : Nat) (ks : List Str) (kes : List RE) (ρ : Ro) : List D → Store → Out D := fun ds S1 => (evEs P F kes ρ S1).bind (k_evE_23_0 P F c ks ds)
@[simp] theorem k_evE_23_1_s {P : Pg} {F : Fs} {c : Nat} {ks : List Str} {kes : List RE} {ρ : Ro} {ds : List D} {S1 : Store} : k_evE_23_1 P F c ks kes ρ ds S1 = (evEs P F kes ρ S1).bind (k_evE_23_0 P F c ks ds) := id rfl
@[simp] theorem evE_s23 {P : Pg} {F : Fs} {c : Nat} {es : List RE} {ks : List Str} {kes : List RE} {ρ : Ro} {S : Store} : evE P F (.mk c es ks kes) ρ S = (evEs P F es ρ S).bind (k_evE_23_1 P F c ks kes ρ) := id rfl
def k_evE_24_0 (P : Pg) (F : Fs) (b : Bi) : List D → Store → Out D := fun ds S1 => biD P b ds S1
@[simp] theorem k_evE_24_0_s {P : Pg} {F : Fs} {b : Bi} {ds : List D} {S1 : Store} : k_evE_24_0 P F b ds S1 = biD P b ds S1 := id rfl
@[simp] theorem evE_s24 {P : Pg} {F : Fs} {b : Bi} {es : List RE} {ρ : Ro} {S : Store} : evE P F (.bi b es) ρ S = (evEs P F es ρ S).bind (k_evE_24_0 P F b) := id rfl
def k_evE_25_0 (P : Pg) (F : Fs) (f : Str) : D → Store → Out D := fun x S1 => fldD P x f S1
@[simp] theorem k_evE_25_0_s {P : Pg} {F : Fs} {f : Str} {x : D} {S1 : Store} : k_evE_25_0 P F f x S1 = fldD P x f S1 := id rfl
@[simp] theorem evE_s25 {P : Pg} {F : Fs} {o : RE} {f : Str} {ρ : Ro} {S : Store} : evE P F (.fld o f) ρ S = (evE P F o ρ S).bind (k_evE_25_0 P F f) := id rfl
@[simp] theorem evE_s26 {P : Pg} {F : Fs} {j : Nat} {body : RE} {ρ : Ro} {S : Store} : evE P F (.heard j body) ρ S = F.hrd j (contA P F body ρ) S := id rfl
def k_evE_27_0 (P : Pg) (F : Fs) (e : RE) (i : Nat) (c : Option RE) (ρ : Ro) : List D → Store → Out D := fun xs S2 => lcD (lcF i (contC P F c) (contE P F e) ρ) xs [] S2
@[simp] theorem k_evE_27_0_s {P : Pg} {F : Fs} {e : RE} {i : Nat} {c : Option RE} {ρ : Ro} {xs : List D} {S2 : Store} : k_evE_27_0 P F e i c ρ xs S2 = lcD (lcF i (contC P F c) (contE P F e) ρ) xs [] S2 := id rfl
def k_evE_27_1 (P : Pg) (F : Fs) (e : RE) (i : Nat) (k : IK) (c : Option RE) (ρ : Ro) : D → Store → Out D := fun x S1 => (itD k x S1).bind (k_evE_27_0 P F e i c ρ)
@[simp] theorem k_evE_27_1_s {P : Pg} {F : Fs} {e : RE} {i : Nat} {k : IK} {c : Option RE} {ρ : Ro} {x : D} {S1 : Store} : k_evE_27_1 P F e i k c ρ x S1 = (itD k x S1).bind (k_evE_27_0 P F e i c ρ) := id rfl
@[simp] theorem evE_s27 {P : Pg} {F : Fs} {e : RE} {i : Nat} {k : IK} {it : RE} {c : Option RE} {ρ : Ro} {S : Store} : evE P F (.lc e i k it c) ρ S = (evE P F it ρ S).bind (k_evE_27_1 P F e i k c ρ) := id rfl
@[simp] theorem evE_s28 {P : Pg} {F : Fs} {w1 : Str} {w2 : Nat} {w3 : Str} {v : Int} {w4 : Ro} {S : Store} : evE P F (.cat w1 w2 w3 v) w4 S = .ok (.int v) S := id rfl
def k_evE_29_0 (P : Pg) (F : Fs) (ks : List Str) (x : D) (ds : List D) (j : Nat) : List D → Store → Out D := fun zs S3 => callD P F j (x :: ds) ks zs S3
@[simp] theorem k_evE_29_0_s {P : Pg} {F : Fs} {ks : List Str} {x : D} {ds : List D} {j : Nat} {zs : List D} {S3 : Store} : k_evE_29_0 P F ks x ds j zs S3 = callD P F j (x :: ds) ks zs S3 := id rfl
def k_evE_29_1 (P : Pg) (F : Fs) (ks : List Str) (kes : List RE) (ρ : Ro) (x : D) (j : Nat) : List D → Store → Out D := fun ds S2 => (evEs P F kes ρ S2).bind (k_evE_29_0 P F ks x ds j)
@[simp] theorem k_evE_29_1_s {P : Pg} {F : Fs} {ks : List Str} {kes : List RE} {ρ : Ro} {x : D} {j : Nat} {ds : List D} {S2 : Store} : k_evE_29_1 P F ks kes ρ x j ds S2 = (evEs P F kes ρ S2).bind (k_evE_29_0 P F ks x ds j) := id rfl
def k_evE_29_2 (P : Pg) (F : Fs) (m : Str) (es : List RE) (ks : List Str) (kes : List RE) (ρ : Ro) : D → Store → Out D := fun x S1 => match methJ P x m with
    | some j => (evEs P F es ρ S1).bind (k_evE_29_1 P F ks kes ρ x j)
    | none => .stk
@[simp] theorem k_evE_29_2_s {P : Pg} {F : Fs} {m : Str} {es : List RE} {ks : List Str} {kes : List RE} {ρ : Ro} {x : D} {S1 : Store} : k_evE_29_2 P F m es ks kes ρ x S1 = match methJ P x m with
    | some j => (evEs P F es ρ S1).bind (k_evE_29_1 P F ks kes ρ x j)
    | none => .stk := id rfl
@[simp] theorem evE_s29 {P : Pg} {F : Fs} {o : RE} {m : Str} {es : List RE} {ks : List Str} {kes : List RE} {ρ : Ro} {S : Store} : evE P F (.meth o m es ks kes) ρ S = (evE P F o ρ S).bind (k_evE_29_2 P F m es ks kes ρ) := id rfl
@[simp] theorem evE_s30 {P : Pg} {F : Fs} {e : RE} {ρ : Ro} {S : Store} : evE P F (.fmt e) ρ S = (evE P F e ρ S).bind fmtD := id rfl
@[simp] theorem evE_s31 {P : Pg} {F : Fs} {es : List RE} {ρ : Ro} {S : Store} : evE P F (.fst es) ρ S = evJ P F es Str.empty ρ S := id rfl
def k_evE_32_0 (P : Pg) (F : Fs)  : D → Store → Out D := fun x S1 => strD P F x S1
@[simp] theorem k_evE_32_0_s {P : Pg} {F : Fs} {x : D} {S1 : Store} : k_evE_32_0 P F  x S1 = strD P F x S1 := id rfl
@[simp] theorem evE_s32 {P : Pg} {F : Fs} {e : RE} {ρ : Ro} {S : Store} : evE P F (.strO e) ρ S = (evE P F e ρ S).bind (k_evE_32_0 P F ) := id rfl
@[simp] theorem evE_s33 {P : Pg} {F : Fs} {f : Str} {ρ : Ro} {S : Store} : evE P F (.sfld f) ρ S = match (ρ[0]? : Option (Option Sl)) with
    | some (some (.owI c ns ds)) => if fldOk P c f then (match lk2 ns ds f with
      | some d => .ok d S
      | none => .stk) else .stk
    | _ => .stk := id rfl
def k_evE_34_0 (P : Pg) (F : Fs) (k : RE) (v : RE) (i : Nat) (c : Option RE) (ρ : Ro) : List D → Store → Out D := fun xs S2 => dcD (dcF i (contC P F c) (contE P F k) (contE P F v) ρ) xs [] [] S2
@[simp] theorem k_evE_34_0_s {P : Pg} {F : Fs} {k : RE} {v : RE} {i : Nat} {c : Option RE} {ρ : Ro} {xs : List D} {S2 : Store} : k_evE_34_0 P F k v i c ρ xs S2 = dcD (dcF i (contC P F c) (contE P F k) (contE P F v) ρ) xs [] [] S2 := id rfl
def k_evE_34_1 (P : Pg) (F : Fs) (k : RE) (v : RE) (i : Nat) (kd : IK) (c : Option RE) (ρ : Ro) : D → Store → Out D := fun x S1 => (itD kd x S1).bind (k_evE_34_0 P F k v i c ρ)
@[simp] theorem k_evE_34_1_s {P : Pg} {F : Fs} {k : RE} {v : RE} {i : Nat} {kd : IK} {c : Option RE} {ρ : Ro} {x : D} {S1 : Store} : k_evE_34_1 P F k v i kd c ρ x S1 = (itD kd x S1).bind (k_evE_34_0 P F k v i c ρ) := id rfl
@[simp] theorem evE_s34 {P : Pg} {F : Fs} {k : RE} {v : RE} {i : Nat} {kd : IK} {it : RE} {c : Option RE} {ρ : Ro} {S : Store} : evE P F (.dc k v i kd it c) ρ S = (evE P F it ρ S).bind (k_evE_34_1 P F k v i kd c ρ) := id rfl
@[simp] theorem evE_s35 {P : Pg} {F : Fs} {e : RE} {i : Nat} {d : Nat} {ρ : Ro} {S : Store} : evE P F (.lcK e i d) ρ S = match (ρ[d]? : Option (Option Sl)) with
    | some (some (.sh (.dct ks _))) => (match lcKD (contK P F e i ρ) ks [] with
      | some ys => .ok (.lst ys) S
      | none => .stk)
    | _ => .stk := id rfl
def k_evE_36_0 (P : Pg) (F : Fs) (e : RE) (i : Nat) (c : Option RE) (ρ : Ro) : List D → Store → Out D := fun xs S2 => lcD (lcF i (contC P F c) (contE P F e) ρ) xs [] S2
@[simp] theorem k_evE_36_0_s {P : Pg} {F : Fs} {e : RE} {i : Nat} {c : Option RE} {ρ : Ro} {xs : List D} {S2 : Store} : k_evE_36_0 P F e i c ρ xs S2 = lcD (lcF i (contC P F c) (contE P F e) ρ) xs [] S2 := id rfl
def k_evE_36_1 (P : Pg) (F : Fs) (e : RE) (i : Nat) (c : Option RE) (ρ : Ro) (x : D) : D → Store → Out D := fun y S2 => (rngD x y S2).bind (k_evE_36_0 P F e i c ρ)
@[simp] theorem k_evE_36_1_s {P : Pg} {F : Fs} {e : RE} {i : Nat} {c : Option RE} {ρ : Ro} {x : D} {y : D} {S2 : Store} : k_evE_36_1 P F e i c ρ x y S2 = (rngD x y S2).bind (k_evE_36_0 P F e i c ρ) := id rfl
def k_evE_36_2 (P : Pg) (F : Fs) (e : RE) (i : Nat) (b : RE) (c : Option RE) (ρ : Ro) : D → Store → Out D := fun x S1 => (evE P F b ρ S1).bind (k_evE_36_1 P F e i c ρ x)
@[simp] theorem k_evE_36_2_s {P : Pg} {F : Fs} {e : RE} {i : Nat} {b : RE} {c : Option RE} {ρ : Ro} {x : D} {S1 : Store} : k_evE_36_2 P F e i b c ρ x S1 = (evE P F b ρ S1).bind (k_evE_36_1 P F e i c ρ x) := id rfl
@[simp] theorem evE_s36 {P : Pg} {F : Fs} {e : RE} {i : Nat} {a : RE} {b : RE} {c : Option RE} {ρ : Ro} {S : Store} : evE P F (.lc2 e i a b c) ρ S = (evE P F a ρ S).bind (k_evE_36_2 P F e i b c ρ) := id rfl
def k_evE_37_0 (P : Pg) (F : Fs) (c : Nat) : List D → Store → Out D := fun ds S1 => mkSD P F c ds S1
@[simp] theorem k_evE_37_0_s {P : Pg} {F : Fs} {c : Nat} {ds : List D} {S1 : Store} : k_evE_37_0 P F c ds S1 = mkSD P F c ds S1 := id rfl
@[simp] theorem evE_s37 {P : Pg} {F : Fs} {c : Nat} {es : List RE} {ρ : Ro} {S : Store} : evE P F (.mkS c es) ρ S = (evEs P F es ρ S).bind (k_evE_37_0 P F c) := id rfl
def k_evE_38_0 (P : Pg) (F : Fs) (c : Nat) : D → Store → Out D := fun x S1 => mkTD P F c x S1
@[simp] theorem k_evE_38_0_s {P : Pg} {F : Fs} {c : Nat} {x : D} {S1 : Store} : k_evE_38_0 P F c x S1 = mkTD P F c x S1 := id rfl
@[simp] theorem evE_s38 {P : Pg} {F : Fs} {c : Nat} {e : RE} {ρ : Ro} {S : Store} : evE P F (.mkT c e) ρ S = (evE P F e ρ S).bind (k_evE_38_0 P F c) := id rfl
def k_evE_39_0 (P : Pg) (F : Fs) (c : Nat) : D → Store → Out D := fun x S1 => mkTD P F c x S1
@[simp] theorem k_evE_39_0_s {P : Pg} {F : Fs} {c : Nat} {x : D} {S1 : Store} : k_evE_39_0 P F c x S1 = mkTD P F c x S1 := id rfl
@[simp] theorem evE_s39 {P : Pg} {F : Fs} {i : Nat} {e : RE} {ρ : Ro} {S : Store} : evE P F (.mkV i e) ρ S = match (ρ[i]? : Option (Option Sl)) with
    | some (some (.sh (.cls c))) => if okS P c then (evE P F e ρ S).bind (k_evE_39_0 P F c) else .stk
    | _ => .stk := id rfl
def k_evE_40_0 (P : Pg) (F : Fs) (c : Nat) (j : Nat) (sm : Bool) : List D → Store → Out D := fun ds S1 => callD P F j (if sm then ds else .cls c :: ds) [] [] S1
@[simp] theorem k_evE_40_0_s {P : Pg} {F : Fs} {c : Nat} {j : Nat} {sm : Bool} {ds : List D} {S1 : Store} : k_evE_40_0 P F c j sm ds S1 = callD P F j (if sm then ds else .cls c :: ds) [] [] S1 := id rfl
@[simp] theorem evE_s40 {P : Pg} {F : Fs} {c : Nat} {w1 : Str} {j : Nat} {sm : Bool} {es : List RE} {ρ : Ro} {S : Store} : evE P F (.cm c w1 j sm es) ρ S = (evEs P F es ρ S).bind (k_evE_40_0 P F c j sm) := id rfl
def k_evE_41_0 (P : Pg) (F : Fs) (o : O1) : D → Store → Out D := fun x S1 => o1D P F o x S1
@[simp] theorem k_evE_41_0_s {P : Pg} {F : Fs} {o : O1} {x : D} {S1 : Store} : k_evE_41_0 P F o x S1 = o1D P F o x S1 := id rfl
@[simp] theorem evE_s41 {P : Pg} {F : Fs} {o : O1} {e : RE} {ρ : Ro} {S : Store} : evE P F (.o1 o e) ρ S = (evE P F e ρ S).bind (k_evE_41_0 P F o) := id rfl
@[simp] theorem evE_s42 {P : Pg} {F : Fs} {e : RE} {ρ : Ro} {S : Store} : evE P F (.sset e) ρ S = (evE P F e ρ S).bind ssetD := id rfl
@[simp] theorem evE_s43 {P : Pg} {F : Fs} {e : RE} {ρ : Ro} {S : Store} : evE P F (.rev e) ρ S = (evE P F e ρ S).bind revD := id rfl
def k_evE_44_0 (P : Pg) (F : Fs)  : List D → Store → Out D := fun xs S3 => if xs.length ≤ most then .ok (.lst xs) S3 else .stk
@[simp] theorem k_evE_44_0_s {P : Pg} {F : Fs} {xs : List D} {S3 : Store} : k_evE_44_0 P F  xs S3 = if xs.length ≤ most then .ok (.lst xs) S3 else .stk := id rfl
def k_evE_44_1 (P : Pg) (F : Fs) (x : D) : D → Store → Out D := fun y S2 => (rngD x y S2).bind (k_evE_44_0 P F )
@[simp] theorem k_evE_44_1_s {P : Pg} {F : Fs} {x : D} {y : D} {S2 : Store} : k_evE_44_1 P F x y S2 = (rngD x y S2).bind (k_evE_44_0 P F ) := id rfl
def k_evE_44_2 (P : Pg) (F : Fs) (b : RE) (ρ : Ro) : D → Store → Out D := fun x S1 => (evE P F b ρ S1).bind (k_evE_44_1 P F x)
@[simp] theorem k_evE_44_2_s {P : Pg} {F : Fs} {b : RE} {ρ : Ro} {x : D} {S1 : Store} : k_evE_44_2 P F b ρ x S1 = (evE P F b ρ S1).bind (k_evE_44_1 P F x) := id rfl
@[simp] theorem evE_s44 {P : Pg} {F : Fs} {a : RE} {b : RE} {ρ : Ro} {S : Store} : evE P F (.lrng a b) ρ S = (evE P F a ρ S).bind (k_evE_44_2 P F b ρ) := id rfl
def k_evE_45_0 (P : Pg) (F : Fs)  : List D → Store → Out D := fun xs S3 => if xs.length ≤ most then .ok (.lst xs) S3 else .stk
@[simp] theorem k_evE_45_0_s {P : Pg} {F : Fs} {xs : List D} {S3 : Store} : k_evE_45_0 P F  xs S3 = if xs.length ≤ most then .ok (.lst xs) S3 else .stk := id rfl
def k_evE_45_1 (P : Pg) (F : Fs)  : D → Store → Out D := fun y S2 => (rngD (.int 0) y S2).bind (k_evE_45_0 P F )
@[simp] theorem k_evE_45_1_s {P : Pg} {F : Fs} {y : D} {S2 : Store} : k_evE_45_1 P F  y S2 = (rngD (.int 0) y S2).bind (k_evE_45_0 P F ) := id rfl
@[simp] theorem evE_s45 {P : Pg} {F : Fs} {b : RE} {ρ : Ro} {S : Store} : evE P F (.lrng1 b) ρ S = (evE P F b ρ S).bind (k_evE_45_1 P F ) := id rfl
def k_evE_46_0 (P : Pg) (F : Fs) (op : Operator) (x : D) : D → Store → Out D := fun y S2 => oprD P F op x y S2
@[simp] theorem k_evE_46_0_s {P : Pg} {F : Fs} {op : Operator} {x : D} {y : D} {S2 : Store} : k_evE_46_0 P F op x y S2 = oprD P F op x y S2 := id rfl
def k_evE_46_1 (P : Pg) (F : Fs) (op : Operator) (b : RE) (ρ : Ro) : D → Store → Out D := fun x S1 => (evE P F b ρ S1).bind (k_evE_46_0 P F op x)
@[simp] theorem k_evE_46_1_s {P : Pg} {F : Fs} {op : Operator} {b : RE} {ρ : Ro} {x : D} {S1 : Store} : k_evE_46_1 P F op b ρ x S1 = (evE P F b ρ S1).bind (k_evE_46_0 P F op x) := id rfl
@[simp] theorem evE_s46 {P : Pg} {F : Fs} {op : Operator} {a : RE} {b : RE} {ρ : Ro} {S : Store} : evE P F (.opr op a b) ρ S = (evE P F a ρ S).bind (k_evE_46_1 P F op b ρ) := id rfl
def k_evE_47_0 (P : Pg) (F : Fs) (t : Bool) : List D → Store → Out D := fun xs S1 => if xs.length ≤ most then .ok (if t then .tup xs else .lst xs) S1 else .stk
@[simp] theorem k_evE_47_0_s {P : Pg} {F : Fs} {t : Bool} {xs : List D} {S1 : Store} : k_evE_47_0 P F t xs S1 = if xs.length ≤ most then .ok (if t then .tup xs else .lst xs) S1 else .stk := id rfl
@[simp] theorem evE_s47 {P : Pg} {F : Fs} {t : Bool} {bs : List Bool} {es : List RE} {ρ : Ro} {S : Store} : evE P F (.disp t bs es) ρ S = (evSt P F es bs ρ S).bind (k_evE_47_0 P F t) := id rfl
@[simp] theorem evSt_s0 {P : Pg} {F : Fs} {bs : List Bool} {w1 : Ro} {S : Store} : evSt P F ([]) bs w1 S = if bs.isEmpty then .ok [] S else .stk := id rfl
@[simp] theorem evJ_s0 {P : Pg} {F : Fs} {acc : Str} {w1 : Ro} {S : Store} : evJ P F ([]) acc w1 S = .ok (.str acc) S := id rfl
def k_evJ_1_0 (P : Pg) (F : Fs) (es : List RE) (acc : Str) (ρ : Ro) : D → Store → Out D := fun d S1 => match d with
    | .str y => if (acc ++ y).length ≤ most then evJ P F es (acc ++ y) ρ S1 else .stk
    | _ => .stk
@[simp] theorem k_evJ_1_0_s {P : Pg} {F : Fs} {es : List RE} {acc : Str} {ρ : Ro} {d : D} {S1 : Store} : k_evJ_1_0 P F es acc ρ d S1 = match d with
    | .str y => if (acc ++ y).length ≤ most then evJ P F es (acc ++ y) ρ S1 else .stk
    | _ => .stk := id rfl
@[simp] theorem evJ_s1 {P : Pg} {F : Fs} {e : RE} {es : List RE} {acc : Str} {ρ : Ro} {S : Store} : evJ P F (e :: es) acc ρ S = (evE P F e ρ S).bind (k_evJ_1_0 P F es acc ρ) := id rfl
@[simp] theorem evC_s0 {P : Pg} {F : Fs} {w1 : Ro} {S : Store} : evC P F none w1 S = .ok true S := id rfl
@[simp] theorem evC_s1 {P : Pg} {F : Fs} {e : RE} {ρ : Ro} {S : Store} : evC P F (some e) ρ S = (evE P F e ρ S).bind truD := id rfl
@[simp] theorem evO_s0 {P : Pg} {F : Fs} {w1 : Ro} {S : Store} : evO P F none w1 S = .ok none S := id rfl
def k_evO_1_0 (P : Pg) (F : Fs)  : D → Store → Out (Option Int) := fun d S1 => match d with
    | .int i => .ok (some i) S1
    | _ => .stk
@[simp] theorem k_evO_1_0_s {P : Pg} {F : Fs} {d : D} {S1 : Store} : k_evO_1_0 P F  d S1 = match d with
    | .int i => .ok (some i) S1
    | _ => .stk := id rfl
@[simp] theorem evO_s1 {P : Pg} {F : Fs} {e : RE} {ρ : Ro} {S : Store} : evO P F (some e) ρ S = (evE P F e ρ S).bind (k_evO_1_0 P F ) := id rfl
@[simp] theorem evEs_s0 {P : Pg} {F : Fs} {w1 : Ro} {S : Store} : evEs P F ([]) w1 S = .ok [] S := id rfl
def k_evEs_1_0 (P : Pg) (F : Fs) (d : D) : List D → Store → Out (List D) := fun ds S2 => .ok (d :: ds) S2
@[simp] theorem k_evEs_1_0_s {P : Pg} {F : Fs} {d : D} {ds : List D} {S2 : Store} : k_evEs_1_0 P F d ds S2 = .ok (d :: ds) S2 := id rfl
def k_evEs_1_1 (P : Pg) (F : Fs) (es : List RE) (ρ : Ro) : D → Store → Out (List D) := fun d S1 => (evEs P F es ρ S1).bind (k_evEs_1_0 P F d)
@[simp] theorem k_evEs_1_1_s {P : Pg} {F : Fs} {es : List RE} {ρ : Ro} {d : D} {S1 : Store} : k_evEs_1_1 P F es ρ d S1 = (evEs P F es ρ S1).bind (k_evEs_1_0 P F d) := id rfl
@[simp] theorem evEs_s1 {P : Pg} {F : Fs} {e : RE} {es : List RE} {ρ : Ro} {S : Store} : evEs P F (e :: es) ρ S = (evE P F e ρ S).bind (k_evEs_1_1 P F es ρ) := id rfl
@[simp] theorem evAnd_s0 {P : Pg} {F : Fs} {w1 : Ro} {w2 : Store} : evAnd P F ([]) w1 w2 = .stk := id rfl
@[simp] theorem evAnd_s1 {P : Pg} {F : Fs} {e : RE} {ρ : Ro} {S : Store} : evAnd P F ([e]) ρ S = evE P F e ρ S := id rfl
def k_evAnd_2_0 (P : Pg) (F : Fs) (e1 : RE) (es : List RE) (ρ : Ro) (x : D) : Bool → Store → Out D := fun t S2 => if t then evAnd P F (e1 :: es) ρ S2 else .ok x S2
@[simp] theorem k_evAnd_2_0_s {P : Pg} {F : Fs} {e1 : RE} {es : List RE} {ρ : Ro} {x : D} {t : Bool} {S2 : Store} : k_evAnd_2_0 P F e1 es ρ x t S2 = if t then evAnd P F (e1 :: es) ρ S2 else .ok x S2 := id rfl
def k_evAnd_2_1 (P : Pg) (F : Fs) (e1 : RE) (es : List RE) (ρ : Ro) : D → Store → Out D := fun x S1 => (truD x S1).bind (k_evAnd_2_0 P F e1 es ρ x)
@[simp] theorem k_evAnd_2_1_s {P : Pg} {F : Fs} {e1 : RE} {es : List RE} {ρ : Ro} {x : D} {S1 : Store} : k_evAnd_2_1 P F e1 es ρ x S1 = (truD x S1).bind (k_evAnd_2_0 P F e1 es ρ x) := id rfl
@[simp] theorem evAnd_s2 {P : Pg} {F : Fs} {e : RE} {e1 : RE} {es : List RE} {ρ : Ro} {S : Store} : evAnd P F (e :: e1 :: es) ρ S = (evE P F e ρ S).bind (k_evAnd_2_1 P F e1 es ρ) := id rfl
@[simp] theorem evOr_s0 {P : Pg} {F : Fs} {w1 : Ro} {w2 : Store} : evOr P F ([]) w1 w2 = .stk := id rfl
@[simp] theorem evOr_s1 {P : Pg} {F : Fs} {e : RE} {ρ : Ro} {S : Store} : evOr P F ([e]) ρ S = evE P F e ρ S := id rfl
def k_evOr_2_0 (P : Pg) (F : Fs) (e1 : RE) (es : List RE) (ρ : Ro) (x : D) : Bool → Store → Out D := fun t S2 => if t then .ok x S2 else evOr P F (e1 :: es) ρ S2
@[simp] theorem k_evOr_2_0_s {P : Pg} {F : Fs} {e1 : RE} {es : List RE} {ρ : Ro} {x : D} {t : Bool} {S2 : Store} : k_evOr_2_0 P F e1 es ρ x t S2 = if t then .ok x S2 else evOr P F (e1 :: es) ρ S2 := id rfl
def k_evOr_2_1 (P : Pg) (F : Fs) (e1 : RE) (es : List RE) (ρ : Ro) : D → Store → Out D := fun x S1 => (truD x S1).bind (k_evOr_2_0 P F e1 es ρ x)
@[simp] theorem k_evOr_2_1_s {P : Pg} {F : Fs} {e1 : RE} {es : List RE} {ρ : Ro} {x : D} {S1 : Store} : k_evOr_2_1 P F e1 es ρ x S1 = (truD x S1).bind (k_evOr_2_0 P F e1 es ρ x) := id rfl
@[simp] theorem evOr_s2 {P : Pg} {F : Fs} {e : RE} {e1 : RE} {es : List RE} {ρ : Ro} {S : Store} : evOr P F (e :: e1 :: es) ρ S = (evE P F e ρ S).bind (k_evOr_2_1 P F e1 es ρ) := id rfl
def k_evI_0_0 (P : Pg) (F : Fs)  : D → Store → Out (List D) := fun x S1 => match x with
    | .lst xs => .ok xs S1
    | _ => .stk
@[simp] theorem k_evI_0_0_s {P : Pg} {F : Fs} {x : D} {S1 : Store} : k_evI_0_0 P F  x S1 = match x with
    | .lst xs => .ok xs S1
    | _ => .stk := id rfl
@[simp] theorem evI_s0 {P : Pg} {F : Fs} {e : RE} {ρ : Ro} {S : Store} : evI P F (.lst e) ρ S = (evE P F e ρ S).bind (k_evI_0_0 P F ) := id rfl
def k_evI_1_0 (P : Pg) (F : Fs)  : D → Store → Out (List D) := fun x S1 => match x with
    | .tup xs => .ok xs S1
    | _ => .stk
@[simp] theorem k_evI_1_0_s {P : Pg} {F : Fs} {x : D} {S1 : Store} : k_evI_1_0 P F  x S1 = match x with
    | .tup xs => .ok xs S1
    | _ => .stk := id rfl
@[simp] theorem evI_s1 {P : Pg} {F : Fs} {e : RE} {ρ : Ro} {S : Store} : evI P F (.tup e) ρ S = (evE P F e ρ S).bind (k_evI_1_0 P F ) := id rfl
def k_evI_2_0 (P : Pg) (F : Fs)  : D → Store → Out (List D) := fun x S1 => match x with
    | .int n => if n < 2 ^ 60 ∧ -(2 ^ 60) < n then .ok (rngL n.toNat) S1 else .stk
    | _ => .stk
@[simp] theorem k_evI_2_0_s {P : Pg} {F : Fs} {x : D} {S1 : Store} : k_evI_2_0 P F  x S1 = match x with
    | .int n => if n < 2 ^ 60 ∧ -(2 ^ 60) < n then .ok (rngL n.toNat) S1 else .stk
    | _ => .stk := id rfl
@[simp] theorem evI_s2 {P : Pg} {F : Fs} {e : RE} {ρ : Ro} {S : Store} : evI P F (.rng e) ρ S = (evE P F e ρ S).bind (k_evI_2_0 P F ) := id rfl
def k_evI_3_0 (P : Pg) (F : Fs) (x : D) : D → Store → Out (List D) := fun y S2 => rngD x y S2
@[simp] theorem k_evI_3_0_s {P : Pg} {F : Fs} {x : D} {y : D} {S2 : Store} : k_evI_3_0 P F x y S2 = rngD x y S2 := id rfl
def k_evI_3_1 (P : Pg) (F : Fs) (b : RE) (ρ : Ro) : D → Store → Out (List D) := fun x S1 => (evE P F b ρ S1).bind (k_evI_3_0 P F x)
@[simp] theorem k_evI_3_1_s {P : Pg} {F : Fs} {b : RE} {ρ : Ro} {x : D} {S1 : Store} : k_evI_3_1 P F b ρ x S1 = (evE P F b ρ S1).bind (k_evI_3_0 P F x) := id rfl
@[simp] theorem evI_s3 {P : Pg} {F : Fs} {a : RE} {b : RE} {ρ : Ro} {S : Store} : evI P F (.rng2 a b) ρ S = (evE P F a ρ S).bind (k_evI_3_1 P F b ρ) := id rfl
def k_evS_0_0 (P : Pg) (F : Fs) (i : Nat) (ρ : Ro) : D → Store → OutS := fun d S1 => .nx (ρ.set i (some (.sh d))) S1
@[simp] theorem k_evS_0_0_s {P : Pg} {F : Fs} {i : Nat} {ρ : Ro} {d : D} {S1 : Store} : k_evS_0_0 P F i ρ d S1 = .nx (ρ.set i (some (.sh d))) S1 := id rfl
@[simp] theorem evS_s0 {P : Pg} {F : Fs} {i : Nat} {e : RE} {ρ : Ro} {S : Store} : evS P F (.asg i e) ρ S = (evE P F e ρ S).then ρ (k_evS_0_0 P F i ρ) := id rfl
def k_evS_1_0 (P : Pg) (F : Fs) (i : Nat) (ρ : Ro) : List D → Store → OutS := fun ds S1 => if ds.length ≤ most then .nx (ρ.set i (some (.owL ds))) S1 else .stk
@[simp] theorem k_evS_1_0_s {P : Pg} {F : Fs} {i : Nat} {ρ : Ro} {ds : List D} {S1 : Store} : k_evS_1_0 P F i ρ ds S1 = if ds.length ≤ most then .nx (ρ.set i (some (.owL ds))) S1 else .stk := id rfl
@[simp] theorem evS_s1 {P : Pg} {F : Fs} {i : Nat} {es : List RE} {ρ : Ro} {S : Store} : evS P F (.own i es) ρ S = (evEs P F es ρ S).then ρ (k_evS_1_0 P F i ρ) := id rfl
def k_evS_2_0 (P : Pg) (F : Fs) (is : List Nat) (ρ : Ro) : List D → Store → OutS := fun ds S1 => if ds.length = is.length then .nx (setAll ρ is ds) S1 else .stk
@[simp] theorem k_evS_2_0_s {P : Pg} {F : Fs} {is : List Nat} {ρ : Ro} {ds : List D} {S1 : Store} : k_evS_2_0 P F is ρ ds S1 = if ds.length = is.length then .nx (setAll ρ is ds) S1 else .stk := id rfl
@[simp] theorem evS_s2 {P : Pg} {F : Fs} {is : List Nat} {es : List RE} {ρ : Ro} {S : Store} : evS P F (.par is es) ρ S = (evEs P F es ρ S).then ρ (k_evS_2_0 P F is ρ) := id rfl
def k_evS_3_0 (P : Pg) (F : Fs) (is : List Nat) (ρ : Ro) : D → Store → OutS := fun d S1 => kUnp is d S1 ρ
@[simp] theorem k_evS_3_0_s {P : Pg} {F : Fs} {is : List Nat} {ρ : Ro} {d : D} {S1 : Store} : k_evS_3_0 P F is ρ d S1 = kUnp is d S1 ρ := id rfl
@[simp] theorem evS_s3 {P : Pg} {F : Fs} {is : List Nat} {e : RE} {ρ : Ro} {S : Store} : evS P F (.unp is e) ρ S = (evE P F e ρ S).then ρ (k_evS_3_0 P F is ρ) := id rfl
def k_evS_5_0 (P : Pg) (F : Fs) (ρ : Ro) (v : D) (o : D) : D → Store → OutS := fun k S3 => match o, k with
    | .box b, .int k => match S3[b]? with
      | some (.lst xs) => (match setD xs k v with
        | some ys => .nx ρ (S3.set b (.lst ys))
        | none => .stk)
      | _ => .stk
    | _, _ => .stk
@[simp] theorem k_evS_5_0_s {P : Pg} {F : Fs} {ρ : Ro} {v : D} {o : D} {k : D} {S3 : Store} : k_evS_5_0 P F ρ v o k S3 = match o, k with
    | .box b, .int k => match S3[b]? with
      | some (.lst xs) => (match setD xs k v with
        | some ys => .nx ρ (S3.set b (.lst ys))
        | none => .stk)
      | _ => .stk
    | _, _ => .stk := id rfl
def k_evS_5_1 (P : Pg) (F : Fs) (ix : RE) (ρ : Ro) (v : D) : D → Store → OutS := fun o S2 => (evE P F ix ρ S2).then ρ (k_evS_5_0 P F ρ v o)
@[simp] theorem k_evS_5_1_s {P : Pg} {F : Fs} {ix : RE} {ρ : Ro} {v : D} {o : D} {S2 : Store} : k_evS_5_1 P F ix ρ v o S2 = (evE P F ix ρ S2).then ρ (k_evS_5_0 P F ρ v o) := id rfl
def k_evS_5_2 (P : Pg) (F : Fs) (i : Nat) (ix : RE) (ρ : Ro) : D → Store → OutS := fun v S1 => (evE P F (.var i) ρ S1).then ρ (k_evS_5_1 P F ix ρ v)
@[simp] theorem k_evS_5_2_s {P : Pg} {F : Fs} {i : Nat} {ix : RE} {ρ : Ro} {v : D} {S1 : Store} : k_evS_5_2 P F i ix ρ v S1 = (evE P F (.var i) ρ S1).then ρ (k_evS_5_1 P F ix ρ v) := id rfl
@[simp] theorem evS_s5 {P : Pg} {F : Fs} {i : Nat} {ix : RE} {e : RE} {ρ : Ro} {S : Store} : evS P F (.setB i ix e) ρ S = (evE P F e ρ S).then ρ (k_evS_5_2 P F i ix ρ) := id rfl
def k_evS_6_0 (P : Pg) (F : Fs) (f : Str) (ρ : Ro) : D → Store → OutS := fun v S1 => match (ρ[0]? : Option (Option Sl)) with
    | some (some (.owI c ns ds)) => if ns.length < 900 ∧ fldOk P c f = true then .nx (ρ.set 0 (some (.owI c (put2 ns ds f v).1 (put2 ns ds f v).2))) S1 else .stk
    | _ => .stk
@[simp] theorem k_evS_6_0_s {P : Pg} {F : Fs} {f : Str} {ρ : Ro} {v : D} {S1 : Store} : k_evS_6_0 P F f ρ v S1 = match (ρ[0]? : Option (Option Sl)) with
    | some (some (.owI c ns ds)) => if ns.length < 900 ∧ fldOk P c f = true then .nx (ρ.set 0 (some (.owI c (put2 ns ds f v).1 (put2 ns ds f v).2))) S1 else .stk
    | _ => .stk := id rfl
@[simp] theorem evS_s6 {P : Pg} {F : Fs} {f : Str} {e : RE} {ρ : Ro} {S : Store} : evS P F (.setF f e) ρ S = (evE P F e ρ S).then ρ (k_evS_6_0 P F f ρ) := id rfl
def k_evS_7_0 (P : Pg) (F : Fs) (i : Nat) (ρ : Ro) (xs : List D) : D → Store → OutS := fun v S1 => if xs.length < most then .nx (ρ.set i (some (.owL (xs ++ [v])))) S1 else .stk
@[simp] theorem k_evS_7_0_s {P : Pg} {F : Fs} {i : Nat} {ρ : Ro} {xs : List D} {v : D} {S1 : Store} : k_evS_7_0 P F i ρ xs v S1 = if xs.length < most then .nx (ρ.set i (some (.owL (xs ++ [v])))) S1 else .stk := id rfl
@[simp] theorem evS_s7 {P : Pg} {F : Fs} {i : Nat} {e : RE} {ρ : Ro} {S : Store} : evS P F (.app i e) ρ S = match (ρ[i]? : Option (Option Sl)) with
    | some (some (.owL xs)) => (evE P F e ρ S).then ρ (k_evS_7_0 P F i ρ xs)
    | _ => .stk := id rfl
def k_evS_8_0 (P : Pg) (F : Fs) (ρ : Ro) : D → Store → OutS := fun _ S1 => .nx ρ S1
@[simp] theorem k_evS_8_0_s {P : Pg} {F : Fs} {ρ : Ro} {w_ : D} {S1 : Store} : k_evS_8_0 P F ρ w_ S1 = .nx ρ S1 := id rfl
@[simp] theorem evS_s8 {P : Pg} {F : Fs} {e : RE} {ρ : Ro} {S : Store} : evS P F (.expr e) ρ S = (evE P F e ρ S).then ρ (k_evS_8_0 P F ρ) := id rfl
def k_evS_9_0 (P : Pg) (F : Fs)  : D → Store → OutS := fun d S1 => .rt d S1
@[simp] theorem k_evS_9_0_s {P : Pg} {F : Fs} {d : D} {S1 : Store} : k_evS_9_0 P F  d S1 = .rt d S1 := id rfl
@[simp] theorem evS_s9 {P : Pg} {F : Fs} {e : RE} {ρ : Ro} {S : Store} : evS P F (.ret e) ρ S = (evE P F e ρ S).then ρ (k_evS_9_0 P F ) := id rfl
@[simp] theorem evS_s10 {P : Pg} {F : Fs} {w1 : Ro} {S : Store} : evS P F (.retN) w1 S = .rt .non S := id rfl
@[simp] theorem evS_s11 {P : Pg} {F : Fs} {ρ : Ro} {S : Store} : evS P F (.pass) ρ S = .nx ρ S := id rfl
def k_evS_12_0 (P : Pg) (F : Fs) (a : List RS) (b : List RS) (ρ : Ro) : Bool → Store → OutS := fun t S1 => if t then evSs P F a ρ S1 else evSs P F b ρ S1
@[simp] theorem k_evS_12_0_s {P : Pg} {F : Fs} {a : List RS} {b : List RS} {ρ : Ro} {t : Bool} {S1 : Store} : k_evS_12_0 P F a b ρ t S1 = if t then evSs P F a ρ S1 else evSs P F b ρ S1 := id rfl
@[simp] theorem evS_s12 {P : Pg} {F : Fs} {c : RE} {a : List RS} {b : List RS} {ρ : Ro} {S : Store} : evS P F (.ifs c a b) ρ S = (evT P F c ρ S).then ρ (k_evS_12_0 P F a b ρ) := id rfl
def k_evS_13_0 (P : Pg) (F : Fs) (i : Nat) (b : List RS) (ρ : Ro) : List D → Store → OutS := fun xs S1 => forL i (contS P F b) xs ρ S1
@[simp] theorem k_evS_13_0_s {P : Pg} {F : Fs} {i : Nat} {b : List RS} {ρ : Ro} {xs : List D} {S1 : Store} : k_evS_13_0 P F i b ρ xs S1 = forL i (contS P F b) xs ρ S1 := id rfl
@[simp] theorem evS_s13 {P : Pg} {F : Fs} {i : Nat} {it : RI} {b : List RS} {ρ : Ro} {S : Store} : evS P F (.for_ i it b) ρ S = (evI P F it ρ S).then ρ (k_evS_13_0 P F i b ρ) := id rfl
def k_evS_14_0 (P : Pg) (F : Fs) (c : Nat) (ρ : Ro) : List D → Store → OutS := fun ds S1 => match excD P c ds with
    | some e => .er e ρ S1
    | none => .stk
@[simp] theorem k_evS_14_0_s {P : Pg} {F : Fs} {c : Nat} {ρ : Ro} {ds : List D} {S1 : Store} : k_evS_14_0 P F c ρ ds S1 = match excD P c ds with
    | some e => .er e ρ S1
    | none => .stk := id rfl
@[simp] theorem evS_s14 {P : Pg} {F : Fs} {c : Nat} {es : List RE} {ρ : Ro} {S : Store} : evS P F (.raise c es) ρ S = (evEs P F es ρ S).then ρ (k_evS_14_0 P F c ρ) := id rfl
@[simp] theorem evS_s15 {P : Pg} {F : Fs} {b : List RS} {c : Nat} {n : Nat} {x : Nat} {ρ : Ro} {S : Store} : evS P F (.tryK b c n x) ρ S = kTry P c n x (evSs P F b ρ S) := id rfl
def k_evS_16_0 (P : Pg) (F : Fs) (j : Nat) (ρ : Ro) : List D → Store → OutS := fun ds S1 => kSup (F.ini j) ds S1 ρ
@[simp] theorem k_evS_16_0_s {P : Pg} {F : Fs} {j : Nat} {ρ : Ro} {ds : List D} {S1 : Store} : k_evS_16_0 P F j ρ ds S1 = kSup (F.ini j) ds S1 ρ := id rfl
@[simp] theorem evS_s16 {P : Pg} {F : Fs} {w1 : Nat} {j : Nat} {es : List RE} {ρ : Ro} {S : Store} : evS P F (.sup w1 j es) ρ S = match (ρ[0]? : Option (Option Sl)) with
    | some (some (.owI _ _ _)) => (evEs P F es ρ S).then ρ (k_evS_16_0 P F j ρ)
    | _ => .stk := id rfl
def k_evS_17_0 (P : Pg) (F : Fs) (i : Nat) (ρ : Ro) : D → Store → OutS := fun d S1 => .nx (ρ.set i (some (.sh d))) S1
@[simp] theorem k_evS_17_0_s {P : Pg} {F : Fs} {i : Nat} {ρ : Ro} {d : D} {S1 : Store} : k_evS_17_0 P F i ρ d S1 = .nx (ρ.set i (some (.sh d))) S1 := id rfl
@[simp] theorem evS_s17 {P : Pg} {F : Fs} {i : Nat} {ρ : Ro} {S : Store} : evS P F (.actA i) ρ S = match (ρ[0]? : Option (Option Sl)) with
    | some (some .thk) => (F.act S).then ρ (k_evS_17_0 P F i ρ)
    | _ => .stk := id rfl
def k_evS_18_0 (P : Pg) (F : Fs) (ρ : Ro) : D → Store → OutS := fun _ S1 => .nx ρ S1
@[simp] theorem k_evS_18_0_s {P : Pg} {F : Fs} {ρ : Ro} {w_ : D} {S1 : Store} : k_evS_18_0 P F ρ w_ S1 = .nx ρ S1 := id rfl
@[simp] theorem evS_s18 {P : Pg} {F : Fs} {ρ : Ro} {S : Store} : evS P F (.actE) ρ S = match (ρ[0]? : Option (Option Sl)) with
    | some (some .thk) => (F.act S).then ρ (k_evS_18_0 P F ρ)
    | _ => .stk := id rfl
def k_evS_19_0 (P : Pg) (F : Fs)  : D → Store → OutS := fun d S1 => .rt d S1
@[simp] theorem k_evS_19_0_s {P : Pg} {F : Fs} {d : D} {S1 : Store} : k_evS_19_0 P F  d S1 = .rt d S1 := id rfl
@[simp] theorem evS_s19 {P : Pg} {F : Fs} {ρ : Ro} {S : Store} : evS P F (.actR) ρ S = match (ρ[0]? : Option (Option Sl)) with
    | some (some .thk) => (F.act S).then ρ (k_evS_19_0 P F )
    | _ => .stk := id rfl
@[simp] theorem evS_s20 {P : Pg} {F : Fs} {i : Nat} {ρ : Ro} {S : Store} : evS P F (.frz i) ρ S = match ρ[i]? with
    | some (some (.owL xs)) => .nx (ρ.set i (some (.sh (.lst xs)))) S
    | _ => .stk := id rfl
@[simp] theorem evS_s21 {P : Pg} {F : Fs} {c : RE} {b : List RS} {ρ : Ro} {S : Store} : evS P F (.whil c b) ρ S = whilL (contT P F c) (contS P F b) most ρ S := id rfl
def k_evS_22_0 (P : Pg) (F : Fs) (i : Nat) (j : Nat) (b : List RS) (ρ : Ro) : D → Store → OutS := fun x S1 => match x with
    | .tup xs => forEL i j (contS P F b) 0 xs ρ S1
    | _ => .stk
@[simp] theorem k_evS_22_0_s {P : Pg} {F : Fs} {i : Nat} {j : Nat} {b : List RS} {ρ : Ro} {x : D} {S1 : Store} : k_evS_22_0 P F i j b ρ x S1 = match x with
    | .tup xs => forEL i j (contS P F b) 0 xs ρ S1
    | _ => .stk := id rfl
@[simp] theorem evS_s22 {P : Pg} {F : Fs} {i : Nat} {j : Nat} {e : RE} {b : List RS} {ρ : Ro} {S : Store} : evS P F (.forE i j e b) ρ S = (evE P F e ρ S).then ρ (k_evS_22_0 P F i j b ρ) := id rfl
def k_evS_23_0 (P : Pg) (F : Fs) (i : Nat) (ρ : Ro) : D → Store → OutS := fun x S1 => match starD x with
    | some xs => .nx (ρ.set i (some (.owL xs))) S1
    | none => .stk
@[simp] theorem k_evS_23_0_s {P : Pg} {F : Fs} {i : Nat} {ρ : Ro} {x : D} {S1 : Store} : k_evS_23_0 P F i ρ x S1 = match starD x with
    | some xs => .nx (ρ.set i (some (.owL xs))) S1
    | none => .stk := id rfl
@[simp] theorem evS_s23 {P : Pg} {F : Fs} {i : Nat} {e : RE} {ρ : Ro} {S : Store} : evS P F (.ownL i e) ρ S = (evE P F e ρ S).then ρ (k_evS_23_0 P F i ρ) := id rfl
@[simp] theorem evS_s24 {P : Pg} {F : Fs} {i : Nat} {ρ : Ro} {S : Store} : evS P F (.lend i) ρ S = match (ρ[i]? : Option (Option Sl)) with
    | some (some (.owL xs)) => .nx (ρ.set i (some (.sh (.box S.length)))) (S ++ [.lst xs])
    | _ => .stk := id rfl
@[simp] theorem evS_s25 {P : Pg} {F : Fs} {i : Nat} {ρ : Ro} {S : Store} : evS P F (.frzB i) ρ S = match (ρ[i]? : Option (Option Sl)) with
    | some (some (.sh (.box b))) => (match S[b]? with
      | some (.lst xs) => .nx (ρ.set i (some (.sh (.lst xs)))) (S.set b (.fro xs))
      | _ => .stk)
    | _ => .stk := id rfl
def k_evS_26_0 (P : Pg) (F : Fs) (ρ : Ro) (b : Nat) : D → Store → OutS := fun v S1 => kApp b v S1 ρ
@[simp] theorem k_evS_26_0_s {P : Pg} {F : Fs} {ρ : Ro} {b : Nat} {v : D} {S1 : Store} : k_evS_26_0 P F ρ b v S1 = kApp b v S1 ρ := id rfl
@[simp] theorem evS_s26 {P : Pg} {F : Fs} {i : Nat} {e : RE} {ρ : Ro} {S : Store} : evS P F (.appB i e) ρ S = match (ρ[i]? : Option (Option Sl)) with
    | some (some (.sh (.box b))) => (match S[b]? with
      | some (.lst _) => (evE P F e ρ S).then ρ (k_evS_26_0 P F ρ b)
      | _ => .stk)
    | _ => .stk := id rfl
@[simp] theorem evSs_s0 {P : Pg} {F : Fs} {ρ : Ro} {S : Store} : evSs P F ([]) ρ S = .nx ρ S := id rfl
def k_evSs_1_0 (P : Pg) (F : Fs) (r : List RS) : Ro → Store → OutS := fun ρ1 S1 => evSs P F r ρ1 S1
@[simp] theorem k_evSs_1_0_s {P : Pg} {F : Fs} {r : List RS} {ρ1 : Ro} {S1 : Store} : k_evSs_1_0 P F r ρ1 S1 = evSs P F r ρ1 S1 := id rfl
@[simp] theorem evSs_s1 {P : Pg} {F : Fs} {s : RS} {r : List RS} {ρ : Ro} {S : Store} : evSs P F (s :: r) ρ S = (evS P F s ρ S).andThen (k_evSs_1_0 P F r) := id rfl
section
variable {α β : Type} {P : Pg} {F : Fs} {ρ ρ' : Ro} {S S' : Store}
/-! ### those with inner matches -/
def k_st2 (xs : List D) : List D → Store → Out (List D) := fun ys S2 => .ok (xs ++ ys) S2
@[simp] theorem k_st2_s {xs ys : List D} : k_st2 xs ys S = .ok (xs ++ ys) S := rfl
def k_st1 (P : Pg) (F : Fs) (es : List RE) (bs : List Bool) (ρ : Ro) : D → Store → Out (List D) := fun d S1 => match starD d with
      | some xs => (evSt P F es bs ρ S1).bind (k_st2 xs)
      | none => .stk
@[simp] theorem k_st1_s {es : List RE} {bs : List Bool} {d : D} : k_st1 P F es bs ρ d S = (match starD d with
      | some xs => (evSt P F es bs ρ S).bind (k_st2 xs)
      | none => .stk) := rfl
def k_st0 (P : Pg) (F : Fs) (es : List RE) (bs : List Bool) (ρ : Ro) : D → Store → Out (List D) := fun d S1 => (evSt P F es bs ρ S1).bind (k_st2 [d])
@[simp] theorem k_st0_s {es : List RE} {bs : List Bool} {d : D} : k_st0 P F es bs ρ d S = (evSt P F es bs ρ S).bind (k_st2 [d]) := rfl
@[simp] theorem evSt_t {e : RE} {es : List RE} {bs : List Bool} : evSt P F (e :: es) (true :: bs) ρ S = (evE P F e ρ S).bind (k_st1 P F es bs ρ) := by
  unfold evSt
  dsimp only
  congr 1
@[simp] theorem evSt_f {e : RE} {es : List RE} {bs : List Bool} : evSt P F (e :: es) (false :: bs) ρ S = (evE P F e ρ S).bind (k_st0 P F es bs ρ) := by
  unfold evSt
  dsimp only
  congr 1
def k_si1 (i : Nat) (ρ : Ro) (xs : List D) (v : D) : D → Store → OutS := fun k S2 => match k with
      | .int k => (match setD xs k v with
        | some ys => .nx (ρ.set i (some (.owL ys))) S2
        | none => .stk)
      | _ => .stk
@[simp] theorem k_si1_s {i : Nat} {xs : List D} {v : D} {k : Int} : k_si1 i ρ xs v (.int k) S = (match setD xs k v with
        | some ys => .nx (ρ.set i (some (.owL ys))) S
        | none => .stk) := rfl
def k_si0 (P : Pg) (F : Fs) (i : Nat) (ix : RE) (ρ : Ro) : D → Store → OutS := fun v S1 => match (ρ[i]? : Option (Option Sl)) with
    | some (some (.owL xs)) => (evE P F ix ρ S1).then ρ (k_si1 i ρ xs v)
    | _ => .stk
@[simp] theorem k_si0_s {i : Nat} {ix : RE} {v : D} : k_si0 P F i ix ρ v S = (match (ρ[i]? : Option (Option Sl)) with
    | some (some (.owL xs)) => (evE P F ix ρ S).then ρ (k_si1 i ρ xs v)
    | _ => .stk) := rfl
@[simp] theorem evS_setI {i : Nat} {ix e : RE} : evS P F (.setI i ix e) ρ S = (evE P F e ρ S).then ρ (k_si0 P F i ix ρ) := rfl
/-! ### small equations -/
@[simp] theorem evT_s {e : RE} : evT P F e ρ S = (evE P F e ρ S).bind truD := rfl
@[simp] theorem tru_non : truD .non S = .ok false S := rfl
@[simp] theorem tru_bl {b : Bool} : truD (.bl b) S = .ok b S := rfl
@[simp] theorem tru_int {i : Int} : truD (.int i) S = .ok (i != 0) S := rfl
@[simp] theorem tru_lst {xs : List D} : truD (.lst xs) S = .ok (!xs.isEmpty) S := rfl
@[simp] theorem tru_tup {xs : List D} : truD (.tup xs) S = .ok (!xs.isEmpty) S := rfl
@[simp] theorem add_int {i j : Int} : opBin .Add (.int i) (.int j) S = .ok (.int (i + j)) S := rfl
@[simp] theorem sub_int {i j : Int} : opBin .Sub (.int i) (.int j) S = .ok (.int (i - j)) S := rfl
@[simp] theorem add_lst {xs ys : List D} : opBin .Add (.lst xs) (.lst ys) S = if xs.length + ys.length ≤ most then .ok (.lst (xs ++ ys)) S else .stk := rfl
@[simp] theorem add_str {a b : Str} : opBin .Add (.str a) (.str b) S = if a.length + b.length ≤ most then .ok (.str (a ++ b)) S else .stk := rfl
@[simp] theorem mul_int {i j : Int} : opBin .Mult (.int i) (.int j) S = if small i || small j then .ok (.int (i * j)) S else .stk := rfl
@[simp] theorem mul_lst {xs : List D} {k : Int} : opBin .Mult (.lst xs) (.int k) S = if -(2 ^ 63) ≤ k ∧ k < 2 ^ 63 ∧ xs.length * k.toNat ≤ most then .ok (.lst (List.replicate k.toNat xs).flatten) S else .stk := rfl
@[simp] theorem mod_int {i j : Int} : opBin .Mod (.int i) (.int j) S = if 0 < j then .ok (.int (i % j)) S else .stk := rfl
@[simp] theorem div_int {i j : Int} : opBin .FloorDiv (.int i) (.int j) S = if 0 < j ∧ j < 2 ^ 200 then .ok (.int (i / j)) S else .stk := rfl
@[simp] theorem pow_int {i j : Int} : opBin .Pow (.int i) (.int j) S = if 0 ≤ j ∧ j ≤ 1000 ∧ -(2 ^ 63) < i ∧ i < 2 ^ 63 then .ok (.int (i ^ j.toNat)) S else .stk := rfl
@[simp] theorem neg_int {i : Int} : opNeg (.int i) S = .ok (.int (-i)) S := rfl
@[simp] theorem opc_lt {i j : Int} : opCmp .Lt (.int i) (.int j) S = .ok (.bl (decide (i < j))) S := rfl
@[simp] theorem opc_le {i j : Int} : opCmp .LtE (.int i) (.int j) S = .ok (.bl (decide (i ≤ j))) S := rfl
@[simp] theorem opc_gt {i j : Int} : opCmp .Gt (.int i) (.int j) S = .ok (.bl (decide (j < i))) S := rfl
@[simp] theorem opc_ge {i j : Int} : opCmp .GtE (.int i) (.int j) S = .ok (.bl (decide (j ≤ i))) S := rfl
@[simp] theorem cmp_lt {i j : Int} : cmpD P F .Lt (.int i) (.int j) S = .ok (.bl (decide (i < j))) S := rfl
@[simp] theorem cmp_le {i j : Int} : cmpD P F .LtE (.int i) (.int j) S = .ok (.bl (decide (i ≤ j))) S := rfl
@[simp] theorem cmp_gt {i j : Int} : cmpD P F .Gt (.int i) (.int j) S = .ok (.bl (decide (j < i))) S := rfl
@[simp] theorem cmp_ge {i j : Int} : cmpD P F .GtE (.int i) (.int j) S = .ok (.bl (decide (j ≤ i))) S := rfl
@[simp] theorem deS_int {i : Int} : deS S (.int i) = .int i := rfl
@[simp] theorem deS_bl {i : Bool} : deS S (.bl i) = .bl i := rfl
@[simp] theorem deS_str {i : Str} : deS S (.str i) = .str i := rfl
@[simp] theorem deS_non : deS S .non = .non := rfl
@[simp] theorem deS_tup {xs : List D} : deS S (.tup xs) = .tup xs := rfl
@[simp] theorem deS_lst {xs : List D} : deS S (.lst xs) = .lst xs := rfl
@[simp] theorem deS_dct {ks : List Key} {xs : List D} : deS S (.dct ks xs) = .dct ks xs := rfl
theorem deS_bx {b : Nat} {xs : List D} (h : S[b]? = some (.lst xs)) : deS S (.box b) = .lst xs := by
  unfold deS
  dsimp only
  rw [h]
@[simp] theorem len_bx {b : Nat} : biD P .len [.box b] S = (match deS S (.box b) with
    | .lst xs => .ok (.int xs.length) S
    | _ => .stk) := rfl
@[simp] theorem ix_bx {b : Nat} {i : Int} : idxD (.box b) (.int i) S = (match deS S (.box b) with
    | .lst xs => (match atI xs i with
      | some d => .ok d S
      | none => .stk)
    | _ => .stk) := rfl
@[simp] theorem cmp_eq {i j : Int} : cmpD P F .Eq (.int i) (.int j) S = .ok (.bl (decide (i = j))) S := by
  show (match eqD (.int i) (.int j) with
    | some b => Out.ok (D.bl b) S
    | none => .stk) = _
  rw [eqD_int]
@[simp] theorem cmp_ne {i j : Int} : cmpD P F .NotEq (.int i) (.int j) S = .ok (.bl (!decide (i = j))) S := by
  show (match eqD (.int i) (.int j) with
    | some b => Out.ok (D.bl (!b)) S
    | none => .stk) = _
  rw [eqD_int]
@[simp] theorem cmp_eqb {a b : Bool} : cmpD P F .Eq (.bl a) (.bl b) S = .ok (.bl (a == b)) S := by
  show (match eqD (.bl a) (.bl b) with
    | some b => Out.ok (D.bl b) S
    | none => .stk) = _
  rw [eqD_bl]
@[simp] theorem cmp_neb {a b : Bool} : cmpD P F .NotEq (.bl a) (.bl b) S = .ok (.bl (!(a == b))) S := by
  show (match eqD (.bl a) (.bl b) with
    | some b => Out.ok (D.bl (!b)) S
    | none => .stk) = _
  rw [eqD_bl]
@[simp] theorem cmp_is {x : D} : cmpD P F .Is x .non S = .ok (.bl x.isNon) S := by
  unfold cmpD
  split <;> rfl
@[simp] theorem cmp_isnt {x : D} : cmpD P F .IsNot x .non S = .ok (.bl (!x.isNon)) S := by
  unfold cmpD
  split <;> rfl
@[simp] theorem non_non : D.isNon .non = true := rfl
@[simp] theorem non_int {i : Int} : D.isNon (.int i) = false := rfl
@[simp] theorem non_str {i : Str} : D.isNon (.str i) = false := rfl
@[simp] theorem non_lst {i : List D} : D.isNon (.lst i) = false := rfl
@[simp] theorem non_tup {i : List D} : D.isNon (.tup i) = false := rfl
@[simp] theorem non_bl {i : Bool} : D.isNon (.bl i) = false := rfl
@[simp] theorem non_exc {c : Nat} {ns : List Str} {ds : List D} : D.isNon (.exc c ns ds) = false := rfl
@[simp] theorem non_obj {c : Nat} {ns : List Str} {ds : List D} : D.isNon (.obj c ns ds) = false := rfl
@[simp] theorem bi_len {xs : List D} : biD P .len [.lst xs] S = .ok (.int xs.length) S := rfl
@[simp] theorem bi_lenT {xs : List D} : biD P .len [.tup xs] S = .ok (.int xs.length) S := rfl
@[simp] theorem bi_int {i : Int} : biD P .int [.int i] S = .ok (.int i) S := rfl
@[simp] theorem bi_intb {b : Bool} : biD P .int [.bl b] S = .ok (.int (if b then 1 else 0)) S := rfl
@[simp] theorem bi_list {xs : List D} : biD P .list [.lst xs] S = .ok (.lst xs) S := rfl
@[simp] theorem bi_listT {xs : List D} : biD P .list [.tup xs] S = .ok (.lst xs) S := rfl
@[simp] theorem bi_tup {xs : List D} : biD P .tuple [.lst xs] S = .ok (.tup xs) S := rfl
@[simp] theorem bi_tupT {xs : List D} : biD P .tuple [.tup xs] S = .ok (.tup xs) S := rfl
@[simp] theorem bi_max {i j : Int} : biD P .max [.int i, .int j] S = .ok (.int (mx2 i j)) S := rfl
@[simp] theorem bi_min {i j : Int} : biD P .min [.int i, .int j] S = .ok (.int (mn2 i j)) S := rfl
@[simp] theorem bi_isi {x t : D} : biD P .isinst [x, t] S = (match isiD P x t with
    | some b => .ok (.bl b) S
    | none => .stk) := rfl
@[simp] theorem bi_rep {x : D} : biD P .repr [x] S = (match reprD x with
    | some s => .ok (.str s) S
    | none => .stk) := rfl
@[simp] theorem most_s : most = 1000000 := rfl
@[simp] theorem start0_s {n : Nat} {ds : List D} : start0 n ds = ds.map (fun d => some (Sl.sh d)) ++ List.replicate (n - ds.length) none := rfl
@[simp] theorem rep_z {α : Type} {a : α} : List.replicate 0 a = [] := rfl
@[simp] theorem rep_1 {α : Type} {a : α} : List.replicate 1 a = [a] := rfl
@[simp] theorem rep_2 {α : Type} {a : α} : List.replicate 2 a = [a, a] := rfl
@[simp] theorem rep_3 {α : Type} {a : α} : List.replicate 3 a = [a, a, a] := rfl
@[simp] theorem rep_4 {α : Type} {a : α} : List.replicate 4 a = [a, a, a, a] := rfl
@[simp] theorem rep_5 {α : Type} {a : α} : List.replicate 5 a = [a, a, a, a, a] := rfl
@[simp] theorem rep_6 {α : Type} {a : α} : List.replicate 6 a = [a, a, a, a, a, a] := rfl
@[simp] theorem rep_7 {α : Type} {a : α} : List.replicate 7 a = [a, a, a, a, a, a, a] := rfl
@[simp] theorem rep_8 {α : Type} {a : α} : List.replicate 8 a = [a, a, a, a, a, a, a, a] := rfl
@[simp] theorem rep_9 {α : Type} {a : α} : List.replicate 9 a = [a, a, a, a, a, a, a, a, a] := rfl
@[simp] theorem rep_10 {α : Type} {a : α} : List.replicate 10 a = [a, a, a, a, a, a, a, a, a, a] := rfl
@[simp] theorem rep_11 {α : Type} {a : α} : List.replicate 11 a = [a, a, a, a, a, a, a, a, a, a, a] := rfl
@[simp] theorem rep_12 {α : Type} {a : α} : List.replicate 12 a = [a, a, a, a, a, a, a, a, a, a, a, a] := rfl
@[simp] theorem rep_13 {α : Type} {a : α} : List.replicate 13 a = [a, a, a, a, a, a, a, a, a, a, a, a, a] := rfl
@[simp] theorem setAll_c {i : Nat} {is : List Nat} {d : D} {ds : List D} : setAll ρ (i :: is) (d :: ds) = setAll (ρ.set i (some (.sh d))) is ds := rfl
@[simp] theorem setAll_n : setAll ρ [] [] = ρ := rfl
@[simp] theorem unp_tup {is : List Nat} {xs : List D} : kUnp is (.tup xs) S ρ = if xs.length = is.length then .nx (setAll ρ is xs) S else .stk := rfl
@[simp] theorem kApp_s {b : Nat} {v : D} {xs : List D} (h : S[b]? = some (.lst xs)) : kApp b v S ρ = if xs.length < most then .nx ρ (S.set b (.lst (xs ++ [v]))) else .stk := by
  unfold kApp
  rw [h]
@[simp] theorem runB_rt {d : D} : runB (.rt d S) = .ok d S := rfl
@[simp] theorem runB_nx : runB (.nx ρ S) = .ok .non S := rfl
@[simp] theorem runB_stk : runB .stk = .stk := rfl
@[simp] theorem runB_er {e : D} : runB (.er e ρ S) = .er e S := rfl
@[simp] theorem noEr_ok {d : D} : noEr (.ok d S) = .ok d S := rfl
@[simp] theorem itD_lst {xs : List D} : itD .lst (.lst xs) S = .ok xs S := rfl
@[simp] theorem itD_tup {xs : List D} : itD .tup (.tup xs) S = .ok xs S := rfl
@[simp] theorem starD_l {xs : List D} : starD (.lst xs) = some xs := rfl
@[simp] theorem starD_t {xs : List D} : starD (.tup xs) = some xs := rfl
@[simp] theorem revD_l {xs : List D} : revD (.lst xs) S = .ok (.lst xs.reverse) S := rfl
@[simp] theorem revD_t {xs : List D} : revD (.tup xs) S = .ok (.tup xs.reverse) S := rfl
@[simp] theorem sl_lst {xs : List D} {l h : Option Int} : sliceD (.lst xs) l h S = .ok (.lst (cutD xs l h)) S := rfl
@[simp] theorem sl_tup {xs : List D} {l h : Option Int} : sliceD (.tup xs) l h S = .ok (.tup (cutD xs l h)) S := rfl
@[simp] theorem ix_lst {xs : List D} {i : Int} : idxD (.lst xs) (.int i) S = (match atI xs i with
    | some d => .ok d S
    | none => .stk) := rfl
@[simp] theorem ix_tup {xs : List D} {i : Int} : idxD (.tup xs) (.int i) S = (match atI xs i with
    | some d => .ok d S
    | none => .stk) := rfl
@[simp] theorem at0_s {x : D} {l : List D} : atI (x :: l) 0 = some x := at0
@[simp] theorem at1_s {x y : D} {l : List D} : atI (x :: y :: l) 1 = some y := at1
@[simp] theorem at2_s {x y z : D} {l : List D} : atI (x :: y :: z :: l) 2 = some z := at2
@[simp] theorem at3_s {x y z w : D} {l : List D} : atI (x :: y :: z :: w :: l) 3 = some w := at3
@[simp] theorem at4_s {x y z w v : D} {l : List D} : atI (x :: y :: z :: w :: v :: l) 4 = some v := at4 ..
end
@[simp] theorem ofS_inj {a b : String} : (Str.ofString a = Str.ofString b) = (a = b) := by
  apply propext
  constructor
  · intro h
    rw [Str.ofString_eq_toList, Str.ofString_eq_toList] at h
    injection h with h
    have h2 : a.toList.map Char.toNat = b.toList.map Char.toNat := by
      injection h
    have h3 : a.toList = b.toList := by
      have inj : ∀ x y : List Char, x.map Char.toNat = y.map Char.toNat → x = y := by
        intro x
        induction x with
        | nil =>
          intro y hy
          cases y with
          | nil => rfl
          | cons _ _ => simp at hy
        | cons c x ih =>
          intro y hy
          cases y with
          | nil => simp at hy
          | cons d y =>
            simp only [List.map_cons, List.cons.injEq] at hy
            rw [ih y hy.2, show c = d from Char.toNat_inj.mp hy.1]
      exact inj _ _ h2
    exact String.toList_inj.mp h3
  · intro h
    rw [h]
theorem beq_S {a b : Str} : (a == b) = decide (a = b) := by
  by_cases h : a = b
  · subst h
    simp
  · simp [h]
@[simp] theorem eqD_lit {a b : String} : eqD (.str (Str.ofString a)) (.str (Str.ofString b)) = some (decide (a = b)) := by
  rw [eqD_str (sok_of a) (sok_of b), beq_S]
  simp
@[simp] theorem cmp_eqs {P : Pg} {F : Fs} {S : Store} {a b : String} : cmpD P F .Eq (.str (Str.ofString a)) (.str (Str.ofString b)) S = .ok (.bl (decide (a = b))) S := by
  show (match eqD (.str (Str.ofString a)) (.str (Str.ofString b)) with
    | some b => Out.ok (D.bl b) S
    | none => .stk) = _
  rw [eqD_lit]
@[simp] theorem cmp_nes {P : Pg} {F : Fs} {S : Store} {a b : String} : cmpD P F .NotEq (.str (Str.ofString a)) (.str (Str.ofString b)) S = .ok (.bl (!decide (a = b))) S := by
  show (match eqD (.str (Str.ofString a)) (.str (Str.ofString b)) with
    | some b => Out.ok (D.bl (!b)) S
    | none => .stk) = _
  rw [eqD_lit]
theorem cmp_eqS {P : Pg} {F : Fs} {S : Store} {a : Str} (h : PySem.PyData.strOk a = true) : cmpD P F .Eq (.str a) (.str a) S = .ok (.bl true) S := by
  show (match eqD (.str a) (.str a) with
    | some b => Out.ok (D.bl b) S
    | none => .stk) = _
  rw [eqD_refl h]
theorem cmp_neS {P : Pg} {F : Fs} {S : Store} {a : Str} (h : PySem.PyData.strOk a = true) : cmpD P F .NotEq (.str a) (.str a) S = .ok (.bl false) S := by
  show (match eqD (.str a) (.str a) with
    | some b => Out.ok (D.bl (!b)) S
    | none => .stk) = _
  rw [eqD_refl h]
  rfl
theorem kI_nat {P : Pg} {F : Fs} {S : Store} {mo : Nat} (h : mo ≤ 1000000) : k_evI_2_0 P F (.int mo) S = .ok (rngL mo) S := by
  rw [k_evI_2_0_s]
  dsimp only
  rw [if_pos (by constructor <;> omega), Int.toNat_natCast]
theorem itD_nat {S : Store} {mo : Nat} (h : mo ≤ 1000000) : itD .rng (.int mo) S = .ok (rngL mo) S := by
  unfold itD
  dsimp only
  rw [if_pos (by constructor <;> omega), Int.toNat_natCast]
  rfl
theorem rngD_nat {S : Store} {a b : Int} (h1 : 0 ≤ a) (h2 : a < 1000000000000000) (h3 : 0 ≤ b) (h4 : b < 1000000000000000) : rngD (.int a) (.int b) S = .ok ((List.range (b - a).toNat).map fun k : Nat => D.int (a + k)) S := by
  unfold rngD
  dsimp only
  rw [if_pos (by refine ⟨?_, ?_, ?_, ?_⟩ <;> omega)]

end DL
end
-- PIx
section
set_option maxHeartbeats 4000000
namespace DL
open PySem PySem.Spec L2
def methAt (P : Pg) (c : Nat) (m : Str) (j : Nat) : Prop := ∃ cl, P.cls[c]? = some cl ∧ cl.kind = .plain ∧ cl.meths.lookup m = some j
def clsAt (P : Pg) (c i : Nat) (fs : List Str) : Prop := ∃ cl, P.cls[c]? = some cl ∧ cl.kind = .plain ∧ cl.init = i ∧ cl.fnames = fs
def ancAt (P : Pg) (c d : Nat) (b : Bool) : Prop := ∃ cl, P.cls[c]? = some cl ∧ cl.kind = .plain ∧ cl.anc.contains d = b
def r_isInt (x : Ix) : List RS := [
  .ret (.and [.bi .isinst [.var 0, .gty "int" "int"], .not (.bi .isinst [.var 0, .gty "bool" "bool"]), .chain .LtE .LtE (.var 1) (.var 0) (.var 2)])]
class IntT (P : Pg) (x : Ix) : Prop where
  isInt : fnAt P x.isInt ["value", "least", "most"] [] 3 (r_isInt x)
@[simp] theorem isInt_c {P : Pg} {x : Ix} [T : IntT P x] {F : Fs} {S : Store} {a0 a1 a2 : D} : callD P F x.isInt [a0, a1, a2] [] [] S = F.fn x.isInt [a0, a1, a2] S := T.isInt.call rfl
def r_isHeap (x : Ix) : List RS := [
  .ret (.call x.isInt [.var 0, .int 0, .gint "MOST_HEAP" 1000000000000000000000000000000] [] [])]
def r_needHeap (x : Ix) : List RS := [
  .ifs (.not (.call x.isHeap [.var 0] [] [])) [.raise x.eSize [.var 0]] []]
class HpT (P : Pg) (x : Ix) : Prop where
  isHeap : fnAt P x.isHeap ["value"] [] 1 (r_isHeap x)
  needHeap : fnAt P x.needHeap ["value"] [] 1 (r_needHeap x)
  xeSize : excAt P x.eSize ["value"]
@[simp] theorem isHeap_c {P : Pg} {x : Ix} [T : HpT P x] {F : Fs} {S : Store} {a0 : D} : callD P F x.isHeap [a0] [] [] S = F.fn x.isHeap [a0] S := T.isHeap.call rfl
@[simp] theorem needHeap_c {P : Pg} {x : Ix} [T : HpT P x] {F : Fs} {S : Store} {a0 : D} : callD P F x.needHeap [a0] [] [] S = F.fn x.needHeap [a0] S := T.needHeap.call rfl
def r_comMul (x : Ix) : List RS := [
  .asg 2 (.var 0),
  .whil (.cmp .NotEq (.bin .Mod (.var 2) (.var 1)) (.int 0)) [.asg 2 (.bin .Add (.var 2) (.var 0))],
  .ret (.var 2)]
class CmT (P : Pg) (x : Ix) : Prop where
  comMul : fnAt P x.comMul ["one", "other"] [] 3 (r_comMul x)
@[simp] theorem comMul_c {P : Pg} {x : Ix} [T : CmT P x] {F : Fs} {S : Store} {a0 a1 : D} : callD P F x.comMul [a0, a1] [] [] S = F.fn x.comMul [a0, a1] S := T.comMul.call rfl
def r_needPart (x : Ix) : List RS := [
  .ifs (.not (.call x.isInt [.var 0, .var 1, .var 2] [] [])) [.raise x.eRule [.var 3]] []]
def r_rested (x : Ix) : List RS := [
  .expr (.call x.needPart [.var 2, .int 1, .gint "MOST_MODULUS" 6, .str "modulus"] [] []),
  .expr (.call x.needPart [.var 1, .int 0, .bin .Sub (.var 2) (.int 1), .str "rest"] [] []),
  .setF "rest" (.var 1),
  .setF "modulus" (.var 2)]
def r_sized (x : Ix) : List RS := [
  .expr (.call x.needPart [.var 1, .int 1, .gint "MOST_NUMBER" 400, .str "size"] [] []),
  .expr (.call x.needPart [.var 2, .int 0, .gint "MOST_NUMBER" 400, .str "leave"] [] []),
  .setF "size" (.var 1),
  .setF "leave" (.var 2)]
def r_fixed (x : Ix) : List RS := [
  .sup x.cSized x.sized [.var 1, .var 4],
  .sup x.cRested x.rested [.var 2, .var 3],
  .setF "start" (.bin .Add (.var 1) (.var 4)),
  .setF "reach" (.var 1)]
def r_down (x : Ix) : List RS := [
  .expr (.call x.needPart [.var 1, .int 0, .gint "MOST_NUMBER" 400, .str "to"] [] []),
  .sup x.cRested x.rested [.var 2, .var 3],
  .setF "to" (.var 1),
  .setF "start" (.bin .Add (.var 1) (.int 1)),
  .setF "reach" (.int 0)]
class RuT (P : Pg) (x : Ix) : Prop where
  needPart : fnAt P x.needPart ["value", "least", "most", "part"] [] 4 (r_needPart x)
  rested : fnAt P x.rested ["self", "rest", "modulus"] [] 3 (r_rested x)
  sized : fnAt P x.sized ["self", "size", "leave"] [] 3 (r_sized x)
  fixed : fnAt P x.fixed ["self", "size", "rest", "modulus", "leave"] [("rest", .int 0), ("modulus", .int 1), ("leave", .int 0)] 5 (r_fixed x)
  down : fnAt P x.down ["self", "to", "rest", "modulus"] [("rest", .int 0), ("modulus", .int 1)] 4 (r_down x)
  xeRule : excAt P x.eRule ["part"]
  kcFixed : clsAt P x.cFixed x.fixed ["start", "reach", "size", "leave", "rest", "modulus"]
  kcDown : clsAt P x.cDown x.down ["to", "start", "reach", "rest", "modulus"]
  hcRule : ∃ cl, P.cls[x.cRule]? = some cl
  acFixedcRule : ancAt P x.cFixed x.cRule true
  acDowncRule : ancAt P x.cDown x.cRule true
  acFixedcFixed : ancAt P x.cFixed x.cFixed true
  acDowncFixed : ancAt P x.cDown x.cFixed false
  acFixedcDown : ancAt P x.cFixed x.cDown false
  acDowncDown : ancAt P x.cDown x.cDown true
@[simp] theorem needPart_c {P : Pg} {x : Ix} [T : RuT P x] {F : Fs} {S : Store} {a0 a1 a2 a3 : D} : callD P F x.needPart [a0, a1, a2, a3] [] [] S = F.fn x.needPart [a0, a1, a2, a3] S := T.needPart.call rfl
def r_fStands (x : Ix) : List RS := [
  .expr (.call x.needHeap [.var 1] [] []),
  .ret (.and [.cmp .GtE (.var 1) (.fld (.var 0) "start"), .cmp .Eq (.bin .Mod (.var 1) (.fld (.var 0) "modulus")) (.fld (.var 0) "rest")])]
def r_dStands (x : Ix) : List RS := [
  .expr (.call x.needHeap [.var 1] [] []),
  .ret (.and [.cmp .GtE (.var 1) (.fld (.var 0) "start"), .cmp .Eq (.bin .Mod (.var 1) (.fld (.var 0) "modulus")) (.fld (.var 0) "rest")])]
class StT (P : Pg) (x : Ix) : Prop where
  fStands : fnAt P x.fStands ["self", "n"] [] 2 (r_fStands x)
  dStands : fnAt P x.dStands ["self", "n"] [] 2 (r_dStands x)
  mfStands : methAt P x.cFixed "stands_at" x.fStands
  mdStands : methAt P x.cDown "stands_at" x.dStands
@[simp] theorem fStands_c {P : Pg} {x : Ix} [T : StT P x] {F : Fs} {S : Store} {a0 a1 : D} : callD P F x.fStands [a0, a1] [] [] S = F.fn x.fStands [a0, a1] S := T.fStands.call rfl
@[simp] theorem dStands_c {P : Pg} {x : Ix} [T : StT P x] {F : Fs} {S : Store} {a0 a1 : D} : callD P F x.dStands [a0, a1] [] [] S = F.fn x.dStands [a0, a1] S := T.dStands.call rfl
def r_fLeft (x : Ix) : List RS := [
  .ifs (.not (.meth (.var 0) "stands_at" [.var 1] [] [])) [.raise x.eTake [.var 1]] [],
  .ret (.bin .Sub (.var 1) (.fld (.var 0) "size"))]
def r_dLeft (x : Ix) : List RS := [
  .ifs (.not (.meth (.var 0) "stands_at" [.var 1] [] [])) [.raise x.eTake [.var 1]] [],
  .ret (.fld (.var 0) "to")]
class LaT (P : Pg) (x : Ix) : Prop where
  fLeft : fnAt P x.fLeft ["self", "n"] [] 2 (r_fLeft x)
  dLeft : fnAt P x.dLeft ["self", "n"] [] 2 (r_dLeft x)
  xeTake : excAt P x.eTake ["number"]
  mfLeft : methAt P x.cFixed "left_at" x.fLeft
  mdLeft : methAt P x.cDown "left_at" x.dLeft
@[simp] theorem fLeft_c {P : Pg} {x : Ix} [T : LaT P x] {F : Fs} {S : Store} {a0 a1 : D} : callD P F x.fLeft [a0, a1] [] [] S = F.fn x.fLeft [a0, a1] S := T.fLeft.call rfl
@[simp] theorem dLeft_c {P : Pg} {x : Ix} [T : LaT P x] {F : Fs} {S : Store} {a0 a1 : D} : callD P F x.dLeft [a0, a1] [] [] S = F.fn x.dLeft [a0, a1] S := T.dLeft.call rfl
def r_fTaken (x : Ix) : List RS := [
  .ret (.bin .Sub (.var 1) (.meth (.var 0) "left_at" [.var 1] [] []))]
def r_dTaken (x : Ix) : List RS := [
  .ret (.bin .Sub (.var 1) (.meth (.var 0) "left_at" [.var 1] [] []))]
class TkT (P : Pg) (x : Ix) : Prop where
  fTaken : fnAt P x.fTaken ["self", "n"] [] 2 (r_fTaken x)
  dTaken : fnAt P x.dTaken ["self", "n"] [] 2 (r_dTaken x)
  mfTaken : methAt P x.cFixed "taken_at" x.fTaken
  mdTaken : methAt P x.cDown "taken_at" x.dTaken
@[simp] theorem fTaken_c {P : Pg} {x : Ix} [T : TkT P x] {F : Fs} {S : Store} {a0 a1 : D} : callD P F x.fTaken [a0, a1] [] [] S = F.fn x.fTaken [a0, a1] S := T.fTaken.call rfl
@[simp] theorem dTaken_c {P : Pg} {x : Ix} [T : TkT P x] {F : Fs} {S : Store} {a0 a1 : D} : callD P F x.dTaken [a0, a1] [] [] S = F.fn x.dTaken [a0, a1] S := T.dTaken.call rfl
def r_leaving (x : Ix) : List RS := [
  .ret (.mk x.cFixed [.fld (.var 0) "size", .fld (.var 0) "rest", .fld (.var 0) "modulus", .var 1] [] [])]
class LvT (P : Pg) (x : Ix) : Prop where
  leaving : fnAt P x.leaving ["self", "leave"] [] 2 (r_leaving x)
  mLeaving : methAt P x.cFixed "leaving" x.leaving
@[simp] theorem leaving_c {P : Pg} {x : Ix} [T : LvT P x] {F : Fs} {S : Store} {a0 a1 : D} : callD P F x.leaving [a0, a1] [] [] S = F.fn x.leaving [a0, a1] S := T.leaving.call rfl
def r_fEq (x : Ix) : List RS := [
  .ifs (.or [.not (.bi .isinst [.var 1, .gcls "Fixed" x.cFixed]), .cmp .NotEq (.fld (.var 0) "size") (.fld (.var 1) "size"), .cmp .NotEq (.fld (.var 0) "leave") (.fld (.var 1) "leave")]) [.ret (.bl false)] [],
  .ret (.and [.cmp .Eq (.fld (.var 0) "rest") (.fld (.var 1) "rest"), .cmp .Eq (.fld (.var 0) "modulus") (.fld (.var 1) "modulus")])]
def r_dEq (x : Ix) : List RS := [
  .ifs (.or [.not (.bi .isinst [.var 1, .gcls "Down" x.cDown]), .cmp .NotEq (.fld (.var 0) "to") (.fld (.var 1) "to")]) [.ret (.bl false)] [],
  .ret (.and [.cmp .Eq (.fld (.var 0) "rest") (.fld (.var 1) "rest"), .cmp .Eq (.fld (.var 0) "modulus") (.fld (.var 1) "modulus")])]
class ReT (P : Pg) (x : Ix) : Prop where
  fEq : fnAt P x.fEq ["self", "other"] [] 2 (r_fEq x)
  dEq : fnAt P x.dEq ["self", "other"] [] 2 (r_dEq x)
  mfEq : methAt P x.cFixed "__eq__" x.fEq
  mdEq : methAt P x.cDown "__eq__" x.dEq
@[simp] theorem fEq_c {P : Pg} {x : Ix} [T : ReT P x] {F : Fs} {S : Store} {a0 a1 : D} : callD P F x.fEq [a0, a1] [] [] S = F.fn x.fEq [a0, a1] S := T.fEq.call rfl
@[simp] theorem dEq_c {P : Pg} {x : Ix} [T : ReT P x] {F : Fs} {S : Store} {a0 a1 : D} : callD P F x.dEq [a0, a1] [] [] S = F.fn x.dEq [a0, a1] S := T.dEq.call rfl
def r_fOrder (x : Ix) : List RS := [
  .ret (.bin .Add (.bin .Mult (.bin .Add (.bin .Mult (.bin .Add (.bin .Mult (.fld (.var 0) "size") (.int 7)) (.fld (.var 0) "modulus")) (.int 7)) (.fld (.var 0) "rest")) (.int 1000)) (.fld (.var 0) "leave"))]
def r_dOrder (x : Ix) : List RS := [
  .ret (.bin .Mult (.bin .Add (.bin .Mult (.bin .Add (.bin .Mult (.bin .Add (.int 1000) (.fld (.var 0) "to")) (.int 7)) (.fld (.var 0) "modulus")) (.int 7)) (.fld (.var 0) "rest")) (.int 1000))]
def r_comMod (x : Ix) : List RS := [
  .asg 1 (.int 1),
  .for_ 2 (.tup (.var 0)) [.asg 1 (.call x.comMul [.var 1, .fld (.var 2) "modulus"] [] []), .ifs (.cmp .Gt (.var 1) (.gint "MOST_COMMON" 12)) [.raise x.eMany [.str "modulus", .gint "MOST_COMMON" 12]] []],
  .ret (.var 1)]
def r_inOrd (x : Ix) : List RS := [
  .asg 1 (.dc (.meth (.var 2) "number_in_order" [] [] []) (.var 2) 2 .tup (.var 0) none),
  .ret (.bi .tuple [.lc (.idx (.var 1) (.var 3)) 3 .lst (.o1 .sorted (.lcK (.bi .int [.var 3]) 3 1)) none])]
def r_bInit (x : Ix) : List RS := [
  .forE 3 2 (.var 1) [.ifs (.not (.bi .isinst [.var 2, .gcls "Rule" x.cRule])) [.raise x.eBook [.var 3]] []],
  .setF "modulus" (.call x.comMod [.var 1] [] []),
  .setF "rules" (.call x.inOrd [.var 1] [] []),
  .ifs (.cmp .Gt (.bi .len [.sfld "rules"]) (.gint "MOST_RULES" 400)) [.raise x.eMany [.str "rules", .gint "MOST_RULES" 400]] [],
  .setF "start" (.int 0),
  .setF "reach" (.int 0),
  .for_ 2 (.tup (.sfld "rules")) [.setF "start" (.bi .max [.bi .int [.sfld "start"], .bi .int [.fld (.var 2) "start"]]), .setF "reach" (.bi .max [.bi .int [.sfld "reach"], .bi .int [.fld (.var 2) "reach"]])]]
class BkT (P : Pg) (x : Ix) : Prop where
  fOrder : fnAt P x.fOrder ["self"] [] 1 (r_fOrder x)
  dOrder : fnAt P x.dOrder ["self"] [] 1 (r_dOrder x)
  comMod : fnAt P x.comMod ["rules"] [] 3 (r_comMod x)
  inOrd : fnAt P x.inOrd ["rules"] [] 4 (r_inOrd x)
  bInit : ∃ f, P.fns[x.bInit]? = some f ∧ f.kind = .inS ∧ f.ps = (["self", "rules"] : List Str) ∧ f.N.length = 4 ∧ f.body = r_bInit x
  xeBook : excAt P x.eBook ["at"]
  xeMany : excAt P x.eMany ["what", "most"]
  kcBook : clsAt P x.cBook x.bInit ["modulus", "rules", "start", "reach"]
  acBookcRule : ancAt P x.cBook x.cRule false
  acBookcBook : ancAt P x.cBook x.cBook true
  mfOrder : methAt P x.cFixed "number_in_order" x.fOrder
  mdOrder : methAt P x.cDown "number_in_order" x.dOrder
@[simp] theorem fOrder_c {P : Pg} {x : Ix} [T : BkT P x] {F : Fs} {S : Store} {a0 : D} : callD P F x.fOrder [a0] [] [] S = F.fn x.fOrder [a0] S := T.fOrder.call rfl
@[simp] theorem dOrder_c {P : Pg} {x : Ix} [T : BkT P x] {F : Fs} {S : Store} {a0 : D} : callD P F x.dOrder [a0] [] [] S = F.fn x.dOrder [a0] S := T.dOrder.call rfl
@[simp] theorem comMod_c {P : Pg} {x : Ix} [T : BkT P x] {F : Fs} {S : Store} {a0 : D} : callD P F x.comMod [a0] [] [] S = F.fn x.comMod [a0] S := T.comMod.call rfl
@[simp] theorem inOrd_c {P : Pg} {x : Ix} [T : BkT P x] {F : Fs} {S : Store} {a0 : D} : callD P F x.inOrd [a0] [] [] S = F.fn x.inOrd [a0] S := T.inOrd.call rfl
def r_bOf (x : Ix) : List RS := [
  .ifs (.not (.bi .isinst [.var 1, .tup [.gty "list" "list", .gty "tuple" "tuple"]])) [.raise x.eBook [.non]] [],
  .ret (.mkV 0 (.var 1))]
class OfT (P : Pg) (x : Ix) : Prop where
  bOf : fnAt P x.bOf ["cls", "rules"] [] 2 (r_bOf x)
@[simp] theorem bOf_c {P : Pg} {x : Ix} [T : OfT P x] {F : Fs} {S : Store} {a0 a1 : D} : callD P F x.bOf [a0, a1] [] [] S = F.fn x.bOf [a0, a1] S := T.bOf.call rfl
def r_lefts (x : Ix) : List RS := [
  .expr (.call x.needHeap [.var 1] [] []),
  .asg 2 (.dc (.meth (.var 3) "left_at" [.var 1] [] []) (.bl true) 3 .tup (.fld (.var 0) "rules") (some (.meth (.var 3) "stands_at" [.var 1] [] []))),
  .ret (.bi .tuple [.o1 .sorted (.lcK (.bi .int [.var 4]) 4 2)])]
class LfT (P : Pg) (x : Ix) : Prop where
  lefts : fnAt P x.lefts ["self", "n"] [] 5 (r_lefts x)
  mLefts : methAt P x.cBook "lefts" x.lefts
@[simp] theorem lefts_c {P : Pg} {x : Ix} [T : LfT P x] {F : Fs} {S : Store} {a0 a1 : D} : callD P F x.lefts [a0, a1] [] [] S = F.fn x.lefts [a0, a1] S := T.lefts.call rfl
def r_takes (x : Ix) : List RS := [
  .ret (.bi .tuple [.lc (.bin .Sub (.var 1) (.var 2)) 2 .tup (.rev (.meth (.var 0) "lefts" [.var 1] [] [])) none])]
class TsT (P : Pg) (x : Ix) : Prop where
  takes : fnAt P x.takes ["self", "n"] [] 3 (r_takes x)
  mTakes : methAt P x.cBook "takes" x.takes
@[simp] theorem takes_c {P : Pg} {x : Ix} [T : TsT P x] {F : Fs} {S : Store} {a0 a1 : D} : callD P F x.takes [a0, a1] [] [] S = F.fn x.takes [a0, a1] S := T.takes.call rfl
def r_bEq (x : Ix) : List RS := [
  .ret (.and [.bi .isinst [.var 1, .gcls "Book" x.cBook], .cmp .Eq (.fld (.var 0) "rules") (.fld (.var 1) "rules")])]
class BeT (P : Pg) (x : Ix) : Prop where
  bEq : fnAt P x.bEq ["self", "other"] [] 2 (r_bEq x)
  mbEq : methAt P x.cBook "__eq__" x.bEq
@[simp] theorem bEq_c {P : Pg} {x : Ix} [T : BeT P x] {F : Fs} {S : Store} {a0 a1 : D} : callD P F x.bEq [a0, a1] [] [] S = F.fn x.bEq [a0, a1] S := T.bEq.call rfl
def r_bLen (x : Ix) : List RS := [
  .ret (.bi .len [.fld (.var 0) "rules"])]
class BlT (P : Pg) (x : Ix) : Prop where
  bLen : fnAt P x.bLen ["self"] [] 1 (r_bLen x)
  mbLen : methAt P x.cBook "__len__" x.bLen
@[simp] theorem bLen_c {P : Pg} {x : Ix} [T : BlT P x] {F : Fs} {S : Store} {a0 : D} : callD P F x.bLen [a0] [] [] S = F.fn x.bLen [a0] S := T.bLen.call rfl
def r_bPlain (x : Ix) : List RS := [
  .ifs (.not (.call x.isInt [.var 0, .int 0, .gint "MOST_RULES" 400] [] [])) [.raise x.eNum [.var 0]] [],
  .asg 1 (.lc2 (.mk x.cFixed [.var 2] [] []) 2 (.int 1) (.bin .Add (.var 0) (.int 1)) none),
  .ret (.mkT x.cBook (.var 1))]
class PlT (P : Pg) (x : Ix) : Prop where
  bPlain : fnAt P x.bPlain ["most"] [] 3 (r_bPlain x)
@[simp] theorem bPlain_c {P : Pg} {x : Ix} [T : PlT P x] {F : Fs} {S : Store} {a0 : D} : callD P F x.bPlain [a0] [] [] S = F.fn x.bPlain [a0] S := T.bPlain.call rfl
end DL
end
-- PRu
section
set_option maxHeartbeats 4000000
namespace DL
open PySem PySem.Spec L2
/-! ### rules, plainly -/
inductive Ru where
  | fix (s r m l : Int) | dwn (t r m : Int)
namespace Ru
def ok : Ru → Prop
  | .fix s r m l => (1 ≤ s ∧ s ≤ 400) ∧ (0 ≤ r ∧ r ≤ m - 1) ∧ (1 ≤ m ∧ m ≤ 6) ∧ (0 ≤ l ∧ l ≤ 400)
  | .dwn t r m => (0 ≤ t ∧ t ≤ 400) ∧ (0 ≤ r ∧ r ≤ m - 1) ∧ (1 ≤ m ∧ m ≤ 6)
def obj (x : Ix) : Ru → D
  | .fix s r m l => fobj x.cFixed s r m l
  | .dwn t r m => dobj x.cDown t r m
def start : Ru → Int
  | .fix s _ _ l => s + l
  | .dwn t _ _ => t + 1
def reach : Ru → Int
  | .fix s _ _ _ => s
  | .dwn _ _ _ => 0
def mod : Ru → Int
  | .fix _ _ m _ => m
  | .dwn _ _ m => m
def rest : Ru → Int
  | .fix _ r _ _ => r
  | .dwn _ r _ => r
def lf : Ru → Int → Int
  | .fix s _ _ _, v => v - s
  | .dwn t _ _, _ => t
def num : Ru → Int
  | .fix s r m l => ((s * 7 + m) * 7 + r) * 1000 + l
  | .dwn t r m => (((1000 + t) * 7 + m) * 7 + r) * 1000
def st (u : Ru) (v : Int) : Bool := decide (u.start ≤ v) && decide (v % u.mod = u.rest)
def jSt (x : Ix) : Ru → Nat
  | .fix _ _ _ _ => x.fStands
  | .dwn _ _ _ => x.dStands
def jLf (x : Ix) : Ru → Nat
  | .fix _ _ _ _ => x.fLeft
  | .dwn _ _ _ => x.dLeft
def jOr (x : Ix) : Ru → Nat
  | .fix _ _ _ _ => x.fOrder
  | .dwn _ _ _ => x.dOrder
theorem ok.m {u : Ru} (h : u.ok) : 1 ≤ u.mod ∧ u.mod ≤ 6 := by
  cases u with
  | fix s r m l => exact h.2.2.1
  | dwn t r m => exact h.2.2
theorem num_inj {u w : Ru} (hu : u.ok) (hw : w.ok) (h : u.num = w.num) : u = w := by
  cases u with
  | fix s r m l =>
    obtain ⟨a, b, c, d⟩ := hu
    cases w with
    | fix s' r' m' l' =>
      obtain ⟨a', b', c', d'⟩ := hw
      simp only [num] at h
      have e1 : l = l' := by omega
      have e2 : r = r' := by omega
      have e3 : m = m' := by omega
      have e4 : s = s' := by omega
      subst e1 e2 e3 e4
      rfl
    | dwn t' r' m' =>
      obtain ⟨a', b', c'⟩ := hw
      simp only [num] at h
      omega
  | dwn t r m =>
    obtain ⟨a, b, c⟩ := hu
    cases w with
    | fix s' r' m' l' =>
      obtain ⟨a', b', c', d'⟩ := hw
      simp only [num] at h
      omega
    | dwn t' r' m' =>
      obtain ⟨a', b', c'⟩ := hw
      simp only [num] at h
      have e2 : r = r' := by omega
      have e3 : m = m' := by omega
      have e4 : t = t' := by omega
      subst e2 e3 e4
      rfl
end Ru
abbrev maxH : Int := 1000000000000000000000000000000
theorem meth_of {P : Pg} {c : Nat} {m : Str} {j : Nat} (h : methAt P c m j) {ns : List Str} {ds : List D} (hn : ns.contains m = false) : methJ P (.obj c ns ds) m = some j := by
  obtain ⟨cl, e, k, l⟩ := h
  unfold methJ
  dsimp only
  rw [e]
  dsimp only
  rw [k, hn]
  exact l
theorem spec_of {P : Pg} {c : Nat} {m : Str} {j : Nat} (h : methAt P c m j) {ns : List Str} {ds : List D} : specJ P (.obj c ns ds) m = some (c, j) := by
  obtain ⟨cl, e, k, l⟩ := h
  unfold specJ
  dsimp only
  rw [e]
  dsimp only
  rw [k, l]
  rfl
theorem eqJ_of {P : Pg} {c : Nat} {j : Nat} (h : methAt P c "__eq__" j) {ns : List Str} {ds : List D} : eqJ P (.obj c ns ds) = some (c, j) := by
  obtain ⟨cl, e, k, l⟩ := h
  unfold eqJ
  dsimp only
  rw [e]
  dsimp only
  rw [k, l]
  rfl
theorem fld_of {P : Pg} {c i : Nat} {fs : List Str} (h : clsAt P c i fs) {f : Str} (hf : fs.contains f = true) {ns : List Str} {ds : List D} {y : D} {S : Store} (hy : lk2 ns ds f = some y) : fldD P (.obj c ns ds) f S = .ok y S := by
  obtain ⟨cl, e, k, _, q⟩ := h
  have h : fldOk P c f = true := fldOk_of e k (by rw [q]; exact hf)
  unfold fldD
  dsimp only
  rw [if_pos h, hy]
theorem isi_of {P : Pg} {c d : Nat} {b : Bool} (h : ancAt P c d b) (hd : ∃ cl, P.cls[d]? = some cl) {ns : List Str} {ds : List D} : isiD P (.obj c ns ds) (.cls d) = some b := by
  obtain ⟨cl, e, k, a⟩ := h
  obtain ⟨cl', e'⟩ := hd
  simp only [isiD, isi1, isiCls, clsOf, e, e', k, Kd.pl, if_true, a]
theorem isi_dat {P : Pg} {d : Nat} (hd : ∃ cl, P.cls[d]? = some cl) {x : D} (h : x.tyName.isSome = true) : isiD P x (.cls d) = some false := by
  obtain ⟨cl', e'⟩ := hd
  cases x <;> first | (exfalso; simp [D.tyName] at h; done) | (simp [isiD, isi1, isiCls, e', clsOf, D.tyName])
theorem clsAt.has {P : Pg} {c i : Nat} {fs : List Str} (h : clsAt P c i fs) : ∃ cl, P.cls[c]? = some cl := by
  obtain ⟨cl, e, _⟩ := h
  exact ⟨cl, e⟩
section
variable {P : Pg} {x : Ix} {n : Nat} {S : Store} {u : Ru} {s r m l t : Int}
theorem fixTi [IntT P x] [RuT P x] : FixT P x.isInt x.needPart x.rested x.eRule x.sized x.fixed x.cSized x.cRested x.cFixed :=
  { i := IntT.isInt, n := RuT.needPart, r := RuT.rested, b := RuT.xeRule, s := RuT.sized, f := RuT.fixed, c := RuT.kcFixed }
theorem dwnTi [IntT P x] [RuT P x] : DwnT P x.isInt x.needPart x.rested x.eRule x.down x.cRested x.cDown :=
  { i := IntT.isInt, n := RuT.needPart, r := RuT.rested, b := RuT.xeRule, d := RuT.down, c := RuT.kcDown }
@[simp] theorem int_s [IntT P x] {i lo hi : Int} : (fsN P (n + 1)).fn x.isInt [.int i, .int lo, .int hi] S = .ok (.bl (decide (lo ≤ i) && decide (i ≤ hi))) S := by
  rw [is_ ⟨IntT.isInt, rfl⟩ int_v]
  rfl
theorem int_r [IntT P x] {v : D} {lo hi : Int} (h : Val P v) : (fsN P (n + 1)).fn x.isInt [v, .int lo, .int hi] S = .ok (.bl (isI v lo hi)) S := is_ ⟨IntT.isInt, rfl⟩ h
@[simp] theorem fSize [RuT P x] : fldD P (fobj x.cFixed s r m l) "size" S = .ok (.int s) S := fld_of RuT.kcFixed rfl rfl
@[simp] theorem fLeave [RuT P x] : fldD P (fobj x.cFixed s r m l) "leave" S = .ok (.int l) S := fld_of RuT.kcFixed rfl rfl
@[simp] theorem dTo [RuT P x] : fldD P (dobj x.cDown t r m) "to" S = .ok (.int t) S := fld_of RuT.kcDown rfl rfl
@[simp] theorem uStart [RuT P x] : fldD P (u.obj x) "start" S = .ok (.int u.start) S := by
  cases u with
  | fix s r m l => exact fld_of RuT.kcFixed rfl rfl
  | dwn t r m => exact fld_of RuT.kcDown rfl rfl
@[simp] theorem uReach [RuT P x] : fldD P (u.obj x) "reach" S = .ok (.int u.reach) S := by
  cases u with
  | fix s r m l => exact fld_of RuT.kcFixed rfl rfl
  | dwn t r m => exact fld_of RuT.kcDown rfl rfl
@[simp] theorem uMod [RuT P x] : fldD P (u.obj x) "modulus" S = .ok (.int u.mod) S := by
  cases u with
  | fix s r m l => exact fld_of RuT.kcFixed rfl rfl
  | dwn t r m => exact fld_of RuT.kcDown rfl rfl
@[simp] theorem uRest [RuT P x] : fldD P (u.obj x) "rest" S = .ok (.int u.rest) S := by
  cases u with
  | fix s r m l => exact fld_of RuT.kcFixed rfl rfl
  | dwn t r m => exact fld_of RuT.kcDown rfl rfl
@[simp] theorem uIsR [RuT P x] : isiD P (u.obj x) (.cls x.cRule) = some true := by
  cases u with
  | fix s r m l => exact isi_of RuT.acFixedcRule RuT.hcRule
  | dwn t r m => exact isi_of RuT.acDowncRule RuT.hcRule
@[simp] theorem uObj : (u.obj x).isObj = true := by cases u <;> rfl
@[simp] theorem mStands [StT P x] : methJ P (u.obj x) "stands_at" = some (u.jSt x) := by
  cases u with
  | fix s r m l => exact meth_of StT.mfStands rfl
  | dwn t r m => exact meth_of StT.mdStands rfl
@[simp] theorem mLeft [LaT P x] : methJ P (u.obj x) "left_at" = some (u.jLf x) := by
  cases u with
  | fix s r m l => exact meth_of LaT.mfLeft rfl
  | dwn t r m => exact meth_of LaT.mdLeft rfl
@[simp] theorem mOrder [BkT P x] : methJ P (u.obj x) "number_in_order" = some (u.jOr x) := by
  cases u with
  | fix s r m l => exact meth_of BkT.mfOrder rfl
  | dwn t r m => exact meth_of BkT.mdOrder rfl
@[simp] theorem cStands [StT P x] {F : Fs} {a b : D} : callD P F (u.jSt x) [a, b] [] [] S = F.fn (u.jSt x) [a, b] S := by
  cases u with
  | fix s r m l => exact StT.fStands.call rfl
  | dwn t r m => exact StT.dStands.call rfl
@[simp] theorem cLeft [LaT P x] {F : Fs} {a b : D} : callD P F (u.jLf x) [a, b] [] [] S = F.fn (u.jLf x) [a, b] S := by
  cases u with
  | fix s r m l => exact LaT.fLeft.call rfl
  | dwn t r m => exact LaT.dLeft.call rfl
@[simp] theorem cOrder [BkT P x] {F : Fs} {a : D} : callD P F (u.jOr x) [a] [] [] S = F.fn (u.jOr x) [a] S := by
  cases u with
  | fix s r m l => exact BkT.fOrder.call rfl
  | dwn t r m => exact BkT.dOrder.call rfl
theorem heap_r [IntT P x] [HpT P x] {v : D} (h : Val P v) : (fsN P (n + 2)).fn x.isHeap [v] S = .ok (.bl (isI v 0 maxH)) S := by
  rw [HpT.isHeap.run rfl]
  simp [r_isHeap, int_r h]
@[simp] theorem heap_s [IntT P x] [HpT P x] {i : Int} : (fsN P (n + 2)).fn x.isHeap [.int i] S = .ok (.bl (decide (0 ≤ i) && decide (i ≤ maxH))) S := heap_r int_v
theorem need_r [IntT P x] [HpT P x] {v : D} (h : Val P v) : (fsN P (n + 3)).fn x.needHeap [v] S = if isI v 0 maxH then .ok .non S else .er (.exc x.eSize ["value"] [v]) S := by
  rw [HpT.needHeap.run rfl]
  have ex := HpT.xeSize (P := P) (x := x) |>.mk (ds := [v]) rfl
  cases b : isI v 0 maxH <;> simp [r_needHeap, heap_r h, b, ex]
theorem need_s [IntT P x] [HpT P x] {i : Int} (h0 : 0 ≤ i) (h1 : i ≤ maxH) : (fsN P (n + 3)).fn x.needHeap [.int i] S = .ok .non S := by
  rw [need_r int_v, isI_of h0 h1]
  rfl
theorem stands_s [IntT P x] [HpT P x] [RuT P x] [StT P x] (hu : u.ok) {v : Int} (h0 : 0 ≤ v) (h1 : v ≤ maxH) : (fsN P (n + 4)).fn (u.jSt x) [u.obj x, .int v] S = .ok (.bl (u.st v)) S := by
  have hm : 0 < u.mod := by
    have := hu.m
    omega
  have e : (fsN P (n + 4)).fn (u.jSt x) [u.obj x, .int v] S = runB (evSs P (fsN P (n + 3)) (r_fStands x) (start0 2 [u.obj x, .int v]) S) := by
    cases u with
    | fix s r m l => exact StT.fStands.run rfl
    | dwn t r m => exact StT.dStands.run rfl
  rw [e]
  unfold Ru.st
  by_cases h2 : u.start ≤ v <;> simp [r_fStands, need_s h0 h1, hm, h2]
theorem left_s [IntT P x] [HpT P x] [RuT P x] [StT P x] [LaT P x] (hu : u.ok) {v : Int} (h0 : 0 ≤ v) (h1 : v ≤ maxH) (hs : u.st v = true) : (fsN P (n + 5)).fn (u.jLf x) [u.obj x, .int v] S = .ok (.int (u.lf v)) S := by
  have st := stands_s (P := P) (x := x) (n := n) (S := S) hu h0 h1
  rw [hs] at st
  cases u with
  | fix s r m l =>
    show (fsN P (n + 5)).fn x.fLeft [(Ru.fix s r m l).obj x, .int v] S = _
    rw [LaT.fLeft.run rfl]
    have f1 : fldD P ((Ru.fix s r m l).obj x) "size" S = .ok (.int s) S := fSize
    simp [r_fLeft, st, f1, Ru.lf]
  | dwn t r m =>
    show (fsN P (n + 5)).fn x.dLeft [(Ru.dwn t r m).obj x, .int v] S = _
    rw [LaT.dLeft.run rfl]
    have f1 : fldD P ((Ru.dwn t r m).obj x) "to" S = .ok (.int t) S := dTo
    simp [r_dLeft, st, f1, Ru.lf]
@[simp] theorem small7 : small 7 = true := by decide
@[simp] theorem small1000 : small 1000 = true := by decide
@[simp] theorem order_s [RuT P x] [BkT P x] : (fsN P (n + 1)).fn (u.jOr x) [u.obj x] S = .ok (.int u.num) S := by
  cases u with
  | fix s r m l =>
    show (fsN P (n + 1)).fn x.fOrder [(Ru.fix s r m l).obj x] S = _
    rw [BkT.fOrder.run rfl]
    have f1 : ∀ {S : Store}, fldD P ((Ru.fix s r m l).obj x) "size" S = .ok (.int s) S := fSize
    have f4 : ∀ {S : Store}, fldD P ((Ru.fix s r m l).obj x) "leave" S = .ok (.int l) S := fLeave
    simp [r_fOrder, f1, f4, Ru.num, Ru.mod, Ru.rest]
  | dwn t r m =>
    show (fsN P (n + 1)).fn x.dOrder [(Ru.dwn t r m).obj x] S = _
    rw [BkT.dOrder.run rfl]
    have f1 : ∀ {S : Store}, fldD P ((Ru.dwn t r m).obj x) "to" S = .ok (.int t) S := dTo
    simp [r_dOrder, f1, Ru.num, Ru.mod, Ru.rest]
end
end DL
end
-- PBk
section
set_option maxHeartbeats 4000000
namespace DL
open PySem PySem.Spec L2
/-! ### common multiples -/
def lcmI (a b : Int) : Int := (Nat.lcm a.toNat b.toNat : Nat)
theorem lcmI_pos {a b : Int} (ha : 1 ≤ a) (hb : 1 ≤ b) : 1 ≤ lcmI a b := by
  unfold lcmI
  have : 0 < Nat.lcm a.toNat b.toNat := Nat.lcm_pos (by omega) (by omega)
  omega
theorem lcmI_l {a b : Int} (ha : 1 ≤ a) : a ∣ lcmI a b := by
  have h := Int.natCast_dvd_natCast.mpr (Nat.dvd_lcm_left a.toNat b.toNat)
  have e : (a.toNat : Int) = a := by omega
  rw [e] at h
  exact h
theorem lcmI_r {a b : Int} (hb : 1 ≤ b) : b ∣ lcmI a b := by
  have h := Int.natCast_dvd_natCast.mpr (Nat.dvd_lcm_right a.toNat b.toNat)
  have e : (b.toNat : Int) = b := by omega
  rw [e] at h
  exact h
theorem lcmI_least {a b c : Int} (ha : 1 ≤ a) (hb : 1 ≤ b) (hc : 1 ≤ c) (h1 : a ∣ c) (h2 : b ∣ c) : lcmI a b ∣ c := by
  have e1 : a = (a.toNat : Int) := by omega
  have e2 : b = (b.toNat : Int) := by omega
  have e3 : c = (c.toNat : Int) := by omega
  rw [e1, e3] at h1
  rw [e2, e3] at h2
  have k := Nat.lcm_dvd (Int.natCast_dvd_natCast.mp h1) (Int.natCast_dvd_natCast.mp h2)
  unfold lcmI
  rw [e3]
  exact Int.natCast_dvd_natCast.mpr k
theorem lcmI_le {a b : Int} (ha : 1 ≤ a) (hb : 1 ≤ b) : lcmI a b ≤ a * b := by
  have h := lcmI_least ha hb (c := a * b) (Int.mul_pos (by omega) (by omega)) ⟨b, rfl⟩ ⟨a, Int.mul_comm a b⟩
  exact Int.le_of_dvd (Int.mul_pos (by omega) (by omega)) h
section
variable {P : Pg} {x : Ix} {n : Nat} {S : Store} {u : Ru}
theorem lcm_while {F : Fs} {a b : Int} (ha : 1 ≤ a) (hb : 1 ≤ b) : ∀ (fu : Nat) (f : Int), a ∣ f → 1 ≤ f → f ≤ lcmI a b → lcmI a b < f + a * fu → whilL (contT P F (.cmp .NotEq (.bin .Mod (.var 2) (.var 1)) (.int 0))) (contS P F [.asg 2 (.bin .Add (.var 2) (.var 0))]) fu [some (.sh (.int a)), some (.sh (.int b)), some (.sh (.int f))] S = .nx [some (.sh (.int a)), some (.sh (.int b)), some (.sh (.int (lcmI a b)))] S
  | 0, f, _, _, h1, h2 => by
    exfalso
    simp at h2
    omega
  | fu + 1, f, hd, h1, h2, h3 => by
    have hb0 : 0 < b := by omega
    unfold whilL
    by_cases hm : f % b = 0
    · have e : f = lcmI a b := by
        have k := lcmI_least ha hb h1 hd (Int.dvd_of_emod_eq_zero hm)
        have := Int.le_of_dvd (by omega) k
        omega
      simp [hb0, hm]
      simp [← e]
    · have hn : f + a ≤ lcmI a b := by
        have hne : f ≠ lcmI a b := fun e => hm (by rw [e]; exact Int.emod_eq_zero_of_dvd (lcmI_r hb))
        have hd2 : a ∣ lcmI a b - f := Int.dvd_sub (lcmI_l ha) hd
        have := Int.le_of_dvd (by omega) hd2
        omega
      have ih := lcm_while (F := F) ha hb fu (f + a) (Int.dvd_add hd ⟨1, by omega⟩) (by omega) hn (by
        have : a * ((fu + 1 : Nat) : Int) = a * fu + a := by
          rw [Int.natCast_succ, Int.mul_add, Int.mul_one]
        rw [this] at h3
        omega)
      simp [hb0, hm]
      exact ih
theorem comMul_s [CmT P x] {a b : Int} (ha : 1 ≤ a) (hb : 1 ≤ b) (hb2 : b ≤ 100000) : (fsN P (n + 1)).fn x.comMul [.int a, .int b] S = .ok (.int (lcmI a b)) S := by
  rw [CmT.comMul.run rfl]
  have hl : lcmI a b < a + a * (most : Nat) := by
    have h1 := lcmI_le ha hb
    have h2 : a * b ≤ a * 100000 := Int.mul_le_mul_of_nonneg_left hb2 (by omega)
    have h3 : a * ((most : Nat) : Int) = a * 1000000 := rfl
    rw [h3]
    omega
  have h := lcm_while (P := P) (F := fsN P n) (S := S) ha hb most a ⟨1, by omega⟩ ha (Int.le_of_dvd (by have := lcmI_pos ha hb; omega) (lcmI_l ha)) hl
  rw [most_s] at h
  simp [r_comMul, h]
/-! ### the modulus of rules -/
def modA : Int → List Ru → Int
  | a, [] => a
  | a, u :: us => modA (lcmI a u.mod) us
def modF (us : List Ru) : Int := modA 1 us
theorem modA_ge : ∀ (us : List Ru) (a : Int), 1 ≤ a → (∀ u ∈ us, u.ok) → a ≤ modA a us ∧ a ∣ modA a us
  | [], a, _, _ => ⟨Int.le_refl a, Int.dvd_refl a⟩
  | u :: us, a, ha, h => by
    have hu := (h u (List.mem_cons_self ..)).m
    obtain ⟨h1, h2⟩ := modA_ge us (lcmI a u.mod) (lcmI_pos ha hu.1) fun w hw => h w (List.mem_cons_of_mem _ hw)
    have h3 := lcmI_l (b := u.mod) ha
    have h4 := Int.le_of_dvd (by have := lcmI_pos ha hu.1; omega) h3
    exact ⟨by show a ≤ modA (lcmI a u.mod) us; omega, Int.dvd_trans h3 h2⟩
def bodyM (x : Ix) : List RS := [.asg 1 (.call x.comMul [.var 1, .fld (.var 2) "modulus"] [] []), .ifs (.cmp .Gt (.var 1) (.gint "MOST_COMMON" 12)) [.raise x.eMany [.str "modulus", .gint "MOST_COMMON" 12]] []]
theorem mod_loop [RuT P x] [CmT P x] [BkT P x] {z : D} : ∀ (us : List Ru) (a : Int) (w : Option Sl), 1 ≤ a → a ≤ 12 → (∀ u ∈ us, u.ok) → if modA a us ≤ 12 then ∃ w', forL 2 (contS P (fsN P (n + 1)) (bodyM x)) (us.map (Ru.obj x)) [some (.sh z), some (.sh (.int a)), w] S = .nx [some (.sh z), some (.sh (.int (modA a us))), w'] S else ∃ ρ, forL 2 (contS P (fsN P (n + 1)) (bodyM x)) (us.map (Ru.obj x)) [some (.sh z), some (.sh (.int a)), w] S = .er (.exc x.eMany ["most", "what"] [.int 12, .str "modulus"]) ρ S
  | [], a, w, h1, h2, _ => by
    unfold modA
    rw [if_pos h2]
    exact ⟨w, rfl⟩
  | u :: us, a, w, h1, h2, h => by
    have hu := (h u (List.mem_cons_self ..)).m
    have e1 := comMul_s (P := P) (x := x) (n := n) (S := S) h1 hu.1 (by omega)
    have hp := lcmI_pos h1 hu.1
    have ex := (BkT.xeMany (P := P) (x := x)).mk (ds := [.str "modulus", .int 12]) rfl
    unfold modA
    by_cases hl : lcmI a u.mod ≤ 12
    · have ih := mod_loop (z := z) us (lcmI a u.mod) (some (.sh (u.obj x))) hp hl fun w hw => h w (List.mem_cons_of_mem _ hw)
      have hn : ¬ 12 < lcmI a u.mod := by omega
      have b : evSs P (fsN P (n + 1)) (bodyM x) ([some (.sh z), some (.sh (.int a)), w].set 2 (some (.sh (u.obj x)))) S = .nx [some (.sh z), some (.sh (.int (lcmI a u.mod))), some (.sh (u.obj x))] S := by
        simp [bodyM, e1, hn]
      simp only [List.map_cons, forL, contS_s, b]
      exact ih
    · have hg := (modA_ge us (lcmI a u.mod) hp fun w hw => h w (List.mem_cons_of_mem _ hw)).1
      have hn : 12 < lcmI a u.mod := by omega
      rw [if_neg (by omega)]
      have b : evSs P (fsN P (n + 1)) (bodyM x) ([some (.sh z), some (.sh (.int a)), w].set 2 (some (.sh (u.obj x)))) S = .er (.exc x.eMany ["most", "what"] [.int 12, .str "modulus"]) [some (.sh z), some (.sh (.int (lcmI a u.mod))), some (.sh (u.obj x))] S := by
        simp [bodyM, e1, hn, ex]
      exact ⟨[some (.sh z), some (.sh (.int (lcmI a u.mod))), some (.sh (u.obj x))], by simp only [List.map_cons, forL, contS_s, b]⟩
theorem comMod_s [RuT P x] [CmT P x] [BkT P x] {us : List Ru} (h : ∀ u ∈ us, u.ok) : (fsN P (n + 2)).fn x.comMod [.tup (us.map (Ru.obj x))] S = if modF us ≤ 12 then .ok (.int (modF us)) S else .er (.exc x.eMany ["most", "what"] [.int 12, .str "modulus"]) S := by
  rw [BkT.comMod.run rfl]
  have l := mod_loop (P := P) (x := x) (n := n) (S := S) (z := .tup (us.map (Ru.obj x))) us 1 none (by decide) (by decide) h
  unfold modF
  have e : r_comMod x = [.asg 1 (.int 1), .for_ 2 (.tup (.var 0)) (bodyM x), .ret (.var 1)] := rfl
  rw [e]
  by_cases c : modA 1 us ≤ 12
  · rw [if_pos c] at l ⊢
    obtain ⟨w, l⟩ := l
    simp [l]
  · rw [if_neg c] at l ⊢
    obtain ⟨w, l⟩ := l
    simp [l]
end
end DL
end
-- PBk2
section
set_option maxHeartbeats 4000000
namespace DL
open PySem PySem.Spec L2
/-! ### numbers in their order -/
theorem insI_mem {a b : Int} : ∀ l : List Int, b ∈ insI a l ↔ b = a ∨ b ∈ l
  | [] => by simp [insI]
  | y :: ys => by
    unfold insI
    split
    · simp
    · simp [insI_mem ys]
      constructor
      · rintro (h | h | h) <;> simp [h]
      · rintro (h | h | h) <;> simp [h]
theorem sortI_mem {b : Int} : ∀ l : List Int, b ∈ sortI l ↔ b ∈ l
  | [] => by simp [sortI]
  | y :: ys => by
    unfold sortI
    rw [insI_mem, sortI_mem ys, List.mem_cons]
theorem insI_len {a : Int} : ∀ l : List Int, (insI a l).length = l.length + 1
  | [] => rfl
  | y :: ys => by
    unfold insI
    split
    · rfl
    · simp [insI_len ys]
theorem sortI_len : ∀ l : List Int, (sortI l).length = l.length
  | [] => rfl
  | y :: ys => by
    unfold sortI
    rw [insI_len, sortI_len ys]
    rfl
theorem insI_lt {a : Int} : ∀ l : List Int, l.Pairwise (· < ·) → a ∉ l → (insI a l).Pairwise (· < ·)
  | [], _, _ => by simp [insI]
  | y :: ys, h, hn => by
    have hp := List.pairwise_cons.mp h
    have h1 : a ≠ y := fun e => hn (e ▸ List.mem_cons_self ..)
    have h2 : a ∉ ys := fun e => hn (List.mem_cons_of_mem _ e)
    unfold insI
    split
    · rename_i hle
      refine List.pairwise_cons.mpr ⟨fun b hb => ?_, h⟩
      rcases List.mem_cons.mp hb with rfl | hb
      · omega
      · have := hp.1 b hb
        omega
    · refine List.pairwise_cons.mpr ⟨fun b hb => ?_, insI_lt ys hp.2 h2⟩
      rcases (insI_mem ys).mp hb with rfl | hb
      · omega
      · exact hp.1 b hb
theorem sortI_lt : ∀ l : List Int, l.Nodup → (sortI l).Pairwise (· < ·)
  | [], _ => List.Pairwise.nil
  | y :: ys, h => by
    have hp := List.nodup_cons.mp h
    exact insI_lt _ (sortI_lt ys hp.2) fun e => hp.1 ((sortI_mem ys).mp e)
theorem insU_mem {a b : Int} : ∀ l : List Int, b ∈ insU a l ↔ b = a ∨ b ∈ l
  | [] => by simp [insU]
  | y :: ys => by
    unfold insU
    split
    · simp
    · split
      · rename_i e
        subst e
        simp
      · simp [insU_mem ys]
        constructor
        · rintro (h | h | h) <;> simp [h]
        · rintro (h | h | h) <;> simp [h]
theorem sortU_mem {b : Int} : ∀ l : List Int, b ∈ sortU l ↔ b ∈ l
  | [] => by simp [sortU]
  | y :: ys => by
    unfold sortU
    rw [insU_mem, sortU_mem ys, List.mem_cons]
theorem insU_lt {a : Int} : ∀ l : List Int, l.Pairwise (· < ·) → (insU a l).Pairwise (· < ·)
  | [], _ => by simp [insU]
  | y :: ys, h => by
    have hp := List.pairwise_cons.mp h
    unfold insU
    split
    · rename_i hlt
      refine List.pairwise_cons.mpr ⟨fun b hb => ?_, h⟩
      rcases List.mem_cons.mp hb with rfl | hb
      · exact hlt
      · have := hp.1 b hb
        omega
    · split
      · exact h
      · refine List.pairwise_cons.mpr ⟨fun b hb => ?_, insU_lt ys hp.2⟩
        rcases (insU_mem ys).mp hb with rfl | hb
        · omega
        · exact hp.1 b hb
theorem sortU_lt : ∀ l : List Int, (sortU l).Pairwise (· < ·)
  | [] => List.Pairwise.nil
  | y :: ys => insU_lt _ (sortU_lt ys)
/-- lists in one order with the same members are one list -/
theorem lt_ext : ∀ {a b : List Int}, a.Pairwise (· < ·) → b.Pairwise (· < ·) → (∀ c, c ∈ a ↔ c ∈ b) → a = b
  | [], [], _, _, _ => rfl
  | [], y :: ys, _, _, h => absurd ((h y).mpr (List.mem_cons_self ..)) (by simp)
  | x :: xs, [], _, _, h => absurd ((h x).mp (List.mem_cons_self ..)) (by simp)
  | x :: xs, y :: ys, ha, hb, h => by
    have pa := List.pairwise_cons.mp ha
    have pb := List.pairwise_cons.mp hb
    have e : x = y := by
      rcases List.mem_cons.mp ((h x).mp (List.mem_cons_self ..)) with e | hx
      · exact e
      · rcases List.mem_cons.mp ((h y).mpr (List.mem_cons_self ..)) with e | hy
        · exact e.symm
        · have h1 := pb.1 x hx
          have h2 := pa.1 y hy
          omega
    subst e
    rw [lt_ext pa.2 pb.2 fun c => ?_]
    constructor
    · intro hc
      rcases List.mem_cons.mp ((h c).mp (List.mem_cons_of_mem _ hc)) with e | hc'
      · have := pa.1 c hc
        omega
      · exact hc'
    · intro hc
      rcases List.mem_cons.mp ((h c).mpr (List.mem_cons_of_mem _ hc)) with e | hc'
      · have := pb.1 c hc
        omega
      · exact hc'
theorem intsD_map : ∀ l : List Int, intsD (l.map D.int) = some l
  | [] => rfl
  | x :: l => by simp [intsD, intsD_map l]
/-! ### dicts of numbers -/
def addN (ns : List Int) (k : Int) : List Int := if k ∈ ns then ns else ns ++ [k]
def dedN (ks : List Int) : List Int := ks.foldl addN []
theorem addN_mem {ns : List Int} {k c : Int} : c ∈ addN ns k ↔ c ∈ ns ∨ c = k := by
  unfold addN
  split
  · constructor
    · exact .inl
    · rintro (h | rfl) <;> assumption
  · simp
theorem addN_nodup {ns : List Int} {k : Int} (h : ns.Nodup) : (addN ns k).Nodup := by
  unfold addN
  split
  · exact h
  · rename_i hk
    rw [List.nodup_append]
    refine ⟨h, by simp, ?_⟩
    intro a ha b hb
    simp at hb
    subst hb
    exact fun e => hk (e ▸ ha)
theorem fold_mem : ∀ (ks ns : List Int) {c : Int}, c ∈ ks.foldl addN ns ↔ c ∈ ns ∨ c ∈ ks
  | [], ns, c => by simp
  | k :: ks, ns, c => by
    rw [List.foldl_cons, fold_mem ks, addN_mem, List.mem_cons, or_assoc]
theorem fold_nodup : ∀ (ks ns : List Int), ns.Nodup → (ks.foldl addN ns).Nodup
  | [], ns, h => h
  | k :: ks, ns, h => fold_nodup ks _ (addN_nodup h)
theorem dedN_mem {ks : List Int} {c : Int} : c ∈ dedN ks ↔ c ∈ ks := by simp [dedN, fold_mem]
theorem dedN_nodup (ks : List Int) : (dedN ks).Nodup := fold_nodup ks [] List.Pairwise.nil
theorem addN_len {ns : List Int} {k : Int} : (addN ns k).length ≤ ns.length + 1 := by
  unfold addN
  split <;> simp
theorem fold_len : ∀ (ks ns : List Int), (ks.foldl addN ns).length ≤ ns.length + ks.length
  | [], ns => by simp
  | k :: ks, ns => by
    have h := fold_len ks (addN ns k)
    have := addN_len (ns := ns) (k := k)
    simp
    omega
theorem putD2_k (val : Int → D) (k : Int) : ∀ ns : List Int, putD2 (ns.map Sum.inl) (ns.map val) (.inl k) (val k) = ((addN ns k).map Sum.inl, (addN ns k).map val)
  | [] => rfl
  | m :: ns => by
    simp only [List.map_cons]
    unfold putD2
    by_cases h : m = k
    · subst h
      simp [addN]
    · have h1 : ¬ (Sum.inl m : Key) = .inl k := fun e => h (Sum.inl.inj e)
      have h2 : ¬ k = m := fun e => h e.symm
      rw [if_neg h1, putD2_k val k ns]
      unfold addN
      by_cases hk : k ∈ ns
      · rw [if_pos hk, if_pos (List.mem_cons_of_mem _ hk)]
        rfl
      · rw [if_neg hk, if_neg (by simp [hk, h2])]
        rfl
theorem getD2_k (val : Int → D) {k : Int} : ∀ ns : List Int, k ∈ ns → getD2 (ns.map Sum.inl) (ns.map val) (.inl k) = some (val k)
  | [], h => by simp at h
  | m :: ns, h => by
    simp only [List.map_cons]
    unfold getD2
    by_cases e : m = k
    · subst e
      rw [if_pos rfl]
    · rw [if_neg fun q => e (Sum.inl.inj q)]
      rcases List.mem_cons.mp h with q | q
      · exact absurd q.symm e
      · exact getD2_k val ns q
/-- a dict's comprehension with keys that are numbers; each key has one value -/
theorem dc_k {α : Type} {f : D → Store → Out (Option (D × D))} (g : α → D) (key : α → Int) (val : Int → D) (ok : α → Bool) {S : Store} : ∀ (xs : List α) (ns : List Int), (∀ a ∈ xs, f (g a) S = if ok a then .ok (some (.int (key a), val (key a))) S else .ok none S) → ns.length + xs.length ≤ most → dcD f (xs.map g) (ns.map Sum.inl) (ns.map val) S = .ok (.dct ((((xs.filter ok).map key).foldl addN ns).map Sum.inl) ((((xs.filter ok).map key).foldl addN ns).map val)) S
  | [], ns, _, _ => rfl
  | a :: xs, ns, h, hl => by
    have ha := h a (List.mem_cons_self ..)
    have hr : ∀ b ∈ xs, f (g b) S = if ok b then .ok (some (.int (key b), val (key b))) S else .ok none S := fun b hb => h b (List.mem_cons_of_mem _ hb)
    simp at hl
    simp only [List.map_cons]
    unfold dcD
    rw [ha]
    by_cases o : ok a = true
    · have hn : (ns.map (Sum.inl : Int → Key)).length < most := by
        simp
        omega
      have := addN_len (ns := ns) (k := key a)
      rw [if_pos o]
      dsimp only [keyD]
      rw [if_pos hn, putD2_k, dc_k g key val ok xs (addN ns (key a)) hr (by simp; omega)]
      simp [List.filter_cons, o]
    · rw [if_neg o]
      dsimp only
      rw [dc_k g key val ok xs ns hr (by simp; omega)]
      simp [List.filter_cons, o]
theorem lcK_k {f : D → Out D} : ∀ (ns : List Int) (acc : List D), (∀ k ∈ ns, ∃ S, f (.int k) = .ok (.int k) S) → acc.length + ns.length ≤ most → lcKD f (ns.map Sum.inl) acc = some (acc ++ ns.map D.int)
  | [], acc, _, _ => by simp [lcKD]
  | k :: ns, acc, h, hl => by
    obtain ⟨S, e⟩ := h k (List.mem_cons_self ..)
    simp only [List.map_cons]
    unfold lcKD
    simp at hl
    have hn : acc.length < most := by
      simp
      omega
    rw [show kD (Sum.inl k) = D.int k from rfl, e]
    dsimp only
    rw [if_pos (by simp only [D.scal, Bool.true_and, decide_eq_true_eq]; exact hn), lcK_k ns (acc ++ [D.int k]) (fun k hk => h k (List.mem_cons_of_mem _ hk)) (by simp; omega), List.append_assoc]
    rfl
/-- a comprehension by what is made of each -/
theorem lc_map {α : Type} {f : D → Store → Out (Option D)} (g : α → D) (h : α → Option D) {S : Store} : ∀ (xs : List α) (acc : List D), (∀ a ∈ xs, f (g a) S = .ok (h a) S) → acc.length + xs.length ≤ most → lcD f (xs.map g) acc S = .ok (.lst (acc ++ xs.filterMap h)) S
  | [], acc, _, _ => by simp [lcD]
  | a :: xs, acc, hh, hl => by
    simp only [List.map_cons]
    unfold lcD
    simp at hl
    rw [hh a (List.mem_cons_self ..)]
    cases e : h a with
    | none =>
      dsimp only
      rw [lc_map g h xs acc (fun b hb => hh b (List.mem_cons_of_mem _ hb)) (by simp; omega)]
      simp [List.filterMap_cons, e]
    | some y =>
      dsimp only
      rw [if_pos (by simp; omega), lc_map g h xs (acc ++ [y]) (fun b hb => hh b (List.mem_cons_of_mem _ hb)) (by simp; omega)]
      simp [List.filterMap_cons, e]
/-- .. of each something -/
theorem lc_all {α : Type} {f : D → Store → Out (Option D)} (g : α → D) (h : α → D) {S : Store} (xs : List α) (hh : ∀ a ∈ xs, f (g a) S = .ok (some (h a)) S) (hl : xs.length ≤ most) : lcD f (xs.map g) [] S = .ok (.lst (xs.map h)) S := by
  have e := lc_map (f := f) g (fun a => some (h a)) xs [] hh (by simpa using hl)
  rw [e]
  simp [List.filterMap_eq_map]
end DL
end
-- PBk3
section
set_option maxHeartbeats 4000000
namespace DL
open PySem PySem.Spec L2
/-! ### rules in their order, each once -/
def byNum (us : List Ru) (k : Int) : Ru := (us.find? fun u => u.num == k).getD (.dwn 0 0 1)
def canon (us : List Ru) : List Ru := (sortI (dedN (us.map Ru.num))).map (byNum us)
abbrev okL (us : List Ru) : Prop := ∀ u ∈ us, u.ok
theorem byNum_of {us : List Ru} (h : okL us) {u : Ru} (hu : u ∈ us) : byNum us u.num = u := by
  unfold byNum
  cases e : us.find? fun w => w.num == u.num with
  | none =>
    have := List.find?_eq_none.mp e u hu
    simp at this
  | some w =>
    have h1 : w.num = u.num := by simpa using List.find?_some e
    have h2 := List.mem_of_find?_eq_some e
    exact Ru.num_inj (h w h2) (h u hu) h1
theorem canon_mem {us : List Ru} (h : okL us) {u : Ru} : u ∈ canon us ↔ u ∈ us := by
  unfold canon
  rw [List.mem_map]
  constructor
  · rintro ⟨k, hk, rfl⟩
    rw [sortI_mem, dedN_mem, List.mem_map] at hk
    obtain ⟨w, hw, rfl⟩ := hk
    rw [byNum_of h hw]
    exact hw
  · intro hu
    exact ⟨u.num, by rw [sortI_mem, dedN_mem]; exact List.mem_map_of_mem hu, byNum_of h hu⟩
theorem canon_num {us : List Ru} (h : okL us) : (canon us).map Ru.num = sortI (dedN (us.map Ru.num)) := by
  unfold canon
  rw [List.map_map]
  conv => rhs; rw [← List.map_id (sortI (dedN (us.map Ru.num)))]
  apply List.map_congr_left
  intro k hk
  rw [sortI_mem, dedN_mem, List.mem_map] at hk
  obtain ⟨w, hw, rfl⟩ := hk
  simp [byNum_of h hw]
theorem canon_lt {us : List Ru} (h : okL us) : ((canon us).map Ru.num).Pairwise (· < ·) := by
  rw [canon_num h]
  exact sortI_lt _ (dedN_nodup _)
theorem canon_ok {us : List Ru} (h : okL us) : okL (canon us) := fun u hu => h u ((canon_mem h).mp hu)
theorem canon_len (us : List Ru) : (canon us).length ≤ us.length := by
  unfold canon
  rw [List.length_map, sortI_len]
  have := fold_len (us.map Ru.num) []
  simpa [dedN] using this
/-- rules in one order with the same members -/
theorem num_ext {a b : List Ru} (ha : okL a) (hb : okL b) (h1 : (a.map Ru.num).Pairwise (· < ·)) (h2 : (b.map Ru.num).Pairwise (· < ·)) (h : ∀ u, u ∈ a ↔ u ∈ b) : a = b := by
  have e : a.map Ru.num = b.map Ru.num := lt_ext h1 h2 fun c => by
    simp only [List.mem_map]
    constructor
    · rintro ⟨u, hu, rfl⟩
      exact ⟨u, (h u).mp hu, rfl⟩
    · rintro ⟨u, hu, rfl⟩
      exact ⟨u, (h u).mpr hu, rfl⟩
  clear h h1 h2
  induction a generalizing b with
  | nil =>
    cases b with
    | nil => rfl
    | cons _ _ => simp at e
  | cons u us ih =>
    cases b with
    | nil => simp at e
    | cons w ws =>
      simp at e
      have hu : u = w := Ru.num_inj (ha u (List.mem_cons_self ..)) (hb w (List.mem_cons_self ..)) e.1
      subst hu
      rw [ih (fun u hu => ha u (List.mem_cons_of_mem _ hu)) (fun u hu => hb u (List.mem_cons_of_mem _ hu)) (by simpa using e.2)]
theorem canon_ext {a b : List Ru} (ha : okL a) (hb : okL b) (h : ∀ u, u ∈ a ↔ u ∈ b) : canon a = canon b :=
  num_ext (canon_ok ha) (canon_ok hb) (canon_lt ha) (canon_lt hb) fun u => by rw [canon_mem ha, canon_mem hb, h]
def maxS : Int → List Ru → Int
  | a, [] => a
  | a, u :: us => maxS (mx2 a u.start) us
def maxR : Int → List Ru → Int
  | a, [] => a
  | a, u :: us => maxR (mx2 a u.reach) us
/-- a book -/
def bobj (x : Ix) (us : List Ru) : D := .obj x.cBook ["modulus", "rules", "start", "reach"] [.int (modF us), .tup ((canon us).map (Ru.obj x)), .int (maxS 0 (canon us)), .int (maxR 0 (canon us))]
section
variable {P : Pg} {x : Ix} {n : Nat} {S : Store} {u : Ru} {us : List Ru}
@[simp] theorem lcF_none {F : Fs} {i : Nat} {e : RE} {ρ : Ro} {d : D} : lcF i (contC P F none) (contE P F e) ρ d S = (evE P F e (ρ.set i (some (.sh d))) S).bind fun y S2 => .ok (some y) S2 := rfl
theorem lcF_some {F : Fs} {i : Nat} {e c : RE} {ρ : Ro} {d : D} : lcF i (contC P F (some c)) (contE P F e) ρ d S = (((evE P F c (ρ.set i (some (.sh d))) S).bind truD).bind fun t S1 => if t then (evE P F e (ρ.set i (some (.sh d))) S1).bind fun y S2 => .ok (some y) S2 else .ok none S1) := rfl
theorem inOrd_s [RuT P x] [BkT P x] (h : okL us) (hl : us.length ≤ most) : (fsN P (n + 2)).fn x.inOrd [.tup (us.map (Ru.obj x))] S = .ok (.tup ((canon us).map (Ru.obj x))) S := by
  rw [BkT.inOrd.run rfl]
  have d1 : ∀ ρ : Ro, ∀ w ∈ us, dcF 2 (contC P (fsN P (n + 1)) none) (contE P (fsN P (n + 1)) (.meth (.var 2) "number_in_order" [] [] [])) (contE P (fsN P (n + 1)) (.var 2)) [some (.sh (.tup (us.map (Ru.obj x)))), none, none, none] (w.obj x) S = if (fun _ => true) w then .ok (some (.int w.num, (fun k => (byNum us k).obj x) w.num)) S else .ok none S := by
    intro ρ w hw
    simp [dcF, byNum_of h hw]
  have d2 := dc_k (α := Ru) (Ru.obj x) Ru.num (fun k => (byNum us k).obj x) (fun _ => true) us [] (d1 []) (by simpa using hl)
  have ft : us.filter (fun _ => true) = us := List.filter_eq_self.mpr (by simp)
  rw [ft] at d2
  have ll : (dedN (us.map Ru.num)).length ≤ most := by
    have := fold_len (us.map Ru.num) []
    simp [dedN] at this ⊢
    simp at hl
    omega
  have d3 := lcK_k (f := contK P (fsN P (n + 1)) (.bi .int [.var 3]) 3 [some (.sh (.tup (us.map (Ru.obj x)))), some (.sh (.dct ((dedN (us.map Ru.num)).map Sum.inl) ((dedN (us.map Ru.num)).map fun k => (byNum us k).obj x))), none, none]) (dedN (us.map Ru.num)) [] (fun k _ => ⟨[], by simp⟩) (by simpa using ll)
  have d4 := lc_all (S := S) (f := lcF 3 (contC P (fsN P (n + 1)) none) (contE P (fsN P (n + 1)) (.idx (.var 1) (.var 3))) [some (.sh (.tup (us.map (Ru.obj x)))), some (.sh (.dct ((dedN (us.map Ru.num)).map Sum.inl) ((dedN (us.map Ru.num)).map fun k => (byNum us k).obj x))), none, none]) D.int (fun k => (byNum us k).obj x) (sortI (dedN (us.map Ru.num))) (fun k hk => by
    rw [sortI_mem] at hk
    simp [idxD, getD2_k (fun k => (byNum us k).obj x) _ hk]) (by rw [sortI_len]; exact ll)
  simp only [List.map_nil] at d2
  rw [show (us.map Ru.num).foldl addN [] = dedN (us.map Ru.num) from rfl] at d2
  simp [r_inOrd, d2, d3, o1D, onI, intsD_map, d4]
  unfold canon
  rw [List.map_map]
  rfl
/-! ### Book(..) -/
@[simp] theorem bMod [BkT P x] : fldD P (bobj x us) "modulus" S = .ok (.int (modF us)) S := fld_of BkT.kcBook rfl rfl
@[simp] theorem bRules [BkT P x] : fldD P (bobj x us) "rules" S = .ok (.tup ((canon us).map (Ru.obj x))) S := fld_of BkT.kcBook rfl rfl
@[simp] theorem bStart [BkT P x] : fldD P (bobj x us) "start" S = .ok (.int (maxS 0 (canon us))) S := fld_of BkT.kcBook rfl rfl
@[simp] theorem bReach [BkT P x] : fldD P (bobj x us) "reach" S = .ok (.int (maxR 0 (canon us))) S := fld_of BkT.kcBook rfl rfl
def bodyC (x : Ix) : List RS := [.ifs (.not (.bi .isinst [.var 2, .gcls "Rule" x.cRule])) [.raise x.eBook [.var 3]] []]
theorem chk_loop [RuT P x] {F : Fs} {w0 w1 : Option Sl} : ∀ (us : List Ru) (k : Nat) (w2 w3 : Option Sl), ∃ w2' w3', forEL 3 2 (contS P F (bodyC x)) k (us.map (Ru.obj x)) [w0, w1, w2, w3] S = .nx [w0, w1, w2', w3'] S
  | [], k, w2, w3 => ⟨w2, w3, rfl⟩
  | u :: us, k, w2, w3 => by
    obtain ⟨a, b, e⟩ := chk_loop us (k + 1) (some (.sh (u.obj x))) (some (.sh (.int k)))
    refine ⟨a, b, ?_⟩
    simp only [List.map_cons]
    unfold forEL
    have q : contS P F (bodyC x) (([w0, w1, w2, w3].set 3 (some (.sh (.int k)))).set 2 (some (.sh (u.obj x)))) S = .nx [w0, w1, some (.sh (u.obj x)), some (.sh (.int k))] S := by simp [bodyC]
    rw [q]
    exact e
/-- .. a value that is no rule -/
theorem chk_bad [RuT P x] [BkT P x] {F : Fs} {w0 w1 : Option Sl} {v : D} (hv : isiD P v (.cls x.cRule) = some false) (rest : List D) : ∀ (us : List Ru) (k : Nat) (w2 w3 : Option Sl), ∃ ρ, forEL 3 2 (contS P F (bodyC x)) k (us.map (Ru.obj x) ++ v :: rest) [w0, w1, w2, w3] S = .er (.exc x.eBook ["at"] [.int (k + us.length)]) ρ S
  | [], k, w2, w3 => by
    refine ⟨[w0, w1, some (.sh v), some (.sh (.int k))], ?_⟩
    simp only [List.map_nil, List.nil_append]
    unfold forEL
    have ex := (BkT.xeBook (P := P) (x := x)).mk (ds := [.int k]) rfl
    have q : contS P F (bodyC x) (([w0, w1, w2, w3].set 3 (some (.sh (.int k)))).set 2 (some (.sh v))) S = .er (.exc x.eBook ["at"] [.int k]) [w0, w1, some (.sh v), some (.sh (.int k))] S := by simp [bodyC, hv, ex]
    rw [q]
    simp
  | u :: us, k, w2, w3 => by
    obtain ⟨a, e⟩ := chk_bad hv rest us (k + 1) (some (.sh (u.obj x))) (some (.sh (.int k)))
    refine ⟨a, ?_⟩
    simp only [List.map_cons, List.cons_append]
    unfold forEL
    have q : contS P F (bodyC x) (([w0, w1, w2, w3].set 3 (some (.sh (.int k)))).set 2 (some (.sh (u.obj x)))) S = .nx [w0, w1, some (.sh (u.obj x)), some (.sh (.int k))] S := by simp [bodyC]
    rw [q]
    dsimp only
    rw [e]
    have : ((k + 1 : Nat) : Int) + (us.length : Int) = (k : Int) + ((us.length + 1 : Nat) : Int) := by omega
    rw [this]
    rfl
def bodyX : List RS := [.setF "start" (.bi .max [.bi .int [.sfld "start"], .bi .int [.fld (.var 2) "start"]]), .setF "reach" (.bi .max [.bi .int [.sfld "reach"], .bi .int [.fld (.var 2) "reach"]])]
@[simp] theorem fldOk_b [BkT P x] {f : Str} (h : (["modulus", "rules", "start", "reach"] : List Str).contains f = true) : fldOk P x.cBook f = true := by
  obtain ⟨cl, e, k, _, q⟩ := BkT.kcBook (P := P) (x := x)
  exact fldOk_of e k (by rw [q]; exact h)
theorem max_loop [RuT P x] [BkT P x] {F : Fs} {w1 w3 : Option Sl} {p q : D} : ∀ (us : List Ru) (a b : Int) (w2 : Option Sl), ∃ w2', forL 2 (contS P F bodyX) (us.map (Ru.obj x)) [some (.owI x.cBook ["modulus", "rules", "start", "reach"] [p, q, .int a, .int b]), w1, w2, w3] S = .nx [some (.owI x.cBook ["modulus", "rules", "start", "reach"] [p, q, .int (maxS a us), .int (maxR b us)]), w1, w2', w3] S
  | [], a, b, w2 => ⟨w2, rfl⟩
  | u :: us, a, b, w2 => by
    obtain ⟨w, e⟩ := max_loop (F := F) (w1 := w1) (w3 := w3) (p := p) (q := q) us (mx2 a u.start) (mx2 b u.reach) (some (.sh (u.obj x)))
    refine ⟨w, ?_⟩
    simp only [List.map_cons]
    unfold forL
    have z : contS P F bodyX ([some (.owI x.cBook ["modulus", "rules", "start", "reach"] [p, q, .int a, .int b]), w1, w2, w3].set 2 (some (.sh (u.obj x)))) S = .nx [some (.owI x.cBook ["modulus", "rules", "start", "reach"] [p, q, .int (mx2 a u.start), .int (mx2 b u.reach)]), w1, some (.sh (u.obj x)), w3] S := by
      have f1 : fldOk P x.cBook "start" = true := fldOk_b rfl
      have f2 : fldOk P x.cBook "reach" = true := fldOk_b rfl
      simp [bodyX, f1, f2, lk2, put2]
    rw [z]
    exact e
end
end DL
end
-- PBk4
section
set_option maxHeartbeats 4000000
namespace DL
open PySem PySem.Spec L2
section
variable {P : Pg} {x : Ix} {n : Nat} {S : Store} {u : Ru} {us : List Ru}
/-- what Book(..) does of rules -/
def bookO (x : Ix) (us : List Ru) (S : Store) : Out D := if modF us ≤ 12 then (if (canon us).length ≤ 400 then .ok (bobj x us) S else .er (.exc x.eMany ["most", "what"] [.int 400, .str "rules"]) S) else .er (.exc x.eMany ["most", "what"] [.int 12, .str "modulus"]) S
theorem book_ini [BkT P x] {ds : List D} : (fsN P (n + 1)).ini x.bInit x.cBook [] [] [.tup ds] S = runI x.cBook (evSs P (fsN P n) (r_bInit x) [some (.owI x.cBook [] []), some (.sh (.tup ds)), none, none] S) := by
  obtain ⟨f, e, k, p, l, b⟩ := BkT.bInit (P := P) (x := x)
  show (match P.fns[x.bInit]? with
    | some f => if [D.tup ds].length + 1 = f.ps.length then runI x.cBook (evSs P (fsN P n) f.body (some (.owI x.cBook [] []) :: start0 (f.N.length - 1) [.tup ds]) S) else .stk
    | none => .stk) = _
  rw [e]
  dsimp only
  rw [p, l, b]
  rfl
theorem book_mk [BkT P x] {F : Fs} {ds : List D} (hl : ds.length ≤ most) : mkSD P F x.cBook ds S = (F.ini x.bInit x.cBook [] [] [.tup ds] S).bind fun q S1 => .ok (.obj x.cBook q.1 q.2) S1 := by
  obtain ⟨f, e, k, p, l, b⟩ := BkT.bInit (P := P) (x := x)
  obtain ⟨cl, e2, k2, i, _⟩ := BkT.kcBook (P := P) (x := x)
  unfold mkSD
  rw [e2]
  dsimp only
  rw [i, e]
  dsimp only
  rw [if_pos ⟨by rw [k2]; rfl, k, hl⟩]
@[simp] theorem okS_b [BkT P x] : okS P x.cBook = true := by
  obtain ⟨f, e, k, p, l, b⟩ := BkT.bInit (P := P) (x := x)
  obtain ⟨cl, e2, k2, i, _⟩ := BkT.kcBook (P := P) (x := x)
  unfold okS
  rw [e2]
  dsimp only
  rw [i, e]
  dsimp only
  rw [k2, k]
  rfl
theorem book_s [RuT P x] [CmT P x] [BkT P x] (h : okL us) (hl : us.length ≤ most) : mkSD P (fsN P (n + 3)) x.cBook (us.map (Ru.obj x)) S = bookO x us S := by
  rw [book_mk (by simpa using hl), book_ini]
  have e : r_bInit x = [.forE 3 2 (.var 1) (bodyC x), .setF "modulus" (.call x.comMod [.var 1] [] []), .setF "rules" (.call x.inOrd [.var 1] [] []), .ifs (.cmp .Gt (.bi .len [.sfld "rules"]) (.gint "MOST_RULES" 400)) [.raise x.eMany [.str "rules", .gint "MOST_RULES" 400]] [], .setF "start" (.int 0), .setF "reach" (.int 0), .for_ 2 (.tup (.sfld "rules")) bodyX] := rfl
  rw [e]
  obtain ⟨w2, w3, c⟩ := chk_loop (P := P) (x := x) (S := S) (F := fsN P (n + 2)) (w0 := some (.owI x.cBook [] [])) (w1 := some (.sh (.tup (us.map (Ru.obj x))))) us 0 none none
  have f1 : fldOk P x.cBook "start" = true := fldOk_b rfl
  have f2 : fldOk P x.cBook "reach" = true := fldOk_b rfl
  have f3 : fldOk P x.cBook "modulus" = true := fldOk_b rfl
  have f4 : fldOk P x.cBook "rules" = true := fldOk_b rfl
  have ex := (BkT.xeMany (P := P) (x := x)).mk (ds := [.str "rules", .int 400]) rfl
  have m1 := comMod_s (P := P) (x := x) (n := n) (S := S) h
  have m2 := inOrd_s (P := P) (x := x) (n := n) (S := S) h hl
  unfold bookO
  by_cases hm : modF us ≤ 12
  · rw [if_pos hm] at m1 ⊢
    by_cases hr : (canon us).length ≤ 400
    · rw [if_pos hr]
      have hn : ¬ (400 : Int) < (canon us).length := by omega
      obtain ⟨w, l⟩ := max_loop (P := P) (x := x) (S := S) (F := fsN P (n + 2)) (w1 := some (.sh (.tup (us.map (Ru.obj x))))) (w3 := w3) (p := .int (modF us)) (q := .tup ((canon us).map (Ru.obj x))) (canon us) 0 0 w2
      simp [c, m1, m2, f1, f2, f3, f4, put2, lk2, hn, l, runI, bobj]
    · rw [if_neg hr]
      have hn : (400 : Int) < (canon us).length := by omega
      simp [c, m1, m2, f1, f2, f3, f4, put2, lk2, hn, runI, ex]
  · rw [if_neg hm] at m1 ⊢
    simp [c, m1, runI]
/-- .. where a value is no rule -/
theorem book_bad [RuT P x] [BkT P x] {v : D} {rest : List D} (hv : isiD P v (.cls x.cRule) = some false) (hl : us.length + 1 + rest.length ≤ most) : mkSD P (fsN P (n + 1)) x.cBook (us.map (Ru.obj x) ++ v :: rest) S = .er (.exc x.eBook ["at"] [.int us.length]) S := by
  rw [book_mk (by simp at hl ⊢; omega), book_ini]
  have e : r_bInit x = [.forE 3 2 (.var 1) (bodyC x), .setF "modulus" (.call x.comMod [.var 1] [] []), .setF "rules" (.call x.inOrd [.var 1] [] []), .ifs (.cmp .Gt (.bi .len [.sfld "rules"]) (.gint "MOST_RULES" 400)) [.raise x.eMany [.str "rules", .gint "MOST_RULES" 400]] [], .setF "start" (.int 0), .setF "reach" (.int 0), .for_ 2 (.tup (.sfld "rules")) bodyX] := rfl
  rw [e]
  obtain ⟨ρ, c⟩ := chk_bad (P := P) (x := x) (S := S) (F := fsN P n) (w0 := some (.owI x.cBook [] [])) (w1 := some (.sh (.tup (us.map (Ru.obj x) ++ v :: rest)))) hv rest us 0 none none
  simp at c
  simp [c, runI]
theorem book_t [RuT P x] [CmT P x] [BkT P x] (h : okL us) (hl : us.length ≤ most) : mkTD P (fsN P (n + 3)) x.cBook (.lst (us.map (Ru.obj x))) S = bookO x us S ∧ mkTD P (fsN P (n + 3)) x.cBook (.tup (us.map (Ru.obj x))) S = bookO x us S := ⟨book_s h hl, book_s h hl⟩
/-- Book.of(..) -/
theorem isi_lt_l {xs : List D} : isiD P (.lst xs) (.tup [.ty "list", .ty "tuple"]) = some true := by
  simp [isiD, isi1, isiTy, clsOf, D.tyName, knownTys]
theorem isi_lt_t {xs : List D} : isiD P (.tup xs) (.tup [.ty "list", .ty "tuple"]) = some true := by
  simp [isiD, isi1, isiTy, clsOf, D.tyName, knownTys]
theorem bOf_l [BkT P x] [OfT P x] {xs : List D} : (fsN P (n + 1)).fn x.bOf [.cls x.cBook, .lst xs] S = mkSD P (fsN P n) x.cBook xs S := by
  rw [OfT.bOf.run rfl]
  simp [r_bOf, isi_lt_l, mkTD]
  cases mkSD P (fsN P n) x.cBook xs S <;> simp
theorem bOf_t [BkT P x] [OfT P x] {xs : List D} : (fsN P (n + 1)).fn x.bOf [.cls x.cBook, .tup xs] S = mkSD P (fsN P n) x.cBook xs S := by
  rw [OfT.bOf.run rfl]
  simp [r_bOf, isi_lt_t, mkTD]
  cases mkSD P (fsN P n) x.cBook xs S <;> simp
theorem bOf_s [RuT P x] [CmT P x] [BkT P x] [OfT P x] (h : okL us) (hl : us.length ≤ most) : (fsN P (n + 4)).fn x.bOf [.cls x.cBook, .lst (us.map (Ru.obj x))] S = bookO x us S := by
  rw [bOf_l, book_s h hl]
theorem bookO_ok (h1 : modF us ≤ 12) (h2 : (canon us).length ≤ 400) : bookO x us S = .ok (bobj x us) S := by
  unfold bookO
  rw [if_pos h1, if_pos h2]
/-! ### the heaps that are left -/
def leftL (us : List Ru) (v : Int) : List Int := sortU ((us.filter fun u => u.st v).map fun u => u.lf v)
@[simp] theorem methB [LfT P x] : methJ P (bobj x us) "lefts" = some x.lefts := meth_of LfT.mLefts rfl
@[simp] theorem methT [TsT P x] : methJ P (bobj x us) "takes" = some x.takes := meth_of TsT.mTakes rfl
theorem lefts_s [IntT P x] [HpT P x] [RuT P x] [StT P x] [LaT P x] [BkT P x] [LfT P x] (h : okL us) (hl : us.length ≤ most) {v : Int} (h0 : 0 ≤ v) (h1 : v ≤ maxH) : (fsN P (n + 6)).fn x.lefts [bobj x us, .int v] S = .ok (.tup ((leftL us v).map D.int)) S := by
  rw [LfT.lefts.run rfl]
  have hc := canon_ok h
  have d1 : ∀ w ∈ canon us, dcF 3 (contC P (fsN P (n + 5)) (some (.meth (.var 3) "stands_at" [.var 1] [] []))) (contE P (fsN P (n + 5)) (.meth (.var 3) "left_at" [.var 1] [] [])) (contE P (fsN P (n + 5)) (.bl true)) [some (.sh (bobj x us)), some (.sh (.int v)), none, none, none] (w.obj x) S = if (fun u : Ru => u.st v) w then .ok (some (.int ((fun u : Ru => u.lf v) w), (fun _ => D.bl true) (w.lf v))) S else .ok none S := by
    intro w hw
    have s1 := stands_s (P := P) (x := x) (n := n + 1) (S := S) (hc w hw) h0 h1
    cases b : w.st v with
    | true =>
      have s2 := left_s (P := P) (x := x) (n := n) (S := S) (hc w hw) h0 h1 b
      simp [dcF, s1, s2, b]
    | false => simp [dcF, s1, b]
  have ll := canon_len us
  simp at hl
  have d2 := dc_k (α := Ru) (Ru.obj x) (fun u => u.lf v) (fun _ => D.bl true) (fun u => u.st v) (canon us) [] d1 (by simp; omega)
  simp only [List.map_nil] at d2
  generalize hN : ((((canon us).filter fun u => u.st v).map fun u => u.lf v).foldl addN []) = N at d2
  have lN : N.length ≤ most := by
    rw [← hN]
    have l1 := fold_len (((canon us).filter fun u => u.st v).map fun u => u.lf v) []
    have l2 : ((canon us).filter fun u => u.st v).length ≤ (canon us).length := List.length_filter_le ..
    simp at l1 ⊢
    omega
  have d3 := lcK_k (f := contK P (fsN P (n + 5)) (.bi .int [.var 4]) 4 [some (.sh (bobj x us)), some (.sh (.int v)), some (.sh (.dct (N.map Sum.inl) (N.map fun _ => D.bl true))), none, none]) N [] (fun k _ => ⟨[], by simp⟩) (by simpa using lN)
  simp at d3
  have e : sortI N = leftL us v := by
    apply lt_ext
    · apply sortI_lt
      rw [← hN]
      exact fold_nodup _ _ List.Pairwise.nil
    · exact sortU_lt _
    · intro c
      rw [sortI_mem, ← hN, fold_mem]
      unfold leftL
      rw [sortU_mem]
      simp only [List.mem_map, List.mem_filter, List.not_mem_nil, false_or]
      constructor
      · rintro ⟨u, ⟨hu, hs⟩, rfl⟩
        exact ⟨u, ⟨(canon_mem h).mp hu, hs⟩, rfl⟩
      · rintro ⟨u, ⟨hu, hs⟩, rfl⟩
        exact ⟨u, ⟨(canon_mem h).mpr hu, hs⟩, rfl⟩
  simp [r_lefts, need_s h0 h1, d2, d3, o1D, onI, intsD_map, e]
theorem lefts_bad [IntT P x] [HpT P x] [LfT P x] {b v : D} (h : Val P v) (hv : isI v 0 maxH = false) : (fsN P (n + 4)).fn x.lefts [b, v] S = .er (.exc x.eSize ["value"] [v]) S := by
  rw [LfT.lefts.run rfl]
  simp [r_lefts, need_r h, hv]
def takeL (us : List Ru) (v : Int) : List Int := (leftL us v).reverse.map fun k => v - k
theorem takes_s [IntT P x] [HpT P x] [RuT P x] [StT P x] [LaT P x] [BkT P x] [LfT P x] [TsT P x] (h : okL us) (hl : us.length ≤ most) {v : Int} (h0 : 0 ≤ v) (h1 : v ≤ maxH) : (fsN P (n + 7)).fn x.takes [bobj x us, .int v] S = .ok (.tup ((takeL us v).map D.int)) S := by
  rw [TsT.takes.run rfl]
  have l1 := lefts_s (P := P) (x := x) (n := n) (S := S) h hl h0 h1
  have ll : (leftL us v).length ≤ most := by
    have q : ∀ l : List Int, (sortU l).length ≤ l.length := by
      intro l
      induction l with
      | nil => simp [sortU]
      | cons a l ih =>
        have w : ∀ (b : Int) (m : List Int), (insU b m).length ≤ m.length + 1 := by
          intro b m
          induction m with
          | nil => simp [insU]
          | cons c m ih =>
            unfold insU
            split
            · simp
            · split
              · simp
              · simp
                exact ih
        unfold sortU
        have := w a (sortU l)
        simp
        omega
    have := q ((us.filter fun u => u.st v).map fun u => u.lf v)
    have l2 : (us.filter fun u => u.st v).length ≤ us.length := List.length_filter_le ..
    unfold leftL
    simp at this hl ⊢
    omega
  have d4 := lc_all (S := S) (f := lcF 2 (contC P (fsN P (n + 6)) none) (contE P (fsN P (n + 6)) (.bin .Sub (.var 1) (.var 2))) [some (.sh (bobj x us)), some (.sh (.int v)), none]) D.int (fun k => D.int (v - k)) (leftL us v).reverse (fun k hk => by simp) (by simpa using ll)
  simp only [List.map_reverse] at d4
  simp [r_takes, l1, d4, takeL, List.map_map]
theorem takes_bad [IntT P x] [HpT P x] [LfT P x] [TsT P x] {v : D} (h : Val P v) (hv : isI v 0 maxH = false) : (fsN P (n + 5)).fn x.takes [bobj x us, v] S = .er (.exc x.eSize ["value"] [v]) S := by
  rw [TsT.takes.run rfl]
  simp [r_takes, lefts_bad h hv]
end
end DL
end
-- PLw
section
set_option maxHeartbeats 4000000
namespace DL
open PySem PySem.Spec L2
section
variable {P : Pg} {xs : List Int} {R S S' : Store} {k : Int} {n : Nat} {b b' : Bx}
/-! ### the pen beside boxes -/
theorem Pn.slen (h : Pn xs R k S) : S.length = R.length + 1 := by
  obtain ⟨_, _, rfl, _⟩ := h
  rfl
theorem Pn.push (h : Pn xs R k S) : Pn xs (R ++ [b]) k (S ++ [b]) := by
  obtain ⟨sp, dg, rfl, h⟩ := h
  exact ⟨sp, dg, rfl, h⟩
theorem Pn.at (h : Pn xs (R ++ [b]) k S) : S[R.length + 1]? = some b := by
  obtain ⟨sp, dg, rfl, h⟩ := h
  simp
theorem Pn.put (h : Pn xs (R ++ [b]) k S) : Pn xs (R ++ [b']) k (S.set (R.length + 1) b') := by
  obtain ⟨sp, dg, rfl, h⟩ := h
  refine ⟨sp, dg, ?_, h⟩
  simp
theorem Pn.pos (h : Pn xs R k S) : 0 ≤ k := by
  obtain ⟨sp, dg, rfl, h1, h2, _⟩ := h
  omega
variable {jn jd jp : Nat} {a c d e f g m m2 m3 b0 : Int}
theorem PenT.pickB (T : PenT P jn jd jp a b0 m c d m2 e f g m3) {opts : List D} (hp : Pn xs (R ++ [.lst opts]) k S) (hk : k < 4194304) (h0 : 0 < opts.length) (h1 : opts.length < 1000000) : ∃ x S', x ∈ opts ∧ (fsN P (n + 2)).fn jp [.box 0, .box (R.length + 1)] S = .ok x S' ∧ Pn xs (R ++ [.lst opts]) (k + 1) S' := by
  obtain ⟨r, S', e, p, h2, h3⟩ := T.draw (n := n) (many := opts.length) hp hk (by omega) (by omega)
  obtain ⟨x, hx, ex⟩ := at_lst (l := opts) h2 h3
  refine ⟨x, S', hx, ?_, p⟩
  rw [T.fp.run rfl]
  simp [deS_bx hp.at, T.cd, e, deS_bx p.at, ex]
/-! ### the numbers of a rule -/
def Ru.prt : Ru → D
  | .fix s r m l => pF s r m l
  | .dwn t r m => pD t r m
/-- drawn numbers: bounds, the modulus among some -/
def Ru.drawn (ms : List Int) (most : Int) : Ru → Prop
  | .fix s r m l => (1 ≤ s ∧ s ≤ most) ∧ (0 ≤ r ∧ r ≤ m - 1) ∧ m ∈ ms ∧ (0 ≤ l ∧ (l ≤ 2 ∨ l < most))
  | .dwn t r m => (0 ≤ t ∧ t < most) ∧ (0 ≤ r ∧ r ≤ m - 1) ∧ m ∈ ms
theorem Ru.drawn.ok {ms : List Int} {most : Int} {u : Ru} (h : u.drawn ms most) (hm : ∀ m ∈ ms, 1 ≤ m ∧ m ≤ 6) (h2 : most ≤ 400) : u.ok := by
  cases u with
  | fix s r m l =>
    obtain ⟨h1, h2, h3, h4⟩ := h
    exact ⟨⟨h1.1, by omega⟩, h2, hm m h3, h4.1, by omega⟩
  | dwn t r m =>
    obtain ⟨h1, h2, h3⟩ := h
    exact ⟨⟨h1.1, by omega⟩, h2, hm m h3⟩
theorem Ru.drawn.mod {ms : List Int} {most : Int} {u : Ru} (h : u.drawn ms most) : u.mod ∈ ms := by
  cases u with
  | fix s r m l => exact h.2.2.1
  | dwn t r m => exact h.2.2
def partsR2 (jd jp : Nat) (ms : List Int) : List RS := [.asg 2 (.call jp [.var 0, .lst (ms.map RE.int)] [] []),
  .par [3, 4] [.call jd [.var 0, .var 2] [] [], .call jd [.var 0, .var 1] [] []],
  .ifs (.cmp .Eq (.call jd [.var 0, .int 3] [] []) (.int 0)) [.ret (.tup [.str "down", .var 4, .var 3, .var 2, .int 0])] [],
  .ret (.tup [.str "fixed", .bin .Add (.int 1) (.var 4), .var 3, .var 2, .call jp [.var 0, .lst [.int 0, .int 0, .int 0, .int 1, .int 2, .call jd [.var 0, .var 1] [] []]] [] []])]
theorem evEs_ints {F : Fs} {ρ : Ro} : ∀ (ms : List Int), evEs P F (ms.map RE.int) ρ S = .ok (ms.map D.int) S
  | [] => rfl
  | i :: ms => by simp [evEs_ints ms]
theorem parts_s (T : PenT P jn jd jp a b0 m c d m2 e f g m3) {j : Nat} {ps : List Str} {ms : List Int} (J : fnAt P j ps [] 5 (partsR2 jd jp ms)) (hps : ps.length = 2) (hms : ∀ m ∈ ms, 1 ≤ m ∧ m ≤ 6) (hml : 0 < ms.length ∧ ms.length < 100) {most : Int} (hm1 : 0 < most ∧ most ≤ 400) (hp : Pn xs R k S) (hk : k + 20 < 4194304) : ∃ (u : Ru) (S' : Store), u.drawn ms most ∧ (fsN P (n + 3)).fn j [.box 0, .int most] S = .ok u.prt S' ∧ Pn xs R (k + 6) S' := by
  obtain ⟨x1, S1, hx1, e1, q1⟩ := T.pick (n := n) (opts := ms.map D.int) hp (by omega) (by simpa using hml.1) (by simp; omega)
  obtain ⟨m, hm', rfl⟩ := List.mem_map.mp hx1
  have hmm := hms m hm'
  obtain ⟨r, S2, e2, q2, r1, r2⟩ := T.draw (n := n + 1) (many := m) q1 (by omega) (by omega) (by omega)
  obtain ⟨t, S3, e3, q3, t1, t2⟩ := T.draw (n := n + 1) (many := most) q2 (by omega) (by omega) (by omega)
  obtain ⟨c, S4, e4, q4, c1, c2⟩ := T.draw (n := n + 1) (many := 3) q3 (by omega) (by decide) (by decide)
  have hl : ms.length ≤ 1000000 := by omega
  rw [J.run (by rw [hps]; rfl)]
  by_cases hc : c = 0
  · subst hc
    refine ⟨.dwn t r m, S4, ⟨⟨t1, t2⟩, ⟨r1, by omega⟩, hm'⟩, ?_, q4.mono (by omega)⟩
    simp [partsR2, evEs_ints, T.cd, T.cp, hl, e1, e2, e3, e4, Ru.prt, pD]
  · obtain ⟨v, S5, e5, q5, v1, v2⟩ := T.draw (n := n + 1) (many := most) q4 (by omega) (by omega) (by omega)
    obtain ⟨x6, S6, hx6, e6, q6⟩ := T.pick (n := n) (opts := [.int 0, .int 0, .int 0, .int 1, .int 2, .int v]) q5 (by omega) (by simp) (by simp)
    obtain ⟨l, rfl, l1, l2⟩ : ∃ l : Int, x6 = .int l ∧ 0 ≤ l ∧ (l ≤ 2 ∨ l < most) := by
      simp only [List.mem_cons, List.not_mem_nil, or_false] at hx6
      rcases hx6 with rfl | rfl | rfl | rfl | rfl | rfl
      · exact ⟨_, rfl, by decide, .inl (by decide)⟩
      · exact ⟨_, rfl, by decide, .inl (by decide)⟩
      · exact ⟨_, rfl, by decide, .inl (by decide)⟩
      · exact ⟨_, rfl, by decide, .inl (by decide)⟩
      · exact ⟨_, rfl, by decide, .inl (by decide)⟩
      · exact ⟨_, rfl, v1, .inr v2⟩
    refine ⟨.fix (1 + t) r m l, S6, ⟨⟨by omega, by omega⟩, ⟨r1, by omega⟩, hm', l1, l2⟩, ?_, q6.mono (by omega)⟩
    simp [partsR2, evEs_ints, T.cd, T.cp, hl, e1, e2, e3, e4, e5, e6, hc, Ru.prt, pF]
/-! ### the rule with some numbers -/
theorem mkFix {x : Ix} [IntT P x] [RuT P x] {s r m l : Int} (h : (Ru.fix s r m l).ok) : mkD P (fsN P (n + 4)) x.cFixed [.int s, .int r, .int m, .int l] [] [] S = .ok ((Ru.fix s r m l).obj x) S := by
  obtain ⟨h1, h2, h3, h4⟩ := h
  exact (fixTi.make int_v int_v int_v int_v rfl rfl).trans (by unfold fixO; rw [dueF_ok h1 h2 h3 h4]; rfl)
theorem mkDwn {x : Ix} [IntT P x] [RuT P x] {t r m : Int} (h : (Ru.dwn t r m).ok) : mkD P (fsN P (n + 4)) x.cDown [.int t, .int r, .int m] [] [] S = .ok ((Ru.dwn t r m).obj x) S := by
  obtain ⟨h1, h2, h3⟩ := h
  exact (dwnTi.make int_v int_v int_v rfl rfl).trans (by unfold dwnO; rw [dueDn_ok h1 h2 h3]; rfl)
theorem rule_s {x : Ix} [IntT P x] [RuT P x] {j : Nat} {ps : List Str} (J : fnAt P j ps [] 1 (ruleR x.cFixed x.cDown)) (hps : ps.length = 1) {u : Ru} (h : u.ok) : (fsN P (n + 5)).fn j [u.prt] S = .ok (u.obj x) S := by
  rw [J.run (by rw [hps]; rfl)]
  cases u with
  | fix s r m l => simp [ruleR, Ru.prt, pF, mkFix h]
  | dwn t r m => simp [ruleR, Ru.prt, pD, mkDwn h]
/-! ### moduli with 12 in common -/
theorem modA_dvd : ∀ (us : List Ru) (a : Int), 1 ≤ a → a ∣ 12 → okL us → (∀ u ∈ us, u.mod ∣ 12) → modA a us ∣ 12
  | [], a, _, h, _, _ => h
  | u :: us, a, ha, h, ho, hd => by
    have hu := (ho u (List.mem_cons_self ..)).m
    exact modA_dvd us _ (lcmI_pos ha hu.1) (lcmI_least ha hu.1 (by decide) h (hd u (List.mem_cons_self ..))) (fun w hw => ho w (List.mem_cons_of_mem _ hw)) fun w hw => hd w (List.mem_cons_of_mem _ hw)
theorem modF_12 {us : List Ru} (ho : okL us) (hd : ∀ u ∈ us, u.mod ∣ 12) : modF us ≤ 12 := Int.le_of_dvd (by decide) (modA_dvd us 1 (by decide) ⟨12, rfl⟩ ho hd)
/-- a value that is no heap -/
theorem rngL_map (n : Nat) : rngL n = (List.range n).map fun k : Nat => D.int k := rfl
end
end DL
end
-- PEq
section
set_option maxHeartbeats 4000000
namespace DL
open PySem PySem.Spec L2
/-! ### plain data and its == -/
mutual
def plB : D → Nat → Bool
  | .non, _ => true
  | .bl _, _ => true
  | .int _, _ => true
  | .str s, _ => PySem.PyData.strOk s
  | .tup xs, n => (match n with
    | 0 => false
    | n + 1 => plL xs n)
  | .lst xs, n => (match n with
    | 0 => false
    | n + 1 => plL xs n)
  | _, _ => false
def plL : List D → Nat → Bool
  | [], _ => true
  | d :: ds, n => plB d n && plL ds n
end
mutual
def deq : D → D → Bool
  | .non, y => (match y with
    | .non => true
    | _ => false)
  | .bl a, y => (match y with
    | .bl b => a == b
    | .int j => decide ((if a then 1 else 0) = j)
    | _ => false)
  | .int i, y => (match y with
    | .int j => decide (i = j)
    | .bl b => decide (i = if b then 1 else 0)
    | _ => false)
  | .str a, y => (match y with
    | .str b => decide (a = b)
    | _ => false)
  | .tup xs, y => (match y with
    | .tup ys => deqL xs ys
    | _ => false)
  | .lst xs, y => (match y with
    | .lst ys => deqL xs ys
    | _ => false)
  | _, _ => false
def deqL : List D → List D → Bool
  | [], ys => ys.isEmpty
  | x :: xs, ys => (match ys with
    | y :: ys => deq x y && deqL xs ys
    | [] => false)
end
section
variable {n : Nat} {xs ys : List D} {x y : D} {i j : Int} {a b : Bool} {s t : Str}
@[simp] theorem pl_non : plB .non n = true := rfl
@[simp] theorem pl_bl : plB (.bl a) n = true := rfl
@[simp] theorem pl_int : plB (.int i) n = true := rfl
@[simp] theorem pl_lit {s : String} : plB (.str (Str.ofString s)) n = true := sok_of s
theorem pl_str (h : PySem.PyData.strOk s = true) : plB (.str s) n = true := h
@[simp] theorem pl_tup : plB (.tup xs) (n + 1) = plL xs n := rfl
@[simp] theorem pl_lst : plB (.lst xs) (n + 1) = plL xs n := rfl
@[simp] theorem pl_nil : plL [] n = true := rfl
@[simp] theorem pl_cons : plL (x :: xs) n = (plB x n && plL xs n) := rfl
theorem plL_all : ∀ {xs : List D}, plL xs n = true ↔ ∀ x ∈ xs, plB x n = true
  | [] => by simp
  | x :: xs => by simp [plL_all]
theorem plL_map {α : Type} {f : α → D} {l : List α} (h : ∀ a ∈ l, plB (f a) n = true) : plL (l.map f) n = true := by
  rw [plL_all]
  intro x hx
  obtain ⟨a, ha, rfl⟩ := List.mem_map.mp hx
  exact h a ha
@[simp] theorem plL_ints {l : List Int} : plL (l.map D.int) n = true := plL_map fun _ _ => rfl
@[simp] theorem plL_bols {l : List Bool} : plL (l.map D.bl) n = true := plL_map fun _ _ => rfl
@[simp] theorem plL_app : plL (xs ++ ys) n = (plL xs n && plL ys n) := by
  induction xs with
  | nil => simp
  | cons x xs ih => simp [ih, Bool.and_assoc]
@[simp] theorem deq_non : deq .non .non = true := rfl
@[simp] theorem deq_bl : deq (.bl a) (.bl b) = (a == b) := rfl
@[simp] theorem deq_int : deq (.int i) (.int j) = decide (i = j) := rfl
@[simp] theorem deq_str : deq (.str s) (.str t) = decide (s = t) := rfl
@[simp] theorem deq_tup : deq (.tup xs) (.tup ys) = deqL xs ys := rfl
@[simp] theorem deq_lst : deq (.lst xs) (.lst ys) = deqL xs ys := rfl
@[simp] theorem deq_nn : deqL [] [] = true := rfl
@[simp] theorem deq_nc : deqL [] (x :: xs) = false := rfl
@[simp] theorem deq_cn : deqL (x :: xs) [] = false := rfl
@[simp] theorem deq_cc : deqL (x :: xs) (y :: ys) = (deq x y && deqL xs ys) := rfl
@[simp] theorem deq_tl : deq (.tup xs) (.lst ys) = false := rfl
@[simp] theorem deq_lt : deq (.lst xs) (.tup ys) = false := rfl
@[simp] theorem deq_ti : deq (.tup xs) (.int i) = false := rfl
@[simp] theorem deq_it : deq (.int i) (.tup xs) = false := rfl
@[simp] theorem deq_li : deq (.lst xs) (.int i) = false := rfl
@[simp] theorem deq_il : deq (.int i) (.lst xs) = false := rfl
@[simp] theorem deq_in : deq (.int i) .non = false := rfl
@[simp] theorem deq_ni : deq .non (.int i) = false := rfl
@[simp] theorem deq_si : deq (.str s) (.int i) = false := rfl
@[simp] theorem deq_is : deq (.int i) (.str s) = false := rfl
@[simp] theorem deq_ts : deq (.tup xs) (.str s) = false := rfl
@[simp] theorem deq_st : deq (.str s) (.tup xs) = false := rfl
@[simp] theorem deq_sn : deq (.str s) .non = false := rfl
@[simp] theorem deq_ns : deq .non (.str s) = false := rfl
@[simp] theorem deq_lnil : deqL xs [] = xs.isEmpty := by cases xs <;> rfl
mutual
theorem pl_py : ∀ (d : D) (n : Nat), plB d n = true → ∃ p, d.py = some p ∧ p.canLay0 = true ∧ p.depth ≤ n
  | .non, n, _ => ⟨_, rfl, rfl, Nat.zero_le _⟩
  | .bl b, n, _ => ⟨_, rfl, rfl, Nat.zero_le _⟩
  | .int i, n, _ => ⟨_, rfl, rfl, Nat.zero_le _⟩
  | .str s, n, h => ⟨_, rfl, h, Nat.zero_le _⟩
  | .tup xs, n, h => by
    cases n with
    | zero => cases h
    | succ n =>
      obtain ⟨ps, e1, e2, e3⟩ := plL_py xs n h
      refine ⟨.tuple ps, by simp [D.py, e1], by simpa [PyData.canLay0] using e2, ?_⟩
      unfold PyData.depth
      omega
  | .lst xs, n, h => by
    cases n with
    | zero => cases h
    | succ n =>
      obtain ⟨ps, e1, e2, e3⟩ := plL_py xs n h
      refine ⟨.list ps, by simp [D.py, e1], by simpa [PyData.canLay0] using e2, ?_⟩
      unfold PyData.depth
      omega
  | .scr _, n, h => by cases h
  | .dct _ _, n, h => by cases h
  | .obj _ _ _, n, h => by cases h
  | .exc _ _ _, n, h => by cases h
  | .box _, n, h => by cases h
  | .cls _, n, h => by cases h
  | .ty _, n, h => by cases h
theorem plL_py : ∀ (ds : List D) (n : Nat), plL ds n = true → ∃ ps, pyL ds = some ps ∧ PyData.canLayAll0 ps = true ∧ PyData.depthAll ps ≤ n
  | [], n, _ => ⟨[], rfl, rfl, Nat.zero_le _⟩
  | d :: ds, n, h => by
    rw [pl_cons, Bool.and_eq_true] at h
    obtain ⟨p, e1, e2, e3⟩ := pl_py d n h.1
    obtain ⟨ps, f1, f2, f3⟩ := plL_py ds n h.2
    refine ⟨p :: ps, by simp [pyL, e1, f1], by simp [PyData.canLayAll0, e2, f2], ?_⟩
    unfold PyData.depthAll
    omega
end
theorem py_l {xs : List D} {p : PyData} (h : (D.lst xs).py = some p) : ∃ ps, p = .list ps ∧ pyL xs = some ps := by
  unfold D.py at h
  split at h
  · rename_i ps e
    cases h
    exact ⟨ps, rfl, e⟩
  · cases h
theorem py_t {xs : List D} {p : PyData} (h : (D.tup xs).py = some p) : ∃ ps, p = .tuple ps ∧ pyL xs = some ps := by
  unfold D.py at h
  split at h
  · rename_i ps e
    cases h
    exact ⟨ps, rfl, e⟩
  · cases h
theorem pyL_c {x : D} {xs : List D} {p : List PyData} (h : pyL (x :: xs) = some p) : ∃ q ps, p = q :: ps ∧ x.py = some q ∧ pyL xs = some ps := by
  unfold pyL at h
  split at h
  · rename_i q ps e1 e2
    cases h
    exact ⟨q, ps, rfl, e1, e2⟩
  · cases h
mutual
theorem eqv_deq : ∀ (d e : D) (n m : Nat) (p q : PyData), plB d n = true → plB e m = true → d.py = some p → e.py = some q → PyData.eqv p q = deq d e
  | .non, e, n, m, p, q, h1, h2, e1, e2 => by
    cases e1
    cases e <;> first | (cases h2; done) | (cases e2; rfl) | (obtain ⟨ps, rfl, _⟩ := py_l e2; rfl) | (obtain ⟨ps, rfl, _⟩ := py_t e2; rfl)
  | .bl b, e, n, m, p, q, h1, h2, e1, e2 => by
    cases e1
    cases e <;> first | (cases h2; done) | (cases e2; rfl) | (obtain ⟨ps, rfl, _⟩ := py_l e2; rfl) | (obtain ⟨ps, rfl, _⟩ := py_t e2; rfl)
  | .int i, e, n, m, p, q, h1, h2, e1, e2 => by
    cases e1
    cases e <;> first | (cases h2; done) | (cases e2; rfl) | (obtain ⟨ps, rfl, _⟩ := py_l e2; rfl) | (obtain ⟨ps, rfl, _⟩ := py_t e2; rfl)
  | .str s, e, n, m, p, q, h1, h2, e1, e2 => by
    cases e1
    cases e <;> first | (cases h2; done) | (cases e2; exact beq_S) | (cases e2; rfl) | (obtain ⟨ps, rfl, _⟩ := py_l e2; rfl) | (obtain ⟨ps, rfl, _⟩ := py_t e2; rfl)
  | .tup xs, e, n, m, p, q, h1, h2, e1, e2 => by
    obtain ⟨ps, rfl, g1⟩ := py_t e1
    cases n with
    | zero => cases h1
    | succ n =>
      cases e <;> first | (cases h2; done) | (cases e2; rfl) | (obtain ⟨ps, rfl, _⟩ := py_l e2; rfl) | skip
      rename_i ys
      obtain ⟨qs, rfl, g2⟩ := py_t e2
      cases m with
      | zero => cases h2
      | succ m => exact eqvL_deq xs ys n m ps qs h1 h2 g1 g2
  | .lst xs, e, n, m, p, q, h1, h2, e1, e2 => by
    obtain ⟨ps, rfl, g1⟩ := py_l e1
    cases n with
    | zero => cases h1
    | succ n =>
      cases e <;> first | (cases h2; done) | (cases e2; rfl) | (obtain ⟨ps, rfl, _⟩ := py_t e2; rfl) | skip
      rename_i ys
      obtain ⟨qs, rfl, g2⟩ := py_l e2
      cases m with
      | zero => cases h2
      | succ m => exact eqvL_deq xs ys n m ps qs h1 h2 g1 g2
  | .scr _, _, n, m, _, _, h, _, _, _ => by cases h
  | .dct _ _, _, n, m, _, _, h, _, _, _ => by cases h
  | .obj _ _ _, _, n, m, _, _, h, _, _, _ => by cases h
  | .exc _ _ _, _, n, m, _, _, h, _, _, _ => by cases h
  | .box _, _, n, m, _, _, h, _, _, _ => by cases h
  | .cls _, _, n, m, _, _, h, _, _, _ => by cases h
  | .ty _, _, n, m, _, _, h, _, _, _ => by cases h
theorem eqvL_deq : ∀ (ds es : List D) (n m : Nat) (ps qs : List PyData), plL ds n = true → plL es m = true → pyL ds = some ps → pyL es = some qs → PyData.eqvAll ps qs = deqL ds es
  | [], es, n, m, ps, qs, _, h2, e1, e2 => by
    cases e1
    cases es with
    | nil =>
      cases e2
      rfl
    | cons y ys =>
      obtain ⟨q, qs, rfl, _, _⟩ := pyL_c e2
      rfl
  | x :: xs, es, n, m, ps, qs, h1, h2, e1, e2 => by
    obtain ⟨p, ps, rfl, e3, e4⟩ := pyL_c e1
    rw [pl_cons, Bool.and_eq_true] at h1
    cases es with
    | nil =>
      cases e2
      rfl
    | cons y ys =>
      obtain ⟨q, qs, rfl, e5, e6⟩ := pyL_c e2
      rw [pl_cons, Bool.and_eq_true] at h2
      unfold PyData.eqvAll
      rw [eqv_deq x y n m p q h1.1 h2.1 e3 e5, eqvL_deq xs ys n m ps qs h1.2 h2.2 e4 e6]
      rfl
end
theorem eqD_pl (hx : plB x 60 = true) (hy : plB y 60 = true) : eqD x y = some (deq x y) := by
  obtain ⟨p, e1, e2, e3⟩ := pl_py x 60 hx
  obtain ⟨q, f1, f2, f3⟩ := pl_py y 60 hy
  unfold eqD
  rw [e1, f1]
  dsimp only
  have h1 : SeqAt.shaped p = true := by
    unfold SeqAt.shaped
    rw [e2, Bool.true_and]
    exact decide_eq_true (by omega)
  have h2 : SeqAt.shaped q = true := by
    unfold SeqAt.shaped
    rw [f2, Bool.true_and]
    exact decide_eq_true (by omega)
  rw [h1, h2, eqv_deq x y 60 60 p q hx hy e1 f1]
  rfl
theorem pl_obj (hx : plB x n = true) : x.isObj = false := by
  cases x <;> first | rfl | cases hx
theorem pl_deS {S : Store} (hx : plB x n = true) : deS S x = x := by
  cases x <;> first | rfl | cases hx
variable {P : Pg} {F : Fs} {S : Store}
theorem cmp_pl (hx : plB x 60 = true) (hy : plB y 60 = true) : cmpD P F .Eq x y S = .ok (.bl (deq x y)) S ∧ cmpD P F .NotEq x y S = .ok (.bl (!deq x y)) S := by
  unfold cmpD
  rw [pl_obj hx, pl_obj hy]
  constructor
  · show (match eqD (deS S x) (deS S y) with
      | some b => Out.ok (D.bl b) S
      | none => .stk) = _
    rw [pl_deS hx, pl_deS hy, eqD_pl hx hy]
  · show (match eqD (deS S x) (deS S y) with
      | some b => Out.ok (D.bl (!b)) S
      | none => .stk) = _
    rw [pl_deS hx, pl_deS hy, eqD_pl hx hy]
/-- .. a box on the left -/
theorem cmp_bx {b : Nat} (hb : S[b]? = some (.lst xs)) (hx : plL xs 59 = true) (hy : plB y 60 = true) : cmpD P F .Eq (.box b) y S = .ok (.bl (deq (.lst xs) y)) S ∧ cmpD P F .NotEq (.box b) y S = .ok (.bl (!deq (.lst xs) y)) S := by
  unfold cmpD
  rw [pl_obj hy]
  constructor
  · show (match eqD (deS S (.box b)) (deS S y) with
      | some b => Out.ok (D.bl b) S
      | none => .stk) = _
    rw [deS_bx hb, pl_deS hy, eqD_pl (x := .lst xs) hx hy]
  · show (match eqD (deS S (.box b)) (deS S y) with
      | some b => Out.ok (D.bl (!b)) S
      | none => .stk) = _
    rw [deS_bx hb, pl_deS hy, eqD_pl (x := .lst xs) hx hy]
mutual
theorem deq_refl : ∀ (d : D) (n : Nat), plB d n = true → deq d d = true
  | .non, n, _ => rfl
  | .bl b, n, _ => by simp
  | .int i, n, _ => by simp
  | .str s, n, h => by simp
  | .tup xs, n, h => by
    cases n with
    | zero => cases h
    | succ n => exact deqL_refl xs n h
  | .lst xs, n, h => by
    cases n with
    | zero => cases h
    | succ n => exact deqL_refl xs n h
  | .scr _, n, h => by cases h
  | .dct _ _, n, h => by cases h
  | .obj _ _ _, n, h => by cases h
  | .exc _ _ _, n, h => by cases h
  | .box _, n, h => by cases h
  | .cls _, n, h => by cases h
  | .ty _, n, h => by cases h
theorem deqL_refl : ∀ (ds : List D) (n : Nat), plL ds n = true → deqL ds ds = true
  | [], n, _ => rfl
  | d :: ds, n, h => by
    rw [pl_cons, Bool.and_eq_true] at h
    rw [deq_cc, deq_refl d n h.1, deqL_refl ds n h.2]
    rfl
end
theorem deqL_ints : ∀ (a b : List Int), deqL (a.map D.int) (b.map D.int) = decide (a = b)
  | [], [] => by simp
  | [], _ :: _ => by simp
  | _ :: _, [] => by simp
  | x :: a, y :: b => by
    simp only [List.map_cons, deq_cc, deq_int, deqL_ints a b]
    by_cases h : x = y <;> simp [h]
@[simp] theorem pl_prt {u : Ru} : plB u.prt (n + 1) = true := by
  cases u <;> simp [Ru.prt, pF, pD]
/-- the same text twice -/
theorem cmp_rep {d : D} (h : Nice d) (h1 : dpt d ≤ 20) (h2 : wt d ≤ most) : ∃ t, reprD d = some t ∧ ∀ (P : Pg) (F : Fs) (S : Store), cmpD P F .NotEq (.str t) (.str t) S = .ok (.bl false) S ∧ cmpD P F .Eq (.str t) (.str t) S = .ok (.bl true) S := by
  obtain ⟨t, e, o⟩ := rep_nice h h1 h2
  exact ⟨t, e, fun P F S => ⟨cmp_neS o, cmp_eqS o⟩⟩
end
end DL
end
-- PBk5
section
set_option maxHeartbeats 4000000
namespace DL
open PySem PySem.Spec L2
section
variable {P : Pg} {x : Ix} {n : Nat} {S : Store} {u : Ru} {us : List Ru} {s r m l t : Int}
/-! ### rules made otherwise -/
theorem mkFixK [IntT P x] [RuT P x] (h : (Ru.fix s r m l).ok) : mkD P (fsN P (n + 4)) x.cFixed [.int s, .int r, .int m] ["leave"] [.int l] S = .ok ((Ru.fix s r m l).obj x) S := by
  obtain ⟨h1, h2, h3, h4⟩ := h
  exact (fixTi.make int_v int_v int_v int_v rfl rfl).trans (by unfold fixO; rw [dueF_ok h1 h2 h3 h4]; rfl)
theorem mkFix3 [IntT P x] [RuT P x] (h : (Ru.fix s r m 0).ok) : mkD P (fsN P (n + 4)) x.cFixed [.int s, .int r, .int m] [] [] S = .ok ((Ru.fix s r m 0).obj x) S := by
  obtain ⟨h1, h2, h3, h4⟩ := h
  exact (fixTi.make int_v int_v int_v int_v rfl rfl).trans (by unfold fixO; rw [dueF_ok h1 h2 h3 h4]; rfl)
theorem mkFix1 [IntT P x] [RuT P x] (h : (Ru.fix s 0 1 0).ok) : mkD P (fsN P (n + 4)) x.cFixed [.int s] [] [] S = .ok ((Ru.fix s 0 1 0).obj x) S := by
  obtain ⟨h1, h2, h3, h4⟩ := h
  exact (fixTi.make int_v int_v int_v int_v rfl rfl).trans (by unfold fixO; rw [dueF_ok h1 h2 h3 h4]; rfl)
@[simp] theorem mLeaving [LvT P x] : methJ P ((Ru.fix s r m l).obj x) "leaving" = some x.leaving := meth_of LvT.mLeaving rfl
theorem leaving_s [IntT P x] [RuT P x] [LvT P x] {l' : Int} (h : (Ru.fix s r m l').ok) : (fsN P (n + 5)).fn x.leaving [(Ru.fix s r m l).obj x, .int l'] S = .ok ((Ru.fix s r m l').obj x) S := by
  rw [LvT.leaving.run rfl]
  have f1 : ∀ {S : Store}, fldD P ((Ru.fix s r m l).obj x) "size" S = .ok (.int s) S := fSize
  simp [r_leaving, f1, Ru.rest, Ru.mod, mkFix h]
def Ru.jTk (x : Ix) : Ru → Nat
  | .fix _ _ _ _ => x.fTaken
  | .dwn _ _ _ => x.dTaken
@[simp] theorem mTaken [TkT P x] : methJ P (u.obj x) "taken_at" = some (u.jTk x) := by
  cases u with
  | fix s r m l => exact meth_of TkT.mfTaken rfl
  | dwn t r m => exact meth_of TkT.mdTaken rfl
@[simp] theorem cTaken [TkT P x] {F : Fs} {a b : D} : callD P F (u.jTk x) [a, b] [] [] S = F.fn (u.jTk x) [a, b] S := by
  cases u with
  | fix s r m l => exact TkT.fTaken.call rfl
  | dwn t r m => exact TkT.dTaken.call rfl
theorem taken_s [IntT P x] [HpT P x] [RuT P x] [StT P x] [LaT P x] [TkT P x] (hu : u.ok) {v : Int} (h0 : 0 ≤ v) (h1 : v ≤ maxH) (hs : u.st v = true) : (fsN P (n + 6)).fn (u.jTk x) [u.obj x, .int v] S = .ok (.int (v - u.lf v)) S := by
  have e : (fsN P (n + 6)).fn (u.jTk x) [u.obj x, .int v] S = runB (evSs P (fsN P (n + 5)) (r_fTaken x) (start0 2 [u.obj x, .int v]) S) := by
    cases u with
    | fix s r m l => exact TkT.fTaken.run rfl
    | dwn t r m => exact TkT.dTaken.run rfl
  rw [e]
  simp [r_fTaken, left_s hu h0 h1 hs]
/-! ### len of a book -/
@[simp] theorem spLen [BlT P x] : specJ P (bobj x us) "__len__" = some (x.cBook, x.bLen) := spec_of BlT.mbLen
theorem bLen_s [BkT P x] [BlT P x] : (fsN P (n + 1)).fn x.bLen [bobj x us] S = .ok (.int (canon us).length) S := by
  rw [BlT.bLen.run rfl]
  simp [r_bLen]
theorem len_b [BkT P x] [BlT P x] (h : us.length ≤ 1000000) : o1D P (fsN P (n + 1)) .len (bobj x us) S = .ok (.int (canon us).length) S := by
  have := canon_len us
  show lenO P (fsN P (n + 1)) (bobj x us) S = _
  unfold lenO
  rw [spLen]
  dsimp only
  rw [bLen_s]
  unfold retI
  rw [Out.bnd_ok]
  dsimp only
  rw [if_pos (by constructor <;> omega)]
@[simp] theorem len_t {F : Fs} {ds : List D} : o1D P F .len (.tup ds) S = .ok (.int ds.length) S := rfl
@[simp] theorem len_l {F : Fs} {ds : List D} : o1D P F .len (.lst ds) S = .ok (.int ds.length) S := rfl
/-! ### plain facts about books -/
theorem modA_dv {M : Int} (hM : 1 ≤ M) : ∀ (us : List Ru) (a : Int), 1 ≤ a → a ∣ M → okL us → (∀ u ∈ us, u.mod ∣ M) → modA a us ∣ M
  | [], a, _, h, _, _ => h
  | u :: us, a, ha, h, ho, hd => by
    have hu := (ho u (List.mem_cons_self ..)).m
    exact modA_dv hM us _ (lcmI_pos ha hu.1) (lcmI_least ha hu.1 hM h (hd u (List.mem_cons_self ..))) (fun w hw => ho w (List.mem_cons_of_mem _ hw)) fun w hw => hd w (List.mem_cons_of_mem _ hw)
theorem modF_le {M : Int} (hM : 1 ≤ M) (ho : okL us) (hd : ∀ u ∈ us, u.mod ∣ M) : modF us ≤ M := Int.le_of_dvd (by omega) (modA_dv hM us 1 (by decide) ⟨M, by omega⟩ ho hd)
theorem foldN : ∀ (ks ns : List Int), (ns ++ ks).Nodup → ks.foldl addN ns = ns ++ ks
  | [], ns, _ => by simp
  | k :: ks, ns, h => by
    have hk : k ∉ ns := by
      rw [List.nodup_append] at h
      intro hk
      exact h.2.2 k hk k (List.mem_cons_self ..) rfl
    have e : addN ns k = ns ++ [k] := by
      unfold addN
      rw [if_neg hk]
    rw [List.foldl_cons, e, foldN ks (ns ++ [k]) (by simpa using h)]
    simp
theorem canon_full (h : (us.map Ru.num).Nodup) : (canon us).length = us.length := by
  unfold canon
  rw [List.length_map, sortI_len]
  unfold dedN
  rw [foldN _ _ (by simpa using h)]
  simp
theorem maxS_c {c : Int} (hc : 0 ≤ c) : ∀ (us : List Ru) (a : Int), (∀ u ∈ us, u.start = c) → (a = c ∨ (0 ≤ a ∧ a ≤ c ∧ us ≠ [])) → maxS a us = c
  | [], a, _, h => by
    rcases h with h | h
    · exact h
    · exact absurd rfl h.2.2
  | u :: us, a, hu, h => by
    have e := hu u (List.mem_cons_self ..)
    refine maxS_c hc us _ (fun w hw => hu w (List.mem_cons_of_mem _ hw)) (.inl ?_)
    rw [e]
    unfold mx2
    rcases h with h | h
    · subst h
      simp
    · split <;> omega
theorem maxR_c {c : Int} (hc : 0 ≤ c) : ∀ (us : List Ru) (a : Int), (∀ u ∈ us, u.reach = c) → (a = c ∨ (0 ≤ a ∧ a ≤ c ∧ us ≠ [])) → maxR a us = c
  | [], a, _, h => by
    rcases h with h | h
    · exact h
    · exact absurd rfl h.2.2
  | u :: us, a, hu, h => by
    have e := hu u (List.mem_cons_self ..)
    refine maxR_c hc us _ (fun w hw => hu w (List.mem_cons_of_mem _ hw)) (.inl ?_)
    rw [e]
    unfold mx2
    rcases h with h | h
    · subst h
      simp
    · split <;> omega
theorem leftL_mem {v c : Int} : c ∈ leftL us v ↔ ∃ u ∈ us, u.st v = true ∧ u.lf v = c := by
  unfold leftL
  rw [sortU_mem, List.mem_map]
  constructor
  · rintro ⟨u, hu, rfl⟩
    rw [List.mem_filter] at hu
    exact ⟨u, hu.1, hu.2, rfl⟩
  · rintro ⟨u, h1, h2, rfl⟩
    exact ⟨u, List.mem_filter.mpr ⟨h1, h2⟩, rfl⟩
theorem leftL_ext {ws : List Ru} {v : Int} (h : ∀ c, (∃ u ∈ us, u.st v = true ∧ u.lf v = c) ↔ ∃ u ∈ ws, u.st v = true ∧ u.lf v = c) : leftL us v = leftL ws v :=
  lt_ext (sortU_lt _) (sortU_lt _) fun c => by rw [leftL_mem, leftL_mem, h]
theorem canon_ne (h : okL us) (hn : us ≠ []) : canon us ≠ [] := by
  obtain ⟨u, hu⟩ := List.exists_mem_of_ne_nil us hn
  intro e
  have := (canon_mem h).mpr hu
  rw [e] at this
  simp at this
end
end DL
end
-- F08
section
set_option maxHeartbeats 4000000
namespace K08
open DL PySem PySem.Spec L2
instance : IntT tP ix := { isInt := ⟨_, rfl, rfl, rfl, rfl, rfl⟩ }
instance : HpT tP ix := { isHeap := ⟨_, rfl, rfl, rfl, rfl, rfl⟩, needHeap := ⟨_, rfl, rfl, rfl, rfl, rfl⟩, xeSize := ⟨_, rfl, rfl, rfl⟩ }
instance : CmT tP ix := { comMul := ⟨_, rfl, rfl, rfl, rfl, rfl⟩ }
instance : RuT tP ix := { needPart := ⟨_, rfl, rfl, rfl, rfl, rfl⟩, rested := ⟨_, rfl, rfl, rfl, rfl, rfl⟩, sized := ⟨_, rfl, rfl, rfl, rfl, rfl⟩, fixed := ⟨_, rfl, rfl, rfl, rfl, rfl⟩, down := ⟨_, rfl, rfl, rfl, rfl, rfl⟩, xeRule := ⟨_, rfl, rfl, rfl⟩, kcFixed := ⟨_, rfl, rfl, rfl, rfl⟩, kcDown := ⟨_, rfl, rfl, rfl, rfl⟩, hcRule := ⟨_, rfl⟩, acFixedcRule := ⟨_, rfl, rfl, rfl⟩, acDowncRule := ⟨_, rfl, rfl, rfl⟩, acFixedcFixed := ⟨_, rfl, rfl, rfl⟩, acDowncFixed := ⟨_, rfl, rfl, rfl⟩, acFixedcDown := ⟨_, rfl, rfl, rfl⟩, acDowncDown := ⟨_, rfl, rfl, rfl⟩ }
instance : StT tP ix := { fStands := ⟨_, rfl, rfl, rfl, rfl, rfl⟩, dStands := ⟨_, rfl, rfl, rfl, rfl, rfl⟩, mfStands := ⟨_, rfl, rfl, rfl⟩, mdStands := ⟨_, rfl, rfl, rfl⟩ }
instance : LaT tP ix := { fLeft := ⟨_, rfl, rfl, rfl, rfl, rfl⟩, dLeft := ⟨_, rfl, rfl, rfl, rfl, rfl⟩, xeTake := ⟨_, rfl, rfl, rfl⟩, mfLeft := ⟨_, rfl, rfl, rfl⟩, mdLeft := ⟨_, rfl, rfl, rfl⟩ }
instance : TkT tP ix := { fTaken := ⟨_, rfl, rfl, rfl, rfl, rfl⟩, dTaken := ⟨_, rfl, rfl, rfl, rfl, rfl⟩, mfTaken := ⟨_, rfl, rfl, rfl⟩, mdTaken := ⟨_, rfl, rfl, rfl⟩ }
instance : LvT tP ix := { leaving := ⟨_, rfl, rfl, rfl, rfl, rfl⟩, mLeaving := ⟨_, rfl, rfl, rfl⟩ }
instance : BkT tP ix := { fOrder := ⟨_, rfl, rfl, rfl, rfl, rfl⟩, dOrder := ⟨_, rfl, rfl, rfl, rfl, rfl⟩, comMod := ⟨_, rfl, rfl, rfl, rfl, rfl⟩, inOrd := ⟨_, rfl, rfl, rfl, rfl, rfl⟩, bInit := ⟨_, rfl, rfl, rfl, rfl, rfl⟩, xeBook := ⟨_, rfl, rfl, rfl⟩, xeMany := ⟨_, rfl, rfl, rfl⟩, kcBook := ⟨_, rfl, rfl, rfl, rfl⟩, acBookcRule := ⟨_, rfl, rfl, rfl⟩, acBookcBook := ⟨_, rfl, rfl, rfl⟩, mfOrder := ⟨_, rfl, rfl, rfl⟩, mdOrder := ⟨_, rfl, rfl, rfl⟩ }
instance : OfT tP ix := { bOf := ⟨_, rfl, rfl, rfl, rfl, rfl⟩ }
instance : LfT tP ix := { lefts := ⟨_, rfl, rfl, rfl, rfl, rfl⟩, mLefts := ⟨_, rfl, rfl, rfl⟩ }
instance : TsT tP ix := { takes := ⟨_, rfl, rfl, rfl, rfl, rfl⟩, mTakes := ⟨_, rfl, rfl, rfl⟩ }
instance : BlT tP ix := { bLen := ⟨_, rfl, rfl, rfl, rfl, rfl⟩, mbLen := ⟨_, rfl, rfl, rfl⟩ }
section
variable {F : Fs} {S : Store} {ρ : Ro}
@[simp] theorem c_law_0 {a0 : D} : callD tP F 0 [a0] [] [] S = F.fn 0 [a0] S := rfl
theorem R_law {n : Nat} {a0 : D} : (fsN tP (n + 1)).fn 0 [a0] S = runB (evSs tP (fsN tP n) t_law (start0 4 [a0]) S) := rfl
@[simp] theorem c_pen_0 {a0 : D} : callD tP F 2 [a0] [] [] S = F.fn 2 [a0] S := rfl
theorem R_pen {n : Nat} {a0 : D} : (fsN tP (n + 1)).fn 2 [a0] S = runB (evSs tP (fsN tP n) t__law_pen (start0 1 [a0]) S) := rfl
@[simp] theorem c_form_0 {a0 : D} : callD tP F 3 [a0] [] [] S = F.fn 3 [a0] S := rfl
theorem R_form {n : Nat} {a0 : D} : (fsN tP (n + 1)).fn 3 [a0] S = runB (evSs tP (fsN tP n) t__law_form (start0 2 [a0]) S) := rfl
@[simp] theorem c_whole_right_0 {a0 a1 : D} : callD tP F 4 [a0, a1] [] [] S = F.fn 4 [a0, a1] S := rfl
theorem R_whole_right {n : Nat} {a0 a1 : D} : (fsN tP (n + 1)).fn 4 [a0, a1] S = runB (evSs tP (fsN tP n) t__law_whole_right (start0 8 [a0, a1]) S) := rfl
@[simp] theorem c_finer_right_0 {a0 a1 : D} : callD tP F 5 [a0, a1] [] [] S = F.fn 5 [a0, a1] S := rfl
theorem R_finer_right {n : Nat} {a0 a1 : D} : (fsN tP (n + 1)).fn 5 [a0, a1] S = runB (evSs tP (fsN tP n) t__law_finer_right (start0 9 [a0, a1]) S) := rfl
@[simp] theorem c_leave_right_0 {a0 a1 : D} : callD tP F 6 [a0, a1] [] [] S = F.fn 6 [a0, a1] S := rfl
theorem R_leave_right {n : Nat} {a0 a1 : D} : (fsN tP (n + 1)).fn 6 [a0, a1] S = runB (evSs tP (fsN tP n) t__law_leave_right (start0 8 [a0, a1]) S) := rfl
@[simp] theorem c_pick_0 {a0 a1 : D} : callD tP F 7 [a0, a1] [] [] S = F.fn 7 [a0, a1] S := rfl
theorem R_pick {n : Nat} {a0 a1 : D} : (fsN tP (n + 1)).fn 7 [a0, a1] S = runB (evSs tP (fsN tP n) t__law_pick (start0 2 [a0, a1]) S) := rfl
@[simp] theorem c_draw_0 {a0 a1 : D} : callD tP F 8 [a0, a1] [] [] S = F.fn 8 [a0, a1] S := rfl
theorem R_draw {n : Nat} {a0 a1 : D} : (fsN tP (n + 1)).fn 8 [a0, a1] S = runB (evSs tP (fsN tP n) t__law_draw (start0 7 [a0, a1]) S) := rfl
@[simp] theorem c_rule_0 {a0 a1 a2 : D} : callD tP F 9 [a0, a1, a2] [] [] S = F.fn 9 [a0, a1, a2] S := rfl
theorem R_rule {n : Nat} {a0 a1 a2 : D} : (fsN tP (n + 1)).fn 9 [a0, a1, a2] S = runB (evSs tP (fsN tP n) t__law_rule (start0 3 [a0, a1, a2]) S) := rfl
@[simp] theorem c_heaps_0 {a0 a1 : D} : callD tP F 12 [a0, a1] [] [] S = F.fn 12 [a0, a1] S := rfl
theorem R_heaps {n : Nat} {a0 a1 : D} : (fsN tP (n + 1)).fn 12 [a0, a1] S = runB (evSs tP (fsN tP n) t__law_heaps (start0 3 [a0, a1]) S) := rfl
@[simp] theorem x_BadBook {a0 : D} : excD tP ix.eBook [a0] = some (.exc ix.eBook ["at"] [a0]) := rfl
@[simp] theorem xf_BadBook_at {a0 : D} : fldD tP (.exc ix.eBook ["at"] [a0]) "at" S = .ok a0 S := rfl
@[simp] theorem xi_BadBook_BadBook {ns : List Str} {ds : List D} : isiD tP (.exc ix.eBook ns ds) (.cls ix.eBook) = some true := rfl
@[simp] theorem xt_BadBook_BadBook {ns : List Str} {ds : List D} {i j : Nat} : kTry tP ix.eBook i j (.er (.exc ix.eBook ns ds) ρ S) = .nx ((ρ.set j (some (.sh (.exc ix.eBook ns ds)))).set i none) S := rfl
@[simp] theorem xi_BadBook_TooMany {ns : List Str} {ds : List D} : isiD tP (.exc ix.eBook ns ds) (.cls ix.eMany) = some false := rfl
@[simp] theorem xi_BadBook_NoTake {ns : List Str} {ds : List D} : isiD tP (.exc ix.eBook ns ds) (.cls ix.eTake) = some false := rfl
@[simp] theorem xi_BadBook_BadSize {ns : List Str} {ds : List D} : isiD tP (.exc ix.eBook ns ds) (.cls ix.eSize) = some false := rfl
@[simp] theorem xi_BadBook_BadRule {ns : List Str} {ds : List D} : isiD tP (.exc ix.eBook ns ds) (.cls ix.eRule) = some false := rfl
@[simp] theorem xi_BadBook_FreeError {ns : List Str} {ds : List D} : isiD tP (.exc ix.eBook ns ds) (.cls ix.eFree) = some true := rfl
@[simp] theorem xt_BadBook_FreeError {ns : List Str} {ds : List D} {i j : Nat} : kTry tP ix.eFree i j (.er (.exc ix.eBook ns ds) ρ S) = .nx ((ρ.set j (some (.sh (.exc ix.eBook ns ds)))).set i none) S := rfl
@[simp] theorem x_TooMany {a0 a1 : D} : excD tP ix.eMany [a0, a1] = some (.exc ix.eMany ["most", "what"] [a1, a0]) := rfl
@[simp] theorem xf_TooMany_what {a0 a1 : D} : fldD tP (.exc ix.eMany ["most", "what"] [a1, a0]) "what" S = .ok a0 S := rfl
@[simp] theorem xf_TooMany_most {a0 a1 : D} : fldD tP (.exc ix.eMany ["most", "what"] [a1, a0]) "most" S = .ok a1 S := rfl
@[simp] theorem xi_TooMany_BadBook {ns : List Str} {ds : List D} : isiD tP (.exc ix.eMany ns ds) (.cls ix.eBook) = some false := rfl
@[simp] theorem xi_TooMany_TooMany {ns : List Str} {ds : List D} : isiD tP (.exc ix.eMany ns ds) (.cls ix.eMany) = some true := rfl
@[simp] theorem xt_TooMany_TooMany {ns : List Str} {ds : List D} {i j : Nat} : kTry tP ix.eMany i j (.er (.exc ix.eMany ns ds) ρ S) = .nx ((ρ.set j (some (.sh (.exc ix.eMany ns ds)))).set i none) S := rfl
@[simp] theorem xi_TooMany_NoTake {ns : List Str} {ds : List D} : isiD tP (.exc ix.eMany ns ds) (.cls ix.eTake) = some false := rfl
@[simp] theorem xi_TooMany_BadSize {ns : List Str} {ds : List D} : isiD tP (.exc ix.eMany ns ds) (.cls ix.eSize) = some false := rfl
@[simp] theorem xi_TooMany_BadRule {ns : List Str} {ds : List D} : isiD tP (.exc ix.eMany ns ds) (.cls ix.eRule) = some false := rfl
@[simp] theorem xi_TooMany_FreeError {ns : List Str} {ds : List D} : isiD tP (.exc ix.eMany ns ds) (.cls ix.eFree) = some true := rfl
@[simp] theorem xt_TooMany_FreeError {ns : List Str} {ds : List D} {i j : Nat} : kTry tP ix.eFree i j (.er (.exc ix.eMany ns ds) ρ S) = .nx ((ρ.set j (some (.sh (.exc ix.eMany ns ds)))).set i none) S := rfl
@[simp] theorem x_NoTake {a0 : D} : excD tP ix.eTake [a0] = some (.exc ix.eTake ["number"] [a0]) := rfl
@[simp] theorem xf_NoTake_number {a0 : D} : fldD tP (.exc ix.eTake ["number"] [a0]) "number" S = .ok a0 S := rfl
@[simp] theorem xi_NoTake_BadBook {ns : List Str} {ds : List D} : isiD tP (.exc ix.eTake ns ds) (.cls ix.eBook) = some false := rfl
@[simp] theorem xi_NoTake_TooMany {ns : List Str} {ds : List D} : isiD tP (.exc ix.eTake ns ds) (.cls ix.eMany) = some false := rfl
@[simp] theorem xi_NoTake_NoTake {ns : List Str} {ds : List D} : isiD tP (.exc ix.eTake ns ds) (.cls ix.eTake) = some true := rfl
@[simp] theorem xt_NoTake_NoTake {ns : List Str} {ds : List D} {i j : Nat} : kTry tP ix.eTake i j (.er (.exc ix.eTake ns ds) ρ S) = .nx ((ρ.set j (some (.sh (.exc ix.eTake ns ds)))).set i none) S := rfl
@[simp] theorem xi_NoTake_BadSize {ns : List Str} {ds : List D} : isiD tP (.exc ix.eTake ns ds) (.cls ix.eSize) = some false := rfl
@[simp] theorem xi_NoTake_BadRule {ns : List Str} {ds : List D} : isiD tP (.exc ix.eTake ns ds) (.cls ix.eRule) = some false := rfl
@[simp] theorem xi_NoTake_FreeError {ns : List Str} {ds : List D} : isiD tP (.exc ix.eTake ns ds) (.cls ix.eFree) = some true := rfl
@[simp] theorem xt_NoTake_FreeError {ns : List Str} {ds : List D} {i j : Nat} : kTry tP ix.eFree i j (.er (.exc ix.eTake ns ds) ρ S) = .nx ((ρ.set j (some (.sh (.exc ix.eTake ns ds)))).set i none) S := rfl
@[simp] theorem x_BadSize {a0 : D} : excD tP ix.eSize [a0] = some (.exc ix.eSize ["value"] [a0]) := rfl
@[simp] theorem xf_BadSize_value {a0 : D} : fldD tP (.exc ix.eSize ["value"] [a0]) "value" S = .ok a0 S := rfl
@[simp] theorem xi_BadSize_BadBook {ns : List Str} {ds : List D} : isiD tP (.exc ix.eSize ns ds) (.cls ix.eBook) = some false := rfl
@[simp] theorem xi_BadSize_TooMany {ns : List Str} {ds : List D} : isiD tP (.exc ix.eSize ns ds) (.cls ix.eMany) = some false := rfl
@[simp] theorem xi_BadSize_NoTake {ns : List Str} {ds : List D} : isiD tP (.exc ix.eSize ns ds) (.cls ix.eTake) = some false := rfl
@[simp] theorem xi_BadSize_BadSize {ns : List Str} {ds : List D} : isiD tP (.exc ix.eSize ns ds) (.cls ix.eSize) = some true := rfl
@[simp] theorem xt_BadSize_BadSize {ns : List Str} {ds : List D} {i j : Nat} : kTry tP ix.eSize i j (.er (.exc ix.eSize ns ds) ρ S) = .nx ((ρ.set j (some (.sh (.exc ix.eSize ns ds)))).set i none) S := rfl
@[simp] theorem xi_BadSize_BadRule {ns : List Str} {ds : List D} : isiD tP (.exc ix.eSize ns ds) (.cls ix.eRule) = some false := rfl
@[simp] theorem xi_BadSize_FreeError {ns : List Str} {ds : List D} : isiD tP (.exc ix.eSize ns ds) (.cls ix.eFree) = some true := rfl
@[simp] theorem xt_BadSize_FreeError {ns : List Str} {ds : List D} {i j : Nat} : kTry tP ix.eFree i j (.er (.exc ix.eSize ns ds) ρ S) = .nx ((ρ.set j (some (.sh (.exc ix.eSize ns ds)))).set i none) S := rfl
@[simp] theorem x_BadRule {a0 : D} : excD tP ix.eRule [a0] = some (.exc ix.eRule ["part"] [a0]) := rfl
@[simp] theorem xf_BadRule_part {a0 : D} : fldD tP (.exc ix.eRule ["part"] [a0]) "part" S = .ok a0 S := rfl
@[simp] theorem xi_BadRule_BadBook {ns : List Str} {ds : List D} : isiD tP (.exc ix.eRule ns ds) (.cls ix.eBook) = some false := rfl
@[simp] theorem xi_BadRule_TooMany {ns : List Str} {ds : List D} : isiD tP (.exc ix.eRule ns ds) (.cls ix.eMany) = some false := rfl
@[simp] theorem xi_BadRule_NoTake {ns : List Str} {ds : List D} : isiD tP (.exc ix.eRule ns ds) (.cls ix.eTake) = some false := rfl
@[simp] theorem xi_BadRule_BadSize {ns : List Str} {ds : List D} : isiD tP (.exc ix.eRule ns ds) (.cls ix.eSize) = some false := rfl
@[simp] theorem xi_BadRule_BadRule {ns : List Str} {ds : List D} : isiD tP (.exc ix.eRule ns ds) (.cls ix.eRule) = some true := rfl
@[simp] theorem xt_BadRule_BadRule {ns : List Str} {ds : List D} {i j : Nat} : kTry tP ix.eRule i j (.er (.exc ix.eRule ns ds) ρ S) = .nx ((ρ.set j (some (.sh (.exc ix.eRule ns ds)))).set i none) S := rfl
@[simp] theorem xi_BadRule_FreeError {ns : List Str} {ds : List D} : isiD tP (.exc ix.eRule ns ds) (.cls ix.eFree) = some true := rfl
@[simp] theorem xt_BadRule_FreeError {ns : List Str} {ds : List D} {i j : Nat} : kTry tP ix.eFree i j (.er (.exc ix.eRule ns ds) ρ S) = .nx ((ρ.set j (some (.sh (.exc ix.eRule ns ds)))).set i none) S := rfl
@[simp] theorem xn_BadBook {i j : Nat} : kTry tP ix.eBook i j (.nx ρ S) = .nx ρ S := rfl
@[simp] theorem xr_BadBook {i j : Nat} {d : D} : kTry tP ix.eBook i j (.rt d S) = .rt d S := rfl
@[simp] theorem xn_TooMany {i j : Nat} : kTry tP ix.eMany i j (.nx ρ S) = .nx ρ S := rfl
@[simp] theorem xr_TooMany {i j : Nat} {d : D} : kTry tP ix.eMany i j (.rt d S) = .rt d S := rfl
@[simp] theorem xn_NoTake {i j : Nat} : kTry tP ix.eTake i j (.nx ρ S) = .nx ρ S := rfl
@[simp] theorem xr_NoTake {i j : Nat} {d : D} : kTry tP ix.eTake i j (.rt d S) = .rt d S := rfl
@[simp] theorem xn_BadSize {i j : Nat} : kTry tP ix.eSize i j (.nx ρ S) = .nx ρ S := rfl
@[simp] theorem xr_BadSize {i j : Nat} {d : D} : kTry tP ix.eSize i j (.rt d S) = .rt d S := rfl
@[simp] theorem xn_BadRule {i j : Nat} : kTry tP ix.eRule i j (.nx ρ S) = .nx ρ S := rfl
@[simp] theorem xr_BadRule {i j : Nat} {d : D} : kTry tP ix.eRule i j (.rt d S) = .rt d S := rfl
@[simp] theorem xn_FreeError {i j : Nat} : kTry tP ix.eFree i j (.nx ρ S) = .nx ρ S := rfl
@[simp] theorem xr_FreeError {i j : Nat} {d : D} : kTry tP ix.eFree i j (.rt d S) = .rt d S := rfl
theorem pT : PenT tP 2 8 7 91305 2091 2147483587 91292 2096 2147483563 117 60149 1191 2147483497 := ⟨⟨_, rfl, rfl, rfl, rfl, rfl⟩, ⟨_, rfl, rfl, rfl, rfl, rfl⟩, ⟨_, rfl, rfl, rfl, rfl, rfl⟩, by constructor <;> first | decide | omega⟩
end
end K08
end
-- P08
section
set_option maxHeartbeats 4000000
namespace K08
open DL PySem PySem.Spec L2
variable {xs : List Int} {R S : Store} {k : Int} {n : Nat}
/-- a form: kind, size or heap, leave -/
structure Fm where
  (b N L : Int)
abbrev Fm.ok (f : Fm) : Prop := (f.b = 0 ∨ f.b = 1) ∧ (1 ≤ f.N ∧ f.N ≤ 399) ∧ (0 ≤ f.L ∧ f.L ≤ 399)
def Fm.d (f : Fm) : D := .tup [.int f.b, .int f.N, .int f.L]
def Fm.ru (f : Fm) (r m : Int) : Ru := if f.b = 0 then .dwn f.N r m else .fix f.N r m f.L
def Fm.st (f : Fm) : Int := if f.b = 0 then f.N + 1 else f.N + f.L
theorem Fm.rok {f : Fm} (h : f.ok) {r m : Int} (hr : 0 ≤ r ∧ r ≤ m - 1) (hm : 1 ≤ m ∧ m ≤ 6) : (f.ru r m).ok := by
  obtain ⟨hb, hN, hL⟩ := h
  unfold Fm.ru
  split
  · exact ⟨⟨by omega, by omega⟩, hr, hm⟩
  · exact ⟨⟨by omega, by omega⟩, hr, hm, by omega, by omega⟩
theorem Fm.start {f : Fm} {r m : Int} : (f.ru r m).start = f.st := by
  unfold Fm.ru Fm.st
  split <;> rfl
theorem Fm.mod {f : Fm} {r m : Int} : (f.ru r m).mod = m := by
  unfold Fm.ru
  split <;> rfl
theorem Fm.rest {f : Fm} {r m : Int} : (f.ru r m).rest = r := by
  unfold Fm.ru
  split <;> rfl
theorem Fm.lf {f : Fm} {r m r' m' v : Int} : (f.ru r m).lf v = (f.ru r' m').lf v := by
  unfold Fm.ru
  split <;> rfl
theorem Fm.reach {f : Fm} {r m r' m' : Int} : (f.ru r m).reach = (f.ru r' m').reach := by
  unfold Fm.ru
  split <;> rfl
theorem Fm.stv {f : Fm} {r m v : Int} : (f.ru r m).st v = true ↔ f.st ≤ v ∧ v % m = r := by
  unfold Ru.st
  rw [Bool.and_eq_true, decide_eq_true_eq, decide_eq_true_eq, Fm.start, Fm.mod, Fm.rest]
theorem Fm.stb {f : Fm} (h : f.ok) : 0 ≤ f.st ∧ f.st ≤ 798 := by
  obtain ⟨hb, hN, hL⟩ := h
  unfold Fm.st
  split <;> omega
theorem form_ (hp : Pn xs R k S) (hk : k + 20 < 4194304) : ∃ (f : Fm) (S' : Store), f.ok ∧ (fsN tP (n + 3)).fn 3 [.box 0] S = .ok f.d S' ∧ Pn xs R (k + 5) S' := by
  obtain ⟨x, S1, hx, e1, q1⟩ := pT.pick (n := n) (opts := [.int 3, .int 9, .int 399]) hp (by omega) (by simp) (by simp)
  obtain ⟨mo, rfl, hm⟩ : ∃ mo : Int, x = .int mo ∧ (0 < mo ∧ mo ≤ 399) := by
    simp only [List.mem_cons, List.not_mem_nil, or_false] at hx
    rcases hx with rfl | rfl | rfl <;> exact ⟨_, rfl, by decide, by decide⟩
  obtain ⟨b, S2, e2, q2, b1, b2⟩ := pT.draw (n := n + 1) (many := 2) q1 (by omega) (by decide) (by decide)
  obtain ⟨N, S3, e3, q3, N1, N2⟩ := pT.draw (n := n + 1) (many := mo) q2 (by omega) (by omega) (by omega)
  obtain ⟨w, S4, e4, q4, w1, w2⟩ := pT.draw (n := n + 1) (many := mo) q3 (by omega) (by omega) (by omega)
  obtain ⟨y, S5, hy, e5, q5⟩ := pT.pick (n := n) (opts := [.int 0, .int 0, .int 1, .int w]) q4 (by omega) (by simp) (by simp)
  obtain ⟨L, rfl, hL⟩ : ∃ L : Int, y = .int L ∧ (0 ≤ L ∧ L ≤ 399) := by
    simp only [List.mem_cons, List.not_mem_nil, or_false] at hy
    rcases hy with rfl | rfl | rfl | rfl
    · exact ⟨_, rfl, by decide, by decide⟩
    · exact ⟨_, rfl, by decide, by decide⟩
    · exact ⟨_, rfl, by decide, by decide⟩
    · exact ⟨_, rfl, w1, by omega⟩
  refine ⟨⟨b, 1 + N, L⟩, S5, ⟨by show b = 0 ∨ b = 1; omega, by show 1 ≤ 1 + N ∧ 1 + N ≤ 399; omega, hL⟩, ?_, q5.mono (by omega)⟩
  rw [R_form]
  simp [t__law_form, e1, e2, e3, e4, e5, Fm.d]
theorem rule_ {f : Fm} (h : f.ok) {r m : Int} (hr : 0 ≤ r ∧ r ≤ m - 1) (hm : 1 ≤ m ∧ m ≤ 6) : (fsN tP (n + 5)).fn 9 [f.d, .int r, .int m] S = .ok ((f.ru r m).obj ix) S := by
  have ho := Fm.rok h hr hm
  rw [R_rule]
  unfold Fm.ru at ho ⊢
  by_cases hb : f.b = 0
  · rw [if_pos hb] at ho ⊢
    simp [t__law_rule, Fm.d, hb, mkDwn ho]
  · rw [if_neg hb] at ho ⊢
    simp [t__law_rule, Fm.d, hb, mkFixK ho]
theorem heaps_ {u : Ru} (hu : 0 ≤ u.start ∧ u.start ≤ 900) (hp : Pn xs R k S) (hk : k + 20 < 4194304) : ∃ (vs : List Int) (S' : Store), (∀ v ∈ vs, 0 ≤ v ∧ v ≤ maxH) ∧ (fsN tP (n + 2)).fn 12 [.box 0, u.obj ix] S = .ok (.lst (vs.map D.int)) S' ∧ Pn xs R (k + 1) S' := by
  obtain ⟨c, S1, e1, q1, c1, c2⟩ := pT.draw (n := n) (many := 1000000000000000000000000000000) hp (by omega) (by decide) (by decide)
  have e1 : (fsN tP (n + 1)).fn 8 [.box 0, .int 1000000000000000000000000000000] S = .ok (.int c) S1 := e1
  have f0 : 0 ≤ mx2 0 (u.start - 3) ∧ mx2 0 (u.start - 3) ≤ 900 := by
    unfold mx2
    split <;> omega
  generalize hf : mx2 0 (u.start - 3) = f at f0
  refine ⟨((List.range 14).map fun i : Nat => f + i) ++ [c, 0, maxH], S1, ?_, ?_, q1⟩
  · intro v hv
    have hM : maxH = 1000000000000000000000000000000 := rfl
    simp only [List.mem_append, List.mem_map, List.mem_range, List.mem_cons, List.not_mem_nil, or_false] at hv
    rcases hv with ⟨i, hi, rfl⟩ | rfl | rfl | rfl
    · omega
    · omega
    · omega
    · omega
  · rw [R_heaps]
    have r2 := rngD_nat (S := S) (a := f) (b := f + 14) (by omega) (by omega) (by omega) (by omega)
    have r3 : (f + 14 - f).toNat = 14 := by omega
    rw [r3] at r2
    simp [t__law_heaps, hf, r2, e1, maxH]
/-! ### rules of all rests -/
def whole (f : Fm) (m : Nat) : List Ru := (List.range m).map fun i : Nat => f.ru i m
theorem whole_ok {f : Fm} (h : f.ok) {m : Nat} (hm : 1 ≤ m ∧ m ≤ 6) : okL (whole f m) := by
  intro u hu
  obtain ⟨i, hi, rfl⟩ := List.mem_map.mp hu
  rw [List.mem_range] at hi
  exact Fm.rok h ⟨by omega, by omega⟩ ⟨by omega, by omega⟩
theorem whole_left {f : Fm} {m : Nat} (hm : 1 ≤ m) (v : Int) : leftL (whole f m) v = leftL [f.ru 0 1] v := by
  refine leftL_ext fun c => ?_
  constructor
  · rintro ⟨u, hu, h1, rfl⟩
    obtain ⟨i, hi, rfl⟩ := List.mem_map.mp hu
    rw [Fm.stv] at h1
    exact ⟨_, List.mem_singleton.mpr rfl, Fm.stv.mpr ⟨h1.1, by omega⟩, Fm.lf⟩
  · rintro ⟨u, hu, h1, rfl⟩
    rw [List.mem_singleton] at hu
    subst hu
    rw [Fm.stv] at h1
    have a1 := Int.emod_nonneg v (b := (m : Int)) (by omega)
    have a2 := Int.emod_lt_of_pos v (b := (m : Int)) (by omega)
    refine ⟨f.ru ((v % m).toNat : Nat) m, List.mem_map.mpr ⟨(v % m).toNat, List.mem_range.mpr (by omega), rfl⟩, Fm.stv.mpr ⟨h1.1, by omega⟩, Fm.lf⟩
theorem whole_num {f : Fm} {m : Nat} : ((whole f m).map Ru.num).Nodup := by
  unfold whole
  rw [List.map_map]
  unfold List.Nodup
  rw [List.pairwise_map]
  refine List.Pairwise.imp ?_ (List.pairwise_lt_range (n := m))
  intro a b hab
  simp only [Function.comp_apply]
  unfold Fm.ru
  split
  · simp only [Ru.num]
    omega
  · simp only [Ru.num]
    omega
theorem one_len {u : Ru} {v : Int} : (takeL [u] v).length = if u.st v then 1 else 0 := by
  unfold takeL leftL
  cases b : u.st v <;> simp [b, sortU, insU]
theorem one_canon {u : Ru} (h : u.ok) : canon [u] = [u] := by
  have h1 : okL [u] := fun w hw => by
    rw [List.mem_singleton] at hw
    rw [hw]
    exact h
  exact num_ext (canon_ok h1) h1 (canon_lt h1) (by simp) fun w => canon_mem h1
theorem mod_self {f : Fm} {m : Nat} : ∀ u ∈ whole f m, u.mod ∣ (m : Int) := by
  intro u hu
  obtain ⟨i, hi, rfl⟩ := List.mem_map.mp hu
  rw [Fm.mod]
  exact Int.dvd_refl _
end K08
end
-- P08b
section
set_option maxHeartbeats 4000000
namespace K08
open DL PySem PySem.Spec L2
variable {xs : List Int} {R S : Store} {k : Int} {n : Nat}
theorem cmpT {P : Pg} {F : Fs} {a b : List Int} : cmpD P F .NotEq (.tup (a.map D.int)) (.tup (b.map D.int)) S = .ok (.bl (!decide (a = b))) S := by
  rw [(cmp_pl (x := .tup (a.map D.int)) (y := .tup (b.map D.int)) (by simp) (by simp)).2, deq_tup, deqL_ints]
theorem whole_spot {f : Fm} (h : f.ok) {m : Nat} (hm : 1 ≤ m ∧ m ≤ 6) {v : Int} (h0 : 0 ≤ v) (h1 : v ≤ maxH) {t0 t1 t4 t6 t7 : Option Sl} : evSs tP (fsN tP (n + 8)) t__law_whole_right_b0 ([t0, t1, some (.sh (bobj ix (whole f m))), some (.sh (bobj ix [f.ru 0 1])), t4, some (.sh ((f.ru 0 1).obj ix)), t6, t7].set 4 (some (.sh (.int v)))) S = .nx [t0, t1, some (.sh (bobj ix (whole f m))), some (.sh (bobj ix [f.ru 0 1])), some (.sh (.int v)), some (.sh ((f.ru 0 1).obj ix)), t6, t7] S := by
  have hp : (f.ru 0 1).ok := Fm.rok h (by decide) (by decide)
  have h2 : okL [f.ru 0 1] := fun w hw => by
    rw [List.mem_singleton] at hw
    rw [hw]
    exact hp
  have a1 := takes_s (P := tP) (x := ix) (n := n + 1) (S := S) (whole_ok h hm) (by simp [whole]; omega) h0 h1
  have a2 := takes_s (P := tP) (x := ix) (n := n + 1) (S := S) h2 (by simp) h0 h1
  have e : takeL (whole f m) v = takeL [f.ru 0 1] v := by
    unfold takeL
    rw [whole_left hm.1]
  rw [e] at a1
  have s1 := stands_s (P := tP) (x := ix) (n := n + 4) (S := S) hp h0 h1
  have len := one_len (u := f.ru 0 1) (v := v)
  generalize f.ru 0 1 = u at *
  cases b : u.st v with
  | false =>
    rw [b] at s1 len
    simp [t__law_whole_right_b0, a1, a2, cmpT, s1, len]
  | true =>
    have s2 := left_s (P := tP) (x := ix) (n := n + 3) (S := S) hp h0 h1 b
    have s3 := taken_s (P := tP) (x := ix) (n := n + 2) (S := S) hp h0 h1 b
    rw [b] at s1 len
    have z : u.lf v + (v - u.lf v) = v := by omega
    simp [t__law_whole_right_b0, a1, a2, cmpT, s1, s2, s3, len, z]
theorem whole_right {f : Fm} (h : f.ok) (hp : Pn xs R k S) (hk : k + 40 < 4194304) : ∃ S', (fsN tP (n + 9)).fn 4 [.box 0, f.d] S = .ok (.bl true) S' ∧ Pn xs R (k + 5) S' := by
  obtain ⟨c, S1, e1, q1, c1, c2⟩ := pT.draw (n := n + 7) (many := 6) hp (by omega) (by decide) (by decide)
  have e1 : (fsN tP (n + 8)).fn 8 [.box 0, .int 6] S = .ok (.int c) S1 := e1
  obtain ⟨m, hc, hm⟩ : ∃ m : Nat, 1 + c = m ∧ (1 ≤ m ∧ m ≤ 6) := ⟨(1 + c).toNat, by omega, by omega, by omega⟩
  have p0 : (f.ru 0 1).ok := Fm.rok h (by decide) (by decide)
  have h2 : okL [f.ru 0 1] := fun w hw => by
    rw [List.mem_singleton] at hw
    rw [hw]
    exact p0
  have hw := whole_ok h hm
  have r1 := fun S => rule_ (n := n + 3) (S := S) h (r := 0) (m := 1) (by decide) (by decide)
  have l1 := lc_all (S := S1) (f := lcF 7 (contC tP (fsN tP (n + 8)) none) (contE tP (fsN tP (n + 8)) (.call 9 [.var 1, .var 7, .var 6] [] [])) [some (.sh (.box 0)), some (.sh f.d), none, none, none, some (.sh ((f.ru 0 1).obj ix)), some (.sh (.int m)), none]) (fun i : Nat => D.int i) (fun i : Nat => (f.ru i m).obj ix) (List.range m) (fun i hi => by
    rw [List.mem_range] at hi
    simp [rule_ (n := n + 3) (S := S1) h (r := i) (m := m) ⟨by omega, by omega⟩ ⟨by omega, by omega⟩]) (by simp; omega)
  have e2 : (List.range m).map (fun i : Nat => (f.ru i m).obj ix) = (whole f m).map (Ru.obj ix) := by
    unfold whole
    rw [List.map_map]
    rfl
  rw [e2] at l1
  have wl : (whole f m).length = m := by simp [whole]
  have b1 := bOf_s (P := tP) (x := ix) (n := n + 4) (S := S1) hw (by rw [wl]; simp; omega)
  rw [bookO_ok (by have := modF_le (M := m) (by omega) hw mod_self; omega) (by have := canon_len (whole f m); rw [wl] at this; omega)] at b1
  have b2 := book_s (P := tP) (x := ix) (n := n + 5) (S := S1) h2 (by simp)
  rw [bookO_ok (by have := modF_le (M := 1) (by decide) h2 (fun u hu => by rw [List.mem_singleton] at hu; rw [hu, Fm.mod]; exact Int.dvd_refl _); omega) (by have := canon_len [f.ru 0 1]; rw [show [f.ru 0 1].length = 1 from rfl] at this; omega)] at b2
  have b2 : mkSD tP (fsN tP (n + 8)) ix.cBook [(f.ru 0 1).obj ix] S1 = .ok (bobj ix [f.ru 0 1]) S1 := b2
  have sb := Fm.stb h
  obtain ⟨vs, S2, hv, e3, q2⟩ := heaps_ (n := n + 6) (u := f.ru 0 1) (by rw [Fm.start]; omega) q1 (by omega)
  have e3 : (fsN tP (n + 8)).fn 12 [.box 0, (f.ru 0 1).obj ix] S1 = .ok (.lst (vs.map D.int)) S2 := e3
  obtain ⟨ρ, S3, e4, t4', rfl, hS3⟩ := for_inv (i := 4) (b := contS tP (fsN tP (n + 8)) t__law_whole_right_b0) (fun t ρ S => ∃ t4, ρ = [some (.sh (.box 0)), some (.sh f.d), some (.sh (bobj ix (whole f m))), some (.sh (bobj ix [f.ru 0 1])), t4, some (.sh ((f.ru 0 1).obj ix)), some (.sh (.int m)), none] ∧ S = S2) (vs.map D.int) 0 [some (.sh (.box 0)), some (.sh f.d), some (.sh (bobj ix (whole f m))), some (.sh (bobj ix [f.ru 0 1])), none, some (.sh ((f.ru 0 1).obj ix)), some (.sh (.int m)), none] S2 ⟨none, rfl, rfl⟩ fun t y ρ S hd hi => by
    obtain ⟨t4, rfl, hS⟩ := hi
    rw [hS]
    obtain ⟨v, hvm, rfl⟩ := List.mem_map.mp (List.mem_of_getElem? hd)
    obtain ⟨g0, g1⟩ := hv v hvm
    exact ⟨_, S2, whole_spot (n := n) h hm g0 g1, _, rfl, rfl⟩
  rw [hS3] at e4
  refine ⟨S2, ?_, q2.mono (by omega)⟩
  rw [R_whole_right]
  have ln := len_b (P := tP) (x := ix) (n := n + 7) (S := S2) (us := whole f m) (by omega)
  rw [canon_full whole_num, wl] at ln
  have cne := canon_ne hw (fun e => by
    have h3 : (whole f m).length = 0 := by
      rw [e]
      rfl
    omega)
  have m1 : maxS 0 (canon (whole f m)) = f.st := maxS_c sb.1 _ 0 (fun u hu => by
    obtain ⟨i, _, rfl⟩ := List.mem_map.mp ((canon_mem hw).mp hu)
    exact Fm.start) (.inr ⟨by decide, sb.1, cne⟩)
  have rch : 0 ≤ (f.ru 0 1).reach := by
    unfold Fm.ru
    split
    · exact Int.le_refl 0
    · have := h.2.1
      simp only [Ru.reach]
      omega
  have m2 : maxR 0 (canon (whole f m)) = (f.ru 0 1).reach := maxR_c rch _ 0 (fun u hu => by
    obtain ⟨i, _, rfl⟩ := List.mem_map.mp ((canon_mem hw).mp hu)
    exact Fm.reach) (.inr ⟨by decide, rch, cne⟩)
  have m3 : maxR 0 (canon [f.ru 0 1]) = (f.ru 0 1).reach := maxR_c rch _ 0 (fun u hu => by
    have := (canon_mem h2).mp hu
    rw [List.mem_singleton] at this
    rw [this]) (.inr ⟨by decide, rch, canon_ne h2 (by simp)⟩)
  have it : itD .rng (.int m) S1 = .ok ((List.range m).map fun i : Nat => D.int i) S1 := itD_nat (by omega)
  simp [t__law_whole_right, r1, e1, hc, it, l1, b1, b2, e3, e4, ln, m1, m2, m3, Fm.start]
end K08
end
-- P08c
section
set_option maxHeartbeats 4000000
namespace K08
open DL PySem PySem.Spec L2
variable {xs : List Int} {R S : Store} {k : Int} {n : Nat}
/-! ### finer moduli -/
def finer (f : Fm) (r m : Int) (t : Nat) : List Ru := (List.range t).map fun i : Nat => f.ru (r + m * i) (m * t)
def Fit (m : Int) (t : Nat) : Prop := (m = 1 ∧ 2 ≤ t ∧ t ≤ 6) ∨ (m = 2 ∧ 2 ≤ t ∧ t ≤ 3) ∨ (m = 3 ∧ t = 2)
theorem fit_b {m : Int} {t : Nat} (h : Fit m t) {r : Int} (hr : 0 ≤ r ∧ r ≤ m - 1) {i : Nat} (hi : i < t) : (0 ≤ r + m * i ∧ r + m * i ≤ m * t - 1) ∧ (1 ≤ m * t ∧ m * t ≤ 6) := by
  rcases h with ⟨rfl, h⟩ | ⟨rfl, h⟩ | ⟨rfl, h⟩ <;> omega
theorem finer_ok {f : Fm} (h : f.ok) {r m : Int} {t : Nat} (hf : Fit m t) (hr : 0 ≤ r ∧ r ≤ m - 1) : okL (finer f r m t) := by
  intro u hu
  obtain ⟨i, hi, rfl⟩ := List.mem_map.mp hu
  rw [List.mem_range] at hi
  obtain ⟨a, b⟩ := fit_b hf hr hi
  exact Fm.rok h a b
theorem finer_left {f : Fm} {r m : Int} {t : Nat} (hf : Fit m t) (hr : 0 ≤ r ∧ r ≤ m - 1) (v : Int) : leftL (finer f r m t) v = leftL [f.ru r m] v := by
  refine leftL_ext fun c => ?_
  constructor
  · rintro ⟨u, hu, h1, rfl⟩
    obtain ⟨i, hi, rfl⟩ := List.mem_map.mp hu
    rw [List.mem_range] at hi
    rw [Fm.stv] at h1
    refine ⟨_, List.mem_singleton.mpr rfl, Fm.stv.mpr ⟨h1.1, ?_⟩, Fm.lf⟩
    have h2 := h1.2
    rcases hf with ⟨rfl, h⟩ | ⟨rfl, h⟩ | ⟨rfl, rfl⟩
    · omega
    · have : t = 2 ∨ t = 3 := by omega
      rcases this with rfl | rfl <;> omega
    · omega
  · rintro ⟨u, hu, h1, rfl⟩
    rw [List.mem_singleton] at hu
    subst hu
    rw [Fm.stv] at h1
    have h2 := h1.2
    have hm : 0 < m * t := by rcases hf with ⟨rfl, h⟩ | ⟨rfl, h⟩ | ⟨rfl, h⟩ <;> omega
    have a1 := Int.emod_nonneg v (b := m * t) (by omega)
    have a2 := Int.emod_lt_of_pos v hm
    refine ⟨f.ru (r + m * (((v % (m * t)) / m).toNat : Nat)) (m * t), List.mem_map.mpr ⟨((v % (m * t)) / m).toNat, List.mem_range.mpr ?_, rfl⟩, Fm.stv.mpr ⟨h1.1, ?_⟩, Fm.lf⟩
    · rcases hf with ⟨rfl, h⟩ | ⟨rfl, h⟩ | ⟨rfl, h⟩ <;> omega
    · rcases hf with ⟨rfl, h⟩ | ⟨rfl, h⟩ | ⟨rfl, rfl⟩
      · omega
      · have : t = 2 ∨ t = 3 := by omega
        rcases this with rfl | rfl <;> omega
      · omega
theorem one_ok {u : Ru} (h : u.ok) : okL [u] := fun w hw => by
  rw [List.mem_singleton] at hw
  rw [hw]
  exact h
theorem one_book {u : Ru} (h : u.ok) : mkSD tP (fsN tP (n + 3)) ix.cBook [u.obj ix] S = .ok (bobj ix [u]) S := by
  have b := book_s (P := tP) (x := ix) (n := n) (S := S) (one_ok h) (by simp)
  rw [bookO_ok (by have := modF_le (M := u.mod) h.m.1 (one_ok h) (fun w hw => by rw [List.mem_singleton] at hw; rw [hw]; exact Int.dvd_refl _); have := h.m.2; omega) (by have := canon_len [u]; rw [show [u].length = 1 from rfl] at this; omega)] at b
  exact b
theorem finer_spot {f : Fm} (h : f.ok) {r m : Int} {t : Nat} (hf : Fit m t) (hr : 0 ≤ r ∧ r ≤ m - 1) (hm : 1 ≤ m ∧ m ≤ 6) {v : Int} (h0 : 0 ≤ v) (h1 : v ≤ maxH) {t0 t1 t2 t3 t4 t7 t8 : Option Sl} : evSs tP (fsN tP (n + 8)) t__law_finer_right_b0 ([t0, t1, t2, t3, t4, some (.sh (bobj ix (finer f r m t))), some (.sh ((f.ru r m).obj ix)), t7, t8].set 7 (some (.sh (.int v)))) S = .nx [t0, t1, t2, t3, t4, some (.sh (bobj ix (finer f r m t))), some (.sh ((f.ru r m).obj ix)), some (.sh (.int v)), t8] S := by
  have hp : (f.ru r m).ok := Fm.rok h hr hm
  have ht : t ≤ 6 := by rcases hf with h | h | h <;> omega
  have a1 := lefts_s (P := tP) (x := ix) (n := n + 2) (S := S) (finer_ok h hf hr) (by simp [finer]; omega) h0 h1
  have a2 := lefts_s (P := tP) (x := ix) (n := n + 2) (S := S) (one_ok hp) (by simp) h0 h1
  rw [finer_left hf hr] at a1
  have b := one_book (n := n + 5) (S := S) hp
  generalize f.ru r m = u at *
  simp [t__law_finer_right_b0, a1, a2, cmpT, b]
theorem finer_right {f : Fm} (h : f.ok) (hp : Pn xs R k S) (hk : k + 40 < 4194304) : ∃ S', (fsN tP (n + 9)).fn 5 [.box 0, f.d] S = .ok (.bl true) S' ∧ Pn xs R (k + 5) S' := by
  obtain ⟨c, S1, e1, q1, c1, c2⟩ := pT.draw (n := n + 7) (many := 3) hp (by omega) (by decide) (by decide)
  have e1 : (fsN tP (n + 8)).fn 8 [.box 0, .int 3] S = .ok (.int c) S1 := e1
  obtain ⟨t, S2, hf, e2, q2⟩ : ∃ (t : Nat) (S2 : Store), Fit (1 + c) t ∧ (∃ opts, idxD (.lst [.lst [.int 2, .int 3, .int 4, .int 5, .int 6], .lst [.int 2, .int 3], .lst [.int 2]]) (.int (1 + c - 1)) S1 = .ok (.lst opts) S1 ∧ (fsN tP (n + 8)).fn 7 [.box 0, .lst opts] S1 = .ok (.int t) S2) ∧ Pn xs R (k + 2) S2 := by
    have : c = 0 ∨ c = 1 ∨ c = 2 := by omega
    rcases this with rfl | rfl | rfl
    · obtain ⟨y, S2, hy, e, q⟩ := pT.pick (n := n + 6) (opts := [.int 2, .int 3, .int 4, .int 5, .int 6]) q1 (by omega) (by simp) (by simp)
      simp only [List.mem_cons, List.not_mem_nil, or_false] at hy
      rcases hy with rfl | rfl | rfl | rfl | rfl
      · exact ⟨2, S2, .inl (by decide), ⟨_, by simp, e⟩, q.mono (by omega)⟩
      · exact ⟨3, S2, .inl (by decide), ⟨_, by simp, e⟩, q.mono (by omega)⟩
      · exact ⟨4, S2, .inl (by decide), ⟨_, by simp, e⟩, q.mono (by omega)⟩
      · exact ⟨5, S2, .inl (by decide), ⟨_, by simp, e⟩, q.mono (by omega)⟩
      · exact ⟨6, S2, .inl (by decide), ⟨_, by simp, e⟩, q.mono (by omega)⟩
    · obtain ⟨y, S2, hy, e, q⟩ := pT.pick (n := n + 6) (opts := [.int 2, .int 3]) q1 (by omega) (by simp) (by simp)
      simp only [List.mem_cons, List.not_mem_nil, or_false] at hy
      rcases hy with rfl | rfl
      · exact ⟨2, S2, .inr (.inl (by decide)), ⟨_, by simp, e⟩, q.mono (by omega)⟩
      · exact ⟨3, S2, .inr (.inl (by decide)), ⟨_, by simp, e⟩, q.mono (by omega)⟩
    · obtain ⟨y, S2, hy, e, q⟩ := pT.pick (n := n + 6) (opts := [.int 2]) q1 (by omega) (by simp) (by simp)
      simp only [List.mem_cons, List.not_mem_nil, or_false] at hy
      subst hy
      exact ⟨2, S2, .inr (.inr (by decide)), ⟨_, by simp, e⟩, q.mono (by omega)⟩
  obtain ⟨opts, e2a, e2b⟩ := e2
  generalize hm : 1 + c = m at *
  have hm6 : 1 ≤ m ∧ m ≤ 6 := by omega
  have ht : 2 ≤ t ∧ t ≤ 6 := by rcases hf with h | h | h <;> omega
  obtain ⟨r, S3, e3, q3, r1, r2⟩ := pT.draw (n := n + 7) (many := m) q2 (by omega) (by omega) (by omega)
  have e3 : (fsN tP (n + 8)).fn 8 [.box 0, .int m] S2 = .ok (.int r) S3 := e3
  have hr : 0 ≤ r ∧ r ≤ m - 1 := by omega
  have sm : small m = true := small_mul (by omega) (by omega)
  have l1 := lc_all (S := S3) (f := lcF 8 (contC tP (fsN tP (n + 8)) none) (contE tP (fsN tP (n + 8)) (.call 9 [.var 1, .bin .Add (.var 4) (.bin .Mult (.var 2) (.var 8)), .bin .Mult (.var 2) (.var 3)] [] [])) [some (.sh (.box 0)), some (.sh f.d), some (.sh (.int m)), some (.sh (.int t)), some (.sh (.int r)), none, none, none, none]) (fun i : Nat => D.int i) (fun i : Nat => (f.ru (r + m * i) (m * t)).obj ix) (List.range t) (fun i hi => by
    rw [List.mem_range] at hi
    obtain ⟨a, b⟩ := fit_b hf hr hi
    simp [sm, rule_ (n := n + 3) (S := S3) h a b]) (by simp; omega)
  have e4 : (List.range t).map (fun i : Nat => (f.ru (r + m * i) (m * t)).obj ix) = (finer f r m t).map (Ru.obj ix) := by
    unfold finer
    rw [List.map_map]
    rfl
  rw [e4] at l1
  have hw := finer_ok h hf hr
  have wl : (finer f r m t).length = t := by simp [finer]
  have mt := (fit_b hf hr (i := 0) (by omega)).2
  have b1 := bOf_s (P := tP) (x := ix) (n := n + 4) (S := S3) hw (by rw [wl]; simp; omega)
  rw [bookO_ok (by
    have := modF_le (M := m * t) mt.1 hw (fun u hu => by
      obtain ⟨i, hi, rfl⟩ := List.mem_map.mp hu
      rw [Fm.mod]
      exact Int.dvd_refl _)
    omega) (by have := canon_len (finer f r m t); rw [wl] at this; omega)] at b1
  have r9 := rule_ (n := n + 3) (S := S3) h hr hm6
  have sb := Fm.stb h
  obtain ⟨vs, S4, hv, e5, q4⟩ := heaps_ (n := n + 6) (u := f.ru r m) (by rw [Fm.start]; omega) q3 (by omega)
  have e5 : (fsN tP (n + 8)).fn 12 [.box 0, (f.ru r m).obj ix] S3 = .ok (.lst (vs.map D.int)) S4 := e5
  obtain ⟨ρ, S5, e6, t7', rfl, hS5⟩ := for_inv (i := 7) (b := contS tP (fsN tP (n + 8)) t__law_finer_right_b0) (fun _ ρ S => ∃ t7, ρ = [some (.sh (.box 0)), some (.sh f.d), some (.sh (.int m)), some (.sh (.int t)), some (.sh (.int r)), some (.sh (bobj ix (finer f r m t))), some (.sh ((f.ru r m).obj ix)), t7, none] ∧ S = S4) (vs.map D.int) 0 [some (.sh (.box 0)), some (.sh f.d), some (.sh (.int m)), some (.sh (.int t)), some (.sh (.int r)), some (.sh (bobj ix (finer f r m t))), some (.sh ((f.ru r m).obj ix)), none, none] S4 ⟨none, rfl, rfl⟩ fun j y ρ S hd hi => by
    obtain ⟨t7, rfl, hS⟩ := hi
    rw [hS]
    obtain ⟨v, hvm, rfl⟩ := List.mem_map.mp (List.mem_of_getElem? hd)
    obtain ⟨g0, g1⟩ := hv v hvm
    exact ⟨_, S4, finer_spot (n := n) h hf hr hm6 g0 g1, _, rfl, rfl⟩
  rw [hS5] at e6
  refine ⟨S4, ?_, q4.mono (by omega)⟩
  rw [R_finer_right]
  have it : itD .rng (.int t) S3 = .ok ((List.range t).map fun i : Nat => D.int i) S3 := itD_nat (by omega)
  simp [-ix_lst, t__law_finer_right, e1, hm, e2a, e2b, e3, it, l1, b1, r9, e5, e6]
end K08
end
-- P08d
section
set_option maxHeartbeats 4000000
namespace K08
open DL PySem PySem.Spec L2
variable {xs : List Int} {R S : Store} {k : Int} {n : Nat}
theorem leave_spot {N r m l : Int} (hb : (Ru.fix N r m 0).ok) (hl : (Ru.fix N r m l).ok) {v : Int} (h0 : 0 ≤ v) (h1 : v ≤ maxH) {t0 t1 t2 t5 t6 : Option Sl} : evSs tP (fsN tP (n + 8)) t__law_leave_right_b0 ([t0, t1, t2, some (.sh ((Ru.fix N r m 0).obj ix)), some (.sh ((Ru.fix N r m l).obj ix)), t5, t6, some (.sh (.int l))].set 5 (some (.sh (.int v)))) S = .nx [t0, t1, t2, some (.sh ((Ru.fix N r m 0).obj ix)), some (.sh ((Ru.fix N r m l).obj ix)), some (.sh (.int v)), t6, some (.sh (.int l))] S := by
  have s1 := stands_s (P := tP) (x := ix) (n := n + 4) (S := S) hb h0 h1
  have s2 := stands_s (P := tP) (x := ix) (n := n + 4) (S := S) hl h0 h1
  have l0 := hl.2.2.2.1
  cases b : (Ru.fix N r m 0).st v with
  | false =>
    rw [b] at s1
    have b' : (Ru.fix N r m l).st v = false := by
      unfold Ru.st at b ⊢
      rw [Bool.and_eq_false_iff] at b ⊢
      rcases b with b | b
      · left
        have b : ¬ N + 0 ≤ v := of_decide_eq_false b
        exact decide_eq_false (show ¬ N + l ≤ v by omega)
      · exact .inr b
    rw [b'] at s2
    simp [t__law_leave_right_b0, s1, s2]
  | true =>
    have s3 := left_s (P := tP) (x := ix) (n := n + 3) (S := S) hb h0 h1 b
    rw [b] at s1
    have b' : (Ru.fix N r m l).st v = decide (l ≤ (Ru.fix N r m 0).lf v) := by
      have hb2 : N + 0 ≤ v ∧ v % m = r := by
        unfold Ru.st at b
        rw [Bool.and_eq_true] at b
        exact ⟨of_decide_eq_true b.1, of_decide_eq_true b.2⟩
      show (decide (N + l ≤ v) && decide (v % m = r)) = decide (l ≤ v - N)
      rw [decide_eq_true hb2.2, Bool.and_true]
      by_cases q : N + l ≤ v
      · rw [decide_eq_true q, decide_eq_true (show l ≤ v - N by omega)]
      · rw [decide_eq_false q, decide_eq_false (show ¬ l ≤ v - N by omega)]
    rw [b'] at s2
    simp [t__law_leave_right_b0, s1, s2, s3]
theorem leave_right {f : Fm} (h : f.ok) (hp : Pn xs R k S) (hk : k + 40 < 4194304) : ∃ S', (fsN tP (n + 9)).fn 6 [.box 0, f.d] S = .ok (.bl true) S' ∧ Pn xs R (k + 5) S' := by
  obtain ⟨c, S1, e1, q1, c1, c2⟩ := pT.draw (n := n + 7) (many := 6) hp (by omega) (by decide) (by decide)
  have e1 : (fsN tP (n + 8)).fn 8 [.box 0, .int 6] S = .ok (.int c) S1 := e1
  generalize hm : 1 + c = m at *
  obtain ⟨r, S2, e2, q2, r1, r2⟩ := pT.draw (n := n + 7) (many := m) q1 (by omega) (by omega) (by omega)
  have e2 : (fsN tP (n + 8)).fn 8 [.box 0, .int m] S1 = .ok (.int r) S2 := e2
  obtain ⟨l, S3, e3, q3, l1, l2⟩ := pT.draw (n := n + 7) (many := 12) q2 (by omega) (by decide) (by decide)
  have e3 : (fsN tP (n + 8)).fn 8 [.box 0, .int 12] S2 = .ok (.int l) S3 := e3
  obtain ⟨_, hN, _⟩ := h
  have hb : (Ru.fix f.N r m 0).ok := ⟨by omega, by omega, by omega, by decide⟩
  have hl : (Ru.fix f.N r m l).ok := ⟨by omega, by omega, by omega, by omega⟩
  have m1 := mkFix3 (P := tP) (x := ix) (n := n + 4) (S := S3) hb
  have m2 := leaving_s (P := tP) (x := ix) (n := n + 3) (S := S3) (l := 0) hl
  have st : (Ru.fix f.N r m l).start = f.N + l := rfl
  obtain ⟨vs, S4, hv, e5, q4⟩ := heaps_ (n := n + 6) (u := .fix f.N r m l) (by rw [st]; omega) q3 (by omega)
  have e5 : (fsN tP (n + 8)).fn 12 [.box 0, (Ru.fix f.N r m l).obj ix] S3 = .ok (.lst (vs.map D.int)) S4 := e5
  obtain ⟨ρ, S5, e6, t5', rfl, hS5⟩ := for_inv (i := 5) (b := contS tP (fsN tP (n + 8)) t__law_leave_right_b0) (fun _ ρ S => ∃ t5, ρ = [some (.sh (.box 0)), some (.sh f.d), some (.sh (.int m)), some (.sh ((Ru.fix f.N r m 0).obj ix)), some (.sh ((Ru.fix f.N r m l).obj ix)), t5, some (.sh (.int r)), some (.sh (.int l))] ∧ S = S4) (vs.map D.int) 0 [some (.sh (.box 0)), some (.sh f.d), some (.sh (.int m)), some (.sh ((Ru.fix f.N r m 0).obj ix)), some (.sh ((Ru.fix f.N r m l).obj ix)), none, some (.sh (.int r)), some (.sh (.int l))] S4 ⟨none, rfl, rfl⟩ fun j y ρ S hd hi => by
    obtain ⟨t5, rfl, hS⟩ := hi
    rw [hS]
    obtain ⟨v, hvm, rfl⟩ := List.mem_map.mp (List.mem_of_getElem? hd)
    obtain ⟨g0, g1⟩ := hv v hvm
    exact ⟨_, S4, leave_spot (n := n) hb hl g0 g1, _, rfl, rfl⟩
  rw [hS5] at e6
  refine ⟨S4, ?_, q4.mono (by omega)⟩
  rw [R_leave_right]
  have z : (Ru.fix f.N r m 0).start = f.N := by
    show f.N + 0 = f.N
    omega
  simp [t__law_leave_right, e1, hm, e2, e3, Fm.d, m1, m2]
  simp [Fm.d] at e5 e6
  simp [e5, e6, st, z]
theorem turn {t0 t2 t3 : Option Sl} {d : D} (hp : Pn xs R k S) (hk : k + 100 < 4194304) : ∃ (t3' : Option Sl) (S' : Store), evSs tP (fsN tP (n + 9)) t_law_b0 ([t0, some (.sh (.box 0)), t2, t3].set 2 (some (.sh d))) S = .nx [t0, some (.sh (.box 0)), some (.sh d), t3'] S' ∧ Pn xs R (k + 30) S' := by
  obtain ⟨f, S1, hf, e1, q1⟩ := form_ (n := n + 6) hp (by omega)
  obtain ⟨S2, e2, q2⟩ := whole_right (n := n) hf q1 (by omega)
  obtain ⟨S3, e3, q3⟩ := finer_right (n := n) hf q2 (by omega)
  obtain ⟨S4, e4, q4⟩ := leave_right (n := n) hf q3 (by omega)
  have e1 : (fsN tP (n + 9)).fn 3 [.box 0] S = .ok f.d S1 := e1
  exact ⟨some (.sh f.d), S4, by simp [t_law_b0, e1, e2, e3, e4], q4.mono (by omega)⟩
theorem plain (ns : List Int) : ∃ S, (fsN tP 14).fn 0 [.scr (ns.map D.int)] [] = .ok (.bl true) S := by
  obtain ⟨p1, pn⟩ := pT.start (n := 12) ns
  obtain ⟨ρ, S1, e1, a2, a3, rfl, _⟩ := for_inv (i := 2) (b := contS tP (fsN tP 13) t_law_b0) (fun t ρ S => ∃ t2 t3, ρ = [some (.sh (.scr (ns.map D.int))), some (.sh (.box 0)), t2, t3] ∧ Pn (cutD ns none (some 63)) [] (30 * t) S) (rngL 6) 0 [some (.sh (.scr (ns.map D.int))), some (.sh (.box 0)), none, none] _ ⟨none, none, rfl, pn.mono (by omega)⟩ fun t d ρ S hd hi => by
    obtain ⟨t2, t3, rfl, q⟩ := hi
    have ht : t < 6 := by
      have := (List.getElem?_eq_some_iff.mp hd).1
      simpa [rngL] using this
    obtain ⟨b3, S', e, q'⟩ := turn (n := 4) (d := d) (t0 := some (.sh (.scr (ns.map D.int)))) (t2 := t2) (t3 := t3) q (by omega)
    exact ⟨_, S', e, _, b3, rfl, q'.mono (by omega)⟩
  refine ⟨S1, ?_⟩
  rw [R_law]
  have p1 : (fsN tP 13).fn 2 [.scr (ns.map D.int)] [] = .ok (.box 0) [pen (cutD ns none (some 63)) 0 0] := p1
  have kI : k_evI_2_0 tP (fsN tP 13) (.int 6) [pen (cutD ns none (some 63)) 0 0] = .ok (rngL 6) [pen (cutD ns none (some 63)) 0 0] := kI_nat (mo := 6) (by decide)
  simp [-k_evI_2_0_s, t_law, p1, kI, e1]
end K08
end
-- J08
section
set_option maxHeartbeats 0
open PySem PySem.W PySem.Calls PyProof.Rows DL
theorem PySem.Challenge.cw_freetakes_k08_whole_rules_by_their_rests_holds : PySem.Challenge.rw_freetakes_k08_whole_rules_by_their_rests.Holds := by
  w_on; o_law
  refine HandSHeadRun.head_any (r := OpenLaw.row PySem.Challenge.rw_freetakes_k08_whole_rules_by_their_rests) (q := view (OpenLaw.row PySem.Challenge.rw_freetakes_k08_whole_rules_by_their_rests).prog [65]) (H := K08.hk) (ob := K08.ob) (M := 16000) (loose := K08.names) (d := HandSHeadRun.topDef (OpenLaw.row PySem.Challenge.rw_freetakes_k08_whole_rules_by_their_rests).prog 65) (kwd := []) K08.ob_eq
    (by kernel_rfl) (fun s => by kernel_rfl) K08.run (by kernel_rfl) (by kernel_rfl) (by kernel_rfl) (by rfl) (by first | assumption | decide +kernel) (by decide +kernel) ⟨rfl, rfl, rfl, rfl, rfl, by decide +kernel⟩ ?hw ?hc
  case hw => w_witness2
  case hc =>
    refine law_walk (l := PySem.Challenge.rw_freetakes_k08_whole_rules_by_their_rests) (P := K08.tP) (m := 4000) (n := 63) (jl := 0) (depth := 14) (x := "_law_script") rfl (by decide) (by kernel_rfl) ⟨rfl, by decide, by decide⟩ rfl rfl (by kernel_rfl) rfl (by decide) fun ns hl _ => K08.plain ns
end
