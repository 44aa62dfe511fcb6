import PyProof.Rows.All
import Wide.All
import OpenK.AllK
import Wide.FinOn
import HandS.ForMost
import HandS.ForExc
import HandS.Lambda
import HandS.TupAny
import HandS.TupMul
import HandS.WideBits
import HandS.Wide
import HandS.IsInst
import HandS.Conv
import HandS.SetFor
import HandS.SortInts
import HandS.TupLe
import KE.OsSort
import HandS.Zip
import HandS.Rev
import HandS.ExcIs
import HandS.CallSlots
import HandS.CallLocal
import HandS.Defaults
import HandS.Style
import HandS.HeadHook4
import HandS.HeadWalk
import HandS.Words
import HandS.Head2
import PySem.Challenge.RW_wordhouse_k72_whole_clamps_behind
set_option Elab.async false
set_option linter.all false
set_option maxRecDepth 100000
set_option maxHeartbeats 4000000
/-! Wd, part A: data, the relation of data to values, frames. -/
namespace Wd
open PySem PySem.Spec PyProof.Rows L2

abbrev DKey := Sum Int String
def kd : DKey → Key
  | .inl i => .inl i
  | .inr s => .inr (Str.ofString s)

inductive D where
  | non | bl (b : Bool) | int (i : Int) | str (s : String)
  | tup (xs : List D) | lst (xs : List D) | scr (xs : List D) | dct (ks : List DKey) (xs : List D)
  | ref (i : Nat) | fn (x : String) | ty (n : String)
  | obj (c : String) (fs : List String) (xs : List D)
deriving Inhabited

/-- a tuple that stands in the written part -/
def KT (K : PySem.W.Frag) (a : Addr) (vs : List V) : Prop :=
  ∃ (o : Obj) (its : Array Value) (n : Nat), K.lookup a = some o ∧ o.cls = .type "tuple" ∧ o.data = .seq its n ∧ its.size ≤ sizeLine ∧ Vals vs its.toList
def TupAt (K : PySem.W.Frag) (z : Addr → Prop) (H : Hp) (a : Addr) (vs : List V) : Prop :=
  (H a = some (.tup vs) ∧ ¬ z a) ∨ KT K a vs
def LstAt (z : Addr → Prop) (H : Hp) (a : Addr) (vs : List V) : Prop := H a = some (.lst vs) ∧ ¬ z a
def KL (K : PySem.W.Frag) (a : Addr) (vs : List V) : Prop :=
  ∃ (o : Obj) (its : Array Value) (n : Nat), K.lookup a = some o ∧ o.cls = .type "list" ∧ o.dict = none ∧ o.data = .seq its n ∧ its.size ≤ sizeLine ∧ Vals vs its.toList
def ScrAt (K : PySem.W.Frag) (z : Addr → Prop) (H : Hp) (a : Addr) (vs : List V) : Prop :=
  (Rd H a (.lst vs) ∧ ¬ z a) ∨ KL K a vs
theorem ScrAt.sq {K : PySem.W.Frag} {z : Addr → Prop} {H : Hp} {a : Addr} {vs : List V} (h : ScrAt K z H a vs) : SqL K H a vs :=
  h.elim (fun h => .inl h.1) .inr
theorem TupAt.sq {K : PySem.W.Frag} {z : Addr → Prop} {H : Hp} {a : Addr} {vs : List V} (h : TupAt K z H a vs) : SqT K H a vs :=
  h.elim (fun h => .inl (.inl h.1)) .inr
theorem LstAt.sq {K : PySem.W.Frag} {z : Addr → Prop} {H : Hp} {a : Addr} {vs : List V} (h : LstAt z H a vs) : SqL K H a vs := .inl (.inl h.1)

mutual
def VD (K : PySem.W.Frag) (mg : Str → Option Value) (m : List Addr) (z : Addr → Prop) (H : Hp) : D → V → Prop
  | .non, v => v = .non
  | .bl b, v => v = .bl b
  | .int i, v => v = .int i
  | .str s, v => v = .str (Str.ofString s)
  | .tup xs, v => ∃ a vs, v = .ref a ∧ TupAt K z H a vs ∧ VDs K mg m z H xs vs
  | .lst xs, v => ∃ a vs, v = .ref a ∧ LstAt z H a vs ∧ VDs K mg m z H xs vs
  | .scr xs, v => ∃ a vs, v = .ref a ∧ ScrAt K z H a vs ∧ VDs K mg m z H xs vs
  | .dct ks xs, v => ∃ a vs, v = .ref a ∧ (H a = some (.dK ((ks.map kd).zip vs)) ∧ ¬ z a) ∧ ks.length = vs.length ∧ VDs K mg m z H xs vs
  | .ref i, v => ∃ a, v = .ref a ∧ m[i]? = some a
  | .fn x, v => ∃ u, mg (Str.ofString x) = some u ∧ RelV v u
  | .ty n, v => v = .ty n
  | .obj c fs xs, v => ∃ a C dx vs, v = .ref a ∧ mg (Str.ofString c) = some (.ref C) ∧ (H a = some (.ins C dx ((fs.map Str.ofString).zip vs)) ∧ ¬ z a) ∧ fs.length = vs.length ∧ VDs K mg m z H xs vs
def VDs (K : PySem.W.Frag) (mg : Str → Option Value) (m : List Addr) (z : Addr → Prop) (H : Hp) : List D → List V → Prop
  | [], vs => vs = []
  | d :: ds, vs => ∃ v r, vs = v :: r ∧ VD K mg m z H d v ∧ VDs K mg m z H ds r
end

/-- all tracked stays; but for z and the tables as it was -/
def Ext (z : Addr → Prop) (H H' : Hp) : Prop :=
  ∀ a o, H a = some o → (∃ o', H' a = some o') ∧ (¬ z a → (∀ ps, o ≠ .tbl ps) → H' a = some o)
theorem Ext.refl (z : Addr → Prop) (H : Hp) : Ext z H H := fun a o h => ⟨⟨o, h⟩, fun _ _ => h⟩
theorem Ext.trans {z : Addr → Prop} {H H1 H2 : Hp} (a : Ext z H H1) (b : Ext z H1 H2) : Ext z H H2 := fun c o h => by
  obtain ⟨⟨o1, h1⟩, k1⟩ := a c o h
  obtain ⟨h2, _⟩ := b c o1 h1
  exact ⟨h2, fun n t => (b c o (k1 n t)).2 n t⟩
theorem Ext.mono {z z' : Addr → Prop} {H H' : Hp} (a : Ext z H H') (h : ∀ a, z a → z' a) : Ext z' H H' := fun c o e =>
  ⟨(a c o e).1, fun n t => (a c o e).2 (fun q => n (h c q)) t⟩
theorem Ext.of_same {z : Addr → Prop} {H H' : Hp} (a : Same H H') : Ext z H H' := fun c o h => ⟨⟨o, a c o h⟩, fun _ _ => a c o h⟩

/-- y: what may be changed; it grows by new addresses alone -/
def Step (y : Addr → Prop) (H : Hp) (y' : Addr → Prop) (H' : Hp) : Prop :=
  (∀ a, y' a → y a ∨ H a = none) ∧ Ext y H H'
theorem Step.refl (y : Addr → Prop) (H : Hp) : Step y H y H := ⟨fun _ h => .inl h, Ext.refl y H⟩
theorem Step.trans {y y1 y2 : Addr → Prop} {H H1 H2 : Hp} (a : Step y H y1 H1) (b : Step y1 H1 y2 H2) : Step y H y2 H2 := by
  refine ⟨fun c h => ?_, fun c o h => ?_⟩
  · rcases b.1 c h with h1 | h1
    · exact a.1 c h1
    · right
      cases q : H c with
      | none => rfl
      | some o =>
        obtain ⟨⟨o1, e⟩, _⟩ := a.2 c o q
        rw [e] at h1
        cases h1
  · obtain ⟨⟨o1, h1⟩, k1⟩ := a.2 c o h
    obtain ⟨h2, _⟩ := b.2 c o1 h1
    refine ⟨h2, fun n t => (b.2 c o (k1 n t)).2 (fun q => ?_) t⟩
    rcases a.1 c q with z | z
    · exact n z
    · rw [h] at z
      cases z
theorem Step.of_ext {y : Addr → Prop} {H H' : Hp} (a : Ext y H H') : Step y H y H' := ⟨fun _ h => .inl h, a⟩

theorem Rd.ext {z : Addr → Prop} {H H' : Hp} {a : Addr} {u : HO} (r : Rd H a u) (e : Ext z H H') (n : ¬ z a) (t : ∀ ps, u ≠ .tbl ps) : Rd H' a u := by
  rcases r with r | ⟨o, r⟩
  · exact .inl ((e a _ r).2 n t)
  · exact .inr ⟨o, (e a _ r).2 n fun ps z => by cases z⟩
theorem Rd.some {H : Hp} {a : Addr} {u : HO} (r : Rd H a u) : ∃ o, H a = some o := by
  rcases r with r | ⟨o, r⟩
  · exact ⟨_, r⟩
  · exact ⟨_, r⟩

section
variable {K : PySem.W.Frag} {mg : Str → Option Value} {m m' : List Addr} {y y' f : Addr → Prop} {H H' : Hp}
/-- what of the address a forbidden set says, later -/
theorem nz_step {a : Addr} {o : HO} (s : Step y H y' H') (h : H a = some o) (n : ¬ (f a ∨ y a)) : ¬ (f a ∨ y' a) := by
  rintro (q | q)
  · exact n (.inl q)
  · rcases s.1 a q with z | z
    · exact n (.inr z)
    · rw [h] at z
      cases z
mutual
theorem VD.step (s : Step y H y' H') (hm : ∀ (i : Nat) a, m[i]? = some a → m'[i]? = some a) : ∀ (d : D) {v : V}, VD K mg m (fun a => f a ∨ y a) H d v → VD K mg m' (fun a => f a ∨ y' a) H' d v
  | .non, _, h => by simpa only [VD] using h
  | .bl b, _, h => by simpa only [VD] using h
  | .int i, _, h => by simpa only [VD] using h
  | .str x, _, h => by simpa only [VD] using h
  | .tup xs, _, h => by
    simp only [VD] at h ⊢
    obtain ⟨a, vs, e, t, r⟩ := h
    refine ⟨a, vs, e, ?_, VDs.step s hm xs r⟩
    rcases t with ⟨t, n⟩ | t
    · exact .inl ⟨(s.2 a _ t).2 (fun q => n (.inr q)) (fun ps q => by cases q), nz_step s t n⟩
    · exact .inr t
  | .lst xs, _, h => by
    simp only [VD] at h ⊢
    obtain ⟨a, vs, e, ⟨t, n⟩, r⟩ := h
    exact ⟨a, vs, e, ⟨(s.2 a _ t).2 (fun q => n (.inr q)) (fun ps q => by cases q), nz_step s t n⟩, VDs.step s hm xs r⟩
  | .scr xs, _, h => by
    simp only [VD] at h ⊢
    obtain ⟨a, vs, e, t, r⟩ := h
    refine ⟨a, vs, e, ?_, VDs.step s hm xs r⟩
    rcases t with ⟨t, n⟩ | t
    · obtain ⟨o, ho⟩ := Rd.some t
      exact .inl ⟨Rd.ext t s.2 (fun q => n (.inr q)) (fun ps q => by cases q), nz_step s ho n⟩
    · exact .inr t
  | .dct ks xs, _, h => by
    simp only [VD] at h ⊢
    obtain ⟨a, vs, e, ⟨t, n⟩, l, r⟩ := h
    exact ⟨a, vs, e, ⟨(s.2 a _ t).2 (fun q => n (.inr q)) (fun ps q => by cases q), nz_step s t n⟩, l, VDs.step s hm xs r⟩
  | .ref i, _, h => by
    simp only [VD] at h ⊢
    obtain ⟨a, e, q⟩ := h
    exact ⟨a, e, hm i a q⟩
  | .fn x, _, h => by simpa only [VD] using h
  | .ty n, _, h => by simpa only [VD] using h
  | .obj c fs xs, _, h => by
    simp only [VD] at h ⊢
    obtain ⟨a, C, dx, vs, e, g, ⟨t, n⟩, l, r⟩ := h
    exact ⟨a, C, dx, vs, e, g, ⟨(s.2 a _ t).2 (fun q => n (.inr q)) (fun ps q => by cases q), nz_step s t n⟩, l, VDs.step s hm xs r⟩
theorem VDs.step (s : Step y H y' H') (hm : ∀ (i : Nat) a, m[i]? = some a → m'[i]? = some a) : ∀ (ds : List D) {vs : List V}, VDs K mg m (fun a => f a ∨ y a) H ds vs → VDs K mg m' (fun a => f a ∨ y' a) H' ds vs
  | [], _, h => by simpa only [VDs] using h
  | d :: ds, _, h => by
    simp only [VDs] at h ⊢
    obtain ⟨v, r, e, h1, h2⟩ := h
    exact ⟨v, r, e, VD.step s hm d h1, VDs.step s hm ds h2⟩
end
mutual
/-- another forbidden set that says no more of what stands there -/
theorem VD.imp {z z' : Addr → Prop} (hz : ∀ a o, H a = some o → z' a → z a) : ∀ (d : D) {v : V}, VD K mg m z H d v → VD K mg m z' H d v
  | .non, _, h => by simpa only [VD] using h
  | .bl b, _, h => by simpa only [VD] using h
  | .int i, _, h => by simpa only [VD] using h
  | .str x, _, h => by simpa only [VD] using h
  | .tup xs, _, h => by
    simp only [VD] at h ⊢
    obtain ⟨a, vs, e, t, r⟩ := h
    refine ⟨a, vs, e, ?_, VDs.imp hz xs r⟩
    rcases t with ⟨t, n⟩ | t
    · exact .inl ⟨t, fun q => n (hz a _ t q)⟩
    · exact .inr t
  | .lst xs, _, h => by
    simp only [VD] at h ⊢
    obtain ⟨a, vs, e, ⟨t, n⟩, r⟩ := h
    exact ⟨a, vs, e, ⟨t, fun q => n (hz a _ t q)⟩, VDs.imp hz xs r⟩
  | .scr xs, _, h => by
    simp only [VD] at h ⊢
    obtain ⟨a, vs, e, t, r⟩ := h
    refine ⟨a, vs, e, ?_, VDs.imp hz xs r⟩
    rcases t with ⟨t, n⟩ | t
    · obtain ⟨o, ho⟩ := Rd.some t
      exact .inl ⟨t, fun q => n (hz a o ho q)⟩
    · exact .inr t
  | .dct ks xs, _, h => by
    simp only [VD] at h ⊢
    obtain ⟨a, vs, e, ⟨t, n⟩, l, r⟩ := h
    exact ⟨a, vs, e, ⟨t, fun q => n (hz a _ t q)⟩, l, VDs.imp hz xs r⟩
  | .ref i, _, h => by simpa only [VD] using h
  | .fn x, _, h => by simpa only [VD] using h
  | .ty n, _, h => by simpa only [VD] using h
  | .obj c fs xs, _, h => by
    simp only [VD] at h ⊢
    obtain ⟨a, C, dx, vs, e, g, ⟨t, n⟩, l, r⟩ := h
    exact ⟨a, C, dx, vs, e, g, ⟨t, fun q => n (hz a _ t q)⟩, l, VDs.imp hz xs r⟩
theorem VDs.imp {z z' : Addr → Prop} (hz : ∀ a o, H a = some o → z' a → z a) : ∀ (ds : List D) {vs : List V}, VDs K mg m z H ds vs → VDs K mg m z' H ds vs
  | [], _, h => by simpa only [VDs] using h
  | d :: ds, _, h => by
    simp only [VDs] at h ⊢
    obtain ⟨v, r, e, h1, h2⟩ := h
    exact ⟨v, r, e, VD.imp hz d h1, VDs.imp hz ds h2⟩
end
theorem VDs.length {z : Addr → Prop} : ∀ {ds : List D} {vs : List V}, VDs K mg m z H ds vs → ds.length = vs.length
  | [], _, h => by simp only [VDs] at h; rw [h]; rfl
  | d :: ds, _, h => by
    simp only [VDs] at h
    obtain ⟨v, r, e, _, h2⟩ := h
    rw [e, List.length_cons, List.length_cons, VDs.length h2]
theorem VDs.nil {z : Addr → Prop} : VDs K mg m z H [] [] := by simp only [VDs]
theorem VDs.cons {z : Addr → Prop} {d : D} {v : V} {ds : List D} {vs : List V} (h : VD K mg m z H d v) (t : VDs K mg m z H ds vs) : VDs K mg m z H (d :: ds) (v :: vs) := by
  simp only [VDs]
  exact ⟨v, vs, rfl, h, t⟩
theorem VDs.inv {z : Addr → Prop} {d : D} {ds : List D} {vs : List V} (h : VDs K mg m z H (d :: ds) vs) : ∃ v r, vs = v :: r ∧ VD K mg m z H d v ∧ VDs K mg m z H ds r := by
  simpa only [VDs] using h
theorem VDs.get {z : Addr → Prop} : ∀ {ds : List D} {vs : List V} (i : Nat) {d : D}, VDs K mg m z H ds vs → ds[i]? = some d → ∃ v, vs[i]? = some v ∧ VD K mg m z H d v
  | [], _, _, _, _, e => by simp at e
  | d :: ds, _, 0, d', h, e => by
    obtain ⟨v, r, e1, h1, h2⟩ := h.inv
    simp at e
    subst e e1
    exact ⟨v, rfl, h1⟩
  | d :: ds, _, i + 1, d', h, e => by
    obtain ⟨v, r, e1, h1, h2⟩ := h.inv
    subst e1
    obtain ⟨w, q1, q2⟩ := VDs.get i h2 (by simpa using e)
    exact ⟨w, by simpa using q1, q2⟩
theorem VDs.append {z : Addr → Prop} : ∀ {ds es : List D} {vs ws : List V}, VDs K mg m z H ds vs → VDs K mg m z H es ws → VDs K mg m z H (ds ++ es) (vs ++ ws)
  | [], _, _, _, h, t => by simp only [VDs] at h; subst h; exact t
  | d :: ds, es, _, ws, h, t => by
    obtain ⟨v, r, e1, h1, h2⟩ := h.inv
    subst e1
    exact .cons h1 (VDs.append h2 t)
theorem VDs.take {z : Addr → Prop} : ∀ {ds : List D} {vs : List V} (n : Nat), VDs K mg m z H ds vs → VDs K mg m z H (ds.take n) (vs.take n)
  | [], _, n, h => by simp only [VDs] at h; subst h; simpa using VDs.nil
  | d :: ds, _, 0, h => VDs.nil
  | d :: ds, _, n + 1, h => by
    obtain ⟨v, r, e1, h1, h2⟩ := h.inv
    subst e1
    exact .cons h1 (VDs.take n h2)
theorem VDs.drop {z : Addr → Prop} : ∀ {ds : List D} {vs : List V} (n : Nat), VDs K mg m z H ds vs → VDs K mg m z H (ds.drop n) (vs.drop n)
  | [], _, n, h => by simp only [VDs] at h; subst h; simpa using VDs.nil
  | d :: ds, vs, 0, h => h
  | d :: ds, _, n + 1, h => by
    obtain ⟨v, r, e1, h1, h2⟩ := h.inv
    subst e1
    exact VDs.drop n h2
theorem VDs.set {z : Addr → Prop} {d : D} {v : V} (hd : VD K mg m z H d v) : ∀ {ds : List D} {vs : List V} (n : Nat), VDs K mg m z H ds vs → VDs K mg m z H (ds.set n d) (vs.set n v)
  | [], _, n, h => by simp only [VDs] at h; subst h; simpa using VDs.nil
  | d' :: ds, _, 0, h => by
    obtain ⟨v, r, e1, h1, h2⟩ := h.inv
    subst e1
    exact .cons hd h2
  | d' :: ds, _, n + 1, h => by
    obtain ⟨v, r, e1, h1, h2⟩ := h.inv
    subst e1
    exact .cons h1 (VDs.set hd n h2)
theorem VDs.reverse {z : Addr → Prop} : ∀ {ds : List D} {vs : List V}, VDs K mg m z H ds vs → VDs K mg m z H ds.reverse vs.reverse
  | [], _, h => by simp only [VDs] at h; subst h; simpa using VDs.nil
  | d :: ds, _, h => by
    obtain ⟨v, r, e1, h1, h2⟩ := h.inv
    subst e1
    rw [List.reverse_cons, List.reverse_cons]
    exact (VDs.reverse h2).append (.cons h1 .nil)
end

/-! ### slots, cells, results -/
/-- a slot: without a value, with a value, with a list of its own -/
inductive Sl where
  | un | pl (d : D) | ow (xs : List D) | raw
abbrev GS := List (List D)
abbrev SS := List Sl
inductive Res (α : Type) where
  | ok (a : α) (G : GS) | exc (c : String) (p : Option (String × D)) (G : GS) | fail

/-- a frame: constants, and what stood at its entry -/
structure Fr where
  K : PySem.W.Frag
  mg : Str → Option Value
  T : List (Addr × Str)
  m : List Addr
  f : Addr → Prop
  H : Hp
  rv : V

abbrev Fr.vd (Φ : Fr) (m : List Addr) (y : Addr → Prop) (H : Hp) (d : D) (v : V) : Prop := VD Φ.K Φ.mg m (fun a => Φ.f a ∨ y a) H d v
abbrev Fr.vds (Φ : Fr) (m : List Addr) (y : Addr → Prop) (H : Hp) (d : List D) (v : List V) : Prop := VDs Φ.K Φ.mg m (fun a => Φ.f a ∨ y a) H d v

structure RelH (Φ : Fr) (m : List Addr) (y : Addr → Prop) (G : GS) (H : Hp) : Prop where
  cl : ∀ (i : Nat) xs, G[i]? = some xs → ∃ a vs, m[i]? = some a ∧ H a = some (.lst vs) ∧ Φ.vds m y H xs vs
  ml : m.length = G.length
  mn : m.Nodup
  my : ∀ a ∈ m, y a
  yd : ∀ a, y a → ∃ o, H a = some o
  fd : ∀ a, Φ.f a → ∃ o, H a = some o
  fy : ∀ a, Φ.f a → ¬ y a
  mp : ∃ t, m = Φ.m ++ t ∧ ∀ a ∈ t, Φ.H a = none
  st : Step (fun a => a ∈ Φ.m) Φ.H y H
  tb : LamX.Tabs Φ.T H

structure Rel (Φ : Fr) (m : List Addr) (y : Addr → Prop) (S : SS) (G : GS) (σ : L2.St) (H : Hp) : Prop extends RelH Φ m y G H where
  ln : S.length = σ.length
  sl : ∀ (i : Nat) d, S[i]? = some (.pl d) → ∃ v, σ[i]? = some (some v) ∧ Φ.vd m y H d v
  ow : ∀ (i : Nat) xs, S[i]? = some (.ow xs) → ∃ a vs, σ[i]? = some (some (.ref a)) ∧ H a = some (.lst vs) ∧ Φ.vds m y H xs vs ∧ y a ∧ a ∉ m ∧ Φ.H a = none
  oi : ∀ (i j : Nat) xs zs a, S[i]? = some (.ow xs) → S[j]? = some (.ow zs) → σ[i]? = some (some (.ref a)) → σ[j]? = some (some (.ref a)) → i = j
  raw : ∀ (i : Nat), S[i]? = some .raw → σ[i]? = some (some Φ.rv)

theorem raw_set {S : SS} {σ : L2.St} {u : V} (h : ∀ (i : Nat), S[i]? = some .raw → σ[i]? = some (some u)) (i : Nat) (s : Sl) (n : s ≠ .raw) : ∀ (j : Nat), (S.set i s)[j]? = some .raw → σ[j]? = some (some u) := fun j e => by
  by_cases hj : j = i
  · subst hj
    by_cases hl : j < S.length
    · rw [List.getElem?_set_self hl] at e
      exact absurd (Option.some.inj e) n
    · rw [List.getElem?_eq_none (by rw [List.length_set]; omega)] at e
      cases e
  · rw [List.getElem?_set_ne (Ne.symm hj)] at e
    exact h j e
section
variable {Φ : Fr} {m m' : List Addr} {y y' : Addr → Prop} {S : SS} {G G' : GS} {σ : L2.St} {H H' : Hp}
theorem Fr.vd.step {d : D} {v : V} (h : Φ.vd m y H d v) (s : Step y H y' H') (hm : ∀ (i : Nat) a, m[i]? = some a → m'[i]? = some a) : Φ.vd m' y' H' d v := VD.step s hm d h
theorem Fr.vds.step {d : List D} {v : List V} (h : Φ.vds m y H d v) (s : Step y H y' H') (hm : ∀ (i : Nat) a, m[i]? = some a → m'[i]? = some a) : Φ.vds m' y' H' d v := VDs.step s hm d h
/-- behind an expression -/
theorem vd_ext {d : D} {v : V} (h : Φ.vd m y H d v) (e : Ext (fun a => a ∈ m) H H') (my : ∀ a ∈ m, y a) : Φ.vd m y H' d v := VD.step (Step.of_ext (e.mono my)) (fun _ _ h => h) d h
theorem vds_ext {d : List D} {v : List V} (h : Φ.vds m y H d v) (e : Ext (fun a => a ∈ m) H H') (my : ∀ a ∈ m, y a) : Φ.vds m y H' d v := VDs.step (Step.of_ext (e.mono my)) (fun _ _ h => h) d h
theorem vd_same {d : D} {v : V} (h : Φ.vd m y H d v) (e : Same H H') : Φ.vd m y H' d v := VD.step (Step.of_ext (Ext.of_same e)) (fun _ _ h => h) d h
theorem vds_same {d : List D} {v : List V} (h : Φ.vds m y H d v) (e : Same H H') : Φ.vds m y H' d v := VDs.step (Step.of_ext (Ext.of_same e)) (fun _ _ h => h) d h
/-- nothing that is tracked changes -/
theorem RelH.same (r : RelH Φ m y G H) (e : Same H H') : RelH Φ m y G H' where
  cl := fun i xs h => by
    obtain ⟨a, vs, h1, h2, h3⟩ := r.cl i xs h
    exact ⟨a, vs, h1, e _ _ h2, vds_same h3 e⟩
  ml := r.ml
  mn := r.mn
  my := r.my
  yd := fun a h => let ⟨o, q⟩ := r.yd a h; ⟨o, e _ _ q⟩
  fd := fun a h => let ⟨o, q⟩ := r.fd a h; ⟨o, e _ _ q⟩
  fy := r.fy
  mp := r.mp
  st := Step.trans r.st (Step.of_ext (Ext.of_same e))
  tb := r.tb.ext e
theorem Rel.same (r : Rel Φ m y S G σ H) (e : Same H H') : Rel Φ m y S G σ H' where
  toRelH := r.toRelH.same e
  ln := r.ln
  raw := r.raw
  sl := fun i d h => by
    obtain ⟨v, h1, h2⟩ := r.sl i d h
    exact ⟨v, h1, vd_same h2 e⟩
  ow := fun i xs h => by
    obtain ⟨a, vs, h1, h2, h3, h4⟩ := r.ow i xs h
    exact ⟨a, vs, h1, e _ _ h2, vds_same h3 e, h4⟩
  oi := r.oi
/-- an exception's class and what it bears -/
def Exn (Φ : Fr) (m : List Addr) (y : Addr → Prop) (H : Hp) (c : String) (p : Option (String × D)) (cls : Value) (d : Option Addr) : Prop :=
  ∃ C, Φ.mg (Str.ofString c) = some (.ref C) ∧ cls = .ref C ∧ match p with
    | none => d = none
    | some (f, x) => ∃ dd v, d = some dd ∧ H dd = some (.xd [(Str.ofString f, v)]) ∧ Φ.vd m y H x v

/-- an expression's outcome -/
def Out {α : Type} (Φ : Fr) (W : WX) (m : List Addr) (y : Addr → Prop) (S : SS) (σ : L2.St) (H : Hp) (r : Res α) (P : α → Hp → Prop) : Prop :=
  match r with
  | .ok a G' => ∀ H', Rel Φ m y S G' σ H' → Ext (fun a => a ∈ m) H H' → P a H'
  | .exc c p G' => ∀ cls d H', Exn Φ m y H' c p cls d → Rel Φ m y S G' σ H' → Ext (fun a => a ∈ m) H H' → W cls d σ H'
  | .fail => False
theorem Out.mono {α : Type} {W : WX} {r : Res α} {P : α → Hp → Prop} (h : Out Φ W m y S σ H r P) (e : Ext (fun a => a ∈ m) H H') : Out Φ W m y S σ H' r P := by
  cases r with
  | ok a G => exact fun H2 r2 e2 => h H2 r2 (e.trans e2)
  | exc c p G => exact fun cls d H2 x r2 e2 => h cls d H2 x r2 (e.trans e2)
  | fail => exact h
end

def Res.bind {α β : Type} : Res α → (α → GS → Res β) → Res β
  | .ok a G, f => f a G
  | .exc c p G, _ => .exc c p G
  | .fail, _ => .fail
def opt {α : Type} : Option α → GS → Res α
  | some a, G => .ok a G
  | none, _ => .fail
abbrev FE := SS → GS → Res D
abbrev FT := SS → GS → Res Bool
abbrev FA := SS → GS → Res (List D)
section
variable {α β : Type} {a : α} {G : GS} {f : α → GS → Res β} {c : String} {p : Option (String × D)}
@[simp] theorem bind_ok : (Res.ok a G).bind f = f a G := rfl
@[simp] theorem bind_exc : (Res.exc c p G : Res α).bind f = .exc c p G := rfl
@[simp] theorem bind_fail : (Res.fail : Res α).bind f = .fail := rfl
@[simp] theorem opt_some : opt (some a) G = .ok a G := rfl
@[simp] theorem opt_none : (opt (none : Option α) G) = .fail := rfl
end
section
variable {Φ : Fr} {m : List Addr} {y : Addr → Prop} {S : SS} {σ : L2.St} {H : Hp} {W : WX}
theorem Out.bind {α β : Type} {r : Res α} {k : α → GS → Res β} {P : β → Hp → Prop} (h : Out Φ W m y S σ H (r.bind k) P) {P' : α → Hp → Prop}
    (hk : ∀ a G' H', r = .ok a G' → Rel Φ m y S G' σ H' → Ext (fun a => a ∈ m) H H' → Out Φ W m y S σ H' (k a G') P → P' a H') : Out Φ W m y S σ H r P' := by
  cases r with
  | ok a G => exact fun H2 r2 e2 => hk a G H2 rfl r2 e2 (Out.mono h e2)
  | exc c p G => exact h
  | fail => exact h
theorem Out.opt_ {α : Type} {o : Option α} {G : GS} {P : α → Hp → Prop} (h : Out Φ W m y S σ H (opt o G) P) : ∃ a, o = some a ∧ ∀ H', Rel Φ m y S G σ H' → Ext (fun a => a ∈ m) H H' → P a H' := by
  cases o with
  | some a => exact ⟨a, rfl, h⟩
  | none => exact h.elim
end

/-! ### readings -/
def rdE (Φ : Fr) (W : WX) (f : FE) : TE := fun σ H Q => ∃ m y S G, Rel Φ m y S G σ H ∧ Out Φ W m y S σ H (f S G) fun d H' => ∀ v, Φ.vd m y H' d v → Q v H'
def rdT (Φ : Fr) (W : WX) (f : FT) : TT := fun σ H Q => ∃ m y S G, Rel Φ m y S G σ H ∧ Out Φ W m y S σ H (f S G) fun b H' => Q b H'
def rdA (Φ : Fr) (W : WX) (f : FA) : TA := fun σ H Q => ∃ m y S G, Rel Φ m y S G σ H ∧ Out Φ W m y S σ H (f S G) fun ds H' => ∀ vs, Φ.vds m y H' ds vs → Q vs H'
/-- one more that may be changed -/
def yp (y : Addr → Prop) (a : Addr) : Addr → Prop := fun b => y b ∨ b = a
section
variable {Φ : Fr} {m : List Addr} {y : Addr → Prop} {S : SS} {G : GS} {σ : L2.St} {H H' : Hp} {p : Addr}
/-- a new place is seen by no value -/
theorem vd_yp {d : D} {v : V} (h : Φ.vd m y H d v) (e : Same H H') (n : H p = none) : Φ.vd m (yp y p) H' d v :=
  VD.step (y' := yp y p) ⟨fun a q => q.imp id (fun z => by rw [z]; exact n), Ext.of_same e⟩ (fun _ _ h => h) d h
theorem vds_yp {d : List D} {v : List V} (h : Φ.vds m y H d v) (e : Same H H') (n : H p = none) : Φ.vds m (yp y p) H' d v :=
  VDs.step (y' := yp y p) ⟨fun a q => q.imp id (fun z => by rw [z]; exact n), Ext.of_same e⟩ (fun _ _ h => h) d h
theorem RelH.own (r : RelH Φ m y G H) (e : Same H H') (n : H p = none) {o : HO} (t : H' p = some o) : RelH Φ m (yp y p) G H' where
  cl := fun i xs h => by
    obtain ⟨a, vs, h1, h2, h3⟩ := r.cl i xs h
    exact ⟨a, vs, h1, e _ _ h2, vds_yp h3 e n⟩
  ml := r.ml
  mn := r.mn
  my := fun a h => .inl (r.my a h)
  yd := fun a h => by
    rcases h with h | h
    · obtain ⟨o, q⟩ := r.yd a h
      exact ⟨o, e _ _ q⟩
    · rw [h]
      exact ⟨o, t⟩
  fd := fun a h => let ⟨o, q⟩ := r.fd a h; ⟨o, e _ _ q⟩
  fy := fun a h q => by
    rcases q with q | q
    · exact r.fy a h q
    · obtain ⟨o', q'⟩ := r.fd a h
      rw [q, n] at q'
      cases q'
  mp := r.mp
  st := ⟨fun a h => by
    rcases h with h | h
    · exact r.st.1 a h
    · right
      cases q : Φ.H a with
      | none => rfl
      | some u =>
        obtain ⟨⟨o', e'⟩, _⟩ := r.st.2 a u q
        rw [h, n] at e'
        exact (nomatch e'), (r.st.2).trans (Ext.of_same e)⟩
  tb := r.tb.ext e
theorem Rel.own (r : Rel Φ m y S G σ H) (e : Same H H') (n : H p = none) {o : HO} (t : H' p = some o) : Rel Φ m (yp y p) S G σ H' where
  toRelH := r.toRelH.own e n t
  ln := r.ln
  raw := r.raw
  sl := fun i d h => by
    obtain ⟨v, h1, h2⟩ := r.sl i d h
    exact ⟨v, h1, vd_yp h2 e n⟩
  ow := fun i xs h => by
    obtain ⟨a, vs, h1, h2, h3, h4, h5⟩ := r.ow i xs h
    exact ⟨a, vs, h1, e _ _ h2, vds_yp h3 e n, .inl h4, h5⟩
  oi := r.oi
/-- fewer that may be changed -/
theorem RelH.less {y' : Addr → Prop} (r : RelH Φ m y G H) (hy : ∀ a, y' a → y a) (hm : ∀ a ∈ m, y' a) : RelH Φ m y' G H where
  cl := fun i xs h => by
    obtain ⟨a, vs, h1, h2, h3⟩ := r.cl i xs h
    exact ⟨a, vs, h1, h2, VDs.imp (fun b o _ q => q.imp id (hy b)) xs h3⟩
  ml := r.ml
  mn := r.mn
  my := hm
  yd := fun a h => r.yd a (hy a h)
  fd := r.fd
  fy := fun a h q => r.fy a h (hy a q)
  mp := r.mp
  st := ⟨fun a h => r.st.1 a (hy a h), r.st.2⟩
  tb := r.tb
theorem Rel.less {y' : Addr → Prop} (r : Rel Φ m y S G σ H) (hy : ∀ a, y' a → y a) (hm : ∀ a ∈ m, y' a) (ho : ∀ (i : Nat) xs a, S[i]? = some (.ow xs) → σ[i]? = some (some (.ref a)) → y' a) : Rel Φ m y' S G σ H where
  toRelH := r.toRelH.less hy hm
  ln := r.ln
  raw := r.raw
  sl := fun i d h => by
    obtain ⟨v, h1, h2⟩ := r.sl i d h
    exact ⟨v, h1, VD.imp (fun b o _ q => q.imp id (hy b)) d h2⟩
  ow := fun i xs h => by
    obtain ⟨a, vs, h1, h2, h3, h4, h5⟩ := r.ow i xs h
    exact ⟨a, vs, h1, h2, VDs.imp (fun b o _ q => q.imp id (hy b)) xs h3, ho i xs a h h1, h5⟩
  oi := r.oi
end
/-- a list that is just made: no one else holds it -/
def OutO (Φ : Fr) (W : WX) (m : List Addr) (y : Addr → Prop) (S : SS) (σ : L2.St) (H : Hp) (r : Res (List D)) (Q : VK) : Prop :=
  match r with
  | .ok ds G' => ∀ a vs H', H a = none → H' a = some (.lst vs) → Rel Φ m (yp y a) S G' σ H' → Ext (fun a => a ∈ m) H H' → Φ.vds m (yp y a) H' ds vs → Q (.ref a) H'
  | .exc c p G' => ∀ cls d H', Exn Φ m y H' c p cls d → Rel Φ m y S G' σ H' → Ext (fun a => a ∈ m) H H' → W cls d σ H'
  | .fail => False
def rdO (Φ : Fr) (W : WX) (f : FA) : TE := fun σ H Q => ∃ m y S G, Rel Φ m y S G σ H ∧ OutO Φ W m y S σ H (f S G) Q
theorem free_ext {z : Addr → Prop} {H H' : Hp} {p : Addr} (e : Ext z H H') (n : H' p = none) : H p = none := by
  cases q : H p with
  | none => rfl
  | some u =>
    obtain ⟨⟨o', e'⟩, _⟩ := e p u q
    rw [n] at e'
    cases e'
section
variable {Φ : Fr} {m : List Addr} {y : Addr → Prop} {S : SS} {σ : L2.St} {H H' : Hp} {W : WX}
theorem OutO.mono {r : Res (List D)} {Q : VK} (h : OutO Φ W m y S σ H r Q) (e : Ext (fun a => a ∈ m) H H') : OutO Φ W m y S σ H' r Q := by
  cases r with
  | ok ds G => exact fun a vs H2 n t r2 e2 vd => h a vs H2 (free_ext e n) t r2 (e.trans e2) vd
  | exc c p G => exact fun cls d H2 x r2 e2 => h cls d H2 x r2 (e.trans e2)
  | fail => exact h
theorem OutO.bind {α : Type} {r : Res α} {k : α → GS → Res (List D)} {Q : VK} (h : OutO Φ W m y S σ H (r.bind k) Q) {P' : α → Hp → Prop}
    (hk : ∀ a G' H', r = .ok a G' → Rel Φ m y S G' σ H' → Ext (fun a => a ∈ m) H H' → OutO Φ W m y S σ H' (k a G') Q → P' a H') : Out Φ W m y S σ H r P' := by
  cases r with
  | ok a G => exact fun H2 r2 e2 => hk a G H2 rfl r2 e2 (OutO.mono h e2)
  | exc c p G => exact h
  | fail => exact h
theorem OutO.opt_ {o : Option (List D)} {G : GS} {Q : VK} (h : OutO Φ W m y S σ H (opt o G) Q) : ∃ ds, o = some ds ∧ OutO Φ W m y S σ H (.ok ds G) Q := by
  cases o with
  | some a => exact ⟨a, rfl, h⟩
  | none => exact h.elim
/-- a new place, and nothing else has changed -/
theorem OutO.here {ds : List D} {G : GS} {Q : VK} (h : OutO Φ W m y S σ H (.ok ds G) Q) (r : Rel Φ m y S G σ H) {p : Addr} {vs : List V} (e : Same H H') (n : H p = none) (t : H' p = some (.lst vs)) (d : Φ.vds m y H ds vs) : Q (.ref p) H' :=
  h p vs H' n t (r.own e n t) (Ext.of_same e) (vds_yp d e n)
end

theorem PE.imp {X : Cx} {e : Expr} {t t' : TE} (h : PE X e t) (i : ∀ σ H Q, t' σ H Q → t σ H Q) : PE X e t' := ⟨fun pins s σ H Q I q => h.run pins s σ H Q I (i _ _ _ q)⟩
theorem PT.imp {X : Cx} {e : Expr} {t t' : TT} (h : PT X e t) (i : ∀ σ H Q, t' σ H Q → t σ H Q) : PT X e t' := ⟨fun pins s σ H Q I q => h.run pins s σ H Q I (i _ _ _ q)⟩
theorem PA.imp {X : Cx} {e : List Expr} {t t' : TA} (h : PA X e t) (i : ∀ σ H Q, t' σ H Q → t σ H Q) : PA X e t' := ⟨fun pos pins s σ H Q I q => h.run pos pins s σ H Q I (i _ _ _ q)⟩
theorem PS.imp {X : Cx} {e : Stmt} {t t' : TS} (h : PS X e t) (i : ∀ D σ H, t' D σ H → t D σ H) : PS X e t' := ⟨fun pins s σ H D I q => h.run pins s σ H D I (i _ _ _ q)⟩
theorem PSs.imp {X : Cx} {e : List Stmt} {t t' : TS} (h : PSs X e t) (i : ∀ D σ H, t' D σ H → t D σ H) : PSs X e t' := ⟨fun pins s σ H D I q => h.run pins s σ H D I (i _ _ _ q)⟩

abbrev EE (Φ : Fr) (X : Cx) (W : WX) (e : Expr) (f : FE) : Prop := PE X e (rdE Φ W f)
abbrev ET (Φ : Fr) (X : Cx) (W : WX) (e : Expr) (f : FT) : Prop := PT X e (rdT Φ W f)
abbrev EA (Φ : Fr) (X : Cx) (W : WX) (e : List Expr) (f : FA) : Prop := PA X e (rdA Φ W f)
abbrev EO (Φ : Fr) (X : Cx) (W : WX) (e : Expr) (f : FA) : Prop := PE X e (rdO Φ W f)
end Wd
/-! Wd, part B: expressions. -/
namespace Wd
open PySem PySem.Spec PyProof.Rows L2

/-- the frame's constants are the context's -/
structure Fits (Φ : Fr) (X : Cx) : Prop where
  K : X.K = Φ.K
  mg : X.mg = Φ.mg

/-! ### operations by values -/
abbrev G2 := GS → D → D → Option D
abbrev GN := GS → List D → Option D
def rd2 (Φ : Fr) (g : G2) : R2 := fun v w H Q => ∃ m y G a b d, RelH Φ m y G H ∧ Φ.vd m y H a v ∧ Φ.vd m y H b w ∧ g G a b = some d ∧ ∀ u H', Same H H' → Φ.vd m y H' d u → Q u H'
def rd1 (Φ : Fr) (g : GS → D → Option D) : V → Hp → VK → Prop := fun v H Q => ∃ m y G a d, RelH Φ m y G H ∧ Φ.vd m y H a v ∧ g G a = some d ∧ ∀ u H', Same H H' → Φ.vd m y H' d u → Q u H'
def rdN (Φ : Fr) (g : GN) : List V → Hp → VK → Prop := fun vs H Q => ∃ m y G as d, RelH Φ m y G H ∧ Φ.vds m y H as vs ∧ g G as = some d ∧ ∀ u H', Same H H' → Φ.vd m y H' d u → Q u H'
/-- .. that make a list -/
def rdNO (Φ : Fr) (g : GS → List D → Option (List D)) : List V → Hp → VK → Prop := fun vs H Q => ∃ m y G as ds, RelH Φ m y G H ∧ Φ.vds m y H as vs ∧ g G as = some ds ∧ ∀ a ws H', Same H H' → H a = none → H' a = some (.lst ws) → Φ.vds m y H ds ws → Q (.ref a) H'
def rd2O (Φ : Fr) (g : GS → D → D → Option (List D)) : R2 := fun v w H Q => ∃ m y G a b ds, RelH Φ m y G H ∧ Φ.vd m y H a v ∧ Φ.vd m y H b w ∧ g G a b = some ds ∧ ∀ p ws H', Same H H' → H p = none → H' p = some (.lst ws) → Φ.vds m y H ds ws → Q (.ref p) H'

/-! ### functions of slots and cells -/
def fVar (i : Nat) : FE := fun S G => match S[i]? with
  | some (.pl d) => .ok d G
  | _ => .fail
def fC (d : D) : FE := fun _ G => .ok d G
def fBin (g : G2) (a b : FE) : FE := fun S G => (a S G).bind fun x G => (b S G).bind fun y G => opt (g G x y) G
def fUn (g : GS → D → Option D) (a : FE) : FE := fun S G => (a S G).bind fun x G => opt (g G x) G
def fNil : FA := fun _ G => .ok [] G
def fCons (a : FE) (r : FA) : FA := fun S G => (a S G).bind fun x G => (r S G).bind fun xs G => .ok (x :: xs) G
def fB (g : GN) (a : FA) : FE := fun S G => (a S G).bind fun xs G => opt (g G xs) G
def fBO (g : GS → List D → Option (List D)) (a : FA) : FA := fun S G => (a S G).bind fun xs G => opt (g G xs) G
def fBinO (g : GS → D → D → Option (List D)) (a b : FE) : FA := fun S G => (a S G).bind fun x G => (b S G).bind fun y G => opt (g G x y) G
def fTup (a : FA) : FE := fun S G => (a S G).bind fun xs G => if xs.length ≤ 16777216 then .ok (.tup xs) G else .fail
def fDisp (a : FA) : FA := fun S G => (a S G).bind fun xs G => if xs.length ≤ 16777216 then .ok xs G else .fail
/-- a list that is just made is a value -/
def fz (a : FA) : FE := fun S G => (a S G).bind fun xs G => .ok (.lst xs) G
def asB : D → Option Bool
  | .bl b => some b
  | _ => none
def dTru (G : GS) : D → Option Bool
  | .non => some false
  | .bl b => some b
  | .int i => some (i != 0)
  | .tup xs => some (!xs.isEmpty)
  | .lst xs => some (!xs.isEmpty)
  | .scr xs => some (!xs.isEmpty)
  | _ => none
def tVal (a : FE) : FT := fun S G => (a S G).bind fun x G => opt (asB x) G
def tTru (a : FE) : FT := fun S G => (a S G).bind fun x G => opt (dTru G x) G
def tAndF (a b : FT) : FT := fun S G => (a S G).bind fun c G => if c then b S G else .ok false G
def tOrF (a b : FT) : FT := fun S G => (a S G).bind fun c G => if c then .ok true G else b S G
def tNotF (a : FT) : FT := fun S G => (a S G).bind fun c G => .ok (!c) G
/-- and, or as values: all but the last truths -/
def eAndF (a b : FE) : FE := fun S G => (a S G).bind fun x G => (opt (asB x) G).bind fun c G => if c then b S G else .ok (.bl false) G
def eOrF (a b : FE) : FE := fun S G => (a S G).bind fun x G => (opt (asB x) G).bind fun c G => if c then .ok (.bl true) G else b S G
def eNotF (a : FE) : FE := fun S G => (a S G).bind fun x G => (opt (asB x) G).bind fun c G => .ok (.bl (!c)) G
def eIfF (t : FT) (a b : FE) : FE := fun S G => (t S G).bind fun c G => if c then a S G else b S G
/-- a op b op' c -/
def eChain (g g' : G2) (a b c : FE) : FE := fun S G => (a S G).bind fun x G => (b S G).bind fun y G => (opt ((g G x y).bind asB) G).bind fun k G =>
  if k then (c S G).bind fun z G => opt (g' G y z) G else .ok (.bl false) G

section
variable {Φ : Fr} {X : Cx} {W : WX} {σ : L2.St} {H : Hp} {a b c : Expr} {fa fb fc : FE} {pos : Pos} {Q : VK}

theorem two {g : G2} (h : rdE Φ W (fBin g fa fb) σ H Q) : rdE Φ W fa σ H fun v H1 => rdE Φ W fb σ H1 fun w H2 => rd2 Φ g v w H2 Q := by
  obtain ⟨m, y, S, G, r, o⟩ := h
  refine ⟨m, y, S, G, r, Out.bind o fun x G1 H1 _ r1 e1 o1 v vd => ⟨m, y, S, G1, r1, Out.bind o1 fun z G2 H2 _ r2 e2 o2 w wd => ?_⟩⟩
  obtain ⟨d, hd, o3⟩ := Out.opt_ o2
  exact ⟨m, y, G2, x, z, d, r2.toRelH, vd_ext vd e2 r2.my, wd, hd, fun u H3 s3 ud => o3 H3 (r2.same s3) (Ext.of_same s3) u ud⟩
theorem twoO {g : GS → D → D → Option (List D)} (h : rdO Φ W (fBinO g fa fb) σ H Q) : rdE Φ W fa σ H fun v H1 => rdE Φ W fb σ H1 fun w H2 => rd2O Φ g v w H2 Q := by
  obtain ⟨m, y, S, G, r, o⟩ := h
  refine ⟨m, y, S, G, r, OutO.bind o fun x G1 H1 _ r1 e1 o1 v vd => ⟨m, y, S, G1, r1, OutO.bind o1 fun z G2 H2 _ r2 e2 o2 w wd => ?_⟩⟩
  obtain ⟨d, hd, o3⟩ := OutO.opt_ o2
  exact ⟨m, y, G2, x, z, d, r2.toRelH, vd_ext vd e2 r2.my, wd, hd, fun p ws H3 s3 np hp ud => o3.here r2 s3 np hp ud⟩
theorem one1 {g : GS → D → Option D} (h : rdE Φ W (fUn g fa) σ H Q) : rdE Φ W fa σ H fun v H1 => rd1 Φ g v H1 Q := by
  obtain ⟨m, y, S, G, r, o⟩ := h
  refine ⟨m, y, S, G, r, Out.bind o fun x G1 H1 _ r1 e1 o1 v vd => ?_⟩
  obtain ⟨d, hd, o3⟩ := Out.opt_ o1
  exact ⟨m, y, G1, x, d, r1.toRelH, vd, hd, fun u H3 s3 ud => o3 H3 (r1.same s3) (Ext.of_same s3) u ud⟩

theorem e_bin {op : Operator} {g : G2} (ho : OpR X (binaryOp op) (rd2 Φ g)) (ha : EE Φ X W a fa) (hb : EE Φ X W b fb) : EE Φ X W (.BinOp a op b pos) (fBin g fa fb) :=
  PE.imp (pe_op ho ha hb) fun _ _ _ h => two h
theorem o_bin {op : Operator} {g : GS → D → D → Option (List D)} (ho : OpR X (binaryOp op) (rd2O Φ g)) (ha : EE Φ X W a fa) (hb : EE Φ X W b fb) : EO Φ X W (.BinOp a op b pos) (fBinO g fa fb) :=
  PE.imp (pe_op ho ha hb) fun _ _ _ h => twoO h
theorem e_un {op : UnaryOp} {g : GS → D → Option D} (ho : UnR X (unaryOp op) (rd1 Φ g)) (ha : EE Φ X W a fa) : EE Φ X W (.UnaryOp op a pos) (fUn g fa) :=
  PE.imp (pe_un ho ha) fun _ _ _ h => one1 h
theorem e_cmp {op : CmpOp} {g : G2} (ho : OpR X (compareOp op) (rd2 Φ g)) (ha : EE Φ X W a fa) (hb : EE Φ X W b fb) (hm : behindInMarks op b = false := by first | exact nomark _ | rfl) : EE Φ X W (.Compare a [op] [b] pos) (fBin g fa fb) :=
  PE.imp (pe_cmpR ho ha hb hm) fun _ _ _ h => two h
theorem vd_bl {m : List Addr} {y : Addr → Prop} {k : Bool} {v : V} (h : Φ.vd m y H (.bl k) v) : v = .bl k := by simpa only [Fr.vd, VD] using h
theorem vd_int {m : List Addr} {y : Addr → Prop} {i : Int} {v : V} (h : Φ.vd m y H (.int i) v) : v = .int i := by simpa only [Fr.vd, VD] using h
theorem vd_str {m : List Addr} {y : Addr → Prop} {x : String} {v : V} (h : Φ.vd m y H (.str x) v) : v = .str (Str.ofString x) := by simpa only [Fr.vd, VD] using h
theorem vd_non {m : List Addr} {y : Addr → Prop} {v : V} (h : Φ.vd m y H .non v) : v = .non := by simpa only [Fr.vd, VD] using h
theorem vd_ty {m : List Addr} {y : Addr → Prop} {n : String} {v : V} (h : Φ.vd m y H (.ty n) v) : v = .ty n := by simpa only [Fr.vd, VD] using h
theorem vd_tup {m : List Addr} {y : Addr → Prop} {xs : List D} {v : V} (h : Φ.vd m y H (.tup xs) v) : ∃ a vs, v = .ref a ∧ TupAt Φ.K (fun a => Φ.f a ∨ y a) H a vs ∧ Φ.vds m y H xs vs := by simpa only [Fr.vd, Fr.vds, VD] using h
theorem vd_lst {m : List Addr} {y : Addr → Prop} {xs : List D} {v : V} (h : Φ.vd m y H (.lst xs) v) : ∃ a vs, v = .ref a ∧ LstAt (fun a => Φ.f a ∨ y a) H a vs ∧ Φ.vds m y H xs vs := by simpa only [Fr.vd, Fr.vds, VD] using h
theorem vd_scr {m : List Addr} {y : Addr → Prop} {xs : List D} {v : V} (h : Φ.vd m y H (.scr xs) v) : ∃ a vs, v = .ref a ∧ ScrAt Φ.K (fun a => Φ.f a ∨ y a) H a vs ∧ Φ.vds m y H xs vs := by simpa only [Fr.vd, Fr.vds, VD] using h
theorem vd_ref {m : List Addr} {y : Addr → Prop} {i : Nat} {v : V} (h : Φ.vd m y H (.ref i) v) : ∃ a, v = .ref a ∧ m[i]? = some a := by simpa only [Fr.vd, VD] using h
theorem vd_fn {m : List Addr} {y : Addr → Prop} {x : String} {v : V} (h : Φ.vd m y H (.fn x) v) : ∃ u, Φ.mg (Str.ofString x) = some u ∧ RelV v u := by simpa only [Fr.vd, VD] using h
theorem mk_bl {m : List Addr} {y : Addr → Prop} {k : Bool} : Φ.vd m y H (.bl k) (.bl k) := by simp only [Fr.vd, VD]
theorem mk_int {m : List Addr} {y : Addr → Prop} {k : Int} : Φ.vd m y H (.int k) (.int k) := by simp only [Fr.vd, VD]
theorem mk_non {m : List Addr} {y : Addr → Prop} : Φ.vd m y H .non .non := by simp only [Fr.vd, VD]
theorem mk_str {m : List Addr} {y : Addr → Prop} {k : String} : Φ.vd m y H (.str k) (.str (Str.ofString k)) := by simp only [Fr.vd, VD]
theorem mk_ty {m : List Addr} {y : Addr → Prop} {k : String} : Φ.vd m y H (.ty k) (.ty k) := by simp only [Fr.vd, VD]
/-- a free place is not forbidden -/
theorem nz_free {m : List Addr} {y : Addr → Prop} {G : GS} {p : Addr} (r : RelH Φ m y G H) (hp : H p = none) : ¬ (Φ.f p ∨ y p) := by
  rintro (q | q)
  · obtain ⟨o, e⟩ := r.fd p q
    rw [hp] at e
    cases e
  · obtain ⟨o, e⟩ := r.yd p q
    rw [hp] at e
    cases e
theorem same_upd {p : Addr} {o : HO} (hp : H p = none) : Same H (upd H p o) := fun b u h => by rw [upd_ne (ne_of_none h hp)]; exact h
theorem mk_tup {m : List Addr} {y : Addr → Prop} {G : GS} {p : Addr} {xs : List D} {vs : List V} (r : RelH Φ m y G H) (hp : H p = none) (h : Φ.vds m y H xs vs) : Φ.vd m y (upd H p (.tup vs)) (.tup xs) (.ref p) := by
  simp only [Fr.vd, VD]
  exact ⟨p, vs, rfl, .inl ⟨upd_same, nz_free r hp⟩, vds_same h (same_upd hp)⟩
theorem mk_lst {m : List Addr} {y : Addr → Prop} {G : GS} {p : Addr} {xs : List D} {vs : List V} (r : RelH Φ m y G H) (hp : H p = none) (h : Φ.vds m y H xs vs) : Φ.vd m y (upd H p (.lst vs)) (.lst xs) (.ref p) := by
  simp only [Fr.vd, VD]
  exact ⟨p, vs, rfl, ⟨upd_same, nz_free r hp⟩, vds_same h (same_upd hp)⟩
theorem mk_lst' {m : List Addr} {y : Addr → Prop} {p : Addr} {xs : List D} {vs : List V} (hp : H p = some (.lst vs)) (n : ¬ (Φ.f p ∨ y p)) (h : Φ.vds m y H xs vs) : Φ.vd m y H (.lst xs) (.ref p) := by
  simp only [Fr.vd, VD]
  exact ⟨p, vs, rfl, ⟨hp, n⟩, h⟩

/-! ### names and constants -/
theorem e_var (i : Nat) {x : Str} (hN : X.N[i]? = some x := by rfl) (hv : Vis X.env.scope x := by first | exact Or.inl rfl | exact Or.inr (Or.inl rfl) | exact Or.inr (Or.inr rfl)) (hd : (x == ("__debug__" : Str)) = false := by decide)
    (hcd : (x == ("__classdict__" : Str)) = false := by decide) : EE Φ X W (.Name x pos) (fVar i) := by
  refine PE.imp (pe_var hN hv hd hcd) fun σ H Q h => ?_
  obtain ⟨m, y, S, G, r, o⟩ := h
  unfold fVar at o
  cases e : S[i]? with
  | none =>
    rw [e] at o
    exact o.elim
  | some sl =>
    rw [e] at o
    cases sl with
    | pl d =>
      obtain ⟨v, h1, h2⟩ := r.sl i d e
      exact ⟨v, h1, o H r (Ext.refl _ H) v h2⟩
    | un => exact o.elim
    | ow xs => exact o.elim
    | raw => exact o.elim
theorem e_of_const {e : Expr} {v : V} {d : D} (h : PE X e (tC v)) (hd : ∀ m y H, Φ.vd m y H d v) : EE Φ X W e (fC d) := by
  refine PE.imp h fun σ H Q h => ?_
  obtain ⟨m, y, S, G, r, o⟩ := h
  exact o H r (Ext.refl _ H) v (hd m y H)
theorem e_int {i j} : EE Φ X W (.Constant (.int i) j pos) (fC (.int i)) := e_of_const pe_int fun _ _ _ => mk_int
theorem e_bl {i j} : EE Φ X W (.Constant (.bool i) j pos) (fC (.bl i)) := e_of_const pe_bl fun _ _ _ => mk_bl
theorem e_non {j} : EE Φ X W (.Constant .none j pos) (fC .non) := e_of_const pe_non fun _ _ _ => mk_non
theorem e_str {x : String} {j} : EE Φ X W (.Constant (.str (Str.ofString x)) j pos) (fC (.str x)) := e_of_const pe_str fun _ _ _ => mk_str
theorem e_fn {x : String} {u : Value} {v : V} (fit : Fits Φ X) (hm : X.mg (Str.ofString x) = some u) (r : RelV v u) (hg : Gl X (Str.ofString x) := by rfl) (hd : (Str.ofString x == ("__debug__" : Str)) = false := by decide) : EE Φ X W (.Name (Str.ofString x) pos) (fC (.fn x)) :=
  e_of_const (pe_glob hg hm r hd) fun _ _ _ => by
    simp only [Fr.vd, VD]
    exact ⟨u, by rw [← fit.mg]; exact hm, r⟩
theorem e_kint {x : Str} {i : Int} {t : Tok} (hm : X.mg x = some (.int i t)) (hg : Gl X x := by rfl) (hd : (x == ("__debug__" : Str)) = false := by decide) : EE Φ X W (.Name x pos) (fC (.int i)) :=
  e_of_const (pe_glob (v := .int i) hg hm ⟨t, rfl⟩ hd) fun _ _ _ => mk_int
theorem e_ty {x : Str} {n : String} (hm : X.mg x = none) (hg : Gl X x := by rfl) (hv : bootBuiltins x = some (.type n) := by decide +kernel) (hn : x ≠ "__name__" := by decide) (hd : (x == ("__debug__" : Str)) = false := by decide) : EE Φ X W (.Name x pos) (fC (.ty n)) :=
  e_of_const (pe_bltn (v := .ty n) hg hm hv rfl hn hd) fun _ _ _ => mk_ty

/-! ### arguments, displays -/
variable {e : Expr} {es : List Expr} {fs : FA} {fe : FE}
theorem a_nil : EA Φ X W [] fNil := by
  refine PA.imp pa_nil fun σ H Q h => ?_
  obtain ⟨m, y, S, G, r, o⟩ := h
  exact o H r (Ext.refl _ H) [] .nil
theorem a_cons (h : EE Φ X W e fe) (t : EA Φ X W es fs) (hs : starEach (e :: es) X.env = (false, eval e X.env) :: starEach es X.env := by rfl) : EA Φ X W (e :: es) (fCons fe fs) := by
  refine PA.imp (pa_cons h t hs) fun σ H Q h => ?_
  obtain ⟨m, y, S, G, r, o⟩ := h
  refine ⟨m, y, S, G, r, Out.bind o fun x G1 H1 _ r1 e1 o1 v vd => ⟨m, y, S, G1, r1, Out.bind o1 fun xs G2 H2 _ r2 e2 o2 vs vds => ?_⟩⟩
  exact o2 H2 r2 (Ext.refl _ _) (v :: vs) (.cons (vd_ext vd e2 r2.my) vds)
theorem args_out {α : Type} {k : List D → GS → Res α} {P : α → Hp → Prop} {m : List Addr} {y : Addr → Prop} {S : SS} {G : GS} (r : Rel Φ m y S G σ H) (o : Out Φ W m y S σ H ((fs S G).bind k) P) {R : List V → Hp → Prop}
    (h : ∀ xs G1 H1 vs, Rel Φ m y S G1 σ H1 → Ext (fun a => a ∈ m) H H1 → Φ.vds m y H1 xs vs → Out Φ W m y S σ H1 (k xs G1) P → R vs H1) : rdA Φ W fs σ H R :=
  ⟨m, y, S, G, r, Out.bind o fun xs G1 H1 _ r1 e1 o1 vs vds => h xs G1 H1 vs r1 e1 vds o1⟩
theorem e_tup {k : Nat} (h : EA Φ X W es fs) : EE Φ X W (.Tuple es k pos) (fTup fs) := by
  refine PE.imp (pe_tup h) fun σ H Q h => ?_
  obtain ⟨m, y, S, G, r, o⟩ := h
  refine args_out r o fun xs G1 H1 vs r1 e1 vds o1 => ?_
  by_cases hl : xs.length ≤ 16777216
  · rw [if_pos hl] at o1
    refine ⟨by rw [sizeLine_eq, ← vds.length]; exact hl, fun p hp => ?_⟩
    exact o1 _ (r1.same (same_upd hp)) (Ext.of_same (same_upd hp)) _ (mk_tup r1.toRelH hp vds)
  · rw [if_neg hl] at o1
    exact o1.elim
theorem args_outO {k : List D → GS → Res (List D)} {Q : VK} {m : List Addr} {y : Addr → Prop} {S : SS} {G : GS} (r : Rel Φ m y S G σ H) (o : OutO Φ W m y S σ H ((fs S G).bind k) Q) {R : List V → Hp → Prop}
    (h : ∀ xs G1 H1 vs, Rel Φ m y S G1 σ H1 → Ext (fun a => a ∈ m) H H1 → Φ.vds m y H1 xs vs → OutO Φ W m y S σ H1 (k xs G1) Q → R vs H1) : rdA Φ W fs σ H R :=
  ⟨m, y, S, G, r, OutO.bind o fun xs G1 H1 _ r1 e1 o1 vs vds => h xs G1 H1 vs r1 e1 vds o1⟩
theorem o_lst (h : EA Φ X W es fs) : EO Φ X W (.List es pos) (fDisp fs) := by
  refine PE.imp (pe_lst h) fun σ H Q h => ?_
  obtain ⟨m, y, S, G, r, o⟩ := h
  refine args_outO r o fun xs G1 H1 vs r1 e1 vds o1 => ?_
  by_cases hl : xs.length ≤ 16777216
  · rw [if_pos hl] at o1
    exact ⟨by rw [sizeLine_eq, ← vds.length]; exact hl, fun p hp => o1.here r1 (same_upd hp) hp upd_same vds⟩
  · rw [if_neg hl] at o1
    exact o1.elim
/-- a list that is just made, as a value -/
theorem OutO.fz {r : Res (List D)} {m : List Addr} {y : Addr → Prop} {S : SS} {Q : VK} (h : Out Φ W m y S σ H (r.bind fun xs G => .ok (.lst xs) G) fun d H' => ∀ v, Φ.vd m y H' d v → Q v H') (fy : ∀ a, y a → ∃ o, H a = some o) (ff : ∀ a, Φ.f a → ∃ o, H a = some o) (my : ∀ a ∈ m, y a)
    (oy : ∀ (i : Nat) xs a, S[i]? = some (.ow xs) → σ[i]? = some (some (.ref a)) → y a) : OutO Φ W m y S σ H r Q := by
  cases r with
  | ok ds G =>
    intro a vs H' n t r' e vd
    have na : ∀ {b}, y b → b ≠ a := fun {b} hb z => by
      obtain ⟨o, q⟩ := fy b hb
      rw [z, n] at q
      cases q
    refine h H' (r'.less (fun b hb => .inl hb) my oy) e (.ref a) (mk_lst' t (fun q => ?_) (VDs.imp (fun b o _ q => q.imp id .inl) ds vd))
    rcases q with q | q
    · obtain ⟨o', e'⟩ := ff a q
      rw [n] at e'
      cases e'
    · exact na q rfl
  | exc c p G => exact h
  | fail => exact h
theorem Rel.oy {m : List Addr} {y : Addr → Prop} {S : SS} {G : GS} (r : Rel Φ m y S G σ H) : ∀ (i : Nat) xs a, S[i]? = some (.ow xs) → σ[i]? = some (some (.ref a)) → y a := fun i xs a h1 h2 => by
  obtain ⟨b, vs, k1, _, _, k4, _⟩ := r.ow i xs h1
  rw [h2] at k1
  cases k1
  exact k4
theorem e_fz (h : EO Φ X W e fs) : EE Φ X W e (fz fs) := by
  refine PE.imp h fun σ H Q h => ?_
  obtain ⟨m, y, S, G, r, o⟩ := h
  exact ⟨m, y, S, G, r, OutO.fz o r.yd r.fd r.my r.oy⟩

/-! ### tests -/
theorem t_val {t : FE} (h : EE Φ X W e t) (he : ∀ whole, isTrue e X.env whole = (do let v ← whole; standAt e.pos; holding [v] (truthy v)) := by intro _; rfl) : ET Φ X W e (tVal t) := by
  refine PT.imp (pt_val h he) fun σ H Q h => ?_
  obtain ⟨m, y, S, G, r, o⟩ := h
  refine ⟨m, y, S, G, r, Out.bind o fun x G1 H1 _ r1 e1 o1 v vd => ?_⟩
  obtain ⟨k, hk, o2⟩ := Out.opt_ o1
  cases x <;> simp only [asB, reduceCtorEq, Option.some.injEq] at hk
  subst hk
  exact ⟨_, vd_bl vd, o2 H1 r1 (Ext.refl _ _)⟩
theorem t_cmp {op : CmpOp} {g : G2} (ho : OpR X (compareOp op) (rd2 Φ g)) (ha : EE Φ X W a fa) (hb : EE Φ X W b fb) (hm : behindInMarks op b = false := by first | exact nomark _ | rfl) : ET Φ X W (.Compare a [op] [b] pos) (tVal (fBin g fa fb)) := by
  refine PT.imp (pt_cmpR ho ha hb hm) fun σ H Q h => ?_
  refine two ?_
  obtain ⟨m, y, S, G, r, o⟩ := h
  refine ⟨m, y, S, G, r, Out.bind o fun x G1 H1 _ r1 e1 o1 v vd => ?_⟩
  obtain ⟨k, hk, o2⟩ := Out.opt_ o1
  cases x <;> simp only [asB, reduceCtorEq, Option.some.injEq] at hk
  subst hk
  exact ⟨_, vd_bl vd, o2 H1 r1 (Ext.refl _ _)⟩
theorem w_and1 {t : FT} (h : ET Φ X W e t) : PW X (.BoolOp .And [e] pos) (rdT Φ W t) := pw_and1 h
theorem w_or1 {t : FT} (h : ET Φ X W e t) : PW X (.BoolOp .Or [e] pos) (rdT Φ W t) := pw_or1 h
theorem PW.imp {X : Cx} {e : Expr} {t t' : TT} (h : PW X e t) (i : ∀ σ H Q, t' σ H Q → t σ H Q) : PW X e t' := ⟨fun wh pins s σ H Q I q => h.run wh pins s σ H Q I (i _ _ _ q)⟩
theorem w_and {t u : FT} {rest : List Expr} (h : ET Φ X W a t) (r : PW X (.BoolOp .And (b :: rest) pos) (rdT Φ W u)) : PW X (.BoolOp .And (a :: b :: rest) pos) (rdT Φ W (tAndF t u)) := by
  refine PW.imp (pw_and h r) fun σ H Q h => ?_
  obtain ⟨m, y, S, G, r, o⟩ := h
  refine ⟨m, y, S, G, r, Out.bind o fun c G1 H1 _ r1 e1 o1 => ?_⟩
  cases c with
  | true => exact iteT ⟨m, y, S, G1, r1, o1⟩
  | false => exact iteF (o1 H1 r1 (Ext.refl _ _))
theorem w_or {t u : FT} {rest : List Expr} (h : ET Φ X W a t) (r : PW X (.BoolOp .Or (b :: rest) pos) (rdT Φ W u)) : PW X (.BoolOp .Or (a :: b :: rest) pos) (rdT Φ W (tOrF t u)) := by
  refine PW.imp (pw_or h r) fun σ H Q h => ?_
  obtain ⟨m, y, S, G, r, o⟩ := h
  refine ⟨m, y, S, G, r, Out.bind o fun c G1 H1 _ r1 e1 o1 => ?_⟩
  cases c with
  | false => exact iteF ⟨m, y, S, G1, r1, o1⟩
  | true => exact iteT (o1 H1 r1 (Ext.refl _ _))
theorem t_not {t : FT} (h : ET Φ X W a t) : ET Φ X W (.UnaryOp .Not a pos) (tNotF t) := by
  refine PT.imp (pt_not h) fun σ H Q h => ?_
  obtain ⟨m, y, S, G, r, o⟩ := h
  exact ⟨m, y, S, G, r, Out.bind o fun c G1 H1 _ r1 e1 o1 => o1 H1 r1 (Ext.refl _ _)⟩
theorem as_bl {x : D} {c : Bool} (h : asB x = some c) : x = .bl c := by
  cases x <;> simp only [asB, reduceCtorEq, Option.some.injEq] at h
  rw [h]
theorem e_one {op} (h : EE Φ X W a fa) : EE Φ X W (.BoolOp op [a] pos) fa := pe_one h
theorem e_and {rest : List Expr} (h : EE Φ X W a fa) (r : EE Φ X W (.BoolOp .And (b :: rest) pos) fb) : EE Φ X W (.BoolOp .And (a :: b :: rest) pos) (eAndF fa fb) := by
  refine PE.imp (pe_and h r) fun σ H Q h => ?_
  obtain ⟨m, y, S, G, r, o⟩ := h
  refine ⟨m, y, S, G, r, Out.bind o fun x G1 H1 _ r1 e1 o1 v vd => ?_⟩
  cases e : asB x with
  | none =>
    rw [e] at o1
    exact o1.elim
  | some c =>
    rw [e] at o1
    rw [as_bl e] at vd
    refine ⟨c, vd_bl vd, ?_⟩
    cases c with
    | true => exact iteT ⟨m, y, S, G1, r1, o1⟩
    | false => exact iteF (o1 H1 r1 (Ext.refl _ _) _ mk_bl)
theorem e_or {rest : List Expr} (h : EE Φ X W a fa) (r : EE Φ X W (.BoolOp .Or (b :: rest) pos) fb) : EE Φ X W (.BoolOp .Or (a :: b :: rest) pos) (eOrF fa fb) := by
  refine PE.imp (pe_or h r) fun σ H Q h => ?_
  obtain ⟨m, y, S, G, r, o⟩ := h
  refine ⟨m, y, S, G, r, Out.bind o fun x G1 H1 _ r1 e1 o1 v vd => ?_⟩
  cases e : asB x with
  | none =>
    rw [e] at o1
    exact o1.elim
  | some c =>
    rw [e] at o1
    rw [as_bl e] at vd
    refine ⟨c, vd_bl vd, ?_⟩
    cases c with
    | false => exact iteF ⟨m, y, S, G1, r1, o1⟩
    | true => exact iteT (o1 H1 r1 (Ext.refl _ _) _ mk_bl)
theorem e_not (h : EE Φ X W a fa) : EE Φ X W (.UnaryOp .Not a pos) (eNotF fa) := by
  refine PE.imp (pe_not h) fun σ H Q h => ?_
  obtain ⟨m, y, S, G, r, o⟩ := h
  refine ⟨m, y, S, G, r, Out.bind o fun x G1 H1 _ r1 e1 o1 v vd => ?_⟩
  cases e : asB x with
  | none =>
    rw [e] at o1
    exact o1.elim
  | some c =>
    rw [e] at o1
    rw [as_bl e] at vd
    exact ⟨c, vd_bl vd, o1 H1 r1 (Ext.refl _ _) _ mk_bl⟩
theorem e_if {c : Expr} {t : FT} (hc : ET Φ X W c t) (ha : EE Φ X W a fa) (hb : EE Φ X W b fb) : EE Φ X W (.IfExp c a b pos) (eIfF t fa fb) := by
  refine PE.imp (pe_ifExp hc ha hb) fun σ H Q h => ?_
  obtain ⟨m, y, S, G, r, o⟩ := h
  refine ⟨m, y, S, G, r, Out.bind o fun c G1 H1 _ r1 e1 o1 => ?_⟩
  cases c with
  | true => exact iteT ⟨m, y, S, G1, r1, o1⟩
  | false => exact iteF ⟨m, y, S, G1, r1, o1⟩
theorem e_chain {op op' : CmpOp} {g g' : G2} (ho : OpR X (compareOp op) (rd2 Φ g)) (ho' : OpR X (compareOp op') (rd2 Φ g')) (ha : EE Φ X W a fa) (hb : EE Φ X W b fb) (hc : EE Φ X W c fc)
    (hm : lastMarks [op, op'] [b, c] = false := by with_unfolding_all rfl) : EE Φ X W (.Compare a [op, op'] [b, c] pos) (eChain g g' fa fb fc) := by
  refine PE.imp (pe_chain ho ho' ha hb hc hm) fun σ H Q h => ?_
  obtain ⟨m, y, S, G, r, o⟩ := h
  refine ⟨m, y, S, G, r, Out.bind o fun x G1 H1 _ r1 e1 o1 v vd => ⟨m, y, S, G1, r1, Out.bind o1 fun z G2 H2 _ r2 e2 o2 w wd => ?_⟩⟩
  cases e : g G2 x z with
  | none =>
    rw [e] at o2
    exact o2.elim
  | some d =>
    rw [e] at o2
    cases e' : asB d with
    | none =>
      rw [show (some d).bind asB = asB d from rfl, e'] at o2
      exact o2.elim
    | some k =>
      rw [show (some d).bind asB = asB d from rfl, e'] at o2
      refine ⟨m, y, G2, x, z, d, r2.toRelH, vd_ext vd e2 r2.my, wd, e, fun u H3 s3 ud => ?_⟩
      rw [as_bl e'] at ud
      refine ⟨k, vd_bl ud, ?_⟩
      have r3 := r2.same s3
      have o3 := Out.mono o2 (Ext.of_same s3)
      cases k with
      | false => exact iteF (o3 H3 r3 (Ext.refl _ _) _ mk_bl)
      | true =>
        have o3' := (show Out Φ W m y S σ H3 ((fc S G2).bind fun z' G => opt (g' G z z') G) _ from o3)
        refine iteT ⟨m, y, S, G2, r3, Out.bind o3' fun q G4 H4 _ r4 e4 o4 w' wd' => ?_⟩
        obtain ⟨d2, hd2, o5⟩ := Out.opt_ o4
        exact ⟨m, y, G4, z, q, d2, r4.toRelH, vd_ext (vd_same wd s3) e4 r4.my, wd', hd2, fun u5 H5 s5 ud5 => o5 H5 (r4.same s5) (Ext.of_same s5) u5 ud5⟩
theorem t_chain {op op' : CmpOp} {g g' : G2} (ho : OpR X (compareOp op) (rd2 Φ g)) (ho' : OpR X (compareOp op') (rd2 Φ g')) (ha : EE Φ X W a fa) (hb : EE Φ X W b fb) (hc : EE Φ X W c fc)
    (hm : lastMarks [op, op'] [b, c] = false := by with_unfolding_all rfl) : ET Φ X W (.Compare a [op, op'] [b, c] pos) (tVal (eChain g g' fa fb fc)) := by
  refine PT.imp (pt_chain ho ho' ha hb hc hm) fun σ H Q h => ?_
  obtain ⟨m, y, S, G, r, o⟩ := h
  have h2 : rdE Φ W (eChain g g' fa fb fc) σ H (fun x H1 => ∃ k, x = .bl k ∧ Q k H1) := by
    refine ⟨m, y, S, G, r, Out.bind o fun x G1 H1 _ r1 e1 o1 v vd => ?_⟩
    obtain ⟨k, hk, o2⟩ := Out.opt_ o1
    rw [as_bl hk] at vd
    exact ⟨_, vd_bl vd, o2 H1 r1 (Ext.refl _ _)⟩
  clear o r
  obtain ⟨m, y, S, G, r, o⟩ := h2
  refine ⟨m, y, S, G, r, Out.bind o fun x G1 H1 _ r1 e1 o1 v vd => ⟨m, y, S, G1, r1, Out.bind o1 fun z G2 H2 _ r2 e2 o2 w wd => ?_⟩⟩
  cases e : g G2 x z with
  | none =>
    rw [e] at o2
    exact o2.elim
  | some d =>
    rw [e] at o2
    cases e' : asB d with
    | none =>
      rw [show (some d).bind asB = asB d from rfl, e'] at o2
      exact o2.elim
    | some k =>
      rw [show (some d).bind asB = asB d from rfl, e'] at o2
      refine ⟨m, y, G2, x, z, d, r2.toRelH, vd_ext vd e2 r2.my, wd, e, fun u H3 s3 ud => ?_⟩
      rw [as_bl e'] at ud
      refine ⟨k, vd_bl ud, ?_⟩
      have r3 := r2.same s3
      have o3 := Out.mono o2 (Ext.of_same s3)
      cases k with
      | false => exact iteF (o3 H3 r3 (Ext.refl _ _) _ mk_bl)
      | true =>
        have o3' := (show Out Φ W m y S σ H3 ((fc S G2).bind fun z' G => opt (g' G z z') G) _ from o3)
        refine iteT ⟨m, y, S, G2, r3, Out.bind o3' fun q G4 H4 _ r4 e4 o4 w' wd' => ?_⟩
        obtain ⟨d2, hd2, o5⟩ := Out.opt_ o4
        exact ⟨m, y, G4, z, q, d2, r4.toRelH, vd_ext (vd_same wd s3) e4 r4.my, wd', hd2, fun u5 H5 s5 ud5 => o5 H5 (r4.same s5) (Ext.of_same s5) u5 ud5⟩

/-! ### calls of built-ins by name -/
theorem e_callB {x : Str} {p : Pos} {id : String} {g : GN} (hc : CallR X (.builtin id) (rdN Φ g)) (hm : X.mg x = none) (ha : EA Φ X W (e :: es) fs) (hg : Gl X x := by rfl) (hv : bootBuiltins x = some (.builtin id) := by decide +kernel) (hn : x ≠ "__name__" := by decide) (hdb : (x == ("__debug__" : Str)) = false := by decide)
    (he : starEach (e :: es) X.env = (false, eval e X.env) :: starEach es X.env := by rfl) (hpl : (backTo pos (starEach es X.env)).any (·.1) = false := by rfl) : EE Φ X W (.Call (.Name x p) (e :: es) [] pos) (fB g fs) := by
  refine PE.imp (pe_callB hc hg hm hv ha hn hdb he hpl) fun σ H Q h => ?_
  obtain ⟨m, y, S, G, r, o⟩ := h
  refine args_out r o fun xs G1 H1 vs r1 e1 vds o1 => ?_
  obtain ⟨d, hd, o2⟩ := Out.opt_ o1
  exact ⟨m, y, G1, xs, d, r1.toRelH, vds, hd, fun u H3 s3 ud => o2 H3 (r1.same s3) (Ext.of_same s3) u ud⟩
theorem e_callTy {x : Str} {p : Pos} {T : String} {g : GN} (hc : CallR X (.type T) (rdN Φ g)) (hm : X.mg x = none) (ha : EA Φ X W (e :: es) fs) (hg : Gl X x := by rfl) (hv : bootBuiltins x = some (.type T) := by decide +kernel) (hn : x ≠ "__name__" := by decide) (hdb : (x == ("__debug__" : Str)) = false := by decide)
    (he : starEach (e :: es) X.env = (false, eval e X.env) :: starEach es X.env := by rfl) (hpl : (backTo pos (starEach es X.env)).any (·.1) = false := by rfl) : EE Φ X W (.Call (.Name x p) (e :: es) [] pos) (fB g fs) := by
  refine PE.imp (pe_callTy hc hg hm hv ha hn hdb he hpl) fun σ H Q h => ?_
  obtain ⟨m, y, S, G, r, o⟩ := h
  refine args_out r o fun xs G1 H1 vs r1 e1 vds o1 => ?_
  obtain ⟨d, hd, o2⟩ := Out.opt_ o1
  exact ⟨m, y, G1, xs, d, r1.toRelH, vds, hd, fun u H3 s3 ud => o2 H3 (r1.same s3) (Ext.of_same s3) u ud⟩
theorem o_callB {x : Str} {p : Pos} {id : String} {g : GS → List D → Option (List D)} (hc : CallR X (.builtin id) (rdNO Φ g)) (hm : X.mg x = none) (ha : EA Φ X W (e :: es) fs) (hg : Gl X x := by rfl) (hv : bootBuiltins x = some (.builtin id) := by decide +kernel) (hn : x ≠ "__name__" := by decide) (hdb : (x == ("__debug__" : Str)) = false := by decide)
    (he : starEach (e :: es) X.env = (false, eval e X.env) :: starEach es X.env := by rfl) (hpl : (backTo pos (starEach es X.env)).any (·.1) = false := by rfl) : EO Φ X W (.Call (.Name x p) (e :: es) [] pos) (fBO g fs) := by
  refine PE.imp (pe_callB hc hg hm hv ha hn hdb he hpl) fun σ H Q h => ?_
  obtain ⟨m, y, S, G, r, o⟩ := h
  refine args_outO r o fun xs G1 H1 vs r1 e1 vds o1 => ?_
  obtain ⟨d, hd, o2⟩ := OutO.opt_ o1
  exact ⟨m, y, G1, xs, d, r1.toRelH, vds, hd, fun a ws H3 s3 na ha' ud => o2.here r1 s3 na ha' ud⟩
theorem o_callTy {x : Str} {p : Pos} {T : String} {g : GS → List D → Option (List D)} (hc : CallR X (.type T) (rdNO Φ g)) (hm : X.mg x = none) (ha : EA Φ X W (e :: es) fs) (hg : Gl X x := by rfl) (hv : bootBuiltins x = some (.type T) := by decide +kernel) (hn : x ≠ "__name__" := by decide) (hdb : (x == ("__debug__" : Str)) = false := by decide)
    (he : starEach (e :: es) X.env = (false, eval e X.env) :: starEach es X.env := by rfl) (hpl : (backTo pos (starEach es X.env)).any (·.1) = false := by rfl) : EO Φ X W (.Call (.Name x p) (e :: es) [] pos) (fBO g fs) := by
  refine PE.imp (pe_callTy hc hg hm hv ha hn hdb he hpl) fun σ H Q h => ?_
  obtain ⟨m, y, S, G, r, o⟩ := h
  refine args_outO r o fun xs G1 H1 vs r1 e1 vds o1 => ?_
  obtain ⟨d, hd, o2⟩ := OutO.opt_ o1
  exact ⟨m, y, G1, xs, d, r1.toRelH, vds, hd, fun a ws H3 s3 na ha' ud => o2.here r1 s3 na ha' ud⟩
end
end Wd
/-! Wd, part C: operations. -/
namespace Wd
open PySem PySem.Spec PyProof.Rows L2

/-! ### texts -/
theorem ofString_list (s : String) : (Str.ofString s).cps.toList = s.toList.map Char.toNat := by rw [Str.ofString_eq_toList]
theorem ofString_inj {s t : String} (h : Str.ofString s = Str.ofString t) : s = t := by
  have e : s.toList.map Char.toNat = t.toList.map Char.toNat := by rw [← ofString_list, ← ofString_list, h]
  have inj : ∀ (a b : List Char), a.map Char.toNat = b.map Char.toNat → a = b := by
    intro a
    induction a with
    | nil => intro b h; cases b with
      | nil => rfl
      | cons _ _ => simp at h
    | cons x r ih => intro b h; cases b with
      | nil => simp at h
      | cons z t =>
        simp only [List.map_cons, List.cons.injEq] at h
        rw [ih t h.2, Char.toNat_inj.mp h.1]
  have e2 := inj _ _ e
  rw [← String.ofList_toList (s := s), ← String.ofList_toList (s := t), e2]
theorem ofString_eq {s t : String} : (Str.ofString s == Str.ofString t) = (s == t) := by
  rw [Bool.eq_iff_iff, beq_iff_eq, beq_iff_eq]
  exact ⟨ofString_inj, fun h => by rw [h]⟩
theorem ofString_len (s : String) : (Str.ofString s).length = s.length := by
  show (Str.ofString s).cps.size = _
  rw [← Array.length_toList, ofString_list, List.length_map, String.length_toList]
theorem ofString_app (s t : String) : Str.ofString s ++ Str.ofString t = Str.ofString (s ++ t) := by
  have e : (Str.ofString s ++ Str.ofString t).cps.toList = (Str.ofString (s ++ t)).cps.toList := by
    rw [ofString_list, String.toList_append, List.map_append]
    show ((Str.ofString s).cps ++ (Str.ofString t).cps).toList = _
    rw [Array.toList_append, ofString_list, ofString_list]
  generalize hA : Str.ofString s ++ Str.ofString t = A at e ⊢
  generalize hB : Str.ofString (s ++ t) = B at e ⊢
  obtain ⟨a⟩ := A
  obtain ⟨b⟩ := B
  have e' : a.toList = b.toList := e
  rw [Array.toList_inj.mp e']

/-! ### numbers -/
abbrev SL : Nat := 16777216
/-- products that are not too great -/
def mulOk (i j : Int) : Prop := (-(2 ^ 64) < i ∧ i < 2 ^ 64) ∨ (-(2 ^ 64) < j ∧ j < 2 ^ 64) ∨ (i.natAbs.log2 + j.natAbs.log2 < 100000000)
instance (i j : Int) : Decidable (mulOk i j) := by unfold mulOk; infer_instance
theorem mulOk_ok {i j : Int} (h : mulOk i j) : IntMulOk i j := by
  rcases h with h | h | h
  · exact CMul.ok (.inl h)
  · exact CMul.ok (.inr h)
  · have b : ∀ x : Int, Builtin.Int.intBits x ≤ x.natAbs.log2 + 1 := fun x => by
      unfold Builtin.Int.intBits
      split <;> omega
    have h1 := b i
    have h2 := b j
    have e : bitsLine = 134217728 := by decide
    unfold IntMulOk
    intro z
    rw [Bool.and_eq_true] at z
    have z2 := z.2
    unfold Builtin.Int.intTooBig at z2
    have z3 := of_decide_eq_true z2
    rw [e] at z3
    omega
def divOk (j : Int) : Prop := j ≠ 0 ∧ j.natAbs.log2 < 9000
instance (j : Int) : Decidable (divOk j) := by unfold divOk; infer_instance
def powOk (i j : Int) : Prop := 0 ≤ j ∧ j ≤ 1000000 ∧ i.natAbs < 2 ^ 64
instance (i j : Int) : Decidable (powOk i j) := by unfold powOk; infer_instance
def shlOk (i j : Int) : Prop := 0 ≤ j ∧ (i.natAbs.log2 : Int) + j < 100000000
instance (i j : Int) : Decidable (shlOk i j) := by unfold shlOk; infer_instance
theorem shlOk_ok {i j : Int} (h : shlOk i j) : CShl i j := by
  refine ⟨h.1, ?_⟩
  have b : Builtin.Int.intBits i ≤ i.natAbs.log2 + 1 := by
    unfold Builtin.Int.intBits
    split <;> omega
  have := h.2
  omega

/-- a guard -/
def gd {α : Type} (p : Prop) [Decidable p] (a : α) : Option α := if p then some a else none
theorem gd_some {α : Type} {p : Prop} [Decidable p] {a b : α} (h : gd p a = some b) : p ∧ a = b := by
  unfold gd at h
  split at h
  · exact ⟨by assumption, Option.some.inj h⟩
  · cases h
@[simp] theorem gd_true {α : Type} {p : Prop} [Decidable p] {a : α} (h : p) : gd p a = some a := if_pos h

def dAdd : G2
  | _, .int i, .int j => some (.int (i + j))
  | _, .str s, .str t => gd (s.length + t.length ≤ SL) (.str (s ++ t))
  | _, .tup xs, .tup ys => gd (xs.length + ys.length ≤ SL) (.tup (xs ++ ys))
  | _, .lst xs, .lst ys => gd (xs.length + ys.length ≤ SL) (.lst (xs ++ ys))
  | _, _, _ => none
def dSub : G2
  | _, .int i, .int j => some (.int (i - j))
  | _, _, _ => none
def dMul : G2
  | _, .int i, .int j => gd (mulOk i j) (.int (i * j))
  | _, .lst xs, .int k => gd (-(2 ^ 63) ≤ k ∧ k < 2 ^ 63 ∧ xs.length * k.toNat ≤ SL) (.lst (List.replicate k.toNat xs).flatten)
  | _, .tup xs, .int k => gd (0 < xs.length ∧ 1 ≤ k ∧ xs.length * k.toNat ≤ 1000000) (.tup (List.replicate k.toNat xs).flatten)
  | _, _, _ => none
def dFdiv : G2
  | _, .int i, .int j => gd (divOk j) (.int (i.fdiv j))
  | _, _, _ => none
def dMod : G2
  | _, .int i, .int j => gd (j ≠ 0) (.int (i.fmod j))
  | _, _, _ => none
def dPow : G2
  | _, .int i, .int j => gd (powOk i j) (.int (i ^ j.toNat))
  | _, _, _ => none
def dShl : G2
  | _, .int i, .int j => gd (shlOk i j) (.int (i * 2 ^ j.toNat))
  | _, _, _ => none
def dShr : G2
  | _, .int i, .int j => gd (0 ≤ j) (.int (i / 2 ^ j.toNat))
  | _, _, _ => none
def dAnd : G2
  | _, .int i, .int j => some (.int (Builtin.bitAnd i j))
  | _, _, _ => none
def dOr : G2
  | _, .int i, .int j => some (.int (Builtin.bitOr i j))
  | _, _, _ => none
def dXor : G2
  | _, .int i, .int j => some (.int (Builtin.bitXor i j))
  | _, _, _ => none
def dNeg (_ : GS) : D → Option D
  | .int i => some (.int (-i))
  | _ => none
def dInv (_ : GS) : D → Option D
  | .int i => some (.int (Builtin.bitNot i))
  | _ => none
def dLt : G2
  | _, .int i, .int j => some (.bl (decide (i < j)))
  | _, _, _ => none
def dLe : G2
  | _, .int i, .int j => some (.bl (decide (i ≤ j)))
  | _, _, _ => none
def dGt : G2
  | _, .int i, .int j => some (.bl (decide (j < i)))
  | _, _, _ => none
def dGe : G2
  | _, .int i, .int j => some (.bl (decide (j ≤ i)))
  | _, _, _ => none
section
variable {Φ : Fr} {X : Cx}
/-- ints in, by a rule of the layer -/
theorem opD_int {f : Value → Value → Sem Value} {C : Int → Int → Prop} {k : Int → Int → V} {g : G2} (h : OpR X f (rI C k))
    (hg : ∀ G a b d, g G a b = some d → ∃ i j, a = .int i ∧ b = .int j ∧ C i j ∧ ∀ m y H, Φ.vd m y H d (k i j)) : OpR X f (rd2 Φ g) := by
  intro pins s σ H x y v u Q I rx ry hq
  obtain ⟨m, z, G, a, b, d, r, va, vb, e, q⟩ := hq
  obtain ⟨i, j, ea, eb, c, hd⟩ := hg G a b d e
  subst ea eb
  exact h pins s σ H x y v u Q I rx ry ⟨i, j, vd_int va, vd_int vb, c, q _ H (Same.refl H) (hd m z H)⟩
theorem opD_int0 {f : Value → Value → Sem Value} {k : Int → Int → V} {g : G2} (h : OpR X f (rI0 k))
    (hg : ∀ G a b d, g G a b = some d → ∃ i j, a = .int i ∧ b = .int j ∧ ∀ m y H, Φ.vd m y H d (k i j)) : OpR X f (rd2 Φ g) := by
  intro pins s σ H x y v u Q I rx ry hq
  obtain ⟨m, z, G, a, b, d, r, va, vb, e, q⟩ := hq
  obtain ⟨i, j, ea, eb, hd⟩ := hg G a b d e
  subst ea eb
  exact h pins s σ H x y v u Q I rx ry ⟨i, j, vd_int va, vd_int vb, q _ H (Same.refl H) (hd m z H)⟩
theorem p_add (fit : Fits Φ X) : OpR X (binaryOp .Add) (rd2 Φ dAdd) := by
  intro pins s σ H x y v u Q I rx ry hq
  obtain ⟨m, z, G, a, b, d, r, va, vb, e, q⟩ := hq
  unfold dAdd at e
  split at e
  · cases e
    exact op_add pins s σ H x y v u Q I rx ry ⟨_, _, vd_int va, vd_int vb, q _ H (Same.refl H) mk_int⟩
  · obtain ⟨hl, rfl⟩ := gd_some e
    refine op_add_str pins s σ H x y v u Q I rx ry ⟨_, _, vd_str va, vd_str vb, ?_, ?_⟩
    · rw [ofString_len, ofString_len, sizeLine_eq]
      exact hl
    · rw [ofString_app]
      exact q _ H (Same.refl H) mk_str
  · obtain ⟨hl, rfl⟩ := gd_some e
    obtain ⟨p, vs, rfl, tp, dp⟩ := vd_tup va
    obtain ⟨p', ws, rfl, tp', dp'⟩ := vd_tup vb
    refine op_catA pins s σ H _ _ v u Q I rx ry ⟨p, p', vs, ws, rfl, rfl, by rw [fit.K]; exact tp.sq, by rw [fit.K]; exact tp'.sq, ?_, fun h0 => ?_, fun h1 h0 => ?_, fun _ _ l hl' => ?_⟩
    · rw [← dp.length, ← dp'.length, sizeLine_eq]
      exact hl
    · subst h0
      have := dp.length
      rename_i xs ys
      cases xs with
      | nil => exact q _ H (Same.refl H) vb
      | cons _ _ => simp at this
    · subst h0
      have := dp'.length
      rename_i xs ys
      cases ys with
      | nil =>
        rw [List.append_nil] at q
        exact q _ H (Same.refl H) va
      | cons _ _ => simp at this
    · exact q _ _ (same_upd hl') (mk_tup r hl' (dp.append dp'))
  · obtain ⟨hl, rfl⟩ := gd_some e
    obtain ⟨p, vs, rfl, tp, dp⟩ := vd_lst va
    obtain ⟨p', ws, rfl, tp', dp'⟩ := vd_lst vb
    refine op_cat pins s σ H _ _ v u Q I rx ry ⟨p, p', vs, ws, rfl, rfl, tp.1, tp'.1, ?_, fun l hl' => ?_⟩
    · rw [← dp.length, ← dp'.length, sizeLine_eq]
      exact hl
    · exact q _ _ (same_upd hl') (mk_lst r hl' (dp.append dp'))
  · cases e
theorem p_sub : OpR X (binaryOp .Sub) (rd2 Φ dSub) := opD_int0 op_sub fun G a b d e => by
  unfold dSub at e
  split at e <;> first | (cases e; exact ⟨_, _, rfl, rfl, fun _ _ _ => mk_int⟩) | cases e
theorem vds_rep {m : List Addr} {z : Addr → Prop} {H : Hp} {xs : List D} {vs : List V} (h : Φ.vds m z H xs vs) : ∀ n, Φ.vds m z H (List.replicate n xs).flatten (List.replicate n vs).flatten
  | 0 => .nil
  | n + 1 => by
    rw [List.replicate_succ, List.replicate_succ, List.flatten_cons, List.flatten_cons]
    exact VDs.append h (vds_rep h n)
theorem tuple_mul1 (l : Addr) (items : Array Value) (n : Nat) (dd : Option Addr) (sl : Array (Option Value)) (u : Tok) :
    Meets (Builtin.«tuple.__mul__» ⟨[.ref l, .int 1 u], []⟩) (fun _ R s => s.heap.get? l = some { cls := .type "tuple", dict := dd, data := .seq items n, slots := sl } ∧ R (.ok (.ret (Value.ref l))) s) :=
  .of_wp fun prog w A R s h => by
    obtain ⟨hp, g, d, tk, os⟩ := s
    obtain ⟨hl, h⟩ := h
    have f1 := AutoSeq1.idx_int
    have c1 : (items.isEmpty || (1 : Int) == 1) = true := by simp
    wp_walk using wpAny_loadPart' hl
    repeat (first
      | (refine wpAny_ite_false (by decide) ?_; wp_walk using wpAny_loadPart' hl)
      | (refine wpAny_ite_true (by simp) ?_; wp_walk using wpAny_loadPart' hl))
    exact ⟨_, rfl, h⟩
/-- t * k: t itself by 1, else a new one -/
def rRepTA (K : PySem.W.Frag) : R2 := fun x y H Q => ∃ l k xs, x = .ref l ∧ y = .int k ∧ SqT K H l xs ∧ xs ≠ [] ∧ ((k = 1 ∧ Q (.ref l) H) ∨ (2 ≤ k ∧ xs.length * k.toNat ≤ 1000000 ∧ ∀ p, H p = none → Q (.ref p) (upd H p (.tup (List.replicate k.toNat xs).flatten))))
theorem op_repTA : OpR X (binaryOp .Mult) (rRepTA X.K) := by
  intro pins s σ H x y v u Q I rx ry h
  obtain ⟨l, k, xs, rfl, rfl, hT, hne, hh⟩ := h
  cases rx
  obtain ⟨t, rfl⟩ := ry
  obtain ⟨its, r, ⟨⟨cls, dd, data, sl⟩, ho, hc, n, hd⟩, hs⟩ := I.tuple hT
  dsimp only at hc hd
  subst hc hd
  have len := r.length
  have pos : 0 < xs.length := List.length_pos_iff.mpr hne
  rcases hh with ⟨rfl, q⟩ | ⟨h2, hz, q⟩
  · refine wpAny_binaryOp_repeat_ref (T := "tuple") (U := "int") (by decide) ⟨_, ho, rfl⟩ (fun s' => typeIs_int s' 1 t) noFill_tuple_mul F.fills_int_mul F.slot_int_rmul repeat_tuple F.slot_int_index.lookup
      (call_meets F.slot_int_rmul (typeIs_int s 1 t) F.entry_int_rmul (F.args_int_rmul_2 _ _) (int_rmul_tuple 1 t l its.toArray n dd sl) ⟨ho, rfl, ⟨_, ho, rfl⟩, ?_⟩)
    exact call_meets F.slot_tuple_mul ⟨_, ho, rfl⟩ F.entry_tuple_mul (F.args_tuple_mul_2 _ _) (tuple_mul1 l its.toArray n dd sl t) ⟨ho, .ref l, H, I, rfl, q⟩
  · have kl : k.toNat ≤ 1000000 := by
      have : 1 * k.toNat ≤ xs.length * k.toNat := Nat.mul_le_mul_right _ pos
      omega
    have fl : (List.replicate k.toNat its).flatten.length ≤ sizeLine := by
      rw [PyProof.Rows.lm_len_rep_flat, ← len, sizeLine_eq, Nat.mul_comm]
      omega
    have pr : ((its.toArray.size : Nat) : Int) * k ≤ 1000000 := by
      have e : k = ((k.toNat : Nat) : Int) := by omega
      rw [List.size_toArray, ← len, e, ← Int.natCast_mul]
      omega
    have em : its.toArray.isEmpty = false := by
      cases its with
      | nil => rw [len] at pos; exact absurd pos (Nat.lt_irrefl 0)
      | cons a b => rfl
    have d0 : (decide (k < -(2 ^ 63)) || decide (k ≥ 2 ^ 63)) = false := by simp; omega
    have d1 : (its.toArray.isEmpty || k == 1) = false := by rw [em]; simp; omega
    have d2 : (decide (k ≤ 0) || its.toArray.isEmpty) = false := by rw [em]; simp; omega
    have d4 : Builtin.Tuple.tupleTooMany (((its.toArray.size : Nat) : Int) * k) = false := by
      unfold Builtin.Tuple.tupleTooMany
      rw [sizeLine_eq]
      exact decide_eq_false (by omega)
    refine wpAny_binaryOp_repeat_ref (T := "tuple") (U := "int") (by decide) ⟨_, ho, rfl⟩ (fun s' => typeIs_int s' k t) noFill_tuple_mul F.fills_int_mul F.slot_int_rmul repeat_tuple F.slot_int_index.lookup
      (call_meets F.slot_int_rmul (typeIs_int s k t) F.entry_int_rmul (F.args_int_rmul_2 _ _) (int_rmul_tuple k t l its.toArray n dd sl) ⟨ho, rfl, ⟨_, ho, rfl⟩, ?_⟩)
    refine call_meets F.slot_tuple_mul ⟨_, ho, rfl⟩ F.entry_tuple_mul (F.args_tuple_mul_2 _ _) (tuple_mulW l its.toArray n dd sl k t d0 d1 d2 (by omega) d4 (by rw [size_rep, List.size_toArray]; exact fl)) ⟨ho, ?_⟩
    rw [size_rep]
    refine ⟨.ref s.heap.objs.size, _, I.laid (t' := s.toks) (o := .tup (List.replicate k.toNat xs).flatten) (fun b ob q => Heap.get?_push_of_some _ q) (Nat.le_refl _) ?_, rfl, q _ (I.hok.fresh (Nat.le_refl _))⟩
    exact ⟨by rw [PyProof.Rows.lm_len_rep_flat, sizeLine_eq, Nat.mul_comm]; omega, _, r.rep k.toNat, IsTup.new _ _⟩
theorem op_mulY : OpR X (binaryOp .Mult) (rI mulOk fun i j => .int (i * j)) := opI fun _ _ _ _ _ _ _ hc q => mul_int q (mulOk_ok hc)
theorem p_mul (fit : Fits Φ X) : OpR X (binaryOp .Mult) (rd2 Φ dMul) := by
  intro pins s σ H x y v u Q I rx ry hq
  obtain ⟨m, z, G, a, b, d, r, va, vb, e, q⟩ := hq
  unfold dMul at e
  split at e
  · obtain ⟨hl, rfl⟩ := gd_some e
    exact op_mulY pins s σ H x y v u Q I rx ry ⟨_, _, vd_int va, vd_int vb, hl, q _ H (Same.refl H) mk_int⟩
  · obtain ⟨⟨h1, h2, hl⟩, rfl⟩ := gd_some e
    obtain ⟨p, vs, rfl, tp, dp⟩ := vd_lst va
    cases vd_int vb
    refine op_rep pins s σ H _ _ v u Q I rx ry ⟨p, _, vs, rfl, rfl, tp.1, h1, h2, ?_, fun l hl' => ?_⟩
    · rw [← dp.length, sizeLine_eq]
      exact hl
    · exact q _ _ (same_upd hl') (mk_lst r hl' (vds_rep dp _))
  · obtain ⟨⟨h1, h2, hl⟩, rfl⟩ := gd_some e
    obtain ⟨p, vs, rfl, tp, dp⟩ := vd_tup va
    cases vd_int vb
    have hl' := dp.length
    have hne : vs ≠ [] := by
      intro h0
      rw [h0] at hl'
      simp at hl'
      rw [hl'] at h1
      exact absurd h1 (Nat.lt_irrefl 0)
    rename_i xs k
    by_cases k1 : k = 1
    · subst k1
      refine op_repTA pins s σ H _ _ v u Q I rx ry ⟨p, _, vs, rfl, rfl, by rw [fit.K]; exact tp.sq, hne, .inl ⟨rfl, ?_⟩⟩
      have e1 : (List.replicate (1 : Int).toNat xs).flatten = xs := by simp
      rw [e1] at q
      exact q _ H (Same.refl H) va
    · refine op_repTA pins s σ H _ _ v u Q I rx ry ⟨p, _, vs, rfl, rfl, by rw [fit.K]; exact tp.sq, hne, .inr ⟨by omega, by rw [← hl']; exact hl, fun l hl' => ?_⟩⟩
      exact q _ _ (same_upd hl') (mk_tup r hl' (vds_rep dp _))
  · cases e
theorem op_fdivY : OpR X (binaryOp .FloorDiv) (rI (fun _ j => divOk j) fun i j => .int (i.fdiv j)) := opI fun i j _ _ _ _ _ hc q => floordiv_int hc.1 q (.inl (PyProof.noPylong_of_log2 hc.2))
theorem p_fdiv : OpR X (binaryOp .FloorDiv) (rd2 Φ dFdiv) := opD_int op_fdivY fun G a b d e => by
  unfold dFdiv at e
  split at e <;> first | (obtain ⟨h, rfl⟩ := gd_some e; exact ⟨_, _, rfl, rfl, h, fun _ _ _ => mk_int⟩) | cases e
theorem p_mod : OpR X (binaryOp .Mod) (rd2 Φ dMod) := opD_int op_modN fun G a b d e => by
  unfold dMod at e
  split at e <;> first | (obtain ⟨h, rfl⟩ := gd_some e; exact ⟨_, _, rfl, rfl, h, fun _ _ _ => mk_int⟩) | cases e
theorem p_pow : OpR X (binaryOp .Pow) (rd2 Φ dPow) := opD_int op_pow fun G a b d e => by
  unfold dPow at e
  split at e <;> first | (obtain ⟨h, rfl⟩ := gd_some e; exact ⟨_, _, rfl, rfl, h, fun _ _ _ => mk_int⟩) | cases e
theorem p_shl : OpR X (binaryOp .LShift) (rd2 Φ dShl) := opD_int op_shlW fun G a b d e => by
  unfold dShl at e
  split at e <;> first | (obtain ⟨h, rfl⟩ := gd_some e; exact ⟨_, _, rfl, rfl, shlOk_ok h, fun _ _ _ => mk_int⟩) | cases e
theorem p_shr : OpR X (binaryOp .RShift) (rd2 Φ dShr) := opD_int op_shr fun G a b d e => by
  unfold dShr at e
  split at e <;> first | (obtain ⟨h, rfl⟩ := gd_some e; exact ⟨_, _, rfl, rfl, h, fun _ _ _ => mk_int⟩) | cases e
theorem p_and : OpR X (binaryOp .BitAnd) (rd2 Φ dAnd) := opD_int0 op_and fun G a b d e => by
  unfold dAnd at e
  split at e <;> first | (cases e; exact ⟨_, _, rfl, rfl, fun _ _ _ => mk_int⟩) | cases e
theorem p_or : OpR X (binaryOp .BitOr) (rd2 Φ dOr) := opD_int0 op_or fun G a b d e => by
  unfold dOr at e
  split at e <;> first | (cases e; exact ⟨_, _, rfl, rfl, fun _ _ _ => mk_int⟩) | cases e
theorem p_xor : OpR X (binaryOp .BitXor) (rd2 Φ dXor) := opD_int0 op_xor fun G a b d e => by
  unfold dXor at e
  split at e <;> first | (cases e; exact ⟨_, _, rfl, rfl, fun _ _ _ => mk_int⟩) | cases e
theorem p_lt : OpR X (compareOp .Lt) (rd2 Φ dLt) := opD_int0 op_lt fun G a b d e => by
  unfold dLt at e
  split at e <;> first | (cases e; exact ⟨_, _, rfl, rfl, fun _ _ _ => mk_bl⟩) | cases e
theorem p_le : OpR X (compareOp .LtE) (rd2 Φ dLe) := opD_int0 op_le fun G a b d e => by
  unfold dLe at e
  split at e <;> first | (cases e; exact ⟨_, _, rfl, rfl, fun _ _ _ => mk_bl⟩) | cases e
theorem p_gt : OpR X (compareOp .Gt) (rd2 Φ dGt) := opD_int0 op_gt fun G a b d e => by
  unfold dGt at e
  split at e <;> first | (cases e; exact ⟨_, _, rfl, rfl, fun _ _ _ => mk_bl⟩) | cases e
theorem p_ge : OpR X (compareOp .GtE) (rd2 Φ dGe) := opD_int0 op_ge fun G a b d e => by
  unfold dGe at e
  split at e <;> first | (cases e; exact ⟨_, _, rfl, rfl, fun _ _ _ => mk_bl⟩) | cases e
theorem p_neg : UnR X (unaryOp .USub) (rd1 Φ dNeg) := by
  intro pins s σ H x v Q I rx hq
  obtain ⟨m, z, G, a, d, r, va, e, q⟩ := hq
  unfold dNeg at e
  split at e
  · cases e
    exact un_neg pins s σ H x v Q I rx ⟨_, vd_int va, q _ H (Same.refl H) mk_int⟩
  · cases e
theorem p_inv : UnR X (unaryOp .Invert) (rd1 Φ dInv) := by
  intro pins s σ H x v Q I rx hq
  obtain ⟨m, z, G, a, d, r, va, e, q⟩ := hq
  unfold dInv at e
  split at e
  · cases e
    exact un_inv pins s σ H x v Q I rx ⟨_, vd_int va, q _ H (Same.refl H) mk_int⟩
  · cases e
end

/-! ### == -/
mutual
def D.eqv : D → D → Bool
  | .non, .non => true
  | .bl a, .bl b => a == b
  | .bl a, .int j => (if a then 1 else 0) == j
  | .int i, .bl b => i == (if b then 1 else 0)
  | .int i, .int j => i == j
  | .str x, .str y => x == y
  | .tup xs, .tup ys => D.eqvs xs ys
  | .lst xs, .lst ys => D.eqvs xs ys
  | .lst xs, .scr ys => D.eqvs xs ys
  | .scr xs, .lst ys => D.eqvs xs ys
  | .scr xs, .scr ys => D.eqvs xs ys
  | _, _ => false
def D.eqvs : List D → List D → Bool
  | [], [] => true
  | x :: xs, y :: ys => D.eqv x y && D.eqvs xs ys
  | _, _ => false
end
mutual
/-- plain data, not too deep -/
def D.pln : Nat → D → Bool
  | _, .non => true
  | _, .bl _ => true
  | _, .int _ => true
  | _, .str _ => true
  | n + 1, .tup xs => D.plns n xs
  | n + 1, .lst xs => D.plns n xs
  | n + 1, .scr xs => D.plns n xs
  | _, _ => false
def D.plns : Nat → List D → Bool
  | _, [] => true
  | n, x :: xs => D.pln n x && D.plns n xs
end
mutual
def D.py : D → PyData
  | .bl b => .bool b
  | .int i => .int i
  | .str s => .str (Str.ofString s)
  | .tup xs => .tuple (D.pys xs)
  | .lst xs => .list (D.pys xs)
  | .scr xs => .list (D.pys xs)
  | _ => .none
def D.pys : List D → List PyData
  | [] => []
  | x :: xs => D.py x :: D.pys xs
end
mutual
theorem eqv_py : ∀ (a b : D) (n k : Nat), D.pln n a = true → D.pln k b = true → PyData.eqv (D.py a) (D.py b) = D.eqv a b
  | .non, b, n, k, ha, hb => by cases b <;> first | rfl | (simp [D.pln] at hb)
  | .bl x, b, n, k, ha, hb => by cases b <;> first | rfl | (simp [D.pln] at hb)
  | .int x, b, n, k, ha, hb => by cases b <;> first | rfl | (simp [D.pln] at hb)
  | .str x, b, n, k, ha, hb => by
    cases b <;> first | rfl | (simp [D.pln] at hb; done) | skip
    show (Str.ofString _ == Str.ofString _) = _
    exact ofString_eq
  | .tup xs, b, n, k, ha, hb => by
    cases n with
    | zero => simp [D.pln] at ha
    | succ n =>
      cases b <;> first | rfl | (simp [D.pln] at hb; done) | skip
      rename_i ys
      cases k with
      | zero => simp [D.pln] at hb
      | succ k => exact eqv_pys xs ys n k (by simpa only [D.pln] using ha) (by simpa only [D.pln] using hb)
  | .lst xs, b, n, k, ha, hb => by
    cases n with
    | zero => simp [D.pln] at ha
    | succ n =>
      cases b <;> first | rfl | (simp [D.pln] at hb; done) | skip
      all_goals
        rename_i ys
        cases k with
        | zero => simp [D.pln] at hb
        | succ k => exact eqv_pys xs ys n k (by simpa only [D.pln] using ha) (by simpa only [D.pln] using hb)
  | .scr xs, b, n, k, ha, hb => by
    cases n with
    | zero => simp [D.pln] at ha
    | succ n =>
      cases b <;> first | rfl | (simp [D.pln] at hb; done) | skip
      all_goals
        rename_i ys
        cases k with
        | zero => simp [D.pln] at hb
        | succ k => exact eqv_pys xs ys n k (by simpa only [D.pln] using ha) (by simpa only [D.pln] using hb)
  | .dct _ _, b, n, k, ha, hb => by simp [D.pln] at ha
  | .ref _, b, n, k, ha, hb => by simp [D.pln] at ha
  | .fn _, b, n, k, ha, hb => by simp [D.pln] at ha
  | .ty _, b, n, k, ha, hb => by simp [D.pln] at ha
  | .obj _ _ _, b, n, k, ha, hb => by simp [D.pln] at ha
theorem eqv_pys : ∀ (a b : List D) (n k : Nat), D.plns n a = true → D.plns k b = true → PyData.eqvAll (D.pys a) (D.pys b) = D.eqvs a b
  | [], [], _, _, _, _ => rfl
  | [], _ :: _, _, _, _, _ => rfl
  | _ :: _, [], _, _, _, _ => rfl
  | x :: xs, y :: ys, n, k, ha, hb => by
    simp only [D.plns, Bool.and_eq_true] at ha hb
    simp only [D.pys, PyData.eqvAll, D.eqvs]
    rw [eqv_py x y n k ha.1 hb.1, eqv_pys xs ys n k ha.2 hb.2]
end
theorem strOk_of (s : String) : PyData.strOk (Str.ofString s) = true := by
  unfold PyData.strOk
  rw [← Array.all_toList, ofString_list, List.all_eq_true]
  intro c hc
  obtain ⟨x, _, rfl⟩ := List.mem_map.mp hc
  have h := x.valid
  have ht : x.toNat = x.val.toNat := rfl
  simp only [UInt32.isValidChar, Nat.isValidChar] at h
  rw [ht]
  simp only [decide_eq_true_eq]
  omega
mutual
theorem pln_shape : ∀ (a : D) (n : Nat), D.pln n a = true → PyData.canLay0 (D.py a) = true ∧ PyData.depth (D.py a) ≤ n
  | .non, n, h => by simp [D.py, PyData.canLay0, PyData.depth]
  | .bl x, n, h => by simp [D.py, PyData.canLay0, PyData.depth]
  | .int x, n, h => by simp [D.py, PyData.canLay0, PyData.depth]
  | .str x, n, h => by simp [D.py, PyData.canLay0, PyData.depth, strOk_of]
  | .tup xs, 0, h => by simp [D.pln] at h
  | .lst xs, 0, h => by simp [D.pln] at h
  | .scr xs, 0, h => by simp [D.pln] at h
  | .tup xs, n + 1, h => by
    have := plns_shape xs n (by simpa only [D.pln] using h)
    simp only [D.py, PyData.canLay0, PyData.depth]
    exact ⟨this.1, Nat.succ_le_succ this.2⟩
  | .lst xs, n + 1, h => by
    have := plns_shape xs n (by simpa only [D.pln] using h)
    simp only [D.py, PyData.canLay0, PyData.depth]
    exact ⟨this.1, Nat.succ_le_succ this.2⟩
  | .scr xs, n + 1, h => by
    have := plns_shape xs n (by simpa only [D.pln] using h)
    simp only [D.py, PyData.canLay0, PyData.depth]
    exact ⟨this.1, Nat.succ_le_succ this.2⟩
  | .dct _ _, n, h => by simp [D.pln] at h
  | .ref _, n, h => by simp [D.pln] at h
  | .fn _, n, h => by simp [D.pln] at h
  | .ty _, n, h => by simp [D.pln] at h
  | .obj _ _ _, n, h => by simp [D.pln] at h
theorem plns_shape : ∀ (a : List D) (n : Nat), D.plns n a = true → PyData.canLayAll0 (D.pys a) = true ∧ PyData.depthAll (D.pys a) ≤ n
  | [], n, h => by simp [D.pys, PyData.canLayAll0, PyData.depthAll]
  | x :: xs, n, h => by
    simp only [D.plns, Bool.and_eq_true] at h
    have h1 := pln_shape x n h.1
    have h2 := plns_shape xs n h.2
    simp only [D.pys, PyData.canLayAll0, PyData.depthAll, h1.1, h2.1, Bool.and_self, true_and]
    exact Nat.max_le.mpr ⟨h1.2, h2.2⟩
end
mutual
theorem dp_of {Φ : Fr} {m : List Addr} {y : Addr → Prop} {H : Hp} : ∀ (a : D) (n : Nat) (v : V), D.pln n a = true → Φ.vd m y H a v → Dp Φ.K H v (D.py a)
  | .non, n, v, h, d => by rw [vd_non d]; exact .non
  | .bl x, n, v, h, d => by rw [vd_bl d]; exact .bl x
  | .int x, n, v, h, d => by rw [vd_int d]; exact .int x
  | .str x, n, v, h, d => by rw [vd_str d]; exact .str _
  | .tup xs, 0, v, h, d => by simp [D.pln] at h
  | .lst xs, 0, v, h, d => by simp [D.pln] at h
  | .scr xs, 0, v, h, d => by simp [D.pln] at h
  | .tup xs, n + 1, v, h, d => by
    obtain ⟨a, vs, rfl, t, r⟩ := vd_tup d
    exact .tup t.sq (dps_of xs n vs (by simpa only [D.pln] using h) r)
  | .lst xs, n + 1, v, h, d => by
    obtain ⟨a, vs, rfl, t, r⟩ := vd_lst d
    exact .lst t.sq (dps_of xs n vs (by simpa only [D.pln] using h) r)
  | .scr xs, n + 1, v, h, d => by
    obtain ⟨a, vs, rfl, t, r⟩ := vd_scr d
    exact .lst t.sq (dps_of xs n vs (by simpa only [D.pln] using h) r)
  | .dct _ _, n, v, h, d => by simp [D.pln] at h
  | .ref _, n, v, h, d => by simp [D.pln] at h
  | .fn _, n, v, h, d => by simp [D.pln] at h
  | .ty _, n, v, h, d => by simp [D.pln] at h
  | .obj _ _ _, n, v, h, d => by simp [D.pln] at h
theorem dps_of {Φ : Fr} {m : List Addr} {y : Addr → Prop} {H : Hp} : ∀ (a : List D) (n : Nat) (vs : List V), D.plns n a = true → Φ.vds m y H a vs → DpAll Φ.K H vs (D.pys a)
  | [], n, vs, h, d => by simp only [Fr.vds, VDs] at d; subst d; exact .nil
  | x :: xs, n, vs, h, d => by
    simp only [D.plns, Bool.and_eq_true] at h
    obtain ⟨v, r, rfl, h1, h2⟩ := VDs.inv d
    exact .cons (dp_of x n v h.1 h1) (dps_of xs n r h.2 h2)
end
def dEq : G2 := fun _ a b => gd (D.pln 64 a = true ∧ D.pln 64 b = true) (.bl (D.eqv a b))
def dNe : G2 := fun _ a b => gd (D.pln 64 a = true ∧ D.pln 64 b = true) (.bl (!D.eqv a b))
theorem shaped_of {a : D} (h : D.pln 64 a = true) : SeqAt.shaped (D.py a) = true := by
  obtain ⟨h1, h2⟩ := pln_shape a 64 h
  unfold SeqAt.shaped
  rw [h1, decide_eq_true h2] <;> rfl
section
variable {Φ : Fr} {X : Cx}
theorem p_eq (fit : Fits Φ X) (hu : X.A.units + 64 < cLine) : OpR X (compareOp .Eq) (rd2 Φ dEq) := by
  intro pins s σ H x y v u Q I rx ry hq
  obtain ⟨m, z, G, a, b, d, r, va, vb, e, q⟩ := hq
  obtain ⟨⟨h1, h2⟩, rfl⟩ := gd_some e
  refine op_eqD hu pins s σ H x y v u Q I rx ry ⟨D.py a, D.py b, by rw [fit.K]; exact dp_of a 64 x h1 va, by rw [fit.K]; exact dp_of b 64 y h2 vb, shaped_of h1, shaped_of h2, ?_⟩
  rw [eqv_py a b 64 64 h1 h2]
  exact q _ H (Same.refl H) mk_bl
theorem p_ne (fit : Fits Φ X) (hu : X.A.units + 64 < cLine) : OpR X (compareOp .NotEq) (rd2 Φ dNe) := by
  intro pins s σ H x y v u Q I rx ry hq
  obtain ⟨m, z, G, a, b, d, r, va, vb, e, q⟩ := hq
  obtain ⟨⟨h1, h2⟩, rfl⟩ := gd_some e
  refine op_neD hu pins s σ H x y v u Q I rx ry ⟨D.py a, D.py b, by rw [fit.K]; exact dp_of a 64 x h1 va, by rw [fit.K]; exact dp_of b 64 y h2 vb, shaped_of h1, shaped_of h2, ?_⟩
  rw [eqv_py a b 64 64 h1 h2]
  exact q _ H (Same.refl H) mk_bl
end

/-! ### in -/
def D.flat : D → Bool
  | .non => true
  | .bl _ => true
  | .int _ => true
  | .str _ => true
  | _ => false
def D.items (G : GS) : D → Option (List D)
  | .tup xs => some xs
  | .lst xs => some xs
  | .scr xs => some xs
  | .ref i => G[i]?
  | _ => none
def dIn : G2 := fun G x c => (D.items G c).bind fun xs => gd (x.flat = true ∧ xs.all D.flat = true) (.bl (xs.any fun y => D.eqv y x))
def dNotIn : G2 := fun G x c => (D.items G c).bind fun xs => gd (x.flat = true ∧ xs.all D.flat = true) (.bl (!xs.any fun y => D.eqv y x))
section
variable {Φ : Fr} {X : Cx} {m : List Addr} {z : Addr → Prop} {H : Hp}
theorem flat_v {x : D} {v : V} (h : x.flat = true) (d : Φ.vd m z H x v) : flatV v = true := by
  cases x <;> first | (simp [D.flat] at h; done) | skip
  · rw [vd_non d] <;> rfl
  · rw [vd_bl d] <;> rfl
  · rw [vd_int d] <;> rfl
  · rw [vd_str d] <;> rfl
theorem eq_flat {x y : D} {v w : V} (hx : x.flat = true) (hy : y.flat = true) (d : Φ.vd m z H x v) (e : Φ.vd m z H y w) : eqV w v = D.eqv y x := by
  cases x <;> first | (simp [D.flat] at hx; done) | skip
  all_goals (cases y <;> first | (simp [D.flat] at hy; done) | skip)
  all_goals
    first
      | rw [vd_non d] | rw [vd_bl d] | rw [vd_int d] | rw [vd_str d]
    first
      | rw [vd_non e] | rw [vd_bl e] | rw [vd_int e] | rw [vd_str e]
  all_goals first
    | rfl
    | exact ofString_eq
theorem flats_v : ∀ {xs : List D} {vs : List V}, xs.all D.flat = true → Φ.vds m z H xs vs → vs.all flatV = true
  | [], _, _, d => by simp only [Fr.vds, VDs] at d; subst d; rfl
  | x :: xs, _, h, d => by
    obtain ⟨v, r, rfl, h1, h2⟩ := VDs.inv d
    rw [List.all_cons, Bool.and_eq_true] at h
    rw [List.all_cons, flat_v h.1 h1, flats_v h.2 h2] <;> rfl
theorem any_flat {x : D} {v : V} (hx : x.flat = true) (dx : Φ.vd m z H x v) : ∀ {xs : List D} {vs : List V}, xs.all D.flat = true → Φ.vds m z H xs vs → inV v vs = xs.any fun y => D.eqv y x
  | [], _, _, d => by simp only [Fr.vds, VDs] at d; subst d; rfl
  | y :: xs, _, h, d => by
    obtain ⟨w, r, rfl, h1, h2⟩ := VDs.inv d
    rw [List.all_cons, Bool.and_eq_true] at h
    show (eqV w v || inV v r) = _
    rw [eq_flat hx h.1 dx h1, any_flat hx dx h.2 h2, List.any_cons]
/-- the items of a list, a tuple, a cell -/
theorem items_of {G : GS} {c : D} {v : V} {xs : List D} (r : RelH Φ m z G H) (h : D.items G c = some xs) (d : Φ.vd m z H c v) : ∃ p vs, v = .ref p ∧ (SqL Φ.K H p vs ∨ SqT Φ.K H p vs) ∧ Φ.vds m z H xs vs := by
  cases c <;> simp only [D.items, reduceCtorEq, Option.some.injEq] at h
  · subst h
    obtain ⟨a, vs, e, t, q⟩ := vd_tup d
    exact ⟨a, vs, e, .inr t.sq, q⟩
  · subst h
    obtain ⟨a, vs, e, t, q⟩ := vd_lst d
    exact ⟨a, vs, e, .inl t.sq, q⟩
  · subst h
    obtain ⟨a, vs, e, t, q⟩ := vd_scr d
    exact ⟨a, vs, e, .inl t.sq, q⟩
  · obtain ⟨a, e, hm⟩ := vd_ref d
    obtain ⟨a', vs, h1, h2, h3⟩ := r.cl _ _ h
    rw [hm] at h1
    cases h1
    exact ⟨a, vs, e, .inl (.inl (.inl h2)), h3⟩
theorem p_in (fit : Fits Φ X) : OpR X (compareOp .In) (rd2 Φ dIn) := by
  intro pins s σ H x y v u Q I rx ry hq
  obtain ⟨m, z, G, a, b, d, r, va, vb, e, q⟩ := hq
  unfold dIn at e
  obtain ⟨xs, h1, h2⟩ := Option.bind_eq_some_iff.mp e
  obtain ⟨⟨fx, fs⟩, rfl⟩ := gd_some h2
  obtain ⟨p, vs, rfl, hs, ds⟩ := items_of r h1 vb
  refine op_in_seq pins s σ H x _ v u Q I rx ry ⟨p, vs, rfl, by rw [fit.K]; exact hs, flat_v fx va, flats_v fs ds, ?_⟩
  rw [any_flat fx va fs ds]
  exact q _ H (Same.refl H) mk_bl
theorem p_notIn (fit : Fits Φ X) : OpR X (compareOp .NotIn) (rd2 Φ dNotIn) := by
  intro pins s σ H x y v u Q I rx ry hq
  obtain ⟨m, z, G, a, b, d, r, va, vb, e, q⟩ := hq
  unfold dNotIn at e
  obtain ⟨xs, h1, h2⟩ := Option.bind_eq_some_iff.mp e
  obtain ⟨⟨fx, fs⟩, rfl⟩ := gd_some h2
  obtain ⟨p, vs, rfl, hs, ds⟩ := items_of r h1 vb
  refine op_notIn_seq pins s σ H x _ v u Q I rx ry ⟨p, vs, rfl, by rw [fit.K]; exact hs, flat_v fx va, flats_v fs ds, ?_⟩
  rw [any_flat fx va fs ds]
  exact q _ H (Same.refl H) mk_bl
end

/-! ### is -/
def D.isNon : D → Bool
  | .non => true
  | _ => false
def dIs : G2
  | _, .fn _, _ => none
  | _, .bl a, .bl b => some (.bl (a == b))
  | _, x, .non => some (.bl x.isNon)
  | _, _, _ => none
def dIsNot : G2
  | _, .fn _, _ => none
  | _, .bl a, .bl b => some (.bl (!(a == b)))
  | _, x, .non => some (.bl (!x.isNon))
  | _, _, _ => none
section
variable {Φ : Fr} {X : Cx} {m : List Addr} {z : Addr → Prop} {H : Hp}
theorem isNon_v {x : D} {v : V} (h : ∀ f, x ≠ .fn f) (d : Φ.vd m z H x v) : decide (v = .non) = x.isNon := by
  cases x with
  | non => rw [vd_non d]; rfl
  | bl b => rw [vd_bl d]; rfl
  | int i => rw [vd_int d]; rfl
  | str s => rw [vd_str d]; rfl
  | tup xs => obtain ⟨_, _, rfl, _⟩ := vd_tup d; rfl
  | lst xs => obtain ⟨_, _, rfl, _⟩ := vd_lst d; rfl
  | scr xs => obtain ⟨_, _, rfl, _⟩ := vd_scr d; rfl
  | dct ks xs => simp only [Fr.vd, VD] at d; obtain ⟨_, _, rfl, _⟩ := d; rfl
  | ref i => obtain ⟨_, rfl, _⟩ := vd_ref d; rfl
  | fn f => exact absurd rfl (h f)
  | ty n => rw [vd_ty d]; rfl
  | obj c fs xs => simp only [Fr.vd, VD] at d; obtain ⟨_, _, _, _, rfl, _⟩ := d; rfl
theorem p_is : OpR X (compareOp .Is) (rd2 Φ dIs) := by
  intro pins s σ H x y v u Q I rx ry hq
  obtain ⟨m, z, G, a, b, d, r, va, vb, e, q⟩ := hq
  unfold dIs at e
  split at e
  · cases e
  · cases e
    refine op_is_bl pins s σ H x y v u Q I rx ry ⟨_, _, vd_bl va, vd_bl vb, ?_⟩
    rw [← Bool.beq_eq_decide_eq]
    exact q _ H (Same.refl H) mk_bl
  · cases e
    rename_i hf
    refine op_isN pins s σ H x y v u Q I rx ry ⟨vd_non vb, ?_⟩
    rw [isNon_v (fun f => by intro e2; subst e2; exact hf f rfl) va]
    exact q _ H (Same.refl H) mk_bl
  · cases e
theorem p_isNot : OpR X (compareOp .IsNot) (rd2 Φ dIsNot) := by
  intro pins s σ H x y v u Q I rx ry hq
  obtain ⟨m, z, G, a, b, d, r, va, vb, e, q⟩ := hq
  unfold dIsNot at e
  split at e
  · cases e
  · cases e
    refine op_isnot_bl pins s σ H x y v u Q I rx ry ⟨_, _, vd_bl va, vd_bl vb, ?_⟩
    rw [← Bool.beq_eq_decide_eq]
    exact q _ H (Same.refl H) mk_bl
  · cases e
    rename_i hf
    refine op_notN pins s σ H x y v u Q I rx ry ⟨vd_non vb, ?_⟩
    rw [isNon_v (fun f => by intro e2; subst e2; exact hf f rfl) va]
    exact q _ H (Same.refl H) mk_bl
  · cases e
end

/-! ### isinstance -/
def D.tyN : D → String
  | .non => "NoneType"
  | .bl _ => "bool"
  | .int _ => "int"
  | .str _ => "str"
  | .tup _ => "tuple"
  | .lst _ => "list"
  | .scr _ => "list"
  | .dct _ _ => "dict"
  | _ => ""
/-- of the names of built-in classes that are asked -/
def isiB (t n : String) : Bool := t == n || (t == "bool" && n == "int")
def askd (n : String) : Bool := n == "int" || n == "bool" || n == "str" || n == "tuple" || n == "list" || n == "dict"
def tyNs : List D → Option (List String)
  | [] => some []
  | .ty n :: r => if askd n then (tyNs r).map (n :: ·) else none
  | _ => none
def dIsi : GN
  | _, [x, .ty n] => gd (x.tyN ≠ "" ∧ askd n = true) (.bl (isiB x.tyN n))
  | _, [x, .tup cs] => if x.tyN ≠ "" then (tyNs cs).map fun ns => .bl (ns.any (isiB x.tyN)) else none
  | _, _ => none
section
variable {Φ : Fr} {X : Cx} {m : List Addr} {z : Addr → Prop} {H : Hp}
theorem kit_B (K : PySem.W.Frag) {x : D} (h : x.tyN ≠ "") {n : String} (hn : askd n = true) : PySem.W.kitOne K (.type x.tyN) (.type n) = some (isiB x.tyN n) := by
  simp only [askd, Bool.or_eq_true, beq_iff_eq] at hn
  cases x <;> first | (exact absurd rfl h) | skip
  all_goals
    simp only [D.tyN]
    rcases hn with ((((rfl | rfl) | rfl) | rfl) | rfl) | rfl <;> first | rfl | decide +kernel
theorem ty_of {x : D} {v : V} (h : x.tyN ≠ "") (d : Φ.vd m z H x v) : TyX Φ.K H v (.type x.tyN) := by
  cases x with
  | non => rw [vd_non d]; exact .base .non
  | bl b => rw [vd_bl d]; exact .base (.bl b)
  | int i => rw [vd_int d]; exact .base (.int i)
  | str s => rw [vd_str d]; exact .base (.str _)
  | tup xs =>
    obtain ⟨a, vs, rfl, t, _⟩ := vd_tup d
    rcases t with ⟨t, _⟩ | ⟨o, its, n, h1, h2, _⟩
    · exact .base (.tup t)
    · exact .kTuple h1 h2
  | lst xs =>
    obtain ⟨a, vs, rfl, t, _⟩ := vd_lst d
    exact .base (.lst t.1)
  | scr xs =>
    obtain ⟨a, vs, rfl, t, _⟩ := vd_scr d
    rcases t with ⟨t | ⟨o, t⟩, _⟩ | ⟨o, its, n, h1, h2, _⟩
    · exact .base (.lst t)
    · exact .base (.frz t)
    · exact .kList h1 h2
  | dct ks xs =>
    simp only [Fr.vd, VD] at d
    obtain ⟨a, vs, rfl, ⟨t, _⟩, _⟩ := d
    exact .base (.dK t)
  | ref i => exact absurd rfl h
  | fn f => exact absurd rfl h
  | ty n => exact absurd rfl h
  | obj c fs xs => exact absurd rfl h
theorem kit_L (K : PySem.W.Frag) {x : D} (h : x.tyN ≠ "") : ∀ {cs : List D} {ns : List String} {vs : List V}, tyNs cs = some ns → Φ.vds m z H cs vs →
    ∃ us, Paired ClsV vs us ∧ PySem.W.kitAny K (.type x.tyN) us = some (ns.any (isiB x.tyN))
  | [], b, vs, e, d => by
    simp only [Fr.vds, VDs] at d
    subst d
    cases e
    exact ⟨[], .nil, rfl⟩
  | c :: cs, b, vs, e, d => by
    obtain ⟨v, r, rfl, h1, h2⟩ := VDs.inv d
    cases c <;> simp only [tyNs, reduceCtorEq] at e
    rename_i n
    by_cases hn : askd n = true
    · rw [if_pos hn] at e
      obtain ⟨ns, e1, rfl⟩ := Option.map_eq_some_iff.mp e
      have hv := vd_ty h1
      subst hv
      have hk := kit_B K h hn
      obtain ⟨us, hp, hq⟩ := kit_L K h e1 h2
      refine ⟨_, .cons (.ty n) hp, ?_⟩
      simp only [PySem.W.kitAny, hk, List.any_cons]
      cases hb : isiB x.tyN n with
      | true => rfl
      | false => exact hq
    · rw [if_neg hn] at e
      cases e
theorem p_isi (fit : Fits Φ X) : CallR X (.builtin "isinstance") (rdN Φ dIsi) := by
  intro pins s σ H xs us Q I r h
  obtain ⟨m, z, G, as, d, rl, va, e, q⟩ := h
  unfold dIsi at e
  split at e
  · obtain ⟨⟨h1, h2⟩, rfl⟩ := gd_some e
    obtain ⟨v, r1, rfl, d1, d2⟩ := VDs.inv va
    obtain ⟨w, r2, rfl, d3, d4⟩ := VDs.inv d2
    simp only [VDs] at d4
    subst d4
    cases vd_ty d3
    refine call_isi pins s σ H _ us Q I r ⟨v, _, _, _, _, rfl, .ty _, by rw [fit.K]; exact ty_of h1 d1, kit_B X.K h1 h2, q _ H (Same.refl H) mk_bl⟩
  · split at e
    · rename_i h1
      obtain ⟨ns, e1, rfl⟩ := Option.map_eq_some_iff.mp e
      obtain ⟨v, r1, rfl, d1, d2⟩ := VDs.inv va
      obtain ⟨w, r2, rfl, d3, d4⟩ := VDs.inv d2
      simp only [VDs] at d4
      subst d4
      obtain ⟨a, vs, rfl, t, d5⟩ := vd_tup d3
      obtain ⟨us', hp, hq⟩ := kit_L X.K h1 e1 d5
      rcases t with ⟨t, _⟩ | ⟨o, its, n, k1, k2, k3, k4, k5⟩
      · exact call_isiT pins s σ H _ us Q I r ⟨v, a, vs, _, us', _, rfl, t, hp, by rw [fit.K]; exact ty_of h1 d1, hq, q _ H (Same.refl H) mk_bl⟩
      · obtain ⟨oc, od, dt, osl⟩ := o
        simp only at k2 k3
        subst k2 k3
        have e3 := ClsV.all hp k5
        refine call_isiK pins s σ H _ us Q I r ⟨v, a, od, us', n, osl, _, _, rfl, ?_, by rw [fit.K]; exact ty_of h1 d1, hq, q _ H (Same.refl H) mk_bl⟩
        rw [← e3, fit.K]
        simpa using k1
    · cases e
  · cases e
end
end Wd
/-! Wd, part D: built-ins, subscripts, slices, methods that read. -/
namespace Wd
open PySem PySem.Spec PyProof.Rows L2

def asBs : List D → Option (List Bool)
  | [] => some []
  | .bl b :: r => (asBs r).map (b :: ·)
  | _ => none
def asIs : List D → Option (List Int)
  | [] => some []
  | .int b :: r => (asIs r).map (b :: ·)
  | _ => none
@[simp] theorem asIs_map (ns : List Int) : asIs (ns.map D.int) = some ns := by
  induction ns with
  | nil => rfl
  | cons n r ih => simp only [List.map_cons, asIs, ih, Option.map_some]
@[simp] theorem asBs_map (ns : List Bool) : asBs (ns.map D.bl) = some ns := by
  induction ns with
  | nil => rfl
  | cons n r ih => simp only [List.map_cons, asBs, ih, Option.map_some]
def dLen : GN
  | G, [x] => match x with
    | .str s => gd (s.length ≤ SL) (.int s.length)
    | x => (D.items G x).map fun xs => .int xs.length
  | _, _ => none
def dAbs : GN
  | _, [.int i] => some (.int (i.natAbs : Int))
  | _, _ => none
def dInt : GN
  | _, [.int i] => some (.int i)
  | _, [.bl b] => some (.int (if b then 1 else 0))
  | _, _ => none
def dMax2 : GN
  | _, [.int i, .int j] => some (.int (max i j))
  | _, _ => none
def dMin2 : GN
  | _, [.int i, .int j] => some (.int (min i j))
  | _, _ => none
def lItems (G : GS) : D → Option (List D)
  | .lst xs => some xs
  | .scr xs => some xs
  | .ref i => G[i]?
  | _ => none
def dAll : GN
  | G, [x] => (lItems G x).bind fun xs => (asBs xs).map fun bs => .bl (bs.all id)
  | _, _ => none
def dAny : GN
  | G, [x] => (lItems G x).bind fun xs => (asBs xs).map fun bs => .bl (bs.any id)
  | _, _ => none
def dSum : GN
  | G, [x] => (lItems G x).bind fun xs => (asIs xs).map fun ns => .int ns.sum
  | _, _ => none
def maxL : List Int → Option Int
  | [] => none
  | x :: r => some (r.foldl max x)
def minL : List Int → Option Int
  | [] => none
  | x :: r => some (r.foldl min x)
def dMaxL : GN
  | G, [x] => (lItems G x).bind fun xs => (asIs xs).bind fun ns => (maxL ns).map .int
  | _, _ => none
def dMinL : GN
  | G, [x] => (lItems G x).bind fun xs => (asIs xs).bind fun ns => (minL ns).map .int
  | _, _ => none
def isort (ns : List Int) : List Int := ns.mergeSort (fun x y => decide (x ≤ y))
def dSorted : GS → List D → Option (List D)
  | G, [x] => (lItems G x).bind fun xs => (asIs xs).map fun ns => (isort ns).map .int
  | _, _ => none
def dList : GS → List D → Option (List D)
  | G, [x] => D.items G x
  | _, _ => none
def dTuple : GN
  | G, [x] => (D.items G x).map .tup
  | _, _ => none
section
variable {Φ : Fr} {X : Cx} {m : List Addr} {z : Addr → Prop} {H : Hp}
theorem vds_int : ∀ {ns : List Int} {vs : List V}, Φ.vds m z H (ns.map .int) vs → vs = ns.map .int
  | [], _, d => by simpa only [Fr.vds, List.map_nil, VDs] using d
  | n :: ns, _, d => by
    obtain ⟨v, r, rfl, h1, h2⟩ := VDs.inv d
    rw [vd_int h1, vds_int h2] <;> rfl
theorem vds_bl : ∀ {ns : List Bool} {vs : List V}, Φ.vds m z H (ns.map .bl) vs → vs = ns.map .bl
  | [], _, d => by simpa only [Fr.vds, List.map_nil, VDs] using d
  | n :: ns, _, d => by
    obtain ⟨v, r, rfl, h1, h2⟩ := VDs.inv d
    rw [vd_bl h1, vds_bl h2] <;> rfl
theorem mk_ints : ∀ {ns : List Int}, Φ.vds m z H (ns.map .int) (ns.map .int)
  | [] => .nil
  | n :: ns => .cons mk_int mk_ints
theorem asIs_eq : ∀ {xs : List D} {ns : List Int}, asIs xs = some ns → xs = ns.map .int
  | [], _, e => by cases e; rfl
  | x :: xs, _, e => by
    cases x <;> simp only [asIs, reduceCtorEq] at e
    obtain ⟨r, e1, rfl⟩ := Option.map_eq_some_iff.mp e
    rw [asIs_eq e1] <;> rfl
theorem asBs_eq : ∀ {xs : List D} {ns : List Bool}, asBs xs = some ns → xs = ns.map .bl
  | [], _, e => by cases e; rfl
  | x :: xs, _, e => by
    cases x <;> simp only [asBs, reduceCtorEq] at e
    obtain ⟨r, e1, rfl⟩ := Option.map_eq_some_iff.mp e
    rw [asBs_eq e1] <;> rfl
theorem vds_one {x : D} {vs : List V} (d : Φ.vds m z H [x] vs) : ∃ v, vs = [v] ∧ Φ.vd m z H x v := by
  obtain ⟨v, r, rfl, h1, h2⟩ := VDs.inv d
  simp only [VDs] at h2
  subst h2
  exact ⟨v, rfl, h1⟩
theorem vds_two {x x' : D} {vs : List V} (d : Φ.vds m z H [x, x'] vs) : ∃ v w, vs = [v, w] ∧ Φ.vd m z H x v ∧ Φ.vd m z H x' w := by
  obtain ⟨v, r, rfl, h1, h2⟩ := VDs.inv d
  obtain ⟨w, rfl, h3⟩ := vds_one h2
  exact ⟨v, w, rfl, h1, h3⟩
theorem litems_of {G : GS} {c : D} {v : V} {xs : List D} (r : RelH Φ m z G H) (h : lItems G c = some xs) (d : Φ.vd m z H c v) : ∃ p vs, v = .ref p ∧ SqL Φ.K H p vs ∧ Φ.vds m z H xs vs := by
  cases c <;> simp only [lItems, reduceCtorEq, Option.some.injEq] at h
  · subst h
    obtain ⟨a, vs, e, t, q⟩ := vd_lst d
    exact ⟨a, vs, e, t.sq, q⟩
  · subst h
    obtain ⟨a, vs, e, t, q⟩ := vd_scr d
    exact ⟨a, vs, e, t.sq, q⟩
  · obtain ⟨a, e, hm⟩ := vd_ref d
    obtain ⟨a', vs, h1, h2, h3⟩ := r.cl _ _ h
    rw [hm] at h1
    cases h1
    exact ⟨a, vs, e, .inl (.inl h2), h3⟩
theorem p_len (fit : Fits Φ X) : CallR X (.builtin "len") (rdN Φ dLen) := by
  intro pins s σ H xs us Q I r h
  obtain ⟨m, z, G, as, d, rl, va, e, q⟩ := h
  unfold dLen at e
  split at e
  · obtain ⟨v, rfl, hv⟩ := vds_one va
    split at e
    · obtain ⟨h1, rfl⟩ := gd_some e
      rename_i s'
      refine call_len pins s σ H _ us Q I r ⟨v, s'.length, rfl, ?_, ?_⟩
      · rw [vd_str hv]
        exact ⟨by rw [ofString_len, sizeLine_eq]; exact h1, (ofString_len _).symm⟩
      · exact q _ H (Same.refl H) mk_int
    · obtain ⟨ys, h1, rfl⟩ := Option.map_eq_some_iff.mp e
      obtain ⟨p, vs, rfl, hs, ds⟩ := items_of rl h1 hv
      refine call_len pins s σ H _ us Q I r ⟨_, vs.length, rfl, ?_, ?_⟩
      · rw [fit.K]
        rcases hs with hs | hs
        · exact .inl ⟨vs, hs, rfl⟩
        · exact .inr ⟨vs, hs, rfl⟩
      · have hl := ds.length
        rw [← hl]
        exact q _ H (Same.refl H) mk_int
  · cases e
theorem p_abs : CallR X (.builtin "abs") (rdN Φ dAbs) := by
  intro pins s σ H xs us Q I r h
  obtain ⟨m, z, G, as, d, rl, va, e, q⟩ := h
  unfold dAbs at e
  split at e
  · cases e
    obtain ⟨v, rfl, hv⟩ := vds_one va
    refine call_abs pins s σ H _ us Q I r ⟨_, by rw [vd_int hv], ?_⟩
    rename_i i
    have : (if i < 0 then -i else i) = (i.natAbs : Int) := by split <;> omega
    rw [this]
    exact q _ H (Same.refl H) mk_int
  · cases e
theorem p_int : CallR X (.type "int") (rdN Φ dInt) := by
  intro pins s σ H xs us Q I r h
  obtain ⟨m, z, G, as, d, rl, va, e, q⟩ := h
  unfold dInt at e
  split at e
  · cases e
    obtain ⟨v, rfl, hv⟩ := vds_one va
    exact call_int1 pins s σ H _ us Q I r (.inl ⟨_, by rw [vd_int hv], q _ H (Same.refl H) mk_int⟩)
  · cases e
    obtain ⟨v, rfl, hv⟩ := vds_one va
    exact call_int1 pins s σ H _ us Q I r (.inr ⟨_, by rw [vd_bl hv], q _ H (Same.refl H) mk_int⟩)
  · cases e
theorem p_max2 (hc : X.calm = true) : CallR X (.builtin "max") (rdN Φ dMax2) := by
  intro pins s σ H xs us Q I r h
  obtain ⟨m, z, G, as, d, rl, va, e, q⟩ := h
  unfold dMax2 at e
  split at e
  · cases e
    obtain ⟨v, w, rfl, hv, hw⟩ := vds_two va
    refine call_max2 hc pins s σ H _ us Q I r ⟨_, _, by rw [vd_int hv, vd_int hw], ?_⟩
    rename_i i j
    have : (if j > i then j else i) = max i j := by split <;> omega
    rw [this]
    exact q _ H (Same.refl H) mk_int
  · cases e
theorem p_min2 (hc : X.calm = true) : CallR X (.builtin "min") (rdN Φ dMin2) := by
  intro pins s σ H xs us Q I r h
  obtain ⟨m, z, G, as, d, rl, va, e, q⟩ := h
  unfold dMin2 at e
  split at e
  · cases e
    obtain ⟨v, w, rfl, hv, hw⟩ := vds_two va
    refine call_min2 hc pins s σ H _ us Q I r ⟨_, _, by rw [vd_int hv, vd_int hw], ?_⟩
    rename_i i j
    have : (if j < i then j else i) = min i j := by split <;> omega
    rw [this]
    exact q _ H (Same.refl H) mk_int
  · cases e
theorem p_all (fit : Fits Φ X) (hc : X.calm = true) : CallR X (.builtin "all") (rdN Φ dAll) := by
  intro pins s σ H xs us Q I r h
  obtain ⟨m, z, G, as, d, rl, va, e, q⟩ := h
  unfold dAll at e
  split at e
  · obtain ⟨v, rfl, hv⟩ := vds_one va
    obtain ⟨ys, h1, h2⟩ := Option.bind_eq_some_iff.mp e
    obtain ⟨bs, h3, rfl⟩ := Option.map_eq_some_iff.mp h2
    obtain ⟨p, vs, rfl, hs, ds⟩ := litems_of rl h1 hv
    rw [asBs_eq h3] at ds
    have := vds_bl ds
    subst this
    exact cr_all hc pins s σ H _ us Q I r ⟨p, bs, rfl, by rw [fit.K]; exact hs, q _ H (Same.refl H) mk_bl⟩
  · cases e
theorem p_any (fit : Fits Φ X) (hc : X.calm = true) : CallR X (.builtin "any") (rdN Φ dAny) := by
  intro pins s σ H xs us Q I r h
  obtain ⟨m, z, G, as, d, rl, va, e, q⟩ := h
  unfold dAny at e
  split at e
  · obtain ⟨v, rfl, hv⟩ := vds_one va
    obtain ⟨ys, h1, h2⟩ := Option.bind_eq_some_iff.mp e
    obtain ⟨bs, h3, rfl⟩ := Option.map_eq_some_iff.mp h2
    obtain ⟨p, vs, rfl, hs, ds⟩ := litems_of rl h1 hv
    rw [asBs_eq h3] at ds
    have := vds_bl ds
    subst this
    exact cr_any hc pins s σ H _ us Q I r ⟨p, bs, rfl, by rw [fit.K]; exact hs, q _ H (Same.refl H) mk_bl⟩
  · cases e
theorem p_sum (fit : Fits Φ X) (hc : X.calm = true) : CallR X (.builtin "sum") (rdN Φ dSum) := by
  intro pins s σ H xs us Q I r h
  obtain ⟨m, z, G, as, d, rl, va, e, q⟩ := h
  unfold dSum at e
  split at e
  · obtain ⟨v, rfl, hv⟩ := vds_one va
    obtain ⟨ys, h1, h2⟩ := Option.bind_eq_some_iff.mp e
    obtain ⟨bs, h3, rfl⟩ := Option.map_eq_some_iff.mp h2
    obtain ⟨p, vs, rfl, hs, ds⟩ := litems_of rl h1 hv
    rw [asIs_eq h3] at ds
    have := vds_int ds
    subst this
    exact cr_sum hc pins s σ H _ us Q I r ⟨p, bs, rfl, by rw [fit.K]; exact hs, q _ H (Same.refl H) mk_int⟩
  · cases e
theorem foldl_max : ∀ (r : List Int) (x : Int), x ≤ r.foldl max x ∧ (∀ y ∈ r, y ≤ r.foldl max x) ∧ (r.foldl max x = x ∨ r.foldl max x ∈ r)
  | [], x => ⟨Int.le_refl x, fun y hy => (by cases hy), .inl rfl⟩
  | a :: r, x => by
    obtain ⟨h1, h2, h3⟩ := foldl_max r (max x a)
    refine ⟨by rw [List.foldl_cons]; omega, fun y hy => ?_, ?_⟩
    · rw [List.foldl_cons]
      rcases List.mem_cons.mp hy with rfl | hy
      · omega
      · exact h2 y hy
    · rw [List.foldl_cons]
      rcases h3 with h3 | h3
      · rcases Int.le_total x a with c | c
        · rw [h3, Int.max_eq_right c]
          exact .inr List.mem_cons_self
        · rw [h3, Int.max_eq_left c]
          exact .inl rfl
      · exact .inr (List.mem_cons_of_mem _ h3)
theorem foldl_min : ∀ (r : List Int) (x : Int), r.foldl min x ≤ x ∧ (∀ y ∈ r, r.foldl min x ≤ y) ∧ (r.foldl min x = x ∨ r.foldl min x ∈ r)
  | [], x => ⟨Int.le_refl x, fun y hy => (by cases hy), .inl rfl⟩
  | a :: r, x => by
    obtain ⟨h1, h2, h3⟩ := foldl_min r (min x a)
    refine ⟨by rw [List.foldl_cons]; omega, fun y hy => ?_, ?_⟩
    · rw [List.foldl_cons]
      rcases List.mem_cons.mp hy with rfl | hy
      · omega
      · exact h2 y hy
    · rw [List.foldl_cons]
      rcases h3 with h3 | h3
      · rcases Int.le_total x a with c | c
        · rw [h3, Int.min_eq_left c]
          exact .inl rfl
        · rw [h3, Int.min_eq_right c]
          exact .inr List.mem_cons_self
      · exact .inr (List.mem_cons_of_mem _ h3)
theorem p_maxL (fit : Fits Φ X) (hc : X.calm = true) : CallR X (.builtin "max") (rdN Φ dMaxL) := by
  intro pins s σ H xs us Q I r h
  obtain ⟨m, z, G, as, d, rl, va, e, q⟩ := h
  unfold dMaxL at e
  split at e
  · obtain ⟨v, rfl, hv⟩ := vds_one va
    obtain ⟨ys, h1, h2⟩ := Option.bind_eq_some_iff.mp e
    obtain ⟨bs, h3, h4⟩ := Option.bind_eq_some_iff.mp h2
    obtain ⟨k, h5, rfl⟩ := Option.map_eq_some_iff.mp h4
    obtain ⟨p, vs, rfl, hs, ds⟩ := litems_of rl h1 hv
    rw [asIs_eq h3] at ds
    have := vds_int ds
    subst this
    cases bs with
    | nil => cases h5
    | cons b r' =>
      cases h5
      obtain ⟨k1, k2, k3⟩ := foldl_max r' b
      refine cr_max hc pins s σ H _ us Q I r ⟨p, b :: r', rfl, by rw [fit.K]; exact hs, by simp, fun k hk1 hk2 => ?_⟩
      have : k = r'.foldl max b := by
        have a1 : k ≤ r'.foldl max b := by
          rcases List.mem_cons.mp hk1 with rfl | hk1
          · exact k1
          · exact k2 k hk1
        have a2 : r'.foldl max b ≤ k := by
          rcases k3 with k3 | k3
          · rw [k3]; exact hk2 b List.mem_cons_self
          · exact hk2 _ (List.mem_cons_of_mem _ k3)
        omega
      rw [this]
      exact q _ H (Same.refl H) mk_int
  · cases e
theorem p_minL (fit : Fits Φ X) (hc : X.calm = true) : CallR X (.builtin "min") (rdN Φ dMinL) := by
  intro pins s σ H xs us Q I r h
  obtain ⟨m, z, G, as, d, rl, va, e, q⟩ := h
  unfold dMinL at e
  split at e
  · obtain ⟨v, rfl, hv⟩ := vds_one va
    obtain ⟨ys, h1, h2⟩ := Option.bind_eq_some_iff.mp e
    obtain ⟨bs, h3, h4⟩ := Option.bind_eq_some_iff.mp h2
    obtain ⟨k, h5, rfl⟩ := Option.map_eq_some_iff.mp h4
    obtain ⟨p, vs, rfl, hs, ds⟩ := litems_of rl h1 hv
    rw [asIs_eq h3] at ds
    have := vds_int ds
    subst this
    cases bs with
    | nil => cases h5
    | cons b r' =>
      cases h5
      obtain ⟨k1, k2, k3⟩ := foldl_min r' b
      refine cr_min hc pins s σ H _ us Q I r ⟨p, b :: r', rfl, by rw [fit.K]; exact hs, by simp, fun k hk1 hk2 => ?_⟩
      have : k = r'.foldl min b := by
        have a1 : r'.foldl min b ≤ k := by
          rcases List.mem_cons.mp hk1 with rfl | hk1
          · exact k1
          · exact k2 k hk1
        have a2 : k ≤ r'.foldl min b := by
          rcases k3 with k3 | k3
          · rw [k3]; exact hk2 b List.mem_cons_self
          · exact hk2 _ (List.mem_cons_of_mem _ k3)
        omega
      rw [this]
      exact q _ H (Same.refl H) mk_int
  · cases e
theorem p_sorted (fit : Fits Φ X) : CallR X (.builtin "sorted") (rdNO Φ dSorted) := by
  intro pins s σ H xs us Q I r h
  obtain ⟨m, z, G, as, d, rl, va, e, q⟩ := h
  unfold dSorted at e
  split at e
  · obtain ⟨v, rfl, hv⟩ := vds_one va
    obtain ⟨ys, h1, h2⟩ := Option.bind_eq_some_iff.mp e
    obtain ⟨ns, h3, rfl⟩ := Option.map_eq_some_iff.mp h2
    obtain ⟨p, vs, rfl, hs, ds⟩ := litems_of rl h1 hv
    rw [asIs_eq h3] at ds
    have := vds_int ds
    subst this
    refine cr_sortedI pins s σ H _ us Q I r ⟨p, ns, rfl, by rw [fit.K]; exact hs, fun ns' p' hp hs' hn => ?_⟩
    have : ns' = isort ns := PySem.W.os_sorted_mergeSort hp hs'
    subst this
    exact q _ _ _ (same_upd hn) hn upd_same mk_ints
  · cases e
theorem p_list (fit : Fits Φ X) : CallR X (.type "list") (rdNO Φ dList) := by
  intro pins s σ H xs us Q I r h
  obtain ⟨m, z, G, as, d, rl, va, e, q⟩ := h
  unfold dList at e
  split at e
  · obtain ⟨v, rfl, hv⟩ := vds_one va
    obtain ⟨p, vs, rfl, hs, ds⟩ := items_of rl e hv
    refine call_list_of pins s σ H _ us Q I r ⟨p, vs, rfl, by rw [fit.K]; exact hs, fun l hl => ?_⟩
    exact q _ _ _ (same_upd hl) hl upd_same ds
  · cases e
theorem p_tuple (fit : Fits Φ X) : CallR X (.type "tuple") (rdN Φ dTuple) := by
  intro pins s σ H xs us Q I r h
  obtain ⟨m, z, G, as, d, rl, va, e, q⟩ := h
  unfold dTuple at e
  split at e
  · obtain ⟨v, rfl, hv⟩ := vds_one va
    obtain ⟨ys, h1, rfl⟩ := Option.map_eq_some_iff.mp e
    rename_i G' x
    cases x <;> simp only [D.items, reduceCtorEq, Option.some.injEq] at h1
    · subst h1
      obtain ⟨a, vs, rfl, t, dd⟩ := vd_tup hv
      refine call_tuple_of pins s σ H _ us Q I r ⟨a, vs, rfl, .inr ⟨by rw [fit.K]; exact t.sq, q _ H (Same.refl H) hv⟩⟩
    · subst h1
      obtain ⟨a, vs, rfl, t, dd⟩ := vd_lst hv
      exact call_tuple_of pins s σ H _ us Q I r ⟨a, vs, rfl, .inl ⟨by rw [fit.K]; exact t.sq, fun l hl => q _ _ (same_upd hl) (mk_tup rl hl dd)⟩⟩
    · subst h1
      obtain ⟨a, vs, rfl, t, dd⟩ := vd_scr hv
      exact call_tuple_of pins s σ H _ us Q I r ⟨a, vs, rfl, .inl ⟨by rw [fit.K]; exact t.sq, fun l hl => q _ _ (same_upd hl) (mk_tup rl hl dd)⟩⟩
    · obtain ⟨a, vs, h2, h3, dd⟩ := rl.cl _ _ h1
      obtain ⟨a', rfl, hm⟩ := vd_ref hv
      rw [hm] at h2
      cases h2
      exact call_tuple_of pins s σ H _ us Q I r ⟨_, vs, rfl, .inl ⟨.inl (.inl h3), fun l hl => q _ _ (same_upd hl) (mk_tup rl hl dd)⟩⟩
  · cases e
end

/-! ### subscripts -/
def dIx : G2
  | G, x, .int i => (D.items G x).bind fun xs => atI xs i
  | _, _, _ => none
section
variable {Φ : Fr} {X : Cx} {W : WX} {m : List Addr} {z : Addr → Prop} {H : Hp} {a b : Expr} {fa fb : FE} {pos : Pos}
theorem atI_vds {xs : List D} {vs : List V} {i : Int} {d : D} (h : Φ.vds m z H xs vs) (e : atI xs i = some d) : ∃ v, atI vs i = some v ∧ Φ.vd m z H d v := by
  unfold atI at e ⊢
  rw [← h.length]
  cases e1 : ixN xs.length i with
  | none => rw [e1] at e; cases e
  | some j =>
    rw [e1] at e
    exact VDs.get j h e
theorem p_ix (fit : Fits Φ X) : IxR X (rd2 Φ dIx) := by
  intro value slice pins s σ H x y v u Q I rx ry hq hs
  obtain ⟨m, z, G, a, b, d, r, va, vb, e, q⟩ := hq
  unfold dIx at e
  split at e
  · obtain ⟨xs, h1, h2⟩ := Option.bind_eq_some_iff.mp e
    obtain ⟨p, vs, rfl, h3, ds⟩ := items_of r h1 va
    obtain ⟨w, h4, dw⟩ := atI_vds ds h2
    rcases h3 with h3 | h3
    · exact ix_seq value slice pins s σ H _ y v u Q I rx ry (.inl ⟨p, vs, _, w, rfl, vd_int vb, by rw [fit.K]; exact h3, h4, q _ H (Same.refl H) dw⟩) hs
    · exact ix_seq value slice pins s σ H _ y v u Q I rx ry (.inr (.inl ⟨p, vs, _, w, rfl, vd_int vb, by rw [fit.K]; exact h3, h4, q _ H (Same.refl H) dw⟩)) hs
  · cases e
theorem e_ix (fit : Fits Φ X) (ha : EE Φ X W a fa) (hb : EE Φ X W b fb) (hs : PlainIx b := by exact fun _ _ => rfl) : EE Φ X W (.Subscript a b pos) (fBin dIx fa fb) :=
  PE.imp (pe_ix (p_ix fit) ha hb hs) fun _ _ _ h => two h

/-! ### slices -/
abbrev FO := SS → GS → Res (Option Int)
def foN : FO := fun _ G => .ok none G
def foE (a : FE) : FO := fun S G => (a S G).bind fun x G => match x with
  | .int i => .ok (some i) G
  | _ => .fail
def rdP (Φ : Fr) (W : WX) (f : FO) : TO := fun σ H Q => ∃ m y S G, Rel Φ m y S G σ H ∧ Out Φ W m y S σ H (f S G) fun b H' => Q b H'
def cutD (xs : List D) (lo hi : Option Int) : List D := (xs.drop (HT.sIx xs.length 0 lo)).take (HT.sIx xs.length xs.length hi - HT.sIx xs.length 0 lo)
def dSlice (G : GS) (x : D) (lo hi : Option Int) : Option D := match x with
  | .tup xs => some (.tup (cutD xs lo hi))
  | x => (lItems G x).map fun xs => .lst (cutD xs lo hi)
def fSlice (a : FE) (l h : FO) : FE := fun S G => (a S G).bind fun x G => (l S G).bind fun lo G => (h S G).bind fun hi G => opt (dSlice G x lo hi) G
theorem PO.imp {e : Option Expr} {t t' : TO} (h : PO X e t) (i : ∀ σ H Q, t' σ H Q → t σ H Q) : PO X e t' := ⟨fun pins s σ H Q I q => h.run pins s σ H Q I (i _ _ _ q)⟩
theorem q_none : PO X none (rdP Φ W foN) := PO.imp po_none fun σ H Q h => by
  obtain ⟨m, y, S, G, r, o⟩ := h
  exact o H r (Ext.refl _ H)
theorem q_some (h : EE Φ X W a fa) : PO X (some a) (rdP Φ W (foE fa)) := PO.imp (po_some h) fun σ H Q h => by
  obtain ⟨m, y, S, G, r, o⟩ := h
  refine ⟨m, y, S, G, r, Out.bind o fun x G1 H1 _ r1 e1 o1 v vd => ?_⟩
  cases x <;> first | exact False.elim o1 | skip
  exact ⟨_, vd_int vd, o1 H1 r1 (Ext.refl _ _)⟩
theorem cut_vds {xs : List D} {vs : List V} (lo hi : Option Int) (h : Φ.vds m z H xs vs) : Φ.vds m z H (cutD xs lo hi) (cutV vs lo hi) := by
  unfold cutD cutV
  rw [← h.length]
  exact VDs.take _ (VDs.drop _ h)
theorem cutD_whole {xs : List D} {lo hi : Option Int} (h : HT.sIx xs.length 0 lo = 0 ∧ HT.sIx xs.length xs.length hi = xs.length) : cutD xs lo hi = xs := by
  unfold cutD
  rw [h.1, h.2]
  simp
def rdSl (Φ : Fr) : V → Option Int → Option Int → Hp → VK → Prop := fun v lo hi H Q => ∃ m y G a d, RelH Φ m y G H ∧ Φ.vd m y H a v ∧ dSlice G a lo hi = some d ∧ ∀ u H', Same H H' → Φ.vd m y H' d u → Q u H'
theorem p_slice (fit : Fits Φ X) : SlR X (rdSl Φ) := by
  intro pins s σ H x v vl vu lo hi sl Q I rx hs pl pu h
  obtain ⟨m, y, G, a, d, r, va, e, q⟩ := h
  unfold dSlice at e
  split at e
  · cases e
    obtain ⟨p, vs, rfl, t, ds⟩ := vd_tup va
    refine sl_tupA pins s σ H _ v vl vu lo hi sl Q I rx hs pl pu ⟨p, vs, rfl, by rw [fit.K]; exact t.sq, fun hw => ?_, fun hw l hl => ?_⟩
    · rw [← ds.length] at hw
      rw [cutD_whole hw] at q
      exact q _ H (Same.refl H) va
    · exact q _ _ (same_upd hl) (mk_tup r hl (cut_vds lo hi ds))
  · obtain ⟨xs, h1, rfl⟩ := Option.map_eq_some_iff.mp e
    obtain ⟨p, vs, rfl, t, ds⟩ := litems_of r h1 va
    exact sl_list pins s σ H _ v vl vu lo hi sl Q I rx hs pl pu ⟨p, vs, rfl, by rw [fit.K]; exact t, fun l hl => q _ _ (same_upd hl) (mk_lst r hl (cut_vds lo hi ds))⟩
theorem e_slice {lo hi : Option Expr} {fl fh : FO} {p2 : Pos} (fit : Fits Φ X) (ha : EE Φ X W a fa) (hl : PO X lo (rdP Φ W fl)) (hh : PO X hi (rdP Φ W fh)) : EE Φ X W (.Subscript a (.Slice lo hi none p2) pos) (fSlice fa fl fh) := by
  refine PE.imp (pe_slice (p_slice fit) ha hl hh) fun σ H Q h => ?_
  obtain ⟨m, y, S, G, r, o⟩ := h
  refine ⟨m, y, S, G, r, Out.bind o fun x G1 H1 _ r1 e1 o1 v vd => ⟨m, y, S, G1, r1, Out.bind o1 fun l G2 H2 _ r2 e2 o2 => ⟨m, y, S, G2, r2, Out.bind o2 fun h' G3 H3 _ r3 e3 o3 => ?_⟩⟩⟩
  obtain ⟨d, hd, o4⟩ := Out.opt_ o3
  exact ⟨m, y, G3, x, d, r3.toRelH, vd_ext (vd_ext vd e2 r2.my) e3 r3.my, hd, fun u H5 s5 ud => o4 H5 (r3.same s5) (Ext.of_same s5) u ud⟩
end

/-! ### list.index, list.count -/
def idxOf (x : D) : List D → Option Nat
  | [] => none
  | y :: r => if D.eqv y x then some 0 else (idxOf x r).map (· + 1)
def dIndex (G : GS) (l : D) : List D → Option D
  | [x] => (lItems G l).bind fun xs => if x.flat = true ∧ xs.all D.flat = true then (idxOf x xs).map fun (n : Nat) => D.int n else none
  | _ => none
def dCount (G : GS) (l : D) : List D → Option D
  | [x] => (lItems G l).bind fun xs => if x.flat = true ∧ xs.all D.flat = true then some (.int ((xs.countP fun y => D.eqv y x : Nat) : Int)) else none
  | _ => none
abbrev GM := GS → D → List D → Option D
def rdM (Φ : Fr) (g : GM) : V → List V → Hp → VK → Prop := fun v vs H Q => ∃ m y G a as d, RelH Φ m y G H ∧ Φ.vd m y H a v ∧ Φ.vds m y H as vs ∧ g G a as = some d ∧ ∀ u H', Same H H' → Φ.vd m y H' d u → Q u H'
def fM (g : GM) (o : FE) (a : FA) : FE := fun S G => (o S G).bind fun x G => (opt (lItems G x) G).bind fun _ G => (a S G).bind fun xs G => opt (g G x xs) G
section
variable {Φ : Fr} {X : Cx} {W : WX} {m : List Addr} {z : Addr → Prop} {H : Hp}
theorem idx_v {x : D} {v : V} (hx : x.flat = true) (dx : Φ.vd m z H x v) : ∀ {xs : List D} {vs : List V} {j : Nat}, xs.all D.flat = true → Φ.vds m z H xs vs → idxOf x xs = some j →
    ∃ w, vs[j]? = some w ∧ eqV w v = true ∧ ∀ (k : Nat) (w' : V), k < j → vs[k]? = some w' → eqV w' v = false
  | [], _, _, _, _, e => by cases e
  | y :: xs, vs, j, h, d, e => by
    obtain ⟨w, r, rfl, h1, h2⟩ := VDs.inv d
    rw [List.all_cons, Bool.and_eq_true] at h
    have ee := eq_flat hx h.1 dx h1
    unfold idxOf at e
    by_cases c : D.eqv y x = true
    · rw [if_pos c] at e
      cases e
      exact ⟨w, rfl, by rw [ee]; exact c, fun k w' hk => absurd hk (Nat.not_lt_zero k)⟩
    · rw [if_neg c] at e
      obtain ⟨i, e1, rfl⟩ := Option.map_eq_some_iff.mp e
      obtain ⟨w2, k1, k2, k3⟩ := idx_v hx dx h.2 h2 e1
      refine ⟨w2, by simpa using k1, k2, fun k w' hk hw => ?_⟩
      cases k with
      | zero =>
        simp at hw
        subst hw
        rw [ee]
        simpa using c
      | succ k => exact k3 k w' (by omega) (by simpa using hw)
theorem p_index (fit : Fits Φ X) : MtR X "list.index" (rdM Φ dIndex) := by
  intro pins s σ H x xs v us Q I rx rxs h
  obtain ⟨m, y, G, a, as, d, r, va, vas, e, q⟩ := h
  unfold dIndex at e
  split at e
  · obtain ⟨w, rfl, hw⟩ := vds_one vas
    obtain ⟨ys, h1, h2⟩ := Option.bind_eq_some_iff.mp e
    split at h2
    · rename_i hf
      obtain ⟨j, h3, rfl⟩ := Option.map_eq_some_iff.mp h2
      obtain ⟨p, vs, rfl, hs, ds⟩ := litems_of r h1 va
      obtain ⟨w2, k1, k2, k3⟩ := idx_v hf.1 hw hf.2 ds h3
      exact mt_index pins s σ H _ _ v us Q I rx rxs ⟨p, vs, w, j, w2, rfl, rfl, by rw [fit.K]; exact hs, flat_v hf.1 hw, flats_v hf.2 ds, k1, k2, k3, q _ H (Same.refl H) mk_int⟩
    · cases h2
  · cases e
theorem count_U {x : V} : ∀ {xs : List V} {us : List Value}, Vals xs us → xs.all flatV = true → us.countP (eqU x) = xs.countP fun y => eqV y x
  | _, _, .nil, _ => rfl
  | y :: xs, u :: us, .cons r t, f => by
    rw [List.all_cons, Bool.and_eq_true] at f
    rw [List.countP_cons, List.countP_cons, eqU_of r f.1, count_U t f.2]
theorem count_v {x : D} {v : V} (hx : x.flat = true) (dx : Φ.vd m z H x v) : ∀ {xs : List D} {vs : List V}, xs.all D.flat = true → Φ.vds m z H xs vs → (vs.countP fun y => eqV y v) = xs.countP fun y => D.eqv y x
  | [], _, _, d => by simp only [Fr.vds, VDs] at d; subst d; rfl
  | y :: xs, _, h, d => by
    obtain ⟨w, r, rfl, h1, h2⟩ := VDs.inv d
    rw [List.all_cons, Bool.and_eq_true] at h
    rw [List.countP_cons, List.countP_cons, eq_flat hx h.1 dx h1, count_v hx dx h.2 h2]
theorem p_count (fit : Fits Φ X) : MtR X "list.count" (rdM Φ dCount) := by
  intro pins s σ H x xs v us Q I rx rxs h
  obtain ⟨m, y, G, a, as, d, r, va, vas, e, q⟩ := h
  unfold dCount at e
  split at e
  · obtain ⟨w, rfl, hw⟩ := vds_one vas
    obtain ⟨ys, h1, h2⟩ := Option.bind_eq_some_iff.mp e
    split at h2
    · rename_i hf
      cases h2
      obtain ⟨p, vs, rfl, hs, ds⟩ := litems_of r h1 va
      have fw := flat_v hf.1 hw
      have fs := flats_v hf.2 ds
      cases rx
      obtain ⟨u, rfl, ru⟩ := rxs.one
      obtain ⟨its, rv, ⟨⟨cls, dd, data, sl⟩, n, ho, hc, hdn, hd⟩, hlen⟩ := I.list (by rw [fit.K]; exact hs)
      simp only at hc hd
      subst hc hd
      refine call_meets PySem.F.slot_list_count ⟨_, ho, rfl⟩ PySem.F.entry_list_count (PySem.F.args_list_count_2 _ _)
        (SeqAt.list_countAt p its.toArray n dd sl u (eqU w)) ⟨ho, fun y' hy => mem_eqAt ru fw rv fs y' (by simpa using hy), ?_⟩
      refine ⟨.int _, H, I.tok _, ⟨s.toks, rfl⟩, ?_⟩
      rw [show its.toArray.toList.countP (eqU w) = its.countP (eqU w) by simp, count_U rv fs, count_v hf.1 hw hf.2 ds]
      exact q _ H (Same.refl H) mk_int
    · cases h2
  · cases e
/-- a method of a list that reads -/
theorem e_meth {o e : Expr} {es : List Expr} {fo : FE} {fs : FA} {name : Str} {apos cpos : Pos} {id : String} {g : GM} (slot : PySem.Slot "list" name id) (hty : typeOf (.builtin id) = pure (.type "method_descriptor")) (hm : MtR X id (rdM Φ g)) (fit : Fits Φ X)
    (ho : EE Φ X W o fo) (ha : EA Φ X W (e :: es) fs)
    (hbase : attributeBase o name X.env (eval o X.env) = eval o X.env := by rfl)
    (hfew : ((backTo cpos (starEach (e :: es) X.env)).all (fun x => !x.1) && (backToKw cpos (keywordEach [] X.env)).all (fun x => x.1.isSome)
      && decide ((e :: es).length + ([] : List Keyword).length + (if ([] : List Keyword).isEmpty then 0 else 1) < 30)) = true := by rfl)
    (hline : (apos.endLine == cpos.line) = true := by rfl) (hs : starEach (e :: es) X.env = (false, eval e X.env) :: starEach es X.env := by rfl) (hplain : (backTo cpos (starEach es X.env)).any (·.1) = false := by rfl) :
    EE Φ X W (.Call (.Attribute o name apos) (e :: es) [] cpos) (fM g fo fs) := by
  refine PE.imp (pe_bm PySem.F.plainAttrs_list slot hty hm ho ha hbase hfew hline hs hplain) fun σ H Q h => ?_
  obtain ⟨m, y, S, G, r, o1⟩ := h
  refine ⟨m, y, S, G, r, Out.bind o1 fun x G1 H1 _ r1 e1 o1 v vd => ?_⟩
  cases e2 : lItems G1 x with
  | none =>
    rw [e2] at o1
    exact o1.elim
  | some ys =>
    rw [e2] at o1
    obtain ⟨p, vs, rfl, hs', ds⟩ := litems_of r1.toRelH e2 vd
    refine ⟨.inl ⟨rfl, _, by rw [fit.K]; exact hs'⟩, ?_⟩
    refine args_out r1 o1 fun xs G2 H2 ws r2 e2 vds o2 => ?_
    obtain ⟨d, hd, o3⟩ := Out.opt_ o2
    exact ⟨m, y, G2, x, xs, d, r2.toRelH, vd_ext vd e2 r2.my, vds, hd, fun u H3 s3 ud => o3 H3 (r2.same s3) (Ext.of_same s3) u ud⟩
end
end Wd
/-! Wd, part E: statements. -/
namespace Wd
open PySem PySem.Spec PyProof.Rows L2

inductive Rv where
  | pl (d : D) | ow (xs : List D)
inductive RS where
  | nx (S : SS) (G : GS) | rt (r : Rv) (G : GS) | exc (c : String) (p : Option (String × D)) (S : SS) (G : GS) | fail
abbrev FS := SS → GS → RS

/-- what a statement may do to the state -/
def Stp (m : List Addr) (y : Addr → Prop) (H : Hp) (m' : List Addr) (y' : Addr → Prop) (H' : Hp) : Prop := Step y H y' H' ∧ ∀ (i : Nat) a, m[i]? = some a → m'[i]? = some a
theorem Stp.refl (m : List Addr) (y : Addr → Prop) (H : Hp) : Stp m y H m y H := ⟨Step.refl y H, fun _ _ h => h⟩
theorem Stp.trans {m m1 m2 : List Addr} {y y1 y2 : Addr → Prop} {H H1 H2 : Hp} (a : Stp m y H m1 y1 H1) (b : Stp m1 y1 H1 m2 y2 H2) : Stp m y H m2 y2 H2 := ⟨a.1.trans b.1, fun i c h => b.2 i c (a.2 i c h)⟩
theorem Stp.of_ext {m : List Addr} {y : Addr → Prop} {H H' : Hp} (e : Ext (fun a => a ∈ m) H H') (my : ∀ a ∈ m, y a) : Stp m y H m y H' := ⟨Step.of_ext (e.mono my), fun _ _ h => h⟩
theorem Stp.less {m : List Addr} {y y' : Addr → Prop} {H : Hp} (h : ∀ a, y' a → y a) : Stp m y H m y' H := ⟨⟨fun a q => .inl (h a q), Ext.refl y H⟩, fun _ _ h => h⟩

def RvOk (Φ : Fr) (m : List Addr) (y : Addr → Prop) (H : Hp) : Rv → V → Prop
  | .pl d, v => Φ.vd m y H d v
  | .ow xs, v => ∃ a vs, v = .ref a ∧ H a = some (.lst vs) ∧ Φ.vds m y H xs vs ∧ Φ.H a = none ∧ a ∉ m ∧ y a
def OutS (Φ : Fr) (W : WX) (m : List Addr) (y : Addr → Prop) (H : Hp) (r : RS) (D : Ends) : Prop :=
  match r with
  | .nx S' G' => ∀ m' y' σ' H', Rel Φ m' y' S' G' σ' H' → Stp m y H m' y' H' → D.nx σ' H'
  | .rt r G' => ∀ m' y' v H', RelH Φ m' y' G' H' → Stp m y H m' y' H' → RvOk Φ m' y' H' r v → D.rt v H'
  | .exc c p S' G' => ∀ m' y' σ' cls d H', Exn Φ m' y' H' c p cls d → Rel Φ m' y' S' G' σ' H' → Stp m y H m' y' H' → W cls d σ' H'
  | .fail => False
def rdS (Φ : Fr) (W : WX) (f : FS) : TS := fun D σ H => ∃ m y S G, Rel Φ m y S G σ H ∧ OutS Φ W m y H (f S G) D
abbrev ES (Φ : Fr) (X : Cx) (W : WX) (st : Stmt) (f : FS) : Prop := PS X st (rdS Φ W f)
abbrev EB (Φ : Fr) (X : Cx) (W : WX) (sts : List Stmt) (f : FS) : Prop := PSs X sts (rdS Φ W f)
/-- an expression's result goes on -/
def Res.thn {α : Type} (r : Res α) (S : SS) (k : α → GS → RS) : RS :=
  match r with
  | .ok a G => k a G
  | .exc c p G => .exc c p S G
  | .fail => .fail
section
variable {α : Type} {a : α} {S : SS} {G : GS} {k : α → GS → RS} {c : String} {p : Option (String × D)}
@[simp] theorem thn_ok : (Res.ok a G).thn S k = k a G := rfl
@[simp] theorem thn_exc : (Res.exc c p G : Res α).thn S k = .exc c p S G := rfl
@[simp] theorem thn_fail : (Res.fail : Res α).thn S k = .fail := rfl
end
def RS.seq (r : RS) (k : FS) : RS :=
  match r with
  | .nx S G => k S G
  | r => r
@[simp] theorem seq_nx {S : SS} {G : GS} {k : FS} : (RS.nx S G).seq k = k S G := rfl
@[simp] theorem seq_rt {r : Rv} {G : GS} {k : FS} : (RS.rt r G).seq k = .rt r G := rfl
@[simp] theorem seq_exc {c : String} {p : Option (String × D)} {S : SS} {G : GS} {k : FS} : (RS.exc c p S G).seq k = .exc c p S G := rfl
@[simp] theorem seq_fail {k : FS} : (RS.fail).seq k = .fail := rfl

def sNil : FS := fun S G => .nx S G
def sSeq (a b : FS) : FS := fun S G => (a S G).seq b
def sSet (i : Nat) (a : FE) : FS := fun S G => (a S G).thn S fun d G => .nx (S.set i (.pl d)) G
def sSetO (i : Nat) (a : FA) : FS := fun S G => (a S G).thn S fun ds G => .nx (S.set i (.ow ds)) G
def sDrop (a : FE) : FS := fun S G => (a S G).thn S fun _ G => .nx S G
def sRet (a : FE) : FS := fun S G => (a S G).thn S fun d G => .rt (.pl d) G
def sRetO (a : FA) : FS := fun S G => (a S G).thn S fun ds G => .rt (.ow ds) G
def sRetN : FS := fun _ G => .rt (.pl .non) G
def sIf (t : FT) (a b : FS) : FS := fun S G => (t S G).thn S fun c G => if c then a S G else b S G

section
variable {Φ : Fr} {m m' : List Addr} {y y' : Addr → Prop} {S : SS} {G G' : GS} {σ : L2.St} {H H' : Hp} {W : WX} {En : Ends}
theorem OutS.mono {r : RS} (h : OutS Φ W m y H r En) (s : Stp m y H m' y' H') : OutS Φ W m' y' H' r En := by
  cases r with
  | nx S' G' => exact fun m2 y2 σ2 H2 r2 s2 => h m2 y2 σ2 H2 r2 (s.trans s2)
  | rt r G' => exact fun m2 y2 v H2 r2 s2 => h m2 y2 v H2 r2 (s.trans s2)
  | exc c p S' G' => exact fun m2 y2 σ2 cls d H2 x r2 s2 => h m2 y2 σ2 cls d H2 x r2 (s.trans s2)
  | fail => exact h
theorem OutS.thn {α : Type} {r : Res α} {k : α → GS → RS} (rl : Rel Φ m y S G σ H) (h : OutS Φ W m y H (r.thn S k) En) {P' : α → Hp → Prop}
    (hk : ∀ a G' H', r = .ok a G' → Rel Φ m y S G' σ H' → Ext (fun a => a ∈ m) H H' → OutS Φ W m y H' (k a G') En → P' a H') : Out Φ W m y S σ H r P' := by
  cases r with
  | ok a G => exact fun H2 r2 e2 => hk a G H2 rfl r2 e2 (OutS.mono h (Stp.of_ext e2 rl.my))
  | exc c p G => exact fun cls d H2 x r2 e2 => h m y σ cls d H2 x r2 (Stp.of_ext e2 rl.my)
  | fail => exact h
theorem OutS.thnO {r : Res (List D)} {k : List D → GS → RS} (rl : Rel Φ m y S G σ H) (h : OutS Φ W m y H (r.thn S k) En) {Q : VK}
    (hk : ∀ ds G' a vs H', r = .ok ds G' → H a = none → H' a = some (.lst vs) → Rel Φ m (yp y a) S G' σ H' → Ext (fun a => a ∈ m) H H' → Φ.vds m (yp y a) H' ds vs → OutS Φ W m (yp y a) H' (k ds G') En → Q (.ref a) H') : OutO Φ W m y S σ H r Q := by
  cases r with
  | ok ds G =>
    intro a vs H2 n t r2 e2 vd
    refine hk ds G a vs H2 rfl n t r2 e2 vd (OutS.mono h ⟨⟨fun b hb => ?_, e2.mono rl.my⟩, fun _ _ h => h⟩)
    rcases hb with hb | hb
    · exact .inl hb
    · exact .inr (by rw [hb]; exact n)
  | exc c p G => exact fun cls d H2 x r2 e2 => h m y σ cls d H2 x r2 (Stp.of_ext e2 rl.my)
  | fail => exact h
/-- a slot gets a value -/
theorem Rel.set {i : Nat} {d : D} {v : V} (r : Rel Φ m y S G σ H) (h : Φ.vd m y H d v) : Rel Φ m y (S.set i (.pl d)) G (σ.set i (some v)) H where
  toRelH := r.toRelH
  ln := by rw [List.length_set, List.length_set]; exact r.ln
  raw := fun j e => by
    by_cases hj : j = i
    · subst hj
      by_cases hl : j < S.length
      · rw [List.getElem?_set_self hl] at e
        cases e
      · rw [List.getElem?_eq_none (by rw [List.length_set]; omega)] at e
        cases e
    · rw [List.getElem?_set_ne (Ne.symm hj)] at e ⊢
      exact r.raw j e
  sl := fun j d' e => by
    by_cases hj : j = i
    · subst hj
      by_cases hl : j < S.length
      · rw [List.getElem?_set_self hl] at e
        cases e
        exact ⟨v, List.getElem?_set_self (by rw [← r.ln]; exact hl), h⟩
      · rw [List.getElem?_eq_none (by rw [List.length_set]; omega)] at e
        cases e
    · rw [List.getElem?_set_ne (Ne.symm hj)] at e ⊢
      exact r.sl j d' e
  ow := fun j xs e => by
    by_cases hj : j = i
    · subst hj
      by_cases hl : j < S.length
      · rw [List.getElem?_set_self hl] at e
        cases e
      · rw [List.getElem?_eq_none (by rw [List.length_set]; omega)] at e
        cases e
    · rw [List.getElem?_set_ne (Ne.symm hj)] at e ⊢
      exact r.ow j xs e
  oi := fun j k xs zs a h1 h2 h3 h4 => by
    by_cases hj : j = i
    · subst hj
      by_cases hl : j < S.length
      · rw [List.getElem?_set_self hl] at h1
        cases h1
      · rw [List.getElem?_eq_none (by rw [List.length_set]; omega)] at h1
        cases h1
    · by_cases hk : k = i
      · subst hk
        by_cases hl : k < S.length
        · rw [List.getElem?_set_self hl] at h2
          cases h2
        · rw [List.getElem?_eq_none (by rw [List.length_set]; omega)] at h2
          cases h2
      · rw [List.getElem?_set_ne (Ne.symm hj)] at h1 h3
        rw [List.getElem?_set_ne (Ne.symm hk)] at h2 h4
        exact r.oi j k xs zs a h1 h2 h3 h4
/-- .. loses its value -/
theorem Rel.unset {i : Nat} (r : Rel Φ m y S G σ H) : Rel Φ m y (S.set i .un) G (σ.set i none) H where
  toRelH := r.toRelH
  ln := by rw [List.length_set, List.length_set]; exact r.ln
  raw := fun j e => by
    by_cases hj : j = i
    · subst hj
      by_cases hl : j < S.length
      · rw [List.getElem?_set_self hl] at e
        cases e
      · rw [List.getElem?_eq_none (by rw [List.length_set]; omega)] at e
        cases e
    · rw [List.getElem?_set_ne (Ne.symm hj)] at e ⊢
      exact r.raw j e
  sl := fun j d' e => by
    by_cases hj : j = i
    · subst hj
      by_cases hl : j < S.length
      · rw [List.getElem?_set_self hl] at e
        cases e
      · rw [List.getElem?_eq_none (by rw [List.length_set]; omega)] at e
        cases e
    · rw [List.getElem?_set_ne (Ne.symm hj)] at e ⊢
      exact r.sl j d' e
  ow := fun j xs e => by
    by_cases hj : j = i
    · subst hj
      by_cases hl : j < S.length
      · rw [List.getElem?_set_self hl] at e
        cases e
      · rw [List.getElem?_eq_none (by rw [List.length_set]; omega)] at e
        cases e
    · rw [List.getElem?_set_ne (Ne.symm hj)] at e ⊢
      exact r.ow j xs e
  oi := fun j k xs zs a h1 h2 h3 h4 => by
    by_cases hj : j = i
    · subst hj
      by_cases hl : j < S.length
      · rw [List.getElem?_set_self hl] at h1
        cases h1
      · rw [List.getElem?_eq_none (by rw [List.length_set]; omega)] at h1
        cases h1
    · by_cases hk : k = i
      · subst hk
        by_cases hl : k < S.length
        · rw [List.getElem?_set_self hl] at h2
          cases h2
        · rw [List.getElem?_eq_none (by rw [List.length_set]; omega)] at h2
          cases h2
      · rw [List.getElem?_set_ne (Ne.symm hj)] at h1 h3
        rw [List.getElem?_set_ne (Ne.symm hk)] at h2 h4
        exact r.oi j k xs zs a h1 h2 h3 h4
theorem y_ne {a b : Addr} (hy : y b) (yd : ∀ a, y a → ∃ o, H a = some o) (n : H a = none) : b ≠ a := fun z => by
  obtain ⟨o, q⟩ := yd b hy
  rw [z, n] at q
  cases q
/-- a slot gets a list of its own (H0: ahead of its making) -/
theorem Rel.setO {i : Nat} {xs : List D} {a : Addr} {vs : List V} {H0 : Hp} (r : Rel Φ m (yp y a) S G σ H) (n0 : H0 a = none) (y0 : ∀ b, y b → ∃ o, H0 b = some o) (m0 : ∀ b ∈ m, y b) (o0 : ∀ (i : Nat) xs b, S[i]? = some (.ow xs) → σ[i]? = some (some (.ref b)) → y b)
    (t : H a = some (.lst vs)) (fH : Φ.H a = none) (h : Φ.vds m (yp y a) H xs vs) : Rel Φ m (yp y a) (S.set i (.ow xs)) G (σ.set i (some (.ref a))) H where
  toRelH := r.toRelH
  ln := by rw [List.length_set, List.length_set]; exact r.ln
  raw := fun j e => by
    by_cases hj : j = i
    · subst hj
      by_cases hl : j < S.length
      · rw [List.getElem?_set_self hl] at e
        cases e
      · rw [List.getElem?_eq_none (by rw [List.length_set]; omega)] at e
        cases e
    · rw [List.getElem?_set_ne (Ne.symm hj)] at e ⊢
      exact r.raw j e
  sl := fun j d' e => by
    by_cases hj : j = i
    · subst hj
      by_cases hl : j < S.length
      · rw [List.getElem?_set_self hl] at e
        cases e
      · rw [List.getElem?_eq_none (by rw [List.length_set]; omega)] at e
        cases e
    · rw [List.getElem?_set_ne (Ne.symm hj)] at e ⊢
      exact r.sl j d' e
  ow := fun j zs e => by
    by_cases hj : j = i
    · subst hj
      by_cases hl : j < S.length
      · rw [List.getElem?_set_self hl] at e
        cases e
        exact ⟨a, vs, List.getElem?_set_self (by rw [← r.ln]; exact hl), t, h, .inr rfl, fun q => y_ne (m0 a q) y0 n0 rfl, fH⟩
      · rw [List.getElem?_eq_none (by rw [List.length_set]; omega)] at e
        cases e
    · rw [List.getElem?_set_ne (Ne.symm hj)] at e ⊢
      exact r.ow j zs e
  oi := fun j k us zs b h1 h2 h3 h4 => by
    have old : ∀ {l : Nat} {us : List D}, l ≠ i → (S.set i (.ow xs))[l]? = some (.ow us) → (σ.set i (some (.ref a)))[l]? = some (some (.ref b)) → b ≠ a := fun {l us} hl e1 e2 => by
      rw [List.getElem?_set_ne (Ne.symm hl)] at e1 e2
      exact y_ne (o0 l us b e1 e2) y0 n0
    have new : ∀ {us : List D}, (S.set i (.ow xs))[i]? = some (.ow us) → (σ.set i (some (.ref a)))[i]? = some (some (.ref b)) → b = a := fun {us} e1 e2 => by
      by_cases hl : i < S.length
      · rw [List.getElem?_set_self (by rw [← r.ln]; exact hl)] at e2
        cases e2
        rfl
      · rw [List.getElem?_eq_none (by rw [List.length_set]; omega)] at e1
        cases e1
    by_cases hj : j = i
    · by_cases hk : k = i
      · rw [hj, hk]
      · subst hj
        exact absurd (new h1 h3) (old hk h2 h4)
    · by_cases hk : k = i
      · subst hk
        exact absurd (new h2 h4) (old hj h1 h3)
      · rw [List.getElem?_set_ne (Ne.symm hj)] at h1 h3
        rw [List.getElem?_set_ne (Ne.symm hk)] at h2 h4
        exact r.oi j k us zs b h1 h2 h3 h4
theorem Rel.fH (r : Rel Φ m y S G σ H) {a : Addr} (n : H a = none) : Φ.H a = none := by
  cases q : Φ.H a with
  | none => rfl
  | some u =>
    obtain ⟨⟨o', e'⟩, _⟩ := r.st.2 a u q
    rw [n] at e'
    cases e'
end

section
variable {Φ : Fr} {X : Cx} {W : WX} {st : Stmt} {sts : List Stmt} {f g : FS} {e : Expr} {fe : FE} {fa : FA} {pos : Pos}
theorem b_nil : EB Φ X W [] sNil := PSs.imp pss_nil fun D σ H h => by
  obtain ⟨m, y, S, G, r, o⟩ := h
  exact o m y σ H r (Stp.refl m y H)
theorem b_cons (h1 : ES Φ X W st f) (h2 : EB Φ X W sts g) : EB Φ X W (st :: sts) (sSeq f g) := PSs.imp (pss_cons h1 h2) fun D σ H h => by
  obtain ⟨m, y, S, G, r, o⟩ := h
  refine ⟨m, y, S, G, r, ?_⟩
  unfold sSeq at o
  cases e : f S G with
  | nx S' G' =>
    rw [e] at o
    exact fun m' y' σ' H' r' s' => ⟨m', y', S', G', r', OutS.mono o s'⟩
  | rt v G' => rw [e] at o; exact o
  | exc c p S' G' => rw [e] at o; exact o
  | fail => rw [e] at o; exact o
theorem b_one (h1 : ES Φ X W st f) : EB Φ X W [st] f := pss_one h1
theorem s_pass : ES Φ X W (.Pass pos) sNil := PS.imp ps_pass fun D σ H h => by
  obtain ⟨m, y, S, G, r, o⟩ := h
  exact o m y σ H r (Stp.refl m y H)
theorem s_set (i : Nat) {x : Str} {pos' : Pos} (he : EE Φ X W e fe) (hN : X.N.Nodup) (hi : X.N[i]? = some x := by rfl) (hx : Loc X.env.scope x := by first | exact .inl rfl | exact .inr rfl) (hs : swapsWith e (some (.Name x pos')) pos.line X.env = pure false := by rfl) (hf : X.fn x = true ∨ X.env.scope.names.lookup x = some .local := by first | exact .inl rfl | exact .inr rfl) :
    ES Φ X W (.Assign [.Name x pos'] e pos) (sSet i fe) := PS.imp (ps_set hN hi hx he hs hf) fun D σ H h => by
  obtain ⟨m, y, S, G, r, o⟩ := h
  exact ⟨m, y, S, G, r, OutS.thn r o fun d G1 H1 _ r1 e1 o1 v vd => o1 m y _ H1 (r1.set vd) (Stp.refl m y H1)⟩
theorem s_setO (i : Nat) {x : Str} {pos' : Pos} (he : EO Φ X W e fa) (hN : X.N.Nodup) (hi : X.N[i]? = some x := by rfl) (hx : Loc X.env.scope x := by first | exact .inl rfl | exact .inr rfl) (hs : swapsWith e (some (.Name x pos')) pos.line X.env = pure false := by rfl) (hf : X.fn x = true ∨ X.env.scope.names.lookup x = some .local := by first | exact .inl rfl | exact .inr rfl) :
    ES Φ X W (.Assign [.Name x pos'] e pos) (sSetO i fa) := PS.imp (ps_set hN hi hx he hs hf) fun D σ H h => by
  obtain ⟨m, y, S, G, r, o⟩ := h
  refine ⟨m, y, S, G, r, OutS.thnO r o fun ds G1 a vs H1 _ n t r1 e1 vd o1 => ?_⟩
  exact o1 m _ _ H1 (r1.setO n r.yd r.my r.oy t (r.fH n) vd) (Stp.refl m _ H1)
theorem s_drop (he : EE Φ X W e fe) (hs : swapsWith e none pos.line X.env = pure false := by rfl) : ES Φ X W (.Expr e pos) (sDrop fe) := PS.imp (ps_expr he hs) fun D σ H h => by
  obtain ⟨m, y, S, G, r, o⟩ := h
  exact ⟨m, y, S, G, r, OutS.thn r o fun d G1 H1 _ r1 e1 o1 v vd => o1 m y σ H1 r1 (Stp.refl m y H1)⟩
theorem s_ret (he : EE Φ X W e fe) : ES Φ X W (.Return (some e) pos) (sRet fe) := PS.imp (ps_ret he) fun D σ H h => by
  obtain ⟨m, y, S, G, r, o⟩ := h
  exact ⟨m, y, S, G, r, OutS.thn r o fun d G1 H1 _ r1 e1 o1 v vd => o1 m y v H1 r1.toRelH (Stp.refl m y H1) vd⟩
theorem s_retO (he : EO Φ X W e fa) : ES Φ X W (.Return (some e) pos) (sRetO fa) := PS.imp (ps_ret he) fun D σ H h => by
  obtain ⟨m, y, S, G, r, o⟩ := h
  refine ⟨m, y, S, G, r, OutS.thnO r o fun ds G1 a vs H1 _ n t r1 e1 vd o1 => ?_⟩
  exact o1 m _ _ H1 r1.toRelH (Stp.refl m _ H1) ⟨a, vs, rfl, t, vd, r.fH n, fun q => y_ne (r.my a q) r.yd n rfl, .inr rfl⟩
theorem s_retN : ES Φ X W (.Return none pos) sRetN := PS.imp ps_retN fun D σ H h => by
  obtain ⟨m, y, S, G, r, o⟩ := h
  exact o m y .non H r.toRelH (Stp.refl m y H) (mk_non (Φ := Φ) (H := H) (m := m) (y := y))
theorem s_if {c : Expr} {a b : List Stmt} {t : FT} (hc : ET Φ X W c t) (ha : EB Φ X W a f) (hb : EB Φ X W b g) : ES Φ X W (.If c a b pos) (sIf t f g) := PS.imp (ps_if hc ha hb) fun D σ H h => by
  obtain ⟨m, y, S, G, r, o⟩ := h
  refine ⟨m, y, S, G, r, OutS.thn r o fun c G1 H1 _ r1 e1 o1 => ?_⟩
  cases c with
  | true => exact iteT ⟨m, y, S, G1, r1, o1⟩
  | false => exact iteF ⟨m, y, S, G1, r1, o1⟩

/-! ### own lists: as a value, as a cell, grown -/
/-- the own list of a slot becomes a value -/
def frz (i : Nat) (S : SS) : SS := match S[i]? with
  | some (.ow xs) => S.set i (.pl (.lst xs))
  | _ => S
theorem Rel.frz {m : List Addr} {y : Addr → Prop} {S : SS} {G : GS} {σ : L2.St} {H : Hp} (i : Nat) (r : Rel Φ m y S G σ H) : ∃ y', Rel Φ m y' (frz i S) G σ H ∧ Stp m y H m y' H := by
  unfold Wd.frz
  split
  · rename_i xs e
    obtain ⟨a, vs, h1, h2, h3, h4, h5, h6⟩ := r.ow i xs e
    have nf : ¬ Φ.f a := fun q => r.fy a q h4
    have hl : i < σ.length := (List.getElem?_eq_some_iff.mp h1).1
    refine ⟨fun b => y b ∧ b ≠ a, ?_, Stp.less fun b h => h.1⟩
    have r2 : RelH Φ m (fun b => y b ∧ b ≠ a) G H := r.toRelH.less (fun b h => h.1) fun b h => ⟨r.my b h, fun z => h5 (by rw [← z]; exact h)⟩
    refine { toRelH := r2, ln := by rw [List.length_set]; exact r.ln, raw := raw_set r.raw i _ (fun z => by cases z), sl := fun j d e' => ?_, ow := fun j zs e' => ?_, oi := fun j k us zs b k1 k2 k3 k4 => ?_ }
    · by_cases hj : j = i
      · subst hj
        rw [List.getElem?_set_self (by rw [r.ln]; exact hl)] at e'
        cases e'
        refine ⟨_, h1, mk_lst' h2 (fun q => ?_) (VDs.imp (fun b o _ q => q.imp id fun z => z.1) xs h3)⟩
        rcases q with q | q
        · exact nf q
        · exact q.2 rfl
      · rw [List.getElem?_set_ne (Ne.symm hj)] at e'
        obtain ⟨v, k1, k2⟩ := r.sl j d e'
        exact ⟨v, k1, VD.imp (fun b o _ q => q.imp id fun z => z.1) d k2⟩
    · by_cases hj : j = i
      · subst hj
        rw [List.getElem?_set_self (by rw [r.ln]; exact hl)] at e'
        cases e'
      · rw [List.getElem?_set_ne (Ne.symm hj)] at e'
        obtain ⟨b, ws, k1, k2, k3, k4, k5, k6⟩ := r.ow j zs e'
        refine ⟨b, ws, k1, k2, VDs.imp (fun b o _ q => q.imp id fun z => z.1) zs k3, ⟨k4, fun z => ?_⟩, k5, k6⟩
        rw [z] at k1
        exact hj (r.oi j i zs xs a e' e k1 h1)
    · by_cases hj : j = i
      · subst hj
        rw [List.getElem?_set_self (by rw [r.ln]; exact hl)] at k1
        cases k1
      · by_cases hk : k = i
        · subst hk
          rw [List.getElem?_set_self (by rw [r.ln]; exact hl)] at k2
          cases k2
        · rw [List.getElem?_set_ne (Ne.symm hj)] at k1
          rw [List.getElem?_set_ne (Ne.symm hk)] at k2
          exact r.oi j k us zs b k1 k2 k3 k4
  · exact ⟨y, r, Stp.refl m y H⟩
/-- .. becomes a cell -/
def prm (i : Nat) (S : SS) (G : GS) : SS × GS := match S[i]? with
  | some (.ow xs) => (S.set i (.pl (.ref G.length)), G ++ [xs])
  | _ => (S, G)
theorem Rel.prm {m : List Addr} {y : Addr → Prop} {S : SS} {G : GS} {σ : L2.St} {H : Hp} (i : Nat) (r : Rel Φ m y S G σ H) : ∃ m', Rel Φ m' y (prm i S G).1 (prm i S G).2 σ H ∧ Stp m y H m' y H := by
  unfold Wd.prm
  split
  · rename_i xs e
    obtain ⟨a, vs, h1, h2, h3, h4, h5, h6⟩ := r.ow i xs e
    have hl : i < σ.length := (List.getElem?_eq_some_iff.mp h1).1
    have pre : ∀ (j : Nat) b, m[j]? = some b → (m ++ [a])[j]? = some b := fun j b h => by
      rw [List.getElem?_append_left (List.getElem?_eq_some_iff.mp h).1]
      exact h
    have stp : Stp m y H (m ++ [a]) y H := ⟨Step.refl y H, pre⟩
    refine ⟨m ++ [a], ?_, stp⟩
    have up : ∀ {d : D} {v : V}, Φ.vd m y H d v → Φ.vd (m ++ [a]) y H d v := fun {d v} h => VD.step (Step.refl y H) pre d h
    have ups : ∀ {d : List D} {v : List V}, Φ.vds m y H d v → Φ.vds (m ++ [a]) y H d v := fun {d v} h => VDs.step (Step.refl y H) pre d h
    obtain ⟨t, mp1, mp2⟩ := r.mp
    have st := r.st
    refine { cl := fun j zs e' => ?_, ml := by rw [List.length_append, List.length_append, r.ml] <;> rfl, mn := ?_, my := fun b hb => ?_, yd := r.yd, fd := r.fd, fy := r.fy, mp := ⟨t ++ [a], by rw [mp1, List.append_assoc], fun b hb => ?_⟩, st := st, tb := r.tb, ln := by rw [List.length_set]; exact r.ln, raw := raw_set r.raw i _ (fun z => by cases z), sl := fun j d e' => ?_, ow := fun j zs e' => ?_, oi := fun j k us zs b k1 k2 k3 k4 => ?_ }
    · by_cases hj : j < G.length
      · have e' : (G ++ [xs])[j]? = some zs := e'
        rw [List.getElem?_append_left hj] at e'
        obtain ⟨b, ws, k1, k2, k3⟩ := r.cl j zs e'
        exact ⟨b, ws, pre j b k1, k2, ups k3⟩
      · have e' : (G ++ [xs])[j]? = some zs := e'
        rw [List.getElem?_append_right (by omega)] at e'
        have hj' : j - G.length = 0 := by
          by_cases z : j - G.length = 0
          · exact z
          · rw [List.getElem?_eq_none (by simp; omega)] at e'
            cases e'
        rw [hj'] at e'
        cases e'
        refine ⟨a, vs, ?_, h2, ups h3⟩
        rw [List.getElem?_append_right (by rw [r.ml]; omega), r.ml, hj'] <;> rfl
    · refine List.nodup_append.mpr ⟨r.mn, by simp, fun b hb c hc z => ?_⟩
      rw [List.mem_singleton.mp hc] at z
      exact h5 (by rw [← z]; exact hb)
    · rcases List.mem_append.mp hb with hb | hb
      · exact r.my b hb
      · rw [List.mem_singleton.mp hb]
        exact h4
    · rcases List.mem_append.mp hb with hb | hb
      · exact mp2 b hb
      · rw [List.mem_singleton.mp hb]
        exact h6
    · have e' : (S.set i (.pl (.ref G.length)))[j]? = some (.pl d) := e'
      by_cases hj : j = i
      · subst hj
        rw [List.getElem?_set_self (by rw [r.ln]; exact hl)] at e'
        cases e'
        refine ⟨_, h1, ?_⟩
        simp only [Fr.vd, VD]
        exact ⟨a, rfl, by rw [List.getElem?_append_right (by rw [r.ml]; omega), r.ml, Nat.sub_self] <;> rfl⟩
      · rw [List.getElem?_set_ne (Ne.symm hj)] at e'
        obtain ⟨v, k1, k2⟩ := r.sl j d e'
        exact ⟨v, k1, up k2⟩
    · have e' : (S.set i (.pl (.ref G.length)))[j]? = some (.ow zs) := e'
      by_cases hj : j = i
      · subst hj
        rw [List.getElem?_set_self (by rw [r.ln]; exact hl)] at e'
        cases e'
      · rw [List.getElem?_set_ne (Ne.symm hj)] at e'
        obtain ⟨b, ws, k1, k2, k3, k4, k5, k6⟩ := r.ow j zs e'
        refine ⟨b, ws, k1, k2, ups k3, k4, fun z => ?_, k6⟩
        rcases List.mem_append.mp z with z | z
        · exact k5 z
        · rw [List.mem_singleton.mp z] at k1
          exact hj (r.oi j i zs xs a e' e k1 h1)
    · have k1 : (S.set i (.pl (.ref G.length)))[j]? = some (.ow us) := k1
      have k2 : (S.set i (.pl (.ref G.length)))[k]? = some (.ow zs) := k2
      by_cases hj : j = i
      · subst hj
        rw [List.getElem?_set_self (by rw [r.ln]; exact hl)] at k1
        cases k1
      · by_cases hk : k = i
        · subst hk
          rw [List.getElem?_set_self (by rw [r.ln]; exact hl)] at k2
          cases k2
        · rw [List.getElem?_set_ne (Ne.symm hj)] at k1
          rw [List.getElem?_set_ne (Ne.symm hk)] at k2
          exact r.oi j k us zs b k1 k2 k3 k4
  · exact ⟨m, r, Stp.refl m y H⟩
def sFrz (i : Nat) (f : FS) : FS := fun S G => f (frz i S) G
def sPrm (i : Nat) (f : FS) : FS := fun S G => f (prm i S G).1 (prm i S G).2
theorem b_frz (i : Nat) (h : EB Φ X W sts f) : EB Φ X W sts (sFrz i f) := PSs.imp h fun D σ H h => by
  obtain ⟨m, y, S, G, r, o⟩ := h
  obtain ⟨y', r', s'⟩ := r.frz i
  exact ⟨m, y', _, G, r', OutS.mono o s'⟩
theorem b_prm (i : Nat) (h : EB Φ X W sts f) : EB Φ X W sts (sPrm i f) := PSs.imp h fun D σ H h => by
  obtain ⟨m, y, S, G, r, o⟩ := h
  obtain ⟨m', r', s'⟩ := r.prm i
  exact ⟨m', y, _, _, r', OutS.mono o s'⟩
/-- an own list is handed back -/
def sRetV (i : Nat) : FS := fun S G => match S[i]? with
  | some (.ow xs) => .rt (.ow xs) G
  | some (.pl d) => .rt (.pl d) G
  | _ => .fail
theorem s_retV (i : Nat) {x : Str} {p : Pos} (hN : X.N[i]? = some x := by rfl) (hv : Vis X.env.scope x := by first | exact Or.inl rfl | exact Or.inr (Or.inl rfl) | exact Or.inr (Or.inr rfl)) (hd : (x == ("__debug__" : Str)) = false := by decide)
    (hcd : (x == ("__classdict__" : Str)) = false := by decide) : ES Φ X W (.Return (some (.Name x p)) pos) (sRetV i) := PS.imp (ps_ret (pe_var hN hv hd hcd)) fun D σ H h => by
  obtain ⟨m, y, S, G, r, o⟩ := h
  unfold sRetV at o
  split at o
  · rename_i xs e
    obtain ⟨a, vs, h1, h2, h3, h4, h5, h6⟩ := r.ow i xs e
    exact ⟨_, h1, o m y _ H r.toRelH (Stp.refl m y H) ⟨a, vs, rfl, h2, h3, h6, h5, h4⟩⟩
  · rename_i d e
    obtain ⟨v, h1, h2⟩ := r.sl i d e
    exact ⟨v, h1, o m y v H r.toRelH (Stp.refl m y H) h2⟩
  · exact o.elim
end
end Wd
/-! Wd, part F: lists that change, targets, loops, comprehensions. -/
namespace Wd
open PySem PySem.Spec PyProof.Rows L2

section
variable {Φ : Fr} {m m' : List Addr} {y y' : Addr → Prop} {S : SS} {G G' : GS} {σ : L2.St} {H H' : Hp} {W : WX} {En : Ends}
theorem ext_upd {z : Addr → Prop} {a : Addr} {vs ws : List V} (h : H a = some (.lst vs)) (hz : z a) : Ext z H (upd H a (.lst ws)) := fun b o e => by
  by_cases hb : b = a
  · subst hb
    exact ⟨⟨_, upd_same⟩, fun n => absurd hz n⟩
  · rw [upd_ne hb]
    exact ⟨⟨o, e⟩, fun _ _ => e⟩
theorem tabs_upd {T : List (Addr × Str)} {a : Addr} {vs ws : List V} (t : LamX.Tabs T H) (h : H a = some (.lst vs)) : LamX.Tabs T (upd H a (.lst ws)) := fun p hp => by
  obtain ⟨ps, h1, h2, h3⟩ := t p hp
  refine ⟨ps, by rw [upd_ne (fun z => by rw [z, h] at h1; cases h1)]; exact h1, h2, fun pos cv hc => ?_⟩
  obtain ⟨c, e1, e2⟩ := h3 pos cv hc
  refine ⟨c, e1, ?_⟩
  rw [upd_ne (fun z => by rw [z, h] at e2; unfold LamX.CodeO at e2; cases e2)]
  exact e2
theorem stp_upd {a : Addr} {vs ws : List V} (h : H a = some (.lst vs)) (hy : y a) : Step y H y (upd H a (.lst ws)) := Step.of_ext (ext_upd h hy)
theorem st_upd {a : Addr} {vs ws : List V} (r : RelH Φ m y G H) (h : H a = some (.lst vs)) (hy : y a) (hm : a ∈ Φ.m ∨ Φ.H a = none) : Step (fun a => a ∈ Φ.m) Φ.H y (upd H a (.lst ws)) := by
  refine ⟨r.st.1, fun b o e => ?_⟩
  obtain ⟨⟨o', k1⟩, k2⟩ := r.st.2 b o e
  by_cases hb : b = a
  · subst hb
    refine ⟨⟨_, upd_same⟩, fun n _ => ?_⟩
    rcases hm with hm | hm
    · exact absurd hm n
    · rw [hm] at e
      cases e
  · rw [upd_ne hb]
    exact ⟨⟨o', k1⟩, k2⟩
theorem RelH.fm {a : Addr} (r : RelH Φ m y G H) (h : a ∈ m) : a ∈ Φ.m ∨ Φ.H a = none := by
  obtain ⟨t, e, k⟩ := r.mp
  rw [e] at h
  exact (List.mem_append.mp h).imp id (k a)
/-- an own list gets other items -/
theorem Rel.mutO {i : Nat} {xs xs' : List D} {a : Addr} {vs ws : List V} (r : Rel Φ m y S G σ H) (e : S[i]? = some (.ow xs)) (hσ : σ[i]? = some (some (.ref a))) (h : H a = some (.lst vs)) (hd : Φ.vds m y H xs' ws) :
    Rel Φ m y (S.set i (.ow xs')) G σ (upd H a (.lst ws)) ∧ Stp m y H m y (upd H a (.lst ws)) := by
  obtain ⟨a', vs', k1, k2, k3, k4, k5, k6⟩ := r.ow i xs e
  rw [hσ] at k1
  cases k1
  have st := stp_upd (ws := ws) h k4
  have up : ∀ {d : D} {v : V}, Φ.vd m y H d v → Φ.vd m y (upd H a (.lst ws)) d v := fun {d v} h => VD.step st (fun _ _ h => h) d h
  have ups : ∀ {d : List D} {v : List V}, Φ.vds m y H d v → Φ.vds m y (upd H a (.lst ws)) d v := fun {d v} h => VDs.step st (fun _ _ h => h) d h
  have hl : i < S.length := (List.getElem?_eq_some_iff.mp e).1
  refine ⟨{ cl := fun j zs e' => ?_, ml := r.ml, mn := r.mn, my := r.my, yd := fun b hb => ?_, fd := fun b hb => ?_, fy := r.fy, mp := r.mp, st := st_upd r.toRelH h k4 (.inr k6), tb := tabs_upd r.tb h, ln := by rw [List.length_set]; exact r.ln, raw := raw_set r.raw i _ (fun z => by cases z), sl := fun j d e' => ?_, ow := fun j zs e' => ?_, oi := fun j k us zs b q1 q2 q3 q4 => ?_ }, ⟨st, fun _ _ h => h⟩⟩
  · obtain ⟨b, us, q1, q2, q3⟩ := r.cl j zs e'
    refine ⟨b, us, q1, ?_, ups q3⟩
    rw [upd_ne (fun z => k5 (by rw [← z]; exact List.mem_of_getElem? q1))]
    exact q2
  · by_cases hb' : b = a
    · exact ⟨_, by rw [hb']; exact upd_same⟩
    · rw [upd_ne hb']
      exact r.yd b hb
  · by_cases hb' : b = a
    · exact ⟨_, by rw [hb']; exact upd_same⟩
    · rw [upd_ne hb']
      exact r.fd b hb
  · by_cases hj : j = i
    · subst hj
      rw [List.getElem?_set_self hl] at e'
      cases e'
    · rw [List.getElem?_set_ne (Ne.symm hj)] at e'
      obtain ⟨v, q1, q2⟩ := r.sl j d e'
      exact ⟨v, q1, up q2⟩
  · by_cases hj : j = i
    · subst hj
      rw [List.getElem?_set_self hl] at e'
      cases e'
      exact ⟨a, ws, hσ, upd_same, ups hd, k4, k5, k6⟩
    · rw [List.getElem?_set_ne (Ne.symm hj)] at e'
      obtain ⟨b, us, q1, q2, q3, q4, q5, q6⟩ := r.ow j zs e'
      refine ⟨b, us, q1, ?_, ups q3, q4, q5, q6⟩
      rw [upd_ne (fun z => hj (r.oi j i zs xs a e' e (by rw [← z]; exact q1) hσ))]
      exact q2
  · have old : ∀ {l : Nat} {us : List D}, (S.set i (.ow xs'))[l]? = some (.ow us) → ∃ us', S[l]? = some (.ow us') := fun {l us} q => by
      by_cases hl' : l = i
      · subst hl'
        exact ⟨xs, e⟩
      · rw [List.getElem?_set_ne (Ne.symm hl')] at q
        exact ⟨us, q⟩
    obtain ⟨_, q1⟩ := old q1
    obtain ⟨_, q2⟩ := old q2
    exact r.oi j k _ _ b q1 q2 q3 q4
/-- a cell gets other items -/
theorem Rel.mutC {k : Nat} {xs xs' : List D} {a : Addr} {vs ws : List V} (r : Rel Φ m y S G σ H) (e : G[k]? = some xs) (hm : m[k]? = some a) (h : H a = some (.lst vs)) (hd : Φ.vds m y H xs' ws) :
    Rel Φ m y S (G.set k xs') σ (upd H a (.lst ws)) ∧ Ext (fun a => a ∈ m) H (upd H a (.lst ws)) := by
  have ma : a ∈ m := List.mem_of_getElem? hm
  have k4 := r.my a ma
  have st := stp_upd (ws := ws) h k4
  have up : ∀ {d : D} {v : V}, Φ.vd m y H d v → Φ.vd m y (upd H a (.lst ws)) d v := fun {d v} h => VD.step st (fun _ _ h => h) d h
  have ups : ∀ {d : List D} {v : List V}, Φ.vds m y H d v → Φ.vds m y (upd H a (.lst ws)) d v := fun {d v} h => VDs.step st (fun _ _ h => h) d h
  have hl : k < G.length := (List.getElem?_eq_some_iff.mp e).1
  refine ⟨{ cl := fun j zs e' => ?_, ml := by rw [List.length_set]; exact r.ml, mn := r.mn, my := r.my, yd := fun b hb => ?_, fd := fun b hb => ?_, fy := r.fy, mp := r.mp, st := st_upd r.toRelH h k4 (r.toRelH.fm ma), tb := tabs_upd r.tb h, ln := r.ln, raw := r.raw, sl := fun j d e' => ?_, ow := fun j zs e' => ?_, oi := r.oi }, ext_upd h ma⟩
  · by_cases hj : j = k
    · subst hj
      rw [List.getElem?_set_self hl] at e'
      cases e'
      exact ⟨a, ws, hm, upd_same, ups hd⟩
    · rw [List.getElem?_set_ne (Ne.symm hj)] at e'
      obtain ⟨b, us, q1, q2, q3⟩ := r.cl j zs e'
      refine ⟨b, us, q1, ?_, ups q3⟩
      rw [upd_ne (fun z => hj ?_)]
      · exact q2
      · rw [z] at q1
        exact (List.getElem?_inj (List.getElem?_eq_some_iff.mp q1).1 r.mn).mp (q1.trans hm.symm)
  · by_cases hb' : b = a
    · exact ⟨_, by rw [hb']; exact upd_same⟩
    · rw [upd_ne hb']
      exact r.yd b hb
  · by_cases hb' : b = a
    · exact ⟨_, by rw [hb']; exact upd_same⟩
    · rw [upd_ne hb']
      exact r.fd b hb
  · obtain ⟨v, q1, q2⟩ := r.sl j d e'
    exact ⟨v, q1, up q2⟩
  · obtain ⟨b, us, q1, q2, q3, q4, q5, q6⟩ := r.ow j zs e'
    refine ⟨b, us, q1, ?_, ups q3, q4, q5, q6⟩
    rw [upd_ne (fun z => q5 (by rw [z]; exact ma))]
    exact q2
end

/-! ### own lists read and grown -/
def fLenO (i : Nat) : FE := fun S G => match S[i]? with
  | some (.ow xs) => .ok (.int xs.length) G
  | some (.pl x) => opt (dLen G [x]) G
  | _ => .fail
def sApp (i : Nat) (a : FE) : FS := fun S G => match S[i]? with
  | some (.ow xs) => (a S G).thn S fun d G => if xs.length < SL then .nx (S.set i (.ow (xs ++ [d]))) G else .fail
  | _ => .fail
def sExt (i : Nat) (a : FE) : FS := fun S G => match S[i]? with
  | some (.ow xs) => (a S G).thn S fun d G => match d with
    | .lst zs => if xs.length + zs.length ≤ SL then .nx (S.set i (.ow (xs ++ zs))) G else .fail
    | _ => .fail
  | _ => .fail
def fIxO (i : Nat) (a : FE) : FE := fun S G => match S[i]? with
  | some (.ow xs) => (a S G).bind fun d G => match d with
    | .int k => opt (atI xs k) G
    | _ => .fail
  | _ => .fail
section
variable {Φ : Fr} {X : Cx} {W : WX} {e : Expr} {fe : FE} {x : Str} {p p2 pos apos cpos : Pos}
theorem s_app (fit : Fits Φ X) (i : Nat) (he : EE Φ X W e fe) (hN : X.N[i]? = some x := by rfl) (hv : Vis X.env.scope x := by first | exact Or.inl rfl | exact Or.inr (Or.inl rfl) | exact Or.inr (Or.inr rfl)) (hd : (x == ("__debug__" : Str)) = false := by decide) (hcd : (x == ("__classdict__" : Str)) = false := by decide)
    (hbase : attributeBase (.Name x p) "append" X.env (eval (.Name x p) X.env) = eval (.Name x p) X.env := by rfl)
    (hfew : ((backTo cpos (starEach [e] X.env)).all (fun x => !x.1) && (backToKw cpos (keywordEach [] X.env)).all (fun x => x.1.isSome)
      && decide ([e].length + ([] : List Keyword).length + (if ([] : List Keyword).isEmpty then 0 else 1) < 30)) = true := by rfl)
    (hline : (apos.endLine == cpos.line) = true := by rfl) (hs : starEach [e] X.env = (false, eval e X.env) :: starEach [] X.env := by rfl) (hplain : (backTo cpos (starEach [] X.env)).any (·.1) = false := by rfl)
    (hsw : swapsWith (.Call (.Attribute (.Name x p) "append" apos) [e] [] cpos) none pos.line X.env = pure false := by rfl) :
    ES Φ X W (.Expr (.Call (.Attribute (.Name x p) "append" apos) [e] [] cpos) pos) (sApp i fe) := by
  refine PS.imp (ps_expr (pe_bm PySem.F.plainAttrs_list PySem.F.slot_list_append PySem.F.type_list_append mt_append (pe_var hN hv hd hcd) (pa_cons he pa_nil hs) hbase hfew hline hs hplain) hsw) fun D σ H h => ?_
  obtain ⟨m, y, S, G, r, o⟩ := h
  unfold sApp at o
  split at o
  · rename_i xs es
    obtain ⟨a, vs, k1, k2, k3, k4, k5, k6⟩ := r.ow i xs es
    refine ⟨_, k1, .inl ⟨rfl, vs, .inl (.inl k2)⟩, m, y, S, G, r, OutS.thn r o fun d G1 H1 _ r1 e1 o1 v vd => ?_⟩
    obtain ⟨a', vs', q1, q2, q3, q4, q5, q6⟩ := r1.ow i xs es
    rw [k1] at q1
    cases q1
    by_cases hl : xs.length < SL
    · rw [if_pos hl] at o1
      refine ⟨a, vs', v, rfl, rfl, q2, by rw [← q3.length, sizeLine_eq]; exact hl, ?_⟩
      obtain ⟨r2, s2⟩ := r1.mutO es k1 q2 (q3.append (.cons vd .nil))
      exact o1 m y σ _ r2 s2
    · rw [if_neg hl] at o1
      exact o1.elim
  · exact o.elim
theorem s_ext (fit : Fits Φ X) (i : Nat) (he : EE Φ X W e fe) (hN : X.N[i]? = some x := by rfl) (hv : Vis X.env.scope x := by first | exact Or.inl rfl | exact Or.inr (Or.inl rfl) | exact Or.inr (Or.inr rfl)) (hd : (x == ("__debug__" : Str)) = false := by decide) (hcd : (x == ("__classdict__" : Str)) = false := by decide)
    (hbase : attributeBase (.Name x p) "extend" X.env (eval (.Name x p) X.env) = eval (.Name x p) X.env := by rfl)
    (hfew : ((backTo cpos (starEach [e] X.env)).all (fun x => !x.1) && (backToKw cpos (keywordEach [] X.env)).all (fun x => x.1.isSome)
      && decide ([e].length + ([] : List Keyword).length + (if ([] : List Keyword).isEmpty then 0 else 1) < 30)) = true := by rfl)
    (hline : (apos.endLine == cpos.line) = true := by rfl) (hs : starEach [e] X.env = (false, eval e X.env) :: starEach [] X.env := by rfl) (hplain : (backTo cpos (starEach [] X.env)).any (·.1) = false := by rfl)
    (hsw : swapsWith (.Call (.Attribute (.Name x p) "extend" apos) [e] [] cpos) none pos.line X.env = pure false := by rfl) :
    ES Φ X W (.Expr (.Call (.Attribute (.Name x p) "extend" apos) [e] [] cpos) pos) (sExt i fe) := by
  refine PS.imp (ps_expr (pe_bm PySem.F.plainAttrs_list PySem.F.slot_list_extend PySem.F.type_list_extend mt_extend (pe_var hN hv hd hcd) (pa_cons he pa_nil hs) hbase hfew hline hs hplain) hsw) fun D σ H h => ?_
  obtain ⟨m, y, S, G, r, o⟩ := h
  unfold sExt at o
  split at o
  · rename_i xs es
    obtain ⟨a, vs, k1, k2, k3, k4, k5, k6⟩ := r.ow i xs es
    refine ⟨_, k1, .inl ⟨rfl, vs, .inl (.inl k2)⟩, m, y, S, G, r, OutS.thn r o fun d G1 H1 _ r1 e1 o1 v vd => ?_⟩
    obtain ⟨a', vs', q1, q2, q3, q4, q5, q6⟩ := r1.ow i xs es
    rw [k1] at q1
    cases q1
    cases d <;> first | exact o1.elim | skip
    rename_i zs _
    obtain ⟨b, ws, rfl, t, dz⟩ := vd_lst vd
    by_cases hl : xs.length + zs.length ≤ SL
    · have o1 := (show OutS Φ W m y H1 (if xs.length + zs.length ≤ SL then .nx (S.set i (.ow (xs ++ zs))) G1 else .fail) D from o1)
      rw [if_pos hl] at o1
      refine ⟨a, b, vs', ws, rfl, rfl, q2, t.1, by rw [← q3.length, ← dz.length, sizeLine_eq]; exact hl, ?_⟩
      obtain ⟨r2, s2⟩ := r1.mutO es k1 q2 (q3.append dz)
      exact o1 m y σ _ r2 s2
    · have o1 := (show OutS Φ W m y H1 (if xs.length + zs.length ≤ SL then .nx (S.set i (.ow (xs ++ zs))) G1 else .fail) D from o1)
      rw [if_neg hl] at o1
      exact o1.elim
  · exact o.elim
theorem e_lenO (fit : Fits Φ X) (i : Nat) (hm : X.mg "len" = none) (hN : X.N[i]? = some x := by rfl) (hv : Vis X.env.scope x := by first | exact Or.inl rfl | exact Or.inr (Or.inl rfl) | exact Or.inr (Or.inr rfl)) (hd : (x == ("__debug__" : Str)) = false := by decide) (hcd : (x == ("__classdict__" : Str)) = false := by decide)
    (hg : Gl X "len" := by rfl) (he : starEach [.Name x p2] X.env = (false, eval (.Name x p2) X.env) :: starEach [] X.env := by rfl) (hpl : (backTo pos (starEach [] X.env)).any (·.1) = false := by rfl) :
    EE Φ X W (.Call (.Name "len" p) [.Name x p2] [] pos) (fLenO i) := by
  refine PE.imp (pe_callB call_len hg hm boot_len (pa_cons (pe_var hN hv hd hcd) pa_nil he) (by decide) (by decide) he hpl) fun σ H Q h => ?_
  obtain ⟨m, y, S, G, r, o⟩ := h
  unfold fLenO at o
  split at o
  · rename_i xs es
    obtain ⟨a, vs, k1, k2, k3, k4, k5, k6⟩ := r.ow i xs es
    refine ⟨_, k1, _, vs.length, rfl, .inl ⟨vs, .inl (.inl k2), rfl⟩, ?_⟩
    rw [← k3.length]
    exact o H r (Ext.refl _ H) _ mk_int
  · rename_i d es
    obtain ⟨v, k1, k2⟩ := r.sl i d es
    refine ⟨v, k1, ?_⟩
    obtain ⟨d2, hd2, o2⟩ := Out.opt_ o
    have key : ∀ d, dLen G [d] = some d2 → Φ.vd m y H d v → ∃ x' n, [v] = [x'] ∧ LenV X.K x' H n ∧ d2 = .int (n : Int) := fun d hd k2 => by
      cases d <;> simp only [dLen, D.items, Option.map_some, Option.map_none, reduceCtorEq, Option.some.injEq] at hd
      · obtain ⟨h1, rfl⟩ := gd_some hd
        rename_i s2
        refine ⟨v, s2.length, rfl, ?_, rfl⟩
        rw [vd_str k2]
        exact ⟨by rw [ofString_len, sizeLine_eq]; exact h1, (ofString_len _).symm⟩
      · obtain ⟨q, vs, rfl, hs, ds⟩ := vd_tup k2
        exact ⟨_, vs.length, rfl, .inr ⟨vs, by rw [fit.K]; exact hs.sq, rfl⟩, by rw [← hd, ds.length]⟩
      · obtain ⟨q, vs, rfl, hs, ds⟩ := vd_lst k2
        exact ⟨_, vs.length, rfl, .inl ⟨vs, hs.sq, rfl⟩, by rw [← hd, ds.length]⟩
      · obtain ⟨q, vs, rfl, hs, ds⟩ := vd_scr k2
        exact ⟨_, vs.length, rfl, .inl ⟨vs, by rw [fit.K]; exact hs.sq, rfl⟩, by rw [← hd, ds.length]⟩
      · obtain ⟨xs, h1, h2⟩ := Option.map_eq_some_iff.mp hd
        obtain ⟨q, rfl, hq⟩ := vd_ref k2
        obtain ⟨q', vs, k3, k4, k5⟩ := r.cl _ _ h1
        rw [hq] at k3
        cases k3
        exact ⟨_, vs.length, rfl, .inl ⟨vs, .inl (.inl k4), rfl⟩, by rw [← h2, k5.length]⟩
    obtain ⟨x', n, h1, h2, rfl⟩ := key d hd2 k2
    exact ⟨x', n, h1, h2, o2 H r (Ext.refl _ H) _ mk_int⟩
  · exact o.elim
theorem e_ixO (fit : Fits Φ X) (i : Nat) (he : EE Φ X W e fe) (hN : X.N[i]? = some x := by rfl) (hv : Vis X.env.scope x := by first | exact Or.inl rfl | exact Or.inr (Or.inl rfl) | exact Or.inr (Or.inr rfl)) (hd : (x == ("__debug__" : Str)) = false := by decide) (hcd : (x == ("__classdict__" : Str)) = false := by decide)
    (hs : PlainIx e := by exact fun _ _ => rfl) : EE Φ X W (.Subscript (.Name x p) e pos) (fIxO i fe) := by
  refine PE.imp (pe_ix ix_list (pe_var hN hv hd hcd) he hs) fun σ H Q h => ?_
  obtain ⟨m, y, S, G, r, o⟩ := h
  unfold fIxO at o
  split at o
  · rename_i xs es
    obtain ⟨a, vs, k1, k2, k3, k4, k5, k6⟩ := r.ow i xs es
    refine ⟨_, k1, m, y, S, G, r, Out.bind o fun d G1 H1 _ r1 e1 o1 v vd => ?_⟩
    obtain ⟨a', vs', q1, q2, q3, q4, q5, q6⟩ := r1.ow i xs es
    rw [k1] at q1
    cases q1
    cases d <;> first | exact o1.elim | skip
    obtain ⟨d2, hd2, o2⟩ := Out.opt_ o1
    obtain ⟨w, h4, dw⟩ := atI_vds q3 hd2
    exact ⟨a, vs', _, w, rfl, vd_int vd, .inl (.inl q2), h4, o2 H1 r1 (Ext.refl _ _) w dw⟩
  · exact o.elim

/-! ### x[i] = e: a cell's item, an own list's item -/
def sSto (a o i : FE) : FS := fun S G => (a S G).thn S fun d G => (o S G).thn S fun l G => (i S G).thn S fun k G => match l, k with
  | .ref c, .int k => (match G[c]? with
    | some xs => (match ixN xs.length k with
      | some j => .nx S (G.set c (xs.set j d))
      | none => .fail)
    | none => .fail)
  | _, _ => .fail
def sStoO (n : Nat) (a i : FE) : FS := fun S G => match S[n]? with
  | some (.ow xs) => (a S G).thn S fun d G => (i S G).thn S fun k G => match k with
    | .int k => (match ixN xs.length k with
      | some j => .nx (S.set n (.ow (xs.set j d))) G
      | none => .fail)
    | _ => .fail
  | _ => .fail
theorem s_sto {a o i : Expr} {fa fo fi : FE} (ha : EE Φ X W a fa) (ho : EE Φ X W o fo) (hi : EE Φ X W i fi)
    (hb : ∀ v, assign (.Subscript o i p) X.env v = (do
      let ov ← holding [v] (eval o X.env)
      let iv ← holding [v, ov] (eval i X.env)
      standAt p
      holding [v, ov, iv] (setItem ov iv v)
      release [v, ov, iv] []) := by intro _; rfl) (hs : swapsWithSole [.Subscript o i p] a pos.line X.env = pure false := by rfl) (hw : swappedStores [.Subscript o i p] a X.env = pure none := by rfl)
    (h1 : (assignEach [.Subscript o i p] X.env).map (·.2) = [assign (.Subscript o i p) X.env] := by rfl) : ES Φ X W (.Assign [.Subscript o i p] a pos) (sSto fa fo fi) := by
  refine PS.imp (ps_asg ha (pg_sub ho hi set_list hb) hs hw h1) fun D σ H h => ?_
  obtain ⟨m, y, S, G, r, q⟩ := h
  refine ⟨m, y, S, G, r, OutS.thn r q fun d G1 H1 _ r1 e1 q1 v vd => ⟨m, y, S, G1, r1, OutS.thn r1 q1 fun l G2 H2 _ r2 e2 q2 w wd => ⟨m, y, S, G2, r2, OutS.thn r2 q2 fun k G3 H3 _ r3 e3 q3 u ud => ?_⟩⟩⟩
  cases l <;> first | exact q3.elim | skip
  cases k <;> first | exact q3.elim | skip
  rename_i c _ k _
  have q3 := (show OutS Φ W m y H3 (match G3[c]? with
    | some xs => (match ixN xs.length k with
      | some j => .nx S (G3.set c (xs.set j d))
      | none => .fail)
    | none => .fail) D from q3)
  cases ec : G3[c]? with
  | none =>
    rw [ec] at q3
    exact q3.elim
  | some xs =>
    rw [ec] at q3
    have q3 := (show OutS Φ W m y H3 (match ixN xs.length k with
      | some j => .nx S (G3.set c (xs.set j d))
      | none => .fail) D from q3)
    cases ej : ixN xs.length k with
    | none =>
      rw [ej] at q3
      exact q3.elim
    | some j =>
      rw [ej] at q3
      obtain ⟨ad, rfl, hm⟩ := vd_ref (vd_ext wd e3 r3.my)
      obtain ⟨ad', vs, k1, k2, k3⟩ := r3.cl c xs ec
      rw [hm] at k1
      cases k1
      refine ⟨_, vs, k, j, rfl, vd_int ud, k2, by rw [← k3.length]; exact ej, ?_⟩
      obtain ⟨r4, e4⟩ := r3.mutC ec hm k2 (VDs.set (vd_ext (vd_ext vd e2 r2.my) e3 r3.my) j k3)
      exact q3 m y σ _ r4 (Stp.of_ext e4 r3.my)
theorem s_stoO (n : Nat) {a i : Expr} {fa fi : FE} (ha : EE Φ X W a fa) (hi : EE Φ X W i fi) (hN : X.N[n]? = some x := by rfl) (hv : Vis X.env.scope x := by first | exact Or.inl rfl | exact Or.inr (Or.inl rfl) | exact Or.inr (Or.inr rfl)) (hd : (x == ("__debug__" : Str)) = false := by decide) (hcd : (x == ("__classdict__" : Str)) = false := by decide)
    (hb : ∀ v, assign (.Subscript (.Name x p2) i p) X.env v = (do
      let ov ← holding [v] (eval (.Name x p2) X.env)
      let iv ← holding [v, ov] (eval i X.env)
      standAt p
      holding [v, ov, iv] (setItem ov iv v)
      release [v, ov, iv] []) := by intro _; rfl) (hs : swapsWithSole [.Subscript (.Name x p2) i p] a pos.line X.env = pure false := by rfl) (hw : swappedStores [.Subscript (.Name x p2) i p] a X.env = pure none := by rfl)
    (h1 : (assignEach [.Subscript (.Name x p2) i p] X.env).map (·.2) = [assign (.Subscript (.Name x p2) i p) X.env] := by rfl) : ES Φ X W (.Assign [.Subscript (.Name x p2) i p] a pos) (sStoO n fa fi) := by
  refine PS.imp (ps_asg ha (pg_sub (pe_var hN hv hd hcd) hi set_list hb) hs hw h1) fun D σ H h => ?_
  obtain ⟨m, y, S, G, r, q⟩ := h
  unfold sStoO at q
  split at q
  · rename_i xs es
    refine ⟨m, y, S, G, r, OutS.thn r q fun d G1 H1 _ r1 e1 q1 v vd => ?_⟩
    obtain ⟨b, us, k1, _⟩ := r1.ow n xs es
    refine ⟨_, k1, m, y, S, G1, r1, OutS.thn r1 q1 fun k G3 H3 _ r3 e3 q3 u ud => ?_⟩
    cases k <;> first | exact q3.elim | skip
    rename_i k _
    have q3 := (show OutS Φ W m y H3 (match ixN xs.length k with
      | some j => .nx (S.set n (.ow (xs.set j d))) G3
      | none => .fail) D from q3)
    cases ej : ixN xs.length k with
    | none =>
      rw [ej] at q3
      exact q3.elim
    | some j =>
      rw [ej] at q3
      obtain ⟨b', vs, p1, p2, p3, p4⟩ := r3.ow n xs es
      rw [k1] at p1
      cases p1
      refine ⟨_, vs, k, j, rfl, vd_int ud, p2, by rw [← p3.length]; exact ej, ?_⟩
      obtain ⟨r4, s4⟩ := r3.mutO es k1 p2 (VDs.set (vd_ext vd e3 r3.my) j p3)
      exact q3 m y σ _ r4 s4
  · exact q.elim
end
end Wd
/-! Wd, part G: targets, what is walked, loops, comprehensions. -/
namespace Wd
open PySem PySem.Spec PyProof.Rows L2

/-! ### targets -/
abbrev FT1 := D → SS → Option SS
abbrev FTs := List D → SS → Option SS
def rdG (Φ : Fr) (f : FT1) : TG := fun v σ H Q => ∃ m y S G d S', Rel Φ m y S G σ H ∧ Φ.vd m y H d v ∧ f d S = some S' ∧ ∀ σ', Rel Φ m y S' G σ' H → Q σ' H
def rdGs (Φ : Fr) (f : FTs) : TGs := fun vs σ H Q => ∃ m y S G ds S', Rel Φ m y S G σ H ∧ Φ.vds m y H ds vs ∧ f ds S = some S' ∧ ∀ σ', Rel Φ m y S' G σ' H → Q σ' H
def gN (i : Nat) : FT1 := fun d S => some (S.set i (.pl d))
def gNl : FTs := fun ds S => match ds with
  | [] => some S
  | _ => none
def gCs (a : FT1) (b : FTs) : FTs := fun ds S => match ds with
  | d :: r => (a d S).bind (b r)
  | [] => none
def gTp (n : Nat) (b : FTs) : FT1 := fun d S => match d with
  | .tup ds => if ds.length = n then b ds S else none
  | _ => none
section
variable {Φ : Fr} {X : Cx} {pos : Pos}
theorem PG.imp {e : Expr} {t t' : TG} (h : PG X e t) (i : ∀ v σ H Q, t' v σ H Q → t v σ H Q) : PG X e t' := ⟨fun pins s σ H v u Q I r q => h.run pins s σ H v u Q I r (i _ _ _ _ q)⟩
theorem PGs.imp {e : List Expr} {t t' : TGs} (h : PGs X e t) (i : ∀ v σ H Q, t' v σ H Q → t v σ H Q) : PGs X e t' := ⟨fun pins s σ H v u Q I r q => h.run pins s σ H v u Q I r (i _ _ _ _ q)⟩
theorem g_name (i : Nat) {x : Str} (hN : X.N.Nodup) (hi : X.N[i]? = some x := by rfl) (hx : Loc X.env.scope x := by first | exact .inl rfl | exact .inr rfl) (hf : X.fn x = true ∨ X.env.scope.names.lookup x = some .local := by first | exact .inl rfl | exact .inr rfl) : PG X (.Name x pos) (rdG Φ (gN i)) :=
  PG.imp (pg_name hN hi hx hf) fun v σ H Q h => by
    obtain ⟨m, y, S, G, d, S', r, vd, e, q⟩ := h
    cases e
    exact q _ (r.set vd)
theorem gs_nil : PGs X [] (rdGs Φ gNl) := PGs.imp pgs_nil fun vs σ H Q h => by
  obtain ⟨m, y, S, G, ds, S', r, vd, e, q⟩ := h
  cases ds with
  | nil =>
    cases e
    simp only [Fr.vds, VDs] at vd
    exact ⟨vd, q σ r⟩
  | cons _ _ => cases e
theorem gs_cons {e : Expr} {es : List Expr} {a : FT1} {b : FTs} (h1 : PG X e (rdG Φ a)) (h2 : PGs X es (rdGs Φ b))
    (hs : (assignEach (e :: es) X.env).map (·.2) = assign e X.env :: (assignEach es X.env).map (·.2) := by rfl) : PGs X (e :: es) (rdGs Φ (gCs a b)) := PGs.imp (pgs_cons h1 h2 hs) fun vs σ H Q h => by
  obtain ⟨m, y, S, G, ds, S', r, vd, e, q⟩ := h
  cases ds with
  | nil => cases e
  | cons d r' =>
    obtain ⟨v, ws, rfl, d1, d2⟩ := VDs.inv vd
    obtain ⟨S1, e1, e2⟩ := Option.bind_eq_some_iff.mp e
    exact ⟨v, ws, rfl, m, y, S, G, d, S1, r, d1, e1, fun σ1 r1 => ⟨m, y, S1, G, r', S', r1, d2, e2, q⟩⟩
theorem g_tup {es : List Expr} {k n : Nat} {b : FTs} (fit : Fits Φ X) (hc : X.calm = true) (h : PGs X es (rdGs Φ b))
    (hn : (assignEach es X.env).length = n := by rfl) (hst : (assignEach es X.env).findIdx? (·.1) = none := by rfl) : PG X (.Tuple es k pos) (rdG Φ (gTp n b)) := PG.imp (pg_tup hc h hn hst) fun v σ H Q h => by
  obtain ⟨m, y, S, G, d, S', r, vd, e, q⟩ := h
  cases d <;> first | (cases e; done) | skip
  rename_i ds
  obtain ⟨a, vs, rfl, t, dd⟩ := vd_tup vd
  have e := (show (if ds.length = n then b ds S else none) = some S' from e)
  by_cases hl : ds.length = n
  · rw [if_pos hl] at e
    exact ⟨a, vs, rfl, by rw [fit.K]; exact t.sq, by rw [← dd.length]; exact hl, m, y, S, G, ds, S', r, dd, e, q⟩
  · rw [if_neg hl] at e
    cases e
/-- target = e -/
def sAsg (a : FE) (g : FT1) : FS := fun S G => (a S G).thn S fun d G => match g d S with
  | some S' => .nx S' G
  | none => .fail
theorem s_asg {W : WX} {tg e : Expr} {fe : FE} {g : FT1} (he : EE Φ X W e fe) (hg : PG X tg (rdG Φ g)) (hs : swapsWithSole [tg] e pos.line X.env = pure false := by rfl) (hw : swappedStores [tg] e X.env = pure none := by rfl)
    (h1 : (assignEach [tg] X.env).map (·.2) = [assign tg X.env] := by rfl) : ES Φ X W (.Assign [tg] e pos) (sAsg fe g) := PS.imp (ps_asg he hg hs hw h1) fun D σ H h => by
  obtain ⟨m, y, S, G, r, o⟩ := h
  refine ⟨m, y, S, G, r, OutS.thn r o fun d G1 H1 _ r1 e1 o1 v vd => ?_⟩
  cases eg : g d S with
  | none =>
    rw [eg] at o1
    exact o1.elim
  | some S' =>
    rw [eg] at o1
    exact ⟨m, y, S, G1, d, S', r1, vd, eg, fun σ' r' => o1 m y σ' H1 r' (Stp.refl _ _ _)⟩
/-- a, b = x, z: two plain local names, two values -/
def sPar (i j : Nat) (a b : FE) : FS := fun S G => (a S G).thn S fun d G => (b S G).thn S fun e G => .nx ((S.set i (.pl d)).set j (.pl e)) G
theorem s_par {W : WX} (i j : Nat) {x z : Str} {a b : Expr} {fa fb : FE} {px pz pt : Pos} {kt k2 pt2} (ha : EE Φ X W a fa) (hb : EE Φ X W b fb) (hc : X.calm = true) (hN : X.N.Nodup) (hi : X.N[i]? = some x := by rfl) (hj : X.N[j]? = some z := by rfl) (hij : i ≠ j := by decide)
    (hx : X.env.scope.names.lookup x = some .local := by rfl) (hy : X.env.scope.names.lookup z = some .local := by rfl)
    (hw : swappedStores [.Tuple [.Name x px, .Name z pz] kt pt] (.Tuple [a, b] k2 pt2) X.env = pure (some [x, z]) := by rfl)
    (hs : swapsWithSole [.Tuple [.Name x px, .Name z pz] kt pt] (.Tuple [a, b] k2 pt2) pos.line X.env = pure false := by rfl)
    (s1 : starEach [a, b] X.env = (false, eval a X.env) :: starEach [b] X.env := by rfl) (s2 : starEach [b] X.env = (false, eval b X.env) :: starEach [] X.env := by rfl) :
    ES Φ X W (.Assign [.Tuple [.Name x px, .Name z pz] kt pt] (.Tuple [a, b] k2 pt2) pos) (sPar i j fa fb) := PS.imp (ps_par hc hN hi hj hij hx hy (pa_cons ha (pa_cons hb pa_nil s2) s1) hw hs) fun D σ H h => by
  obtain ⟨m, y, S, G, r, o⟩ := h
  refine ⟨m, y, S, G, r, OutS.thn r o fun d G1 H1 _ r1 e1 o1 v vd => ⟨m, y, S, G1, r1, OutS.thn r1 o1 fun d2 G2 H2 _ r2 e2 o2 w wd => ?_⟩⟩
  exact ⟨v, w, rfl, o2 m y _ H2 ((r2.set (vd_ext vd e2 r2.my)).set wd) (Stp.refl _ _ _)⟩
end

/-! ### what is walked -/
abbrev FI := SS → GS → Res (List D)
def Walks (Φ : Fr) (m : List Addr) (y : Addr → Prop) (H0 : Hp) (J : It) (items : List D) : Prop :=
  ∀ m' y' G H, RelH Φ m' y' G H → Stp m y H0 m' y' H →
    (∀ (i : Nat) d, items[i]? = some d → J.go i H ∧ ∀ v H', J.yld i H v H' → Same H H' ∧ Φ.vd m' y' H' d v) ∧ ∀ i, items.length ≤ i → J.stop i H
def rdI (Φ : Fr) (W : WX) (f : FI) : TI := fun σ H R => ∃ m y S G, Rel Φ m y S G σ H ∧ Out Φ W m y S σ H (f S G) fun items H' => ∀ J, Walks Φ m y H' J items → R J H'
theorem PI.imp {X : Cx} {tg e : Expr} {t t' : TI} (h : PI X tg e t) (i : ∀ σ H Q, t' σ H Q → t σ H Q) : PI X tg e t' := ⟨fun pins s σ H Q I q => h.run pins s σ H Q I (i _ _ _ q)⟩
abbrev EI (Φ : Fr) (X : Cx) (W : WX) (tg e : Expr) (f : FI) : Prop := PI X tg e (rdI Φ W f)
/-- the items of a tuple or of a list that is no cell -/
def D.fitems : D → Option (List D)
  | .tup xs => some xs
  | .lst xs => some xs
  | .scr xs => some xs
  | _ => none
def iSeq (a : FE) : FI := fun S G => (a S G).bind fun x G => opt x.fitems G
def iRng1F (a : FE) : FI := fun S G => (a S G).bind fun x G => match x with
  | .int n => if -(2 ^ 62) ≤ n ∧ n < 2 ^ 62 then .ok ((List.range n.toNat).map fun (k : Nat) => D.int k) G else .fail
  | _ => .fail
def iRng2F (a b : FE) : FI := fun S G => (a S G).bind fun x G => (b S G).bind fun z G => match x, z with
  | .int i, .int j => if -(2 ^ 62) ≤ i ∧ i < 2 ^ 62 ∧ -(2 ^ 62) ≤ j ∧ j < 2 ^ 62 then .ok ((List.range (j - i).toNat).map fun (k : Nat) => D.int (i + k)) G else .fail
  | _, _ => .fail
def iZipF (a b : FE) : FI := fun S G => (a S G).bind fun x G => (b S G).bind fun z G => match x, z with
  | .tup xs, .tup zs => .ok (List.zipWith (fun x z => D.tup [x, z]) xs zs) G
  | .lst xs, .lst zs => .ok (List.zipWith (fun x z => D.tup [x, z]) xs zs) G
  | _, _ => .fail
def iEnumF (a : FE) : FI := fun S G => (a S G).bind fun x G => (opt (match x with
  | .lst xs => some xs
  | .scr xs => some xs
  | _ => none) G).bind fun xs G => .ok (xs.zipIdx.map fun (p : D × Nat) => D.tup [.int p.2, p.1]) G
def iRevF (a : FE) : FI := fun S G => (a S G).bind fun x G => (opt x.fitems G).bind fun xs G => .ok xs.reverse G
section
variable {Φ : Fr} {X : Cx} {W : WX} {m m' : List Addr} {y y' : Addr → Prop} {H H0 H' : Hp} {tg e e2 : Expr} {fe fe2 : FE} {pos p : Pos}
/-- later a frozen sequence stands still -/
theorem later_lst {a : Addr} {vs : List V} {xs : List D} (t : LstAt (fun a => Φ.f a ∨ y a) H0 a vs) (d : Φ.vds m y H0 xs vs) (s : Stp m y H0 m' y' H) : SqL Φ.K H a vs ∧ Φ.vds m' y' H xs vs :=
  ⟨.inl (.inl ((s.1.2 a _ t.1).2 (fun q => t.2 (.inr q)) (fun ps q => by cases q))), VDs.step s.1 s.2 xs d⟩
theorem later_scr {a : Addr} {vs : List V} {xs : List D} (t : ScrAt Φ.K (fun a => Φ.f a ∨ y a) H0 a vs) (d : Φ.vds m y H0 xs vs) (s : Stp m y H0 m' y' H) : SqL Φ.K H a vs ∧ Φ.vds m' y' H xs vs := by
  refine ⟨?_, VDs.step s.1 s.2 xs d⟩
  rcases t with ⟨t, n⟩ | t
  · exact .inl (Rd.ext t s.1.2 (fun q => n (.inr q)) (fun ps q => by cases q))
  · exact .inr t
theorem later_tup {a : Addr} {vs : List V} {xs : List D} (t : TupAt Φ.K (fun a => Φ.f a ∨ y a) H0 a vs) (d : Φ.vds m y H0 xs vs) (s : Stp m y H0 m' y' H) : SqT Φ.K H a vs ∧ Φ.vds m' y' H xs vs := by
  refine ⟨?_, VDs.step s.1 s.2 xs d⟩
  rcases t with ⟨t, n⟩ | t
  · exact .inl (.inl ((s.1.2 a _ t).2 (fun q => n (.inr q)) (fun ps q => by cases q)))
  · exact .inr t
theorem walks_L {a : Addr} {vs : List V} {xs : List D} (h : ∀ m' y' H, Stp m y H0 m' y' H → SqL Φ.K H a vs ∧ Φ.vds m' y' H xs vs) : Walks Φ m y H0 (Itl Φ.K a) xs := fun m' y' G H r s => by
  obtain ⟨t, d⟩ := h m' y' H s
  refine ⟨fun i x e => ?_, fun i hi => ⟨vs, t, by rw [← d.length]; exact hi⟩⟩
  obtain ⟨v, hv, dv⟩ := VDs.get i d e
  refine ⟨⟨vs, v, t, hv⟩, fun w H' q => ?_⟩
  obtain ⟨rfl, q⟩ := q
  have := q vs t
  rw [hv] at this
  cases this
  exact ⟨Same.refl _, dv⟩
theorem walks_T {a : Addr} {vs : List V} {xs : List D} (h : ∀ m' y' H, Stp m y H0 m' y' H → SqT Φ.K H a vs ∧ Φ.vds m' y' H xs vs) : Walks Φ m y H0 (Itt Φ.K a) xs := fun m' y' G H r s => by
  obtain ⟨t, d⟩ := h m' y' H s
  refine ⟨fun i x e => ?_, fun i hi => ⟨vs, t, by rw [← d.length]; exact hi⟩⟩
  obtain ⟨v, hv, dv⟩ := VDs.get i d e
  refine ⟨⟨vs, v, t, hv⟩, fun w H' q => ?_⟩
  obtain ⟨rfl, q⟩ := q
  have := q vs t
  rw [hv] at this
  cases this
  exact ⟨Same.refl _, dv⟩
theorem i_seq (fit : Fits Φ X) (he : EE Φ X W e fe) : EI Φ X W tg e (iSeq fe) := by
  refine ⟨fun pins s σ H R I h => ?_⟩
  obtain ⟨m, y, S, G, r, o⟩ := h
  refine thn (he.run pins s σ H (fun v H1 => ∃ x G1 items, Rel Φ m y S G1 σ H1 ∧ Φ.vd m y H1 x v ∧ x.fitems = some items ∧ ∀ J, Walks Φ m y H1 J items → R J H1) I ⟨m, y, S, G, r, Out.bind o fun x G1 H1 _ r1 e1 o1 v vd => ?_⟩) fun u s1 hq => ?_
  · obtain ⟨items, hi, o2⟩ := Out.opt_ o1
    exact ⟨x, G1, items, r1, vd, hi, fun J w => o2 H1 r1 (Ext.refl _ _) J w⟩
  · obtain ⟨v, H1, I1, ru, x, G1, items, r1, vd, hi, q⟩ := hq
    have fin : ∀ {it : Addr} {o : Obj} {tn : Nat → Heap → Prop} {J : It}, s1.heap.objs.size = it → Walks Φ m y H1 J items → Turn X.prog X.w X.K tg J [it] it tn → tn 0 (s1.heap.push o) → PIE X pins σ tg R (.ref it) { s1 with heap := s1.heap.push o } := fun {it o tn J} hit w T t0 => by
      refine ⟨it, [it], tn, J, H1, rfl, I1.kept (t' := s1.toks) fun b o e => Heap.get?_push_of_some _ e, T, t0, fun b hb => ?_, q J w⟩
      have e : b = s1.heap.objs.size := by rw [hit]; simpa using hb
      subst e
      exact I1.fpOk (Nat.le_refl _) (I1.hok.fresh (Nat.le_refl _))
    have lstC : ∀ {a : Addr} {vs : List V}, v = .ref a → SqL X.K H1 a vs → Walks Φ m y H1 (Itl X.K a) items → wpAny (model X.prog X.w) X.A (pyIter u) (PIE X pins σ tg R) X.xe s1 := fun {a vs} ev t w => by
      subst ev
      obtain rfl : u = Value.ref a := ru
      obtain ⟨its, rv, p, hz⟩ := I1.list t
      exact wpAny_pyIter_list p.isList (fin rfl w (turn_list a _) ⟨_, Heap.get?_push_size _ rfl, rfl, rfl⟩)
    cases x <;> simp only [D.fitems, reduceCtorEq, Option.some.injEq] at hi
    · subst hi
      obtain ⟨a, vs, rfl, t, d⟩ := vd_tup vd
      obtain rfl : u = Value.ref a := ru
      have hq : SqT X.K H1 a vs := by rw [fit.K]; exact t.sq
      obtain ⟨its, rv, p, hz⟩ := I1.tuple hq
      refine wpAny_pyIter_tuple (show s1.heap.IsTuple a its.toArray from p) (fin rfl ?_ (turn_tuple a _) ⟨_, Heap.get?_push_size _ rfl, rfl, rfl⟩)
      rw [fit.K]
      exact walks_T fun m' y' H s => later_tup t d s
    · subst hi
      obtain ⟨a, vs, ev, t, d⟩ := vd_lst vd
      exact lstC ev (by rw [fit.K]; exact t.sq) (by rw [fit.K]; exact walks_L fun m' y' H s => later_lst t d s)
    · subst hi
      obtain ⟨a, vs, ev, t, d⟩ := vd_scr vd
      exact lstC ev (by rw [fit.K]; exact t.sq) (by rw [fit.K]; exact walks_L fun m' y' H s => later_scr t d s)
theorem i_rng1 (he : EE Φ X W e fe) (hm : X.mg "range" = none) (hg : Gl X "range" := by rfl) (hs : starEach [e] X.env = [(false, eval e X.env)] := by rfl) : EI Φ X W tg (.Call (.Name "range" p) [e] [] pos) (iRng1F fe) := by
  refine PI.imp (pi_range1 hg hm (pa_cons he pa_nil hs) hs) fun σ H R h => ?_
  obtain ⟨m, y, S, G, r, o⟩ := h
  refine ⟨m, y, S, G, r, Out.bind o fun x G1 H1 _ r1 e1 o1 v vd => ?_⟩
  cases x <;> first | exact o1.elim | skip
  rename_i n _
  have o1 := (show Out Φ W m y S σ H1 (if -(2 ^ 62) ≤ n ∧ n < 2 ^ 62 then .ok ((List.range n.toNat).map fun (k : Nat) => D.int k) G1 else .fail) _ from o1)
  by_cases hl : -(2 ^ 62) ≤ n ∧ n < 2 ^ 62
  · rw [if_pos hl] at o1
    refine ⟨n, by rw [vd_int vd], hl.1, hl.2, o1 H1 r1 (Ext.refl _ _) _ fun m' y' G H r s => ⟨fun i d ed => ?_, fun i hi => (show n.toNat ≤ i from (by rw [List.length_map, List.length_range] at hi; exact hi))⟩⟩
    rw [List.getElem?_map] at ed
    obtain ⟨k, h1, h2⟩ := Option.map_eq_some_iff.mp ed
    obtain ⟨h3, h4⟩ := List.getElem?_eq_some_iff.mp h1
    rw [List.getElem_range] at h4
    subst h4 h2
    refine ⟨(show i < n.toNat from (by rw [List.length_range] at h3; exact h3)), fun v H' q => ?_⟩
    obtain ⟨rfl, rfl⟩ := q
    refine ⟨Same.refl _, ?_⟩
    rw [Int.zero_add]
    exact mk_int
  · rw [if_neg hl] at o1
    exact o1.elim
theorem i_rng2 (he : EE Φ X W e fe) (he2 : EE Φ X W e2 fe2) (hm : X.mg "range" = none) (hg : Gl X "range" := by rfl) (hs : starEach [e, e2] X.env = [(false, eval e X.env), (false, eval e2 X.env)] := by rfl) (hs2 : starEach [e2] X.env = [(false, eval e2 X.env)] := by rfl) : EI Φ X W tg (.Call (.Name "range" p) [e, e2] [] pos) (iRng2F fe fe2) := by
  refine PI.imp (pi_range2 hg hm (pa_cons he (pa_cons he2 pa_nil hs2) (by rw [hs, hs2])) hs hs2) fun σ H R h => ?_
  obtain ⟨m, y, S, G, r, o⟩ := h
  refine ⟨m, y, S, G, r, Out.bind o fun x G1 H1 _ r1 e1 o1 v vd => ⟨m, y, S, G1, r1, Out.bind o1 fun z G2 H2 _ r2 e2 o2 w wd => ?_⟩⟩
  cases x <;> first | exact o2.elim | skip
  cases z <;> first | exact o2.elim | skip
  rename_i i _ j _
  have o2 := (show Out Φ W m y S σ H2 (if -(2 ^ 62) ≤ i ∧ i < 2 ^ 62 ∧ -(2 ^ 62) ≤ j ∧ j < 2 ^ 62 then .ok ((List.range (j - i).toNat).map fun (k : Nat) => D.int (i + k)) G2 else .fail) _ from o2)
  by_cases hl : -(2 ^ 62) ≤ i ∧ i < 2 ^ 62 ∧ -(2 ^ 62) ≤ j ∧ j < 2 ^ 62
  · rw [if_pos hl] at o2
    refine ⟨i, j, by rw [vd_int vd, vd_int wd], hl, o2 H2 r2 (Ext.refl _ _) _ fun m' y' G H r s => ⟨fun k d ed => ?_, fun k hk => (show (j - i).toNat ≤ k from (by rw [List.length_map, List.length_range] at hk; exact hk))⟩⟩
    rw [List.getElem?_map] at ed
    obtain ⟨k', h1, h2⟩ := Option.map_eq_some_iff.mp ed
    obtain ⟨h3, h4⟩ := List.getElem?_eq_some_iff.mp h1
    rw [List.getElem_range] at h4
    subst h4 h2
    refine ⟨(show k < (j - i).toNat from (by rw [List.length_range] at h3; exact h3)), fun v H' q => ?_⟩
    obtain ⟨rfl, rfl⟩ := q
    exact ⟨Same.refl _, mk_int⟩
  · rw [if_neg hl] at o2
    exact o2.elim
theorem mk_pair {T : Addr} {G : GS} {a b : D} {v w : V} (r : RelH Φ m y G H) (n : H T = none) (h1 : Φ.vd m y H a v) (h2 : Φ.vd m y H b w) : Φ.vd m y (upd H T (.tup [v, w])) (.tup [a, b]) (.ref T) := mk_tup r n (.cons h1 (.cons h2 .nil))
theorem i_zip {elts : List Expr} {kk : Nat} {tpos : Pos} (fit : Fits Φ X) (he : EE Φ X W e fe) (he2 : EE Φ X W e2 fe2) (hm : X.mg "zip" = none) (hg : Gl X "zip" := by rfl)
    (hs : starEach [e, e2] X.env = (false, eval e X.env) :: starEach [e2] X.env := by rfl) (hpl : (backTo pos (starEach [e2] X.env)).any (·.1) = false := by rfl) (hs2 : starEach [e2] X.env = (false, eval e2 X.env) :: starEach [] X.env := by rfl) :
    EI Φ X W (.Tuple elts kk tpos) (.Call (.Name "zip" p) [e, e2] [] pos) (iZipF fe fe2) := by
  refine PI.imp (RZ.pi_zipA hg hm (pa_cons he (pa_cons he2 pa_nil hs2) hs) hs hpl) fun σ H R h => ?_
  obtain ⟨m, y, S, G, r, o⟩ := h
  refine ⟨m, y, S, G, r, Out.bind o fun x G1 H1 _ r1 e1 o1 v vd => ⟨m, y, S, G1, r1, Out.bind o1 fun z G2 H2 _ r2 e2 o2 w wd => ?_⟩⟩
  have vd2 := vd_ext vd e2 r2.my
  cases x <;> first | exact o2.elim | skip
  all_goals cases z <;> first | exact o2.elim | skip
  · obtain ⟨a, vs, rfl, t, d⟩ := vd_tup vd2
    obtain ⟨b, ws, rfl, t', d'⟩ := vd_tup wd
    refine ⟨a, b, vs, ws, rfl, .inr ⟨by rw [fit.K]; exact t.sq, by rw [fit.K]; exact t'.sq, o2 H2 r2 (Ext.refl _ _) _ ?_⟩⟩
    rw [fit.K]
    intro m' y' G H r s
    obtain ⟨q1, q2⟩ := later_tup t d s
    obtain ⟨q3, q4⟩ := later_tup t' d' s
    refine ⟨fun i dd ed => ?_, fun i hi => ⟨vs, ws, q1, q3, ?_⟩⟩
    · rw [List.getElem?_zipWith] at ed
      split at ed
      · rename_i a1 b1 ha hb
        cases ed
        obtain ⟨v1, g1, k1⟩ := VDs.get i q2 ha
        obtain ⟨v2, g2, k2⟩ := VDs.get i q4 hb
        refine ⟨⟨vs, ws, v1, v2, q1, q3, g1, g2⟩, fun v H' q => ?_⟩
        obtain ⟨T, x', y', rfl, hT, rfl, k5, k6⟩ := q
        have e5 := k5 vs q1
        have e6 := k6 ws q3
        rw [g1] at e5
        rw [g2] at e6
        cases e5
        cases e6
        exact ⟨same_upd hT, mk_pair r hT k1 k2⟩
      · cases ed
    · rw [List.length_zipWith] at hi
      rw [← d.length, ← d'.length]
      omega
  · obtain ⟨a, vs, rfl, t, d⟩ := vd_lst vd2
    obtain ⟨b, ws, rfl, t', d'⟩ := vd_lst wd
    refine ⟨a, b, vs, ws, rfl, .inl ⟨by rw [fit.K]; exact t.sq, by rw [fit.K]; exact t'.sq, o2 H2 r2 (Ext.refl _ _) _ ?_⟩⟩
    rw [fit.K]
    intro m' y' G H r s
    obtain ⟨q1, q2⟩ := later_lst t d s
    obtain ⟨q3, q4⟩ := later_lst t' d' s
    refine ⟨fun i dd ed => ?_, fun i hi => ⟨vs, ws, q1, q3, ?_⟩⟩
    · rw [List.getElem?_zipWith] at ed
      split at ed
      · rename_i a1 b1 ha hb
        cases ed
        obtain ⟨v1, g1, k1⟩ := VDs.get i q2 ha
        obtain ⟨v2, g2, k2⟩ := VDs.get i q4 hb
        refine ⟨⟨vs, ws, v1, v2, q1, q3, g1, g2⟩, fun v H' q => ?_⟩
        obtain ⟨T, x', y', rfl, hT, rfl, k5, k6⟩ := q
        have e5 := k5 vs q1
        have e6 := k6 ws q3
        rw [g1] at e5
        rw [g2] at e6
        cases e5
        cases e6
        exact ⟨same_upd hT, mk_pair r hT k1 k2⟩
      · cases ed
    · rw [List.length_zipWith] at hi
      rw [← d.length, ← d'.length]
      omega
end

/-! ### for -/
def forGo (tg : FT1) (body : FS) : List D → FS
  | [], S, G => .nx S G
  | d :: r, S, G => match tg d S with
    | none => .fail
    | some S' => (body S' G).seq (forGo tg body r)
def sFor (it : FI) (tg : FT1) (body : FS) : FS := fun S G => (it S G).thn S fun items G => forGo tg body items S G
section
variable {Φ : Fr} {X : Cx} {W : WX} {tg iter : Expr} {body : List Stmt} {fi : FI} {g : FT1} {fb : FS} {pos : Pos}
theorem s_for (hi : EI Φ X W tg iter fi) (hg : PG X tg (rdG Φ g)) (hb : EB Φ X W body fb) (hp : PassesOwn (model X.prog X.w) X.A X.env X.xe) (hc : X.calm = true)
    (hs : ∀ x, foldedSetIterable iter X.env x = pure x := by intro _; rfl) : ES Φ X W (.For tg iter body [] pos) (sFor fi g fb) := by
  refine PS.imp (ps_for hp hc hi hg hb hs) fun D σ H h => ?_
  obtain ⟨m, y, S, G, r, o⟩ := h
  refine ⟨m, y, S, G, r, OutS.thn r o fun items G1 H1 _ r1 e1 o1 J w => ?_⟩
  refine ⟨fun i μ σ H => μ = items.length - i ∧ i ≤ items.length ∧ ∃ m' y' S G, Rel Φ m' y' S G σ H ∧ Stp m y H1 m' y' H ∧ OutS Φ W m' y' H (forGo g fb (items.drop i) S G) D,
    ⟨items.length, by simp, Nat.zero_le _, m, y, S, G1, r1, Stp.refl _ _ _, by simpa using o1⟩, ?_⟩
  rintro i μ σ2 H2 ⟨rfl, hi', m', y', S2, G2, r2, s2, o2⟩
  obtain ⟨wa, wb⟩ := w m' y' G2 H2 r2.toRelH s2
  by_cases hl : i < items.length
  · right
    obtain ⟨wg, wy⟩ := wa i items[i] (List.getElem?_eq_getElem hl)
    rw [List.drop_eq_getElem_cons hl] at o2
    have o2 := (show OutS Φ W m' y' H2 (match g items[i] S2 with
      | none => .fail
      | some S' => (fb S' G2).seq (forGo g fb (items.drop (i + 1)))) D from o2)
    cases eg : g items[i] S2 with
    | none =>
      rw [eg] at o2
      exact o2.elim
    | some S3 =>
      rw [eg] at o2
      refine ⟨wg, fun σ3 H3 => ∃ m' y' S G, Rel Φ m' y' S G σ3 H3 ∧ Stp m y H1 m' y' H3 ∧ OutS Φ W m' y' H3 (forGo g fb (items.drop (i + 1)) S G) D,
        fun σ' H' q => ⟨items.length - (i + 1), by omega, rfl, hl, q⟩, fun v H3 yd => ?_⟩
      obtain ⟨sm, vd⟩ := wy v H3 yd
      have r3 := r2.same sm
      have st3 : Stp m' y' H2 m' y' H3 := ⟨Step.of_ext (Ext.of_same sm), fun _ _ h => h⟩
      refine ⟨m', y', S2, G2, items[i], S3, r3, vd, eg, fun σ4 r4 => ⟨m', y', S3, G2, r4, ?_⟩⟩
      have o3 := (show OutS Φ W m' y' H3 ((fb S3 G2).seq (forGo g fb (items.drop (i + 1)))) D from OutS.mono o2 st3)
      cases eb : fb S3 G2 with
      | nx S' G' =>
        rw [eb] at o3
        exact fun m5 y5 σ5 H5 r5 s5 => ⟨m5, y5, S', G', r5, (s2.trans st3).trans s5, OutS.mono o3 s5⟩
      | rt v G' => rw [eb] at o3; exact o3
      | exc c p S' G' => rw [eb] at o3; exact o3
      | fail => rw [eb] at o3; exact o3
  · left
    have e : i = items.length := by omega
    subst e
    rw [List.drop_length] at o2
    exact ⟨wb _ (Nat.le_refl _), o2 m' y' σ2 H2 r2 (Stp.refl _ _ _)⟩
end

/-! ### while -/
def whN (t : FT) (b : FS) : Nat → FS
  | 0, _, _ => .fail
  | n + 1, S, G => (t S G).thn S fun c G => if c then (b S G).seq (whN t b n) else .nx S G
theorem whN_more {t : FT} {b : FS} : ∀ (n : Nat) (S : SS) (G : GS), whN t b n S G ≠ .fail → whN t b (n + 1) S G = whN t b n S G
  | 0, S, G, h => absurd rfl h
  | n + 1, S, G, h => by
    unfold whN at h ⊢
    cases et : t S G with
    | ok c G1 =>
      rw [et] at h
      simp only [thn_ok] at h ⊢
      cases c with
      | false => rfl
      | true =>
        simp only [if_true] at h ⊢
        cases eb : b S G1 with
        | nx S' G' =>
          rw [eb] at h
          simp only [seq_nx] at h ⊢
          exact whN_more n S' G' h
        | rt v G' => rfl
        | exc c p S' G' => rfl
        | fail => rfl
    | exc c p G1 => rfl
    | fail => rfl
theorem whN_le {t : FT} {b : FS} {n k : Nat} {S : SS} {G : GS} (h : whN t b n S G ≠ .fail) (hk : n ≤ k) : whN t b k S G = whN t b n S G := by
  induction k with
  | zero =>
    have : n = 0 := by omega
    rw [this]
  | succ k ih =>
    by_cases e : n = k + 1
    · rw [e]
    · have h1 := ih (by omega)
      rw [← h1]
      exact whN_more k S G (by rw [h1]; exact h)
open Classical in
noncomputable def sWhile (t : FT) (b : FS) : FS := fun S G => if h : ∃ n, whN t b n S G ≠ .fail then whN t b (choose h) S G else .fail
theorem sWhile_of {t : FT} {b : FS} {n : Nat} {S : SS} {G : GS} {r : RS} (h : whN t b n S G = r) (hr : r ≠ .fail) : sWhile t b S G = r := by
  have hx : ∃ n, whN t b n S G ≠ .fail := ⟨n, by rw [h]; exact hr⟩
  unfold sWhile
  rw [dif_pos hx]
  have hc := Classical.choose_spec hx
  rcases Nat.le_total n (Classical.choose hx) with q | q
  · rw [← h]
    exact whN_le (by rw [h]; exact hr) q
  · rw [← h]
    exact (whN_le hc q).symm
theorem sWhile_to {t : FT} {b : FS} {S : SS} {G : GS} (h : sWhile t b S G ≠ .fail) : ∃ n, whN t b n S G = sWhile t b S G := by
  unfold sWhile at h ⊢
  by_cases hx : ∃ n, whN t b n S G ≠ .fail
  · rw [dif_pos hx]
    exact ⟨_, rfl⟩
  · rw [dif_neg hx] at h
    exact absurd rfl h
/-- one turn -/
theorem sWhile_eq (t : FT) (b : FS) (S : SS) (G : GS) : sWhile t b S G = (t S G).thn S fun c G => if c then (b S G).seq (sWhile t b) else .nx S G := by
  by_cases hf : sWhile t b S G = .fail
  · rw [hf]
    cases et : t S G with
    | ok c G1 =>
      simp only [thn_ok]
      cases c with
      | false =>
        exfalso
        have h1 : whN t b 1 S G = .nx S G1 := by unfold whN; rw [et]; rfl
        rw [sWhile_of h1 (by intro z; cases z)] at hf
        cases hf
      | true =>
        simp only [if_true]
        cases eb : b S G1 with
        | nx S' G' =>
          simp only [seq_nx]
          by_cases h2 : sWhile t b S' G' = .fail
          · exact h2.symm
          · exfalso
            obtain ⟨n, hn⟩ := sWhile_to h2
            have h1 : whN t b (n + 1) S G = sWhile t b S' G' := by
              unfold whN
              rw [et]
              simp only [thn_ok, if_true, eb, seq_nx]
              exact hn
            rw [sWhile_of h1 h2] at hf
            exact h2 hf
        | rt v G' =>
          exfalso
          have h1 : whN t b 1 S G = .rt v G' := by unfold whN; rw [et]; simp only [thn_ok, if_true, eb, seq_rt]
          rw [sWhile_of h1 (by intro z; cases z)] at hf
          cases hf
        | exc c p S' G' =>
          exfalso
          have h1 : whN t b 1 S G = .exc c p S' G' := by unfold whN; rw [et]; simp only [thn_ok, if_true, eb, seq_exc]
          rw [sWhile_of h1 (by intro z; cases z)] at hf
          cases hf
        | fail => rfl
    | exc c p G1 =>
      exfalso
      have h1 : whN t b 1 S G = .exc c p S G1 := by unfold whN; rw [et]; rfl
      rw [sWhile_of h1 (by intro z; cases z)] at hf
      cases hf
    | fail => rfl
  · obtain ⟨n, hn⟩ := sWhile_to hf
    cases n with
    | zero => exact absurd hn.symm hf
    | succ n =>
      rw [← hn] at hf ⊢
      have hf' := hf
      unfold whN at hf ⊢
      cases et : t S G with
      | ok c G1 =>
        rw [et] at hf
        simp only [thn_ok] at hf ⊢
        cases c with
        | false => rfl
        | true =>
          simp only [if_true] at hf ⊢
          cases eb : b S G1 with
          | nx S' G' =>
            rw [eb] at hf
            simp only [seq_nx] at hf ⊢
            exact (sWhile_of rfl hf).symm
          | rt v G' => rfl
          | exc c p S' G' => rfl
          | fail => rfl
      | exc c p G1 => rfl
      | fail => rfl
section
variable {Φ : Fr} {X : Cx} {W : WX} {c : Expr} {body : List Stmt} {t : FT} {fb : FS} {pos : Pos}
theorem s_while (hc : ET Φ X W c t) (hb : EB Φ X W body fb) (hp : PassesOwn (model X.prog X.w) X.A X.env X.xe) : ES Φ X W (.While c body [] pos) (sWhile t fb) := by
  refine PS.imp (ps_while hp hc hb) fun D σ H h => ?_
  obtain ⟨m, y, S, G, r, o⟩ := h
  have hne : sWhile t fb S G ≠ .fail := fun z => by
    rw [z] at o
    exact o
  obtain ⟨n, hn⟩ := sWhile_to hne
  rw [← hn] at o
  refine ⟨fun n σ H => ∃ m y S G, Rel Φ m y S G σ H ∧ OutS Φ W m y H (whN t fb n S G) D, ⟨n, m, y, S, G, r, o⟩, ?_⟩
  rintro n σ H ⟨m, y, S, G, r, o⟩
  cases n with
  | zero => exact o.elim
  | succ n =>
    unfold whN at o
    refine ⟨m, y, S, G, r, OutS.thn r o fun b G1 H1 _ r1 e1 o1 => ?_⟩
    cases b with
    | true =>
      rw [if_pos rfl]
      refine ⟨fun σ' H' => ∃ m y S G, Rel Φ m y S G σ' H' ∧ OutS Φ W m y H' (whN t fb n S G) D, fun σ' H' q => ⟨n, Nat.lt_succ_self n, q⟩, m, y, S, G1, r1, ?_⟩
      rw [if_pos rfl] at o1
      cases eb : fb S G1 with
      | nx S' G' =>
        rw [eb] at o1
        exact fun m5 y5 σ5 H5 r5 s5 => ⟨m5, y5, S', G', r5, OutS.mono o1 s5⟩
      | rt v G' => rw [eb] at o1; exact o1
      | exc c p S' G' => rw [eb] at o1; exact o1
      | fail => rw [eb] at o1; exact o1
    | false =>
      rw [if_neg Bool.false_ne_true]
      rw [if_neg Bool.false_ne_true] at o1
      exact o1 m y σ H1 r1 (Stp.refl _ _ _)
end
end Wd
/-! Wd, part H: comprehensions, calls, defs, exceptions. -/
namespace Wd
open PySem PySem.Spec PyProof.Rows L2

section
variable {Φ : Fr} {m m' : List Addr} {y y' : Addr → Prop} {S : SS} {G G' : GS} {σ : L2.St} {H H' : Hp} {W : WX} {En : Ends}
/-- the same slots over a later heap in which the own lists stand -/
theorem Rel.swap (r : Rel Φ m y S G σ H) (r' : RelH Φ m y' G' H') (s : Step y H y' H') (e : Ext (fun a => a ∈ m) H H') (h : ∀ a, y a → y' a) : Rel Φ m y' S G' σ H' where
  toRelH := r'
  ln := r.ln
  raw := r.raw
  sl := fun i d q => by
    obtain ⟨v, h1, h2⟩ := r.sl i d q
    exact ⟨v, h1, VD.step s (fun _ _ h => h) d h2⟩
  ow := fun i xs q => by
    obtain ⟨a, vs, h1, h2, h3, h4, h5, h6⟩ := r.ow i xs q
    exact ⟨a, vs, h1, (e a _ h2).2 h5 (fun ps z => by cases z), VDs.step s (fun _ _ h => h) xs h3, h a h4, h5, h6⟩
  oi := r.oi
/-- a list that no slot and no cell holds gets other items -/
theorem Rel.mutY {a : Addr} {vs ws : List V} (r : Rel Φ m y S G σ H) (ya : y a) (na : a ∉ m) (fa : Φ.H a = none) (no : ∀ (i : Nat) xs, S[i]? = some (.ow xs) → σ[i]? ≠ some (some (.ref a))) (h : H a = some (.lst vs)) : Rel Φ m y S G σ (upd H a (.lst ws)) := by
  have st := stp_upd (ws := ws) h ya
  have up : ∀ {d : D} {v : V}, Φ.vd m y H d v → Φ.vd m y (upd H a (.lst ws)) d v := fun {d v} h => VD.step st (fun _ _ h => h) d h
  have ups : ∀ {d : List D} {v : List V}, Φ.vds m y H d v → Φ.vds m y (upd H a (.lst ws)) d v := fun {d v} h => VDs.step st (fun _ _ h => h) d h
  refine { cl := fun j zs e' => ?_, ml := r.ml, mn := r.mn, my := r.my, yd := fun b hb => ?_, fd := fun b hb => ?_, fy := r.fy, mp := r.mp, st := st_upd r.toRelH h ya (.inr fa), tb := tabs_upd r.tb h, ln := r.ln, raw := r.raw, sl := fun j d e' => ?_, ow := fun j zs e' => ?_, oi := r.oi }
  · obtain ⟨b, us, q1, q2, q3⟩ := r.cl j zs e'
    refine ⟨b, us, q1, ?_, ups q3⟩
    rw [upd_ne (fun z => na (by rw [← z]; exact List.mem_of_getElem? q1))]
    exact q2
  · by_cases hb' : b = a
    · exact ⟨_, by rw [hb']; exact upd_same⟩
    · rw [upd_ne hb']
      exact r.yd b hb
  · by_cases hb' : b = a
    · exact ⟨_, by rw [hb']; exact upd_same⟩
    · rw [upd_ne hb']
      exact r.fd b hb
  · obtain ⟨v, q1, q2⟩ := r.sl j d e'
    exact ⟨v, q1, up q2⟩
  · obtain ⟨b, us, q1, q2, q3, q4, q5, q6⟩ := r.ow j zs e'
    refine ⟨b, us, q1, ?_, ups q3, q4, q5, q6⟩
    rw [upd_ne (fun z => no j zs e' (by rw [← z]; exact q1))]
    exact q2
end

/-! ### comprehensions -/
def Res.nox {α : Type} : Res α → Res α
  | .ok a G => .ok a G
  | _ => .fail
@[simp] theorem nox_ok {α : Type} {a : α} {G : GS} : (Res.ok a G).nox = .ok a G := rfl
def lcGo (tg : FT1) (ft : FT) (fe : FE) (S : SS) : List D → GS → Res (List D)
  | [], G => .ok [] G
  | d :: r, G => match tg d S with
    | none => .fail
    | some S' => (ft S' G).nox.bind fun b G => if b then (fe S' G).nox.bind fun x G => (lcGo tg ft fe S r G).bind fun xs G => .ok (x :: xs) G else lcGo tg ft fe S r G
def wipeS (S : SS) : List Nat → SS
  | [] => S
  | v :: vs => (wipeS S vs).set v .un
def fLc (it : FI) (own : List Nat) (tg : FT1) (ft : FT) (fe : FE) : FA := fun S G => (it S G).bind fun items G => if items.length ≤ SL then lcGo tg ft fe (wipeS S own) items G else .fail
def tYesF : FT := fun _ G => .ok true G
abbrev W0 : WX := fun _ _ _ _ => False
section
variable {Φ : Fr} {X : Cx} {m m' : List Addr} {y y' : Addr → Prop} {S : SS} {G G' : GS} {σ : L2.St} {H H' : Hp} {W : WX} {En : Ends}
theorem Rel.wipe (r : Rel Φ m y S G σ H) : ∀ own, Rel Φ m y (wipeS S own) G (L2.wipe σ own) H
  | [] => r
  | v :: vs => (Rel.wipe r vs).unset
theorem wipeS_ow {i : Nat} {xs : List D} : ∀ {own : List Nat}, (wipeS S own)[i]? = some (.ow xs) → S[i]? = some (.ow xs) ∧ i ∉ own
  | [], h => ⟨h, by simp⟩
  | v :: vs, h => by
    unfold wipeS at h
    by_cases hv : i = v
    · subst hv
      by_cases hl : i < (wipeS S vs).length
      · rw [List.getElem?_set_self hl] at h
        cases h
      · rw [List.getElem?_eq_none (by rw [List.length_set]; omega)] at h
        cases h
    · rw [List.getElem?_set_ne (Ne.symm hv)] at h
      obtain ⟨h1, h2⟩ := wipeS_ow h
      exact ⟨h1, by simp [hv, h2]⟩
theorem wipe_at {i : Nat} : ∀ {own : List Nat}, i ∉ own → (L2.wipe σ own)[i]? = σ[i]?
  | [], _ => rfl
  | v :: vs, h => by
    rw [List.mem_cons, not_or] at h
    unfold L2.wipe
    rw [List.getElem?_set_ne (Ne.symm h.1)]
    exact wipe_at h.2
theorem Out.nox {α : Type} {r : Res α} {P : α → Hp → Prop} (h : Out Φ W m y S σ H r.nox P) : Out Φ W0 m y S σ H r P := by
  cases r with
  | ok a G => exact h
  | exc c p G => exact h.elim
  | fail => exact h.elim
theorem OutO.noxB {α : Type} {r : Res α} {k : α → GS → Res (List D)} {Q : VK} (h : OutO Φ W m y S σ H (r.nox.bind k) Q) : OutO Φ W m y S σ H (r.bind k) Q := by
  cases r with
  | ok a G => exact h
  | exc c p G => exact h.elim
  | fail => exact h.elim
theorem wipe_set {i : Nat} {v : Option V} : ∀ {own : List Nat}, i ∈ own → L2.wipe (σ.set i v) own = L2.wipe σ own
  | [], h => by simp at h
  | w :: ws, h => by
    unfold L2.wipe
    by_cases hw : i ∈ ws
    · rw [wipe_set hw]
    · have hi : i = w := by
        rcases List.mem_cons.mp h with h | h
        · exact h
        · exact absurd h hw
      subst hi
      have key : ∀ (vs : List Nat), i ∉ vs → L2.wipe (σ.set i v) vs = (L2.wipe σ vs).set i v := by
        intro vs
        induction vs with
        | nil => intro _; rfl
        | cons u us ih =>
          intro hu
          rw [List.mem_cons, not_or] at hu
          unfold L2.wipe
          rw [ih hu.2, List.set_comm _ _ hu.1]
      rw [key ws hw, List.set_set]
def rdGo (Φ : Fr) (own : List Nat) (f : FT1) : TG := fun v σ H Q => ∃ m y S G d S', Rel Φ m y S G σ H ∧ Φ.vd m y H d v ∧ f d S = some S' ∧ ∀ σ', Rel Φ m y S' G σ' H → L2.wipe σ' own = L2.wipe σ own → Q σ' H
def rdGso (Φ : Fr) (own : List Nat) (f : FTs) : TGs := fun vs σ H Q => ∃ m y S G ds S', Rel Φ m y S G σ H ∧ Φ.vds m y H ds vs ∧ f ds S = some S' ∧ ∀ σ', Rel Φ m y S' G σ' H → L2.wipe σ' own = L2.wipe σ own → Q σ' H
theorem go_name {own : List Nat} {pos : Pos} (i : Nat) {x : Str} (hN : X.N.Nodup) (ho : i ∈ own := by decide) (hi : X.N[i]? = some x := by rfl) (hx : Loc X.env.scope x := by first | exact .inl rfl | exact .inr rfl) (hf : X.fn x = true ∨ X.env.scope.names.lookup x = some .local := by first | exact .inl rfl | exact .inr rfl) : PG X (.Name x pos) (rdGo Φ own (gN i)) :=
  PG.imp (pg_name hN hi hx hf) fun v σ H Q h => by
    obtain ⟨m, y, S, G, d, S', r, vd, e, q⟩ := h
    cases e
    exact q _ (r.set vd) (wipe_set ho)
theorem gos_nil {own : List Nat} : PGs X [] (rdGso Φ own gNl) := PGs.imp pgs_nil fun vs σ H Q h => by
  obtain ⟨m, y, S, G, ds, S', r, vd, e, q⟩ := h
  cases ds with
  | nil =>
    cases e
    simp only [Fr.vds, VDs] at vd
    exact ⟨vd, q σ r rfl⟩
  | cons _ _ => cases e
theorem gos_cons {own : List Nat} {e : Expr} {es : List Expr} {a : FT1} {b : FTs} (h1 : PG X e (rdGo Φ own a)) (h2 : PGs X es (rdGso Φ own b))
    (hs : (assignEach (e :: es) X.env).map (·.2) = assign e X.env :: (assignEach es X.env).map (·.2) := by rfl) : PGs X (e :: es) (rdGso Φ own (gCs a b)) := PGs.imp (pgs_cons h1 h2 hs) fun vs σ H Q h => by
  obtain ⟨m, y, S, G, ds, S', r, vd, e, q⟩ := h
  cases ds with
  | nil => cases e
  | cons d r' =>
    obtain ⟨v, ws, rfl, d1, d2⟩ := VDs.inv vd
    obtain ⟨S1, e1, e2⟩ := Option.bind_eq_some_iff.mp e
    exact ⟨v, ws, rfl, m, y, S, G, d, S1, r, d1, e1, fun σ1 r1 w1 => ⟨m, y, S1, G, r', S', r1, d2, e2, fun σ2 r2 w2 => q σ2 r2 (w2.trans w1)⟩⟩
theorem go_tup {own : List Nat} {pos : Pos} {es : List Expr} {k n : Nat} {b : FTs} (fit : Fits Φ X) (hc : X.calm = true) (h : PGs X es (rdGso Φ own b))
    (hn : (assignEach es X.env).length = n := by rfl) (hst : (assignEach es X.env).findIdx? (·.1) = none := by rfl) : PG X (.Tuple es k pos) (rdGo Φ own (gTp n b)) := PG.imp (pg_tup hc h hn hst) fun v σ H Q h => by
  obtain ⟨m, y, S, G, d, S', r, vd, e, q⟩ := h
  cases d <;> first | (cases e; done) | skip
  rename_i ds
  obtain ⟨a, vs, rfl, t, dd⟩ := vd_tup vd
  have e := (show (if ds.length = n then b ds S else none) = some S' from e)
  by_cases hl : ds.length = n
  · rw [if_pos hl] at e
    exact ⟨a, vs, rfl, by rw [fit.K]; exact t.sq, by rw [← dd.length]; exact hl, m, y, S, G, ds, S', r, dd, e, q⟩
  · rw [if_neg hl] at e
    cases e
theorem lc_rd {it : FI} {own : List Nat} {tg : FT1} {ft : FT} {fe : FE} {Q : VK} (h : rdO Φ W (fLc it own tg ft fe) σ H Q) : tLc (rdI Φ W it) (rdGo Φ own tg) (rdT Φ W0 ft) (rdE Φ W0 fe) own σ H Q := by
  obtain ⟨m, y, S, G, r, o⟩ := h
  refine ⟨m, y, S, G, r, OutO.bind o fun items G1 H1 _ r1 e1 o1 J w Dn hn => ?_⟩
  by_cases hz : items.length ≤ SL
  · rw [if_pos hz] at o1
    have dm : Dn ∉ m := fun q => y_ne (r1.my Dn q) r1.yd hn rfl
    have fD : Φ.H Dn = none := r1.fH hn
    obtain ⟨dsT, GT, eT, oT⟩ : ∃ dsT GT, lcGo tg ft fe (wipeS S own) items G1 = .ok dsT GT ∧ OutO Φ W m y S σ H1 (.ok dsT GT) Q := by
      have nx : ∀ (r : List D) (G : GS), (∃ ds G', lcGo tg ft fe (wipeS S own) r G = .ok ds G') ∨ lcGo tg ft fe (wipeS S own) r G = .fail := by
        intro r
        induction r with
        | nil => intro G; exact .inl ⟨[], G, rfl⟩
        | cons d r ih =>
          intro G
          unfold lcGo
          cases tg d (wipeS S own) with
          | none => exact .inr rfl
          | some S' =>
            cases eft : ft S' G with
            | ok b G2 =>
              simp only [eft, nox_ok, bind_ok]
              cases b with
              | false => exact ih G2
              | true =>
                simp only [if_true]
                cases efe : fe S' G2 with
                | ok x G3 =>
                  simp only [nox_ok, bind_ok]
                  rcases ih G3 with ⟨ds, G', e⟩ | e
                  · rw [e]
                    exact .inl ⟨_, _, rfl⟩
                  · rw [e]
                    exact .inr rfl
                | exc c p G => exact .inr rfl
                | fail => exact .inr rfl
            | exc c p G => simp only [eft]; exact .inr rfl
            | fail => simp only [eft]; exact .inr rfl
      rcases nx items G1 with ⟨ds, G', e⟩ | e
      · exact ⟨ds, G', e, by rw [e] at o1; exact o1⟩
      · rw [e] at o1
        exact o1.elim
    have st1 : ∀ {H2}, Ext (fun a => a ∈ m) H1 H2 → Stp m y H1 m (yp y Dn) H2 := fun {H2} e => ⟨⟨fun a q => q.imp id fun z => by rw [z]; exact hn, e.mono r1.my⟩, fun _ _ h => h⟩
    have noD : ∀ (i : Nat) xs, (wipeS S own)[i]? = some (.ow xs) → (L2.wipe σ own)[i]? ≠ some (some (.ref Dn)) := fun i xs q z => by
      obtain ⟨q1, q2⟩ := wipeS_ow q
      rw [wipe_at q2] at z
      exact y_ne (r1.oy i xs Dn q1 z) r1.yd hn rfl
    refine ⟨fun i μ H2 => μ = items.length - i ∧ i ≤ items.length ∧ ∃ G2 acc avs ds, lcGo tg ft fe (wipeS S own) (items.drop i) G2 = .ok ds GT ∧ acc ++ ds = dsT ∧ Rel Φ m (yp y Dn) (wipeS S own) G2 (L2.wipe σ own) H2 ∧ Ext (fun a => a ∈ m) H1 H2 ∧ H2 Dn = some (.lst avs) ∧ Φ.vds m (yp y Dn) H2 acc avs ∧ acc.length ≤ i,
      ⟨items.length, by simp, Nat.zero_le _, G1, [], [], dsT, by simpa using eT, rfl, (r1.wipe own).own (same_upd hn) hn upd_same, Ext.of_same (same_upd hn), upd_same, .nil, Nat.zero_le _⟩, ?_⟩
    rintro i μ H2 ⟨rfl, hi, G2, acc, avs, ds, eg, ea, r2, e2, hD, vD, hlen⟩
    obtain ⟨wa, wb⟩ := w m (yp y Dn) G2 H2 r2.toRelH (st1 e2)
    by_cases hl : i < items.length
    · right
      obtain ⟨wg, wy⟩ := wa i items[i] (List.getElem?_eq_getElem hl)
      rw [List.drop_eq_getElem_cons hl] at eg
      unfold lcGo at eg
      cases et : tg items[i] (wipeS S own) with
      | none =>
        rw [et] at eg
        cases eg
      | some S' =>
        rw [et] at eg
        have eg := (show ((ft S' G2).nox.bind fun b G => if b then (fe S' G).nox.bind fun x G => (lcGo tg ft fe (wipeS S own) (items.drop (i + 1)) G).bind fun xs G => .ok (x :: xs) G else lcGo tg ft fe (wipeS S own) (items.drop (i + 1)) G) = .ok ds GT from eg)
        refine ⟨wg, fun H3 => ∃ G2 acc avs ds, lcGo tg ft fe (wipeS S own) (items.drop (i + 1)) G2 = .ok ds GT ∧ acc ++ ds = dsT ∧ Rel Φ m (yp y Dn) (wipeS S own) G2 (L2.wipe σ own) H3 ∧ Ext (fun a => a ∈ m) H1 H3 ∧ H3 Dn = some (.lst avs) ∧ Φ.vds m (yp y Dn) H3 acc avs ∧ acc.length ≤ i + 1,
          fun H' q => ⟨items.length - (i + 1), by omega, rfl, hl, q⟩, fun x H3 yd => ?_⟩
        obtain ⟨sm, vd⟩ := wy x H3 yd
        refine ⟨m, yp y Dn, wipeS S own, G2, items[i], S', r2.same sm, vd, et, fun σ4 r4 w4 => ⟨?_, m, yp y Dn, S', G2, r4, ?_⟩⟩
        · rw [w4]
          have idem : ∀ (vs ws : List Nat), (∀ v ∈ vs, v ∈ ws) → L2.wipe (L2.wipe σ ws) vs = L2.wipe σ ws := by
            intro vs
            induction vs with
            | nil => intro ws _; rfl
            | cons u us ih =>
              intro ws hu
              have h1 := ih ws fun v hv => hu v (List.mem_cons_of_mem _ hv)
              show (L2.wipe (L2.wipe σ ws) us).set u none = _
              rw [h1]
              have : ∀ (ws : List Nat), u ∈ ws → (L2.wipe σ ws).set u none = L2.wipe σ ws := by
                intro ws
                induction ws with
                | nil => intro h; simp at h
                | cons a as ih2 =>
                  intro h
                  unfold L2.wipe
                  by_cases hua : u = a
                  · rw [hua, List.set_set]
                  · have : u ∈ as := by
                      rcases List.mem_cons.mp h with h | h
                      · exact absurd h hua
                      · exact h
                    rw [List.set_comm _ _ (Ne.symm hua), ih2 this]
              exact this ws (hu u List.mem_cons_self)
          exact idem own own fun _ h => h
        · cases eft : ft S' G2 with
          | exc c p G => rw [eft] at eg; cases eg
          | fail => rw [eft] at eg; cases eg
          | ok b Gb =>
            rw [eft] at eg
            simp only [nox_ok, bind_ok] at eg
            intro H4 r5 e5
            -- what is kept
            have keep : ∀ {H5 G5 S5 σ5}, Rel Φ m (yp y Dn) S5 G5 σ5 H5 → Ext (fun a => a ∈ m) H3 H5 → Rel Φ m (yp y Dn) (wipeS S own) G5 (L2.wipe σ own) H5 ∧ Ext (fun a => a ∈ m) H1 H5 ∧ H5 Dn = some (.lst avs) ∧ Φ.vds m (yp y Dn) H5 acc avs := fun {H5 G5 S5 σ5} r5 e5 => by
              have e25 : Ext (fun a => a ∈ m) H2 H5 := (Ext.of_same sm).trans e5
              refine ⟨r2.swap r5.toRelH (Step.of_ext (e25.mono r2.my)) e25 fun _ h => h, e2.trans e25, (e25 Dn _ hD).2 dm (fun ps z => by cases z), vds_ext vD e25 r2.my⟩
            cases b with
            | false =>
              simp only [Bool.false_eq_true, if_false]
              rw [if_neg Bool.false_ne_true] at eg
              obtain ⟨k1, k2, k3, k4⟩ := keep r5 e5
              exact ⟨Gb, acc, avs, ds, eg, ea, k1, k2, k3, k4, by omega⟩
            | true =>
              simp only [if_true]
              rw [if_pos rfl] at eg
              refine ⟨m, yp y Dn, S', Gb, r5, ?_⟩
              cases efe : fe S' Gb with
              | exc c p G => rw [efe] at eg; cases eg
              | fail => rw [efe] at eg; cases eg
              | ok xd Gx =>
                rw [efe] at eg
                simp only [nox_ok, bind_ok] at eg
                cases er : lcGo tg ft fe (wipeS S own) (items.drop (i + 1)) Gx with
                | exc c p G => rw [er] at eg; cases eg
                | fail => rw [er] at eg; cases eg
                | ok ds2 G6 =>
                  rw [er] at eg
                  cases eg
                  intro H6 r6 e6 v6 vd6
                  obtain ⟨k1, k2, k3, k4⟩ := keep r6 (e5.trans e6)
                  refine ⟨avs, k3, by rw [← k4.length, sizeLine_eq]; show acc.length < 16777216; have : items.length ≤ 16777216 := hz; omega, Gx, acc ++ [xd], avs ++ [v6], ds2, er, by rw [List.append_assoc]; exact ea, k1.mutY (.inr rfl) dm fD noD k3, fun b ob hb => ?_, upd_same, ?_, by rw [List.length_append]; simpa using hlen⟩
                  · obtain ⟨q1, q2⟩ := k2 b ob hb
                    have hbD : b ≠ Dn := fun z => by rw [z, hn] at hb; cases hb
                    rw [upd_ne hbD]
                    exact ⟨q1, q2⟩
                  · exact VDs.step (stp_upd k3 (.inr rfl)) (fun _ _ h => h) _ (k4.append (.cons vd6 .nil))
    · left
      have e : i = items.length := by omega
      subst e
      rw [List.drop_length] at eg
      unfold lcGo at eg
      cases eg
      rw [List.append_nil] at ea
      subst ea
      refine ⟨wb _ (Nat.le_refl _), oT Dn avs H2 hn hD (r1.swap r2.toRelH (st1 e2).1 e2 fun _ h => .inl h) e2 vD⟩
  · rw [if_neg hz] at o1
    exact o1.elim
theorem o_lc {elt tg iter : Expr} {ifs : List Expr} {scope : Scope} (own : List (Str × Nat)) {pos : Pos} {it : FI} {gt : FT1} {ft : FT} {fe : FE} (hc : X.calm = true) (hN : X.N.Nodup) (hi : EI Φ X W tg iter it) (ok : BlkOk X.N X.env.scope scope own)
    (hg : ∀ (s : Shared) (H : Hp) (C : Addr) (cl : List (Str × Addr)) (fp : List Addr), PG (X.blk s H scope (compEnvC scope cl C X.env) fp) tg (rdGo Φ (own.map (·.2)) gt)) (ht : ∀ (s : Shared) (H : Hp) (C : Addr) (cl : List (Str × Addr)) (fp : List Addr), PTs (X.blk s H scope (compEnvC scope cl C X.env) fp) ifs (rdT Φ W0 ft))
    (he : ∀ (s : Shared) (H : Hp) (C : Addr) (cl : List (Str × Addr)) (fp : List Addr), PE (X.blk s H scope (compEnvC scope cl C X.env) fp) elt (rdE Φ W0 fe)) (hs : ∀ x, foldedSetIterable iter X.env x = pure x := by intro _; rfl) :
    EO Φ X W (.ListComp elt [⟨tg, iter, ifs, 0⟩] scope pos) (fLc it (own.map (·.2)) gt ft fe) :=
  PE.imp (pe_lc hc hN hi ok hg ht he hs) fun _ _ _ h => lc_rd h
theorem pts_yes : PTs X [] (rdT Φ W tYesF) := ⟨fun pins s σ H Q I h => by
  obtain ⟨m, y, S, G, r, o⟩ := h
  exact pts_nil.run pins s σ H Q I (o H r (Ext.refl _ _))⟩
/-- x = [..] -/
theorem s_lcO (i : Nat) {z : Str} {py : Pos} {elt tg iter : Expr} {ifs : List Expr} {scope : Scope} (own : List (Str × Nat)) {pos spos : Pos} {it : FI} {gt : FT1} {ft : FT} {fe : FE} (hc : X.calm = true) (hN : X.N.Nodup) (hi : EI Φ X W tg iter it) (ok : BlkOk X.N X.env.scope scope own)
    (hg : ∀ (s : Shared) (H : Hp) (C : Addr) (cl : List (Str × Addr)) (fp : List Addr), PG (X.blk s H scope (compEnvC scope cl C X.env) fp) tg (rdGo Φ (own.map (·.2)) gt)) (ht : ∀ (s : Shared) (H : Hp) (C : Addr) (cl : List (Str × Addr)) (fp : List Addr), PTs (X.blk s H scope (compEnvC scope cl C X.env) fp) ifs (rdT Φ W0 ft))
    (he : ∀ (s : Shared) (H : Hp) (C : Addr) (cl : List (Str × Addr)) (fp : List Addr), PE (X.blk s H scope (compEnvC scope cl C X.env) fp) elt (rdE Φ W0 fe)) (hy : X.N[i]? = some z := by rfl) (hyl : X.env.scope.names.lookup z = some .local := by rfl)
    (hsw : swapsWith (.ListComp elt [⟨tg, iter, ifs, 0⟩] scope pos) (some (.Name z py)) spos.line X.env = pure true := by exact sw_true rfl rfl rfl (by decide +kernel)) (hs : ∀ x, foldedSetIterable iter X.env x = pure x := by intro _; rfl) :
    ES Φ X W (.Assign [.Name z py] (.ListComp elt [⟨tg, iter, ifs, 0⟩] scope pos) spos) (sSetO i (fLc it (own.map (·.2)) gt ft fe)) := by
  refine PS.imp (ps_setLc hc hN hy hyl hsw hi ok hg ht he hs) fun D σ H h => lc_rd ?_
  obtain ⟨m, y, S, G, r, o⟩ := h
  refine ⟨m, y, S, G, r, OutS.thnO r o fun ds G1 a vs H1 _ n t r1 e1 vd o1 => ?_⟩
  exact o1 m _ _ H1 (r1.setO n r.yd r.my r.oy t (r.fH n) vd) (Stp.refl m _ H1)
theorem s_lc (i : Nat) {z : Str} {py : Pos} {elt tg iter : Expr} {ifs : List Expr} {scope : Scope} (own : List (Str × Nat)) {pos spos : Pos} {it : FI} {gt : FT1} {ft : FT} {fe : FE} (hc : X.calm = true) (hN : X.N.Nodup) (hi : EI Φ X W tg iter it) (ok : BlkOk X.N X.env.scope scope own)
    (hg : ∀ (s : Shared) (H : Hp) (C : Addr) (cl : List (Str × Addr)) (fp : List Addr), PG (X.blk s H scope (compEnvC scope cl C X.env) fp) tg (rdGo Φ (own.map (·.2)) gt)) (ht : ∀ (s : Shared) (H : Hp) (C : Addr) (cl : List (Str × Addr)) (fp : List Addr), PTs (X.blk s H scope (compEnvC scope cl C X.env) fp) ifs (rdT Φ W0 ft))
    (he : ∀ (s : Shared) (H : Hp) (C : Addr) (cl : List (Str × Addr)) (fp : List Addr), PE (X.blk s H scope (compEnvC scope cl C X.env) fp) elt (rdE Φ W0 fe)) (hy : X.N[i]? = some z := by rfl) (hyl : X.env.scope.names.lookup z = some .local := by rfl)
    (hsw : swapsWith (.ListComp elt [⟨tg, iter, ifs, 0⟩] scope pos) (some (.Name z py)) spos.line X.env = pure true := by exact sw_true rfl rfl rfl (by decide +kernel)) (hs : ∀ x, foldedSetIterable iter X.env x = pure x := by intro _; rfl) :
    ES Φ X W (.Assign [.Name z py] (.ListComp elt [⟨tg, iter, ifs, 0⟩] scope pos) spos) (sSet i (fz (fLc it (own.map (·.2)) gt ft fe))) := by
  refine PS.imp (ps_setLc hc hN hy hyl hsw hi ok hg ht he hs) fun D σ H h => lc_rd ?_
  obtain ⟨m, y, S, G, r, o⟩ := h
  refine ⟨m, y, S, G, r, OutO.fz (OutS.thn r o fun d G1 H1 _ r1 e1 o1 v vd => ?_) r.yd r.fd r.my r.oy⟩
  exact o1 m y _ H1 (r1.set vd) (Stp.refl m y H1)
end
end Wd
/-! Wd, part I: calls, defs, raise. -/
namespace Wd
open PySem PySem.Spec PyProof.Rows L2

/-! ### what a def does -/
abbrev FD := List D → GS → Res Rv
def OutD (Φ : Fr) (E : XK) (r : Res Rv) (Q : VK) : Prop :=
  match r with
  | .ok rv G' => ∀ y' v H', RelH Φ Φ.m y' G' H' → RvOk Φ Φ.m y' H' rv v → Q v H'
  | .exc c p G' => ∀ y' cls d H', Exn Φ Φ.m y' H' c p cls d → RelH Φ Φ.m y' G' H' → E cls d H'
  | .fail => False
def spD (K : PySem.W.Frag) (mg : Str → Option Value) (T : List (Addr × Str)) (F : FD) : Sp := fun vs H Q E =>
  ∃ m fo G ds, RelH ⟨K, mg, T, m, fo, H, .non⟩ m (fun a => a ∈ m) G H ∧ Fr.vds ⟨K, mg, T, m, fo, H, .non⟩ m (fun a => a ∈ m) H ds vs ∧ OutD ⟨K, mg, T, m, fo, H, .non⟩ E (F ds G) Q
def RS.fin (n : Nat) : RS → Res Rv
  | .nx _ G => if G.length = n then .ok (.pl .non) G else .fail
  | .rt r G => if G.length = n then .ok r G else .fail
  | .exc c p _ G => if G.length = n then .exc c p G else .fail
  | .fail => .fail
def runD (np nN : Nat) (f : FS) : FD := fun ds G => if ds.length = np then (f (ds.map Sl.pl ++ List.replicate (nN - np) Sl.un) G).fin G.length else .fail
structure Cal (P : Program) (w : World) (K : PySem.W.Frag) (mg : Str → Option Value) (base : Heap) (T : List (Addr × Str)) (k : Nat) (x : Str) (F : FD) : Prop where
  ex : ∃ (f : Addr) (fd : FuncData) (ps : List Str), FnOk P w K mg base (L2.CX P w) k f fd ps (spD K mg T F) ∧ mg x = some (.ref f) ∧ PySem.W.keepIn K (.ref f) = true ∧ L2.Binds K fd ps []
theorem Cal.mono {P : Program} {w : World} {K : PySem.W.Frag} {mg : Str → Option Value} {base : Heap} {T : List (Addr × Str)} {k j : Nat} {x : Str} {F : FD} (c : Cal P w K mg base T k x F) (h : k ≤ j) : Cal P w K mg base T j x F := by
  obtain ⟨f, fd, ps, h1, h2, h3, h4⟩ := c.ex
  exact ⟨f, fd, ps, h1.mono h, h2, h3, h4⟩

/-! ### entering -/
section
variable {Φ : Fr} {m : List Addr} {y : Addr → Prop} {S : SS} {G : GS} {σ : L2.St} {H : Hp}
/-- the callee's frame -/
def Fr.sub (Φ : Fr) (m : List Addr) (y : Addr → Prop) (H : Hp) : Fr := ⟨Φ.K, Φ.mg, Φ.T, m, fun a => (Φ.f a ∨ y a) ∧ a ∉ m, H, .non⟩
theorem sub_iff (my : ∀ a ∈ m, y a) (a : Addr) : (((Φ.f a ∨ y a) ∧ a ∉ m) ∨ a ∈ m) ↔ (Φ.f a ∨ y a) := by
  constructor
  · rintro (⟨h, _⟩ | h)
    · exact h
    · exact .inr (my a h)
  · intro h
    by_cases q : a ∈ m
    · exact .inr q
    · exact .inl ⟨h, q⟩
theorem RelH.enter (r : RelH Φ m y G H) : RelH (Φ.sub m y H) m (fun a => a ∈ m) G H where
  cl := fun i xs h => by
    obtain ⟨a, vs, h1, h2, h3⟩ := r.cl i xs h
    exact ⟨a, vs, h1, h2, VDs.imp (fun b o _ q => (sub_iff r.my b).mp q) xs h3⟩
  ml := r.ml
  mn := r.mn
  my := fun a h => h
  yd := fun a h => r.yd a (r.my a h)
  fd := fun a h => by
    rcases h.1 with q | q
    · exact r.fd a q
    · exact r.yd a q
  fy := fun a h q => h.2 q
  mp := ⟨[], by simp [Fr.sub], fun a h => absurd h (by simp)⟩
  st := Step.refl _ _
  tb := r.tb
theorem enter_vds {ds : List D} {vs : List V} (r : RelH Φ m y G H) (h : Φ.vds m y H ds vs) : (Φ.sub m y H).vds m (fun a => a ∈ m) H ds vs := VDs.imp (fun b o _ q => (sub_iff r.my b).mp q) ds h
/-- behind the call -/
theorem Rel.behind {y' : Addr → Prop} {G' : GS} {H' : Hp} (r : Rel Φ m y S G σ H) (r' : RelH (Φ.sub m y H) m y' G' H') : Rel Φ m y S G' σ H' ∧ Ext (fun a => a ∈ m) H H' := by
  have e : Ext (fun a => a ∈ m) H H' := r'.st.2
  have hz : ∀ (a : Addr) (o : HO), H' a = some o → (Φ.f a ∨ y a) → (((Φ.f a ∨ y a) ∧ a ∉ m) ∨ y' a) := fun a o _ q => by
    by_cases z : a ∈ m
    · exact .inr (r'.my a z)
    · exact .inl ⟨q, z⟩
  have rh : RelH Φ m y G' H' :=
    { cl := fun i xs h => by
        obtain ⟨a, vs, h1, h2, h3⟩ := r'.cl i xs h
        exact ⟨a, vs, h1, h2, VDs.imp hz xs h3⟩
      ml := r'.ml
      mn := r.mn
      my := r.my
      yd := fun a h => by
        obtain ⟨o, q⟩ := r.yd a h
        exact (e a o q).1
      fd := fun a h => by
        obtain ⟨o, q⟩ := r.fd a h
        exact (e a o q).1
      fy := r.fy
      mp := r.mp
      st := r.st.trans (Step.of_ext (e.mono r.my))
      tb := r'.tb }
  exact ⟨r.swap rh (Step.of_ext (e.mono r.my)) e fun _ h => h, e⟩
theorem behind_vd {y' : Addr → Prop} {H' : Hp} {d : D} {v : V} (my : ∀ a ∈ m, y' a) (h : (Φ.sub m y H).vd m y' H' d v) : Φ.vd m y H' d v := VD.imp (fun a o _ q => by
  by_cases z : a ∈ m
  · exact .inr (my a z)
  · exact .inl ⟨q, z⟩) d h
theorem behind_vds {y' : Addr → Prop} {H' : Hp} {d : List D} {v : List V} (my : ∀ a ∈ m, y' a) (h : (Φ.sub m y H).vds m y' H' d v) : Φ.vds m y H' d v := VDs.imp (fun a o _ q => by
  by_cases z : a ∈ m
  · exact .inr (my a z)
  · exact .inl ⟨q, z⟩) d h
theorem behind_exn {y' : Addr → Prop} {H' : Hp} {c : String} {p : Option (String × D)} {cls : Value} {d : Option Addr} (my : ∀ a ∈ m, y' a) (h : Exn (Φ.sub m y H) m y' H' c p cls d) : Exn Φ m y H' c p cls d := by
  obtain ⟨C, h1, h2, h3⟩ := h
  refine ⟨C, h1, h2, ?_⟩
  cases p with
  | none => exact h3
  | some q =>
    obtain ⟨dd, v, e1, e2, e3⟩ := h3
    exact ⟨dd, v, e1, e2, behind_vd my e3⟩
theorem Rel.behindO {y' : Addr → Prop} {G' : GS} {H' : Hp} {a : Addr} {ws : List V} {xs : List D} (r : Rel Φ m y S G σ H) (r' : RelH (Φ.sub m y H) m y' G' H') (n : H a = none) (ya : y' a) (t : H' a = some (.lst ws)) (vd : (Φ.sub m y H).vds m y' H' xs ws) :
    Rel Φ m (yp y a) S G' σ H' ∧ Ext (fun a => a ∈ m) H H' ∧ Φ.vds m (yp y a) H' xs ws := by
  have e : Ext (fun a => a ∈ m) H H' := r'.st.2
  have hz : ∀ (b : Addr) (o : HO), H' b = some o → (Φ.f b ∨ yp y a b) → (((Φ.f b ∨ y b) ∧ b ∉ m) ∨ y' b) := fun b o _ q => by
    by_cases z : b ∈ m
    · exact .inr (r'.my b z)
    · rcases q with q | q | q
      · exact .inl ⟨.inl q, z⟩
      · exact .inl ⟨.inr q, z⟩
      · rw [q]
        exact .inr ya
  have st : Step y H (yp y a) H' := ⟨fun b h => h.imp id fun z => by rw [z]; exact n, e.mono r.my⟩
  have rh : RelH Φ m (yp y a) G' H' :=
    { cl := fun i xs h => by
        obtain ⟨a, vs, h1, h2, h3⟩ := r'.cl i xs h
        exact ⟨a, vs, h1, h2, VDs.imp hz xs h3⟩
      ml := r'.ml
      mn := r.mn
      my := fun b h => .inl (r.my b h)
      yd := fun b h => by
        rcases h with h | h
        · obtain ⟨o, q⟩ := r.yd b h
          exact (e b o q).1
        · rw [h]
          exact ⟨_, t⟩
      fd := fun b h => by
        obtain ⟨o, q⟩ := r.fd b h
        exact (e b o q).1
      fy := fun b h q => by
        rcases q with q | q
        · exact r.fy b h q
        · obtain ⟨o, z⟩ := r.fd b h
          rw [q, n] at z
          cases z
      mp := r.mp
      st := r.st.trans st
      tb := r'.tb }
  exact ⟨r.swap rh st e fun _ h => .inl h, e, VDs.imp hz xs vd⟩
end

/-! ### calls -/
def cut (r : Res Rv) : Res D :=
  match r with
  | .ok (.pl d) G => .ok d G
  | .ok (.ow xs) G => .ok (.lst xs) G
  | .exc c p G => .exc c p G
  | .fail => .fail
def cutO (r : Res Rv) : Res (List D) :=
  match r with
  | .ok (.pl _) _ => .fail
  | .ok (.ow xs) G => .ok xs G
  | .exc c p G => .exc c p G
  | .fail => .fail
def fCall (F : FD) (a : FA) : FE := fun S G => (a S G).bind fun ds G => cut (F ds G)
def fCallO (F : FD) (a : FA) : FA := fun S G => (a S G).bind fun ds G => cutO (F ds G)
section
variable {Φ : Fr} {X : Cx} {W : WX} {x : Str} {F : FD} {k : Nat} {e : Expr} {es : List Expr} {a : FA} {p pos : Pos}
theorem cut_out {m : List Addr} {y : Addr → Prop} {S : SS} {G : GS} {σ : L2.St} {H : Hp} {r : Res Rv} {Q : VK} (rl : Rel Φ m y S G σ H) (o : Out Φ W m y S σ H (cut r) fun d H' => ∀ v, Φ.vd m y H' d v → Q v H') : OutD (Φ.sub m y H) (WE W σ) r Q := by
  cases r with
  | ok rv G' =>
    intro y' v H' r' rv'
    cases rv with
    | pl d =>
      obtain ⟨r2, e2⟩ := rl.behind r'
      exact o H' r2 e2 v (behind_vd r'.my rv')
    | ow xs =>
      obtain ⟨a, vs, rfl, ha, vd, fH, am, ya⟩ := rv'
      obtain ⟨r2, e2⟩ := rl.behind r'
      have n : H a = none := fH
      refine o H' r2 e2 (.ref a) ?_
      simp only [Fr.vd, VD]
      refine ⟨a, vs, rfl, ⟨ha, fun q => ?_⟩, behind_vds r'.my vd⟩
      obtain ⟨u, hu⟩ : ∃ u, H a = some u := q.elim (rl.fd a) (rl.yd a)
      rw [n] at hu
      cases hu
  | exc c p G' =>
    intro y' cls d H' x r'
    obtain ⟨r2, e2⟩ := rl.behind r'
    exact o cls d H' (behind_exn r'.my x) r2 e2
  | fail => exact o
theorem cutO_out {m : List Addr} {y : Addr → Prop} {S : SS} {G : GS} {σ : L2.St} {H : Hp} {r : Res Rv} {Q : VK} (rl : Rel Φ m y S G σ H) (o : OutO Φ W m y S σ H (cutO r) Q) : OutD (Φ.sub m y H) (WE W σ) r Q := by
  cases r with
  | ok rv G' =>
    intro y' v H' r' rv'
    cases rv with
    | pl d => exact o.elim
    | ow xs =>
      obtain ⟨a, vs, rfl, ha, vd, fH, am, ya⟩ := rv'
      have n : H a = none := fH
      obtain ⟨r2, e2, v2⟩ := rl.behindO r' n ya ha vd
      exact o a vs H' n ha r2 e2 v2
  | exc c p G' =>
    intro y' cls d H' x r'
    obtain ⟨r2, e2⟩ := rl.behind r'
    exact o cls d H' (behind_exn r'.my x) r2 e2
  | fail => exact o
theorem e_call (c : Cal X.prog X.w X.K X.mg X.base Φ.T k x F) (fit : Fits Φ X) (tk : Takes X W) (hr : Room k X.A) (ha : EA Φ X W (e :: es) a) (hg : Gl X x := by rfl) (hdb : (x == ("__debug__" : Str)) = false := by decide)
    (he : starEach (e :: es) X.env = (false, eval e X.env) :: starEach es X.env := by rfl) (hpl : (backTo pos (starEach es X.env)).any (·.1) = false := by rfl) : EE Φ X W (.Call (.Name x p) (e :: es) [] pos) (fCall F a) := by
  obtain ⟨f, fd, ps, hF, hm, hk, hb⟩ := c.ex
  refine PE.imp (pe_callS hF hr hg hm hk hb (passAt tk) ha hdb he hpl) fun σ H Q h => ?_
  obtain ⟨m, y, S, G, r, o⟩ := h
  refine args_out r o fun xs G1 H1 vs r1 e1 vds o1 => ?_
  show spD X.K X.mg Φ.T F vs H1 Q (WE W σ)
  rw [fit.K, fit.mg]
  exact ⟨m, _, G1, xs, r1.toRelH.enter, enter_vds r1.toRelH vds, cut_out r1 o1⟩
theorem o_call (c : Cal X.prog X.w X.K X.mg X.base Φ.T k x F) (fit : Fits Φ X) (tk : Takes X W) (hr : Room k X.A) (ha : EA Φ X W (e :: es) a) (hg : Gl X x := by rfl) (hdb : (x == ("__debug__" : Str)) = false := by decide)
    (he : starEach (e :: es) X.env = (false, eval e X.env) :: starEach es X.env := by rfl) (hpl : (backTo pos (starEach es X.env)).any (·.1) = false := by rfl) : EO Φ X W (.Call (.Name x p) (e :: es) [] pos) (fCallO F a) := by
  obtain ⟨f, fd, ps, hF, hm, hk, hb⟩ := c.ex
  refine PE.imp (pe_callS hF hr hg hm hk hb (passAt tk) ha hdb he hpl) fun σ H Q h => ?_
  obtain ⟨m, y, S, G, r, o⟩ := h
  refine args_outO r o fun xs G1 H1 vs r1 e1 vds o1 => ?_
  show spD X.K X.mg Φ.T F vs H1 Q (WE W σ)
  rw [fit.K, fit.mg]
  exact ⟨m, _, G1, xs, r1.toRelH.enter, enter_vds r1.toRelH vds, cutO_out r1 o1⟩
/-! a def held by a slot -/
def fCallL (i : Nat) (Fs : List (String × FD)) (a : FA) : FE := fun S G => match S[i]? with
  | some (.pl (.fn x)) => (match Fs.lookup x with
    | some F => fCall F a S G
    | none => .fail)
  | _ => .fail
theorem e_callL (i : Nat) {Fs : List (String × FD)} (cs : ∀ x F, Fs.lookup x = some F → Cal X.prog X.w X.K X.mg X.base Φ.T k (Str.ofString x) F) (fit : Fits Φ X) (tk : Takes X W) (hr : Room k X.A) (ha : EA Φ X W (e :: es) a) (hN : X.N[i]? = some x := by rfl)
    (hv : Vis X.env.scope x := by first | exact Or.inl rfl | exact Or.inr (Or.inl rfl) | exact Or.inr (Or.inr rfl)) (hdb : (x == ("__debug__" : Str)) = false := by decide) (hcd : (x == ("__classdict__" : Str)) = false := by decide)
    (he : starEach (e :: es) X.env = (false, eval e X.env) :: starEach es X.env := by rfl) (hpl : (backTo pos (starEach es X.env)).any (·.1) = false := by rfl) : EE Φ X W (.Call (.Name x p) (e :: es) [] pos) (fCallL i Fs a) := by
  refine ⟨fun pins s σ H Q I h => ?_⟩
  obtain ⟨m, y, S, G, r, o⟩ := h
  unfold fCallL at o
  split at o
  · rename_i z es
    split at o
    · rename_i F0 eF
      obtain ⟨v, hs, vd⟩ := r.sl i _ es
      obtain ⟨f, fd, ps, hF, hm, hk, hb⟩ := (cs z F0 eF).ex
      simp only [Fr.vd, VD] at vd
      obtain ⟨u, hu, rv⟩ := vd
      rw [← fit.mg, hm] at hu
      cases hu
      have ev : v = .ref f := by
        cases v <;> simp_all [L2.RelV]
      subst ev
      refine wpAny_Call_Name_kw (thn ((pe_var (pos := p) hN hv hdb hcd).run pins s σ H (fun v H1 => v = .ref f ∧ H1 = H) I ⟨.ref f, hs, rfl, rfl⟩) fun u s1 ⟨v, H1, I1, r1, q1⟩ => ?_)
      obtain ⟨rfl, rfl⟩ := q1
      cases r1
      have q : rdA Φ W a σ H1 fun vs H2 => spD X.K X.mg Φ.T F0 vs H2 Q (WE W σ) := args_out r o fun xs G1 H2 vs r1 e1 vds o1 => by
        rw [fit.K, fit.mg]
        exact ⟨m, _, G1, xs, r1.toRelH.enter, enter_vds r1.toRelH vds, cut_out r1 o1⟩
      refine PySem.W.callWith_K (h₀ := X.base) I.ok.mod.kin hk (thn (ha.run pos pins s1 σ _ _ I1 q) fun us s2 ⟨vs, H2, I2, r, q⟩ => ⟨I2.kIn, ?_⟩) he hpl
      exact run_fnS hF hr hb (passAt tk σ) I2 r q
    · exact o.elim
  · exact o.elim
end

/-! ### a def of the text -/
theorem len_m {Φ : Fr} {m' : List Addr} {y : Addr → Prop} {G : GS} {H : Hp} (r : RelH Φ m' y G H) (h : G.length = Φ.m.length) : m' = Φ.m := by
  obtain ⟨t, e, _⟩ := r.mp
  have l := r.ml
  rw [e, List.length_append] at l
  have : t = [] := List.length_eq_zero_iff.mp (by omega)
  rw [e, this, List.append_nil]
theorem start_rel {K : PySem.W.Frag} {mg : Str → Option Value} {T : List (Addr × Str)} {m : List Addr} {fo : Addr → Prop} {G : GS} {H : Hp} {ds : List D} {vs : List V} {N : List Str} {nN : Nat} (R : RelH ⟨K, mg, T, m, fo, H, .non⟩ m (fun a => a ∈ m) G H)
    (vd : Fr.vds ⟨K, mg, T, m, fo, H, .non⟩ m (fun a => a ∈ m) H ds vs) (hn : N.length = nN) : Rel ⟨K, mg, T, m, fo, H, .non⟩ m (fun a => a ∈ m) (ds.map Sl.pl ++ List.replicate (nN - ds.length) Sl.un) G (L2.start N vs) H where
  toRelH := R
  ln := by
    unfold L2.start
    rw [List.length_append, List.length_append, List.length_map, List.length_map, List.length_replicate, List.length_replicate, hn, VDs.length vd]
  sl := fun i d e => by
    by_cases hi : i < ds.length
    · rw [List.getElem?_append_left (by simpa using hi), List.getElem?_map] at e
      cases q : ds[i]? with
      | none => rw [q] at e; cases e
      | some d' =>
        rw [q] at e
        cases e
        obtain ⟨v, h1, h2⟩ := VDs.get i vd q
        refine ⟨v, ?_, h2⟩
        unfold L2.start
        rw [List.getElem?_append_left (by rw [List.length_map, ← VDs.length vd]; exact hi), List.getElem?_map, h1]
        rfl
    · rw [List.getElem?_append_right (by simpa using hi), List.getElem?_replicate] at e
      split at e <;> cases e
  ow := fun i xs e => by
    by_cases hi : i < ds.length
    · rw [List.getElem?_append_left (by simpa using hi), List.getElem?_map] at e
      cases q : ds[i]? with
      | none => rw [q] at e; cases e
      | some d' => rw [q] at e; cases e
    · rw [List.getElem?_append_right (by simpa using hi), List.getElem?_replicate] at e
      split at e <;> cases e
  raw := fun i e => by
    by_cases hi : i < ds.length
    · rw [List.getElem?_append_left (by simpa using hi), List.getElem?_map] at e
      cases q : ds[i]? with
      | none => rw [q] at e; cases e
      | some d' => rw [q] at e; cases e
    · rw [List.getElem?_append_right (by simpa using hi), List.getElem?_replicate] at e
      split at e <;> cases e
  oi := fun i j xs zs a e => by
    by_cases hi : i < ds.length
    · rw [List.getElem?_append_left (by simpa using hi), List.getElem?_map] at e
      cases q : ds[i]? with
      | none => rw [q] at e; cases e
      | some d' => rw [q] at e; cases e
    · rw [List.getElem?_append_right (by simpa using hi), List.getElem?_replicate] at e
      split at e <;> cases e
theorem fin_out {Φ : Fr} {r : RS} {n : Nat} {E : XK} {Q : VK} {y : Addr → Prop} {H : Hp} (hn : n = Φ.m.length) (o : OutD Φ E (r.fin n) Q) : OutS Φ (fun cls d _ H' => E cls d H') Φ.m y H r { nx := fun _ H' => Q .non H', rt := Q } := by
  cases r with
  | nx S G =>
    intro m' y' σ' H' r' _
    simp only [RS.fin] at o
    by_cases hl : G.length = n
    · rw [if_pos hl] at o
      have e := len_m r'.toRelH (hl.trans hn)
      subst e
      exact o y' .non H' r'.toRelH (by simp only [RvOk, Fr.vd, VD])
    · rw [if_neg hl] at o
      exact o.elim
  | rt rv G =>
    intro m' y' v H' r' _ rv'
    simp only [RS.fin] at o
    by_cases hl : G.length = n
    · rw [if_pos hl] at o
      have e := len_m r' (hl.trans hn)
      subst e
      exact o y' v H' r' rv'
    · rw [if_neg hl] at o
      exact o.elim
  | exc c p S G =>
    intro m' y' σ' cls d H' x r' _
    simp only [RS.fin] at o
    by_cases hl : G.length = n
    · rw [if_pos hl] at o
      have e := len_m r'.toRelH (hl.trans hn)
      subst e
      exact o y' cls d H' x r'.toRelH
    · rw [if_neg hl] at o
      exact o.elim
  | fail => exact o
section
variable {P : Program} {w : World} {K : PySem.W.Frag} {mg : Str → Option Value} {base : Heap} {x qual : Str} {params : Arguments} {body : List Stmt} {scope : Scope} {f : Addr} {fd : FuncData} {N ps : List Str} {k : Nat} {T : List (Addr × Str)} {bf : FS}
/-- the frame at an entry -/
abbrev fr0 (K : PySem.W.Frag) (mg : Str → Option Value) (T : List (Addr × Str)) (m : List Addr) (fo : Addr → Prop) (H : Hp) : Fr := ⟨K, mg, T, m, fo, H, .non⟩
abbrev wE (E : XK) : WX := fun cls d _ H => E cls d H
theorem spD_len {np nN : Nat} {F : FS} {vs : List V} {H : Hp} {Q : VK} {E : XK} (h : spD K mg T (runD np nN F) vs H Q E) : vs.length = np := by
  obtain ⟨m, fo, G, ds, R, vd, o⟩ := h
  unfold runD at o
  by_cases hl : ds.length = np
  · rw [← VDs.length vd]
    exact hl
  · rw [if_neg hl] at o
    exact o.elim
theorem d_ok (Fu : FunD K x qual params body scope [] [] f fd) (Sc : FnScope N ps scope) (np nN : Nat) (hp : ps.length = np) (hn : N.length = nN)
    (hbody : ∀ (cdv : Value) (A : Around) (outer : List Env) (s : Shared) (m : List Addr) (fo : Addr → Prop) (H : Hp) (E : XK), Room k (A.deeper (envOfC qual scope s.heap.objs.size f cdv)) →
      EB (fr0 K mg T m fo H) (cxOf (L2.CX P w) P w K mg base N qual scope f cdv A outer s H E) (wE E) body bf) :
    FnOk P w K mg base (L2.CX P w) (k + 1) f fd ps (spD K mg T (runD np nN bf)) := by
  refine Fu.ok Sc (fun vs H Q E h => (spD_len h).trans hp.symm) fun cdv A outer s H vs Q E hr h => ?_
  obtain ⟨m, fo, G, ds, R, vd, o⟩ := h
  refine ⟨_, hbody cdv A outer s m fo H E hr, ?_⟩
  unfold runD at o
  by_cases hl : ds.length = np
  · rw [if_pos hl] at o
    refine ⟨m, (fun a => a ∈ m), _, G, start_rel R vd hn, ?_⟩
    rw [hl]
    exact fin_out (Φ := fr0 K mg T m fo H) (n := G.length) (by exact R.ml.symm) o
  · rw [if_neg hl] at o
    exact o.elim
/-- nothing is promised -/
theorem fail_ok : FnOk P w K mg base (L2.CX P w) k f fd ps (spD K mg T fun _ _ => .fail) :=
  ⟨fun _ _ _ _ h => by obtain ⟨_, _, _, _, _, _, z⟩ := h; exact z.elim, fun _ _ _ _ _ _ _ _ _ _ _ _ _ h => by obtain ⟨_, _, _, _, _, _, z⟩ := h; exact z.elim⟩
theorem FunD.cal {F : FD} (Fu : FunD K x qual params body scope [] [] f fd) (h : FnOk P w K mg base (L2.CX P w) k f fd ps (spD K mg T F)) (hm : mg x = some (.ref f)) (hb : L2.Binds K fd ps []) : Cal P w K mg base T k x F :=
  ⟨f, fd, ps, h, hm, Fu.kp, hb⟩
end

/-! ### raise -/
/-- what an own error class without own __init__ must say -/
structure ExcK (K : PySem.W.Frag) (mg : Str → Option Value) (x : String) : Prop where
  ex : ∃ C, mg (Str.ofString x) = some (.ref C) ∧ PySem.W.excIn K C [.type "ValueError", .type "Exception", .type "BaseException", .type "object"] "ValueError.__new__" = true ∧ PySem.W.keepIn K (.ref C) = true ∧ PySem.W.subIn K (.ref C) (.type "BaseException") = some true ∧ PySem.W.typeIn K (.ref C) = some (.type "type")
section
variable {X : Cx} {C : Addr} {bmB : List Value} {B newId initId : String}
theorem pmk0 {x : Str} {p pos : Pos} (F : ExcBaseFacts B newId initId bmB) (q : PySem.W.excIn X.K C bmB newId = true) (gC : X.mg x = some (.ref C)) (kC : PySem.W.keepIn X.K (.ref C) = true) (r : Raises X (.ref C)) (hg : Gl X x)
    (hdb : (x == ("__debug__" : Str)) = false := by decide) : PMk X (.Call (.Name x p) [] [] pos) (fun _ H Q => Q (.ref C) none H) := by
  intro pins s σ H Q I h
  refine wpAny_Call_Name_kw (ld_glob I hg gC ?_ hdb)
  refine PySem.W.callWith_K0 I.kIn kC ?_
  show wpAny _ _ (call (.ref C) []) _ _ _
  obtain ⟨bm, N, nm, qn, bs, hdct, sn, sub, ab, col, dd, k0, k1, k2, k3, k5, mN, hC, hN, hni, T⟩ := exc_obj I.kIn q
  refine wpAny_call_exc_subT F T hC hN hni (fun h' e hm => ?_) (by show 0 ≤ sizeLine; rw [sizeLine_eq]; omega)
  exact mk_of I hm r h (I.hok.gone hm.new)
end
def sExc (c : String) : FS := fun S G => .exc c none S G
section
variable {Φ : Fr} {X : Cx} {W : WX}
theorem s_raise {x : String} {p pos pos2 : Pos} (E : ExcK X.K X.mg x) (fit : Fits Φ X) (tk : Takes X W) (hc : X.calm = true) (hg : Gl X (Str.ofString x) := by rfl) (hdb : (Str.ofString x == ("__debug__" : Str)) = false := by decide) :
    ES Φ X W (.Raise (some (.Call (.Name (Str.ofString x) p) [] [] pos)) none pos2) (sExc x) := by
  obtain ⟨C, gC, q, kC, h1, h2⟩ := E.ex
  refine PS.imp (ps_raise hc tk (pmk0 PySem.F.excBase_ValueError q gC kC (raises_own h1 h2) hg hdb)) fun D σ H h => ?_
  obtain ⟨m, y, S, G, r, o⟩ := h
  exact o m y σ (.ref C) none H ⟨C, by rw [← fit.mg]; exact gC, rfl, rfl⟩ r (Stp.refl m y H)
end
end Wd
/-! Wd, part J: a lambda handed to a def that calls it in a try. -/
namespace Wd
open PySem PySem.Spec PyProof.Rows L2 LamX

section
variable {X : Cx} {pins : List (Addr × Obj)} {σ : L2.St} {H : Hp} {s : Shared}
/-- the making of a lambda: besides the tables nothing that was there changes, and nothing goes -/
theorem lam_new {T : List (Addr × Str)} {c P : Addr} {params : Arguments} {body : Expr} {scope : Scope} {pos : Pos} {E Q : Value → Shared → Prop} (I : Inv X pins σ H s) (TB : TabB X.base X.mg c P) (hcode : X.env.code = .ref c)
    (hm : (P, X.env.qual ++ "<lambda>") ∈ T) (hu : ∀ p ∈ T, p.1 = P → p.2 = X.env.qual ++ "<lambda>") (hT : Tabs T H) (hdef : defaultsOf params X.env = ([], [])) (hfree : ∀ y ∈ scope.names, y.2 = .free → ∃ c, X.env.cells.lookup y.1 = some c)
    (h : ∀ (f c' : Addr) (pm ctv : Value) (H1 : Hp) (s' : Shared), Inv X pins σ H1 s' → Ext (fun _ => False) H H1 → Tabs T H1 →
      s'.heap.get? f = some (PySem.W.kla_obj "<lambda>" (X.env.qual ++ "<lambda>") params body scope (cloFrom X.env.cells scope.names []) pm c' ctv) → H1 f = none → f ∉ frs X.stack → H1 c' = some (CodeO c' (X.env.qual ++ "<lambda>")) → Q (.ref f) s') :
    wpAny (model X.prog X.w) X.A (eval (.Lambda params body scope pos) X.env) Q E s := by
  obtain ⟨ps, hP, ht, ha⟩ := hT _ hm
  have tabAt : s.heap.get? P = some { cls := .none, data := .fields ps } := I.hok P _ hP
  have noFrame : ∀ f, s.heap.objs.size ≤ f → f ∉ frs X.stack := by
    intro f hf z
    rcases List.mem_cons.mp (I.stkSub _ z) with e | e
    · have h1 := I.lt
      rw [← e] at h1
      exact absurd hf (Nat.not_le.mpr h1)
    · exact I.nofs hf e
  refine PySem.W.kla_eval hdef ?_
  cases hc : codeAmong pos ps.toList with
  | some cv =>
    obtain ⟨c', rfl, hco⟩ := ha pos cv hc
    refine PySem.W.kla_makeFunctionHit (mg := X.mg) (c := c) (P := P) (ps := ps) (closure_ok hfree) I.ok.glob (I.mod.glob.keeps I.bk) hcode (TB.code.keeps I.bk) tabAt ht hc (TB.bm.keeps I.bk) fun ctv h' tk hx hsz => ?_
    have J : Inv X pins σ H { s with heap := h'.push (PySem.W.kla_obj "<lambda>" (X.env.qual ++ "<lambda>") params body scope (cloFrom X.env.cells scope.names []) ((X.mg "__name__").getD .none) c' ctv), toks := tk } := I.kept fun b o e => Heap.get?_push_of_some _ (hx b o e)
    exact h h'.objs.size c' ((X.mg "__name__").getD .none) ctv H _ J (Ext.refl _ H) hT (Heap.get?_push_size _ rfl) (I.hok.fresh hsz) (noFrame _ hsz) hco
  | none =>
    refine PySem.W.kla_makeFunction (mg := X.mg) (c := c) (P := P) (ps := ps) (closure_ok hfree) I.ok.glob (I.mod.glob.keeps I.bk) hcode (TB.code.keeps I.bk) tabAt ht hc TB.gP (TB.bm.keeps I.bk) fun c' ctv h' tk hx hge hlt hrec htb => ?_
    obtain ⟨_, oc, vs, t, e2, hoc, hd, hv⟩ := hrec
    cases e2
    have nC : H c' = none := I.hok.fresh hge
    have hsz : s.heap.objs.size ≤ h'.objs.size := Nat.le_trans hge (Nat.le_of_lt hlt)
    have J := inv_table (t' := tk) (more := #[rawInt pos.line, rawInt pos.col, .ref c']) (h' := h'.push (PySem.W.kla_obj "<lambda>" (X.env.qual ++ "<lambda>") params body scope (cloFrom X.env.cells scope.names []) ((X.mg "__name__").getD .none) c' ctv)) I hP
      (fun b o hb e => Heap.get?_push_of_some _ (hx b o hb e)) (Heap.get?_push_of_some _ htb) hge ⟨oc, vs, t, Heap.get?_push_of_some _ hoc, hd, hv⟩
    have nPc : P ≠ c' := fun z => by rw [z, nC] at hP; cases hP
    have other : ∀ b, b ≠ P → b ≠ c' → upd (upd H P (.tbl (ps ++ #[rawInt pos.line, rawInt pos.col, .ref c']))) c' (CodeO c' (X.env.qual ++ "<lambda>")) b = H b := fun b h1 h2 => by rw [upd_ne h2, upd_ne h1]
    have atP : upd (upd H P (.tbl (ps ++ #[rawInt pos.line, rawInt pos.col, .ref c']))) c' (CodeO c' (X.env.qual ++ "<lambda>")) P = some (.tbl (ps ++ #[rawInt pos.line, rawInt pos.col, .ref c'])) := by rw [upd_ne nPc, upd_same]
    have nc : ∀ {b o}, H b = some o → b ≠ c' := fun {b o} e z => by rw [z, nC] at e; cases e
    have ext : Ext (fun _ => False) H (upd (upd H P (.tbl (ps ++ #[rawInt pos.line, rawInt pos.col, .ref c']))) c' (CodeO c' (X.env.qual ++ "<lambda>"))) := fun b o e => by
      by_cases hb : b = P
      · refine ⟨⟨_, by rw [hb]; exact atP⟩, fun _ n => ?_⟩
        rw [hb, hP] at e
        exact absurd (Option.some.inj e).symm (n ps)
      · rw [other b hb (nc e)]
        exact ⟨⟨o, e⟩, fun _ _ => e⟩
    have lst : (ps ++ #[rawInt pos.line, rawInt pos.col, .ref c']).toList = ps.toList ++ [rawInt pos.line, rawInt pos.col, .ref c'] := by simp
    refine h h'.objs.size c' ((X.mg "__name__").getD .none) ctv _ _ J ext (fun p hp => ?_) (Heap.get?_push_size _ rfl) ?_ (noFrame _ hsz) upd_same
    · by_cases hb : p.1 = P
      · rw [hu p hp hb, hb]
        refine ⟨_, atP, by rw [lst]; exact PySem.TriplesOk_snoc _ _ _ _ ht, fun p' cv hcv => ?_⟩
        rw [lst] at hcv
        rcases among_app _ ht hcv with z | z
        · obtain ⟨c0, e1, e2⟩ := ha p' cv z
          exact ⟨c0, e1, (ext c0 _ e2).2 (fun z => z) codeO_ne⟩
        · exact ⟨c', z, upd_same⟩
      · obtain ⟨ps', a1, a2, a3⟩ := hT p hp
        refine ⟨ps', by rw [other _ hb (nc a1)]; exact a1, a2, fun p' cv hcv => ?_⟩
        obtain ⟨c0, e1, e2⟩ := a3 p' cv hcv
        exact ⟨c0, e1, (ext c0 _ e2).2 (fun z => z) codeO_ne⟩
    · rw [other _ (Nat.ne_of_gt (Nat.lt_of_lt_of_le (Heap.lt_size tabAt) hsz)) (Nat.ne_of_gt hlt)]
      exact I.hok.fresh hsz
end

section
variable {X : Cx} {pins : List (Addr × Obj)} {σ : L2.St} {H : Hp} {s : Shared}
/-- x() in the def that got the lambda; what it lets out is wished for at that def's slots -/
theorem pe_actS {CXg : CXT} {Eg : XK} {Ng : List Str} {qg : Str} {sg : Scope} {g f c' : Addr} {cdg pm ctv : Value} {params : Arguments} {body : Expr} {scope : Scope} {k i : Nat} {a : Str} {pn : List (Addr × Obj)} {xe : Value → Shared → Prop} {W : WX} {tb : XK → TE} {p1 p2 : Pos}
    (I : Inv X pins σ H s) (L : LamS X.env.scope scope) (hf : s.heap.get? f = some (PySem.W.kla_obj "<lambda>" (X.env.qual ++ "<lambda>") params body scope (cloFrom X.env.cells scope.names []) pm c' ctv)) (hfn : H f = none) (hfr : f ∉ frs X.stack)
    (hbind : bindArgs (PySem.W.kla_fn "<lambda>" (X.env.qual ++ "<lambda>") params body scope (cloFrom X.env.cells scope.names []) pm (.ref c') ctv) ⟨[], []⟩ = pure [])
    (tk : Takes ((cxOf CXg X.prog X.w X.K X.mg X.base Ng qg sg g cdg X.A X.stack s H Eg).tr pn xe) W) (hr : Room (k + 1) (X.A.deeper (envOfC qg sg s.heap.objs.size g cdg)))
    (hbody : ∀ (A : Around) (outer : List Env) (s' : Shared) (H : Hp) (E : XK), Room k (A.deeper (lamEnv X scope s'.heap.objs.size f c')) → PE (lamCx X A outer s' H E scope f c') body (tb E))
    (hN : Ng[i]? = some a) (hv : Vis sg a) (hd : (a == ("__debug__" : Str)) = false := by decide) (hcd : (a == ("__classdict__" : Str)) = false := by decide) :
    PE ((cxOf CXg X.prog X.w X.K X.mg X.base Ng qg sg g cdg X.A X.stack s H Eg).tr pn xe) (.Call (.Name a p1) [] [] p2)
      (fun σZ HZ Q => σZ[i]? = some (some (.ref f)) ∧ HZ c' = some (CodeO c' (X.env.qual ++ "<lambda>")) ∧ tb (WE W σZ) σ HZ Q) := by
  refine ⟨fun pinsZ sZ σZ HZ Q IZ h => ?_⟩
  obtain ⟨hs, hc, ht⟩ := h
  refine wpAny_Call_Name_kw (thn ((pe_var (pos := p1) (i := i) hN hv hd hcd).run pinsZ sZ σZ HZ (fun v H1 => v = .ref f ∧ H1 = HZ) IZ ⟨.ref f, hs, rfl, rfl⟩) fun u s1 ⟨v, H1, I1, r1, q1⟩ => ?_)
  obtain ⟨rfl, eH⟩ := q1
  rw [eH] at I1
  obtain rfl : u = Value.ref f := r1
  have of1 : s1.heap.get? f = some (PySem.W.kla_obj "<lambda>" (X.env.qual ++ "<lambda>") params body scope (cloFrom X.env.cells scope.names []) pm c' ctv) := I1.base.keep f _ hf hfn hfr (fun z => nomatch (show f ∈ ([] : List Addr) from z))
  refine PySem.W.callWith_F0 ⟨_, _, _, _, of1⟩ ?_
  have un : Un (frs X.stack) [] H HZ s.heap s1.heap := I1.base
  obtain ⟨⟨oc, vs, t, hoc, hdc, hvc⟩, _, _⟩ := I1.hok c' _ hc
  have rc : codeAny (model X.prog X.w) (X.A.deeper (envOfC qg sg s.heap.objs.size g cdg)) (.call (.ref f) ⟨[], []⟩) (CR (L2.CX X.prog X.w) (envOfC qg sg s.heap.objs.size g cdg :: X.stack) X.prog X.w HZ s1 Q (WE W σZ)) s1 := by
    refine PySem.W.kla_callFunE hr.depth of1 rfl L.co L.gen rfl ⟨c', oc, vs, t, rfl, hoc, hdc, hvc⟩ ?_
    rw [hbind]
    refine wpAny_pure (wpAny_newFunctionEnv (fun y hy => (L.own y hy).2) (fun y hy => absurd hy (by simp)) (fun h₁ hns hsb => ⟨I1.nolimit.fresh _ hsb, ?_⟩) L.kind)
    show codeAny _ _ (.expr body (lamEnv X scope s1.heap.objs.size f c')) _ _
    have kp : ∀ b o, s1.heap.get? b = some o → h₁.get? b = some o := fun b o e => hsb.extBut b o (Nat.ne_of_lt (Heap.lt_size e)) (Heap.get?_push_of_some _ e)
    have J : Inv (lamCx X (X.A.deeper (envOfC qg sg s.heap.objs.size g cdg)) (envOfC qg sg s.heap.objs.size g cdg :: X.stack) s1 HZ (WE W σZ) scope f c') [] σ HZ { s1 with heap := h₁, toks := s1.toks + ([] : List (Str × Value)).length } :=
      lam_start2 I L I1.env0 hr.hd un hns kp
    refine PySem.W.kla_codeExpr (wpAny_mono ((hbody _ _ s1 HZ (WE W σZ) (hr.deeper _)).run [] _ _ HZ Q J ht) (fun v s' hq => ?_) fun e s' hq => hq)
    obtain ⟨w', H', J', rv, q⟩ := hq
    exact ⟨w', H', J'.os, J'.bare, J'.base, J'.hok, rv, q⟩
  refine wpAny_call (codeAny_mono rc fun r s' hq => ?_)
  cases r with
  | error e => exact passAt tk σZ pinsZ HZ s1 e s' I1 hq
  | ok fl =>
    cases fl with
    | ret u => exact I1.after hq
    | next => exact False.elim hq
    | brk => exact False.elim hq
    | cont => exact False.elim hq
end

/-! ### a lambda handed on -/
section
variable {Φ : Fr} {m m0 : List Addr} {y y' : Addr → Prop} {S : SS} {G G' G2 : GS} {σ : L2.St} {H H' H1 HZ : Hp} {K : PySem.W.Frag} {mg : Str → Option Value} {T : List (Addr × Str)} {f : Addr → Prop} {H0 : Hp} {v v' : V}
theorem RelH.reV (r : RelH ⟨K, mg, T, m0, f, H0, v⟩ m y G H) : RelH ⟨K, mg, T, m0, f, H0, v'⟩ m y G H := ⟨r.cl, r.ml, r.mn, r.my, r.yd, r.fd, r.fy, r.mp, r.st, r.tb⟩
theorem Exn.reV {c : String} {p : Option (String × D)} {cls : Value} {d : Option Addr} (x : Exn ⟨K, mg, T, m0, f, H0, v⟩ m y H c p cls d) : Exn ⟨K, mg, T, m0, f, H0, v'⟩ m y H c p cls d := x
theorem RelH.ext0 (r : RelH Φ m y G H) (e : Ext (fun _ => False) H H1) (t : Tabs Φ.T H1) : RelH Φ m y G H1 where
  cl := fun i xs h => by
    obtain ⟨a, vs, h1, h2, h3⟩ := r.cl i xs h
    exact ⟨a, vs, h1, (e a _ h2).2 (fun z => z) (fun ps z => by cases z), VDs.step (Step.of_ext (e.mono fun _ z => z.elim)) (fun _ _ h => h) xs h3⟩
  ml := r.ml
  mn := r.mn
  my := r.my
  yd := fun a h => by
    obtain ⟨o, q⟩ := r.yd a h
    exact (e a o q).1
  fd := fun a h => by
    obtain ⟨o, q⟩ := r.fd a h
    exact (e a o q).1
  fy := r.fy
  mp := r.mp
  st := r.st.trans (Step.of_ext (e.mono fun _ z => z.elim))
  tb := t
theorem Rel.ext0 (r : Rel Φ m y S G σ H) (e : Ext (fun _ => False) H H1) (t : Tabs Φ.T H1) : Rel Φ m y S G σ H1 :=
  r.swap (r.toRelH.ext0 e t) (Step.of_ext (e.mono fun _ z => z.elim)) (e.mono fun _ z => z.elim) fun _ h => h
/-- the maker's state inside the def that calls -/
theorem Rel.inside (r : Rel Φ m y S G σ H1) (rZ : RelH (Φ.sub m y H1) m y' G' HZ) : Rel Φ m (fun a => y a ∨ y' a) S G' σ HZ := by
  have e : Ext (fun a => a ∈ m) H1 HZ := rZ.st.2
  have new : ∀ a, y' a → y a ∨ H1 a = none := fun a h => (rZ.st.1 a h).imp (r.my a) id
  have st : Step y H1 (fun a => y a ∨ y' a) HZ := ⟨fun a h => h.elim .inl (new a), e.mono r.my⟩
  have hz : ∀ (a : Addr) (o : HO), HZ a = some o → (Φ.f a ∨ (y a ∨ y' a)) → (((Φ.f a ∨ y a) ∧ a ∉ m) ∨ y' a) := fun a o _ q => by
    by_cases z : a ∈ m
    · exact .inr (rZ.my a z)
    · rcases q with q | q | q
      · exact .inl ⟨.inl q, z⟩
      · exact .inl ⟨.inr q, z⟩
      · exact .inr q
  have rh : RelH Φ m (fun a => y a ∨ y' a) G' HZ :=
    { cl := fun i xs h => by
        obtain ⟨a, vs, h1, h2, h3⟩ := rZ.cl i xs h
        exact ⟨a, vs, h1, h2, VDs.imp hz xs h3⟩
      ml := rZ.ml
      mn := r.mn
      my := fun a h => .inl (r.my a h)
      yd := fun a h => by
        rcases h with h | h
        · obtain ⟨o, q⟩ := r.yd a h
          exact (e a o q).1
        · exact rZ.yd a h
      fd := fun a h => by
        obtain ⟨o, q⟩ := r.fd a h
        exact (e a o q).1
      fy := fun a h q => by
        rcases q with q | q
        · exact r.fy a h q
        · rcases new a q with z | z
          · exact r.fy a h z
          · obtain ⟨o, q⟩ := r.fd a h
            rw [z] at q
            cases q
      mp := r.mp
      st := r.st.trans st
      tb := rZ.tb }
  exact r.swap rh st e fun _ h => .inl h
theorem back_imp {y' : Addr → Prop} (a : Addr) (my : ∀ a ∈ m, y a) (q : ((Φ.f a ∨ y a) ∧ a ∉ m) ∨ y' a) : Φ.f a ∨ (y a ∨ y' a) := by
  rcases q with ⟨q, _⟩ | q
  · exact q.elim .inl fun q => .inr (.inl q)
  · exact .inr (.inr q)
theorem RelH.back (r' : RelH Φ m (fun a => y a ∨ y' a) G2 H') (rZ : RelH (Φ.sub m y H1) m y' G' HZ) (e : Ext (fun a => a ∈ m) HZ H') (my : ∀ a ∈ m, y a) : RelH (Φ.sub m y H1) m y' G2 H' where
  cl := fun i xs h => by
    obtain ⟨a, vs, h1, h2, h3⟩ := r'.cl i xs h
    exact ⟨a, vs, h1, h2, VDs.imp (fun b o _ q => back_imp b my q) xs h3⟩
  ml := r'.ml
  mn := rZ.mn
  my := rZ.my
  yd := fun a h => by
    obtain ⟨o, q⟩ := rZ.yd a h
    exact (e a o q).1
  fd := fun a h => by
    obtain ⟨o, q⟩ := rZ.fd a h
    exact (e a o q).1
  fy := rZ.fy
  mp := rZ.mp
  st := rZ.st.trans (Step.of_ext (e.mono rZ.my))
  tb := r'.tb
end
/-- call() -/
def fAct (n : Nat) (fa : GS → Res D) : FE := fun S G => match S[(0 : Nat)]? with
  | some .raw => if G.length = n then fa G else .fail
  | _ => .fail
def cutN (r : Res Rv) : Res D :=
  match r with
  | .ok (.pl d) G => .ok d G
  | .ok (.ow xs) G => .ok (.lst xs) G
  | _ => .fail
def fLam (th : (GS → Res D) → GS → Res Rv) (fe : FE) : FE := fun S G => cutN (th (fe S) G)
abbrev wN : WX := fun _ _ _ _ => False
/-- the frame of a def that calls the lambda at f -/
abbrev frV (K : PySem.W.Frag) (mg : Str → Option Value) (T : List (Addr × Str)) (m : List Addr) (fo : Addr → Prop) (H : Hp) (v : V) : Fr := ⟨K, mg, T, m, fo, H, v⟩
structure Thk (P : Program) (w : World) (K : PySem.W.Frag) (mg : Str → Option Value) (base : Heap) (T : List (Addr × Str)) (x : Str) (th : (GS → Res D) → GS → Res Rv) : Prop where
  ex : ∃ (g : Addr) (pg : Arguments) (bg : List Stmt) (sg : Scope) (dV kV doc pm cdg ct oc : Value) (an od : Option Addr) (osl : Array (Option Value)) (Ng : List Str) (a : Str) (bf : Nat → (GS → Res D) → FS),
    mg x = some (.ref g) ∧ PySem.W.keepIn K (.ref g) = true ∧ K.lookup g = some ⟨oc, od, .func (PySem.W.fnOf x x pg bg sg dV kV doc pm an cdg ct), osl⟩ ∧ PySem.W.codeIn K cdg x = true ∧ L2.Binds K (PySem.W.fnOf x x pg bg sg dV kV doc pm an cdg ct) [a] [] ∧
    FnScope Ng [a] sg ∧ Ng[0]? = some a ∧ Vis sg a ∧ (a == ("__debug__" : Str)) = false ∧ (a == ("__classdict__" : Str)) = false ∧ 0 < Ng.length ∧
    (∀ fa G, th fa G = (bf G.length fa (.raw :: List.replicate (Ng.length - 1) .un) G).fin G.length) ∧
    ∀ (A : Around) (outer : List Env) (s : Shared) (m : List Addr) (fo : Addr → Prop) (H : Hp) (u : V) (fa : GS → Res D) (n : Nat), Room 0 (A.deeper (envOfC x sg s.heap.objs.size g cdg)) →
      (∀ (W : WX) (pn : List (Addr × Obj)) (xe : Value → Shared → Prop) (p1 p2 : Pos), Takes ((cxOf C8.CX0 P w K mg base Ng x sg g cdg A outer s H C8.E0).tr pn xe) W → n = m.length → EE (frV K mg T m fo H u) ((cxOf C8.CX0 P w K mg base Ng x sg g cdg A outer s H C8.E0).tr pn xe) W (.Call (.Name a p1) [] [] p2) (fAct n fa)) →
      n = m.length → EB (frV K mg T m fo H u) (cxOf C8.CX0 P w K mg base Ng x sg g cdg A outer s H C8.E0).nox wN bg (bf n fa)
section
variable {Φ : Fr} {X : Cx} {W : WX} {x : Str} {th : (GS → Res D) → GS → Res Rv} {k : Nat} {fe : FE} {p lpos pos : Pos} {params : Arguments} {body : Expr} {scope : Scope} {c P : Addr}
theorem cutN_out {m : List Addr} {y : Addr → Prop} {S : SS} {G : GS} {σ : L2.St} {H : Hp} {r : Res Rv} {Q : VK} {u : V} (rl : Rel Φ m y S G σ H) (o : Out Φ W m y S σ H (cutN r) fun d H' => ∀ v, Φ.vd m y H' d v → Q v H') :
    OutD (frV Φ.K Φ.mg Φ.T m (fun a => (Φ.f a ∨ y a) ∧ a ∉ m) H u) (fun _ _ _ => False) r Q := by
  cases r with
  | ok rv G' =>
    intro y' v H' r' rv'
    have r' : RelH (Φ.sub m y H) m y' G' H' := RelH.reV r'
    cases rv with
    | pl d =>
      obtain ⟨r2, e2⟩ := rl.behind r'
      exact o H' r2 e2 v (behind_vd (H := H) r'.my rv')
    | ow xs =>
      obtain ⟨a, vs, rfl, ha, vd, fH, am, ya⟩ := rv'
      obtain ⟨r2, e2⟩ := rl.behind r'
      have n : H a = none := fH
      refine o H' r2 e2 (.ref a) ?_
      simp only [Fr.vd, VD]
      refine ⟨a, vs, rfl, ⟨ha, fun q => ?_⟩, behind_vds (H := H) r'.my vd⟩
      obtain ⟨u, hu⟩ : ∃ u, H a = some u := q.elim (rl.fd a) (rl.yd a)
      rw [n] at hu
      cases hu
  | exc c p G' => exact o.elim
  | fail => exact o.elim
theorem e_lam (t : Thk X.prog X.w X.K X.mg X.base Φ.T x th) (fit : Fits Φ X) (TB : TabB X.base X.mg c P) (hcode : X.env.code = .ref c) (hmT : (P, X.env.qual ++ "<lambda>") ∈ Φ.T) (hu : ∀ p ∈ Φ.T, p.1 = P → p.2 = X.env.qual ++ "<lambda>") (hr : Room (k + 2) X.A)
    (L : LamS X.env.scope scope) (hdef : defaultsOf params X.env = ([], [])) (hbind : ∀ (q : Str) (cl : List (Str × Addr)) (pm cv ctv : Value), bindArgs (PySem.W.kla_fn "<lambda>" q params body scope cl pm cv ctv) ⟨[], []⟩ = pure [])
    (hbody : ∀ (A : Around) (outer : List Env) (s : Shared) (H : Hp) (E : XK) (f c' : Addr), Room k (A.deeper (lamEnv X scope s.heap.objs.size f c')) → EE Φ (lamCx X A outer s H E scope f c') (wE E) body fe)
    (hg : Gl X x := by rfl) (hdb : (x == ("__debug__" : Str)) = false := by decide) : EE Φ X W (.Call (.Name x p) [.Lambda params body scope lpos] [] pos) (fLam th fe) := by
  obtain ⟨g, pg, bg, sg, dV, kV, doc, pm, cdg, ct, oc, an, od, osl, Ng, a, bf, hm, hk, lk, hcg, hb, Sg, hNg, hva, hd, hcd, hlen, hth, hgo⟩ := t.ex
  refine ⟨fun pins s σ H Q I h => ?_⟩
  obtain ⟨m, y, S, G, r, o⟩ := h
  refine wpAny_Call_Name_kw (ld_glob I hg hm ?_ hdb)
  refine PySem.W.callWith_K (h₀ := X.base) I.ok.mod.kin hk ?_ (by rfl) (by rfl)
  show wpAny _ _ (spliced ((false, eval (.Lambda params body scope lpos) X.env) :: backTo pos (starEach [] X.env))) _ _ s
  refine Calls.spliced_cons (lam_new I TB hcode hmT hu r.tb hdef (L.has I.ok) fun f c' pm' ctv H1 s' I1 e1 T1 hf hfn hfr hco => ?_)
  refine Calls.spliced_nil ⟨I1.kIn, ?_⟩
  have r1 : Rel Φ m y S G σ H1 := r.ext0 e1 T1
  have o1 := Out.mono o (e1.mono fun _ z => z.elim)
  have od' : OutD (frV Φ.K Φ.mg Φ.T m (fun a => (Φ.f a ∨ y a) ∧ a ∉ m) H1 (.ref f)) (fun _ _ _ => False) (th (fe S) G) Q := cutN_out r1 o1
  have rc : codeAny (model X.prog X.w) X.A (.call (.ref g) ⟨[.ref f], []⟩) (CR C8.CX0 X.stack X.prog X.w H1 s' Q C8.E0) s' := by
    refine run_ofS (N := Ng) (ps := [a]) (us := [.ref f]) (vs := [.ref f]) lk hcg Sg hr I1.env0 (hb s' [.ref f] I1.kIn rfl) (.cons rfl .nil) rfl fun hr' => ?_
    have eB := hgo X.A X.stack s' m (fun a => (Φ.f a ∨ y a) ∧ a ∉ m) H1 (.ref f) (fe S) G.length (hr'.mono (Nat.zero_le _)) (fun W pn xe p1 p2 tk hn => ⟨fun pinsZ sZ σZ HZ QZ IZ hZ => ?_⟩) r.ml.symm
    · refine ⟨_, eB.nox, m, (fun a => a ∈ m), .raw :: List.replicate (Ng.length - 1) .un, G, ?_, ?_⟩
      · have r0 : RelH (frV X.K X.mg Φ.T m (fun a => (Φ.f a ∨ y a) ∧ a ∉ m) H1 (.ref f)) m (fun a => a ∈ m) G H1 := by
          rw [fit.K, fit.mg]
          exact RelH.reV r1.toRelH.enter
        have e0 : L2.start Ng [V.ref f] = some (.ref f) :: List.replicate (Ng.length - 1) none := rfl
        rw [e0]
        refine { toRelH := r0, ln := by simp, sl := fun i d e => ?_, ow := fun i xs e => ?_, oi := fun i j xs zs a e => ?_, raw := fun i e => ?_ }
        · cases i with
          | zero => cases e
          | succ i =>
            rw [List.getElem?_cons_succ, List.getElem?_replicate] at e
            split at e <;> cases e
        · cases i with
          | zero => cases e
          | succ i =>
            rw [List.getElem?_cons_succ, List.getElem?_replicate] at e
            split at e <;> cases e
        · cases i with
          | zero => cases e
          | succ i =>
            rw [List.getElem?_cons_succ, List.getElem?_replicate] at e
            split at e <;> cases e
        · cases i with
          | zero => rfl
          | succ i =>
            rw [List.getElem?_cons_succ, List.getElem?_replicate] at e
            split at e <;> cases e
      · have od2 : OutD (frV X.K X.mg Φ.T m (fun a => (Φ.f a ∨ y a) ∧ a ∉ m) H1 (.ref f)) (fun _ _ _ => False) ((bf G.length (fe S) (.raw :: List.replicate (Ng.length - 1) .un) G).fin G.length) Q := by
          rw [fit.K, fit.mg, ← hth]
          exact od'
        exact fin_out (Φ := frV X.K X.mg Φ.T m (fun a => (Φ.f a ∨ y a) ∧ a ∉ m) H1 (.ref f)) (n := G.length) r.ml.symm od2
    · obtain ⟨m', y', Sg', G', rZ, oZ⟩ := hZ
      unfold fAct at oZ
      split at oZ
      · rename_i eraw
        by_cases hl : G'.length = G.length
        · rw [if_pos hl] at oZ
          have em : m' = m := len_m rZ.toRelH (hl.trans r.ml.symm)
          subst em
          have rZH : RelH (Φ.sub m' y H1) m' y' G' HZ := by
            have z : RelH (frV X.K X.mg Φ.T m' (fun a => (Φ.f a ∨ y a) ∧ a ∉ m') H1 .non) m' y' G' HZ := RelH.reV rZ.toRelH
            rw [fit.K, fit.mg] at z
            exact z
          have ri := r1.inside rZH
          have conv : ∀ {H' G2}, Rel Φ m' (fun a => y a ∨ y' a) S G2 σ H' → Ext (fun a => a ∈ m') HZ H' → Rel (frV X.K X.mg Φ.T m' (fun a => (Φ.f a ∨ y a) ∧ a ∉ m') H1 (.ref f)) m' y' Sg' G2 σZ H' := fun {H' G2} r' e' => by
            have z : RelH (frV Φ.K Φ.mg Φ.T m' (fun a => (Φ.f a ∨ y a) ∧ a ∉ m') H1 (.ref f)) m' y' G2 H' := RelH.reV (r'.toRelH.back rZH e' r1.my)
            rw [← fit.K, ← fit.mg] at z
            exact rZ.swap z (Step.of_ext (e'.mono rZ.my)) e' fun _ h => h
          have hco' : HZ c' = some (CodeO c' (X.env.qual ++ "<lambda>")) := by
            refine (rZ.st.2 c' _ hco).2 (fun q => ?_) codeO_ne
            obtain ⟨i, hi, hq⟩ := List.mem_iff_getElem.mp q
            obtain ⟨b, vs, k1, k2, _⟩ := r1.cl i (G[i]'(by rw [← r.ml]; exact hi)) (List.getElem?_eq_getElem _)
            have k1' := k1
            rw [List.getElem?_eq_getElem hi] at k1'
            cases k1'
            rw [hq] at k2
            rw [hco] at k2
            unfold CodeO at k2
            cases k2
          refine (pe_actS (tb := fun E => rdE Φ (wE E) fe) (i := 0) I1 L hf hfn hfr (hbind _ _ _ _ _) tk hr' (fun A outer s H E hr2 => hbody A outer s H E f c' hr2) hNg hva hd hcd).run pinsZ sZ σZ HZ QZ IZ ⟨rZ.raw 0 eraw, hco', m', _, S, G', ri, ?_⟩
          cases eo : fe S G' with
          | ok d G2 =>
            rw [eo] at oZ
            intro H' r' e' v vd
            refine oZ H' (conv r' e') e' v ?_
            have z : Fr.vd (frV Φ.K Φ.mg Φ.T m' (fun a => (Φ.f a ∨ y a) ∧ a ∉ m') H1 (.ref f)) m' y' H' d v := VD.imp (fun b o _ q => back_imp b r1.my q) d vd
            rw [← fit.K, ← fit.mg] at z
            exact z
          | exc c p G2 =>
            rw [eo] at oZ
            intro cls d H' x r' e'
            refine oZ cls d H' ?_ (conv r' e') e'
            obtain ⟨C, h1, h2, h3⟩ := x
            have z : Exn (frV Φ.K Φ.mg Φ.T m' (fun a => (Φ.f a ∨ y a) ∧ a ∉ m') H1 (.ref f)) m' y' H' c p cls d := by
              refine ⟨C, h1, h2, ?_⟩
              cases p with
              | none => exact h3
              | some q =>
                obtain ⟨dd, v, e1, e2, e3⟩ := h3
                exact ⟨dd, v, e1, e2, VD.imp (fun b o _ q => back_imp b r1.my q) q.2 e3⟩
            rw [← fit.K, ← fit.mg] at z
            exact z
          | fail =>
            rw [eo] at oZ
            exact oZ.elim
        · rw [if_neg hl] at oZ
          exact oZ.elim
      · exact oZ.elim
  refine wpAny_call (codeAny_mono rc fun r s2 hq => ?_)
  cases r with
  | error e => exact (show False from hq).elim
  | ok fl =>
    cases fl with
    | ret u => exact I1.after hq
    | next => exact False.elim hq
    | brk => exact False.elim hq
    | cont => exact False.elim hq
end
end Wd
/-! Wd, part K: try, the caught error's class. -/
namespace Wd
open PySem PySem.Spec PyProof.Rows L2

def unraw : Sl → Sl
  | .raw => .un
  | s => s
abbrev Fr.rvd (Φ : Fr) (v : V) : Fr := ⟨Φ.K, Φ.mg, Φ.T, Φ.m, Φ.f, Φ.H, v⟩
section
variable {Φ : Fr} {m : List Addr} {y : Addr → Prop} {S : SS} {G : GS} {σ : L2.St} {H : Hp} {v : V}
theorem unraw_pl {i : Nat} {d : D} (h : (S.map unraw)[i]? = some (.pl d)) : S[i]? = some (.pl d) := by
  rw [List.getElem?_map] at h
  cases e : S[i]? with
  | none => rw [e] at h; cases h
  | some s =>
    rw [e] at h
    cases s <;> first | (cases h; rfl) | cases h
theorem unraw_ow {i : Nat} {d : List D} (h : (S.map unraw)[i]? = some (.ow d)) : S[i]? = some (.ow d) := by
  rw [List.getElem?_map] at h
  cases e : S[i]? with
  | none => rw [e] at h; cases h
  | some s =>
    rw [e] at h
    cases s <;> first | (cases h; rfl) | cases h
theorem unraw_raw {i : Nat} (h : (S.map unraw)[i]? = some .raw) : False := by
  rw [List.getElem?_map] at h
  cases e : S[i]? with
  | none => rw [e] at h; cases h
  | some s =>
    rw [e] at h
    cases s <;> cases h
theorem RelH.rvd (r : RelH Φ m y G H) : RelH (Φ.rvd v) m y G H := ⟨r.cl, r.ml, r.mn, r.my, r.yd, r.fd, r.fy, r.mp, r.st, r.tb⟩
theorem RelH.ofRvd (r : RelH (Φ.rvd v) m y G H) : RelH Φ m y G H := ⟨r.cl, r.ml, r.mn, r.my, r.yd, r.fd, r.fy, r.mp, r.st, r.tb⟩
theorem Rel.rvd (r : Rel Φ m y S G σ H) : Rel (Φ.rvd v) m y (S.map unraw) G σ H where
  toRelH := r.toRelH.rvd
  ln := by rw [List.length_map]; exact r.ln
  sl := fun i d h => r.sl i d (unraw_pl h)
  ow := fun i xs h => r.ow i xs (unraw_ow h)
  oi := fun i j xs zs a h1 h2 => r.oi i j xs zs a (unraw_ow h1) (unraw_ow h2)
  raw := fun i h => (unraw_raw h).elim
theorem Rel.ofRvd (r : Rel (Φ.rvd v) m y S G σ H) : Rel Φ m y (S.map unraw) G σ H where
  toRelH := r.toRelH.ofRvd
  ln := by rw [List.length_map]; exact r.ln
  sl := fun i d h => r.sl i d (unraw_pl h)
  ow := fun i xs h => r.ow i xs (unraw_ow h)
  oi := fun i j xs zs a h1 h2 => r.oi i j xs zs a (unraw_ow h1) (unraw_ow h2)
  raw := fun i h => (unraw_raw h).elim
/-- a slot holds the frame's value -/
theorem Rel.setR {i : Nat} (r : Rel Φ m y S G σ H) : Rel Φ m y (S.set i .raw) G (σ.set i (some Φ.rv)) H where
  toRelH := r.toRelH
  ln := by rw [List.length_set, List.length_set]; exact r.ln
  sl := fun j d' e => by
    by_cases hj : j = i
    · subst hj
      by_cases hl : j < S.length
      · rw [List.getElem?_set_self hl] at e
        cases e
      · rw [List.getElem?_eq_none (by rw [List.length_set]; omega)] at e
        cases e
    · rw [List.getElem?_set_ne (Ne.symm hj)] at e ⊢
      exact r.sl j d' e
  ow := fun j xs e => by
    by_cases hj : j = i
    · subst hj
      by_cases hl : j < S.length
      · rw [List.getElem?_set_self hl] at e
        cases e
      · rw [List.getElem?_eq_none (by rw [List.length_set]; omega)] at e
        cases e
    · rw [List.getElem?_set_ne (Ne.symm hj)] at e ⊢
      exact r.ow j xs e
  oi := fun j k xs zs a h1 h2 h3 h4 => by
    by_cases hj : j = i
    · subst hj
      by_cases hl : j < S.length
      · rw [List.getElem?_set_self hl] at h1
        cases h1
      · rw [List.getElem?_eq_none (by rw [List.length_set]; omega)] at h1
        cases h1
    · by_cases hk : k = i
      · subst hk
        by_cases hl : k < S.length
        · rw [List.getElem?_set_self hl] at h2
          cases h2
        · rw [List.getElem?_eq_none (by rw [List.length_set]; omega)] at h2
          cases h2
      · rw [List.getElem?_set_ne (Ne.symm hj)] at h1 h3
        rw [List.getElem?_set_ne (Ne.symm hk)] at h2 h4
        exact r.oi j k xs zs a h1 h2 h3 h4
  raw := fun j e => by
    by_cases hj : j = i
    · subst hj
      by_cases hl : j < S.length
      · exact List.getElem?_set_self (by rw [← r.ln]; exact hl)
      · rw [List.getElem?_eq_none (by rw [List.length_set]; omega)] at e
        cases e
    · rw [List.getElem?_set_ne (Ne.symm hj)] at e ⊢
      exact r.raw j e
end
/-- try: f / except .. as (slot i): h -/
def sTry (i : Nat) (cs : List String) (f : FS) (h : String → FS) : FS := fun S G => match f S G with
  | .exc c none S' G' => if c ∈ cs then (match h c ((S'.map unraw).set i .raw) G' with
    | .nx S2 G2 => .nx ((S2.set i .un).map unraw) G2
    | .rt r G2 => .rt r G2
    | _ => .fail) else .fail
  | .exc _ (some _) _ _ => .fail
  | r => r
/-- the class x is one of the class y, or not -/
structure ExcM (K : PySem.W.Frag) (mg : Str → Option Value) (x y : Str) (b : Bool) : Prop where
  ex : ∃ C E, mg x = some (.ref C) ∧ mg y = some (.ref E) ∧ PySem.W.exmOne K (.ref C) (.ref E) = some b
section
variable {Φ : Fr} {X : Cx} {W : WX}
theorem s_try (i : Nat) {x : Str} {n : Str} {cs : List String} {body suite : List Stmt} {b₀ : Stmt} {np pos pos' : Pos} {fb : FS} {fh : String → FS} (fit : Fits Φ X) (hs : X.stack = X.env :: X.outer) (hf : X.env.frame = some X.env.locals) (hN : X.N.Nodup) (tk : Takes X W)
    (hm : ∀ c ∈ cs, ExcM X.K X.mg (Str.ofString c) x true)
    (hb : ∀ (W : WX) (pn : List (Addr × Obj)) (xe : Value → Shared → Prop), Takes (X.tr pn xe) W → PassesOwn (model X.prog X.w) X.A X.env xe → EB Φ (X.tr pn xe) W body fb)
    (hsu : ∀ (c : String) (C a : Addr) (oe : Obj) (pn : List (Addr × Obj)), c ∈ cs → X.mg (Str.ofString c) = some (.ref C) → Zc (.ref C) none oe → (∃ vs, oe.data = .fields vs) → EB (Φ.rvd (.ref a)) (X.suite a ((a, oe) :: pn)) wN (b₀ :: suite) (fh c))
    (hcs : cs ≠ [] := by decide) (hi : X.N[i]? = some n := by rfl) (hln : X.env.kindOf n = some .local := by rfl) (hg : Gl X x := by rfl) (hdb : (x == ("__debug__" : Str)) = false := by decide) :
    ES Φ X W (.Try body [.ExceptHandler (some (.Name x np)) (some n) (b₀ :: suite) pos'] [] [] pos) (sTry i cs fb fh) := by
  refine ⟨fun pins s σ H D I h => ?_⟩
  obtain ⟨m, y, S, G, r, o⟩ := h
  obtain ⟨c0, hc0⟩ := List.exists_mem_of_ne_nil _ hcs
  obtain ⟨_, E, _, hE, _⟩ := (hm c0 hc0).ex
  refine (ps_try_as (c := .ref E) (tb := fun W => rdS Φ W fb) (ts := fun a cls d D σ H => ∃ c C, c ∈ cs ∧ X.mg (Str.ofString c) = some (.ref C) ∧ cls = .ref C ∧ d = none ∧ rdS (Φ.rvd (.ref a)) wN (fh c) D σ H) (Wout := W) hs hf hN hi hln ⟨hg, hdb, .inl hE⟩ tk hb (fun a oe cls d pn hz hv => ⟨fun pins s σ H D I h => ?_⟩)).run pins s σ H D I ?_
  · obtain ⟨c, C, hc, hC, rfl, rfl, h⟩ := h
    exact (hsu c C a oe pn hc hC hz hv).run pins s σ H D I h
  · refine ⟨m, y, S, G, r, ?_⟩
    unfold sTry at o
    cases e : fb S G with
    | nx S' G' => rw [e] at o; exact o
    | rt rv G' => rw [e] at o; exact o
    | fail => rw [e] at o; exact o
    | exc c p S' G' =>
      rw [e] at o
      cases p with
      | some q => exact o.elim
      | none =>
        have o : OutS Φ W m y H (if c ∈ cs then (match fh c ((S'.map unraw).set i .raw) G' with
          | .nx S2 G2 => .nx ((S2.set i .un).map unraw) G2
          | .rt r G2 => .rt r G2
          | _ => .fail) else .fail) D := o
        by_cases hc : c ∈ cs
        · rw [if_pos hc] at o
          intro m' y' σ' cls d H' x r' s'
          obtain ⟨C, hC, rfl, hd⟩ := x
          have hd : d = none := hd
          subst hd
          obtain ⟨C2, E2, q1, q2, q3⟩ := (hm c hc).ex
          rw [hE] at q2
          cases q2
          rw [← fit.mg, q1] at hC
          cases hC
          refine ⟨true, q3, fun _ a na => ⟨c, _, hc, q1, rfl, rfl, m', y', _, G', Rel.setR (i := i) (r'.rvd (v := .ref a)), ?_⟩, fun z => by cases z⟩
          have o := OutS.mono o s'
          cases e2 : fh c ((S'.map unraw).set i .raw) G' with
          | nx S2 G2 =>
            rw [e2] at o
            exact fun m2 y2 σ2 H2 r2 s2 => o m2 y2 _ H2 (r2.unset.ofRvd) s2
          | rt rv G2 =>
            rw [e2] at o
            exact fun m2 y2 v H2 r2 s2 rv2 => o m2 y2 v H2 r2.ofRvd s2 rv2
          | exc _ _ _ _ => rw [e2] at o; exact o.elim
          | fail => rw [e2] at o; exact o.elim
        · rw [if_neg hc] at o
          exact o.elim
/-- isinstance(e, c): the frame's value is the caught error -/
def fIsE (i : Nat) (b : Bool) : FE := fun S G => match S[i]? with
  | some .raw => .ok (.bl b) G
  | _ => .fail
/-- isinstance of an instance of x asks y -/
structure ExcI (K : PySem.W.Frag) (mg : Str → Option Value) (x y : Str) (b : Bool) : Prop where
  ex : ∃ C E, mg x = some (.ref C) ∧ mg y = some (.ref E) ∧ PySem.W.kitOne K (.ref C) (.ref E) = some b
theorem e_isE (i : Nat) {x c n : Str} {C a : Addr} {oe : Obj} {pn : List (Addr × Obj)} {b : Bool} {p pe px pos : Pos} (hc : ExcC X.K C) (hz : Zc (.ref C) none oe) (hv : ∃ vs, oe.data = .fields vs) (fit : Fits Φ X) (hC : X.mg c = some (.ref C)) (hI : ExcI X.K X.mg c x b) (hfree : X.mg "isinstance" = none)
    (hi : X.N[i]? = some n := by rfl) (hvi : Vis X.env.scope n := by first | exact Or.inl rfl | exact Or.inr (Or.inl rfl) | exact Or.inr (Or.inr rfl)) (hgI : Gl X "isinstance" := by rfl) (hg : Gl X x := by rfl) (hdb : (x == ("__debug__" : Str)) = false := by decide)
    (hd : (n == ("__debug__" : Str)) = false := by decide) (hcd : (n == ("__classdict__" : Str)) = false := by decide) (hbt : bootBuiltins "isinstance" = some (.builtin "isinstance") := by decide +kernel) :
    EE (Φ.rvd (.ref a)) (X.suite a ((a, oe) :: pn)) W (.Call (.Name "isinstance" p) [.Name n pe, .Name x px] [] pos) (fIsE i b) := by
  obtain ⟨C2, E, q1, q2, q3⟩ := hI.ex
  rw [hC] at q1
  cases q1
  have ha : PA (X.suite a ((a, oe) :: pn)) [.Name n pe, .Name x px] (tCons (tVar i) (tCons (tC (.ref E)) tNil)) := pa_cons (pe_var (X := X.suite a ((a, oe) :: pn)) hi hvi hd hcd) (pa_cons (pe_glob (X := X.suite a ((a, oe) :: pn)) (v := .ref E) hg q2 rfl hdb) pa_nil)
  refine PE.imp (pe_callB (X := X.suite a ((a, oe) :: pn)) (call_isE hc hz hv) hgI hfree hbt ha) fun σ H Q h => ?_
  obtain ⟨m, y, S, G, r, o⟩ := h
  unfold fIsE at o
  split at o
  · rename_i e
    refine ⟨.ref a, r.raw i e, ?_⟩
    exact ⟨.ref E, .ref E, b, rfl, fun u q => q, q3, o H r (Ext.refl _ H) (.bl b) mk_bl⟩
  · exact o.elim
theorem e_isT (i : Nat) {x : Str} {n : Str} {T : String} {C a : Addr} {oe : Obj} {pn : List (Addr × Obj)} {b : Bool} {p pe px pos : Pos} (hc : ExcC X.K C) (hz : Zc (.ref C) none oe) (hv : ∃ vs, oe.data = .fields vs) (fit : Fits Φ X) (hk : PySem.W.kitOne X.K (.ref C) (.type T) = some b) (hfree : X.mg "isinstance" = none) (hx : X.mg x = none)
    (hi : X.N[i]? = some n := by rfl) (hvi : Vis X.env.scope n := by first | exact Or.inl rfl | exact Or.inr (Or.inl rfl) | exact Or.inr (Or.inr rfl)) (hgI : Gl X "isinstance" := by rfl) (hg : Gl X x := by rfl) (hdb : (x == ("__debug__" : Str)) = false := by decide) (hxt : bootBuiltins x = some (.type T) := by decide +kernel) (hxn : x ≠ "__name__" := by decide)
    (hd : (n == ("__debug__" : Str)) = false := by decide) (hcd : (n == ("__classdict__" : Str)) = false := by decide) (hbt : bootBuiltins "isinstance" = some (.builtin "isinstance") := by decide +kernel) :
    EE (Φ.rvd (.ref a)) (X.suite a ((a, oe) :: pn)) W (.Call (.Name "isinstance" p) [.Name n pe, .Name x px] [] pos) (fIsE i b) := by
  have ha : PA (X.suite a ((a, oe) :: pn)) [.Name n pe, .Name x px] (tCons (tVar i) (tCons (tC (.ty T)) tNil)) := pa_cons (pe_var (X := X.suite a ((a, oe) :: pn)) hi hvi hd hcd) (pa_cons (pe_bltn (X := X.suite a ((a, oe) :: pn)) (v := .ty T) hg hx hxt rfl hxn hdb) pa_nil)
  refine PE.imp (pe_callB (X := X.suite a ((a, oe) :: pn)) (call_isE hc hz hv) hgI hfree hbt ha) fun σ H Q h => ?_
  obtain ⟨m, y, S, G, r, o⟩ := h
  unfold fIsE at o
  split at o
  · rename_i e
    refine ⟨.ref a, r.raw i e, ?_⟩
    exact ⟨.ty T, .type T, b, rfl, fun u q => q, hk, o H r (Ext.refl _ H) (.bl b) mk_bl⟩
  · exact o.elim
/-- what an error class must say in a suite: kinds of it -/
structure ExcS (K : PySem.W.Frag) (mg : Str → Option Value) (x : Str) : Prop where
  ex : ∃ C, mg x = some (.ref C) ∧ ExcC K C ∧ PySem.W.kitOne K (.ref C) (.type "ValueError") = some true
end
end Wd
/-! Wd, part L: t[::-1]; dicts. -/
namespace Wd
open PySem PySem.Spec PyProof.Rows L2

section
variable {prog : Program} {w : World} {A : Around} {E : Value → Shared → Prop} {s : Shared}
theorem range_pick {α : Type} (l : List α) : (List.range l.length).filterMap (fun m => l[m]?) = l := by
  induction l with
  | nil => rfl
  | cons x xs ih =>
    rw [List.length_cons, List.range_succ_eq_map, List.filterMap_cons, List.filterMap_map]
    simp only [List.getElem?_cons_zero]
    congr 1
theorem fm_congr {α β : Type} {f g : α → Option β} : ∀ {l : List α}, (∀ m ∈ l, f m = g m) → l.filterMap f = l.filterMap g
  | [], _ => rfl
  | a :: l, h => by
    rw [List.filterMap_cons, List.filterMap_cons, h a List.mem_cons_self, fm_congr fun m hm => h m (List.mem_cons_of_mem _ hm)]
theorem rev_pick (xs : Array Value) : ((List.range xs.size).filterMap fun (m : Nat) => xs[((xs.size : Int) - 1 + (m : Int) * (-1)).toNat]?).toArray = xs.toList.reverse.toArray := by
  congr 1
  have h : (List.range xs.size).filterMap (fun (m : Nat) => xs[((xs.size : Int) - 1 + (m : Int) * (-1)).toNat]?) = (List.range xs.toList.reverse.length).filterMap (fun m => xs.toList.reverse[m]?) := by
    rw [List.length_reverse, Array.length_toList]
    refine fm_congr fun m hm => ?_
    have hm := List.mem_range.mp hm
    rw [List.getElem?_reverse (by rw [Array.length_toList]; exact hm), Array.length_toList, Array.getElem?_toList]
    congr 1
    omega
  rw [h, range_pick]
theorem sliceApplied_rev {sl : Addr} {n : Nat} {u : Tok} {Q : Int × Int × Nat → Shared → Prop} (hs : s.heap.IsSliceOf sl .none .none (.int (-1) u))
    (h : Q ((n : Int) - 1, -1, n) s) : wpAny (model prog w) A (Builtin.Slice.sliceApplied (.ref sl) (pure (n : Int))) Q E s := by
  obtain ⟨os, hos, hcs, hds⟩ := id hs
  unfold Builtin.Slice.sliceApplied Builtin.Slice.sliceFields
  refine wpAny_bind (wpAny_bind (wpAny_field hos hds (x := .none) rfl (wpAny_bind (wpAny_field hos hds (x := .none) rfl (wpAny_bind (wpAny_field hos hds (x := .int (-1) u) rfl (wpAny_pure ?_)))))))
  refine wpAny_bind (slicePart_int ?_)
  show wpAny _ _ (if ((-1 : Int) == 0) = true then _ else _) _ _ s
  rw [if_neg (by decide)]
  refine wpAny_bind (slicePart_none (wpAny_bind (slicePart_none (wpAny_bind (wpAny_pure ?_)))))
  show wpAny _ _ (match Builtin.Slice.sliceAdjust none none (-1) (n : Int) with | (lo, hi) => pure (lo, (-1 : Int), Builtin.Slice.slicePlaces lo hi (-1))) _ _ s
  have e1 : Builtin.Slice.sliceAdjust none none (-1) (n : Int) = ((n : Int) - 1, -1) := rfl
  rw [e1]
  show wpAny _ _ (pure ((n : Int) - 1, (-1 : Int), Builtin.Slice.slicePlaces ((n : Int) - 1) (-1) (-1))) _ _ s
  have e2 : Builtin.Slice.slicePlaces ((n : Int) - 1) (-1) (-1) = n := by
    unfold Builtin.Slice.slicePlaces
    have h1 : ¬ (-1 : Int) > 0 := by omega
    simp only [h1, if_false]
    split <;> simp <;> omega
  rw [e2]
  exact wpAny_pure h
theorem getItem_tuple_rev {t sl : Addr} {items : Array Value} {u : Tok} {Q : Value → Shared → Prop} (ht : IsTup s.heap t items) (hs : s.heap.IsSliceOf sl .none .none (.int (-1) u))
    (h : Q (.ref s.heap.objs.size) { s with heap := s.heap.push { cls := .type "tuple", data := .seq items.toList.reverse.toArray } })
    (hsz : items.size ≤ sizeLine) : wpAny (model prog w) A (getItem (.ref t) (.ref sl)) Q E s := by
  have htake : sizeOk (.seq items.toList.reverse.toArray) := by
    show items.toList.reverse.toArray.size ≤ sizeLine
    rw [List.size_toArray, List.length_reverse, Array.length_toList]
    exact hsz
  obtain ⟨os, hos, hcs, hds⟩ := id hs
  have hTs : s.TypeIs (.ref sl) "slice" := ⟨os, hos, hcs⟩
  unfold getItem
  try with_reducible refine wpAny_holding ?_
  first | refine wpAny_bind (wpAny_pure ?_) | skip
  refine wpAny_bind (wpAny_sequenceKey ht.typeIs (by decide) ?_)
  refine wpAny_bind (wpAny_callSpecial?_slot (name := Str.ofString "__getitem__") ht.typeIs PyProof.Rows.slot_tuple_getitem
    (wpAny_call_entry PyProof.Rows.slot_tuple_getitem ht.typeIs entry_tuple_getitem ?_ (args_tuple_getitem _ _)))
  show wpAny _ _ (Builtin.Tuple.tupleItemsOf (.ref t) >>= _) _ _ s
  refine wpAny_bind (tupleItemsOf_ ht ?_)
  refine wpAny_bind (wpAny_typeOf hTs ?_)
  rw [if_pos (by decide)]
  refine wpAny_bind (sliceApplied_rev hs ?_)
  show wpAny _ _ (if (((items.size : Int) - 1) == 0 && (-1 : Int) == 1 && items.size == items.size) = true then _ else _) _ _ s
  rw [if_neg (by simp), rev_pick]
  first
    | exact wpAny_bind (m := Builtin.Tuple.tupleExact _) (wpAny_newObj_type (wpAny_pure ⟨_, rfl, wpAny_pure h⟩) htake)
    | exact wpAny_bind (m := Builtin.Tuple.tupleExact _) (wpAny_newObj_type (wpAny_bind (wpAny_pure (wpAny_pure ⟨_, rfl, wpAny_pure h⟩))) htake)
    | exact wpAny_bind (wpAny_bind (m := Builtin.Tuple.tupleExact _) (wpAny_newObj_type (wpAny_pure (wpAny_pure ⟨_, rfl, wpAny_pure h⟩)) htake))
    | exact wpAny_bind (wpAny_bind (m := Builtin.Tuple.tupleExact _) (wpAny_newObj_type (wpAny_pure ⟨_, rfl, wpAny_pure h⟩) htake))
end
section
variable {X : Cx}
def tRevT (K : PySem.W.Frag) (te : TE) : TE := fun σ H Q => te σ H fun x H1 => ∃ a xs, x = .ref a ∧ SqT K H1 a xs ∧ ∀ p, H1 p = none → Q (.ref p) (upd H1 p (.tup xs.reverse))
theorem pe_revT {e : Expr} {te : TE} {k : Nat} {p1 p2 p3 pos : Pos} (he : PE X e te) : PE X (.Subscript e (.Slice none none (some (.UnaryOp .USub (.Constant (.int 1) k p1) p2)) p3) pos) (tRevT X.K te) := by
  refine ⟨fun pins s σ H Q I h => ?_⟩
  refine Subscript_ (thn (he.run pins s σ H _ I h) fun v s1 ⟨x, H1, I1, r1, q1⟩ => ?_)
  obtain ⟨a, xs, rfl, hx, q⟩ := q1
  cases r1
  have hst : PE X (.UnaryOp .USub (.Constant (.int 1) k p1) p2) (tUn (rU fun i => .int (-i)) (tC (.int 1))) := pe_un un_neg pe_int
  refine wpAny_Slice (thn (po_none.run pins s1 σ H1 (fun o H2 => o = none ∧ H2 = H1) I1 ⟨rfl, rfl⟩) fun vl s2 ⟨l, H2, I2, pl, el, e2⟩ => ?_)
  subst el e2
  refine thn (po_none.run pins s2 σ H2 (fun o H3 => o = none ∧ H3 = H2) I2 ⟨rfl, rfl⟩) fun vu s3 ⟨u, H3, I3, pu, eu, e3⟩ => ?_
  subst eu e3
  refine thn (hst.run pins s3 σ H3 (fun o H4 => o = .int (-1) ∧ H4 = H3) I3 ⟨1, rfl, rfl, rfl⟩) fun vs s4 ⟨o, H4, I4, ps, eo, e4⟩ => ?_
  subst eo e4
  obtain ⟨tk, rfl⟩ := ps
  cases pl
  cases pu
  have I5 : Inv X pins σ H4 { s4 with heap := s4.heap.push { cls := .type "slice", data := .fields #[.none, .none, .int (-1) tk] } } := I4.kept (t' := s4.toks) fun b ob q => Heap.get?_push_of_some _ q
  obtain ⟨its, r, ht, hz⟩ := I5.tuple hx
  have hlen := r.length
  show wpAny (model X.prog X.w) X.A (subscriptTail e (.Slice none none (some (.UnaryOp .USub (.Constant (.int 1) k p1) p2)) p3) (.ref a) (.ref s4.heap.objs.size)) (EP X pins σ Q) X.xe { s4 with heap := s4.heap.push { cls := .type "slice", data := .fields #[.none, .none, .int (-1) tk] } }
  refine tail_any (ops := [.ref a, .ref s4.heap.objs.size]) ht.typeIs (PyProof.Rows.slot_tuple_getitem.lookup) ?_ (by with_unfolding_all rfl)
  refine getItem_tuple_rev ht (Heap.IsSliceOf.new _ .none .none (.int (-1) tk)) ?_ (by rw [List.size_toArray]; omega)
  refine ⟨.ref _, _, I5.laid (t' := s4.toks) (o := .tup xs.reverse) (fun b ob q => Heap.get?_push_of_some _ q) (Nat.le_refl _) ?_, rfl, q _ (I5.hok.fresh (Nat.le_refl _))⟩
  exact ⟨by rw [List.length_reverse]; exact hz, _, r.reverse, IsTup.new _ _⟩
end
def dRevT (_ : GS) : D → Option D
  | .tup xs => some (.tup xs.reverse)
  | _ => none
section
variable {Φ : Fr} {X : Cx} {W : WX} {e : Expr} {fe : FE} {pos : Pos}
theorem e_revT (fit : Fits Φ X) {k : Nat} {p1 p2 p3 : Pos} (he : EE Φ X W e fe) : EE Φ X W (.Subscript e (.Slice none none (some (.UnaryOp .USub (.Constant (.int 1) k p1) p2)) p3) pos) (fUn dRevT fe) := by
  refine PE.imp (pe_revT he) fun σ H Q h => ?_
  obtain ⟨m, y, S, G, r, o⟩ := h
  refine ⟨m, y, S, G, r, Out.bind o fun x G1 H1 _ r1 e1 o1 v vd => ?_⟩
  obtain ⟨d, hd, o3⟩ := Out.opt_ o1
  cases x <;> simp only [dRevT, reduceCtorEq, Option.some.injEq] at hd
  subst hd
  obtain ⟨a, vs, rfl, t, ds⟩ := vd_tup vd
  exact ⟨a, vs, rfl, by rw [fit.K]; exact t.sq, fun p hp => o3 _ (r1.same (same_upd hp)) (Ext.of_same (same_upd hp)) _ (mk_tup r1.toRelH hp ds.reverse)⟩
/-! ### dicts -/
theorem e_dict0 : EE Φ X W (.Dict [] [] pos) (fC (.dct [] [])) := by
  refine PE.imp pe_dnewK fun σ H Q h => ?_
  obtain ⟨m, y, S, G, r, o⟩ := h
  intro p hp
  refine o _ (r.same (same_upd hp)) (Ext.of_same (same_upd hp)) _ ?_
  simp only [Fr.vd, VD]
  exact ⟨p, [], rfl, ⟨upd_same, nz_free r.toRelH hp⟩, rfl, .nil⟩
/-- {k: x}, x a name -/
def fDict1 (k : Int) (i : Nat) : FE := fun S G => match S[i]? with
  | some (.pl d) => .ok (.dct [.inl k] [d]) G
  | _ => .fail
theorem e_dict1 (i : Nat) {x : Str} {k : Int} {j : Nat} {p p2 : Pos} (hN : X.N[i]? = some x := by rfl) (hv : Vis X.env.scope x := by first | exact Or.inl rfl | exact Or.inr (Or.inl rfl) | exact Or.inr (Or.inr rfl)) (hd : (x == ("__debug__" : Str)) = false := by decide)
    (hcd : (x == ("__classdict__" : Str)) = false := by decide) : EE Φ X W (.Dict [some (.Constant (.int k) j p)] [.Name x p2] pos) (fDict1 k i) := by
  refine PE.imp (pe_disp (pps_cons pe_int (pe_var hN hv hd hcd) pps_nil) rfl rfl (by simp) (by simp)) fun σ H Q h => ?_
  obtain ⟨m, y, S, G, r, o⟩ := h
  unfold fDict1 at o
  split at o
  · rename_i d e
    obtain ⟨v, h1, h2⟩ := r.sl i d e
    intro q hq
    refine ⟨v, h1, upd_same, [(.inl k, v)], rfl, by simp, ?_⟩
    have e2 : upd (upd H q (.dK [])) q (.dK (mergeK [] [(.inl k, v)])) = upd H q (.dK [(.inl k, v)]) := by
      funext b
      by_cases hb : b = q
      · rw [hb, upd_same, upd_same] <;> rfl
      · rw [upd_ne hb, upd_ne hb, upd_ne hb]
    rw [e2]
    refine o _ (r.same (same_upd hq)) (Ext.of_same (same_upd hq)) _ ?_
    simp only [Fr.vd, VD]
    exact ⟨q, [v], rfl, ⟨upd_same, nz_free r.toRelH hq⟩, rfl, .cons (vd_same h2 (same_upd hq)) .nil⟩
  · exact o.elim
end
end Wd
/-! Wd, part O: several names at once, own lists among them. -/
namespace Wd
open PySem PySem.Spec PyProof.Rows L2

abbrev FAx := SS → GS → Res (List Sl)
def xNil : FAx := fun _ G => .ok [] G
def xPl (a : FE) (r : FAx) : FAx := fun S G => (a S G).bind fun d G => (r S G).bind fun xs G => .ok (.pl d :: xs) G
def xOw (a : FA) (r : FAx) : FAx := fun S G => (a S G).bind fun d G => (r S G).bind fun xs G => .ok (.ow d :: xs) G
/-- an item and its value -/
def HItem (Φ : Fr) (m : List Addr) (y : Addr → Prop) (S : SS) (σ : L2.St) (H0 H : Hp) : Sl → V → Prop
  | .pl d, v => Φ.vd m y H d v
  | .ow xs, v => ∃ a ws, v = .ref a ∧ H a = some (.lst ws) ∧ Φ.vds m y H xs ws ∧ y a ∧ a ∉ m ∧ Φ.H a = none ∧ H0 a = none ∧ ∀ (i : Nat) zs, S[i]? = some (.ow zs) → σ[i]? ≠ some (some (.ref a))
  | _, _ => False
def HItems (Φ : Fr) (m : List Addr) (y : Addr → Prop) (S : SS) (σ : L2.St) (H0 H : Hp) : List Sl → List V → Prop
  | [], vs => vs = []
  | s :: r, vs => ∃ v ws, vs = v :: ws ∧ HItem Φ m y S σ H0 H s v ∧ HItems Φ m y S σ H0 H r ws ∧ ∀ xs, s = .ow xs → ∀ (j : Nat) zs, r[j]? = some (.ow zs) → ws[j]? ≠ some v
def OutX (Φ : Fr) (W : WX) (m : List Addr) (y : Addr → Prop) (S : SS) (σ : L2.St) (H : Hp) (r : Res (List Sl)) (Q : List V → Hp → Prop) : Prop :=
  match r with
  | .ok items G' => ∀ y' vs H', Rel Φ m y' S G' σ H' → Ext (fun a => a ∈ m) H H' → (∀ b, y b → y' b) → (∀ b, y' b → y b ∨ H b = none) → HItems Φ m y' S σ H H' items vs → Q vs H'
  | .exc c p G' => ∀ y' cls d H', Exn Φ m y' H' c p cls d → Rel Φ m y' S G' σ H' → Ext (fun a => a ∈ m) H H' → (∀ b, y b → y' b) → (∀ b, y' b → y b ∨ H b = none) → W cls d σ H'
  | .fail => False
def rdX (Φ : Fr) (W : WX) (f : FAx) : TA := fun σ H Q => ∃ m y S G, Rel Φ m y S G σ H ∧ OutX Φ W m y S σ H (f S G) Q
section
variable {Φ : Fr} {m : List Addr} {y y' : Addr → Prop} {S : SS} {G : GS} {σ : L2.St} {H H' : Hp} {W : WX} {En : Ends}
theorem HItem.new {H0 H1 : Hp} {s : Sl} {v : V} (h : HItem Φ m y S σ H1 H s v) (k : ∀ a, H1 a = none → H0 a = none) : HItem Φ m y S σ H0 H s v := by
  cases s with
  | pl d => exact h
  | ow xs =>
    obtain ⟨a, ws, e, k1, k2, k3, k4, k5, k6, k7⟩ := h
    exact ⟨a, ws, e, k1, k2, k3, k4, k5, k a k6, k7⟩
  | un => exact h.elim
  | raw => exact h.elim
theorem HItems.new {H0 H1 : Hp} (k : ∀ a, H1 a = none → H0 a = none) : ∀ {ss : List Sl} {vs : List V}, HItems Φ m y S σ H1 H ss vs → HItems Φ m y S σ H0 H ss vs
  | [], _, h => h
  | s :: r, _, h => by
    obtain ⟨v, ws, e, h1, h2, h3⟩ := h
    exact ⟨v, ws, e, h1.new k, HItems.new k h2, h3⟩
theorem HItems.at {H0 : Hp} : ∀ {ss : List Sl} {vs : List V} (j : Nat) {zs : List D}, HItems Φ m y S σ H0 H ss vs → ss[j]? = some (.ow zs) → ∃ a, vs[j]? = some (.ref a) ∧ H0 a = none
  | [], _, _, _, _, e => by simp at e
  | s :: r, _, 0, zs, h, e => by
    obtain ⟨v, ws, rfl, h1, h2, h3⟩ := h
    simp at e
    subst e
    obtain ⟨a, us, rfl, k1, k2, k3, k4, k5, k6, k7⟩ := h1
    exact ⟨a, rfl, k6⟩
  | s :: r, _, j + 1, zs, h, e => by
    obtain ⟨v, ws, rfl, h1, h2, h3⟩ := h
    obtain ⟨a, k1, k2⟩ := HItems.at j h2 (by simpa using e)
    exact ⟨a, by simpa using k1, k2⟩
theorem HItem.up0 {H0 : Hp} {s : Sl} {v : V} (h : HItem Φ m y S σ H0 H s v) (e : Ext (fun a => a ∈ m) H H') (my : ∀ a ∈ m, y a) : HItem Φ m y S σ H0 H' s v := by
  cases s with
  | pl d => exact vd_ext h e my
  | ow xs =>
    obtain ⟨a, ws, rfl, k1, k2, k3, k4, k5, k6, k7⟩ := h
    exact ⟨a, ws, rfl, (e a _ k1).2 k4 (fun ps z => by cases z), vds_ext k2 e my, k3, k4, k5, k6, k7⟩
  | un => exact h.elim
  | raw => exact h.elim
theorem OutX.mono {r : Res (List Sl)} {Q : List V → Hp → Prop} (h : OutX Φ W m y S σ H r Q) (e : Ext (fun a => a ∈ m) H H') (h1 : ∀ b, y b → y' b) (h2 : ∀ b, y' b → y b ∨ H b = none) : OutX Φ W m y' S σ H' r Q := by
  have fr : ∀ b, H' b = none → H b = none := fun b n => free_ext e n
  cases r with
  | ok items G' => exact fun y2 vs H2 r2 e2 k1 k2 it => h y2 vs H2 r2 (e.trans e2) (fun b q => k1 b (h1 b q)) (fun b q => (k2 b q).elim (h2 b) fun z => .inr (fr b z)) (it.new fr)
  | exc c p G' => exact fun y2 cls d H2 x r2 e2 k1 k2 => h y2 cls d H2 x r2 (e.trans e2) (fun b q => k1 b (h1 b q)) (fun b q => (k2 b q).elim (h2 b) fun z => .inr (fr b z))
  | fail => exact h
theorem OutX.bind {α : Type} {r : Res α} {k : α → GS → Res (List Sl)} {Q : List V → Hp → Prop} (h : OutX Φ W m y S σ H (r.bind k) Q) {P' : α → Hp → Prop}
    (hk : ∀ a G' H', r = .ok a G' → Rel Φ m y S G' σ H' → Ext (fun a => a ∈ m) H H' → OutX Φ W m y S σ H' (k a G') Q → P' a H') : Out Φ W m y S σ H r P' := by
  cases r with
  | ok a G => exact fun H2 r2 e2 => hk a G H2 rfl r2 e2 (OutX.mono h e2 (fun _ h => h) fun _ h => .inl h)
  | exc c p G => exact fun cls d H2 x r2 e2 => h y cls d H2 x r2 e2 (fun _ h => h) fun _ h => .inl h
  | fail => exact h
theorem OutX.bindO {r : Res (List D)} {k : List D → GS → Res (List Sl)} {Q : List V → Hp → Prop} (h : OutX Φ W m y S σ H (r.bind k) Q) {Q' : VK}
    (hk : ∀ ds G' a vs H', r = .ok ds G' → H a = none → H' a = some (.lst vs) → Rel Φ m (yp y a) S G' σ H' → Ext (fun a => a ∈ m) H H' → Φ.vds m (yp y a) H' ds vs → OutX Φ W m y S σ H (k ds G') Q → Q' (.ref a) H') : OutO Φ W m y S σ H r Q' := by
  cases r with
  | ok ds G => exact fun a vs H2 n t r2 e2 vd => hk ds G a vs H2 rfl n t r2 e2 vd h
  | exc c p G => exact fun cls d H2 x r2 e2 => h y cls d H2 x r2 e2 (fun _ h => h) fun _ h => .inl h
  | fail => exact h
variable {X : Cx} {e : Expr} {es : List Expr} {fe : FE} {fa : FA} {fx : FAx}
theorem x_nil : PA X [] (rdX Φ W xNil) := PA.imp pa_nil fun σ H Q h => by
  obtain ⟨m, y, S, G, r, o⟩ := h
  exact o y [] H r (Ext.refl _ _) (fun _ h => h) (fun _ h => .inl h) rfl
theorem x_pl (h : EE Φ X W e fe) (t : PA X es (rdX Φ W fx)) (hs : starEach (e :: es) X.env = (false, eval e X.env) :: starEach es X.env := by rfl) : PA X (e :: es) (rdX Φ W (xPl fe fx)) := PA.imp (pa_cons h t hs) fun σ H Q h => by
  obtain ⟨m, y, S, G, r, o⟩ := h
  refine ⟨m, y, S, G, r, OutX.bind o fun d G1 H1 _ r1 e1 o1 v vd => ⟨m, y, S, G1, r1, ?_⟩⟩
  cases hx : fx S G1 with
  | ok items G2 =>
    rw [hx] at o1
    intro y' vs H' r2 e2 k1 k2 it
    refine o1 y' (v :: vs) H' r2 e2 k1 k2 ⟨v, vs, rfl, ?_, it, fun xs q => by cases q⟩
    exact VD.step ⟨k2, e2.mono r1.my⟩ (fun _ _ h => h) d vd
  | exc c p G2 =>
    rw [hx] at o1
    exact fun y' cls d H' x r2 e2 k1 k2 => o1 y' cls d H' x r2 e2 k1 k2
  | fail => rw [hx] at o1; exact o1
theorem x_ow (h : EO Φ X W e fa) (t : PA X es (rdX Φ W fx)) (hs : starEach (e :: es) X.env = (false, eval e X.env) :: starEach es X.env := by rfl) : PA X (e :: es) (rdX Φ W (xOw fa fx)) := PA.imp (pa_cons h t hs) fun σ H Q h => by
  obtain ⟨m, y, S, G, r, o⟩ := h
  refine ⟨m, y, S, G, r, OutX.bindO o fun d G1 a ws H1 _ n t r1 e1 vd o1 => ⟨m, yp y a, S, G1, r1, ?_⟩⟩
  have am : a ∉ m := fun q => by
    obtain ⟨u, hu⟩ := r.yd a (r.my a q)
    rw [n] at hu
    cases hu
  have aS : ∀ (i : Nat) zs, S[i]? = some (.ow zs) → σ[i]? ≠ some (some (.ref a)) := fun i zs q z => by
    obtain ⟨b, us, k1, k2, _⟩ := r.ow i zs q
    rw [z] at k1
    cases k1
    rw [n] at k2
    cases k2
  cases hx : fx S G1 with
  | ok items G2 =>
    rw [hx] at o1
    intro y' vs H' r2 e2 k1 k2 it
    have it0 : HItem Φ m y' S σ H H' (.ow d) (.ref a) := ⟨a, ws, rfl, (e2 a _ t).2 am (fun ps z => by cases z), VDs.step ⟨k2, e2.mono r1.my⟩ (fun _ _ h => h) d vd, k1 a (.inr rfl), am, r.fH n, n, aS⟩
    refine o1 y' (.ref a :: vs) H' r2 (e1.trans e2) (fun b q => k1 b (.inl q)) (fun b q => (k2 b q).elim (fun z => z.imp id fun z => by rw [z]; exact n) fun z => .inr (free_ext e1 z)) ⟨.ref a, vs, rfl, it0, it.new fun b q => free_ext e1 q, fun xs q j zs hz hv => ?_⟩
    obtain ⟨b, q1, q2⟩ := it.at j hz
    rw [hv] at q1
    cases q1
    rw [t] at q2
    cases q2
  | exc c p G2 =>
    rw [hx] at o1
    exact fun y' cls d H' x r2 e2 k1 k2 => o1 y' cls d H' x r2 (e1.trans e2) (fun b q => k1 b (.inl q)) (fun b q => (k2 b q).elim (fun z => z.imp id fun z => by rw [z]; exact n) fun z => .inr (free_ext e1 z))
  | fail => rw [hx] at o1; exact o1
end
section
variable {Φ : Fr} {m : List Addr} {y : Addr → Prop} {S S0 : SS} {G : GS} {σ σ0 : L2.St} {H H0 : Hp} {W : WX}
theorem Rel.setX {i : Nat} {s : Sl} {v : V} (r : Rel Φ m y S G σ H) (it : HItem Φ m y S0 σ0 H0 H s v) (no : ∀ xs, s = .ow xs → ∀ (j : Nat) zs, j ≠ i → S[j]? = some (.ow zs) → σ[j]? ≠ some (some v)) : Rel Φ m y (S.set i s) G (σ.set i (some v)) H := by
  cases s with
  | pl d => exact r.set it
  | un => exact it.elim
  | raw => exact it.elim
  | ow xs =>
    obtain ⟨a, ws, rfl, k1, k2, k3, k4, k5, k6, k7⟩ := it
    have no := no xs rfl
    refine { toRelH := r.toRelH, ln := by rw [List.length_set, List.length_set]; exact r.ln, sl := fun j d e => ?_, ow := fun j zs e => ?_, oi := fun j k us zs b h1 h2 h3 h4 => ?_, raw := fun j e => ?_ }
    · by_cases hj : j = i
      · subst hj
        by_cases hl : j < S.length
        · rw [List.getElem?_set_self hl] at e
          cases e
        · rw [List.getElem?_eq_none (by rw [List.length_set]; omega)] at e
          cases e
      · rw [List.getElem?_set_ne (Ne.symm hj)] at e ⊢
        exact r.sl j d e
    · by_cases hj : j = i
      · subst hj
        by_cases hl : j < S.length
        · rw [List.getElem?_set_self hl] at e
          cases e
          exact ⟨a, ws, List.getElem?_set_self (by rw [← r.ln]; exact hl), k1, k2, k3, k4, k5⟩
        · rw [List.getElem?_eq_none (by rw [List.length_set]; omega)] at e
          cases e
      · rw [List.getElem?_set_ne (Ne.symm hj)] at e ⊢
        exact r.ow j zs e
    · have new : ∀ {us : List D}, (S.set i (.ow xs))[i]? = some (.ow us) → (σ.set i (some (.ref a)))[i]? = some (some (.ref b)) → b = a := fun {us} e1 e2 => by
        by_cases hl : i < S.length
        · rw [List.getElem?_set_self (by rw [← r.ln]; exact hl)] at e2
          cases e2
          rfl
        · rw [List.getElem?_eq_none (by rw [List.length_set]; omega)] at e1
          cases e1
      by_cases hj : j = i
      · by_cases hk : k = i
        · rw [hj, hk]
        · subst hj
          have := new h1 h3
          subst this
          rw [List.getElem?_set_ne (Ne.symm hk)] at h2 h4
          exact absurd h4 (no k zs hk h2)
      · by_cases hk : k = i
        · subst hk
          have := new h2 h4
          subst this
          rw [List.getElem?_set_ne (Ne.symm hj)] at h1 h3
          exact absurd h3 (no j us hj h1)
        · rw [List.getElem?_set_ne (Ne.symm hj)] at h1 h3
          rw [List.getElem?_set_ne (Ne.symm hk)] at h2 h4
          exact r.oi j k us zs b h1 h2 h3 h4
    · by_cases hj : j = i
      · subst hj
        by_cases hl : j < S.length
        · rw [List.getElem?_set_self hl] at e
          cases e
        · rw [List.getElem?_eq_none (by rw [List.length_set]; omega)] at e
          cases e
      · rw [List.getElem?_set_ne (Ne.symm hj)] at e ⊢
        exact r.raw j e
theorem HItem.aS {s : Sl} {v : V} (h : HItem Φ m y S σ H0 H s v) : ∀ xs, s = .ow xs → ∀ (j : Nat) zs, S[j]? = some (.ow zs) → σ[j]? ≠ some (some v) := fun xs e j zs q => by
  subst e
  obtain ⟨a, ws, rfl, k1, k2, k3, k4, k5, k6, k7⟩ := h
  exact k7 j zs q
theorem no_set {i : Nat} {s : Sl} {v u : V} (l : S.length = σ.length) (h : ∀ (j : Nat) zs, S[j]? = some (.ow zs) → σ[j]? ≠ some (some u)) (d : ∀ xs, s = .ow xs → v ≠ u) : ∀ (j : Nat) zs, (S.set i s)[j]? = some (.ow zs) → (σ.set i (some v))[j]? ≠ some (some u) := fun j zs e z => by
  by_cases hj : j = i
  · subst hj
    by_cases hl : j < S.length
    · rw [List.getElem?_set_self hl] at e
      rw [List.getElem?_set_self (by rw [← l]; exact hl)] at z
      cases z
      exact d zs (Option.some.inj e) rfl
    · rw [List.getElem?_eq_none (by rw [List.length_set]; omega)] at e
      cases e
  · rw [List.getElem?_set_ne (Ne.symm hj)] at e z
    exact h j zs e z
end
def sPar2 (i j : Nat) (x : FAx) : FS := fun S G => (x S G).thn S fun xs G => match xs with
  | [s, t] => .nx ((S.set i s).set j t) G
  | _ => .fail
def sPar3 (i j l : Nat) (x : FAx) : FS := fun S G => (x S G).thn S fun xs G => match xs with
  | [s, t, u] => .nx (((S.set i s).set j t).set l u) G
  | _ => .fail
section
variable {Φ : Fr} {X : Cx} {W : WX} {m : List Addr} {y : Addr → Prop} {S : SS} {G : GS} {σ : L2.St} {H : Hp}
theorem OutS.thnX {r : Res (List Sl)} {k : List Sl → GS → RS} {En : Ends} (rl : Rel Φ m y S G σ H) (h : OutS Φ W m y H (r.thn S k) En) {Q : List V → Hp → Prop}
    (hk : ∀ items G' y' vs H', Rel Φ m y' S G' σ H' → HItems Φ m y' S σ H H' items vs → OutS Φ W m y' H' (k items G') En → Q vs H') : OutX Φ W m y S σ H r Q := by
  cases r with
  | ok items G' => exact fun y' vs H' r2 e2 k1 k2 it => hk items G' y' vs H' r2 it (OutS.mono h ⟨⟨k2, e2.mono rl.my⟩, fun _ _ h => h⟩)
  | exc c p G' => exact fun y' cls d H' x r2 e2 k1 k2 => h m y' σ cls d H' x r2 ⟨⟨k2, e2.mono rl.my⟩, fun _ _ h => h⟩
  | fail => exact h
variable {a b c : Expr} {fx : FAx} {px pz pw pt pos : Pos} {kt k2 : Nat} {pt2 : Pos}
theorem s_par2 (i j : Nat) {x z : Str} (ha : PA X [a, b] (rdX Φ W fx)) (hc : X.calm = true) (hN : X.N.Nodup) (hi : X.N[i]? = some x := by rfl) (hj : X.N[j]? = some z := by rfl) (hij : i ≠ j := by decide)
    (hx : X.env.scope.names.lookup x = some .local := by rfl) (hy : X.env.scope.names.lookup z = some .local := by rfl)
    (hw : swappedStores [.Tuple [.Name x px, .Name z pz] kt pt] (.Tuple [a, b] k2 pt2) X.env = pure (some [x, z]) := by rfl)
    (hs : swapsWithSole [.Tuple [.Name x px, .Name z pz] kt pt] (.Tuple [a, b] k2 pt2) pos.line X.env = pure false := by rfl) :
    ES Φ X W (.Assign [.Tuple [.Name x px, .Name z pz] kt pt] (.Tuple [a, b] k2 pt2) pos) (sPar2 i j fx) := PS.imp (ps_par hc hN hi hj hij hx hy ha hw hs) fun D σ H h => by
  obtain ⟨m, y, S, G, r, o⟩ := h
  refine ⟨m, y, S, G, r, OutS.thnX r o fun items G1 y' vs H1 r1 it o1 => ?_⟩
  rcases items with _ | ⟨s, _ | ⟨t, _ | _⟩⟩ <;> first | exact o1.elim | skip
  obtain ⟨v, ws, rfl, h1, h2, h3⟩ := it
  obtain ⟨w, ws', rfl, h4, h5, h6⟩ := h2
  obtain rfl : ws' = [] := h5
  refine ⟨v, w, rfl, o1 m y' _ H1 ((r1.setX h1 fun xs e j zs _ q => h1.aS xs e j zs q).setX h4 fun xs e j zs _ q => no_set r1.ln (h4.aS xs e) (fun us e2 z => ?_) j zs q) (Stp.refl _ _ _)⟩
  exact h3 us e2 0 xs (by rw [e]; rfl) (by rw [z]; rfl)
theorem s_par3 (i j l : Nat) {x z w : Str} (ha : PA X [a, b, c] (rdX Φ W fx)) (hc : X.calm = true) (hN : X.N.Nodup) (hi : X.N[i]? = some x := by rfl) (hj : X.N[j]? = some z := by rfl) (hl : X.N[l]? = some w := by rfl) (hij : i ≠ j := by decide) (hil : i ≠ l := by decide) (hjl : j ≠ l := by decide)
    (hx : X.env.scope.names.lookup x = some .local := by rfl) (hy : X.env.scope.names.lookup z = some .local := by rfl) (hz : X.env.scope.names.lookup w = some .local := by rfl)
    (hw : swappedStores [.Tuple [.Name x px, .Name z pz, .Name w pw] kt pt] (.Tuple [a, b, c] k2 pt2) X.env = pure (some [x, z, w]) := by rfl)
    (hs : swapsWithSole [.Tuple [.Name x px, .Name z pz, .Name w pw] kt pt] (.Tuple [a, b, c] k2 pt2) pos.line X.env = pure false := by rfl) :
    ES Φ X W (.Assign [.Tuple [.Name x px, .Name z pz, .Name w pw] kt pt] (.Tuple [a, b, c] k2 pt2) pos) (sPar3 i j l fx) := PS.imp (ps_par3 hc hN hi hj hl hij hil hjl hx hy hz ha hw hs) fun D σ H h => by
  obtain ⟨m, y, S, G, r, o⟩ := h
  refine ⟨m, y, S, G, r, OutS.thnX r o fun items G1 y' vs H1 r1 it o1 => ?_⟩
  rcases items with _ | ⟨s, _ | ⟨t, _ | ⟨u, _ | _⟩⟩⟩ <;> first | exact o1.elim | skip
  obtain ⟨v1, ws, rfl, h1, h2, h3⟩ := it
  obtain ⟨v2, ws', rfl, h4, h5, h6⟩ := h2
  obtain ⟨v3, ws2, rfl, h7, h8, h9⟩ := h5
  obtain rfl : ws2 = [] := h8
  have r2 := r1.setX (i := i) h1 fun xs e j zs _ q => h1.aS xs e j zs q
  have r3 := r2.setX (i := j) h4 fun xs e j zs _ q => no_set r1.ln (h4.aS xs e) (fun us e2 z => h3 us e2 0 xs (by rw [e]; rfl) (by rw [z]; rfl)) j zs q
  refine ⟨v1, v2, v3, rfl, o1 m y' _ H1 (r3.setX h7 fun xs e k zs _ q => no_set r2.ln (no_set r1.ln (h7.aS xs e) fun us e2 z => ?_) (fun us e2 z => ?_) k zs q) (Stp.refl _ _ _)⟩
  · exact h3 us e2 1 xs (by rw [e]; rfl) (by rw [z]; rfl)
  · exact h6 us e2 0 xs (by rw [e]; rfl) (by rw [z]; rfl)
end
section
variable {Φ : Fr} {X : Cx} {W : WX} {m : List Addr} {y y' : Addr → Prop} {S : SS} {G : GS} {σ : L2.St} {H H0 H' : Hp} {a b c : Expr} {fx : FAx} {px pz pw pt pos : Pos} {kt k2 : Nat} {pt2 : Pos}
theorem HItems.up (e : Ext (fun a => a ∈ m) H H') (my : ∀ a ∈ m, y a) : ∀ {ss : List Sl} {vs : List V}, HItems Φ m y S σ H0 H ss vs → HItems Φ m y S σ H0 H' ss vs
  | [], _, h => h
  | s :: r, _, h => by
    obtain ⟨v, ws, q, h1, h2, h3⟩ := h
    exact ⟨v, ws, q, h1.up0 e my, HItems.up e my h2, h3⟩
/-- .. where a tuple is made and taken apart -/
theorem s_parT2 (i j : Nat) {x z : Str} (fit : Fits Φ X) (ha : PA X [a, b] (rdX Φ W fx)) (hc : X.calm = true) (hN : X.N.Nodup) (hi : X.N[i]? = some x := by rfl) (hj : X.N[j]? = some z := by rfl)
    (hx : Loc X.env.scope x := by first | exact .inl rfl | exact .inr rfl) (hz : Loc X.env.scope z := by first | exact .inl rfl | exact .inr rfl) (hf : X.fn x = true := by rfl) (hf2 : X.fn z = true := by rfl)
    (hs : swapsWithSole [.Tuple [.Name x px, .Name z pz] kt pt] (.Tuple [a, b] k2 pt2) pos.line X.env = pure false := by rfl) (hw : swappedStores [.Tuple [.Name x px, .Name z pz] kt pt] (.Tuple [a, b] k2 pt2) X.env = pure none := by rfl)
    (h1 : (assignEach [.Tuple [.Name x px, .Name z pz] kt pt] X.env).map (·.2) = [assign (.Tuple [.Name x px, .Name z pz] kt pt) X.env] := by rfl)
    (hn : (assignEach [.Name x px, .Name z pz] X.env).length = 2 := by rfl) (hst : (assignEach [.Name x px, .Name z pz] X.env).findIdx? (·.1) = none := by rfl)
    (g1 : (assignEach [.Name x px, .Name z pz] X.env).map (·.2) = assign (.Name x px) X.env :: (assignEach [.Name z pz] X.env).map (·.2) := by rfl) (g2 : (assignEach [.Name z pz] X.env).map (·.2) = assign (.Name z pz) X.env :: (assignEach [] X.env).map (·.2) := by rfl) :
    ES Φ X W (.Assign [.Tuple [.Name x px, .Name z pz] kt pt] (.Tuple [a, b] k2 pt2) pos) (sPar2 i j fx) :=
  PS.imp (ps_asg (pe_tup ha) (pg_tup hc (pgs_cons (pg_name hN hi hx (.inl hf)) (pgs_cons (pg_name hN hj hz (.inl hf2)) pgs_nil g2) g1) hn hst) hs hw h1) fun D σ H h => by
  obtain ⟨m, y, S, G, r, o⟩ := h
  refine ⟨m, y, S, G, r, OutS.thnX r o fun items G1 y' vs H1 r1 it o1 => ?_⟩
  rcases items with _ | ⟨s, _ | ⟨t, _ | _⟩⟩ <;> first | exact o1.elim | skip
  have it0 := it
  obtain ⟨v, ws, rfl, _, h2, h3⟩ := it
  obtain ⟨w, ws', rfl, _, h5, _⟩ := h2
  obtain rfl : ws' = [] := h5
  refine ⟨by show 2 ≤ sizeLine; rw [sizeLine_eq]; omega, fun p hp => ⟨p, [v, w], rfl, .inl (.inl upd_same), rfl, v, [w], rfl, w, [], rfl, rfl, ?_⟩⟩
  have r2 := r1.same (same_upd (o := .tup [v, w]) hp)
  have it1 := it0.up (Ext.of_same (same_upd (o := .tup [v, w]) hp)) r1.my
  obtain ⟨_, _, e1, k1, it2, _⟩ := it1
  cases e1
  obtain ⟨_, _, e2, k2, _, _⟩ := it2
  cases e2
  exact o1 m y' _ _ ((r2.setX k1 fun xs e j zs _ q => k1.aS xs e j zs q).setX k2 fun xs e j zs _ q => no_set r2.ln (k2.aS xs e) (fun us e2 z => h3 us e2 0 xs (by rw [e]; rfl) (by rw [z]; rfl)) j zs q) (Stp.of_ext (Ext.of_same (same_upd hp)) r1.my)
theorem s_parT3 (i j l : Nat) {x z w : Str} (fit : Fits Φ X) (ha : PA X [a, b, c] (rdX Φ W fx)) (hc : X.calm = true) (hN : X.N.Nodup) (hi : X.N[i]? = some x := by rfl) (hj : X.N[j]? = some z := by rfl) (hl : X.N[l]? = some w := by rfl)
    (hx : Loc X.env.scope x := by first | exact .inl rfl | exact .inr rfl) (hz : Loc X.env.scope z := by first | exact .inl rfl | exact .inr rfl) (hw' : Loc X.env.scope w := by first | exact .inl rfl | exact .inr rfl) (hf : X.fn x = true := by rfl) (hf2 : X.fn z = true := by rfl) (hf3 : X.fn w = true := by rfl)
    (hs : swapsWithSole [.Tuple [.Name x px, .Name z pz, .Name w pw] kt pt] (.Tuple [a, b, c] k2 pt2) pos.line X.env = pure false := by rfl) (hw : swappedStores [.Tuple [.Name x px, .Name z pz, .Name w pw] kt pt] (.Tuple [a, b, c] k2 pt2) X.env = pure none := by rfl)
    (h1 : (assignEach [.Tuple [.Name x px, .Name z pz, .Name w pw] kt pt] X.env).map (·.2) = [assign (.Tuple [.Name x px, .Name z pz, .Name w pw] kt pt) X.env] := by rfl)
    (hn : (assignEach [.Name x px, .Name z pz, .Name w pw] X.env).length = 3 := by rfl) (hst : (assignEach [.Name x px, .Name z pz, .Name w pw] X.env).findIdx? (·.1) = none := by rfl)
    (g1 : (assignEach [.Name x px, .Name z pz, .Name w pw] X.env).map (·.2) = assign (.Name x px) X.env :: (assignEach [.Name z pz, .Name w pw] X.env).map (·.2) := by rfl) (g2 : (assignEach [.Name z pz, .Name w pw] X.env).map (·.2) = assign (.Name z pz) X.env :: (assignEach [.Name w pw] X.env).map (·.2) := by rfl)
    (g3 : (assignEach [.Name w pw] X.env).map (·.2) = assign (.Name w pw) X.env :: (assignEach [] X.env).map (·.2) := by rfl) :
    ES Φ X W (.Assign [.Tuple [.Name x px, .Name z pz, .Name w pw] kt pt] (.Tuple [a, b, c] k2 pt2) pos) (sPar3 i j l fx) :=
  PS.imp (ps_asg (pe_tup ha) (pg_tup hc (pgs_cons (pg_name hN hi hx (.inl hf)) (pgs_cons (pg_name hN hj hz (.inl hf2)) (pgs_cons (pg_name hN hl hw' (.inl hf3)) pgs_nil g3) g2) g1) hn hst) hs hw h1) fun D σ H h => by
  obtain ⟨m, y, S, G, r, o⟩ := h
  refine ⟨m, y, S, G, r, OutS.thnX r o fun items G1 y' vs H1 r1 it o1 => ?_⟩
  rcases items with _ | ⟨s, _ | ⟨t, _ | ⟨u, _ | _⟩⟩⟩ <;> first | exact o1.elim | skip
  have it0 := it
  obtain ⟨v1, ws, rfl, _, h2, h3⟩ := it
  obtain ⟨v2, ws', rfl, _, h5, h6⟩ := h2
  obtain ⟨v3, ws2, rfl, _, h8, _⟩ := h5
  obtain rfl : ws2 = [] := h8
  refine ⟨by show 3 ≤ sizeLine; rw [sizeLine_eq]; omega, fun p hp => ⟨p, [v1, v2, v3], rfl, .inl (.inl upd_same), rfl, v1, [v2, v3], rfl, v2, [v3], rfl, v3, [], rfl, rfl, ?_⟩⟩
  have r0 := r1.same (same_upd (o := .tup [v1, v2, v3]) hp)
  have it1 := it0.up (Ext.of_same (same_upd (o := .tup [v1, v2, v3]) hp)) r1.my
  obtain ⟨_, _, e1, k1, it2, _⟩ := it1
  cases e1
  obtain ⟨_, _, e2, k2, it3, _⟩ := it2
  cases e2
  obtain ⟨_, _, e3, k3, _, _⟩ := it3
  cases e3
  have r2 := r0.setX (i := i) k1 fun xs e j zs _ q => k1.aS xs e j zs q
  have r3 := r2.setX (i := j) k2 fun xs e j zs _ q => no_set r0.ln (k2.aS xs e) (fun us e2 z => h3 us e2 0 xs (by rw [e]; rfl) (by rw [z]; rfl)) j zs q
  refine o1 m y' _ _ (r3.setX k3 fun xs e k zs _ q => no_set r2.ln (no_set r0.ln (k3.aS xs e) fun us e2 z => ?_) (fun us e2 z => ?_) k zs q) (Stp.of_ext (Ext.of_same (same_upd hp)) r1.my)
  · exact h3 us e2 1 xs (by rw [e]; rfl) (by rw [z]; rfl)
  · exact h6 us e2 0 xs (by rw [e]; rfl) (by rw [z]; rfl)
end
def dAddO : GS → D → D → Option (List D)
  | _, .lst xs, .lst ys => gd (xs.length + ys.length ≤ SL) (xs ++ ys)
  | _, _, _ => none
def dMulO : GS → D → D → Option (List D)
  | _, .lst xs, .int k => gd (-(2 ^ 63) ≤ k ∧ k < 2 ^ 63 ∧ xs.length * k.toNat ≤ SL) (List.replicate k.toNat xs).flatten
  | _, _, _ => none
section
variable {Φ : Fr} {X : Cx}
theorem p_addO (fit : Fits Φ X) : OpR X (binaryOp .Add) (rd2O Φ dAddO) := by
  intro pins s σ H x y v u Q I rx ry hq
  obtain ⟨m, z, G, a, b, d, r, va, vb, e, q⟩ := hq
  unfold dAddO at e
  split at e
  · obtain ⟨hl, rfl⟩ := gd_some e
    obtain ⟨p, vs, rfl, tp, dp⟩ := vd_lst va
    obtain ⟨p', ws, rfl, tp', dp'⟩ := vd_lst vb
    refine op_cat pins s σ H _ _ v u Q I rx ry ⟨p, p', vs, ws, rfl, rfl, tp.1, tp'.1, ?_, fun l hl' => ?_⟩
    · rw [← dp.length, ← dp'.length, sizeLine_eq]
      exact hl
    · exact q _ _ _ (same_upd hl') hl' upd_same (dp.append dp')
  · cases e
theorem p_mulO (fit : Fits Φ X) : OpR X (binaryOp .Mult) (rd2O Φ dMulO) := by
  intro pins s σ H x y v u Q I rx ry hq
  obtain ⟨m, z, G, a, b, d, r, va, vb, e, q⟩ := hq
  unfold dMulO at e
  split at e
  · obtain ⟨⟨h1, h2, hl⟩, rfl⟩ := gd_some e
    obtain ⟨p, vs, rfl, tp, dp⟩ := vd_lst va
    cases vd_int vb
    refine op_rep pins s σ H _ _ v u Q I rx ry ⟨p, _, vs, rfl, rfl, tp.1, h1, h2, ?_, fun l hl' => ?_⟩
    · rw [← dp.length, sizeLine_eq]
      exact hl
    · exact q _ _ _ (same_upd hl') hl' upd_same (vds_rep dp _)
  · cases e
end
end Wd
/-! Wd, part M: what the printed proofs lean on. -/
namespace Wd
open PySem PySem.Spec PyProof.Rows L2 LamX

abbrev lamQ (x : Str) : Str := x ++ ".<locals>." ++ "<lambda>"
section
variable {P : Program} {w : World} {K : PySem.W.Frag} {mg : Str → Option Value} {base : Heap} {N ps Ng : List Str} {qual x a : Str} {scope sg : Scope} {f g : Addr} {cdv : Value} {A : Around} {outer : List Env} {s : Shared} {H : Hp} {E : XK} {T : List (Addr × Str)} {k : Nat}
  {params pg : Arguments} {body bg : List Stmt} {fd : FuncData} {bf : FS}
theorem tkB : Takes (cxOf (L2.CX P w) P w K mg base N qual scope f cdv A outer s H E) (wE E) := takes_of rfl rfl rfl rfl
theorem tkL {X : Cx} {c' : Addr} : Takes (lamCx X A outer s H E scope f c') (wE E) := takes_of rfl rfl rfl rfl
theorem tkN {X : Cx} : Takes X W0 := LamX.takes0
theorem e_fnC {Φ : Fr} {X : Cx} {W : WX} {x : String} {F : FD} {pos : Pos} (fit : Fits Φ X) (c : Cal X.prog X.w X.K X.mg X.base Φ.T k (Str.ofString x) F) (hg : Gl X (Str.ofString x) := by rfl) (hd : (Str.ofString x == ("__debug__" : Str)) = false := by decide) :
    EE Φ X W (.Name (Str.ofString x) pos) (fC (.fn x)) := by
  obtain ⟨f, fd, ps, h1, h2, h3, h4⟩ := c.ex
  exact e_fn fit (v := .ref f) h2 rfl hg hd
theorem fs_nil : ∀ (x : String) (F : FD), ([] : List (String × FD)).lookup x = some F → Cal P w K mg base T k (Str.ofString x) F := fun _ _ h => by cases h
theorem fs_cons {y : String} {Fy : FD} {l : List (String × FD)} (c : Cal P w K mg base T k (Str.ofString y) Fy) (r : ∀ (x : String) (F : FD), l.lookup x = some F → Cal P w K mg base T k (Str.ofString x) F) :
    ∀ (x : String) (F : FD), ((y, Fy) :: l).lookup x = some F → Cal P w K mg base T k (Str.ofString x) F := fun x F h => by
  rw [List.lookup_cons] at h
  split at h
  · rename_i e
    cases h
    rw [beq_iff_eq.mp e]
    exact c
  · exact r x F h
/-- where a def stands -/
structure Df (K : PySem.W.Frag) (mg : Str → Option Value) (x : Str) (st : Stmt) : Prop where
  ex : ∃ fd, FunD K x x (defArgs st) (defBody st) (defScope st) [] [] (He.fAd K (x, none)) fd ∧ mg x = some (.ref (He.fAd K (x, none)))
/-- a def with lambdas: its code object is known -/
theorem d_okL {p : Str × Option Str} (Fu : FunD K x qual params body scope [] [] (He.fAd K p) fd) (Sc : FnScope N ps scope) (np nN : Nat) (hp : ps.length = np) (hn : N.length = nN)
    (hbody : ∀ (A : Around) (outer : List Env) (s : Shared) (m : List Addr) (fo : Addr → Prop) (H : Hp) (E : XK), Room k (A.deeper (envOfC qual scope s.heap.objs.size (He.fAd K p) (.ref (He.codeOf K p)))) →
      EB (fr0 K mg T m fo H) (cxOf (L2.CX P w) P w K mg base N qual scope (He.fAd K p) (.ref (He.codeOf K p)) A outer s H E) (wE E) body bf) :
    FnOk P w K mg base (L2.CX P w) (k + 1) (He.fAd K p) fd ps (spD K mg T (runD np nN bf)) := by
  obtain ⟨oc, od, dV, kV, doc, pm, an, cdv, ct, osl, rfl, lk, hcd, _, _⟩ := Fu.ex
  obtain ⟨c, rfl⟩ := He.codeIn_ref hcd
  have ec : He.codeOf K p = c := He.codeOf_eq lk rfl
  subst ec
  refine fn_of lk hcd Sc (fun vs H Q E h => (spD_len h).trans hp.symm) fun A outer s H vs Q E hr h => ?_
  obtain ⟨m, fo, G, ds, R, vd, o⟩ := h
  refine ⟨_, hbody A outer s m fo H E hr, ?_⟩
  unfold runD at o
  by_cases hl : ds.length = np
  · rw [if_pos hl] at o
    refine ⟨m, (fun a => a ∈ m), _, G, start_rel R vd hn, ?_⟩
    rw [hl]
    exact fin_out (Φ := fr0 K mg T m fo H) (n := G.length) (by exact R.ml.symm) o
  · rw [if_neg hl] at o
    exact o.elim
theorem thk_of {th : (GS → Res D) → GS → Res Rv} (Fu : FunD K x x pg bg sg [] [] g fd) (hm : mg x = some (.ref g)) (Sg : FnScope Ng [a] sg) (hb : L2.Binds K fd [a] []) (bf : Nat → (GS → Res D) → FS)
    (hth : ∀ fa G, th fa G = (bf G.length fa (.raw :: List.replicate (Ng.length - 1) .un) G).fin G.length)
    (hgo : ∀ (cdg : Value) (A : Around) (outer : List Env) (s : Shared) (m : List Addr) (fo : Addr → Prop) (H : Hp) (u : V) (fa : GS → Res D) (n : Nat), Room 0 (A.deeper (envOfC x sg s.heap.objs.size g cdg)) →
      (∀ (W : WX) (pn : List (Addr × Obj)) (xe : Value → Shared → Prop) (p1 p2 : Pos), Takes ((cxOf C8.CX0 P w K mg base Ng x sg g cdg A outer s H C8.E0).tr pn xe) W → EE (frV K mg T m fo H u) ((cxOf C8.CX0 P w K mg base Ng x sg g cdg A outer s H C8.E0).tr pn xe) W (.Call (.Name a p1) [] [] p2) (fAct n fa)) →
      EB (frV K mg T m fo H u) (cxOf C8.CX0 P w K mg base Ng x sg g cdg A outer s H C8.E0).nox wN bg (bf n fa))
    (hNg : Ng[0]? = some a) (hv : Vis sg a := by first | exact Or.inl rfl | exact Or.inr (Or.inl rfl) | exact Or.inr (Or.inr rfl)) (hd : (a == ("__debug__" : Str)) = false := by decide) (hcd : (a == ("__classdict__" : Str)) = false := by decide) (hl : 0 < Ng.length := by decide) : Thk P w K mg base T x th := by
  obtain ⟨oc, od, dV, kV, doc, pm, an, cdv, ct, osl, rfl, lk, hcode, _, _⟩ := Fu.ex
  exact ⟨g, pg, bg, sg, dV, kV, doc, pm, cdv, ct, oc, an, od, osl, Ng, a, bf, hm, Fu.kp, lk, hcode, hb, Sg, hNg, hv, hd, hcd, hl, hth, fun A outer s m fo H u fa n hr act hn => hgo cdv A outer s m fo H u fa n hr fun W pn xe p1 p2 tk => act W pn xe p1 p2 tk hn⟩
/-! ### the law itself -/
def spLaw (K : PySem.W.Frag) (T : List (Addr × Str)) (nN : Nat) (bf : FS) : Sp := fun vs H Q _ =>
  ∃ (a : Addr) (ns : List Int), vs = [.ref a] ∧ SqL K H a (ns.map V.int) ∧ Tabs T H ∧ (∃ G', bf (.pl (.scr (ns.map .int)) :: List.replicate (nN - 1) .un) [] = .rt (.pl (.bl true)) G') ∧ ∀ H', Q (.bl true) H'
theorem law_ok (Fu : FunD K x qual params body scope [] [] f fd) (Sc : FnScope N [a] scope) (nN : Nat) (hn : N.length = nN)
    (hbody : ∀ (cdv : Value) (A : Around) (outer : List Env) (s : Shared) (m : List Addr) (fo : Addr → Prop) (H : Hp) (E : XK), Room k (A.deeper (envOfC qual scope s.heap.objs.size f cdv)) →
      EB (fr0 K mg T m fo H) (cxOf (L2.CX P w) P w K mg base N qual scope f cdv A outer s H E) (wE E) body bf) :
    FnOk P w K mg base (L2.CX P w) (k + 1) f fd [a] (spLaw K T nN bf) := by
  refine Fu.ok Sc (fun vs H Q E h => ?_) fun cdv A outer s H vs Q E hr h => ?_
  · obtain ⟨_, _, rfl, _⟩ := h
    rfl
  obtain ⟨ad, ns, rfl, hS, hT, ⟨G', hb⟩, hQ⟩ := h
  have R : RelH (fr0 K mg T [] (fun _ => False) H) [] (fun a => a ∈ ([] : List Addr)) [] H :=
    { cl := fun i xs e => by simp at e
      ml := rfl
      mn := List.nodup_nil
      my := fun a h => h
      yd := fun a h => by simp at h
      fd := fun a h => h.elim
      fy := fun a h => h.elim
      mp := ⟨[], rfl, fun a h => by simp at h⟩
      st := Step.refl _ _
      tb := hT }
  have vd : Fr.vds (fr0 K mg T [] (fun _ => False) H) [] (fun a => a ∈ ([] : List Addr)) H [.scr (ns.map .int)] [.ref ad] := by
    refine .cons ?_ .nil
    simp only [VD]
    refine ⟨ad, _, rfl, ?_, mk_ints (Φ := fr0 K mg T [] (fun _ => False) H)⟩
    rcases hS with h | h
    · exact .inl ⟨h, fun z => z.elim (fun z => z) (by simp)⟩
    · exact .inr h
  refine ⟨_, hbody cdv A outer s [] (fun _ => False) H E hr, [], (fun a => a ∈ ([] : List Addr)), _, [], start_rel R vd hn, ?_⟩
  show OutS _ _ _ _ _ (bf (.pl (.scr (ns.map .int)) :: List.replicate (nN - 1) .un) []) _
  rw [hb]
  intro m' y' v H' r' s' rv
  have rv' : Fr.vd (fr0 K mg T [] (fun _ => False) H) m' y' H' (.bl true) v := rv
  cases vd_bl rv'
  exact hQ H'
theorem law_okL {p : Str × Option Str} (Fu : FunD K x qual params body scope [] [] (He.fAd K p) fd) (Sc : FnScope N [a] scope) (nN : Nat) (hn : N.length = nN)
    (hbody : ∀ (A : Around) (outer : List Env) (s : Shared) (m : List Addr) (fo : Addr → Prop) (H : Hp) (E : XK), Room k (A.deeper (envOfC qual scope s.heap.objs.size (He.fAd K p) (.ref (He.codeOf K p)))) →
      EB (fr0 K mg T m fo H) (cxOf (L2.CX P w) P w K mg base N qual scope (He.fAd K p) (.ref (He.codeOf K p)) A outer s H E) (wE E) body bf) :
    FnOk P w K mg base (L2.CX P w) (k + 1) (He.fAd K p) fd [a] (spLaw K T nN bf) := by
  obtain ⟨oc, od, dV, kV, doc, pm, an, cdv, ct, osl, rfl, lk, hcd, _, _⟩ := Fu.ex
  obtain ⟨c, rfl⟩ := He.codeIn_ref hcd
  have ec : He.codeOf K p = c := He.codeOf_eq lk rfl
  subst ec
  refine fn_of lk hcd Sc (fun vs H Q E h => ?_) fun A outer s H vs Q E hr h => ?_
  · obtain ⟨_, _, rfl, _⟩ := h
    rfl
  obtain ⟨ad, ns, rfl, hS, hT, ⟨G', hb⟩, hQ⟩ := h
  have R : RelH (fr0 K mg T [] (fun _ => False) H) [] (fun a => a ∈ ([] : List Addr)) [] H :=
    { cl := fun i xs e => by simp at e
      ml := rfl
      mn := List.nodup_nil
      my := fun a h => h
      yd := fun a h => by simp at h
      fd := fun a h => h.elim
      fy := fun a h => h.elim
      mp := ⟨[], rfl, fun a h => by simp at h⟩
      st := Step.refl _ _
      tb := hT }
  have vd : Fr.vds (fr0 K mg T [] (fun _ => False) H) [] (fun a => a ∈ ([] : List Addr)) H [.scr (ns.map .int)] [.ref ad] := by
    refine .cons ?_ .nil
    simp only [VD]
    refine ⟨ad, _, rfl, ?_, mk_ints (Φ := fr0 K mg T [] (fun _ => False) H)⟩
    rcases hS with h | h
    · exact .inl ⟨h, fun z => z.elim (fun z => z) (by simp)⟩
    · exact .inr h
  refine ⟨_, hbody A outer s [] (fun _ => False) H E hr, [], (fun a => a ∈ ([] : List Addr)), _, [], start_rel R vd hn, ?_⟩
  show OutS _ _ _ _ _ (bf (.pl (.scr (ns.map .int)) :: List.replicate (nN - 1) .un) []) _
  rw [hb]
  intro m' y' v H' r' s' rv
  have rv' : Fr.vd (fr0 K mg T [] (fun _ => False) H) m' y' H' (.bl true) v := rv
  cases vd_bl rv'
  exact hQ H'
theorem Df.binds1 {st : Stmt} {fd : FuncData} (Fu : FunD K x x (defArgs st) (defBody st) (defScope st) [] [] f fd) (ps : List Str)
    (h : ∀ (kV doc pm : Value) (an : Option Addr) (cdv ct : Value) (us : List Value), us.length = ps.length → bindArgs (PySem.W.fnOf x x (defArgs st) (defBody st) (defScope st) .none kV doc pm an cdv ct) ⟨us, []⟩ = pure (ps.zip us)) : L2.Binds K fd ps [] := Fu.bindsN h
end
theorem ExcS.c {K : PySem.W.Frag} {mg : Str → Option Value} {x : Str} {C : Addr} (h : ExcS K mg x) (hC : mg x = some (.ref C)) : ExcC K C := by
  obtain ⟨C2, h1, h2, h3⟩ := h.ex
  rw [hC] at h1
  cases h1
  exact h2
theorem ExcS.v {K : PySem.W.Frag} {mg : Str → Option Value} {x : Str} {C : Addr} (h : ExcS K mg x) (hC : mg x = some (.ref C)) : PySem.W.kitOne K (.ref C) (.type "ValueError") = some true := by
  obtain ⟨C2, h1, h2, h3⟩ := h.ex
  rw [hC] at h1
  cases h1
  exact h3
end Wd
/-! Wd, part N: the head's facts. -/
namespace Wd
open PySem PySem.Spec PyProof.Rows L2 LamX

def excSB (K : PySem.W.Frag) (x : Str) : Bool :=
  He.eqO (PySem.W.findIn K (.ref (He.ga K x)) "__getattribute__") (some (some (.builtin "BaseException.__getattribute__"))) && (He.eqO (PySem.W.findIn K (.ref (He.ga K x)) "__getattr__") (some none) && (decide (PySem.W.subIn K (.ref (He.ga K x)) (.type "BaseException") = some true) &&
    (PySem.W.hasDictIn K (He.ga K x) && (He.eqO (PySem.W.findIn K (.ref (He.ga K x)) "__class__") (some (some (.builtin "object.__class__"))) && (He.eqO (PySem.W.specialIn K (.builtin "object.__class__") "__get__") (some (some (.builtin "getset_descriptor.__get__"))) &&
      (decide (PySem.W.takesIn K (.builtin "object.__class__") = some true) && (decide (PySem.W.mroIn K (He.ga K x) (.type "object") = some true) && decide (PySem.W.kitOne K (.ref (He.ga K x)) (.type "ValueError") = some true))))))))
theorem excSB_ok {K : PySem.W.Frag} {mg : Str → Option Value} {x : Str} (hg : mg x = some (.ref (He.ga K x))) (h : excSB K x = true) : ExcS K mg x := by
  unfold excSB at h
  simp only [Bool.and_eq_true] at h
  obtain ⟨h1, h2, h3, h4, h5, h6, h7, h8, h9⟩ := h
  exact ⟨_, hg, ⟨He.eqO_ok h1, He.eqO_ok h2, of_decide_eq_true h3, h4, He.eqO_ok h5, He.eqO_ok h6, of_decide_eq_true h7, of_decide_eq_true h8⟩, of_decide_eq_true h9⟩
def excIB (K : PySem.W.Frag) (x y : Str) (b : Bool) : Bool := decide (PySem.W.kitOne K (.ref (He.ga K x)) (.ref (He.ga K y)) = some b)
def tabB (K : PySem.W.Frag) (tf : List He.Defn) : Bool := tf.all fun p => tf.all fun q => decide ((He.cT K q).2 = (He.cT K p).2 → q.1 = p.1)
def tabT (K : PySem.W.Frag) (tf : List He.Defn) : List (Addr × Str) := tf.map fun p => ((He.cT K p).2, lamQ p.1)
/-- what is told of error classes and tables -/
def moreB (cs xs : List String) (tf : List He.Defn) (K : PySem.W.Frag) : Bool :=
  (cs.all fun c => excSB K (Str.ofString c)) && ((cs.all fun c => xs.all fun x => excIB K (Str.ofString c) (Str.ofString x) (c == x)) && tabB K tf)
theorem tabT_mem {K : PySem.W.Frag} {tf : List He.Defn} {p : He.Defn} (h : p ∈ tf) : ((He.cT K p).2, lamQ p.1) ∈ tabT K tf := List.mem_map.mpr ⟨p, h, rfl⟩
theorem tabT_uni {K : PySem.W.Frag} {tf : List He.Defn} {p : He.Defn} (hB : tabB K tf = true) (h : p ∈ tf) : ∀ q ∈ tabT K tf, q.1 = (He.cT K p).2 → q.2 = lamQ p.1 := fun q hq e => by
  obtain ⟨r, hr, rfl⟩ := List.mem_map.mp hq
  have := of_decide_eq_true (List.all_eq_true.mp (List.all_eq_true.mp hB p h) r hr) e
  show lamQ r.1 = lamQ p.1
  rw [this]
theorem tabT_tabs {K : PySem.W.Frag} {tf : List He.Defn} {H : Hp} (h : ∀ p ∈ tf.map (He.cT K), H p.2 = some (.tbl #[])) : Tabs (tabT K tf) H := fun q hq => by
  obtain ⟨r, hr, rfl⟩ := List.mem_map.mp hq
  exact TabS.nil (h _ (List.mem_map.mpr ⟨r, hr, rfl⟩))
/-- the facts of a law's head -/
structure Hd (cs xs : List String) (fa : List He.Fa) (fn : List He.DefD) (tf : List He.Defn) (w : World) (h : Heap) (mg : Str → Option Value) (K : PySem.W.Frag) : Prop where
  X : K.In h
  G : h.Ns mainGlobals mg
  c : He.SaysX fa fn [] tf (moreB cs xs tf) w h K
section
variable {cs xs : List String} {fa : List He.Fa} {fn : List He.DefD} {tf : List He.Defn} {w : World} {h : Heap} {mg : Str → Option Value} {K : PySem.W.Frag}
theorem Hd.fact (d : Hd cs xs fa fn tf w h mg K) (i : Nat) {f : He.Fa} (e : fa[i]? = some f) : f.ok K = true := d.c.t.d.fact i e
theorem Hd.glo (d : Hd cs xs fa fn tf w h mg K) {x : Str} (i : Nat) (e : fa[i]? = some (.glo x) := by rfl) : mg x = some (.ref (He.ga K x)) := He.glo_ok d.X d.G (d.fact i e)
theorem Hd.free (d : Hd cs xs fa fn tf w h mg K) {x : Str} (i : Nat) (e : fa[i]? = some (.free x) := by rfl) : mg x = none := He.free_ok d.X d.G (d.fact i e)
theorem Hd.int (d : Hd cs xs fa fn tf w h mg K) {x : Str} {k : Int} (i : Nat) (e : fa[i]? = some (.int x k) := by rfl) : ∃ t, mg x = some (.int k t) := He.int_ok d.X d.G (d.fact i e)
theorem Hd.exc (d : Hd cs xs fa fn tf w h mg K) {x : String} (i j : Nat) (e : fa[i]? = some (.exc (Str.ofString x)) := by rfl) (e2 : fa[j]? = some (.glo (Str.ofString x)) := by rfl) : ExcK K mg x := by
  have z := d.fact i e
  have z : (PySem.W.excIn K (He.ga K (Str.ofString x)) He.veBase "ValueError.__new__" && (PySem.W.keepIn K (.ref (He.ga K (Str.ofString x))) && (decide (PySem.W.subIn K (.ref (He.ga K (Str.ofString x))) (.type "BaseException") = some true) && decide (PySem.W.typeIn K (.ref (He.ga K (Str.ofString x))) = some (.type "type"))))) = true := z
  simp only [Bool.and_eq_true, decide_eq_true_eq] at z
  exact ⟨_, d.glo j e2, z.1, z.2.1, z.2.2.1, z.2.2.2⟩
theorem Hd.exm (d : Hd cs xs fa fn tf w h mg K) {x y : Str} {b : Bool} (i j k : Nat) (e : fa[i]? = some (.exm x y b) := by rfl) (e2 : fa[j]? = some (.glo x) := by rfl) (e3 : fa[k]? = some (.glo y) := by rfl) : ExcM K mg x y b :=
  ⟨_, _, d.glo j e2, d.glo k e3, of_decide_eq_true (d.fact i e)⟩
theorem Hd.def_ (d : Hd cs xs fa fn tf w h mg K) {x : Str} {st : Stmt} (i j : Nat) (e : fn[i]? = some ⟨(x, none), x, x, defArgs st, defBody st, defScope st, [], []⟩ := by rfl) (e2 : fa[j]? = some (.glo x) := by rfl) : Df K mg x st := by
  obtain ⟨fd, F⟩ := d.c.t.d.def_ i e
  exact ⟨fd, F, d.glo j e2⟩
theorem Hd.eS (d : Hd cs xs fa fn tf w h mg K) (hg : ∀ c ∈ cs, mg (Str.ofString c) = some (.ref (He.ga K (Str.ofString c)))) : ∀ c ∈ cs, ExcS K mg (Str.ofString c) := fun c hc =>
  excSB_ok (hg c hc) (List.all_eq_true.mp (Bool.and_eq_true_iff.mp d.c.more).1 c hc)
theorem Hd.eI (d : Hd cs xs fa fn tf w h mg K) (hg : ∀ c ∈ cs, mg (Str.ofString c) = some (.ref (He.ga K (Str.ofString c)))) (hx : ∀ c ∈ xs, mg (Str.ofString c) = some (.ref (He.ga K (Str.ofString c)))) :
    ∀ c ∈ cs, ∀ x ∈ xs, ExcI K mg (Str.ofString c) (Str.ofString x) (c == x) := fun c hc x hx' =>
  ⟨_, _, hg c hc, hx x hx', of_decide_eq_true (List.all_eq_true.mp (List.all_eq_true.mp (Bool.and_eq_true_iff.mp (Bool.and_eq_true_iff.mp d.c.more).2).1 c hc) x hx')⟩
theorem Hd.tab (d : Hd cs xs fa fn tf w h mg K) : tabB K tf = true := (Bool.and_eq_true_iff.mp (Bool.and_eq_true_iff.mp d.c.more).2).2
end
theorem mem_nil {α : Type} {p : α → Prop} : ∀ c ∈ ([] : List α), p c := fun _ h => by simp at h
theorem mem_cons' {α : Type} {p : α → Prop} {a : α} {l : List α} (h : p a) (r : ∀ c ∈ l, p c) : ∀ c ∈ a :: l, p c := fun c hc => by
  rcases List.mem_cons.mp hc with e | e
  · rw [e]; exact h
  · exact r c e
theorem cx_false {P : Program} (w : World) (H : Hp) (s : Shared) (e : Value) (s' : Shared) (h : L2.CX P w [] H s (fun _ _ _ => False) e s') : False := by
  obtain ⟨_, _, _, _, _, _, _, _, _, _, _, _, z⟩ := h
  exact z
/-- the law's promise at the head's heap -/
theorem lawAt {l : PySem.W.OpenLaw} {cs xs : List String} {fa : List He.Fa} {fn : List He.DefD} {tf : List He.Defn} {w : World} {h : Heap} {mg : Str → Option Value} {K : PySem.W.Frag} {k n nN : Nat} {bf : FS} {fad : Addr} {fd : FuncData}
    (d : Hd cs xs fa fn tf w h mg K) (hb : ∀ (s : Shared) (u : Value), BindsTo s fd ⟨[u], []⟩ [("script", u)])
    (hF : ∀ base : Heap, K.In base → base.Ns mainGlobals mg → (∀ p ∈ tf, TabB base mg (He.cT K p).1 (He.cT K p).2) → FnOk l.prog w K mg base (L2.CX l.prog w) k fad fd ["script"] (spLaw K (tabT K tf) nN bf))
    (hlaw : ∀ ns : List Int, ns.length ≤ n → (∀ z ∈ ns, Builtin.Int.intBits z ≤ 1048576) → ∃ G', bf (.pl (.scr (ns.map .int)) :: List.replicate (nN - 1) .un) [] = .rt (.pl (.bl true)) G') :
    LawAtS l w K (L2.CX l.prog w) k n "script" mg fad h := by
  have key : ∀ {q : Addr × Addr}, q ∈ tf.map (He.cT K) → ∃ p ∈ tf, He.cT K p = q := fun hq => List.mem_map.mp hq
  refine ⟨fd, tf.map (He.cT K), spLaw K (tabT K tf) nN bf, fun q hq => ?_, fun q hq => ?_, fun q hq => ?_, hb, fun H a ns hl hbits hT hS => ⟨a, ns, rfl, hS, tabT_tabs hT, hlaw ns hl hbits, fun _ => rfl⟩, fun base hK hN hT => hF base hK hN fun p hp => hT _ (List.mem_map.mpr ⟨p, hp, rfl⟩)⟩
  · obtain ⟨p, hp, rfl⟩ := key hq
    exact d.c.empty p hp
  · obtain ⟨p, hp, rfl⟩ := key hq
    exact d.c.out p hp
  · obtain ⟨p, hp, rfl⟩ := key hq
    exact PySem.W.codeHd_of_K d.X (d.c.hd p hp)
end Wd
/-! Wd, part P: mirrors reckoned. -/
namespace Wd
open PySem L2

section
variable {S : SS} {G : GS} {i j : Nat} {a b c : FE} {d : D} {t u : FT} {r : FA} {g g' : G2} {gn : GN} {f h : FS} {F : FD} {ds : List D} {α : Type}
@[simp] theorem ev_fVar : fVar i S G = (match S[i]? with | some (.pl d) => .ok d G | _ => .fail) := rfl
@[simp] theorem ev_fC : fC d S G = .ok d G := rfl
@[simp] theorem ev_fBin : fBin g a b S G = (a S G).bind fun x G => (b S G).bind fun y G => opt (g G x y) G := rfl
@[simp] theorem ev_fUn {g : GS → D → Option D} : fUn g a S G = (a S G).bind fun x G => opt (g G x) G := rfl
@[simp] theorem ev_fNil : fNil S G = .ok [] G := rfl
@[simp] theorem ev_fCons : fCons a r S G = (a S G).bind fun x G => (r S G).bind fun xs G => .ok (x :: xs) G := rfl
@[simp] theorem ev_fB : fB gn r S G = (r S G).bind fun xs G => opt (gn G xs) G := rfl
@[simp] theorem ev_fBO {g : GS → List D → Option (List D)} : fBO g r S G = (r S G).bind fun xs G => opt (g G xs) G := rfl
@[simp] theorem ev_fTup : fTup r S G = (r S G).bind fun xs G => if xs.length ≤ 16777216 then .ok (.tup xs) G else .fail := rfl
@[simp] theorem ev_fDisp : fDisp r S G = (r S G).bind fun xs G => if xs.length ≤ 16777216 then .ok xs G else .fail := rfl
@[simp] theorem ev_fz : fz r S G = (r S G).bind fun xs G => .ok (.lst xs) G := rfl
@[simp] theorem ev_tVal : tVal a S G = (a S G).bind fun x G => opt (asB x) G := rfl
@[simp] theorem ev_tAndF : tAndF t u S G = (t S G).bind fun c G => if c then u S G else .ok false G := rfl
@[simp] theorem ev_tOrF : tOrF t u S G = (t S G).bind fun c G => if c then .ok true G else u S G := rfl
@[simp] theorem ev_tNotF : tNotF t S G = (t S G).bind fun c G => .ok (!c) G := rfl
@[simp] theorem ev_eAndF : eAndF a b S G = (a S G).bind fun x G => (opt (asB x) G).bind fun c G => if c then b S G else .ok (.bl false) G := rfl
@[simp] theorem ev_eOrF : eOrF a b S G = (a S G).bind fun x G => (opt (asB x) G).bind fun c G => if c then .ok (.bl true) G else b S G := rfl
@[simp] theorem ev_eNotF : eNotF a S G = (a S G).bind fun x G => (opt (asB x) G).bind fun c G => .ok (.bl (!c)) G := rfl
@[simp] theorem ev_eIfF : eIfF t a b S G = (t S G).bind fun c G => if c then a S G else b S G := rfl
@[simp] theorem ev_eChain : eChain g g' a b c S G = (a S G).bind fun x G => (b S G).bind fun y G => (opt ((g G x y).bind asB) G).bind fun k G => if k then (c S G).bind fun z G => opt (g' G y z) G else .ok (.bl false) G := rfl
@[simp] theorem ev_sNil : sNil S G = .nx S G := rfl
@[simp] theorem ev_sSeq : sSeq f h S G = (f S G).seq h := rfl
@[simp] theorem ev_sSet : sSet i a S G = (a S G).thn S fun d G => .nx (S.set i (.pl d)) G := rfl
@[simp] theorem ev_sSetO : sSetO i r S G = (r S G).thn S fun ds G => .nx (S.set i (.ow ds)) G := rfl
@[simp] theorem ev_sDrop : sDrop a S G = (a S G).thn S fun _ G => .nx S G := rfl
@[simp] theorem ev_sRet : sRet a S G = (a S G).thn S fun d G => .rt (.pl d) G := rfl
@[simp] theorem ev_sRetO : sRetO r S G = (r S G).thn S fun ds G => .rt (.ow ds) G := rfl
@[simp] theorem ev_sRetN : sRetN S G = .rt (.pl .non) G := rfl
@[simp] theorem ev_sIf : sIf t f h S G = (t S G).thn S fun c G => if c then f S G else h S G := rfl
@[simp] theorem ev_sPar : sPar i j a b S G = (a S G).thn S fun d G => (b S G).thn S fun e G => .nx ((S.set i (.pl d)).set j (.pl e)) G := rfl
@[simp] theorem ev_sAsg {tg : FT1} : sAsg a tg S G = (a S G).thn S fun d G => match tg d S with | some S' => .nx S' G | none => .fail := rfl
@[simp] theorem ev_sSto : sSto a b c S G = (a S G).thn S fun d G => (b S G).thn S fun l G => (c S G).thn S fun k G => match l, k with
  | .ref c, .int k => (match G[c]? with
    | some xs => (match ixN xs.length k with
      | some j => .nx S (G.set c (xs.set j d))
      | none => .fail)
    | none => .fail)
  | _, _ => .fail := rfl
@[simp] theorem ev_sExc {x : String} : sExc x S G = .exc x none S G := rfl
@[simp] theorem ev_sFrz : sFrz i f S G = f (frz i S) G := rfl
@[simp] theorem ev_sPrm : sPrm i f S G = f (prm i S G).1 (prm i S G).2 := rfl
@[simp] theorem ev_sRetV : sRetV i S G = (match S[i]? with | some (.ow xs) => .rt (.ow xs) G | some (.pl d) => .rt (.pl d) G | _ => .fail) := by
  unfold sRetV
  rfl
@[simp] theorem ev_sFor {it : FI} {tg : FT1} : sFor it tg f S G = (it S G).thn S fun items G => forGo tg f items S G := rfl
@[simp] theorem ev_iSeq : iSeq a S G = (a S G).bind fun x G => opt x.fitems G := rfl
@[simp] theorem ev_fCall : fCall F r S G = (r S G).bind fun ds G => cut (F ds G) := rfl
@[simp] theorem ev_fCallO : fCallO F r S G = (r S G).bind fun ds G => cutO (F ds G) := rfl
@[simp] theorem cut_pl : cut (.ok (.pl d) G) = .ok d G := rfl
@[simp] theorem cut_ow : cut (.ok (.ow ds) G) = .ok (.lst ds) G := rfl
@[simp] theorem cut_exc {x : String} {p} : cut (.exc x p G) = .exc x p G := rfl
@[simp] theorem cutO_ow : cutO (.ok (.ow ds) G) = .ok ds G := rfl
@[simp] theorem fin_nx {n : Nat} : RS.fin n (.nx S G) = if G.length = n then .ok (.pl .non) G else .fail := rfl
@[simp] theorem fin_rt {n : Nat} {v : Rv} : RS.fin n (.rt v G) = if G.length = n then .ok v G else .fail := rfl
@[simp] theorem fin_exc {n : Nat} {x : String} {p} : RS.fin n (.exc x p S G) = if G.length = n then .exc x p G else .fail := rfl
@[simp] theorem ev_runD {np nN : Nat} : runD np nN f ds G = if ds.length = np then (f (ds.map Sl.pl ++ List.replicate (nN - np) Sl.un) G).fin G.length else .fail := rfl
@[simp] theorem asB_bl {k : Bool} : asB (.bl k) = some k := id rfl
@[simp] theorem ev_gN : gN i d S = some (S.set i (.pl d)) := rfl
@[simp] theorem ev_gTp {n : Nat} {k : FTs} : gTp n k (.tup ds) S = if ds.length = n then k ds S else none := rfl
@[simp] theorem ev_gCs {p : FT1} {k : FTs} : gCs p k (d :: ds) S = (p d S).bind (k ds) := rfl
@[simp] theorem ev_gNl : gNl [] S = some S := rfl
/-! operations -/
variable {m n : Int} {xs ys : List D}
@[simp] theorem rk_add : dAdd G (.int m) (.int n) = some (.int (m + n)) := id rfl
@[simp] theorem rk_sub : dSub G (.int m) (.int n) = some (.int (m - n)) := id rfl
@[simp] theorem rk_mul : dMul G (.int m) (.int n) = gd (mulOk m n) (.int (m * n)) := id rfl
@[simp] theorem rk_fdiv : dFdiv G (.int m) (.int n) = gd (divOk n) (.int (m.fdiv n)) := id rfl
@[simp] theorem rk_mod : dMod G (.int m) (.int n) = gd (n ≠ 0) (.int (m.fmod n)) := id rfl
@[simp] theorem rk_pow : dPow G (.int m) (.int n) = gd (powOk m n) (.int (m ^ n.toNat)) := id rfl
@[simp] theorem rk_lt : dLt G (.int m) (.int n) = some (.bl (decide (m < n))) := id rfl
@[simp] theorem rk_le : dLe G (.int m) (.int n) = some (.bl (decide (m ≤ n))) := id rfl
@[simp] theorem rk_gt : dGt G (.int m) (.int n) = some (.bl (decide (n < m))) := id rfl
@[simp] theorem rk_ge : dGe G (.int m) (.int n) = some (.bl (decide (n ≤ m))) := id rfl
@[simp] theorem rk_neg : dNeg G (.int m) = some (.int (-m)) := id rfl
@[simp] theorem rk_eqI : dEq G (.int m) (.int n) = some (.bl (m == n)) := by simp [dEq, D.pln, D.eqv]
@[simp] theorem rk_neI : dNe G (.int m) (.int n) = some (.bl (!(m == n))) := by simp [dNe, D.pln, D.eqv]
@[simp] theorem rk_eqB {p q : Bool} : dEq G (.bl p) (.bl q) = some (.bl (p == q)) := by simp [dEq, D.pln, D.eqv]
@[simp] theorem rk_neB {p q : Bool} : dNe G (.bl p) (.bl q) = some (.bl (!(p == q))) := by simp [dNe, D.pln, D.eqv]
@[simp] theorem rk_abs : dAbs G [.int m] = some (.int (m.natAbs : Int)) := id rfl
@[simp] theorem rk_int : dInt G [.int m] = some (.int m) := id rfl
@[simp] theorem rk_intB {p : Bool} : dInt G [.bl p] = some (.int (if p then 1 else 0)) := id rfl
@[simp] theorem rk_max : dMax2 G [.int m, .int n] = some (.int (max m n)) := id rfl
@[simp] theorem rk_min : dMin2 G [.int m, .int n] = some (.int (min m n)) := id rfl
@[simp] theorem it_tup : D.items G (.tup xs) = some xs := id rfl
@[simp] theorem it_lst : D.items G (.lst xs) = some xs := id rfl
@[simp] theorem it_scr : D.items G (.scr xs) = some xs := id rfl
@[simp] theorem it_ref : D.items G (.ref i) = G[i]? := id rfl
@[simp] theorem fi_tup : D.fitems (.tup xs) = some xs := id rfl
@[simp] theorem fi_lst : D.fitems (.lst xs) = some xs := id rfl
@[simp] theorem fi_scr : D.fitems (.scr xs) = some xs := id rfl
@[simp] theorem li_lst : lItems G (.lst xs) = some xs := id rfl
@[simp] theorem li_scr : lItems G (.scr xs) = some xs := id rfl
@[simp] theorem rk_lenT : dLen G [.tup xs] = some (.int xs.length) := id rfl
@[simp] theorem rk_lenL : dLen G [.lst xs] = some (.int xs.length) := id rfl
@[simp] theorem rk_lenS : dLen G [.scr xs] = some (.int xs.length) := id rfl
@[simp] theorem rk_ix : dIx G d (.int m) = (D.items G d).bind fun xs => atI xs m := id rfl
@[simp] theorem rk_tup : dAdd G (.tup xs) (.tup ys) = gd (xs.length + ys.length ≤ SL) (.tup (xs ++ ys)) := id rfl
@[simp] theorem rk_lst : dAdd G (.lst xs) (.lst ys) = gd (xs.length + ys.length ≤ SL) (.lst (xs ++ ys)) := id rfl
end
theorem mulL {i j : Int} (h : -(2 ^ 64) < i ∧ i < 2 ^ 64) : mulOk i j := .inl h
theorem mulR {i j : Int} (h : -(2 ^ 64) < j ∧ j < 2 ^ 64) : mulOk i j := .inr (.inl h)
@[simp] theorem gd_mulR {α : Type} {i j : Int} {a : α} (h1 : -18446744073709551616 < j) (h2 : j < 18446744073709551616) : gd (mulOk i j) a = some a := gd_true (mulR ⟨h1, h2⟩)
@[simp] theorem gd_mulL {α : Type} {i j : Int} {a : α} (h1 : -18446744073709551616 < i) (h2 : i < 18446744073709551616) : gd (mulOk i j) a = some a := gd_true (mulL ⟨h1, h2⟩)
@[simp] theorem gd_ne {α : Type} {i j : Int} {a : α} (h : i ≠ j) : gd (i ≠ j) a = some a := gd_true h
@[simp] theorem gd_div {α : Type} {i : Int} {a : α} (h : divOk i) : gd (divOk i) a = some a := gd_true h
@[simp] theorem gd_pow {α : Type} {a : α} : gd (powOk 10 18) a = some a := gd_true (by decide)
@[simp] theorem gd_pow6 {α : Type} {a : α} : gd (powOk 10 6) a = some a := gd_true (by decide)
@[simp] theorem gd_pow12 {α : Type} {a : α} : gd (powOk 10 12) a = some a := gd_true (by decide)
@[simp] theorem ix_nat {n j : Nat} (h : j < n) : ixN n (j : Int) = some j := by
  unfold ixN
  rw [if_pos (Int.natCast_nonneg j), if_pos (by omega)]
  rfl
theorem at_nat {α : Type} {xs : List α} {j : Nat} (h : j < xs.length) : atI xs (j : Int) = some xs[j] := by
  unfold atI
  rw [ix_nat h]
  exact List.getElem?_eq_getElem h
@[simp] theorem at0 {α : Type} {a : α} {r : List α} : atI (a :: r) 0 = some a := at_nat (xs := a :: r) (j := 0) (by simp)
@[simp] theorem at1 {α : Type} {a b : α} {r : List α} : atI (a :: b :: r) 1 = some b := at_nat (xs := a :: b :: r) (j := 1) (by simp)
@[simp] theorem at2 {α : Type} {a b c : α} {r : List α} : atI (a :: b :: c :: r) 2 = some c := at_nat (xs := a :: b :: c :: r) (j := 2) (by simp)
@[simp] theorem at3 {α : Type} {a b c d : α} {r : List α} : atI (a :: b :: c :: d :: r) 3 = some d := at_nat (xs := a :: b :: c :: d :: r) (j := 3) (by simp)
@[simp] theorem at4 {α : Type} {a b c d e : α} {r : List α} : atI (a :: b :: c :: d :: e :: r) 4 = some e := at_nat (xs := a :: b :: c :: d :: e :: r) (j := 4) (by simp)
theorem fmod_pos {a b : Int} (h : 0 < b) : 0 ≤ a.fmod b ∧ a.fmod b < b := by
  rw [Int.fmod_eq_emod_of_nonneg a (by omega)]
  exact ⟨Int.emod_nonneg a (by omega), Int.emod_lt_of_pos a h⟩
theorem fdiv_nn {a b : Int} (h : 0 < b) (ha : 0 ≤ a) : 0 ≤ a.fdiv b := by
  rw [Int.fdiv_eq_ediv_of_nonneg a (by omega)]
  exact Int.ediv_nonneg ha (by omega)
@[simp] theorem ixN_eq {n : Nat} {i : Int} : ixN n i = if 0 ≤ i then (if i < n then some i.toNat else none) else if -(n : Int) ≤ i then some (i + n).toNat else none := rfl
@[simp] theorem gd_mulM {α : Type} {i j : Int} {a : α} : gd (mulOk (i.fmod 2147483647) j) a = some a := gd_true (mulL ⟨by have := (fmod_pos (a := i) (b := 2147483647) (by decide)).1; omega, by have := (fmod_pos (a := i) (b := 2147483647) (by decide)).2; omega⟩)
@[simp] theorem divOk1009 : divOk 1009 := by decide
@[simp] theorem divOk2003 : divOk 2003 := by decide
@[simp] theorem divOk16 : divOk 16 := by decide
theorem divOk_lt {n : Int} (h : 0 < n) (h2 : n < 18446744073709551616) : divOk n := by
  refine ⟨by omega, ?_⟩
  have : n.natAbs < 2 ^ 64 := by omega
  have h3 : n.natAbs.log2 < 64 := (Nat.log2_lt (by omega)).mpr this
  omega
/-! comprehensions that leave the cells alone -/
theorem lc_map {tg : FT1} {fe : FE} {S : SS} {G : GS} (g : D → D) : ∀ {xs : List D}, (∀ x ∈ xs, ∃ S', tg x S = some S' ∧ fe S' G = .ok (g x) G) → lcGo tg tYesF fe S xs G = .ok (xs.map g) G
  | [], _ => rfl
  | x :: xs, h => by
    obtain ⟨S', h1, h2⟩ := h x List.mem_cons_self
    have ih := lc_map g (xs := xs) fun y hy => h y (List.mem_cons_of_mem _ hy)
    simp only [lcGo, h1, tYesF, nox_ok, bind_ok, if_true, h2, ih, List.map_cons]
@[simp] theorem ev_fLc {it : FI} {own : List Nat} {tg : FT1} {ft : FT} {fe : FE} {S : SS} {G : GS} : fLc it own tg ft fe S G = (it S G).bind fun items G => if items.length ≤ SL then lcGo tg ft fe (wipeS S own) items G else .fail := rfl
@[simp] theorem ev_wipe0 {S : SS} : wipeS S [] = S := rfl
@[simp] theorem ev_wipe1 {S : SS} {v : Nat} {vs : List Nat} : wipeS S (v :: vs) = (wipeS S vs).set v .un := rfl
section
variable {S : SS} {G : GS} {i j n : Nat} {a b c : FE} {d x : D} {t u : FT} {r : FA} {f h : FS} {F : FD} {ds xs ys : List D}
@[simp] theorem ev_fM {g : GM} : fM g a r S G = (a S G).bind fun x G => (opt (lItems G x) G).bind fun _ G => (r S G).bind fun xs G => opt (g G x xs) G := rfl
@[simp] theorem ev_fLam {th : (GS → Res D) → GS → Res Rv} : fLam th a S G = cutN (th (a S) G) := rfl
@[simp] theorem cutN_pl : cutN (.ok (.pl d) G) = .ok d G := rfl
@[simp] theorem ev_fCallL {Fs : List (String × FD)} : fCallL i Fs r S G = (match S[i]? with
  | some (.pl (.fn x)) => (match Fs.lookup x with
    | some F => fCall F r S G
    | none => .fail)
  | _ => .fail) := rfl
@[simp] theorem ev_sApp : sApp i a S G = (match S[i]? with
  | some (.ow xs) => (a S G).thn S fun d G => if xs.length < SL then .nx (S.set i (.ow (xs ++ [d]))) G else .fail
  | _ => .fail) := rfl
@[simp] theorem ev_sExt : sExt i a S G = (match S[i]? with
  | some (.ow xs) => (a S G).thn S fun d G => match d with
    | .lst zs => if xs.length + zs.length ≤ SL then .nx (S.set i (.ow (xs ++ zs))) G else .fail
    | _ => .fail
  | _ => .fail) := rfl
@[simp] theorem ev_sTry {cs : List String} {hd : String → FS} : sTry i cs f hd S G = (match f S G with
  | .exc c none S' G' => if c ∈ cs then (match hd c ((S'.map unraw).set i .raw) G' with
    | .nx S2 G2 => .nx ((S2.set i .un).map unraw) G2
    | .rt r G2 => .rt r G2
    | _ => .fail) else .fail
  | .exc _ (some _) _ _ => .fail
  | r => r) := rfl
@[simp] theorem ev_fIsE {k : Bool} : fIsE i k S G = (match S[i]? with | some .raw => .ok (.bl k) G | _ => .fail) := rfl
@[simp] theorem ev_fAct {fa : GS → Res D} : fAct n fa S G = (match S[(0 : Nat)]? with | some .raw => if G.length = n then fa G else .fail | _ => .fail) := rfl
@[simp] theorem ev_unraw : unraw .raw = .un := rfl
@[simp] theorem ev_unrawP : unraw (.pl d) = .pl d := rfl
@[simp] theorem ev_unrawO : unraw (.ow ds) = .ow ds := rfl
@[simp] theorem ev_unrawU : unraw .un = .un := rfl
@[simp] theorem ev_frz : frz i S = (match S[i]? with | some (.ow xs) => S.set i (.pl (.lst xs)) | _ => S) := rfl
@[simp] theorem ev_prm : prm i S G = (match S[i]? with | some (.ow xs) => (S.set i (.pl (.ref G.length)), G ++ [xs]) | _ => (S, G)) := rfl
@[simp] theorem ev_foN : foN S G = .ok none G := rfl
@[simp] theorem ev_foE : foE a S G = (a S G).bind fun x G => match x with | .int i => .ok (some i) G | _ => .fail := rfl
@[simp] theorem ev_fSlice {l k : FO} : fSlice a l k S G = (a S G).bind fun x G => (l S G).bind fun lo G => (k S G).bind fun hi G => opt (dSlice G x lo hi) G := rfl
@[simp] theorem rk_sliceT {lo hi : Option Int} : dSlice G (.tup xs) lo hi = some (.tup (cutD xs lo hi)) := id rfl
@[simp] theorem rk_sliceL {lo hi : Option Int} : dSlice G (.lst xs) lo hi = some (.lst (cutD xs lo hi)) := id rfl
@[simp] theorem rk_sliceS {lo hi : Option Int} : dSlice G (.scr xs) lo hi = some (.lst (cutD xs lo hi)) := id rfl
@[simp] theorem ev_iRng1 : iRng1F a S G = (a S G).bind fun x G => match x with
  | .int n => if -(2 ^ 62) ≤ n ∧ n < 2 ^ 62 then .ok ((List.range n.toNat).map fun (k : Nat) => D.int k) G else .fail
  | _ => .fail := rfl
@[simp] theorem ev_iZip : iZipF a b S G = (a S G).bind fun x G => (b S G).bind fun z G => match x, z with
  | .tup xs, .tup zs => .ok (List.zipWith (fun x z => D.tup [x, z]) xs zs) G
  | .lst xs, .lst zs => .ok (List.zipWith (fun x z => D.tup [x, z]) xs zs) G
  | _, _ => .fail := rfl
@[simp] theorem ev_fDict1 {k : Int} : fDict1 k i S G = (match S[i]? with | some (.pl d) => .ok (.dct [.inl k] [d]) G | _ => .fail) := rfl
@[simp] theorem rk_rev : dRevT G (.tup xs) = some (.tup xs.reverse) := id rfl
@[simp] theorem rk_list : dList G [.tup xs] = some xs := id rfl
@[simp] theorem ev_retE {R : Type} {k : D → GS → Res R} {y : String} {p} : (Res.exc y p G : Res D).bind k = .exc y p G := rfl
@[simp] theorem rk_isi_int (h : x.tyN ≠ "") : dIsi G [x, .ty "int"] = some (.bl (isiB x.tyN "int")) := gd_true ⟨h, rfl⟩
@[simp] theorem rk_isi_bool (h : x.tyN ≠ "") : dIsi G [x, .ty "bool"] = some (.bl (isiB x.tyN "bool")) := gd_true ⟨h, rfl⟩
@[simp] theorem rk_isi_str (h : x.tyN ≠ "") : dIsi G [x, .ty "str"] = some (.bl (isiB x.tyN "str")) := gd_true ⟨h, rfl⟩
@[simp] theorem rk_isi_tuple (h : x.tyN ≠ "") : dIsi G [x, .ty "tuple"] = some (.bl (isiB x.tyN "tuple")) := gd_true ⟨h, rfl⟩
@[simp] theorem rk_isi_list (h : x.tyN ≠ "") : dIsi G [x, .ty "list"] = some (.bl (isiB x.tyN "list")) := gd_true ⟨h, rfl⟩
@[simp] theorem rk_isi_dict (h : x.tyN ≠ "") : dIsi G [x, .ty "dict"] = some (.bl (isiB x.tyN "dict")) := gd_true ⟨h, rfl⟩
@[simp] theorem rk_isi_tl (h : x.tyN ≠ "") : dIsi G [x, .tup [.ty "tuple", .ty "list"]] = some (.bl (isiB x.tyN "tuple" || isiB x.tyN "list")) := by
  unfold dIsi
  simp [h, tyNs, askd]
@[simp] theorem askd1 : askd "int" = true := id rfl
@[simp] theorem askd2 : askd "bool" = true := id rfl
@[simp] theorem askd3 : askd "str" = true := id rfl
@[simp] theorem askd4 : askd "tuple" = true := id rfl
@[simp] theorem askd5 : askd "list" = true := id rfl
@[simp] theorem askd6 : askd "dict" = true := id rfl
@[simp] theorem ty_non : D.tyN .non = "NoneType" := id rfl
@[simp] theorem ty_bl {k : Bool} : D.tyN (.bl k) = "bool" := id rfl
@[simp] theorem ty_int {k : Int} : D.tyN (.int k) = "int" := id rfl
@[simp] theorem ty_str {k : String} : D.tyN (.str k) = "str" := id rfl
@[simp] theorem ty_tup : D.tyN (.tup xs) = "tuple" := id rfl
@[simp] theorem ty_lst : D.tyN (.lst xs) = "list" := id rfl
@[simp] theorem ty_scr : D.tyN (.scr xs) = "list" := id rfl
@[simp] theorem ty_dct {ks : List DKey} : D.tyN (.dct ks xs) = "dict" := id rfl
@[simp] theorem rk_isN : dIs G .non .non = some (.bl true) := id rfl
end
/-- a whole number, no bool -/
def D.isI : D → Bool
  | .int _ => true
  | _ => false
theorem isI_eq {x : D} (h : x.tyN ≠ "") : (isiB x.tyN "int" && !isiB x.tyN "bool") = x.isI := by
  cases x <;> first | rfl | (exact absurd rfl h)
theorem isI_ints : ∀ {xs : List D}, xs.all D.isI = true → ∃ ns : List Int, xs = ns.map .int
  | [], _ => ⟨[], rfl⟩
  | x :: xs, h => by
    simp only [List.all_cons, Bool.and_eq_true] at h
    obtain ⟨ns, rfl⟩ := isI_ints h.2
    cases x with
    | int i => exact ⟨i :: ns, rfl⟩
    | _ => exact absurd h.1 (by simp [D.isI])
theorem all_map_bl {p : D → Bool} {xs : List D} : asBs (xs.map fun x => D.bl (p x)) = some (xs.map p) := by
  induction xs with
  | nil => rfl
  | cons x r ih => simp only [List.map_cons, asBs, ih, Option.map_some]
theorem all_id {p : D → Bool} {xs : List D} : (xs.map p).all id = xs.all p := by
  rw [List.all_map]
  rfl
@[simp] theorem rk_allm {G : GS} {p : D → Bool} {xs : List D} : dAll G [.lst (xs.map fun x => D.bl (p x))] = some (.bl (xs.all p)) := by
  simp only [dAll, li_lst, Option.bind_some, all_map_bl, Option.map_some, all_id]
/-! loops -/
theorem for_inv {tg : FT1} {body : FS} (I : SS → GS → Prop) : ∀ {xs : List D} {S : SS} {G : GS}, I S G → (∀ x ∈ xs, ∀ S G, I S G → ∃ S1, tg x S = some S1 ∧ ∃ S2 G2, body S1 G = .nx S2 G2 ∧ I S2 G2) → ∃ S' G', forGo tg body xs S G = .nx S' G' ∧ I S' G'
  | [], S, G, h, _ => ⟨S, G, rfl, h⟩
  | x :: xs, S, G, h, hb => by
    obtain ⟨S1, h1, S2, G2, h2, h3⟩ := hb x List.mem_cons_self S G h
    obtain ⟨S', G', h4, h5⟩ := for_inv I (xs := xs) h3 fun y hy => hb y (List.mem_cons_of_mem _ hy)
    exact ⟨S', G', by unfold forGo; rw [h1]; show (body S1 G).seq _ = _; rw [h2]; exact h4, h5⟩
theorem for_find {tg : FT1} {body : FS} {G : GS} (I : SS → Prop) (p : D → Bool) (r : D → Rv) : ∀ {xs : List D} {S : SS}, I S → (∀ x ∈ xs, ∀ S, I S → ∃ S1, tg x S = some S1 ∧ ((p x = true ∧ body S1 G = .rt (r x) G) ∨ (p x = false ∧ ∃ S2, body S1 G = .nx S2 G ∧ I S2))) →
    (∃ x ∈ xs, p x = true ∧ forGo tg body xs S G = .rt (r x) G) ∨ ((∀ x ∈ xs, p x = false) ∧ ∃ S', forGo tg body xs S G = .nx S' G ∧ I S')
  | [], S, h, _ => .inr ⟨by simp, S, rfl, h⟩
  | x :: xs, S, h, hb => by
    obtain ⟨S1, h1, h2⟩ := hb x List.mem_cons_self S h
    rcases h2 with ⟨hp, h2⟩ | ⟨hp, S2, h2, h3⟩
    · exact .inl ⟨x, List.mem_cons_self, hp, by unfold forGo; rw [h1]; show (body S1 G).seq _ = _; rw [h2]; rfl⟩
    · have e : forGo tg body (x :: xs) S G = forGo tg body xs S2 G := by
        conv => lhs; unfold forGo
        rw [h1]
        show (body S1 G).seq _ = _
        rw [h2]
        rfl
      rcases for_find I p r (xs := xs) h3 fun y hy => hb y (List.mem_cons_of_mem _ hy) with ⟨y, hy, k1, k2⟩ | ⟨k1, k2⟩
      · exact .inl ⟨y, List.mem_cons_of_mem _ hy, k1, by rw [e]; exact k2⟩
      · refine .inr ⟨fun y hy => ?_, by rw [e]; exact k2⟩
        rcases List.mem_cons.mp hy with q | q
        · rw [q]; exact hp
        · exact k1 y q
/-- a comprehension that may change the cells -/
theorem lc_inv {tg : FT1} {fe : FE} {S : SS} (I : GS → Prop) (P : D → Prop) : ∀ {xs : List D} {G : GS}, I G → (∀ x ∈ xs, ∀ G, I G → ∃ S', tg x S = some S' ∧ ∃ d G', fe S' G = .ok d G' ∧ I G' ∧ P d) → ∃ ds G', lcGo tg tYesF fe S xs G = .ok ds G' ∧ I G' ∧ ds.length = xs.length ∧ ∀ d ∈ ds, P d
  | [], G, h, _ => ⟨[], G, rfl, h, rfl, by simp⟩
  | x :: xs, G, h, hb => by
    obtain ⟨S', h1, d, G1, h2, h3, h4⟩ := hb x List.mem_cons_self G h
    obtain ⟨ds, G', k1, k2, k3, k4⟩ := lc_inv I P (xs := xs) h3 fun y hy => hb y (List.mem_cons_of_mem _ hy)
    refine ⟨d :: ds, G', ?_, k2, by rw [List.length_cons, List.length_cons, k3], fun z hz => ?_⟩
    · simp only [lcGo, h1, tYesF, nox_ok, bind_ok, if_true, h2, k1]
    · rcases List.mem_cons.mp hz with q | q
      · rw [q]; exact h4
      · exact k4 z q
@[simp] theorem SL_eq : SL = 16777216 := id rfl
@[simp] theorem forGo_nil {tg : FT1} {body : FS} {S : SS} {G : GS} : forGo tg body [] S G = .nx S G := rfl
@[simp] theorem forGo_cons {tg : FT1} {body : FS} {x : D} {xs : List D} {S : SS} {G : GS} : forGo tg body (x :: xs) S G = (match tg x S with | none => .fail | some S' => (body S' G).seq (forGo tg body xs)) := rfl
@[simp] theorem rk_sorted {G : GS} {ns : List Int} : dSorted G [.lst (ns.map .int)] = some ((isort ns).map .int) := by
  simp [dSorted]
theorem isort_mem {ns : List Int} {x : Int} : x ∈ isort ns ↔ x ∈ ns := List.mem_mergeSort
theorem isort_len {ns : List Int} : (isort ns).length = ns.length := List.length_mergeSort _
@[simp] theorem rk_allT {α : Type} {G : GS} {f : α → D} {xs : List α} : dAll G [.lst (xs.map ((fun _ => D.bl true) ∘ f))] = some (.bl true) := by
  have e : asBs (xs.map ((fun _ => D.bl true) ∘ f)) = some (xs.map fun _ => true) := by
    induction xs with
    | nil => rfl
    | cons x r ih => simp only [List.map_cons, Function.comp, asBs, ih, Option.map_some] <;> rfl
  simp only [dAll, li_lst, Option.bind_some, e, Option.map_some]
  simp
@[simp] theorem rk_allR {G : GS} {n : Nat} : dAll G [.lst (List.replicate n (.bl true))] = some (.bl true) := by
  have e : asBs (List.replicate n (D.bl true)) = some (List.replicate n true) := by
    induction n with
    | zero => rfl
    | succ n ih => simp only [List.replicate_succ, asBs, ih, Option.map_some]
  simp only [dAll, li_lst, Option.bind_some, e, Option.map_some]
  simp
@[simp] theorem ev_xNil {S : SS} {G : GS} : xNil S G = .ok [] G := rfl
@[simp] theorem ev_xPl {a : FE} {r : FAx} {S : SS} {G : GS} : xPl a r S G = (a S G).bind fun d G => (r S G).bind fun xs G => .ok (.pl d :: xs) G := rfl
@[simp] theorem ev_xOw {a : FA} {r : FAx} {S : SS} {G : GS} : xOw a r S G = (a S G).bind fun d G => (r S G).bind fun xs G => .ok (.ow d :: xs) G := rfl
@[simp] theorem ev_sPar2 {i j : Nat} {x : FAx} {S : SS} {G : GS} : sPar2 i j x S G = (x S G).thn S fun xs G => match xs with | [s, t] => .nx ((S.set i s).set j t) G | _ => .fail := rfl
@[simp] theorem ev_sPar3 {i j l : Nat} {x : FAx} {S : SS} {G : GS} : sPar3 i j l x S G = (x S G).thn S fun xs G => match xs with | [s, t, u] => .nx (((S.set i s).set j t).set l u) G | _ => .fail := rfl
/-- a loop that gathers: st acc c is the state, c what the target left -/
theorem for_fold {β : Type} {tg : FT1} {body : FS} {G : GS} {f : β → D → β} (I : β → Prop) (st : β → SS → Prop) : ∀ {xs : List D} {b : β} {S : SS}, I b → st b S → (∀ x ∈ xs, ∀ b S, I b → st b S → I (f b x) ∧ ∃ S1, tg x S = some S1 ∧ ∃ S2, body S1 G = .nx S2 G ∧ st (f b x) S2) →
    ∃ S', forGo tg body xs S G = .nx S' G ∧ st (xs.foldl f b) S' ∧ I (xs.foldl f b)
  | [], b, S, hI, hS, _ => ⟨S, rfl, hS, hI⟩
  | x :: xs, b, S, hI, hS, hb => by
    obtain ⟨k1, S1, k2, S2, k3, k4⟩ := hb x List.mem_cons_self b S hI hS
    obtain ⟨S', k5, k6⟩ := for_fold I st (xs := xs) k1 k4 fun y hy => hb y (List.mem_cons_of_mem _ hy)
    refine ⟨S', ?_, k6⟩
    unfold forGo
    rw [k2]
    show (body S1 G).seq _ = _
    rw [k3]
    exact k5
@[simp] theorem rk_tuple {G : GS} {xs : List D} : dTuple G [.lst xs] = some (.tup xs) := id rfl
theorem cut_tail {x : D} {xs : List D} : cutD (x :: xs) (some 1) none = xs := by
  have h := HT.sIx_nat (x :: xs).length 0 1
  rw [show ((1 : Nat) : Int) = 1 from rfl] at h
  unfold Wd.cutD
  rw [h, HT.sIx_none, List.length_cons, Nat.min_eq_left (by omega)]
  simp
theorem cut_head {x : D} {xs : List D} : cutD (x :: xs) none (some 1) = [x] := by
  have h := HT.sIx_nat (x :: xs).length (x :: xs).length 1
  rw [show ((1 : Nat) : Int) = 1 from rfl] at h
  unfold Wd.cutD
  rw [h, HT.sIx_none, List.length_cons, Nat.min_eq_left (by omega)]
  simp
/-- a while loop that leaves the cells alone -/
theorem wh_go {t : FT} {b : FS} {G : GS} (I : Nat → SS → Prop) (P : SS → Prop) (h : ∀ n S, I n S → (t S G = .ok false G ∧ P S) ∨ (t S G = .ok true G ∧ ∃ S' m, m < n ∧ b S G = .nx S' G ∧ I m S')) : ∀ n S, I n S → ∃ S', sWhile t b S G = .nx S' G ∧ P S' := by
  have key : ∀ n S, I n S → ∃ k S', whN t b k S G = .nx S' G ∧ P S' := by
    intro n
    induction n using Nat.strongRecOn with
    | ind n ih =>
      intro S hS
      rcases h n S hS with ⟨h1, h2⟩ | ⟨h1, S', m, hm, h2, h3⟩
      · refine ⟨1, S, ?_, h2⟩
        unfold whN
        rw [h1]
        rfl
      · obtain ⟨k, S2, h4, h5⟩ := ih m hm S' h3
        refine ⟨k + 1, S2, ?_, h5⟩
        unfold whN
        rw [h1]
        simp only [thn_ok, if_true]
        rw [h2]
        exact h4
  intro n S hS
  obtain ⟨k, S', h1, h2⟩ := key n S hS
  exact ⟨S', sWhile_of h1 (by simp), h2⟩
end Wd
namespace K72
open PySem PySem.Spec PyProof.Rows L2 Wd
def top (i : Nat) : Stmt := PySem.Challenge.pw_wordhouse_k72_whole_clamps_behind.main.body.getD i (.Pass ⟨0, 0, 0, 0⟩)
abbrev CS : List String := ["BadClamp", "BadNumber"]
abbrev XS : List String := ["BadClamp", "BadNumber"]
abbrev st__law_hand : Stmt := top 21
abbrev N__law_hand : List Str := ["script", "cells", "cell"]
theorem sc__law_hand : FnScope N__law_hand ["script"] (defScope st__law_hand) := ⟨rfl, rfl, rfl, by decide +kernel, rfl, by decide +kernel, by decide +kernel⟩
abbrev st__law_draw : Stmt := top 22
abbrev N__law_draw : List Str := ["hand", "many", "cell", "digit", "number"]
theorem sc__law_draw : FnScope N__law_draw ["hand", "many"] (defScope st__law_draw) := ⟨rfl, rfl, rfl, by decide +kernel, rfl, by decide +kernel, by decide +kernel⟩
abbrev st__law_any : Stmt := top 23
abbrev N__law_any : List Str := ["hand", "some"]
theorem sc__law_any : FnScope N__law_any ["hand", "some"] (defScope st__law_any) := ⟨rfl, rfl, rfl, by decide +kernel, rfl, by decide +kernel, by decide +kernel⟩
abbrev st__law_near : Stmt := top 26
abbrev N__law_near : List Str := ["hand", "wide"]
theorem sc__law_near : FnScope N__law_near ["hand"] (defScope st__law_near) := ⟨rfl, rfl, rfl, by decide +kernel, rfl, by decide +kernel, by decide +kernel⟩
abbrev st__law_clamp : Stmt := top 27
abbrev N__law_clamp : List Str := ["hand", "one", "other", "low", "high"]
theorem sc__law_clamp : FnScope N__law_clamp ["hand"] (defScope st__law_clamp) := ⟨rfl, rfl, rfl, by decide +kernel, rfl, by decide +kernel, by decide +kernel⟩
abbrev st__law_plain : Stmt := top 29
abbrev N__law_plain : List Str := ["clamp"]
theorem sc__law_plain : FnScope N__law_plain ["clamp"] (defScope st__law_plain) := ⟨rfl, rfl, rfl, by decide +kernel, rfl, by decide +kernel, by decide +kernel⟩
abbrev st__law_led : Stmt := top 28
abbrev N__law_led : List Str := ["clamp", "number"]
theorem sc__law_led : FnScope N__law_led ["clamp", "number"] (defScope st__law_led) := ⟨rfl, rfl, rfl, by decide +kernel, rfl, by decide +kernel, by decide +kernel⟩
abbrev st__law_behind : Stmt := top 30
abbrev N__law_behind : List Str := ["one", "other", "step", "low", "high"]
theorem sc__law_behind : FnScope N__law_behind ["one", "other"] (defScope st__law_behind) := ⟨rfl, rfl, rfl, by decide +kernel, rfl, by decide +kernel, by decide +kernel⟩
abbrev st_is_integer : Stmt := top 1
abbrev N_is_integer : List Str := ["thing"]
theorem sc_is_integer : FnScope N_is_integer ["thing"] (defScope st_is_integer) := ⟨rfl, rfl, rfl, by decide +kernel, rfl, by decide +kernel, by decide +kernel⟩
abbrev st_are_integers : Stmt := top 3
abbrev N_are_integers : List Str := ["thing", "item"]
theorem sc_are_integers : FnScope N_are_integers ["thing"] (defScope st_are_integers) := ⟨rfl, rfl, rfl, by decide +kernel, rfl, by decide +kernel, by decide +kernel⟩
abbrev st_is_clamp : Stmt := top 10
abbrev N_is_clamp : List Str := ["thing", "one"]
theorem sc_is_clamp : FnScope N_is_clamp ["thing"] (defScope st_is_clamp) := ⟨rfl, rfl, rfl, by decide +kernel, rfl, by decide +kernel, by decide +kernel⟩
abbrev st_check_clamp : Stmt := top 11
abbrev N_check_clamp : List Str := ["clamp"]
theorem sc_check_clamp : FnScope N_check_clamp ["clamp"] (defScope st_check_clamp) := ⟨rfl, rfl, rfl, by decide +kernel, rfl, by decide +kernel, by decide +kernel⟩
abbrev st_plain : Stmt := top 16
abbrev N_plain : List Str := ["clamp"]
theorem sc_plain : FnScope N_plain ["clamp"] (defScope st_plain) := ⟨rfl, rfl, rfl, by decide +kernel, rfl, by decide +kernel, by decide +kernel⟩
abbrev st_behind_of : Stmt := top 15
abbrev N_behind_of : List Str := ["one", "other", "step", "low", "high"]
theorem sc_behind_of : FnScope N_behind_of ["one", "other"] (defScope st_behind_of) := ⟨rfl, rfl, rfl, by decide +kernel, rfl, by decide +kernel, by decide +kernel⟩
abbrev st_all_behind : Stmt := top 17
abbrev N_all_behind : List Str := ["clamps", "clamp", "found"]
theorem sc_all_behind : FnScope N_all_behind ["clamps"] (defScope st_all_behind) := ⟨rfl, rfl, rfl, by decide +kernel, rfl, by decide +kernel, by decide +kernel⟩
abbrev st__law_is : Stmt := top 24
abbrev N__law_is : List Str := ["said", "due", "one", "other"]
theorem sc__law_is : FnScope N__law_is ["said", "due"] (defScope st__law_is) := ⟨rfl, rfl, rfl, by decide +kernel, rfl, by decide +kernel, by decide +kernel⟩
abbrev st_clamp_behind : Stmt := top 14
abbrev N_clamp_behind : List Str := ["one", "other"]
theorem sc_clamp_behind : FnScope N_clamp_behind ["one", "other"] (defScope st_clamp_behind) := ⟨rfl, rfl, rfl, by decide +kernel, rfl, by decide +kernel, by decide +kernel⟩
abbrev st__law_row_right : Stmt := top 33
abbrev N__law_row_right : List Str := ["hand", "row", "due", "clamp", "first", "second", "third", "before", "behind", "at"]
theorem sc__law_row_right : FnScope N__law_row_right ["hand"] (defScope st__law_row_right) := ⟨rfl, rfl, rfl, by decide +kernel, rfl, by decide +kernel, by decide +kernel⟩
abbrev st_check_number : Stmt := top 12
abbrev N_check_number : List Str := ["number"]
theorem sc_check_number : FnScope N_check_number ["number"] (defScope st_check_number) := ⟨rfl, rfl, rfl, by decide +kernel, rfl, by decide +kernel, by decide +kernel⟩
abbrev st_clamp_led : Stmt := top 13
abbrev N_clamp_led : List Str := ["clamp", "number"]
theorem sc_clamp_led : FnScope N_clamp_led ["clamp", "number"] (defScope st_clamp_led) := ⟨rfl, rfl, rfl, by decide +kernel, rfl, by decide +kernel, by decide +kernel⟩
abbrev st__law_pair_right : Stmt := top 32
abbrev N__law_pair_right : List Str := ["hand", "one", "other", "told", "number"]
theorem sc__law_pair_right : FnScope N__law_pair_right ["hand", "one", "other"] (defScope st__law_pair_right) := ⟨rfl, rfl, rfl, by decide +kernel, rfl, by decide +kernel, by decide +kernel⟩
abbrev st__law_deep : Stmt := top 25
abbrev N__law_deep : List Str := ["hand", "found", "turn"]
theorem sc__law_deep : FnScope N__law_deep ["hand"] (defScope st__law_deep) := ⟨rfl, rfl, rfl, by decide +kernel, rfl, by decide +kernel, by decide +kernel⟩
abbrev st__law_raised : Stmt := top 36
abbrev N__law_raised : List Str := ["call", "e", "flags", "words"]
theorem sc__law_raised : FnScope N__law_raised ["call"] (defScope st__law_raised) := ⟨rfl, rfl, rfl, by decide +kernel, rfl, by decide +kernel, by decide +kernel⟩
abbrev st_is_within : Stmt := top 2
abbrev N_is_within : List Str := ["thing", "low", "high"]
theorem sc_is_within : FnScope N_is_within ["thing", "low", "high"] (defScope st_is_within) := ⟨rfl, rfl, rfl, by decide +kernel, rfl, by decide +kernel, by decide +kernel⟩
abbrev st_clamp_often : Stmt := top 19
abbrev N_clamp_often : List Str := ["clamp", "many", "found", "here", "left"]
theorem sc_clamp_often : FnScope N_clamp_often ["clamp", "many"] (defScope st_clamp_often) := ⟨rfl, rfl, rfl, by decide +kernel, rfl, by decide +kernel, by decide +kernel⟩
abbrev st_steps_clamps : Stmt := top 18
abbrev N_steps_clamps : List Str := ["steps", "low", "high", "one", "step"]
theorem sc_steps_clamps : FnScope N_steps_clamps ["steps", "low", "high"] (defScope st_steps_clamps) := ⟨rfl, rfl, rfl, by decide +kernel, rfl, by decide +kernel, by decide +kernel⟩
abbrev st__law_refused : Stmt := top 37
abbrev N__law_refused : List Str := ["hand", "bad", "far", "right", "words", "odd"]
theorem sc__law_refused : FnScope N__law_refused ["hand"] (defScope st__law_refused) := ⟨rfl, rfl, rfl, by decide +kernel, rfl, by decide +kernel, by decide +kernel⟩
abbrev st__law_steps_right : Stmt := top 35
abbrev N__law_steps_right : List Str := ["hand", "steps", "clamp", "due", "at", "step"]
theorem sc__law_steps_right : FnScope N__law_steps_right ["hand"] (defScope st__law_steps_right) := ⟨rfl, rfl, rfl, by decide +kernel, rfl, by decide +kernel, by decide +kernel⟩
abbrev st__law_often : Stmt := top 31
abbrev N__law_often : List Str := ["clamp", "many", "found", "power"]
theorem sc__law_often : FnScope N__law_often ["clamp", "many"] (defScope st__law_often) := ⟨rfl, rfl, rfl, by decide +kernel, rfl, by decide +kernel, by decide +kernel⟩
abbrev st__law_often_right : Stmt := top 34
abbrev N__law_often_right : List Str := ["hand", "clamp", "many", "few"]
theorem sc__law_often_right : FnScope N__law_often_right ["hand"] (defScope st__law_often_right) := ⟨rfl, rfl, rfl, by decide +kernel, rfl, by decide +kernel, by decide +kernel⟩
abbrev st_law : Stmt := top 38
abbrev N_law : List Str := ["script", "hand", "turn", "found"]
theorem sc_law : FnScope N_law ["script"] (defScope st_law) := ⟨rfl, rfl, rfl, by decide +kernel, rfl, by decide +kernel, by decide +kernel⟩
def b__law_hand : FS := (sSeq (sSet 1 (fz (fLc (iSeq (fSlice (fVar 0) foN (foE (fC (.int 63))))) [2] (gN 2) tYesF (fB dAbs (fCons (fB dInt (fCons (fVar 2) fNil)) fNil)))))
  (sRetO (fDisp (fCons (fVar 1) (fCons (fC (.int 0)) (fCons (fC (.int 0)) (fCons (fBin dAdd (fC (.int 101)) (fBin dMul (fC (.int 7)) (fB dLen (fCons (fVar 1) fNil)))) (fCons (fC (.int 0)) fNil))))))))
def d__law_hand : FD := runD 1 3 b__law_hand
def b__law_draw : FS := (sSeq (sIf (tAndF (tVal (fBin dEq (fBin dIx (fVar 0) (fC (.int 2))) (fC (.int 0)))) (tVal (fBin dLt (fBin dIx (fVar 0) (fC (.int 1))) (fB dLen (fCons (fBin dIx (fVar 0) (fC (.int 0))) fNil)))))
  (sSeq (sSet 2 (fBin dIx (fBin dIx (fVar 0) (fC (.int 0))) (fBin dIx (fVar 0) (fC (.int 1)))))
  (sSeq (sSto (fBin dAdd (fBin dIx (fVar 0) (fC (.int 1))) (fC (.int 1))) (fVar 0) (fC (.int 1)))
  (sSeq (sSto (fBin dMod (fB dInt (fCons (fBin dAdd (fBin dAdd (fBin dMul (fBin dIx (fVar 0) (fC (.int 3))) (fC (.int 69621))) (fBin dMul (fVar 2) (fC (.int 40692)))) (fC (.int 23))) fNil)) (fC (.int 2147483629))) (fVar 0) (fC (.int 3)))
  (sIf (tVal (fBin dGe (fVar 2) (fBin dPow (fC (.int 10)) (fC (.int 18)))))
  (sSto (fVar 2) (fVar 0) (fC (.int 2)))
  sNil))))
  sNil)
  (sSeq (sIf (tVal (fBin dGt (fBin dIx (fVar 0) (fC (.int 2))) (fC (.int 0))))
  (sSeq (sSet 3 (fBin dMod (fB dInt (fCons (fBin dIx (fVar 0) (fC (.int 2))) fNil)) (fVar 1)))
  (sSeq (sSto (fBin dFdiv (fBin dIx (fVar 0) (fC (.int 2))) (fVar 1)) (fVar 0) (fC (.int 2)))
  (sRet (fVar 3))))
  sNil)
  (sSeq (sSto (fBin dAdd (fBin dIx (fVar 0) (fC (.int 4))) (fC (.int 1))) (fVar 0) (fC (.int 4)))
  (sSeq (sSet 4 (fBin dMod (fB dInt (fCons (fBin dMul (fB dInt (fCons (fBin dAdd (fBin dIx (fVar 0) (fC (.int 3))) (fBin dMul (fC (.int 7919)) (fBin dIx (fVar 0) (fC (.int 4))))) fNil)) (fC (.int 48271))) fNil)) (fC (.int 2147483647))))
  (sSeq (sSet 4 (fBin dMod (fB dInt (fCons (fBin dMul (fVar 4) (fBin dAdd (fBin dFdiv (fVar 4) (fC (.int 1009))) (fC (.int 69621)))) fNil)) (fC (.int 2147483647))))
  (sSeq (sSet 4 (fBin dMod (fB dInt (fCons (fBin dMul (fVar 4) (fBin dAdd (fBin dFdiv (fVar 4) (fC (.int 2003))) (fC (.int 40014)))) fNil)) (fC (.int 2147483563))))
  (sRet (fBin dMod (fB dInt (fCons (fBin dFdiv (fVar 4) (fC (.int 16))) fNil)) (fVar 1)))))))))
def d__law_draw : FD := runD 2 5 b__law_draw
def b__law_any : FS := (sRet (fBin dIx (fVar 1) (fCall (d__law_draw) (fCons (fVar 0) (fCons (fB dLen (fCons (fVar 1) fNil)) fNil)))))
def d__law_any : FD := runD 2 2 b__law_any
def b__law_near : FS := (sSeq (sSet 1 (fCall (d__law_any) (fCons (fVar 0) (fCons (fz (fDisp (fCons (fC (.int 1)) (fCons (fC (.int 3)) (fCons (fC (.int 20)) (fCons (fC (.int 1000)) (fCons (fBin dPow (fC (.int 10)) (fC (.int 18))) fNil))))))) fNil))))
  (sRet (fCall (d__law_any) (fCons (fVar 0) (fCons (fz (fDisp (fCons (fBin dSub (fCall (d__law_draw) (fCons (fVar 0) (fCons (fBin dAdd (fBin dMul (fC (.int 2)) (fVar 1)) (fC (.int 1))) fNil))) (fVar 1)) (fCons (fC (.int 0)) (fCons (fBin dSub (fCall (d__law_draw) (fCons (fVar 0) (fCons (fC (.int 7)) fNil))) (fC (.int 3))) (fCons (fVar 1) (fCons (fBin dSub (fC (.int 0)) (fVar 1)) fNil))))))) fNil)))))
def d__law_near : FD := runD 1 2 b__law_near
def b__law_clamp : FS := (sSeq (sPar 1 2 (fCall (d__law_near) (fCons (fVar 0) fNil)) (fCall (d__law_near) (fCons (fVar 0) fNil)))
  (sSeq (sPar 3 4 (fB dMin2 (fCons (fVar 1) (fCons (fVar 2) fNil))) (fB dMax2 (fCons (fVar 1) (fCons (fVar 2) fNil))))
  (sRet (fCall (d__law_any) (fCons (fVar 0) (fCons (fz (fDisp (fCons (fTup (fCons (fCall (d__law_near) (fCons (fVar 0) fNil)) (fCons (fVar 3) (fCons (fVar 4) fNil)))) (fCons (fTup (fCons (fCall (d__law_near) (fCons (fVar 0) fNil)) (fCons (fVar 3) (fCons (fVar 4) fNil)))) (fCons (fTup (fCons (fCall (d__law_near) (fCons (fVar 0) fNil)) (fCons (fVar 3) (fCons (fVar 3) fNil)))) fNil))))) fNil))))))
def d__law_clamp : FD := runD 1 5 b__law_clamp
def b__law_plain : FS := (sRet (eIfF (tVal (fBin dLt (fBin dIx (fVar 0) (fC (.int 1))) (fBin dIx (fVar 0) (fC (.int 2))))) (fVar 0) (fTup (fCons (fC (.int 0)) (fCons (fBin dIx (fVar 0) (fC (.int 1))) (fCons (fBin dIx (fVar 0) (fC (.int 2))) fNil))))))
def d__law_plain : FD := runD 1 1 b__law_plain
def b__law_led : FS := (sRet (fB dMax2 (fCons (fBin dIx (fVar 0) (fC (.int 1))) (fCons (fB dMin2 (fCons (fBin dIx (fVar 0) (fC (.int 2))) (fCons (fBin dAdd (fVar 1) (fBin dIx (fVar 0) (fC (.int 0)))) fNil))) fNil))))
def d__law_led : FD := runD 2 2 b__law_led
def b__law_behind : FS := (sSeq (sPar3 2 3 4 (xPl (fBin dAdd (fBin dIx (fVar 0) (fC (.int 0))) (fBin dIx (fVar 1) (fC (.int 0)))) (xPl (fCall (d__law_led) (fCons (fVar 1) (fCons (fBin dIx (fVar 0) (fC (.int 1))) fNil))) (xPl (fCall (d__law_led) (fCons (fVar 1) (fCons (fBin dIx (fVar 0) (fC (.int 2))) fNil))) xNil))))
  (sRet (fCall (d__law_plain) (fCons (fTup (fCons (fVar 2) (fCons (fVar 3) (fCons (fVar 4) fNil)))) fNil))))
def d__law_behind : FD := runD 2 5 b__law_behind
def b_is_integer : FS := (sRet (eAndF (fB dIsi (fCons (fVar 0) (fCons (fC (.ty "int")) fNil))) (eNotF (fB dIsi (fCons (fVar 0) (fCons (fC (.ty "bool")) fNil))))))
def d_is_integer : FD := runD 1 1 b_is_integer
def b_are_integers : FS := (sRet (eAndF (fB dIsi (fCons (fVar 0) (fCons (fC (.ty "tuple")) fNil))) (fB dAll (fCons (fz (fLc (iSeq (fVar 0)) [1] (gN 1) tYesF (fCall (d_is_integer) (fCons (fVar 1) fNil)))) fNil))))
def d_are_integers : FD := runD 1 2 b_are_integers
def le1_is_clamp : FE := (fBin dLe (fB dAbs (fCons (fVar 1) fNil)) (fC (.int 1000000000000000000)))
def b_is_clamp : FS := (sSeq (sIf (tOrF (tNotF (tVal (fCall (d_are_integers) (fCons (fVar 0) fNil)))) (tOrF (tVal (fBin dNe (fB dLen (fCons (fVar 0) fNil)) (fC (.int 3)))) (tNotF (tVal (fB dAll (fCons (fz (fLc (iSeq (fVar 0)) [1] (gN 1) tYesF le1_is_clamp)) fNil))))))
  (sRet (fC (.bl false)))
  sNil)
  (sRet (fBin dLe (fBin dIx (fVar 0) (fC (.int 1))) (fBin dIx (fVar 0) (fC (.int 2))))))
def d_is_clamp : FD := runD 1 2 b_is_clamp
def b_check_clamp : FS := (sIf (tNotF (tVal (fCall (d_is_clamp) (fCons (fVar 0) fNil))))
  (sExc "BadClamp")
  sNil)
def d_check_clamp : FD := runD 1 1 b_check_clamp
def b_plain : FS := (sRet (eIfF (tVal (fBin dEq (fBin dIx (fVar 0) (fC (.int 1))) (fBin dIx (fVar 0) (fC (.int 2))))) (fTup (fCons (fC (.int 0)) (fCons (fBin dIx (fVar 0) (fC (.int 1))) (fCons (fBin dIx (fVar 0) (fC (.int 2))) fNil)))) (fVar 0)))
def d_plain : FD := runD 1 1 b_plain
def b_behind_of : FS := (sSeq (sSet 2 (fBin dAdd (fBin dIx (fVar 0) (fC (.int 0))) (fBin dIx (fVar 1) (fC (.int 0)))))
  (sSeq (sSet 3 (fB dMax2 (fCons (fBin dIx (fVar 1) (fC (.int 1))) (fCons (fB dMin2 (fCons (fBin dIx (fVar 1) (fC (.int 2))) (fCons (fBin dAdd (fBin dIx (fVar 0) (fC (.int 1))) (fBin dIx (fVar 1) (fC (.int 0)))) fNil))) fNil))))
  (sSeq (sSet 4 (fB dMax2 (fCons (fBin dIx (fVar 1) (fC (.int 1))) (fCons (fB dMin2 (fCons (fBin dIx (fVar 1) (fC (.int 2))) (fCons (fBin dAdd (fBin dIx (fVar 0) (fC (.int 2))) (fBin dIx (fVar 1) (fC (.int 0)))) fNil))) fNil))))
  (sRet (fCall (d_plain) (fCons (fTup (fCons (fVar 2) (fCons (fVar 3) (fCons (fVar 4) fNil)))) fNil))))))
def d_behind_of : FD := runD 2 5 b_behind_of
def lb1_all_behind : FS := (sDrop (fCall (d_check_clamp) (fCons (fVar 1) fNil)))
def lb2_all_behind : FS := (sSet 2 (fCall (d_behind_of) (fCons (fVar 2) (fCons (fVar 1) fNil))))
def b_all_behind : FS := (sSeq (sIf (tOrF (tNotF (tVal (fB dIsi (fCons (fVar 0) (fCons (fC (.ty "tuple")) fNil))))) (tNotF (tVal (eChain dLe dLe (fC (.int 1)) (fB dLen (fCons (fVar 0) fNil)) (fC (.int 2000))))))
  (sExc "BadClamp")
  sNil)
  (sSeq (sFor (iSeq (fVar 0)) (gN 1)
  lb1_all_behind)
  (sSeq (sSet 2 (fCall (d_plain) (fCons (fBin dIx (fVar 0) (fC (.int 0))) fNil)))
  (sSeq (sFor (iSeq (fSlice (fVar 0) (foE (fC (.int 1))) foN)) (gN 1)
  lb2_all_behind)
  (sRet (fVar 2))))))
def d_all_behind : FD := runD 1 3 b_all_behind
def b__law_is (rec : FD) : FS := (sSeq (sIf (tVal (fB dIsi (fCons (fVar 1) (fCons (fTup (fCons (fC (.ty "tuple")) (fCons (fC (.ty "list")) fNil))) fNil))))
  (sSeq (sIf (tOrF (tVal (fBin dNe (fB dIsi (fCons (fVar 0) (fCons (fC (.ty "tuple")) fNil))) (fB dIsi (fCons (fVar 1) (fCons (fC (.ty "tuple")) fNil))))) (tVal (fBin dNe (fB dIsi (fCons (fVar 0) (fCons (fC (.ty "list")) fNil))) (fB dIsi (fCons (fVar 1) (fCons (fC (.ty "list")) fNil))))))
  (sRet (fC (.bl false)))
  sNil)
  (sRet (eAndF (fBin dEq (fB dLen (fCons (fVar 0) fNil)) (fB dLen (fCons (fVar 1) fNil))) (fB dAll (fCons (fz (fLc (iZipF (fVar 0) (fVar 1)) [2, 3] (gTp 2 (gCs (gN 2) (gCs (gN 3) gNl))) tYesF (fCall rec (fCons (fVar 2) (fCons (fVar 3) fNil))))) fNil)))))
  sNil)
  (sSeq (sIf (tOrF (tVal (fBin dIs (fVar 1) (fC .non))) (tVal (fBin dIs (fVar 0) (fC .non))))
  (sRet (eAndF (fBin dIs (fVar 1) (fC .non)) (fBin dIs (fVar 0) (fC .non))))
  sNil)
  (sSeq (sIf (tOrF (tVal (fBin dNe (fB dIsi (fCons (fVar 0) (fCons (fC (.ty "bool")) fNil))) (fB dIsi (fCons (fVar 1) (fCons (fC (.ty "bool")) fNil))))) (tVal (fBin dNe (fB dIsi (fCons (fVar 0) (fCons (fC (.ty "int")) fNil))) (fB dIsi (fCons (fVar 1) (fCons (fC (.ty "int")) fNil))))))
  (sRet (fC (.bl false)))
  sNil)
  (sRet (eAndF (fBin dEq (fB dIsi (fCons (fVar 0) (fCons (fC (.ty "str")) fNil))) (fB dIsi (fCons (fVar 1) (fCons (fC (.ty "str")) fNil)))) (fBin dEq (fVar 0) (fVar 1)))))))
def d__law_is : Nat → FD
  | 0 => fun _ _ => .fail
  | n + 1 => runD 2 4 (b__law_is (d__law_is n))
def b_clamp_behind : FS := (sSeq (sDrop (fCall (d_check_clamp) (fCons (fVar 0) fNil)))
  (sSeq (sDrop (fCall (d_check_clamp) (fCons (fVar 1) fNil)))
  (sRet (fCall (d_behind_of) (fCons (fVar 0) (fCons (fVar 1) fNil))))))
def d_clamp_behind : FD := runD 2 2 b_clamp_behind
def lb1__law_row_right : FS := (sSet 2 (fCall (d__law_behind) (fCons (fVar 2) (fCons (fVar 3) fNil))))
def b__law_row_right : FS := (sSeq (sSet 1 (fB dTuple (fCons (fz (fLc (iRng1F (fBin dAdd (fC (.int 1)) (fCall (d__law_draw) (fCons (fVar 0) (fCons (fC (.int 40)) fNil))))) [9] (gN 9) tYesF (fCall (d__law_clamp) (fCons (fVar 0) fNil)))) fNil)))
  (sSeq (sSet 2 (fCall (d__law_plain) (fCons (fBin dIx (fVar 1) (fC (.int 0))) fNil)))
  (sSeq (sFor (iSeq (fSlice (fVar 1) (foE (fC (.int 1))) foN)) (gN 3)
  lb1__law_row_right)
  (sSeq (sIf (tOrF (tNotF (tVal (fCall (d__law_is 8) (fCons (fCall (d_all_behind) (fCons (fVar 1) fNil)) (fCons (fVar 2) fNil))))) (tVal (fBin dNe (fCall (d_all_behind) (fCons (fSlice (fVar 1) foN (foE (fC (.int 1)))) fNil)) (fCall (d__law_plain) (fCons (fBin dIx (fVar 1) (fC (.int 0))) fNil)))))
  (sRet (fC (.bl false)))
  sNil)
  (sSeq (sPar3 4 5 6 (xPl (fCall (d__law_clamp) (fCons (fVar 0) fNil)) (xPl (fCall (d__law_clamp) (fCons (fVar 0) fNil)) (xPl (fCall (d__law_clamp) (fCons (fVar 0) fNil)) xNil))))
  (sSeq (sPar 7 8 (fCall (d_clamp_behind) (fCons (fVar 4) (fCons (fVar 5) fNil))) (fCall (d_clamp_behind) (fCons (fVar 5) (fCons (fVar 6) fNil))))
  (sSeq (sIf (tAndF (tVal (fCall (d_is_clamp) (fCons (fVar 7) fNil))) (tAndF (tVal (fCall (d_is_clamp) (fCons (fVar 8) fNil))) (tVal (fBin dNe (fCall (d_clamp_behind) (fCons (fVar 7) (fCons (fVar 6) fNil))) (fCall (d_clamp_behind) (fCons (fVar 4) (fCons (fVar 8) fNil)))))))
  (sRet (fC (.bl false)))
  sNil)
  (sRet (fC (.bl true))))))))))
def d__law_row_right : FD := runD 1 10 b__law_row_right
def b_check_number : FS := (sIf (tOrF (tNotF (tVal (fCall (d_is_integer) (fCons (fVar 0) fNil)))) (tVal (fBin dGt (fB dAbs (fCons (fVar 0) fNil)) (fC (.int 1000000000000000000)))))
  (sExc "BadNumber")
  sNil)
def d_check_number : FD := runD 1 1 b_check_number
def b_clamp_led : FS := (sSeq (sDrop (fCall (d_check_clamp) (fCons (fVar 0) fNil)))
  (sSeq (sDrop (fCall (d_check_number) (fCons (fVar 1) fNil)))
  (sRet (fB dMax2 (fCons (fBin dIx (fVar 0) (fC (.int 1))) (fCons (fB dMin2 (fCons (fBin dIx (fVar 0) (fC (.int 2))) (fCons (fBin dAdd (fVar 1) (fBin dIx (fVar 0) (fC (.int 0)))) fNil))) fNil))))))
def d_clamp_led : FD := runD 2 2 b_clamp_led
def lb1__law_pair_right : FS := (sIf (tVal (fBin dLe (fB dAbs (fCons (fVar 4) fNil)) (fBin dPow (fC (.int 10)) (fC (.int 18)))))
  (sIf (tVal (fBin dNe (fCall (d__law_led) (fCons (fVar 3) (fCons (fVar 4) fNil))) (fCall (d_clamp_led) (fCons (fVar 2) (fCons (fCall (d_clamp_led) (fCons (fVar 1) (fCons (fVar 4) fNil))) fNil)))))
  (sRet (fC (.bl false)))
  sNil)
  sNil)
def b__law_pair_right : FS := (sSeq (sSet 3 (fCall (d_clamp_behind) (fCons (fVar 1) (fCons (fVar 2) fNil))))
  (sSeq (sIf (tNotF (tVal (fCall (d__law_is 8) (fCons (fVar 3) (fCons (fCall (d__law_behind) (fCons (fVar 1) (fCons (fVar 2) fNil))) fNil)))))
  (sRet (fC (.bl false)))
  sNil)
  (sSeq (sFor (iSeq (fTup (fCons (fCall (d__law_near) (fCons (fVar 0) fNil)) (fCons (fBin dIx (fVar 1) (fC (.int 1))) (fCons (fBin dIx (fVar 1) (fC (.int 2))) (fCons (fBin dSub (fBin dIx (fVar 2) (fC (.int 1))) (fBin dIx (fVar 1) (fC (.int 0)))) (fCons (fBin dPow (fC (.int 10)) (fC (.int 18))) (fCons (fBin dSub (fC (.int 0)) (fBin dPow (fC (.int 10)) (fC (.int 18)))) fNil)))))))) (gN 4)
  lb1__law_pair_right)
  (sRet (fC (.bl true))))))
def d__law_pair_right : FD := runD 3 5 b__law_pair_right
def lb1__law_deep : FS := (sSet 1 (fBin dIx (fz (fDisp (fCons (fTup (fCons (fVar 1) fNil)) (fCons (fz (fDisp (fCons (fVar 1) fNil))) (fCons (fDict1 0 1) fNil))))) (fCall (d__law_draw) (fCons (fVar 0) (fCons (fC (.int 3)) fNil)))))
def b__law_deep : FS := (sSeq (sSet 1 (fCall (d__law_any) (fCons (fVar 0) (fCons (fz (fDisp (fCons (fC .non) (fCons (fC (.str "?")) (fCons (fC (.bl true)) fNil))))) fNil))))
  (sSeq (sFor (iRng1F (fBin dAdd (fC (.int 1)) (fCall (d__law_draw) (fCons (fVar 0) (fCons (fC (.int 29)) fNil))))) (gN 2)
  lb1__law_deep)
  (sRet (fVar 1))))
def d__law_deep : FD := runD 1 3 b__law_deep
def b__law_raised (n : Nat) (fa : GS → Res D) : FS := (sSeq (sTry 1 CS (sDrop (fAct n fa)) fun c => (sSeq (sSet 2 (fz (fDisp (fCons (fIsE 1 (c == "BadClamp")) (fCons (fIsE 1 (c == "BadNumber")) fNil)))))
  (sSeq (sSet 3 (fz (fDisp (fCons (fC (.str "clamp")) (fCons (fC (.str "number")) fNil)))))
  (sRet (eIfF (tVal (fBin dEq (fM dCount (fVar 2) (fCons (fC (.bl true)) fNil)) (fC (.int 1)))) (fBin dIx (fVar 3) (fM dIndex (fVar 2) (fCons (fC (.bl true)) fNil))) (fC (.str "other")))))))
  (sRet (fC .non)))
def th__law_raised (fa : GS → Res D) (G : GS) : Res Rv := (b__law_raised G.length fa (.raw :: List.replicate (N__law_raised.length - 1) .un) G).fin G.length
def b_is_within : FS := (sRet (eAndF (fCall (d_is_integer) (fCons (fVar 0) fNil)) (eChain dLe dLe (fVar 1) (fVar 0) (fVar 2))))
def d_is_within : FD := runD 3 3 b_is_within
noncomputable def lb1_clamp_often : FS := (sSeq (sIf (tVal (fBin dEq (fBin dMod (fVar 4) (fC (.int 2))) (fC (.int 1))))
  (sSet 2 (eIfF (tVal (fBin dIs (fVar 2) (fC .non))) (fVar 3) (fCall (d_behind_of) (fCons (fVar 2) (fCons (fVar 3) fNil)))))
  sNil)
  (sPar 3 4 (fCall (d_behind_of) (fCons (fVar 3) (fCons (fVar 3) fNil))) (fBin dFdiv (fVar 4) (fC (.int 2)))))
noncomputable def b_clamp_often : FS := (sSeq (sDrop (fCall (d_check_clamp) (fCons (fVar 0) fNil)))
  (sSeq (sIf (tNotF (tVal (fCall (d_is_within) (fCons (fVar 1) (fCons (fC (.int 1)) (fCons (fBin dPow (fC (.int 10)) (fC (.int 6))) fNil))))))
  (sExc "BadNumber")
  sNil)
  (sSeq (sPar3 2 3 4 (xPl (fC .non) (xPl (fCall (d_plain) (fCons (fVar 0) fNil)) (xPl (fVar 1) xNil))))
  (sSeq (sWhile (tVal (fBin dGt (fVar 4) (fC (.int 0))))
  lb1_clamp_often)
  (sRet (fVar 2))))))
noncomputable def d_clamp_often : FD := runD 2 5 b_clamp_often
def le1_steps_clamps : FE := (fBin dLe (fB dAbs (fCons (fVar 3) fNil)) (fBin dPow (fC (.int 10)) (fC (.int 12))))
def le2_steps_clamps : FE := (fTup (fCons (fVar 4) (fCons (fVar 1) (fCons (fVar 2) fNil))))
def b_steps_clamps : FS := (sSeq (sIf (tOrF (tNotF (tVal (fCall (d_are_integers) (fCons (fVar 0) fNil)))) (tOrF (tVal (fBin dGt (fB dLen (fCons (fVar 0) fNil)) (fC (.int 2000)))) (tNotF (tVal (fB dAll (fCons (fz (fLc (iSeq (fVar 0)) [3] (gN 3) tYesF le1_steps_clamps)) fNil))))))
  (sExc "BadNumber")
  sNil)
  (sSeq (sIf (tNotF (tVal (fCall (d_is_clamp) (fCons (fTup (fCons (fC (.int 0)) (fCons (fVar 1) (fCons (fVar 2) fNil)))) fNil))))
  (sExc "BadClamp")
  sNil)
  (sRet (fB dTuple (fCons (fz (fLc (iSeq (fVar 0)) [4] (gN 4) tYesF le2_steps_clamps)) fNil)))))
def d_steps_clamps : FD := runD 3 5 b_steps_clamps
noncomputable def b__law_refused : FS := (sSeq (sSet 1 (fz (fDisp (fCons (fC .non) (fCons (fC (.int 0)) (fCons (fTup (fCons (fC (.int 0)) (fCons (fC (.int 1)) (fCons (fC (.int 0)) fNil)))) (fCons (fTup (fCons (fC (.int 0)) (fCons (fC (.int 0)) fNil))) (fCons (fz (fDisp (fCons (fC (.int 0)) (fCons (fC (.int 0)) (fCons (fC (.int 1)) fNil))))) (fCons (fTup (fCons (fC (.bl true)) (fCons (fC (.int 0)) (fCons (fC (.int 1)) fNil)))) (fCons (fTup (fCons (fC (.int 0)) (fCons (fC (.int 0)) (fCons (fBin dAdd (fBin dPow (fC (.int 10)) (fC (.int 18))) (fC (.int 1))) fNil)))) (fCons (fC (.dct [] [])) (fCons (fCall (d__law_deep) (fCons (fVar 0) fNil)) fNil))))))))))))
  (sSeq (sSet 1 (fCall (d__law_any) (fCons (fVar 0) (fCons (fVar 1) fNil))))
  (sSeq (sAsg (fTup (fCons (fCall (d__law_any) (fCons (fVar 0) (fCons (fz (fDisp (fCons (fC (.int 0)) (fCons (fUn dNeg (fC (.int 1))) (fCons (fBin dAdd (fBin dPow (fC (.int 10)) (fC (.int 6))) (fC (.int 1))) (fCons (fC .non) (fCons (fC (.bl true)) (fCons (fC (.str "2")) fNil)))))))) fNil))) (fCons (fTup (fCons (fC (.int 1)) (fCons (fC (.int 0)) (fCons (fC (.int 5)) fNil)))) fNil))) (gTp 2 (gCs (gN 2) (gCs (gN 3) gNl))))
  (sSeq (sSetO 4 (fDisp (fCons (fLam th__law_raised (fCall (d_clamp_behind) (fCons (fVar 1) (fCons (fVar 3) fNil)))) fNil)))
  (sSeq (sApp 4 (fLam th__law_raised (fCall (d_clamp_behind) (fCons (fVar 3) (fCons (fVar 1) fNil)))))
  (sSeq (sApp 4 (fLam th__law_raised (fCall (d_clamp_often) (fCons (fVar 1) (fCons (fVar 2) fNil)))))
  (sSeq (sApp 4 (fLam th__law_raised (fCall (d_clamp_often) (fCons (fVar 3) (fCons (fVar 2) fNil)))))
  (sSeq (sApp 4 (fLam th__law_raised (fCall (d_all_behind) (fCons (fCall (d__law_any) (fCons (fVar 0) (fCons (fz (fDisp (fCons (fC .non) (fCons (fC (.int 0)) (fCons (fz (fDisp (fCons (fVar 3) fNil))) (fCons (fTup (fCons (fVar 3) (fCons (fVar 1) fNil))) (fCons (fTup (fCons (fVar 1) fNil)) (fCons (fC (.dct [] [])) fNil)))))))) fNil))) fNil))))
  (sSeq (sSet 5 (fCall (d__law_any) (fCons (fVar 0) (fCons (fz (fDisp (fCons (fC .non) (fCons (fC (.int 0)) (fCons (fz (fDisp (fCons (fC (.int 1)) fNil))) (fCons (fTup (fCons (fBin dAdd (fBin dPow (fC (.int 10)) (fC (.int 12))) (fC (.int 1))) fNil)) (fCons (fTup (fCons (fC (.bl true)) fNil)) (fCons (fTup (fCons (fC (.str "1")) fNil)) (fCons (fTup (fCons (fC .non) fNil)) (fCons (fBin dMul (fTup (fCons (fC (.int 0)) fNil)) (fC (.int 2001))) (fCons (fC (.dct [] [])) fNil))))))))))) fNil))))
  (sSeq (sApp 4 (fLam th__law_raised (fCall (d_steps_clamps) (fCons (fVar 5) (fCons (fC (.int 1)) (fCons (fC (.int 0)) fNil))))))
  (sSeq (sApp 4 (fLam th__law_raised (fCall (d_steps_clamps) (fCons (fTup (fCons (fC (.int 1)) fNil)) (fCons (fCall (d__law_any) (fCons (fVar 0) (fCons (fz (fDisp (fCons (fC (.int 6)) (fCons (fC .non) (fCons (fC (.bl true)) (fCons (fBin dAdd (fBin dPow (fC (.int 10)) (fC (.int 18))) (fC (.int 1))) fNil)))))) fNil))) (fCons (fC (.int 5)) fNil))))))
  (sFrz 4 (sRet (fBin dEq (fVar 4) (fz (fDisp (fCons (fC (.str "clamp")) (fCons (fC (.str "clamp")) (fCons (fC (.str "clamp")) (fCons (fC (.str "number")) (fCons (fC (.str "clamp")) (fCons (fC (.str "number")) (fCons (fC (.str "clamp")) fNil)))))))))))))))))))))))
noncomputable def d__law_refused : FD := runD 1 6 b__law_refused
def le1__law_steps_right : FE := (fB dMax2 (fCons (fBin dSub (fC (.int 0)) (fBin dPow (fC (.int 10)) (fC (.int 12)))) (fCons (fB dMin2 (fCons (fBin dPow (fC (.int 10)) (fC (.int 12))) (fCons (fCall (d__law_near) (fCons (fVar 0) fNil)) fNil))) fNil)))
def le2__law_steps_right : FE := (fTup (fCons (fVar 5) (fCons (fBin dIx (fVar 2) (fC (.int 1))) (fCons (fBin dIx (fVar 2) (fC (.int 2))) fNil))))
def b__law_steps_right : FS := (sSeq (sSet 1 (fB dTuple (fCons (fz (fLc (iRng1F (fCall (d__law_draw) (fCons (fVar 0) (fCons (fC (.int 30)) fNil)))) [4] (gN 4) tYesF le1__law_steps_right)) fNil)))
  (sSeq (sSet 2 (fCall (d__law_clamp) (fCons (fVar 0) fNil)))
  (sSeq (sSet 3 (fB dTuple (fCons (fz (fLc (iSeq (fVar 1)) [5] (gN 5) tYesF le2__law_steps_right)) fNil)))
  (sRet (fCall (d__law_is 8) (fCons (fCall (d_steps_clamps) (fCons (fVar 1) (fCons (fBin dIx (fVar 2) (fC (.int 1))) (fCons (fBin dIx (fVar 2) (fC (.int 2))) fNil)))) (fCons (fVar 3) fNil)))))))
def d__law_steps_right : FD := runD 1 6 b__law_steps_right
noncomputable def lb1__law_often : FS := (sSeq (sIf (tVal (fBin dEq (fBin dMod (fB dInt (fCons (fVar 1) fNil)) (fC (.int 2))) (fC (.int 1))))
  (sSet 2 (eIfF (tVal (fBin dIs (fVar 2) (fC .non))) (fVar 3) (fCall (d__law_behind) (fCons (fVar 2) (fCons (fVar 3) fNil)))))
  sNil)
  (sPar 3 1 (fCall (d__law_behind) (fCons (fVar 3) (fCons (fVar 3) fNil))) (fBin dFdiv (fVar 1) (fC (.int 2)))))
noncomputable def b__law_often : FS := (sSeq (sPar 2 3 (fC .non) (fCall (d__law_plain) (fCons (fVar 0) fNil)))
  (sSeq (sWhile (tVal (fBin dGt (fVar 1) (fC (.int 0))))
  lb1__law_often)
  (sRet (fVar 2))))
noncomputable def d__law_often : FD := runD 2 4 b__law_often
noncomputable def b__law_often_right : FS := (sSeq (sSet 1 (fCall (d__law_clamp) (fCons (fVar 0) fNil)))
  (sSeq (sSet 2 (fCall (d__law_any) (fCons (fVar 0) (fCons (fz (fDisp (fCons (fC (.int 1)) (fCons (fC (.int 2)) (fCons (fBin dAdd (fC (.int 1)) (fCall (d__law_draw) (fCons (fVar 0) (fCons (fC (.int 9)) fNil)))) (fCons (fBin dAdd (fC (.int 1)) (fCall (d__law_draw) (fCons (fVar 0) (fCons (fBin dPow (fC (.int 10)) (fC (.int 6))) fNil)))) (fCons (fBin dPow (fC (.int 10)) (fC (.int 6))) fNil))))))) fNil))))
  (sSeq (sIf (tNotF (tVal (fCall (d__law_is 8) (fCons (fCall (d_clamp_often) (fCons (fVar 1) (fCons (fVar 2) fNil))) (fCons (fCall (d__law_often) (fCons (fVar 1) (fCons (fVar 2) fNil))) fNil)))))
  (sRet (fC (.bl false)))
  sNil)
  (sSeq (sSet 3 (fBin dAdd (fC (.int 1)) (fCall (d__law_draw) (fCons (fVar 0) (fCons (fC (.int 9)) fNil)))))
  (sRet (fBin dEq (fCall (d_clamp_often) (fCons (fVar 1) (fCons (fVar 3) fNil))) (fCall (d_all_behind) (fCons (fBin dMul (fTup (fCons (fVar 1) fNil)) (fVar 3)) fNil))))))))
noncomputable def d__law_often_right : FD := runD 1 4 b__law_often_right
noncomputable def lb1_law : FS := (sSeq (sIf (tOrF (tNotF (tVal (fCall (d__law_pair_right) (fCons (fVar 1) (fCons (fCall (d__law_clamp) (fCons (fVar 1) fNil)) (fCons (fCall (d__law_clamp) (fCons (fVar 1) fNil)) fNil)))))) (tNotF (tVal (fCall (d__law_row_right) (fCons (fVar 1) fNil)))))
  (sRet (fC (.bl false)))
  sNil)
  (sIf (tOrF (tNotF (tVal (fCall (d__law_often_right) (fCons (fVar 1) fNil)))) (tOrF (tNotF (tVal (fCall (d__law_steps_right) (fCons (fVar 1) fNil)))) (tNotF (tVal (fCall (d__law_refused) (fCons (fVar 1) fNil))))))
  (sRet (fC (.bl false)))
  sNil))
noncomputable def b_law : FS := (sSeq (sSetO 1 (fCallO (d__law_hand) (fCons (fVar 0) fNil)))
  (sPrm 1 (sSeq (sFor (iRng1F (fC (.int 6))) (gN 2)
  lb1_law)
  (sSeq (sSet 3 (fz (fDisp (fCons (fCall (d_clamp_behind) (fCons (fTup (fCons (fC (.int 5)) (fCons (fC (.int 0)) (fCons (fC (.int 10)) fNil)))) (fCons (fTup (fCons (fUn dNeg (fC (.int 3))) (fCons (fC (.int 0)) (fCons (fC (.int 10)) fNil)))) fNil))) (fCons (fCall (d_clamp_often) (fCons (fTup (fCons (fC (.int 1)) (fCons (fC (.int 0)) (fCons (fC (.int 9)) fNil)))) (fCons (fC (.int 4)) fNil))) (fCons (fCall (d_all_behind) (fCons (fTup (fCons (fTup (fCons (fC (.int 1)) (fCons (fC (.int 0)) (fCons (fC (.int 0)) fNil)))) (fCons (fTup (fCons (fC (.int 2)) (fCons (fC (.int 0)) (fCons (fC (.int 5)) fNil)))) fNil))) fNil)) fNil))))))
  (sRet (fCall (d__law_is 8) (fCons (fVar 3) (fCons (fz (fDisp (fCons (fTup (fCons (fC (.int 2)) (fCons (fC (.int 0)) (fCons (fC (.int 7)) fNil)))) (fCons (fTup (fCons (fC (.int 4)) (fCons (fC (.int 3)) (fCons (fC (.int 9)) fNil)))) (fCons (fTup (fCons (fC (.int 0)) (fCons (fC (.int 2)) (fCons (fC (.int 2)) fNil)))) fNil))))) fNil))))))))
structure Gf (K : PySem.W.Frag) (mg : Str → Option Value) : Prop where
  n_abs : mg "abs" = none
  n_all : mg "all" = none
  n_bool : mg "bool" = none
  n_int : mg "int" = none
  n_isinstance : mg "isinstance" = none
  n_len : mg "len" = none
  n_list : mg "list" = none
  n_max : mg "max" = none
  n_min : mg "min" = none
  n_range : mg "range" = none
  n_str : mg "str" = none
  n_tuple : mg "tuple" = none
  n_zip : mg "zip" = none
  k_MOST_NUMBER : ∃ t, mg "MOST_NUMBER" = some (.int 1000000000000000000 t)
  x_BadClamp : ExcK K mg "BadClamp"
  x_BadNumber : ExcK K mg "BadNumber"
  xm : ∀ c ∈ CS, ExcM K mg (Str.ofString c) "WordError" true
  xs : ∀ c ∈ CS, ExcS K mg (Str.ofString c)
  xi : ∀ c ∈ CS, ∀ x ∈ XS, ExcI K mg (Str.ofString c) (Str.ofString x) (c == x)
section
variable {P : Program} {w : World} {K : PySem.W.Frag} {mg : Str → Option Value} {base : Heap} {T : List (Addr × Str)}
theorem ok__law_hand (g : Gf K mg) (F : Df K mg "_law_hand" st__law_hand) : Cal P w K mg base T 1 "_law_hand" d__law_hand := by
  obtain ⟨fd, F, hm⟩ := F.ex
  exact FunD.cal F (d_ok F sc__law_hand 1 3 rfl rfl fun cdv A outer s m fo H E hr => (b_cons (s_lc 1 [("cell", 2)] rfl sc__law_hand.nd (i_seq ⟨rfl, rfl⟩ (e_slice ⟨rfl, rfl⟩ (e_var 0) q_none (q_some e_int))) (blkOk_by (N := N__law_hand) (sc := defScope st__law_hand) (by decide +kernel)) (fun _ _ _ _ _ => (go_name 2 sc__law_hand.nd)) (fun _ _ _ _ _ => pts_yes) (fun _ _ _ _ _ => (e_callB (p_abs) g.n_abs (a_cons (e_callTy (p_int) g.n_int (a_cons (e_var 2) a_nil)) a_nil))))
  (b_one (s_retO (o_lst (a_cons (e_var 1) (a_cons e_int (a_cons e_int (a_cons (e_bin (p_add ⟨rfl, rfl⟩) e_int (e_bin (p_mul ⟨rfl, rfl⟩) e_int (e_callB (p_len ⟨rfl, rfl⟩) g.n_len (a_cons (e_var 1) a_nil)))) (a_cons e_int a_nil)))))))))) hm (Df.binds1 F ["script"] fun _ _ _ _ _ _ us hl => match us, hl with | [_], _ => rfl)
theorem ok__law_draw (g : Gf K mg) (F : Df K mg "_law_draw" st__law_draw) : Cal P w K mg base T 1 "_law_draw" d__law_draw := by
  obtain ⟨fd, F, hm⟩ := F.ex
  exact FunD.cal F (d_ok F sc__law_draw 2 5 rfl rfl fun cdv A outer s m fo H E hr => (b_cons (s_if (PW.pt (w_and (t_cmp (p_eq ⟨rfl, rfl⟩ hr.units) (e_ix ⟨rfl, rfl⟩ (e_var 0) e_int) e_int) (w_and1 (t_cmp (p_lt) (e_ix ⟨rfl, rfl⟩ (e_var 0) e_int) (e_callB (p_len ⟨rfl, rfl⟩) g.n_len (a_cons (e_ix ⟨rfl, rfl⟩ (e_var 0) e_int) a_nil))))))
  (b_cons (s_set 2 (e_ix ⟨rfl, rfl⟩ (e_ix ⟨rfl, rfl⟩ (e_var 0) e_int) (e_ix ⟨rfl, rfl⟩ (e_var 0) e_int)) sc__law_draw.nd)
  (b_cons (s_sto (e_bin (p_add ⟨rfl, rfl⟩) (e_ix ⟨rfl, rfl⟩ (e_var 0) e_int) e_int) (e_var 0) e_int)
  (b_cons (s_sto (e_bin (p_mod) (e_callTy (p_int) g.n_int (a_cons (e_bin (p_add ⟨rfl, rfl⟩) (e_bin (p_add ⟨rfl, rfl⟩) (e_bin (p_mul ⟨rfl, rfl⟩) (e_ix ⟨rfl, rfl⟩ (e_var 0) e_int) e_int) (e_bin (p_mul ⟨rfl, rfl⟩) (e_var 2) e_int)) e_int) a_nil)) e_int) (e_var 0) e_int)
  (b_one (s_if (t_cmp (p_ge) (e_var 2) (e_bin (p_pow) e_int e_int))
  (b_one (s_sto (e_var 2) (e_var 0) e_int))
  b_nil)))))
  b_nil)
  (b_cons (s_if (t_cmp (p_gt) (e_ix ⟨rfl, rfl⟩ (e_var 0) e_int) e_int)
  (b_cons (s_set 3 (e_bin (p_mod) (e_callTy (p_int) g.n_int (a_cons (e_ix ⟨rfl, rfl⟩ (e_var 0) e_int) a_nil)) (e_var 1)) sc__law_draw.nd)
  (b_cons (s_sto (e_bin (p_fdiv) (e_ix ⟨rfl, rfl⟩ (e_var 0) e_int) (e_var 1)) (e_var 0) e_int)
  (b_one (s_ret (e_var 3)))))
  b_nil)
  (b_cons (s_sto (e_bin (p_add ⟨rfl, rfl⟩) (e_ix ⟨rfl, rfl⟩ (e_var 0) e_int) e_int) (e_var 0) e_int)
  (b_cons (s_set 4 (e_bin (p_mod) (e_callTy (p_int) g.n_int (a_cons (e_bin (p_mul ⟨rfl, rfl⟩) (e_callTy (p_int) g.n_int (a_cons (e_bin (p_add ⟨rfl, rfl⟩) (e_ix ⟨rfl, rfl⟩ (e_var 0) e_int) (e_bin (p_mul ⟨rfl, rfl⟩) e_int (e_ix ⟨rfl, rfl⟩ (e_var 0) e_int))) a_nil)) e_int) a_nil)) e_int) sc__law_draw.nd)
  (b_cons (s_set 4 (e_bin (p_mod) (e_callTy (p_int) g.n_int (a_cons (e_bin (p_mul ⟨rfl, rfl⟩) (e_var 4) (e_bin (p_add ⟨rfl, rfl⟩) (e_bin (p_fdiv) (e_var 4) e_int) e_int)) a_nil)) e_int) sc__law_draw.nd)
  (b_cons (s_set 4 (e_bin (p_mod) (e_callTy (p_int) g.n_int (a_cons (e_bin (p_mul ⟨rfl, rfl⟩) (e_var 4) (e_bin (p_add ⟨rfl, rfl⟩) (e_bin (p_fdiv) (e_var 4) e_int) e_int)) a_nil)) e_int) sc__law_draw.nd)
  (b_one (s_ret (e_bin (p_mod) (e_callTy (p_int) g.n_int (a_cons (e_bin (p_fdiv) (e_var 4) e_int) a_nil)) (e_var 1))))))))))) hm (Df.binds1 F ["hand", "many"] fun _ _ _ _ _ _ us hl => match us, hl with | [_, _], _ => rfl)
theorem ok__law_any (g : Gf K mg) (F : Df K mg "_law_any" st__law_any) (c__law_draw : Cal P w K mg base T 1 "_law_draw" (d__law_draw)) : Cal P w K mg base T 2 "_law_any" d__law_any := by
  obtain ⟨fd, F, hm⟩ := F.ex
  exact FunD.cal F (d_ok F sc__law_any 2 2 rfl rfl fun cdv A outer s m fo H E hr => (b_one (s_ret (e_ix ⟨rfl, rfl⟩ (e_var 1) (e_call (c__law_draw.mono (j := 1) (by omega)) ⟨rfl, rfl⟩ tkB hr (a_cons (e_var 0) (a_cons (e_callB (p_len ⟨rfl, rfl⟩) g.n_len (a_cons (e_var 1) a_nil)) a_nil))))))) hm (Df.binds1 F ["hand", "some"] fun _ _ _ _ _ _ us hl => match us, hl with | [_, _], _ => rfl)
theorem ok__law_near (g : Gf K mg) (F : Df K mg "_law_near" st__law_near) (c__law_any : Cal P w K mg base T 2 "_law_any" (d__law_any)) (c__law_draw : Cal P w K mg base T 1 "_law_draw" (d__law_draw)) : Cal P w K mg base T 3 "_law_near" d__law_near := by
  obtain ⟨fd, F, hm⟩ := F.ex
  exact FunD.cal F (d_ok F sc__law_near 1 2 rfl rfl fun cdv A outer s m fo H E hr => (b_cons (s_set 1 (e_call (c__law_any.mono (j := 2) (by omega)) ⟨rfl, rfl⟩ tkB hr (a_cons (e_var 0) (a_cons (e_fz (o_lst (a_cons e_int (a_cons e_int (a_cons e_int (a_cons e_int (a_cons (e_bin (p_pow) e_int e_int) a_nil))))))) a_nil))) sc__law_near.nd)
  (b_one (s_ret (e_call (c__law_any.mono (j := 2) (by omega)) ⟨rfl, rfl⟩ tkB hr (a_cons (e_var 0) (a_cons (e_fz (o_lst (a_cons (e_bin (p_sub) (e_call (c__law_draw.mono (j := 2) (by omega)) ⟨rfl, rfl⟩ tkB hr (a_cons (e_var 0) (a_cons (e_bin (p_add ⟨rfl, rfl⟩) (e_bin (p_mul ⟨rfl, rfl⟩) e_int (e_var 1)) e_int) a_nil))) (e_var 1)) (a_cons e_int (a_cons (e_bin (p_sub) (e_call (c__law_draw.mono (j := 2) (by omega)) ⟨rfl, rfl⟩ tkB hr (a_cons (e_var 0) (a_cons e_int a_nil))) e_int) (a_cons (e_var 1) (a_cons (e_bin (p_sub) e_int (e_var 1)) a_nil))))))) a_nil))))))) hm (Df.binds1 F ["hand"] fun _ _ _ _ _ _ us hl => match us, hl with | [_], _ => rfl)
theorem ok__law_clamp (g : Gf K mg) (F : Df K mg "_law_clamp" st__law_clamp) (c__law_near : Cal P w K mg base T 3 "_law_near" (d__law_near)) (c__law_any : Cal P w K mg base T 2 "_law_any" (d__law_any)) : Cal P w K mg base T 4 "_law_clamp" d__law_clamp := by
  obtain ⟨fd, F, hm⟩ := F.ex
  exact FunD.cal F (d_ok F sc__law_clamp 1 5 rfl rfl fun cdv A outer s m fo H E hr => (b_cons (s_par 1 2 (e_call (c__law_near.mono (j := 3) (by omega)) ⟨rfl, rfl⟩ tkB hr (a_cons (e_var 0) a_nil)) (e_call (c__law_near.mono (j := 3) (by omega)) ⟨rfl, rfl⟩ tkB hr (a_cons (e_var 0) a_nil)) rfl sc__law_clamp.nd)
  (b_cons (s_par 3 4 (e_callB (p_min2 rfl) g.n_min (a_cons (e_var 1) (a_cons (e_var 2) a_nil))) (e_callB (p_max2 rfl) g.n_max (a_cons (e_var 1) (a_cons (e_var 2) a_nil))) rfl sc__law_clamp.nd)
  (b_one (s_ret (e_call (c__law_any.mono (j := 3) (by omega)) ⟨rfl, rfl⟩ tkB hr (a_cons (e_var 0) (a_cons (e_fz (o_lst (a_cons (e_tup (a_cons (e_call (c__law_near.mono (j := 3) (by omega)) ⟨rfl, rfl⟩ tkB hr (a_cons (e_var 0) a_nil)) (a_cons (e_var 3) (a_cons (e_var 4) a_nil)))) (a_cons (e_tup (a_cons (e_call (c__law_near.mono (j := 3) (by omega)) ⟨rfl, rfl⟩ tkB hr (a_cons (e_var 0) a_nil)) (a_cons (e_var 3) (a_cons (e_var 4) a_nil)))) (a_cons (e_tup (a_cons (e_call (c__law_near.mono (j := 3) (by omega)) ⟨rfl, rfl⟩ tkB hr (a_cons (e_var 0) a_nil)) (a_cons (e_var 3) (a_cons (e_var 3) a_nil)))) a_nil))))) a_nil)))))))) hm (Df.binds1 F ["hand"] fun _ _ _ _ _ _ us hl => match us, hl with | [_], _ => rfl)
theorem ok__law_plain (g : Gf K mg) (F : Df K mg "_law_plain" st__law_plain) : Cal P w K mg base T 1 "_law_plain" d__law_plain := by
  obtain ⟨fd, F, hm⟩ := F.ex
  exact FunD.cal F (d_ok F sc__law_plain 1 1 rfl rfl fun cdv A outer s m fo H E hr => (b_one (s_ret (e_if (t_cmp (p_lt) (e_ix ⟨rfl, rfl⟩ (e_var 0) e_int) (e_ix ⟨rfl, rfl⟩ (e_var 0) e_int)) (e_var 0) (e_tup (a_cons e_int (a_cons (e_ix ⟨rfl, rfl⟩ (e_var 0) e_int) (a_cons (e_ix ⟨rfl, rfl⟩ (e_var 0) e_int) a_nil)))))))) hm (Df.binds1 F ["clamp"] fun _ _ _ _ _ _ us hl => match us, hl with | [_], _ => rfl)
theorem ok__law_led (g : Gf K mg) (F : Df K mg "_law_led" st__law_led) : Cal P w K mg base T 1 "_law_led" d__law_led := by
  obtain ⟨fd, F, hm⟩ := F.ex
  exact FunD.cal F (d_ok F sc__law_led 2 2 rfl rfl fun cdv A outer s m fo H E hr => (b_one (s_ret (e_callB (p_max2 rfl) g.n_max (a_cons (e_ix ⟨rfl, rfl⟩ (e_var 0) e_int) (a_cons (e_callB (p_min2 rfl) g.n_min (a_cons (e_ix ⟨rfl, rfl⟩ (e_var 0) e_int) (a_cons (e_bin (p_add ⟨rfl, rfl⟩) (e_var 1) (e_ix ⟨rfl, rfl⟩ (e_var 0) e_int)) a_nil))) a_nil)))))) hm (Df.binds1 F ["clamp", "number"] fun _ _ _ _ _ _ us hl => match us, hl with | [_, _], _ => rfl)
theorem ok__law_behind (g : Gf K mg) (F : Df K mg "_law_behind" st__law_behind) (c__law_led : Cal P w K mg base T 1 "_law_led" (d__law_led)) (c__law_plain : Cal P w K mg base T 1 "_law_plain" (d__law_plain)) : Cal P w K mg base T 2 "_law_behind" d__law_behind := by
  obtain ⟨fd, F, hm⟩ := F.ex
  exact FunD.cal F (d_ok F sc__law_behind 2 5 rfl rfl fun cdv A outer s m fo H E hr => (b_cons (s_par3 2 3 4 (x_pl (e_bin (p_add ⟨rfl, rfl⟩) (e_ix ⟨rfl, rfl⟩ (e_var 0) e_int) (e_ix ⟨rfl, rfl⟩ (e_var 1) e_int)) (x_pl (e_call (c__law_led.mono (j := 1) (by omega)) ⟨rfl, rfl⟩ tkB hr (a_cons (e_var 1) (a_cons (e_ix ⟨rfl, rfl⟩ (e_var 0) e_int) a_nil))) (x_pl (e_call (c__law_led.mono (j := 1) (by omega)) ⟨rfl, rfl⟩ tkB hr (a_cons (e_var 1) (a_cons (e_ix ⟨rfl, rfl⟩ (e_var 0) e_int) a_nil))) x_nil))) rfl sc__law_behind.nd)
  (b_one (s_ret (e_call (c__law_plain.mono (j := 1) (by omega)) ⟨rfl, rfl⟩ tkB hr (a_cons (e_tup (a_cons (e_var 2) (a_cons (e_var 3) (a_cons (e_var 4) a_nil)))) a_nil)))))) hm (Df.binds1 F ["one", "other"] fun _ _ _ _ _ _ us hl => match us, hl with | [_, _], _ => rfl)
theorem ok_is_integer (g : Gf K mg) (F : Df K mg "is_integer" st_is_integer) : Cal P w K mg base T 1 "is_integer" d_is_integer := by
  obtain ⟨fd, F, hm⟩ := F.ex
  exact FunD.cal F (d_ok F sc_is_integer 1 1 rfl rfl fun cdv A outer s m fo H E hr => (b_one (s_ret (e_and (e_callB (p_isi ⟨rfl, rfl⟩) g.n_isinstance (a_cons (e_var 0) (a_cons (e_ty g.n_int) a_nil))) (e_one (e_not (e_callB (p_isi ⟨rfl, rfl⟩) g.n_isinstance (a_cons (e_var 0) (a_cons (e_ty g.n_bool) a_nil))))))))) hm (Df.binds1 F ["thing"] fun _ _ _ _ _ _ us hl => match us, hl with | [_], _ => rfl)
theorem ok_are_integers (g : Gf K mg) (F : Df K mg "are_integers" st_are_integers) (c_is_integer : Cal P w K mg base T 1 "is_integer" (d_is_integer)) : Cal P w K mg base T 2 "are_integers" d_are_integers := by
  obtain ⟨fd, F, hm⟩ := F.ex
  exact FunD.cal F (d_ok F sc_are_integers 1 2 rfl rfl fun cdv A outer s m fo H E hr => (b_one (s_ret (e_and (e_callB (p_isi ⟨rfl, rfl⟩) g.n_isinstance (a_cons (e_var 0) (a_cons (e_ty g.n_tuple) a_nil))) (e_one (e_callB (p_all ⟨rfl, rfl⟩ rfl) g.n_all (a_cons (e_fz (o_lc [("item", 1)] rfl sc_are_integers.nd (i_seq ⟨rfl, rfl⟩ (e_var 0)) (blkOk_by (N := N_are_integers) (sc := defScope st_are_integers) (by decide +kernel)) (fun _ _ _ _ _ => (go_name 1 sc_are_integers.nd)) (fun _ _ _ _ _ => pts_yes) (fun _ _ _ _ _ => (e_call (c_is_integer.mono (j := 1) (by omega)) ⟨rfl, rfl⟩ tkN hr (a_cons (e_var 1) a_nil))))) a_nil))))))) hm (Df.binds1 F ["thing"] fun _ _ _ _ _ _ us hl => match us, hl with | [_], _ => rfl)
theorem ok_is_clamp (g : Gf K mg) (F : Df K mg "is_clamp" st_is_clamp) (c_are_integers : Cal P w K mg base T 2 "are_integers" (d_are_integers)) : Cal P w K mg base T 3 "is_clamp" d_is_clamp := by
  obtain ⟨fd, F, hm⟩ := F.ex
  exact FunD.cal F (d_ok F sc_is_clamp 1 2 rfl rfl fun cdv A outer s m fo H E hr => (b_cons (s_if (PW.pt (w_or (t_not (t_val (e_call (c_are_integers.mono (j := 2) (by omega)) ⟨rfl, rfl⟩ tkB hr (a_cons (e_var 0) a_nil)))) (w_or (t_cmp (p_ne ⟨rfl, rfl⟩ hr.units) (e_callB (p_len ⟨rfl, rfl⟩) g.n_len (a_cons (e_var 0) a_nil)) e_int) (w_or1 (t_not (t_val (e_callB (p_all ⟨rfl, rfl⟩ rfl) g.n_all (a_cons (e_fz (o_lc [("one", 1)] rfl sc_is_clamp.nd (i_seq ⟨rfl, rfl⟩ (e_var 0)) (blkOk_by (N := N_is_clamp) (sc := defScope st_is_clamp) (by decide +kernel)) (fun _ _ _ _ _ => (go_name 1 sc_is_clamp.nd)) (fun _ _ _ _ _ => pts_yes) (fun _ _ _ _ _ => (e_cmp (p_le) (e_callB (p_abs) g.n_abs (a_cons (e_var 1) a_nil)) (e_kint g.k_MOST_NUMBER.choose_spec))))) a_nil))))))))
  (b_one (s_ret e_bl))
  b_nil)
  (b_one (s_ret (e_cmp (p_le) (e_ix ⟨rfl, rfl⟩ (e_var 0) e_int) (e_ix ⟨rfl, rfl⟩ (e_var 0) e_int)))))) hm (Df.binds1 F ["thing"] fun _ _ _ _ _ _ us hl => match us, hl with | [_], _ => rfl)
theorem ok_check_clamp (g : Gf K mg) (F : Df K mg "check_clamp" st_check_clamp) (c_is_clamp : Cal P w K mg base T 3 "is_clamp" (d_is_clamp)) : Cal P w K mg base T 4 "check_clamp" d_check_clamp := by
  obtain ⟨fd, F, hm⟩ := F.ex
  exact FunD.cal F (d_ok F sc_check_clamp 1 1 rfl rfl fun cdv A outer s m fo H E hr => (b_one (s_if (t_not (t_val (e_call (c_is_clamp.mono (j := 3) (by omega)) ⟨rfl, rfl⟩ tkB hr (a_cons (e_var 0) a_nil))))
  (b_one (s_raise (x := "BadClamp") g.x_BadClamp ⟨rfl, rfl⟩ tkB rfl))
  b_nil))) hm (Df.binds1 F ["clamp"] fun _ _ _ _ _ _ us hl => match us, hl with | [_], _ => rfl)
theorem ok_plain (g : Gf K mg) (F : Df K mg "plain" st_plain) : Cal P w K mg base T 1 "plain" d_plain := by
  obtain ⟨fd, F, hm⟩ := F.ex
  exact FunD.cal F (d_ok F sc_plain 1 1 rfl rfl fun cdv A outer s m fo H E hr => (b_one (s_ret (e_if (t_cmp (p_eq ⟨rfl, rfl⟩ hr.units) (e_ix ⟨rfl, rfl⟩ (e_var 0) e_int) (e_ix ⟨rfl, rfl⟩ (e_var 0) e_int)) (e_tup (a_cons e_int (a_cons (e_ix ⟨rfl, rfl⟩ (e_var 0) e_int) (a_cons (e_ix ⟨rfl, rfl⟩ (e_var 0) e_int) a_nil)))) (e_var 0))))) hm (Df.binds1 F ["clamp"] fun _ _ _ _ _ _ us hl => match us, hl with | [_], _ => rfl)
theorem ok_behind_of (g : Gf K mg) (F : Df K mg "behind_of" st_behind_of) (c_plain : Cal P w K mg base T 1 "plain" (d_plain)) : Cal P w K mg base T 2 "behind_of" d_behind_of := by
  obtain ⟨fd, F, hm⟩ := F.ex
  exact FunD.cal F (d_ok F sc_behind_of 2 5 rfl rfl fun cdv A outer s m fo H E hr => (b_cons (s_set 2 (e_bin (p_add ⟨rfl, rfl⟩) (e_ix ⟨rfl, rfl⟩ (e_var 0) e_int) (e_ix ⟨rfl, rfl⟩ (e_var 1) e_int)) sc_behind_of.nd)
  (b_cons (s_set 3 (e_callB (p_max2 rfl) g.n_max (a_cons (e_ix ⟨rfl, rfl⟩ (e_var 1) e_int) (a_cons (e_callB (p_min2 rfl) g.n_min (a_cons (e_ix ⟨rfl, rfl⟩ (e_var 1) e_int) (a_cons (e_bin (p_add ⟨rfl, rfl⟩) (e_ix ⟨rfl, rfl⟩ (e_var 0) e_int) (e_ix ⟨rfl, rfl⟩ (e_var 1) e_int)) a_nil))) a_nil))) sc_behind_of.nd)
  (b_cons (s_set 4 (e_callB (p_max2 rfl) g.n_max (a_cons (e_ix ⟨rfl, rfl⟩ (e_var 1) e_int) (a_cons (e_callB (p_min2 rfl) g.n_min (a_cons (e_ix ⟨rfl, rfl⟩ (e_var 1) e_int) (a_cons (e_bin (p_add ⟨rfl, rfl⟩) (e_ix ⟨rfl, rfl⟩ (e_var 0) e_int) (e_ix ⟨rfl, rfl⟩ (e_var 1) e_int)) a_nil))) a_nil))) sc_behind_of.nd)
  (b_one (s_ret (e_call (c_plain.mono (j := 1) (by omega)) ⟨rfl, rfl⟩ tkB hr (a_cons (e_tup (a_cons (e_var 2) (a_cons (e_var 3) (a_cons (e_var 4) a_nil)))) a_nil)))))))) hm (Df.binds1 F ["one", "other"] fun _ _ _ _ _ _ us hl => match us, hl with | [_, _], _ => rfl)
theorem ok_all_behind (g : Gf K mg) (F : Df K mg "all_behind" st_all_behind) (c_check_clamp : Cal P w K mg base T 4 "check_clamp" (d_check_clamp)) (c_plain : Cal P w K mg base T 1 "plain" (d_plain)) (c_behind_of : Cal P w K mg base T 2 "behind_of" (d_behind_of)) : Cal P w K mg base T 5 "all_behind" d_all_behind := by
  obtain ⟨fd, F, hm⟩ := F.ex
  exact FunD.cal F (d_ok F sc_all_behind 1 3 rfl rfl fun cdv A outer s m fo H E hr => (b_cons (s_if (PW.pt (w_or (t_not (t_val (e_callB (p_isi ⟨rfl, rfl⟩) g.n_isinstance (a_cons (e_var 0) (a_cons (e_ty g.n_tuple) a_nil))))) (w_or1 (t_not (t_chain (p_le) (p_le) e_int (e_callB (p_len ⟨rfl, rfl⟩) g.n_len (a_cons (e_var 0) a_nil)) e_int)))))
  (b_one (s_raise (x := "BadClamp") g.x_BadClamp ⟨rfl, rfl⟩ tkB rfl))
  b_nil)
  (b_cons (s_for (i_seq ⟨rfl, rfl⟩ (e_var 0)) (g_name 1 sc_all_behind.nd)
  (b_one (s_drop (e_call (c_check_clamp.mono (j := 4) (by omega)) ⟨rfl, rfl⟩ tkB hr (a_cons (e_var 1) a_nil)))) (passes_of rfl) rfl)
  (b_cons (s_set 2 (e_call (c_plain.mono (j := 4) (by omega)) ⟨rfl, rfl⟩ tkB hr (a_cons (e_ix ⟨rfl, rfl⟩ (e_var 0) e_int) a_nil)) sc_all_behind.nd)
  (b_cons (s_for (i_seq ⟨rfl, rfl⟩ (e_slice ⟨rfl, rfl⟩ (e_var 0) (q_some e_int) q_none)) (g_name 1 sc_all_behind.nd)
  (b_one (s_set 2 (e_call (c_behind_of.mono (j := 4) (by omega)) ⟨rfl, rfl⟩ tkB hr (a_cons (e_var 2) (a_cons (e_var 1) a_nil))) sc_all_behind.nd)) (passes_of rfl) rfl)
  (b_one (s_ret (e_var 2)))))))) hm (Df.binds1 F ["clamps"] fun _ _ _ _ _ _ us hl => match us, hl with | [_], _ => rfl)
theorem ok__law_is (g : Gf K mg) (F : Df K mg "_law_is" st__law_is) : ∀ n, Cal P w K mg base T (1 + n) "_law_is" (d__law_is n)
  | 0 => by
    obtain ⟨fd, F, hm⟩ := F.ex
    exact FunD.cal F (ps := ["said", "due"]) fail_ok hm (Df.binds1 F ["said", "due"] fun _ _ _ _ _ _ us hl => match us, hl with | [_, _], _ => rfl)
  | n + 1 => by
    have c_rec := ok__law_is g F n
    obtain ⟨fd, F, hm⟩ := F.ex
    exact FunD.cal F (d_ok F sc__law_is 2 4 rfl rfl fun cdv A outer s m fo H E hr => (b_cons (s_if (t_val (e_callB (p_isi ⟨rfl, rfl⟩) g.n_isinstance (a_cons (e_var 1) (a_cons (e_tup (a_cons (e_ty g.n_tuple) (a_cons (e_ty g.n_list) a_nil))) a_nil))))
  (b_cons (s_if (PW.pt (w_or (t_cmp (p_ne ⟨rfl, rfl⟩ hr.units) (e_callB (p_isi ⟨rfl, rfl⟩) g.n_isinstance (a_cons (e_var 0) (a_cons (e_ty g.n_tuple) a_nil))) (e_callB (p_isi ⟨rfl, rfl⟩) g.n_isinstance (a_cons (e_var 1) (a_cons (e_ty g.n_tuple) a_nil)))) (w_or1 (t_cmp (p_ne ⟨rfl, rfl⟩ hr.units) (e_callB (p_isi ⟨rfl, rfl⟩) g.n_isinstance (a_cons (e_var 0) (a_cons (e_ty g.n_list) a_nil))) (e_callB (p_isi ⟨rfl, rfl⟩) g.n_isinstance (a_cons (e_var 1) (a_cons (e_ty g.n_list) a_nil)))))))
  (b_one (s_ret e_bl))
  b_nil)
  (b_one (s_ret (e_and (e_cmp (p_eq ⟨rfl, rfl⟩ hr.units) (e_callB (p_len ⟨rfl, rfl⟩) g.n_len (a_cons (e_var 0) a_nil)) (e_callB (p_len ⟨rfl, rfl⟩) g.n_len (a_cons (e_var 1) a_nil))) (e_one (e_callB (p_all ⟨rfl, rfl⟩ rfl) g.n_all (a_cons (e_fz (o_lc [("one", 2), ("other", 3)] rfl sc__law_is.nd (i_zip ⟨rfl, rfl⟩ (e_var 0) (e_var 1) g.n_zip) (blkOk_by (N := N__law_is) (sc := defScope st__law_is) (by decide +kernel)) (fun _ _ _ _ _ => (go_tup ⟨rfl, rfl⟩ rfl (gos_cons (go_name 2 sc__law_is.nd) (gos_cons (go_name 3 sc__law_is.nd) gos_nil)))) (fun _ _ _ _ _ => pts_yes) (fun _ _ _ _ _ => (e_call c_rec ⟨rfl, rfl⟩ tkN hr (a_cons (e_var 2) (a_cons (e_var 3) a_nil)))))) a_nil)))))))
  b_nil)
  (b_cons (s_if (PW.pt (w_or (t_cmp (p_is) (e_var 1) e_non) (w_or1 (t_cmp (p_is) (e_var 0) e_non))))
  (b_one (s_ret (e_and (e_cmp (p_is) (e_var 1) e_non) (e_one (e_cmp (p_is) (e_var 0) e_non)))))
  b_nil)
  (b_cons (s_if (PW.pt (w_or (t_cmp (p_ne ⟨rfl, rfl⟩ hr.units) (e_callB (p_isi ⟨rfl, rfl⟩) g.n_isinstance (a_cons (e_var 0) (a_cons (e_ty g.n_bool) a_nil))) (e_callB (p_isi ⟨rfl, rfl⟩) g.n_isinstance (a_cons (e_var 1) (a_cons (e_ty g.n_bool) a_nil)))) (w_or1 (t_cmp (p_ne ⟨rfl, rfl⟩ hr.units) (e_callB (p_isi ⟨rfl, rfl⟩) g.n_isinstance (a_cons (e_var 0) (a_cons (e_ty g.n_int) a_nil))) (e_callB (p_isi ⟨rfl, rfl⟩) g.n_isinstance (a_cons (e_var 1) (a_cons (e_ty g.n_int) a_nil)))))))
  (b_one (s_ret e_bl))
  b_nil)
  (b_one (s_ret (e_and (e_cmp (p_eq ⟨rfl, rfl⟩ hr.units) (e_callB (p_isi ⟨rfl, rfl⟩) g.n_isinstance (a_cons (e_var 0) (a_cons (e_ty g.n_str) a_nil))) (e_callB (p_isi ⟨rfl, rfl⟩) g.n_isinstance (a_cons (e_var 1) (a_cons (e_ty g.n_str) a_nil)))) (e_one (e_cmp (p_eq ⟨rfl, rfl⟩ hr.units) (e_var 0) (e_var 1)))))))))) hm (Df.binds1 F ["said", "due"] fun _ _ _ _ _ _ us hl => match us, hl with | [_, _], _ => rfl)
theorem ok_clamp_behind (g : Gf K mg) (F : Df K mg "clamp_behind" st_clamp_behind) (c_check_clamp : Cal P w K mg base T 4 "check_clamp" (d_check_clamp)) (c_behind_of : Cal P w K mg base T 2 "behind_of" (d_behind_of)) : Cal P w K mg base T 5 "clamp_behind" d_clamp_behind := by
  obtain ⟨fd, F, hm⟩ := F.ex
  exact FunD.cal F (d_ok F sc_clamp_behind 2 2 rfl rfl fun cdv A outer s m fo H E hr => (b_cons (s_drop (e_call (c_check_clamp.mono (j := 4) (by omega)) ⟨rfl, rfl⟩ tkB hr (a_cons (e_var 0) a_nil)))
  (b_cons (s_drop (e_call (c_check_clamp.mono (j := 4) (by omega)) ⟨rfl, rfl⟩ tkB hr (a_cons (e_var 1) a_nil)))
  (b_one (s_ret (e_call (c_behind_of.mono (j := 4) (by omega)) ⟨rfl, rfl⟩ tkB hr (a_cons (e_var 0) (a_cons (e_var 1) a_nil)))))))) hm (Df.binds1 F ["one", "other"] fun _ _ _ _ _ _ us hl => match us, hl with | [_, _], _ => rfl)
theorem ok__law_row_right (g : Gf K mg) (F : Df K mg "_law_row_right" st__law_row_right) (c__law_draw : Cal P w K mg base T 1 "_law_draw" (d__law_draw)) (c__law_clamp : Cal P w K mg base T 4 "_law_clamp" (d__law_clamp)) (c__law_plain : Cal P w K mg base T 1 "_law_plain" (d__law_plain)) (c__law_behind : Cal P w K mg base T 2 "_law_behind" (d__law_behind)) (c_all_behind : Cal P w K mg base T 5 "all_behind" (d_all_behind)) (c__law_is : Cal P w K mg base T 9 "_law_is" (d__law_is 8)) (c_clamp_behind : Cal P w K mg base T 5 "clamp_behind" (d_clamp_behind)) (c_is_clamp : Cal P w K mg base T 3 "is_clamp" (d_is_clamp)) : Cal P w K mg base T 10 "_law_row_right" d__law_row_right := by
  obtain ⟨fd, F, hm⟩ := F.ex
  exact FunD.cal F (d_ok F sc__law_row_right 1 10 rfl rfl fun cdv A outer s m fo H E hr => (b_cons (s_set 1 (e_callTy (p_tuple ⟨rfl, rfl⟩) g.n_tuple (a_cons (e_fz (o_lc [("at", 9)] rfl sc__law_row_right.nd (i_rng1 (e_bin (p_add ⟨rfl, rfl⟩) e_int (e_call (c__law_draw.mono (j := 9) (by omega)) ⟨rfl, rfl⟩ tkB hr (a_cons (e_var 0) (a_cons e_int a_nil)))) g.n_range) (blkOk_by (N := N__law_row_right) (sc := defScope st__law_row_right) (by decide +kernel)) (fun _ _ _ _ _ => (go_name 9 sc__law_row_right.nd)) (fun _ _ _ _ _ => pts_yes) (fun _ _ _ _ _ => (e_call (c__law_clamp.mono (j := 9) (by omega)) ⟨rfl, rfl⟩ tkN hr (a_cons (e_var 0) a_nil))))) a_nil)) sc__law_row_right.nd)
  (b_cons (s_set 2 (e_call (c__law_plain.mono (j := 9) (by omega)) ⟨rfl, rfl⟩ tkB hr (a_cons (e_ix ⟨rfl, rfl⟩ (e_var 1) e_int) a_nil)) sc__law_row_right.nd)
  (b_cons (s_for (i_seq ⟨rfl, rfl⟩ (e_slice ⟨rfl, rfl⟩ (e_var 1) (q_some e_int) q_none)) (g_name 3 sc__law_row_right.nd)
  (b_one (s_set 2 (e_call (c__law_behind.mono (j := 9) (by omega)) ⟨rfl, rfl⟩ tkB hr (a_cons (e_var 2) (a_cons (e_var 3) a_nil))) sc__law_row_right.nd)) (passes_of rfl) rfl)
  (b_cons (s_if (PW.pt (w_or (t_not (t_val (e_call (c__law_is.mono (j := 9) (by omega)) ⟨rfl, rfl⟩ tkB hr (a_cons (e_call (c_all_behind.mono (j := 9) (by omega)) ⟨rfl, rfl⟩ tkB hr (a_cons (e_var 1) a_nil)) (a_cons (e_var 2) a_nil))))) (w_or1 (t_cmp (p_ne ⟨rfl, rfl⟩ hr.units) (e_call (c_all_behind.mono (j := 9) (by omega)) ⟨rfl, rfl⟩ tkB hr (a_cons (e_slice ⟨rfl, rfl⟩ (e_var 1) q_none (q_some e_int)) a_nil)) (e_call (c__law_plain.mono (j := 9) (by omega)) ⟨rfl, rfl⟩ tkB hr (a_cons (e_ix ⟨rfl, rfl⟩ (e_var 1) e_int) a_nil))))))
  (b_one (s_ret e_bl))
  b_nil)
  (b_cons (s_par3 4 5 6 (x_pl (e_call (c__law_clamp.mono (j := 9) (by omega)) ⟨rfl, rfl⟩ tkB hr (a_cons (e_var 0) a_nil)) (x_pl (e_call (c__law_clamp.mono (j := 9) (by omega)) ⟨rfl, rfl⟩ tkB hr (a_cons (e_var 0) a_nil)) (x_pl (e_call (c__law_clamp.mono (j := 9) (by omega)) ⟨rfl, rfl⟩ tkB hr (a_cons (e_var 0) a_nil)) x_nil))) rfl sc__law_row_right.nd)
  (b_cons (s_par 7 8 (e_call (c_clamp_behind.mono (j := 9) (by omega)) ⟨rfl, rfl⟩ tkB hr (a_cons (e_var 4) (a_cons (e_var 5) a_nil))) (e_call (c_clamp_behind.mono (j := 9) (by omega)) ⟨rfl, rfl⟩ tkB hr (a_cons (e_var 5) (a_cons (e_var 6) a_nil))) rfl sc__law_row_right.nd)
  (b_cons (s_if (PW.pt (w_and (t_val (e_call (c_is_clamp.mono (j := 9) (by omega)) ⟨rfl, rfl⟩ tkB hr (a_cons (e_var 7) a_nil))) (w_and (t_val (e_call (c_is_clamp.mono (j := 9) (by omega)) ⟨rfl, rfl⟩ tkB hr (a_cons (e_var 8) a_nil))) (w_and1 (t_cmp (p_ne ⟨rfl, rfl⟩ hr.units) (e_call (c_clamp_behind.mono (j := 9) (by omega)) ⟨rfl, rfl⟩ tkB hr (a_cons (e_var 7) (a_cons (e_var 6) a_nil))) (e_call (c_clamp_behind.mono (j := 9) (by omega)) ⟨rfl, rfl⟩ tkB hr (a_cons (e_var 4) (a_cons (e_var 8) a_nil))))))))
  (b_one (s_ret e_bl))
  b_nil)
  (b_one (s_ret e_bl)))))))))) hm (Df.binds1 F ["hand"] fun _ _ _ _ _ _ us hl => match us, hl with | [_], _ => rfl)
theorem ok_check_number (g : Gf K mg) (F : Df K mg "check_number" st_check_number) (c_is_integer : Cal P w K mg base T 1 "is_integer" (d_is_integer)) : Cal P w K mg base T 2 "check_number" d_check_number := by
  obtain ⟨fd, F, hm⟩ := F.ex
  exact FunD.cal F (d_ok F sc_check_number 1 1 rfl rfl fun cdv A outer s m fo H E hr => (b_one (s_if (PW.pt (w_or (t_not (t_val (e_call (c_is_integer.mono (j := 1) (by omega)) ⟨rfl, rfl⟩ tkB hr (a_cons (e_var 0) a_nil)))) (w_or1 (t_cmp (p_gt) (e_callB (p_abs) g.n_abs (a_cons (e_var 0) a_nil)) (e_kint g.k_MOST_NUMBER.choose_spec)))))
  (b_one (s_raise (x := "BadNumber") g.x_BadNumber ⟨rfl, rfl⟩ tkB rfl))
  b_nil))) hm (Df.binds1 F ["number"] fun _ _ _ _ _ _ us hl => match us, hl with | [_], _ => rfl)
theorem ok_clamp_led (g : Gf K mg) (F : Df K mg "clamp_led" st_clamp_led) (c_check_clamp : Cal P w K mg base T 4 "check_clamp" (d_check_clamp)) (c_check_number : Cal P w K mg base T 2 "check_number" (d_check_number)) : Cal P w K mg base T 5 "clamp_led" d_clamp_led := by
  obtain ⟨fd, F, hm⟩ := F.ex
  exact FunD.cal F (d_ok F sc_clamp_led 2 2 rfl rfl fun cdv A outer s m fo H E hr => (b_cons (s_drop (e_call (c_check_clamp.mono (j := 4) (by omega)) ⟨rfl, rfl⟩ tkB hr (a_cons (e_var 0) a_nil)))
  (b_cons (s_drop (e_call (c_check_number.mono (j := 4) (by omega)) ⟨rfl, rfl⟩ tkB hr (a_cons (e_var 1) a_nil)))
  (b_one (s_ret (e_callB (p_max2 rfl) g.n_max (a_cons (e_ix ⟨rfl, rfl⟩ (e_var 0) e_int) (a_cons (e_callB (p_min2 rfl) g.n_min (a_cons (e_ix ⟨rfl, rfl⟩ (e_var 0) e_int) (a_cons (e_bin (p_add ⟨rfl, rfl⟩) (e_var 1) (e_ix ⟨rfl, rfl⟩ (e_var 0) e_int)) a_nil))) a_nil)))))))) hm (Df.binds1 F ["clamp", "number"] fun _ _ _ _ _ _ us hl => match us, hl with | [_, _], _ => rfl)
theorem ok__law_pair_right (g : Gf K mg) (F : Df K mg "_law_pair_right" st__law_pair_right) (c_clamp_behind : Cal P w K mg base T 5 "clamp_behind" (d_clamp_behind)) (c__law_is : Cal P w K mg base T 9 "_law_is" (d__law_is 8)) (c__law_behind : Cal P w K mg base T 2 "_law_behind" (d__law_behind)) (c__law_near : Cal P w K mg base T 3 "_law_near" (d__law_near)) (c__law_led : Cal P w K mg base T 1 "_law_led" (d__law_led)) (c_clamp_led : Cal P w K mg base T 5 "clamp_led" (d_clamp_led)) : Cal P w K mg base T 10 "_law_pair_right" d__law_pair_right := by
  obtain ⟨fd, F, hm⟩ := F.ex
  exact FunD.cal F (d_ok F sc__law_pair_right 3 5 rfl rfl fun cdv A outer s m fo H E hr => (b_cons (s_set 3 (e_call (c_clamp_behind.mono (j := 9) (by omega)) ⟨rfl, rfl⟩ tkB hr (a_cons (e_var 1) (a_cons (e_var 2) a_nil))) sc__law_pair_right.nd)
  (b_cons (s_if (t_not (t_val (e_call (c__law_is.mono (j := 9) (by omega)) ⟨rfl, rfl⟩ tkB hr (a_cons (e_var 3) (a_cons (e_call (c__law_behind.mono (j := 9) (by omega)) ⟨rfl, rfl⟩ tkB hr (a_cons (e_var 1) (a_cons (e_var 2) a_nil))) a_nil)))))
  (b_one (s_ret e_bl))
  b_nil)
  (b_cons (s_for (i_seq ⟨rfl, rfl⟩ (e_tup (a_cons (e_call (c__law_near.mono (j := 9) (by omega)) ⟨rfl, rfl⟩ tkB hr (a_cons (e_var 0) a_nil)) (a_cons (e_ix ⟨rfl, rfl⟩ (e_var 1) e_int) (a_cons (e_ix ⟨rfl, rfl⟩ (e_var 1) e_int) (a_cons (e_bin (p_sub) (e_ix ⟨rfl, rfl⟩ (e_var 2) e_int) (e_ix ⟨rfl, rfl⟩ (e_var 1) e_int)) (a_cons (e_bin (p_pow) e_int e_int) (a_cons (e_bin (p_sub) e_int (e_bin (p_pow) e_int e_int)) a_nil)))))))) (g_name 4 sc__law_pair_right.nd)
  (b_one (s_if (t_cmp (p_le) (e_callB (p_abs) g.n_abs (a_cons (e_var 4) a_nil)) (e_bin (p_pow) e_int e_int))
  (b_one (s_if (t_cmp (p_ne ⟨rfl, rfl⟩ hr.units) (e_call (c__law_led.mono (j := 9) (by omega)) ⟨rfl, rfl⟩ tkB hr (a_cons (e_var 3) (a_cons (e_var 4) a_nil))) (e_call (c_clamp_led.mono (j := 9) (by omega)) ⟨rfl, rfl⟩ tkB hr (a_cons (e_var 2) (a_cons (e_call (c_clamp_led.mono (j := 9) (by omega)) ⟨rfl, rfl⟩ tkB hr (a_cons (e_var 1) (a_cons (e_var 4) a_nil))) a_nil))))
  (b_one (s_ret e_bl))
  b_nil))
  b_nil)) (passes_of rfl) rfl)
  (b_one (s_ret e_bl)))))) hm (Df.binds1 F ["hand", "one", "other"] fun _ _ _ _ _ _ us hl => match us, hl with | [_, _, _], _ => rfl)
theorem ok__law_deep (g : Gf K mg) (F : Df K mg "_law_deep" st__law_deep) (c__law_any : Cal P w K mg base T 2 "_law_any" (d__law_any)) (c__law_draw : Cal P w K mg base T 1 "_law_draw" (d__law_draw)) : Cal P w K mg base T 3 "_law_deep" d__law_deep := by
  obtain ⟨fd, F, hm⟩ := F.ex
  exact FunD.cal F (d_ok F sc__law_deep 1 3 rfl rfl fun cdv A outer s m fo H E hr => (b_cons (s_set 1 (e_call (c__law_any.mono (j := 2) (by omega)) ⟨rfl, rfl⟩ tkB hr (a_cons (e_var 0) (a_cons (e_fz (o_lst (a_cons e_non (a_cons (e_str (x := "?")) (a_cons e_bl a_nil))))) a_nil))) sc__law_deep.nd)
  (b_cons (s_for (i_rng1 (e_bin (p_add ⟨rfl, rfl⟩) e_int (e_call (c__law_draw.mono (j := 2) (by omega)) ⟨rfl, rfl⟩ tkB hr (a_cons (e_var 0) (a_cons e_int a_nil)))) g.n_range) (g_name 2 sc__law_deep.nd)
  (b_one (s_set 1 (e_ix ⟨rfl, rfl⟩ (e_fz (o_lst (a_cons (e_tup (a_cons (e_var 1) a_nil)) (a_cons (e_fz (o_lst (a_cons (e_var 1) a_nil))) (a_cons (e_dict1 1) a_nil))))) (e_call (c__law_draw.mono (j := 2) (by omega)) ⟨rfl, rfl⟩ tkB hr (a_cons (e_var 0) (a_cons e_int a_nil)))) sc__law_deep.nd)) (passes_of rfl) rfl)
  (b_one (s_ret (e_var 1)))))) hm (Df.binds1 F ["hand"] fun _ _ _ _ _ _ us hl => match us, hl with | [_], _ => rfl)
theorem t__law_raised (g : Gf K mg) (F : Df K mg "_law_raised" st__law_raised) : Thk P w K mg base T "_law_raised" th__law_raised := by
  obtain ⟨fd, F, hm⟩ := F.ex
  exact thk_of F hm sc__law_raised (Df.binds1 F ["call"] fun _ _ _ _ _ _ us hl => match us, hl with | [_], _ => rfl) b__law_raised (fun _ _ => rfl) (fun cdg A outer s m fo H u fa n hr act => (b_cons (s_try 1 ⟨rfl, rfl⟩ rfl rfl sc__law_raised.nd LamX.takes0 g.xm (fun W pn xe tk _ => (b_one (s_drop (act W pn xe _ _ tk)))) (fun c C a oe pn hc hC hz hv => (b_cons (s_set 2 (e_fz (o_lst (a_cons (e_isE 1 (ExcS.c (g.xs c hc) hC) hz hv ⟨rfl, rfl⟩ hC (g.xi c hc "BadClamp" (by decide)) g.n_isinstance) (a_cons (e_isE 1 (ExcS.c (g.xs c hc) hC) hz hv ⟨rfl, rfl⟩ hC (g.xi c hc "BadNumber" (by decide)) g.n_isinstance) a_nil)))) sc__law_raised.nd)
  (b_cons (s_set 3 (e_fz (o_lst (a_cons (e_str (x := "clamp")) (a_cons (e_str (x := "number")) a_nil)))) sc__law_raised.nd)
  (b_one (s_ret (e_if (t_cmp (p_eq ⟨rfl, rfl⟩ hr.units) (e_meth PySem.F.slot_list_count PySem.F.type_list_count (p_count ⟨rfl, rfl⟩) ⟨rfl, rfl⟩ (e_var 2) (a_cons e_bl a_nil)) e_int) (e_ix ⟨rfl, rfl⟩ (e_var 3) (e_meth PySem.F.slot_list_index PySem.F.type_list_index (p_index ⟨rfl, rfl⟩) ⟨rfl, rfl⟩ (e_var 2) (a_cons e_bl a_nil))) (e_str (x := "other")))))))))
  (b_one (s_ret e_non)))) rfl
theorem ok_is_within (g : Gf K mg) (F : Df K mg "is_within" st_is_within) (c_is_integer : Cal P w K mg base T 1 "is_integer" (d_is_integer)) : Cal P w K mg base T 2 "is_within" d_is_within := by
  obtain ⟨fd, F, hm⟩ := F.ex
  exact FunD.cal F (d_ok F sc_is_within 3 3 rfl rfl fun cdv A outer s m fo H E hr => (b_one (s_ret (e_and (e_call (c_is_integer.mono (j := 1) (by omega)) ⟨rfl, rfl⟩ tkB hr (a_cons (e_var 0) a_nil)) (e_one (e_chain (p_le) (p_le) (e_var 1) (e_var 0) (e_var 2))))))) hm (Df.binds1 F ["thing", "low", "high"] fun _ _ _ _ _ _ us hl => match us, hl with | [_, _, _], _ => rfl)
theorem ok_clamp_often (g : Gf K mg) (F : Df K mg "clamp_often" st_clamp_often) (c_check_clamp : Cal P w K mg base T 4 "check_clamp" (d_check_clamp)) (c_is_within : Cal P w K mg base T 2 "is_within" (d_is_within)) (c_plain : Cal P w K mg base T 1 "plain" (d_plain)) (c_behind_of : Cal P w K mg base T 2 "behind_of" (d_behind_of)) : Cal P w K mg base T 5 "clamp_often" d_clamp_often := by
  obtain ⟨fd, F, hm⟩ := F.ex
  exact FunD.cal F (d_ok F sc_clamp_often 2 5 rfl rfl fun cdv A outer s m fo H E hr => (b_cons (s_drop (e_call (c_check_clamp.mono (j := 4) (by omega)) ⟨rfl, rfl⟩ tkB hr (a_cons (e_var 0) a_nil)))
  (b_cons (s_if (t_not (t_val (e_call (c_is_within.mono (j := 4) (by omega)) ⟨rfl, rfl⟩ tkB hr (a_cons (e_var 1) (a_cons e_int (a_cons (e_bin (p_pow) e_int e_int) a_nil))))))
  (b_one (s_raise (x := "BadNumber") g.x_BadNumber ⟨rfl, rfl⟩ tkB rfl))
  b_nil)
  (b_cons (s_par3 2 3 4 (x_pl e_non (x_pl (e_call (c_plain.mono (j := 4) (by omega)) ⟨rfl, rfl⟩ tkB hr (a_cons (e_var 0) a_nil)) (x_pl (e_var 1) x_nil))) rfl sc_clamp_often.nd)
  (b_cons (s_while (t_cmp (p_gt) (e_var 4) e_int)
  (b_cons (s_if (t_cmp (p_eq ⟨rfl, rfl⟩ hr.units) (e_bin (p_mod) (e_var 4) e_int) e_int)
  (b_one (s_set 2 (e_if (t_cmp (p_is) (e_var 2) e_non) (e_var 3) (e_call (c_behind_of.mono (j := 4) (by omega)) ⟨rfl, rfl⟩ tkB hr (a_cons (e_var 2) (a_cons (e_var 3) a_nil)))) sc_clamp_often.nd))
  b_nil)
  (b_one (s_par 3 4 (e_call (c_behind_of.mono (j := 4) (by omega)) ⟨rfl, rfl⟩ tkB hr (a_cons (e_var 3) (a_cons (e_var 3) a_nil))) (e_bin (p_fdiv) (e_var 4) e_int) rfl sc_clamp_often.nd))) (passes_of rfl))
  (b_one (s_ret (e_var 2)))))))) hm (Df.binds1 F ["clamp", "many"] fun _ _ _ _ _ _ us hl => match us, hl with | [_, _], _ => rfl)
theorem ok_steps_clamps (g : Gf K mg) (F : Df K mg "steps_clamps" st_steps_clamps) (c_are_integers : Cal P w K mg base T 2 "are_integers" (d_are_integers)) (c_is_clamp : Cal P w K mg base T 3 "is_clamp" (d_is_clamp)) : Cal P w K mg base T 4 "steps_clamps" d_steps_clamps := by
  obtain ⟨fd, F, hm⟩ := F.ex
  exact FunD.cal F (d_ok F sc_steps_clamps 3 5 rfl rfl fun cdv A outer s m fo H E hr => (b_cons (s_if (PW.pt (w_or (t_not (t_val (e_call (c_are_integers.mono (j := 3) (by omega)) ⟨rfl, rfl⟩ tkB hr (a_cons (e_var 0) a_nil)))) (w_or (t_cmp (p_gt) (e_callB (p_len ⟨rfl, rfl⟩) g.n_len (a_cons (e_var 0) a_nil)) e_int) (w_or1 (t_not (t_val (e_callB (p_all ⟨rfl, rfl⟩ rfl) g.n_all (a_cons (e_fz (o_lc [("one", 3)] rfl sc_steps_clamps.nd (i_seq ⟨rfl, rfl⟩ (e_var 0)) (blkOk_by (N := N_steps_clamps) (sc := defScope st_steps_clamps) (by decide +kernel)) (fun _ _ _ _ _ => (go_name 3 sc_steps_clamps.nd)) (fun _ _ _ _ _ => pts_yes) (fun _ _ _ _ _ => (e_cmp (p_le) (e_callB (p_abs) g.n_abs (a_cons (e_var 3) a_nil)) (e_bin (p_pow) e_int e_int))))) a_nil))))))))
  (b_one (s_raise (x := "BadNumber") g.x_BadNumber ⟨rfl, rfl⟩ tkB rfl))
  b_nil)
  (b_cons (s_if (t_not (t_val (e_call (c_is_clamp.mono (j := 3) (by omega)) ⟨rfl, rfl⟩ tkB hr (a_cons (e_tup (a_cons e_int (a_cons (e_var 1) (a_cons (e_var 2) a_nil)))) a_nil))))
  (b_one (s_raise (x := "BadClamp") g.x_BadClamp ⟨rfl, rfl⟩ tkB rfl))
  b_nil)
  (b_one (s_ret (e_callTy (p_tuple ⟨rfl, rfl⟩) g.n_tuple (a_cons (e_fz (o_lc [("step", 4)] rfl sc_steps_clamps.nd (i_seq ⟨rfl, rfl⟩ (e_var 0)) (blkOk_by (N := N_steps_clamps) (sc := defScope st_steps_clamps) (by decide +kernel)) (fun _ _ _ _ _ => (go_name 4 sc_steps_clamps.nd)) (fun _ _ _ _ _ => pts_yes) (fun _ _ _ _ _ => (e_tup (a_cons (e_var 4) (a_cons (e_var 1) (a_cons (e_var 2) a_nil))))))) a_nil))))))) hm (Df.binds1 F ["steps", "low", "high"] fun _ _ _ _ _ _ us hl => match us, hl with | [_, _, _], _ => rfl)
theorem ok__law_refused (g : Gf K mg) (F : Df K mg "_law_refused" st__law_refused) (c__law_deep : Cal P w K mg base T 3 "_law_deep" (d__law_deep)) (c__law_any : Cal P w K mg base T 2 "_law_any" (d__law_any)) (t__law_raised : Thk P w K mg base T "_law_raised" th__law_raised) (c_clamp_behind : Cal P w K mg base T 5 "clamp_behind" (d_clamp_behind)) (c_clamp_often : Cal P w K mg base T 5 "clamp_often" (d_clamp_often)) (c_all_behind : Cal P w K mg base T 5 "all_behind" (d_all_behind)) (c_steps_clamps : Cal P w K mg base T 4 "steps_clamps" (d_steps_clamps)) {Pt : Addr} (TB : LamX.TabB base mg (He.codeOf K ("_law_refused", none)) Pt) (hmT : (Pt, lamQ "_law_refused") ∈ T) (hu : ∀ p ∈ T, p.1 = Pt → p.2 = lamQ "_law_refused") : Cal P w K mg base T 8 "_law_refused" d__law_refused := by
  obtain ⟨fd, F, hm⟩ := F.ex
  exact FunD.cal F (d_okL F sc__law_refused 1 6 rfl rfl fun A outer s m fo H E hr => (b_cons (s_set 1 (e_fz (o_lst (a_cons e_non (a_cons e_int (a_cons (e_tup (a_cons e_int (a_cons e_int (a_cons e_int a_nil)))) (a_cons (e_tup (a_cons e_int (a_cons e_int a_nil))) (a_cons (e_fz (o_lst (a_cons e_int (a_cons e_int (a_cons e_int a_nil))))) (a_cons (e_tup (a_cons e_bl (a_cons e_int (a_cons e_int a_nil)))) (a_cons (e_tup (a_cons e_int (a_cons e_int (a_cons (e_bin (p_add ⟨rfl, rfl⟩) (e_bin (p_pow) e_int e_int) e_int) a_nil)))) (a_cons e_dict0 (a_cons (e_call (c__law_deep.mono (j := 7) (by omega)) ⟨rfl, rfl⟩ tkB hr (a_cons (e_var 0) a_nil)) a_nil))))))))))) sc__law_refused.nd)
  (b_cons (s_set 1 (e_call (c__law_any.mono (j := 7) (by omega)) ⟨rfl, rfl⟩ tkB hr (a_cons (e_var 0) (a_cons (e_var 1) a_nil))) sc__law_refused.nd)
  (b_cons (s_asg (e_tup (a_cons (e_call (c__law_any.mono (j := 7) (by omega)) ⟨rfl, rfl⟩ tkB hr (a_cons (e_var 0) (a_cons (e_fz (o_lst (a_cons e_int (a_cons (e_un p_neg e_int) (a_cons (e_bin (p_add ⟨rfl, rfl⟩) (e_bin (p_pow) e_int e_int) e_int) (a_cons e_non (a_cons e_bl (a_cons (e_str (x := "2")) a_nil)))))))) a_nil))) (a_cons (e_tup (a_cons e_int (a_cons e_int (a_cons e_int a_nil)))) a_nil))) (g_tup ⟨rfl, rfl⟩ rfl (gs_cons (g_name 2 sc__law_refused.nd) (gs_cons (g_name 3 sc__law_refused.nd) gs_nil))))
  (b_cons (s_setO 4 (o_lst (a_cons (e_lam t__law_raised ⟨rfl, rfl⟩ TB rfl hmT hu hr (LamX.lamS_by (sc := defScope st__law_refused) (by decide +kernel)) rfl (fun _ _ _ _ _ => rfl) (fun _ _ _ _ _ _ _ hr2 => (e_call (c_clamp_behind.mono (j := 5) (by omega)) ⟨rfl, rfl⟩ tkL hr2 (a_cons (e_var 1) (a_cons (e_var 3) a_nil))))) a_nil)) sc__law_refused.nd)
  (b_cons (s_app ⟨rfl, rfl⟩ 4 (e_lam t__law_raised ⟨rfl, rfl⟩ TB rfl hmT hu hr (LamX.lamS_by (sc := defScope st__law_refused) (by decide +kernel)) rfl (fun _ _ _ _ _ => rfl) (fun _ _ _ _ _ _ _ hr2 => (e_call (c_clamp_behind.mono (j := 5) (by omega)) ⟨rfl, rfl⟩ tkL hr2 (a_cons (e_var 3) (a_cons (e_var 1) a_nil))))))
  (b_cons (s_app ⟨rfl, rfl⟩ 4 (e_lam t__law_raised ⟨rfl, rfl⟩ TB rfl hmT hu hr (LamX.lamS_by (sc := defScope st__law_refused) (by decide +kernel)) rfl (fun _ _ _ _ _ => rfl) (fun _ _ _ _ _ _ _ hr2 => (e_call (c_clamp_often.mono (j := 5) (by omega)) ⟨rfl, rfl⟩ tkL hr2 (a_cons (e_var 1) (a_cons (e_var 2) a_nil))))))
  (b_cons (s_app ⟨rfl, rfl⟩ 4 (e_lam t__law_raised ⟨rfl, rfl⟩ TB rfl hmT hu hr (LamX.lamS_by (sc := defScope st__law_refused) (by decide +kernel)) rfl (fun _ _ _ _ _ => rfl) (fun _ _ _ _ _ _ _ hr2 => (e_call (c_clamp_often.mono (j := 5) (by omega)) ⟨rfl, rfl⟩ tkL hr2 (a_cons (e_var 3) (a_cons (e_var 2) a_nil))))))
  (b_cons (s_app ⟨rfl, rfl⟩ 4 (e_lam t__law_raised ⟨rfl, rfl⟩ TB rfl hmT hu hr (LamX.lamS_by (sc := defScope st__law_refused) (by decide +kernel)) rfl (fun _ _ _ _ _ => rfl) (fun _ _ _ _ _ _ _ hr2 => (e_call (c_all_behind.mono (j := 5) (by omega)) ⟨rfl, rfl⟩ tkL hr2 (a_cons (e_call (c__law_any.mono (j := 5) (by omega)) ⟨rfl, rfl⟩ tkL hr2 (a_cons (e_var 0) (a_cons (e_fz (o_lst (a_cons e_non (a_cons e_int (a_cons (e_fz (o_lst (a_cons (e_var 3) a_nil))) (a_cons (e_tup (a_cons (e_var 3) (a_cons (e_var 1) a_nil))) (a_cons (e_tup (a_cons (e_var 1) a_nil)) (a_cons e_dict0 a_nil)))))))) a_nil))) a_nil)))))
  (b_cons (s_set 5 (e_call (c__law_any.mono (j := 7) (by omega)) ⟨rfl, rfl⟩ tkB hr (a_cons (e_var 0) (a_cons (e_fz (o_lst (a_cons e_non (a_cons e_int (a_cons (e_fz (o_lst (a_cons e_int a_nil))) (a_cons (e_tup (a_cons (e_bin (p_add ⟨rfl, rfl⟩) (e_bin (p_pow) e_int e_int) e_int) a_nil)) (a_cons (e_tup (a_cons e_bl a_nil)) (a_cons (e_tup (a_cons (e_str (x := "1")) a_nil)) (a_cons (e_tup (a_cons e_non a_nil)) (a_cons (e_bin (p_mul ⟨rfl, rfl⟩) (e_tup (a_cons e_int a_nil)) e_int) (a_cons e_dict0 a_nil))))))))))) a_nil))) sc__law_refused.nd)
  (b_cons (s_app ⟨rfl, rfl⟩ 4 (e_lam t__law_raised ⟨rfl, rfl⟩ TB rfl hmT hu hr (LamX.lamS_by (sc := defScope st__law_refused) (by decide +kernel)) rfl (fun _ _ _ _ _ => rfl) (fun _ _ _ _ _ _ _ hr2 => (e_call (c_steps_clamps.mono (j := 5) (by omega)) ⟨rfl, rfl⟩ tkL hr2 (a_cons (e_var 5) (a_cons e_int (a_cons e_int a_nil)))))))
  (b_cons (s_app ⟨rfl, rfl⟩ 4 (e_lam t__law_raised ⟨rfl, rfl⟩ TB rfl hmT hu hr (LamX.lamS_by (sc := defScope st__law_refused) (by decide +kernel)) rfl (fun _ _ _ _ _ => rfl) (fun _ _ _ _ _ _ _ hr2 => (e_call (c_steps_clamps.mono (j := 5) (by omega)) ⟨rfl, rfl⟩ tkL hr2 (a_cons (e_tup (a_cons e_int a_nil)) (a_cons (e_call (c__law_any.mono (j := 5) (by omega)) ⟨rfl, rfl⟩ tkL hr2 (a_cons (e_var 0) (a_cons (e_fz (o_lst (a_cons e_int (a_cons e_non (a_cons e_bl (a_cons (e_bin (p_add ⟨rfl, rfl⟩) (e_bin (p_pow) e_int e_int) e_int) a_nil)))))) a_nil))) (a_cons e_int a_nil)))))))
  (b_frz 4 (b_one (s_ret (e_cmp (p_eq ⟨rfl, rfl⟩ hr.units) (e_var 4) (e_fz (o_lst (a_cons (e_str (x := "clamp")) (a_cons (e_str (x := "clamp")) (a_cons (e_str (x := "clamp")) (a_cons (e_str (x := "number")) (a_cons (e_str (x := "clamp")) (a_cons (e_str (x := "number")) (a_cons (e_str (x := "clamp")) a_nil))))))))))))))))))))))))) hm (Df.binds1 F ["hand"] fun _ _ _ _ _ _ us hl => match us, hl with | [_], _ => rfl)
theorem ok__law_steps_right (g : Gf K mg) (F : Df K mg "_law_steps_right" st__law_steps_right) (c__law_draw : Cal P w K mg base T 1 "_law_draw" (d__law_draw)) (c__law_near : Cal P w K mg base T 3 "_law_near" (d__law_near)) (c__law_clamp : Cal P w K mg base T 4 "_law_clamp" (d__law_clamp)) (c__law_is : Cal P w K mg base T 9 "_law_is" (d__law_is 8)) (c_steps_clamps : Cal P w K mg base T 4 "steps_clamps" (d_steps_clamps)) : Cal P w K mg base T 10 "_law_steps_right" d__law_steps_right := by
  obtain ⟨fd, F, hm⟩ := F.ex
  exact FunD.cal F (d_ok F sc__law_steps_right 1 6 rfl rfl fun cdv A outer s m fo H E hr => (b_cons (s_set 1 (e_callTy (p_tuple ⟨rfl, rfl⟩) g.n_tuple (a_cons (e_fz (o_lc [("at", 4)] rfl sc__law_steps_right.nd (i_rng1 (e_call (c__law_draw.mono (j := 9) (by omega)) ⟨rfl, rfl⟩ tkB hr (a_cons (e_var 0) (a_cons e_int a_nil))) g.n_range) (blkOk_by (N := N__law_steps_right) (sc := defScope st__law_steps_right) (by decide +kernel)) (fun _ _ _ _ _ => (go_name 4 sc__law_steps_right.nd)) (fun _ _ _ _ _ => pts_yes) (fun _ _ _ _ _ => (e_callB (p_max2 rfl) g.n_max (a_cons (e_bin (p_sub) e_int (e_bin (p_pow) e_int e_int)) (a_cons (e_callB (p_min2 rfl) g.n_min (a_cons (e_bin (p_pow) e_int e_int) (a_cons (e_call (c__law_near.mono (j := 9) (by omega)) ⟨rfl, rfl⟩ tkN hr (a_cons (e_var 0) a_nil)) a_nil))) a_nil)))))) a_nil)) sc__law_steps_right.nd)
  (b_cons (s_set 2 (e_call (c__law_clamp.mono (j := 9) (by omega)) ⟨rfl, rfl⟩ tkB hr (a_cons (e_var 0) a_nil)) sc__law_steps_right.nd)
  (b_cons (s_set 3 (e_callTy (p_tuple ⟨rfl, rfl⟩) g.n_tuple (a_cons (e_fz (o_lc [("step", 5)] rfl sc__law_steps_right.nd (i_seq ⟨rfl, rfl⟩ (e_var 1)) (blkOk_by (N := N__law_steps_right) (sc := defScope st__law_steps_right) (by decide +kernel)) (fun _ _ _ _ _ => (go_name 5 sc__law_steps_right.nd)) (fun _ _ _ _ _ => pts_yes) (fun _ _ _ _ _ => (e_tup (a_cons (e_var 5) (a_cons (e_ix ⟨rfl, rfl⟩ (e_var 2) e_int) (a_cons (e_ix ⟨rfl, rfl⟩ (e_var 2) e_int) a_nil))))))) a_nil)) sc__law_steps_right.nd)
  (b_one (s_ret (e_call (c__law_is.mono (j := 9) (by omega)) ⟨rfl, rfl⟩ tkB hr (a_cons (e_call (c_steps_clamps.mono (j := 9) (by omega)) ⟨rfl, rfl⟩ tkB hr (a_cons (e_var 1) (a_cons (e_ix ⟨rfl, rfl⟩ (e_var 2) e_int) (a_cons (e_ix ⟨rfl, rfl⟩ (e_var 2) e_int) a_nil)))) (a_cons (e_var 3) a_nil))))))))) hm (Df.binds1 F ["hand"] fun _ _ _ _ _ _ us hl => match us, hl with | [_], _ => rfl)
theorem ok__law_often (g : Gf K mg) (F : Df K mg "_law_often" st__law_often) (c__law_plain : Cal P w K mg base T 1 "_law_plain" (d__law_plain)) (c__law_behind : Cal P w K mg base T 2 "_law_behind" (d__law_behind)) : Cal P w K mg base T 3 "_law_often" d__law_often := by
  obtain ⟨fd, F, hm⟩ := F.ex
  exact FunD.cal F (d_ok F sc__law_often 2 4 rfl rfl fun cdv A outer s m fo H E hr => (b_cons (s_par 2 3 e_non (e_call (c__law_plain.mono (j := 2) (by omega)) ⟨rfl, rfl⟩ tkB hr (a_cons (e_var 0) a_nil)) rfl sc__law_often.nd)
  (b_cons (s_while (t_cmp (p_gt) (e_var 1) e_int)
  (b_cons (s_if (t_cmp (p_eq ⟨rfl, rfl⟩ hr.units) (e_bin (p_mod) (e_callTy (p_int) g.n_int (a_cons (e_var 1) a_nil)) e_int) e_int)
  (b_one (s_set 2 (e_if (t_cmp (p_is) (e_var 2) e_non) (e_var 3) (e_call (c__law_behind.mono (j := 2) (by omega)) ⟨rfl, rfl⟩ tkB hr (a_cons (e_var 2) (a_cons (e_var 3) a_nil)))) sc__law_often.nd))
  b_nil)
  (b_one (s_par 3 1 (e_call (c__law_behind.mono (j := 2) (by omega)) ⟨rfl, rfl⟩ tkB hr (a_cons (e_var 3) (a_cons (e_var 3) a_nil))) (e_bin (p_fdiv) (e_var 1) e_int) rfl sc__law_often.nd))) (passes_of rfl))
  (b_one (s_ret (e_var 2)))))) hm (Df.binds1 F ["clamp", "many"] fun _ _ _ _ _ _ us hl => match us, hl with | [_, _], _ => rfl)
theorem ok__law_often_right (g : Gf K mg) (F : Df K mg "_law_often_right" st__law_often_right) (c__law_clamp : Cal P w K mg base T 4 "_law_clamp" (d__law_clamp)) (c__law_any : Cal P w K mg base T 2 "_law_any" (d__law_any)) (c__law_draw : Cal P w K mg base T 1 "_law_draw" (d__law_draw)) (c__law_is : Cal P w K mg base T 9 "_law_is" (d__law_is 8)) (c__law_often : Cal P w K mg base T 3 "_law_often" (d__law_often)) (c_clamp_often : Cal P w K mg base T 5 "clamp_often" (d_clamp_often)) (c_all_behind : Cal P w K mg base T 5 "all_behind" (d_all_behind)) : Cal P w K mg base T 10 "_law_often_right" d__law_often_right := by
  obtain ⟨fd, F, hm⟩ := F.ex
  exact FunD.cal F (d_ok F sc__law_often_right 1 4 rfl rfl fun cdv A outer s m fo H E hr => (b_cons (s_set 1 (e_call (c__law_clamp.mono (j := 9) (by omega)) ⟨rfl, rfl⟩ tkB hr (a_cons (e_var 0) a_nil)) sc__law_often_right.nd)
  (b_cons (s_set 2 (e_call (c__law_any.mono (j := 9) (by omega)) ⟨rfl, rfl⟩ tkB hr (a_cons (e_var 0) (a_cons (e_fz (o_lst (a_cons e_int (a_cons e_int (a_cons (e_bin (p_add ⟨rfl, rfl⟩) e_int (e_call (c__law_draw.mono (j := 9) (by omega)) ⟨rfl, rfl⟩ tkB hr (a_cons (e_var 0) (a_cons e_int a_nil)))) (a_cons (e_bin (p_add ⟨rfl, rfl⟩) e_int (e_call (c__law_draw.mono (j := 9) (by omega)) ⟨rfl, rfl⟩ tkB hr (a_cons (e_var 0) (a_cons (e_bin (p_pow) e_int e_int) a_nil)))) (a_cons (e_bin (p_pow) e_int e_int) a_nil))))))) a_nil))) sc__law_often_right.nd)
  (b_cons (s_if (t_not (t_val (e_call (c__law_is.mono (j := 9) (by omega)) ⟨rfl, rfl⟩ tkB hr (a_cons (e_call (c_clamp_often.mono (j := 9) (by omega)) ⟨rfl, rfl⟩ tkB hr (a_cons (e_var 1) (a_cons (e_var 2) a_nil))) (a_cons (e_call (c__law_often.mono (j := 9) (by omega)) ⟨rfl, rfl⟩ tkB hr (a_cons (e_var 1) (a_cons (e_var 2) a_nil))) a_nil)))))
  (b_one (s_ret e_bl))
  b_nil)
  (b_cons (s_set 3 (e_bin (p_add ⟨rfl, rfl⟩) e_int (e_call (c__law_draw.mono (j := 9) (by omega)) ⟨rfl, rfl⟩ tkB hr (a_cons (e_var 0) (a_cons e_int a_nil)))) sc__law_often_right.nd)
  (b_one (s_ret (e_cmp (p_eq ⟨rfl, rfl⟩ hr.units) (e_call (c_clamp_often.mono (j := 9) (by omega)) ⟨rfl, rfl⟩ tkB hr (a_cons (e_var 1) (a_cons (e_var 3) a_nil))) (e_call (c_all_behind.mono (j := 9) (by omega)) ⟨rfl, rfl⟩ tkB hr (a_cons (e_bin (p_mul ⟨rfl, rfl⟩) (e_tup (a_cons (e_var 1) a_nil)) (e_var 3)) a_nil)))))))))) hm (Df.binds1 F ["hand"] fun _ _ _ _ _ _ us hl => match us, hl with | [_], _ => rfl)
theorem ok_law (g : Gf K mg) {fd : FuncData} (F : FunD K "law" "law" (defArgs st_law) (defBody st_law) (defScope st_law) [] [] (He.fAd K ("law", none)) fd) (c__law_hand : Cal P w K mg base T 1 "_law_hand" (d__law_hand)) (c__law_row_right : Cal P w K mg base T 10 "_law_row_right" (d__law_row_right)) (c__law_pair_right : Cal P w K mg base T 10 "_law_pair_right" (d__law_pair_right)) (c__law_clamp : Cal P w K mg base T 4 "_law_clamp" (d__law_clamp)) (c__law_refused : Cal P w K mg base T 8 "_law_refused" (d__law_refused)) (c__law_steps_right : Cal P w K mg base T 10 "_law_steps_right" (d__law_steps_right)) (c__law_often_right : Cal P w K mg base T 10 "_law_often_right" (d__law_often_right)) (c_all_behind : Cal P w K mg base T 5 "all_behind" (d_all_behind)) (c_clamp_often : Cal P w K mg base T 5 "clamp_often" (d_clamp_often)) (c_clamp_behind : Cal P w K mg base T 5 "clamp_behind" (d_clamp_behind)) (c__law_is : Cal P w K mg base T 9 "_law_is" (d__law_is 8)) : FnOk P w K mg base (L2.CX P w) 11 (He.fAd K ("law", none)) fd ["script"] (spLaw K T 4 b_law) :=
  law_ok F sc_law 4 rfl (fun cdv A outer s m fo H E hr => (b_cons (s_setO 1 (o_call (c__law_hand.mono (j := 10) (by omega)) ⟨rfl, rfl⟩ tkB hr (a_cons (e_var 0) a_nil)) sc_law.nd)
  (b_prm 1 (b_cons (s_for (i_rng1 e_int g.n_range) (g_name 2 sc_law.nd)
  (b_cons (s_if (PW.pt (w_or (t_not (t_val (e_call (c__law_pair_right.mono (j := 10) (by omega)) ⟨rfl, rfl⟩ tkB hr (a_cons (e_var 1) (a_cons (e_call (c__law_clamp.mono (j := 10) (by omega)) ⟨rfl, rfl⟩ tkB hr (a_cons (e_var 1) a_nil)) (a_cons (e_call (c__law_clamp.mono (j := 10) (by omega)) ⟨rfl, rfl⟩ tkB hr (a_cons (e_var 1) a_nil)) a_nil)))))) (w_or1 (t_not (t_val (e_call (c__law_row_right.mono (j := 10) (by omega)) ⟨rfl, rfl⟩ tkB hr (a_cons (e_var 1) a_nil)))))))
  (b_one (s_ret e_bl))
  b_nil)
  (b_one (s_if (PW.pt (w_or (t_not (t_val (e_call (c__law_often_right.mono (j := 10) (by omega)) ⟨rfl, rfl⟩ tkB hr (a_cons (e_var 1) a_nil)))) (w_or (t_not (t_val (e_call (c__law_steps_right.mono (j := 10) (by omega)) ⟨rfl, rfl⟩ tkB hr (a_cons (e_var 1) a_nil)))) (w_or1 (t_not (t_val (e_call (c__law_refused.mono (j := 10) (by omega)) ⟨rfl, rfl⟩ tkB hr (a_cons (e_var 1) a_nil))))))))
  (b_one (s_ret e_bl))
  b_nil))) (passes_of rfl) rfl)
  (b_cons (s_set 3 (e_fz (o_lst (a_cons (e_call (c_clamp_behind.mono (j := 10) (by omega)) ⟨rfl, rfl⟩ tkB hr (a_cons (e_tup (a_cons e_int (a_cons e_int (a_cons e_int a_nil)))) (a_cons (e_tup (a_cons (e_un p_neg e_int) (a_cons e_int (a_cons e_int a_nil)))) a_nil))) (a_cons (e_call (c_clamp_often.mono (j := 10) (by omega)) ⟨rfl, rfl⟩ tkB hr (a_cons (e_tup (a_cons e_int (a_cons e_int (a_cons e_int a_nil)))) (a_cons e_int a_nil))) (a_cons (e_call (c_all_behind.mono (j := 10) (by omega)) ⟨rfl, rfl⟩ tkB hr (a_cons (e_tup (a_cons (e_tup (a_cons e_int (a_cons e_int (a_cons e_int a_nil)))) (a_cons (e_tup (a_cons e_int (a_cons e_int (a_cons e_int a_nil)))) a_nil))) a_nil)) a_nil))))) sc_law.nd)
  (b_one (s_ret (e_call (c__law_is.mono (j := 10) (by omega)) ⟨rfl, rfl⟩ tkB hr (a_cons (e_var 3) (a_cons (e_fz (o_lst (a_cons (e_tup (a_cons e_int (a_cons e_int (a_cons e_int a_nil)))) (a_cons (e_tup (a_cons e_int (a_cons e_int (a_cons e_int a_nil)))) (a_cons (e_tup (a_cons e_int (a_cons e_int (a_cons e_int a_nil)))) a_nil))))) a_nil))))))))))
end
def fa : List He.Fa := [.glo "_law_hand", .glo "_law_draw", .glo "_law_any", .glo "_law_near", .glo "_law_clamp", .glo "_law_plain", .glo "_law_led", .glo "_law_behind", .glo "is_integer", .glo "are_integers", .glo "is_clamp", .glo "check_clamp", .glo "plain", .glo "behind_of", .glo "all_behind", .glo "_law_is", .glo "clamp_behind", .glo "_law_row_right", .glo "check_number", .glo "clamp_led", .glo "_law_pair_right", .glo "_law_deep", .glo "_law_raised", .glo "is_within", .glo "clamp_often", .glo "steps_clamps", .glo "_law_refused", .glo "_law_steps_right", .glo "_law_often", .glo "_law_often_right", .glo "law", .glo "BadClamp", .glo "BadNumber", .glo "WordError", .free "abs", .free "all", .free "bool", .free "int", .free "isinstance", .free "len", .free "list", .free "max", .free "min", .free "range", .free "str", .free "tuple", .free "zip", .int "MOST_NUMBER" 1000000000000000000, .exc "BadClamp", .exc "BadNumber", .exm "BadClamp" "WordError" true, .exm "BadNumber" "WordError" true]
def dd__law_hand : He.DefD := ⟨("_law_hand", none), "_law_hand", "_law_hand", defArgs st__law_hand, defBody st__law_hand, defScope st__law_hand, [], []⟩
def dd__law_draw : He.DefD := ⟨("_law_draw", none), "_law_draw", "_law_draw", defArgs st__law_draw, defBody st__law_draw, defScope st__law_draw, [], []⟩
def dd__law_any : He.DefD := ⟨("_law_any", none), "_law_any", "_law_any", defArgs st__law_any, defBody st__law_any, defScope st__law_any, [], []⟩
def dd__law_near : He.DefD := ⟨("_law_near", none), "_law_near", "_law_near", defArgs st__law_near, defBody st__law_near, defScope st__law_near, [], []⟩
def dd__law_clamp : He.DefD := ⟨("_law_clamp", none), "_law_clamp", "_law_clamp", defArgs st__law_clamp, defBody st__law_clamp, defScope st__law_clamp, [], []⟩
def dd__law_plain : He.DefD := ⟨("_law_plain", none), "_law_plain", "_law_plain", defArgs st__law_plain, defBody st__law_plain, defScope st__law_plain, [], []⟩
def dd__law_led : He.DefD := ⟨("_law_led", none), "_law_led", "_law_led", defArgs st__law_led, defBody st__law_led, defScope st__law_led, [], []⟩
def dd__law_behind : He.DefD := ⟨("_law_behind", none), "_law_behind", "_law_behind", defArgs st__law_behind, defBody st__law_behind, defScope st__law_behind, [], []⟩
def dd_is_integer : He.DefD := ⟨("is_integer", none), "is_integer", "is_integer", defArgs st_is_integer, defBody st_is_integer, defScope st_is_integer, [], []⟩
def dd_are_integers : He.DefD := ⟨("are_integers", none), "are_integers", "are_integers", defArgs st_are_integers, defBody st_are_integers, defScope st_are_integers, [], []⟩
def dd_is_clamp : He.DefD := ⟨("is_clamp", none), "is_clamp", "is_clamp", defArgs st_is_clamp, defBody st_is_clamp, defScope st_is_clamp, [], []⟩
def dd_check_clamp : He.DefD := ⟨("check_clamp", none), "check_clamp", "check_clamp", defArgs st_check_clamp, defBody st_check_clamp, defScope st_check_clamp, [], []⟩
def dd_plain : He.DefD := ⟨("plain", none), "plain", "plain", defArgs st_plain, defBody st_plain, defScope st_plain, [], []⟩
def dd_behind_of : He.DefD := ⟨("behind_of", none), "behind_of", "behind_of", defArgs st_behind_of, defBody st_behind_of, defScope st_behind_of, [], []⟩
def dd_all_behind : He.DefD := ⟨("all_behind", none), "all_behind", "all_behind", defArgs st_all_behind, defBody st_all_behind, defScope st_all_behind, [], []⟩
def dd__law_is : He.DefD := ⟨("_law_is", none), "_law_is", "_law_is", defArgs st__law_is, defBody st__law_is, defScope st__law_is, [], []⟩
def dd_clamp_behind : He.DefD := ⟨("clamp_behind", none), "clamp_behind", "clamp_behind", defArgs st_clamp_behind, defBody st_clamp_behind, defScope st_clamp_behind, [], []⟩
def dd__law_row_right : He.DefD := ⟨("_law_row_right", none), "_law_row_right", "_law_row_right", defArgs st__law_row_right, defBody st__law_row_right, defScope st__law_row_right, [], []⟩
def dd_check_number : He.DefD := ⟨("check_number", none), "check_number", "check_number", defArgs st_check_number, defBody st_check_number, defScope st_check_number, [], []⟩
def dd_clamp_led : He.DefD := ⟨("clamp_led", none), "clamp_led", "clamp_led", defArgs st_clamp_led, defBody st_clamp_led, defScope st_clamp_led, [], []⟩
def dd__law_pair_right : He.DefD := ⟨("_law_pair_right", none), "_law_pair_right", "_law_pair_right", defArgs st__law_pair_right, defBody st__law_pair_right, defScope st__law_pair_right, [], []⟩
def dd__law_deep : He.DefD := ⟨("_law_deep", none), "_law_deep", "_law_deep", defArgs st__law_deep, defBody st__law_deep, defScope st__law_deep, [], []⟩
def dd__law_raised : He.DefD := ⟨("_law_raised", none), "_law_raised", "_law_raised", defArgs st__law_raised, defBody st__law_raised, defScope st__law_raised, [], []⟩
def dd_is_within : He.DefD := ⟨("is_within", none), "is_within", "is_within", defArgs st_is_within, defBody st_is_within, defScope st_is_within, [], []⟩
def dd_clamp_often : He.DefD := ⟨("clamp_often", none), "clamp_often", "clamp_often", defArgs st_clamp_often, defBody st_clamp_often, defScope st_clamp_often, [], []⟩
def dd_steps_clamps : He.DefD := ⟨("steps_clamps", none), "steps_clamps", "steps_clamps", defArgs st_steps_clamps, defBody st_steps_clamps, defScope st_steps_clamps, [], []⟩
def dd__law_refused : He.DefD := ⟨("_law_refused", none), "_law_refused", "_law_refused", defArgs st__law_refused, defBody st__law_refused, defScope st__law_refused, [], []⟩
def dd__law_steps_right : He.DefD := ⟨("_law_steps_right", none), "_law_steps_right", "_law_steps_right", defArgs st__law_steps_right, defBody st__law_steps_right, defScope st__law_steps_right, [], []⟩
def dd__law_often : He.DefD := ⟨("_law_often", none), "_law_often", "_law_often", defArgs st__law_often, defBody st__law_often, defScope st__law_often, [], []⟩
def dd__law_often_right : He.DefD := ⟨("_law_often_right", none), "_law_often_right", "_law_often_right", defArgs st__law_often_right, defBody st__law_often_right, defScope st__law_often_right, [], []⟩
def dd_law : He.DefD := ⟨("law", none), "law", "law", defArgs st_law, defBody st_law, defScope st_law, [], []⟩
def fn : List He.DefD := [dd__law_hand, dd__law_draw, dd__law_any, dd__law_near, dd__law_clamp, dd__law_plain, dd__law_led, dd__law_behind, dd_is_integer, dd_are_integers, dd_is_clamp, dd_check_clamp, dd_plain, dd_behind_of, dd_all_behind, dd__law_is, dd_clamp_behind, dd__law_row_right, dd_check_number, dd_clamp_led, dd__law_pair_right, dd__law_deep, dd__law_raised, dd_is_within, dd_clamp_often, dd_steps_clamps, dd__law_refused, dd__law_steps_right, dd__law_often, dd__law_often_right, dd_law]
def tf : List He.Defn := [("_law_refused", none)]
def loose0 : List Str := ["__name__", "is_integer", "is_within", "are_integers", "WordError", "BadClamp", "BadNumber", "MOST_NUMBER", "is_clamp", "check_clamp", "check_number", "clamp_led", "clamp_behind", "behind_of", "plain", "all_behind", "steps_clamps", "clamp_often", "_law_hand", "_law_draw", "_law_any", "_law_is", "_law_deep", "_law_near", "_law_clamp", "_law_led", "_law_plain", "_law_behind", "_law_often", "_law_pair_right"]
def loose1 : List Str := ["_law_row_right", "_law_often_right", "_law_steps_right", "_law_raised", "_law_refused"]
def loose : List Str := loose0 ++ loose1
abbrev R : PySem.W.OpenRow := PySem.W.OpenLaw.row PySem.Challenge.rw_wordhouse_k72_whole_clamps_behind
abbrev hk : PySem.W.Hook := He.hookX 4 fa fn [] tf (moreB CS XS tf)
def ob (s : PySem.W.SharedT) : He.AlX := He.obsX 4 fa fn [] tf (moreB CS XS tf) (HandSHeadRun.getT s)
theorem ob_eq (s : PySem.W.SharedT) : ob s = hk.obs s.abs := He.obsX_eq (HandSHeadRun.getT_eq s)
theorem run (w : World) : HandSHeadRun.RunEq R (PySem.W.view R.prog [38]) hk ob 6000 loose w := by
  intro os
  kernel_rfl
section
variable {w : World} {h : Heap} {mg : Str → Option Value} {K : PySem.W.Frag}
theorem gf (d : Hd CS XS fa fn tf w h mg K) : Gf K mg where
  n_abs := d.free 34
  n_all := d.free 35
  n_bool := d.free 36
  n_int := d.free 37
  n_isinstance := d.free 38
  n_len := d.free 39
  n_list := d.free 40
  n_max := d.free 41
  n_min := d.free 42
  n_range := d.free 43
  n_str := d.free 44
  n_tuple := d.free 45
  n_zip := d.free 46
  k_MOST_NUMBER := d.int 47
  x_BadClamp := d.exc 48 31
  x_BadNumber := d.exc 49 32
  xm := (mem_cons' (d.exm 50 31 33) (mem_cons' (d.exm 51 32 33) mem_nil))
  xs := d.eS (mem_cons' (d.glo 31) (mem_cons' (d.glo 32) mem_nil))
  xi := d.eI (mem_cons' (d.glo 31) (mem_cons' (d.glo 32) mem_nil)) (mem_cons' (d.glo 31) (mem_cons' (d.glo 32) mem_nil))
theorem okAll (d : Hd CS XS fa fn tf w h mg K) {fd : FuncData} (F : FunD K "law" "law" (defArgs st_law) (defBody st_law) (defScope st_law) [] [] (He.fAd K ("law", none)) fd) (base : Heap) (hT : ∀ p ∈ tf, LamX.TabB base mg (He.cT K p).1 (He.cT K p).2) : FnOk PySem.Challenge.rw_wordhouse_k72_whole_clamps_behind.prog w K mg base (L2.CX PySem.Challenge.rw_wordhouse_k72_whole_clamps_behind.prog w) 11 (He.fAd K ("law", none)) fd ["script"] (spLaw K (tabT K tf) 4 b_law) := by
  have g := gf d
  have c__law_hand : Cal PySem.Challenge.rw_wordhouse_k72_whole_clamps_behind.prog w K mg base (tabT K tf) 1 "_law_hand" (d__law_hand) := ok__law_hand g (d.def_ 0 0)
  have c__law_draw : Cal PySem.Challenge.rw_wordhouse_k72_whole_clamps_behind.prog w K mg base (tabT K tf) 1 "_law_draw" (d__law_draw) := ok__law_draw g (d.def_ 1 1)
  have c__law_any : Cal PySem.Challenge.rw_wordhouse_k72_whole_clamps_behind.prog w K mg base (tabT K tf) 2 "_law_any" (d__law_any) := ok__law_any g (d.def_ 2 2) c__law_draw
  have c__law_near : Cal PySem.Challenge.rw_wordhouse_k72_whole_clamps_behind.prog w K mg base (tabT K tf) 3 "_law_near" (d__law_near) := ok__law_near g (d.def_ 3 3) c__law_any c__law_draw
  have c__law_clamp : Cal PySem.Challenge.rw_wordhouse_k72_whole_clamps_behind.prog w K mg base (tabT K tf) 4 "_law_clamp" (d__law_clamp) := ok__law_clamp g (d.def_ 4 4) c__law_near c__law_any
  have c__law_plain : Cal PySem.Challenge.rw_wordhouse_k72_whole_clamps_behind.prog w K mg base (tabT K tf) 1 "_law_plain" (d__law_plain) := ok__law_plain g (d.def_ 5 5)
  have c__law_led : Cal PySem.Challenge.rw_wordhouse_k72_whole_clamps_behind.prog w K mg base (tabT K tf) 1 "_law_led" (d__law_led) := ok__law_led g (d.def_ 6 6)
  have c__law_behind : Cal PySem.Challenge.rw_wordhouse_k72_whole_clamps_behind.prog w K mg base (tabT K tf) 2 "_law_behind" (d__law_behind) := ok__law_behind g (d.def_ 7 7) c__law_led c__law_plain
  have c_is_integer : Cal PySem.Challenge.rw_wordhouse_k72_whole_clamps_behind.prog w K mg base (tabT K tf) 1 "is_integer" (d_is_integer) := ok_is_integer g (d.def_ 8 8)
  have c_are_integers : Cal PySem.Challenge.rw_wordhouse_k72_whole_clamps_behind.prog w K mg base (tabT K tf) 2 "are_integers" (d_are_integers) := ok_are_integers g (d.def_ 9 9) c_is_integer
  have c_is_clamp : Cal PySem.Challenge.rw_wordhouse_k72_whole_clamps_behind.prog w K mg base (tabT K tf) 3 "is_clamp" (d_is_clamp) := ok_is_clamp g (d.def_ 10 10) c_are_integers
  have c_check_clamp : Cal PySem.Challenge.rw_wordhouse_k72_whole_clamps_behind.prog w K mg base (tabT K tf) 4 "check_clamp" (d_check_clamp) := ok_check_clamp g (d.def_ 11 11) c_is_clamp
  have c_plain : Cal PySem.Challenge.rw_wordhouse_k72_whole_clamps_behind.prog w K mg base (tabT K tf) 1 "plain" (d_plain) := ok_plain g (d.def_ 12 12)
  have c_behind_of : Cal PySem.Challenge.rw_wordhouse_k72_whole_clamps_behind.prog w K mg base (tabT K tf) 2 "behind_of" (d_behind_of) := ok_behind_of g (d.def_ 13 13) c_plain
  have c_all_behind : Cal PySem.Challenge.rw_wordhouse_k72_whole_clamps_behind.prog w K mg base (tabT K tf) 5 "all_behind" (d_all_behind) := ok_all_behind g (d.def_ 14 14) c_check_clamp c_plain c_behind_of
  have c__law_is : Cal PySem.Challenge.rw_wordhouse_k72_whole_clamps_behind.prog w K mg base (tabT K tf) 9 "_law_is" (d__law_is 8) := ok__law_is g (d.def_ 15 15) 8
  have c_clamp_behind : Cal PySem.Challenge.rw_wordhouse_k72_whole_clamps_behind.prog w K mg base (tabT K tf) 5 "clamp_behind" (d_clamp_behind) := ok_clamp_behind g (d.def_ 16 16) c_check_clamp c_behind_of
  have c__law_row_right : Cal PySem.Challenge.rw_wordhouse_k72_whole_clamps_behind.prog w K mg base (tabT K tf) 10 "_law_row_right" (d__law_row_right) := ok__law_row_right g (d.def_ 17 17) c__law_draw c__law_clamp c__law_plain c__law_behind c_all_behind c__law_is c_clamp_behind c_is_clamp
  have c_check_number : Cal PySem.Challenge.rw_wordhouse_k72_whole_clamps_behind.prog w K mg base (tabT K tf) 2 "check_number" (d_check_number) := ok_check_number g (d.def_ 18 18) c_is_integer
  have c_clamp_led : Cal PySem.Challenge.rw_wordhouse_k72_whole_clamps_behind.prog w K mg base (tabT K tf) 5 "clamp_led" (d_clamp_led) := ok_clamp_led g (d.def_ 19 19) c_check_clamp c_check_number
  have c__law_pair_right : Cal PySem.Challenge.rw_wordhouse_k72_whole_clamps_behind.prog w K mg base (tabT K tf) 10 "_law_pair_right" (d__law_pair_right) := ok__law_pair_right g (d.def_ 20 20) c_clamp_behind c__law_is c__law_behind c__law_near c__law_led c_clamp_led
  have c__law_deep : Cal PySem.Challenge.rw_wordhouse_k72_whole_clamps_behind.prog w K mg base (tabT K tf) 3 "_law_deep" (d__law_deep) := ok__law_deep g (d.def_ 21 21) c__law_any c__law_draw
  have t__law_raised : Thk PySem.Challenge.rw_wordhouse_k72_whole_clamps_behind.prog w K mg base (tabT K tf) "_law_raised" th__law_raised := t__law_raised g (d.def_ 22 22)
  have c_is_within : Cal PySem.Challenge.rw_wordhouse_k72_whole_clamps_behind.prog w K mg base (tabT K tf) 2 "is_within" (d_is_within) := ok_is_within g (d.def_ 23 23) c_is_integer
  have c_clamp_often : Cal PySem.Challenge.rw_wordhouse_k72_whole_clamps_behind.prog w K mg base (tabT K tf) 5 "clamp_often" (d_clamp_often) := ok_clamp_often g (d.def_ 24 24) c_check_clamp c_is_within c_plain c_behind_of
  have c_steps_clamps : Cal PySem.Challenge.rw_wordhouse_k72_whole_clamps_behind.prog w K mg base (tabT K tf) 4 "steps_clamps" (d_steps_clamps) := ok_steps_clamps g (d.def_ 25 25) c_are_integers c_is_clamp
  have m__law_refused : (("_law_refused", none) : He.Defn) ∈ tf := (by first | exact .head _ | exact .tail _ (.head _) | exact .tail _ (.tail _ (.head _)) | exact .tail _ (.tail _ (.tail _ (.head _))) | simp [tf])
  have c__law_refused : Cal PySem.Challenge.rw_wordhouse_k72_whole_clamps_behind.prog w K mg base (tabT K tf) 8 "_law_refused" (d__law_refused) := ok__law_refused g (d.def_ 26 26) c__law_deep c__law_any t__law_raised c_clamp_behind c_clamp_often c_all_behind c_steps_clamps (hT _ m__law_refused) (tabT_mem m__law_refused) (tabT_uni d.tab m__law_refused)
  have c__law_steps_right : Cal PySem.Challenge.rw_wordhouse_k72_whole_clamps_behind.prog w K mg base (tabT K tf) 10 "_law_steps_right" (d__law_steps_right) := ok__law_steps_right g (d.def_ 27 27) c__law_draw c__law_near c__law_clamp c__law_is c_steps_clamps
  have c__law_often : Cal PySem.Challenge.rw_wordhouse_k72_whole_clamps_behind.prog w K mg base (tabT K tf) 3 "_law_often" (d__law_often) := ok__law_often g (d.def_ 28 28) c__law_plain c__law_behind
  have c__law_often_right : Cal PySem.Challenge.rw_wordhouse_k72_whole_clamps_behind.prog w K mg base (tabT K tf) 10 "_law_often_right" (d__law_often_right) := ok__law_often_right g (d.def_ 29 29) c__law_clamp c__law_any c__law_draw c__law_is c__law_often c_clamp_often c_all_behind
  exact ok_law g F c__law_hand c__law_row_right c__law_pair_right c__law_clamp c__law_refused c__law_steps_right c__law_often_right c_all_behind c_clamp_often c_clamp_behind c__law_is
end
theorem holds_of (hlaw : ∀ ns : List Int, ns.length ≤ 63 → (∀ z ∈ ns, Builtin.Int.intBits z ≤ 1048576) → ∃ G', b_law (.pl (.scr (ns.map .int)) :: List.replicate (4 - 1) .un) [] = .rt (.pl (.bl true)) G') : PySem.Challenge.rw_wordhouse_k72_whole_clamps_behind.Holds := by
  w_on; o_law
  refine HandSHeadRun.head_any (r := PySem.W.OpenLaw.row PySem.Challenge.rw_wordhouse_k72_whole_clamps_behind) (q := PySem.W.view (PySem.W.OpenLaw.row PySem.Challenge.rw_wordhouse_k72_whole_clamps_behind).prog [38]) (H := hk) (ob := ob) (M := 6000) (loose := loose) (d := HandSHeadRun.topDef (PySem.W.OpenLaw.row PySem.Challenge.rw_wordhouse_k72_whole_clamps_behind).prog 38) (kwd := []) ob_eq
    (by kernel_rfl) (fun s => by kernel_rfl) run (by kernel_rfl) (by kernel_rfl) (by kernel_rfl) (by rfl) (by first | assumption | decide +kernel) (by decide +kernel) ⟨rfl, rfl, rfl, rfl, rfl, by decide +kernel⟩ ?hw ?hc
  case hw => w_witness2
  case hc =>
    refine LamX.walk_ofTsE (l := PySem.Challenge.rw_wordhouse_k72_whole_clamps_behind) (n := 63) (k := 11) (x := "script") (CX := fun w => L2.CX PySem.Challenge.rw_wordhouse_k72_whole_clamps_behind.prog w) rfl (by decide) (by kernel_rfl) ⟨rfl, by decide, by decide⟩ ?F (fun w H s e s' z => cx_false w H s e s' z)
    intro w mg fad h Y G hmg0
    obtain ⟨K, KX, c⟩ := Y
    have d : Hd CS XS fa fn tf w h mg K := ⟨KX, G, c⟩
    have hmg : mg ("law" : Str) = some (.ref fad) := by
      have e : (HandSHeadRun.topDef (PySem.W.OpenLaw.row PySem.Challenge.rw_wordhouse_k72_whole_clamps_behind).prog 38).name = ("law" : Str) := by kernel_rfl
      rw [← e]
      exact hmg0
    obtain ⟨fd, F, hm⟩ := (d.def_ (x := "law") (st := st_law) 30 30).ex
    rw [hmg] at hm
    cases hm
    have b := FunD.bindsA (ps := ["script"]) F fun _ _ _ _ _ _ us hl => match us, hl with | [_], _ => rfl
    exact ⟨K, KX, lawAt d (fun s v => b s [v] rfl) (fun base _ _ hT => okAll d F base hT) hlaw⟩
end K72
namespace K72
open PySem L2 Wd
def HI (G : GS) : Prop := ∃ (cs : List Int) (a b c d : Int), G = [[.lst (cs.map .int), .int a, .int b, .int c, .int d]] ∧ 0 ≤ a ∧ 0 ≤ b ∧ ∀ x ∈ cs, 0 ≤ x
theorem draw_sp {G : GS} (h : HI G) {n : Int} (hn : 0 < n) (hd : divOk n) : ∃ v G', d__law_draw [.ref 0, .int n] G = .ok (.pl (.int v)) G' ∧ 0 ≤ v ∧ v < n ∧ HI G' := by
  obtain ⟨cs, a, b, c, d, rfl, ha, hb, hcs⟩ := h
  have hn0 : n ≠ 0 := by omega
  have fin : ∀ (x : Int) (a b c d : Int), 0 ≤ a → 0 ≤ b → 0 ≤ x.fmod n ∧ x.fmod n < n ∧ HI [[.lst (cs.map .int), .int a, .int b, .int c, .int d]] := fun x a b c d ha hb =>
    ⟨(fmod_pos hn).1, (fmod_pos hn).2, cs, a, b, c, d, rfl, ha, hb, hcs⟩
  by_cases h1 : b = 0
  · by_cases h2 : a < cs.length
    · obtain ⟨k, rfl⟩ : ∃ k : Nat, a = k := ⟨a.toNat, by omega⟩
      have hk : k < cs.length := by omega
      have e1 : atI (cs.map D.int) (k : Int) = some (.int cs[k]) := by
        rw [at_nat (by rw [List.length_map]; exact hk)]
        simp
      by_cases h3 : 1000000000000000000 ≤ cs[k]
      · have h4 : 0 < cs[k] := by omega
        simp [d__law_draw, b__law_draw, hn0, hd, h1, hk, e1, h3, h4]
        exact ⟨_, _, ⟨rfl, rfl⟩, fin _ _ _ _ _ (by omega) (fdiv_nn hn (by omega))⟩
      · simp [d__law_draw, b__law_draw, hn0, hd, h1, hk, e1, h3]
        exact ⟨_, _, ⟨rfl, rfl⟩, fin _ _ _ _ _ (by omega) (by omega)⟩
    · simp [d__law_draw, b__law_draw, hn0, hd, h1, h2]
      exact ⟨_, _, ⟨rfl, rfl⟩, fin _ _ _ _ _ (by omega) (by omega)⟩
  · have h1' : 0 < b := by omega
    simp [d__law_draw, b__law_draw, hn0, hd, h1, h1']
    exact ⟨_, _, ⟨rfl, rfl⟩, fin _ _ _ _ _ (by omega) (fdiv_nn hn (by omega))⟩
theorem any_sp {G : GS} (h : HI G) {xs : List D} (h0 : 0 < xs.length) (h1 : xs.length ≤ 1000) : ∃ x ∈ xs, ∃ G', d__law_any [.ref 0, .lst xs] G = .ok (.pl x) G' ∧ HI G' := by
  obtain ⟨v, G', e, hv, hl, hG⟩ := draw_sp h (n := (xs.length : Int)) (by omega) (divOk_lt (by omega) (by omega))
  obtain ⟨k, rfl⟩ : ∃ k : Nat, v = k := ⟨v.toNat, by omega⟩
  have hk : k < xs.length := by omega
  obtain ⟨_, _, _, _, _, rfl, _⟩ := id h
  obtain ⟨_, _, _, _, _, rfl, _⟩ := id hG
  exact ⟨xs[k], List.getElem_mem hk, _, by simp [d__law_any, b__law_any, e, at_nat hk], hG⟩
theorem HI.len {G : GS} (h : HI G) : G.length = 1 := by
  obtain ⟨_, _, _, _, _, rfl, _⟩ := h
  rfl
theorem near_sp {G : GS} (h : HI G) : ∃ v G', d__law_near [.ref 0] G = .ok (.pl (.int v)) G' ∧ -1000000000000000000 ≤ v ∧ v ≤ 1000000000000000000 ∧ HI G' := by
  obtain ⟨x, hx, G1, e1, h1⟩ := any_sp h (xs := [.int 1, .int 3, .int 20, .int 1000, .int 1000000000000000000]) (by simp) (by simp)
  obtain ⟨w, rfl, hw1, hw2⟩ : ∃ w : Int, x = .int w ∧ 1 ≤ w ∧ w ≤ 1000000000000000000 := by
    simp at hx
    rcases hx with rfl | rfl | rfl | rfl | rfl <;> exact ⟨_, rfl, by omega, by omega⟩
  obtain ⟨v2, G2, e2, v2a, v2b, h2⟩ := draw_sp h1 (n := 2 * w + 1) (by omega) (divOk_lt (by omega) (by omega))
  obtain ⟨v3, G3, e3, v3a, v3b, h3⟩ := draw_sp h2 (n := 7) (by omega) (by decide)
  obtain ⟨y, hy, G4, e4, h4⟩ := any_sp h3 (xs := [.int (v2 - w), .int 0, .int (v3 - 3), .int w, .int (-w)]) (by simp) (by simp)
  obtain ⟨v, rfl, hv1, hv2⟩ : ∃ v : Int, y = .int v ∧ -1000000000000000000 ≤ v ∧ v ≤ 1000000000000000000 := by
    simp at hy
    rcases hy with rfl | rfl | rfl | rfl | rfl <;> exact ⟨_, rfl, by omega, by omega⟩
  refine ⟨v, G4, ?_, hv1, hv2, h4⟩
  simp [d__law_near, b__law_near, e1, e2, e3, e4, h.len, h4.len]
theorem clamp_sp {G : GS} (h : HI G) : ∃ s l u G', d__law_clamp [.ref 0] G = .ok (.pl (.tup [.int s, .int l, .int u])) G' ∧ (-1000000000000000000 ≤ s ∧ s ≤ 1000000000000000000) ∧ -1000000000000000000 ≤ l ∧ l ≤ u ∧ u ≤ 1000000000000000000 ∧ HI G' := by
  obtain ⟨v1, G1, e1, a1, b1, h1⟩ := near_sp h
  obtain ⟨v2, G2, e2, a2, b2, h2⟩ := near_sp h1
  obtain ⟨v3, G3, e3, a3, b3, h3⟩ := near_sp h2
  obtain ⟨v4, G4, e4, a4, b4, h4⟩ := near_sp h3
  obtain ⟨v5, G5, e5, a5, b5, h5⟩ := near_sp h4
  obtain ⟨y, hy, G6, e6, h6⟩ := any_sp h5 (xs := [.tup [.int v3, .int (min v1 v2), .int (max v1 v2)], .tup [.int v4, .int (min v1 v2), .int (max v1 v2)], .tup [.int v5, .int (min v1 v2), .int (min v1 v2)]]) (by simp) (by simp)
  have ex : ∃ s l u : Int, y = .tup [.int s, .int l, .int u] ∧ (-1000000000000000000 ≤ s ∧ s ≤ 1000000000000000000) ∧ -1000000000000000000 ≤ l ∧ l ≤ u ∧ u ≤ 1000000000000000000 := by
    simp at hy
    rcases hy with rfl | rfl | rfl <;> exact ⟨_, _, _, rfl, ⟨by omega, by omega⟩, by omega, by omega, by omega⟩
  obtain ⟨s, l, u, rfl, hs, hl, hlu, hu⟩ := ex
  refine ⟨s, l, u, G6, ?_, hs, hl, hlu, hu, h6⟩
  simp [d__law_clamp, b__law_clamp, e1, e2, e3, e4, e5, e6, h.len, h6.len]
structure Gd (x : D) : Prop where
  ty : x.tyN ≠ ""
  el : ∀ ys, x = .tup ys → ys.length ≤ 1000 ∧ ∀ y ∈ ys, y.tyN ≠ ""
def isC : D → Bool
  | .tup [.int a, .int b, .int c] => decide ((a.natAbs : Int) ≤ 1000000000000000000) && (decide ((b.natAbs : Int) ≤ 1000000000000000000) && (decide ((c.natAbs : Int) ≤ 1000000000000000000) && decide (b ≤ c)))
  | _ => false
theorem is_integer_eq {x : D} (h : x.tyN ≠ "") {G : GS} : d_is_integer [x] G = .ok (.pl (.bl x.isI)) G := by
  rw [← isI_eq h]
  simp [d_is_integer, b_is_integer, h]
  cases isiB x.tyN "int" <;> simp
theorem are_integers_tup {ys : List D} (h : ys.length ≤ 1000 ∧ ∀ y ∈ ys, y.tyN ≠ "") {G : GS} : d_are_integers [.tup ys] G = .ok (.pl (.bl (ys.all D.isI))) G := by
  have e := lc_map (G := G) (tg := gN 1) (fe := fCall d_is_integer (fCons (fVar 1) fNil)) (S := [.pl (.tup ys), .un]) (fun x => .bl x.isI) (xs := ys) fun x hx => ⟨_, rfl, by simp [is_integer_eq (h.2 x hx)]⟩
  have h2 : ys.length ≤ 16777216 := by omega
  simp [d_are_integers, b_are_integers, isiB, h2, e]
theorem are_integers_not {x : D} (h : x.tyN ≠ "") (n : ∀ ys, x ≠ .tup ys) {G : GS} : d_are_integers [x] G = .ok (.pl (.bl false)) G := by
  have : isiB x.tyN "tuple" = false := by
    cases x <;> first | rfl | (exact absurd rfl (n _)) | (exact absurd rfl h)
  simp [d_are_integers, b_are_integers, h, this]
theorem isC_len {ys : List D} (h : ys.length ≠ 3) : isC (.tup ys) = false := by
  unfold isC
  split
  · rename_i e
    cases e
    exact absurd rfl h
  · rfl
theorem isC_ni {ys : List D} (h : ys.all D.isI = false) : isC (.tup ys) = false := by
  unfold isC
  split
  · rename_i e
    cases e
    simp [D.isI] at h
  · rfl
theorem isC_not {x : D} (n : ∀ ys, x ≠ .tup ys) : isC x = false := by
  cases x <;> first | rfl | (exact absurd rfl (n _))
theorem is_clamp_eq {x : D} (h : Gd x) {G : GS} : d_is_clamp [x] G = .ok (.pl (.bl (isC x))) G := by
  by_cases hx : ∃ ys, x = .tup ys
  · obtain ⟨ys, rfl⟩ := hx
    have hy := h.el ys rfl
    have h2 : ys.length ≤ 16777216 := by omega
    cases ha : ys.all D.isI with
    | false => simp [d_is_clamp, b_is_clamp, are_integers_tup hy, ha, isC_ni ha]
    | true =>
      obtain ⟨ns, rfl⟩ := isI_ints ha
      by_cases hl : ns.length = 3
      · obtain ⟨a, b, c, rfl⟩ : ∃ a b c, ns = [a, b, c] := by
          match ns, hl with
          | [a, b, c], _ => exact ⟨a, b, c, rfl⟩
        have e := lc_map (G := G) (tg := gN 1) (fe := le1_is_clamp) (S := [.pl (.tup [.int a, .int b, .int c]), .un]) (fun x => .bl (match x with | .int i => decide ((i.natAbs : Int) ≤ 1000000000000000000) | _ => false)) (xs := [.int a, .int b, .int c]) fun x hx => ⟨_, rfl, by
          simp at hx
          rcases hx with rfl | rfl | rfl <;> simp [le1_is_clamp]⟩
        have e0 := are_integers_tup (ys := [.int a, .int b, .int c]) ⟨by simp, by simp⟩ (G := G)
        have ha' : ([D.int a, D.int b, D.int c]).all D.isI = true := rfl
        rw [ha'] at e0
        simp [d_is_clamp, b_is_clamp, e0, e, isC, dAll, asBs, D.pln, dNe, D.eqv]
        by_cases hP : 1000000000000000000 < (a.natAbs : Int) ∨ 1000000000000000000 < (b.natAbs : Int) ∨ 1000000000000000000 < (c.natAbs : Int)
        · simp [hP]
          omega
        · have ca : (a.natAbs : Int) ≤ 1000000000000000000 := by omega
          have cb : (b.natAbs : Int) ≤ 1000000000000000000 := by omega
          have cc : (c.natAbs : Int) ≤ 1000000000000000000 := by omega
          simp [hP, ca, cb, cc]
      · have hl' : ¬ ((ns.length : Int) = 3) := by omega
        simp [d_is_clamp, b_is_clamp, are_integers_tup hy, ha, hl', isC_len (ys := ns.map .int) (by simpa using hl)]
  · have n : ∀ ys, x ≠ .tup ys := fun ys e => hx ⟨ys, e⟩
    simp [d_is_clamp, b_is_clamp, are_integers_not h.ty n, isC_not n]
structure CL (s l u : Int) : Prop where
  s1 : -1000000000000000000 ≤ s
  s2 : s ≤ 1000000000000000000
  l1 : -1000000000000000000 ≤ l
  lu : l ≤ u
  u1 : u ≤ 1000000000000000000
abbrev tC (s l u : Int) : D := .tup [.int s, .int l, .int u]
theorem gd_tC {s l u : Int} : Gd (tC s l u) := ⟨by simp, fun ys e => by cases e; simp⟩
theorem CL.isC {s l u : Int} (h : CL s l u) : isC (tC s l u) = true := by
  have := h.s1; have := h.s2; have := h.l1; have := h.lu; have := h.u1
  simp [K72.isC]
  omega
theorem isC_ex {x : D} (h : isC x = true) : ∃ s l u, x = tC s l u ∧ CL s l u := by
  unfold K72.isC at h
  split at h
  · rename_i a b c
    simp at h
    exact ⟨a, b, c, rfl, by omega, by omega, by omega, by omega, by omega⟩
  · cases h
theorem check_ok {s l u : Int} (h : CL s l u) {G : GS} : d_check_clamp [tC s l u] G = .ok (.pl .non) G := by
  simp [d_check_clamp, b_check_clamp, is_clamp_eq gd_tC, h.isC]
theorem check_bad {x : D} (h : Gd x) (n : isC x = false) {G : GS} : d_check_clamp [x] G = .exc "BadClamp" none G := by
  simp [d_check_clamp, b_check_clamp, is_clamp_eq h, n]
def plainI (s l u : Int) : Int := if l = u then 0 else s
theorem plain_eq {s l u : Int} {G : GS} : d_plain [tC s l u] G = .ok (.pl (tC (plainI s l u) l u)) G := by
  by_cases e : l = u <;> simp [d_plain, b_plain, plainI, e]
def led (s l u n : Int) : Int := max l (min u (n + s))
theorem law_led_eq {s l u n : Int} {G : GS} : d__law_led [tC s l u, .int n] G = .ok (.pl (.int (led s l u n))) G := by
  simp [d__law_led, b__law_led, led]
theorem law_plain_eq {s l u : Int} (h : l ≤ u) {G : GS} : d__law_plain [tC s l u] G = .ok (.pl (tC (plainI s l u) l u)) G := by
  by_cases e : l = u
  · simp [d__law_plain, b__law_plain, plainI, e]
  · have : l < u := by omega
    simp [d__law_plain, b__law_plain, plainI, e, this]
theorem check_number_ok {n : Int} (h1 : -1000000000000000000 ≤ n) (h2 : n ≤ 1000000000000000000) {G : GS} : d_check_number [.int n] G = .ok (.pl .non) G := by
  have : ¬ (1000000000000000000 < (n.natAbs : Int)) := by omega
  simp [d_check_number, b_check_number, is_integer_eq, D.isI, this]
theorem clamp_led_eq {s l u n : Int} (h : CL s l u) (h1 : -1000000000000000000 ≤ n) (h2 : n ≤ 1000000000000000000) {G : GS} : d_clamp_led [tC s l u, .int n] G = .ok (.pl (.int (led s l u n))) G := by
  simp [d_clamp_led, b_clamp_led, check_ok h, check_number_ok h1 h2, led]
theorem CL.plain {s l u : Int} (h : CL s l u) : CL (plainI s l u) l u := by
  obtain ⟨h1, h2, h3, h4, h5⟩ := h
  unfold plainI
  split <;> exact ⟨by omega, by omega, h3, h4, h5⟩
theorem led_plain {s l u n : Int} (h : CL s l u) : led (plainI s l u) l u n = led s l u n := by
  have := h.lu
  unfold plainI led
  split <;> omega
theorem eq3 {a b c d e f : Int} {G : GS} : dEq G (tC a b c) (tC d e f) = some (.bl (a == d && (b == e && c == f))) := by
  simp [dEq, D.pln, D.plns, D.eqv, D.eqvs]
def Vl : Nat → D → Prop
  | _, .non => True
  | _, .bl _ => True
  | _, .int _ => True
  | _, .str _ => True
  | n + 1, .tup xs => xs.length ≤ 1000 ∧ ∀ x ∈ xs, Vl n x
  | n + 1, .lst xs => xs.length ≤ 1000 ∧ ∀ x ∈ xs, Vl n x
  | _, _ => False
theorem zip_self (xs : List D) : List.zipWith (fun x z => D.tup [x, z]) xs xs = xs.map fun x => D.tup [x, x] := by
  induction xs with
  | nil => rfl
  | cons x r ih => simp [ih]
theorem is_self : ∀ (n : Nat) (x : D), Vl n x → ∀ G, d__law_is (n + 1) [x, x] G = .ok (.pl (.bl true)) G
  | n, .non, h, G => by simp [d__law_is, b__law_is, isiB, dIs, D.isNon]
  | n, .bl b, h, G => by simp [d__law_is, b__law_is, isiB, dIs, D.isNon]
  | n, .int b, h, G => by simp [d__law_is, b__law_is, isiB, dIs, D.isNon]
  | n, .str b, h, G => by simp [d__law_is, b__law_is, isiB, dIs, D.isNon, dEq, D.pln, D.eqv]
  | n + 1, .tup xs, h, G => by
    have h2 : xs.length ≤ 16777216 := by have := h.1; omega
    have e := lc_map (G := G) (tg := gTp 2 (gCs (gN 2) (gCs (gN 3) gNl))) (fe := fCall (d__law_is (n + 1)) (fCons (fVar 2) (fCons (fVar 3) fNil))) (S := [.pl (.tup xs), .pl (.tup xs), .un, .un]) (fun _ => .bl true) (xs := xs.map fun x => D.tup [x, x]) fun y hy => by
      obtain ⟨x, hx, rfl⟩ := List.mem_map.mp hy
      exact ⟨_, rfl, by simp [is_self n x (h.2 x hx) G]⟩
    unfold d__law_is
    simp [b__law_is, isiB, zip_self, h2, e]
  | n + 1, .lst xs, h, G => by
    have h2 : xs.length ≤ 16777216 := by have := h.1; omega
    have e := lc_map (G := G) (tg := gTp 2 (gCs (gN 2) (gCs (gN 3) gNl))) (fe := fCall (d__law_is (n + 1)) (fCons (fVar 2) (fCons (fVar 3) fNil))) (S := [.pl (.lst xs), .pl (.lst xs), .un, .un]) (fun _ => .bl true) (xs := xs.map fun x => D.tup [x, x]) fun y hy => by
      obtain ⟨x, hx, rfl⟩ := List.mem_map.mp hy
      exact ⟨_, rfl, by simp [is_self n x (h.2 x hx) G]⟩
    unfold d__law_is
    simp [b__law_is, isiB, zip_self, h2, e]
  | 0, .tup xs, h, _ => h.elim
  | 0, .lst xs, h, _ => h.elim
  | n, .scr xs, h, _ => by cases n <;> exact h.elim
  | n, .dct _ xs, h, _ => by cases n <;> exact h.elim
  | n, .ref xs, h, _ => by cases n <;> exact h.elim
  | n, .fn xs, h, _ => by cases n <;> exact h.elim
  | n, .ty xs, h, _ => by cases n <;> exact h.elim
  | n, .obj _ _ xs, h, _ => by cases n <;> exact h.elim
theorem gd_simple {x : D} (h : x.tyN ≠ "") (n : ∀ ys, x ≠ .tup ys) : Gd x := ⟨h, fun ys e => absurd e (n ys)⟩
theorem deep_sp {G : GS} (h : HI G) : ∃ x G', d__law_deep [.ref 0] G = .ok (.pl x) G' ∧ Gd x ∧ HI G' := by
  obtain ⟨x, hx, G1, e1, h1⟩ := any_sp h (xs := [.non, .str "?", .bl true]) (by simp) (by simp)
  have gx : Gd x := by
    simp at hx
    rcases hx with rfl | rfl | rfl <;> exact gd_simple (by simp) (by simp)
  obtain ⟨v, G2, e2, v1, v2, h2⟩ := draw_sp h1 (n := 29) (by omega) (by decide)
  obtain ⟨S', G', e3, ⟨y, t, rfl, gy, hG⟩⟩ := for_inv (tg := gN 2) (body := lb1__law_deep)
    (fun S G => ∃ y t, S = [.pl (.ref 0), .pl y, t] ∧ Gd y ∧ HI G) (xs := (List.range (1 + v).toNat).map fun (k : Nat) => D.int k) (S := [.pl (.ref 0), .pl x, .un]) (G := G2) ⟨_, _, rfl, gx, h2⟩ (fun z hz S G hS => by
      obtain ⟨y, t, rfl, gy, hG⟩ := hS
      obtain ⟨w, G3, e4, w1, w2, h3⟩ := draw_sp hG (n := 3) (by omega) (by decide)
      have hw : w = 0 ∨ w = 1 ∨ w = 2 := by omega
      rcases hw with rfl | rfl | rfl
      · exact ⟨_, rfl, [.pl (.ref 0), .pl (.tup [y]), .pl z], G3, by simp [lb1__law_deep, e4], _, _, rfl, ⟨by simp, fun ys e => by cases e; simpa using gy.ty⟩, h3⟩
      · exact ⟨_, rfl, [.pl (.ref 0), .pl (.lst [y]), .pl z], G3, by simp [lb1__law_deep, e4], _, _, rfl, gd_simple (by simp) (by simp), h3⟩
      · exact ⟨_, rfl, [.pl (.ref 0), .pl (.dct [.inl 0] [y]), .pl z], G3, by simp [lb1__law_deep, e4], _, _, rfl, gd_simple (by simp) (by simp), h3⟩)
  have r1 : (-4611686018427387904 : Int) ≤ 1 + v ∧ 1 + v < 4611686018427387904 := by omega
  exact ⟨y, G', by simp [d__law_deep, b__law_deep, e1, e2, e3, r1, h.len, hG.len], gy, hG⟩
theorem gd_tup {ys : List D} (h : ys.length ≤ 1000) (e : ∀ y ∈ ys, y.tyN ≠ "") : Gd (.tup ys) := ⟨by simp, fun zs q => by cases q; exact ⟨h, e⟩⟩
theorem gd_lst {ys : List D} : Gd (.lst ys) := gd_simple (by simp) (by simp)
theorem plainI_idem {s l u : Int} : plainI (plainI s l u) l u = plainI s l u := by
  unfold plainI
  split <;> simp
theorem is8 {x : D} (h : Vl 7 x) {G : GS} : d__law_is 8 [x, x] G = .ok (.pl (.bl true)) G := is_self 7 x h G
theorem ne3 {a b c d e f : Int} {G : GS} : dNe G (tC a b c) (tC d e f) = some (.bl (!(a == d && (b == e && c == f)))) := by
  simp [dNe, D.pln, D.plns, D.eqv, D.eqvs]
theorem raised_ok {fa : GS → Res D} {G : GS} {d : D} (h : fa G = .ok d G) : th__law_raised fa G = .ok (.pl .non) G := by
  simp [th__law_raised, b__law_raised, h]
theorem raised_clamp {fa : GS → Res D} {G : GS} (h : fa G = .exc "BadClamp" none G) : th__law_raised fa G = .ok (.pl (.str "clamp")) G := by
  simp [th__law_raised, b__law_raised, h, dCount, dIndex, D.flat, D.eqv, idxOf]
theorem raised_number {fa : GS → Res D} {G : GS} (h : fa G = .exc "BadNumber" none G) : th__law_raised fa G = .ok (.pl (.str "number")) G := by
  simp [th__law_raised, b__law_raised, h, dCount, dIndex, D.flat, D.eqv, idxOf]
theorem hand_sp (ns : List Int) (h : ns.length ≤ 63) : ∃ xs, d__law_hand [.scr (ns.map .int)] [] = .ok (.ow xs) [] ∧ HI [xs] := by
  have ec : cutD (ns.map D.int) none (some 63) = ns.map D.int := by
    have q : HT.sIx (ns.map D.int).length (ns.map D.int).length (some 63) = ns.length := by
      rw [List.length_map]
      have := HT.sIx_nat ns.length ns.length 63
      rw [show ((63 : Nat) : Int) = 63 from rfl] at this
      rw [this]
      omega
    unfold cutD
    rw [q, HT.sIx_none, Nat.sub_zero, List.drop_zero]
    exact List.take_of_length_le (by rw [List.length_map]; exact Nat.le_refl _)
  have e := lc_map (G := []) (tg := gN 2) (fe := fB dAbs (fCons (fB dInt (fCons (fVar 2) fNil)) fNil)) (S := [.pl (.scr (ns.map .int)), .un, .un]) (fun x => match x with | .int i => .int (i.natAbs : Int) | x => x) (xs := ns.map D.int) fun x hx => by
    obtain ⟨i, _, rfl⟩ := List.mem_map.mp hx
    exact ⟨_, rfl, by simp⟩
  have em : (ns.map D.int).map (fun x => match x with | .int i => D.int (i.natAbs : Int) | x => x) = (ns.map fun i => (i.natAbs : Int)).map D.int := by
    rw [List.map_map, List.map_map]
    rfl
  rw [em] at e
  have hl : ns.length ≤ 16777216 := by omega
  refine ⟨[.lst ((ns.map fun i => (i.natAbs : Int)).map .int), .int 0, .int 0, .int (101 + 7 * ns.length), .int 0], ?_, ns.map fun i => (i.natAbs : Int), 0, 0, 101 + 7 * ns.length, 0, rfl, by omega, by omega, fun x hx => ?_⟩
  · simp [d__law_hand, b__law_hand, ec, hl]
    rw [e]
    simp
  · obtain ⟨i, _, rfl⟩ := List.mem_map.mp hx
    omega
/-! one behind the other -/
abbrev T3 := Int × Int × Int
abbrev tD (t : T3) : D := tC t.1 t.2.1 t.2.2
def plT (t : T3) : T3 := (plainI t.1 t.2.1 t.2.2, t.2.1, t.2.2)
def ledT (t : T3) (n : Int) : Int := led t.1 t.2.1 t.2.2 n
def beT (a b : T3) : T3 := plT (a.1 + b.1, ledT b a.2.1, ledT b a.2.2)
def Wf (t : T3) : Prop := t.2.1 ≤ t.2.2
theorem led_mono {t : T3} (h : Wf t) {a b : Int} (k : a ≤ b) : ledT t a ≤ ledT t b := by
  unfold ledT led
  unfold Wf at h
  omega
theorem be_wf {a b : T3} (ha : Wf a) (hb : Wf b) : Wf (beT a b) := led_mono hb ha
theorem pl_wf {a : T3} (ha : Wf a) : Wf (plT a) := ha
theorem behind_of_eq {a b : T3} {G : GS} : d_behind_of [tD a, tD b] G = .ok (.pl (tD (beT a b))) G := by
  simp [d_behind_of, b_behind_of, plain_eq, beT, plT, ledT, led]
theorem law_behind_eq {a b : T3} (ha : Wf a) (hb : Wf b) {G : GS} : d__law_behind [tD a, tD b] G = .ok (.pl (tD (beT a b))) G := by
  have h : ledT b a.2.1 ≤ ledT b a.2.2 := led_mono hb ha
  have e1 : ∀ G, d__law_led [tD b, .int a.2.1] G = .ok (.pl (.int (ledT b a.2.1))) G := fun G => law_led_eq
  have e2 : ∀ G, d__law_led [tD b, .int a.2.2] G = .ok (.pl (.int (ledT b a.2.2))) G := fun G => law_led_eq
  simp [d__law_behind, b__law_behind, e1, e2, law_plain_eq h, beT, plT]
theorem led_be {a b : T3} (ha : Wf a) (hb : Wf b) (n : Int) : ledT (beT a b) n = ledT b (ledT a n) := by
  obtain ⟨s, l, u⟩ := a
  obtain ⟨s', l', u'⟩ := b
  have ha : l ≤ u := ha
  have hb : l' ≤ u' := hb
  show led (plainI (s + s') (led s' l' u' l) (led s' l' u' u)) (led s' l' u' l) (led s' l' u' u) n = led s' l' u' (led s l u n)
  unfold plainI
  by_cases q : led s' l' u' l = led s' l' u' u
  · rw [if_pos q]
    unfold led at *
    omega
  · rw [if_neg q]
    unfold led at *
    omega
theorem be_pl {a b : T3} : beT a (plT b) = beT a b := by
  obtain ⟨s, l, u⟩ := a
  obtain ⟨s', l', u'⟩ := b
  by_cases q : l' = u'
  · subst q
    simp only [beT, plT, ledT, plainI, if_true]
    have e1 : ∀ s n, led s l' l' n = l' := fun s n => by unfold led; omega
    simp [e1]
  · simp only [beT, plT, ledT, plainI, if_neg q]
    rfl
theorem pl_be {a b : T3} (ha : Wf a) (hb : Wf b) : beT (plT a) b = beT a b := by
  obtain ⟨s, l, u⟩ := a
  obtain ⟨s', l', u'⟩ := b
  by_cases q : l = u
  · subst q
    simp only [beT, plT, ledT, plainI, if_true]
  · simp only [beT, plT, ledT, plainI, if_neg q]
    rfl
theorem be_assoc {a b c : T3} (ha : Wf a) (hb : Wf b) (hc : Wf c) : beT (beT a b) c = beT a (beT b c) := by
  have k1 := led_be hb hc a.2.1
  have k2 := led_be hb hc a.2.2
  have low : ∀ x y : T3, (x.1, x.2.1, x.2.2) = (y.1, y.2.1, y.2.2) → x = y := fun x y h => h
  have e1 : (beT (beT a b) c).2 = (beT a (beT b c)).2 := by
    show (ledT c (ledT b a.2.1), ledT c (ledT b a.2.2)) = (ledT (beT b c) a.2.1, ledT (beT b c) a.2.2)
    rw [k1, k2]
  have e2 : (beT (beT a b) c).1 = (beT a (beT b c)).1 := by
    show plainI (plainI (a.1 + b.1) (ledT b a.2.1) (ledT b a.2.2) + c.1) (ledT c (ledT b a.2.1)) (ledT c (ledT b a.2.2)) =
      plainI (a.1 + plainI (b.1 + c.1) (ledT c b.2.1) (ledT c b.2.2)) (ledT (beT b c) a.2.1) (ledT (beT b c) a.2.2)
    rw [k1, k2]
    unfold plainI
    by_cases q : ledT c (ledT b a.2.1) = ledT c (ledT b a.2.2)
    · rw [if_pos q, if_pos q]
    · rw [if_neg q, if_neg q]
      have q1 : ledT b a.2.1 ≠ ledT b a.2.2 := fun z => q (by rw [z])
      have q2 : ledT c b.2.1 ≠ ledT c b.2.2 := fun z => q (by
        have m1 : ∀ n, b.2.1 ≤ ledT b n ∧ ledT b n ≤ b.2.2 := fun n => by
          have hb : b.2.1 ≤ b.2.2 := hb
          unfold ledT led
          omega
        have a1 := led_mono hc (m1 a.2.1).1
        have a2 := led_mono hc (m1 a.2.1).2
        have a3 := led_mono hc (m1 a.2.2).1
        have a4 := led_mono hc (m1 a.2.2).2
        omega)
      rw [if_neg q1, if_neg q2]
      omega
  exact Prod.ext e2 e1
def CT (t : T3) : Prop := CL t.1 t.2.1 t.2.2
theorem CT.wf {t : T3} (h : CT t) : Wf t := h.lu
theorem clamp_behind_eq {a b : T3} (ha : CT a) (hb : CT b) {G : GS} : d_clamp_behind [tD a, tD b] G = .ok (.pl (tD (beT a b))) G := by
  simp [d_clamp_behind, b_clamp_behind, check_ok ha, check_ok hb, behind_of_eq]
theorem vl_tD {t : T3} : Vl 7 (tD t) := ⟨by simp, by simp [Vl]⟩
/-! a pair -/
theorem pair_right_sp {a b : T3} (ha : CT a) (hb : CT b) {G : GS} (hG : HI G) : ∃ G', d__law_pair_right [.ref 0, tD a, tD b] G = .ok (.pl (.bl true)) G' ∧ HI G' := by
  obtain ⟨v, G1, e1, v1, v2, h1⟩ := near_sp hG
  have hw := be_wf ha.wf hb.wf
  obtain ⟨S', G', e2, rfl, o, rfl⟩ := for_inv (tg := gN 4) (body := lb1__law_pair_right) (fun S G => G = G1 ∧ ∃ o, S = [.pl (.ref 0), .pl (tD a), .pl (tD b), .pl (tD (beT a b)), o])
    (xs := [.int v, .int a.2.1, .int a.2.2, .int (b.2.1 - a.1), .int 1000000000000000000, .int (-1000000000000000000)]) (S := [.pl (.ref 0), .pl (tD a), .pl (tD b), .pl (tD (beT a b)), .un]) (G := G1) ⟨rfl, _, rfl⟩ (fun x hx S G hS => by
      obtain ⟨rfl, o, rfl⟩ := hS
      obtain ⟨n, rfl⟩ : ∃ n : Int, x = .int n := by
        simp only [List.mem_cons, List.mem_nil_iff, or_false] at hx
        rcases hx with rfl | rfl | rfl | rfl | rfl | rfl <;> exact ⟨_, rfl⟩
      refine ⟨_, rfl, [.pl (.ref 0), .pl (tD a), .pl (tD b), .pl (tD (beT a b)), .pl (.int n)], G, ?_, rfl, _, rfl⟩
      by_cases q : (n.natAbs : Int) ≤ 1000000000000000000
      · have a1 := ha.l1
        have a2 := ha.u1
        have a3 := ha.lu
        have e : ∀ G, d_clamp_led [tD a, .int n] G = .ok (.pl (.int (ledT a n))) G := fun G => clamp_led_eq ha (by omega) (by omega)
        have r1 : -1000000000000000000 ≤ ledT a n ∧ ledT a n ≤ 1000000000000000000 := by unfold ledT led; omega
        have e' : ∀ G, d_clamp_led [tD b, .int (ledT a n)] G = .ok (.pl (.int (ledT b (ledT a n)))) G := fun G => clamp_led_eq hb r1.1 r1.2
        have e'' : ∀ G, d__law_led [tD (beT a b), .int n] G = .ok (.pl (.int (ledT b (ledT a n)))) G := fun G => by
          rw [← led_be ha.wf hb.wf n]
          exact law_led_eq
        simp [lb1__law_pair_right, q, e, e', e'']
      · simp [lb1__law_pair_right, q])
  exact ⟨G', by simp [-forGo_cons, d__law_pair_right, b__law_pair_right, clamp_behind_eq ha hb, law_behind_eq ha.wf hb.wf, is8 vl_tD, e1, e2, hG.len, h1.len], h1⟩
/-! rows -/
def foT (t : T3) (ts : List T3) : T3 := ts.foldl beT (plT t)
theorem fo_wf : ∀ {ts : List T3} {t : T3}, Wf t → (∀ x ∈ ts, Wf x) → Wf (ts.foldl beT t)
  | [], _, h, _ => h
  | x :: ts, t, h, k => fo_wf (ts := ts) (t := beT t x) (be_wf h (k x List.mem_cons_self)) fun y hy => k y (List.mem_cons_of_mem _ hy)
theorem loop_behind {row c : D} {G : GS} : ∀ {ts : List T3} {t : T3} {o : Sl}, ∃ o', forGo (gN 1) lb2_all_behind (ts.map tD) [.pl row, o, .pl (tD t)] G = .nx [.pl row, o', .pl (tD (ts.foldl beT t))] G
  | [], t, o => ⟨o, rfl⟩
  | x :: ts, t, o => by
    obtain ⟨o', e⟩ := loop_behind (row := row) (c := c) (G := G) (ts := ts) (t := beT t x) (o := .pl (tD x))
    refine ⟨o', ?_⟩
    rw [List.foldl_cons, ← e]
    simp [lb2_all_behind, behind_of_eq]
theorem loop_law {row h : Sl} {r : List Sl} {G : GS} : ∀ {ts : List T3} {t : T3} {o : Sl}, Wf t → (∀ x ∈ ts, Wf x) → ∃ o', forGo (gN 3) lb1__law_row_right (ts.map tD) (h :: row :: .pl (tD t) :: o :: r) G = .nx (h :: row :: .pl (tD (ts.foldl beT t)) :: o' :: r) G
  | [], t, o, _, _ => ⟨o, rfl⟩
  | x :: ts, t, o, hw, hk => by
    obtain ⟨o', e⟩ := loop_law (row := row) (h := h) (r := r) (G := G) (ts := ts) (t := beT t x) (o := .pl (tD x)) (be_wf hw (hk x List.mem_cons_self)) fun y hy => hk y (List.mem_cons_of_mem _ hy)
    refine ⟨o', ?_⟩
    rw [List.foldl_cons, ← e]
    simp [lb1__law_row_right, law_behind_eq hw (hk x List.mem_cons_self)]
theorem all_behind_eq {t : T3} {ts : List T3} (h : ∀ x ∈ t :: ts, CT x) (hl : ts.length < 2000) {G : GS} : d_all_behind [.tup ((t :: ts).map tD)] G = .ok (.pl (tD (foT t ts))) G := by
  obtain ⟨S', G', e1, rfl, o, rfl⟩ := for_inv (tg := gN 1) (body := lb1_all_behind) (fun S G' => G' = G ∧ ∃ o, S = [.pl (.tup ((t :: ts).map tD)), o, .un]) (xs := (t :: ts).map tD)
    (S := [.pl (.tup ((t :: ts).map tD)), .un, .un]) (G := G) ⟨rfl, _, rfl⟩ (fun x hx S G hS => by
      obtain ⟨rfl, o, rfl⟩ := hS
      obtain ⟨y, hy, rfl⟩ := List.mem_map.mp hx
      exact ⟨_, rfl, [.pl (.tup ((t :: ts).map tD)), .pl (tD y), .un], G, by simp [lb1_all_behind, check_ok (h y hy)], rfl, _, rfl⟩)
  obtain ⟨o', e2⟩ := loop_behind (row := .tup ((t :: ts).map tD)) (c := .non) (G := G') (ts := ts) (t := plT t) (o := o)
  have l1 : (ts.length : Int) + 1 ≤ 2000 := by omega
  have l2 : (1 : Int) ≤ (ts.length : Int) + 1 := by omega
  rw [List.map_cons] at e1 e2 ⊢
  simp [-forGo_cons, d_all_behind, b_all_behind, isiB, l1, l2, e1, plain_eq, cut_tail]
  have e3 : tC (plainI t.fst t.snd.fst t.snd.snd) t.snd.fst t.snd.snd = tD (plT t) := rfl
  rw [e3, e2]
  simp [foT]
theorem row_right_sp {G : GS} (hG : HI G) : ∃ G', d__law_row_right [.ref 0] G = .ok (.pl (.bl true)) G' ∧ HI G' := by
  obtain ⟨k, G1, e1, k1, k2, h1⟩ := draw_sp hG (n := 40) (by omega) (by decide)
  obtain ⟨ds, G2, e2, h2, dl, dg⟩ := lc_inv (tg := gN 9) (fe := fCall d__law_clamp (fCons (fVar 0) fNil)) (S := [.pl (.ref 0), .un, .un, .un, .un, .un, .un, .un, .un, .un]) HI (fun d => ∃ t, d = tD t ∧ CT t) (xs := (List.range (1 + k).toNat).map fun (k : Nat) => D.int k) (G := G1) h1 (fun x hx G hG => by
    obtain ⟨s, l, u, G', e, hs, hl, hlu, hu, h⟩ := clamp_sp hG
    exact ⟨_, rfl, tD (s, l, u), G', by simp [e], h, (s, l, u), rfl, ⟨hs.1, hs.2, hl, hlu, hu⟩⟩)
  have dl' : ds.length = (1 + k).toNat := by simpa using dl
  obtain ⟨ts, rfl, hts⟩ : ∃ ts : List T3, ds = ts.map tD ∧ ∀ t ∈ ts, CT t := by
    clear e2 dl dl'
    induction ds with
    | nil => exact ⟨[], rfl, by simp⟩
    | cons d r ih =>
      obtain ⟨t, rfl, ht⟩ := dg d List.mem_cons_self
      obtain ⟨ts, rfl, hts⟩ := ih fun x hx => dg x (List.mem_cons_of_mem _ hx)
      refine ⟨t :: ts, rfl, fun x hx => ?_⟩
      rcases List.mem_cons.mp hx with q | q
      · rw [q]; exact ht
      · exact hts x q
  rw [List.length_map] at dl'
  match ts, dl', hts, e2 with
  | [], dl', _, _ => simp at dl'; omega
  | t :: ts, dl', hts, e2 =>
    rw [List.length_cons] at dl'
    have ht := hts t List.mem_cons_self
    have hw : ∀ x ∈ ts, Wf x := fun x hx => (hts x (List.mem_cons_of_mem _ hx)).wf
    obtain ⟨sa, la, ua, G3, e3, p1, p2, p3, p4, h3⟩ := clamp_sp h2
    obtain ⟨sb, lb, ub, G4, e4, q1, q2, q3, q4, h4⟩ := clamp_sp h3
    obtain ⟨sc, lc, uc, G5, e5, r1, r2, r3, r4, h5⟩ := clamp_sp h4
    have ca : CT (sa, la, ua) := ⟨p1.1, p1.2, p2, p3, p4⟩
    have cb : CT (sb, lb, ub) := ⟨q1.1, q1.2, q2, q3, q4⟩
    have cc : CT (sc, lc, uc) := ⟨r1.1, r1.2, r2, r3, r4⟩
    have all := all_behind_eq (t := t) (ts := ts) hts (by omega) (G := G2)
    have one := all_behind_eq (t := t) (ts := []) (by simpa using ht) (by simp) (G := G2)
    obtain ⟨o, e6⟩ := loop_law (row := .pl (.tup ((t :: ts).map tD))) (h := .pl (.ref 0)) (r := [.un, .un, .un, .un, .un, .un]) (G := G2) (ts := ts) (t := plT t) (o := .un) (pl_wf ht.wf) hw
    refine ⟨G5, ?_, h5⟩
    have r0 : (-4611686018427387904 : Int) ≤ 1 + k ∧ 1 + k < 4611686018427387904 := by omega
    have rl : (1 + k).toNat ≤ 16777216 := by omega
    have e7 : ∀ G, d__law_plain [tD t] G = .ok (.pl (tD (plT t))) G := fun G => law_plain_eq ht.wf
    have last : ∀ {G}, (b : Bool) → (tAndF (tVal (fCall d_is_clamp (fCons (fVar 7) fNil))) (tAndF (tVal (fCall d_is_clamp (fCons (fVar 8) fNil))) (tVal (fBin dNe (fCall d_clamp_behind (fCons (fVar 7) (fCons (fVar 6) fNil))) (fCall d_clamp_behind (fCons (fVar 4) (fCons (fVar 8) fNil))))))) 
        [.pl (.ref 0), .pl (.tup ((t :: ts).map tD)), .pl (tD (foT t ts)), o, .pl (.tup [.int sa, .int la, .int ua]), .pl (.tup [.int sb, .int lb, .int ub]), .pl (.tup [.int sc, .int lc, .int uc]), .pl (tD (beT (sa, la, ua) (sb, lb, ub))), .pl (tD (beT (sb, lb, ub) (sc, lc, uc))), .un] G = .ok false G := fun {G} _ => by
      cases i1 : isC (tD (beT (sa, la, ua) (sb, lb, ub))) with
      | false => simp [is_clamp_eq gd_tC, i1]
      | true =>
        cases i2 : isC (tD (beT (sb, lb, ub) (sc, lc, uc))) with
        | false => simp [is_clamp_eq gd_tC, i1, i2]
        | true =>
          obtain ⟨_, _, _, w1, w2⟩ := isC_ex i1
          obtain ⟨_, _, _, w3, w4⟩ := isC_ex i2
          have c1 : CT (beT (sa, la, ua) (sb, lb, ub)) := by
            cases w1
            exact w2
          have c2 : CT (beT (sb, lb, ub) (sc, lc, uc)) := by
            cases w3
            exact w4
          have z1 : ∀ G, d_clamp_behind [tD (beT (sa, la, ua) (sb, lb, ub)), .tup [.int sc, .int lc, .int uc]] G = _ := fun G => clamp_behind_eq c1 cc
          have z2 : ∀ G, d_clamp_behind [.tup [.int sa, .int la, .int ua], tD (beT (sb, lb, ub) (sc, lc, uc))] G = _ := fun G => clamp_behind_eq ca c2
          simp [is_clamp_eq gd_tC, i1, i2, z1, z2, be_assoc ca.wf cb.wf cc.wf, ne3]
    have fo0 : foT t [] = plT t := rfl
    simp only [List.map_cons, List.map_nil, fo0] at e2 all one e6 last
    rw [show ts.foldl beT (plT t) = foT t ts from rfl] at e6
    have n1 : ∀ G, dNe G (tD (plT t)) (tD (plT t)) = some (.bl false) := fun G => by rw [ne3]; simp
    simp [-forGo_cons, d__law_row_right, b__law_row_right, e1, r0, rl]
    rw [e2]
    simp [-forGo_cons, e7, cut_tail]
    rw [e6]
    simp [-forGo_cons, -ev_tAndF, all, is8 vl_tD, cut_head, one, e7, n1, e3, e4, e5]
    have b1 : ∀ G, d_clamp_behind [.tup [.int sa, .int la, .int ua], .tup [.int sb, .int lb, .int ub]] G = .ok (.pl (tD (beT (sa, la, ua) (sb, lb, ub)))) G := fun G => clamp_behind_eq ca cb
    have b2 : ∀ G, d_clamp_behind [.tup [.int sb, .int lb, .int ub], .tup [.int sc, .int lc, .int uc]] G = .ok (.pl (tD (beT (sb, lb, ub) (sc, lc, uc)))) G := fun G => clamp_behind_eq cb cc
    simp only [b1, b2, cut_pl, thn_ok, seq_nx, ev_sSeq, ev_sIf]
    rw [last true]
    simp [hG.len, h5.len]
/-! often -/
def pw (c : T3) : Nat → T3
  | 0 => plT c
  | n + 1 => beT (pw c n) c
theorem pw_wf {c : T3} (h : Wf c) : ∀ n, Wf (pw c n)
  | 0 => h
  | n + 1 => be_wf (pw_wf h n) h
theorem pw_add {c : T3} (h : Wf c) (a : Nat) : ∀ b, beT (pw c a) (pw c b) = pw c (a + b + 1)
  | 0 => be_pl
  | b + 1 => by
    show beT (pw c a) (beT (pw c b) c) = _
    rw [← be_assoc (pw_wf h a) (pw_wf h b) h, pw_add h a b]
    rfl
theorem par {h m : Nat} : (∃ q, m = 2 * q ∧ h * m = (h + h) * q) ∨ (∃ q, m = 2 * q + 1 ∧ h * m = h + (h + h) * q) := by
  rcases Nat.mod_two_eq_zero_or_one m with e | e
  · refine .inl ⟨m / 2, by omega, ?_⟩
    have : m = 2 * (m / 2) := by omega
    conv => lhs; rw [this]
    rw [← Nat.mul_assoc, Nat.mul_comm h 2, Nat.two_mul]
  · refine .inr ⟨m / 2, by omega, ?_⟩
    have : m = 2 * (m / 2) + 1 := by omega
    conv => lhs; rw [this]
    rw [Nat.mul_add, ← Nat.mul_assoc, Nat.mul_comm h 2, Nat.two_mul, Nat.mul_one, Nat.add_comm]
/-- how it stands in the loop -/
def Fo (c : T3) (N : Nat) (fo : Sl) (h m : Nat) : Prop := (fo = .pl .non ∧ h * m = N) ∨ ∃ f, 1 ≤ f ∧ fo = .pl (tD (pw c (f - 1))) ∧ f + h * m = N
theorem odd_f {q : Nat} : (((2 * q + 1 : Nat) : Int)).fmod 2 = 1 ∧ (((2 * q + 1 : Nat) : Int)).fdiv 2 = (q : Int) := by
  rw [Int.fmod_eq_emod_of_nonneg _ (by decide), Int.fdiv_eq_ediv_of_nonneg _ (by decide)]
  omega
theorem even_f {q : Nat} : (((2 * q : Nat) : Int)).fmod 2 = 0 ∧ (((2 * q : Nat) : Int)).fdiv 2 = (q : Int) := by
  rw [Int.fmod_eq_emod_of_nonneg _ (by decide), Int.fdiv_eq_ediv_of_nonneg _ (by decide)]
  omega
theorem odd_g {q : Nat} : (2 * (q : Int) + 1).fmod 2 = 1 ∧ (2 * (q : Int) + 1).fdiv 2 = (q : Int) := by
  rw [Int.fmod_eq_emod_of_nonneg _ (by decide), Int.fdiv_eq_ediv_of_nonneg _ (by decide)]
  omega
theorem even_g {q : Nat} : (2 * (q : Int)).fmod 2 = 0 ∧ (2 * (q : Int)).fdiv 2 = (q : Int) := by
  rw [Int.fmod_eq_emod_of_nonneg _ (by decide), Int.fdiv_eq_ediv_of_nonneg _ (by decide)]
  omega
theorem non_tD {t : T3} {G : GS} : dIs G (tD t) .non = some (.bl false) := rfl
theorem clamp_often_eq {c : T3} (h : CT c) {N : Nat} (h1 : 1 ≤ N) (h2 : N ≤ 1000000) {G : GS} : d_clamp_often [tD c, .int N] G = .ok (.pl (tD (pw c (N - 1)))) G := by
  have hw := h.wf
  have D2 : divOk 2 := by decide
  obtain ⟨S', e1, a, b, e2⟩ := wh_go (t := tVal (fBin dGt (fVar 4) (fC (.int 0)))) (b := lb1_clamp_often) (G := G) (fun n S => ∃ (k : Nat) (fo : Sl), 1 ≤ k ∧ S = [.pl (tD c), .pl (.int N), fo, .pl (tD (pw c (k - 1))), .pl (.int (n : Int))] ∧ Fo c N fo k n)
    (fun S => ∃ a b, S = [.pl (tD c), .pl (.int N), .pl (tD (pw c (N - 1))), a, b]) (fun n S hS => by
      obtain ⟨k, fo, hk, rfl, hf⟩ := hS
      by_cases n0 : n = 0
      · subst n0
        left
        refine ⟨by simp, ?_⟩
        rcases hf with ⟨_, q⟩ | ⟨f, f1, rfl, q⟩
        · simp at q
          omega
        · have : f = N := by simpa using q
          subst this
          exact ⟨_, _, rfl⟩
      · right
        have np : (0 : Int) < n := by omega
        refine ⟨by simp; omega, ?_⟩
        have hh : beT (pw c (k - 1)) (pw c (k - 1)) = pw c (k + k - 1) := by
          rw [pw_add hw]
          congr 1
          omega
        rcases par (h := k) (m := n) with ⟨q, rfl, qe⟩ | ⟨q, rfl, qe⟩
        · refine ⟨[.pl (tD c), .pl (.int N), fo, .pl (tD (pw c (k + k - 1))), .pl (.int q)], q, by omega, ?_, k + k, fo, by omega, rfl, ?_⟩
          · simp [lb1_clamp_often, even_g.1, even_g.2, behind_of_eq, hh, D2]
          · unfold Fo at hf ⊢
            rw [qe] at hf
            exact hf
        · rcases hf with ⟨rfl, q2⟩ | ⟨f, f1, rfl, q2⟩
          · refine ⟨[.pl (tD c), .pl (.int N), .pl (tD (pw c (k - 1))), .pl (tD (pw c (k + k - 1))), .pl (.int q)], q, by omega, ?_, k + k, _, by omega, rfl, .inr ⟨k, hk, rfl, by omega⟩⟩
            simp [lb1_clamp_often, odd_g.1, odd_g.2, behind_of_eq, hh, D2]
          · have hf2 : beT (pw c (f - 1)) (pw c (k - 1)) = pw c (f + k - 1) := by
              rw [pw_add hw]
              congr 1
              omega
            refine ⟨[.pl (tD c), .pl (.int N), .pl (tD (pw c (f + k - 1))), .pl (tD (pw c (k + k - 1))), .pl (.int q)], q, by omega, ?_, k + k, _, by omega, rfl, .inr ⟨f + k, by omega, rfl, by omega⟩⟩
            simp [lb1_clamp_often, odd_g.1, odd_g.2, behind_of_eq, hh, hf2, non_tD, D2])
    N [.pl (tD c), .pl (.int N), .pl .non, .pl (tD (plT c)), .pl (.int N)] ⟨1, _, by omega, rfl, .inl ⟨rfl, by omega⟩⟩
  have w : ∀ G, d_is_within [.int N, .int 1, .int 1000000] G = .ok (.pl (.bl true)) G := fun G => by
    have a1 : (1 : Int) ≤ N := by omega
    have a2 : (N : Int) ≤ 1000000 := by omega
    simp [d_is_within, b_is_within, is_integer_eq, D.isI, a1, a2]
  have pl : ∀ G, d_plain [tD c] G = .ok (.pl (tD (plT c))) G := fun G => plain_eq
  subst e2
  simp [d_clamp_often, b_clamp_often, check_ok h, w, pl]
  rw [e1]
  simp
theorem law_often_eq {c : T3} (h : CT c) {N : Nat} (h1 : 1 ≤ N) {G : GS} : d__law_often [tD c, .int N] G = .ok (.pl (tD (pw c (N - 1)))) G := by
  have hw := h.wf
  have D2 : divOk 2 := by decide
  obtain ⟨S', e1, a, b, e2⟩ := wh_go (t := tVal (fBin dGt (fVar 1) (fC (.int 0)))) (b := lb1__law_often) (G := G) (fun n S => ∃ (k : Nat) (fo : Sl), 1 ≤ k ∧ S = [.pl (tD c), .pl (.int (n : Int)), fo, .pl (tD (pw c (k - 1)))] ∧ Fo c N fo k n)
    (fun S => ∃ a b, S = [.pl (tD c), a, .pl (tD (pw c (N - 1))), b]) (fun n S hS => by
      obtain ⟨k, fo, hk, rfl, hf⟩ := hS
      by_cases n0 : n = 0
      · subst n0
        left
        refine ⟨by simp, ?_⟩
        rcases hf with ⟨_, q⟩ | ⟨f, f1, rfl, q⟩
        · simp at q
          omega
        · have : f = N := by simpa using q
          subst this
          exact ⟨_, _, rfl⟩
      · right
        have np : (0 : Int) < n := by omega
        refine ⟨by simp; omega, ?_⟩
        have hb : ∀ a b G, d__law_behind [tD (pw c a), tD (pw c b)] G = .ok (.pl (tD (pw c (a + b + 1)))) G := fun a b G => by
          rw [← pw_add hw]
          exact law_behind_eq (pw_wf hw a) (pw_wf hw b)
        have hh : k - 1 + (k - 1) + 1 = k + k - 1 := by omega
        rcases par (h := k) (m := n) with ⟨q, rfl, qe⟩ | ⟨q, rfl, qe⟩
        · refine ⟨[.pl (tD c), .pl (.int q), fo, .pl (tD (pw c (k + k - 1)))], q, by omega, ?_, k + k, fo, by omega, rfl, ?_⟩
          · simp [lb1__law_often, even_g.1, even_g.2, hb, hh, D2]
          · unfold Fo at hf ⊢
            rw [qe] at hf
            exact hf
        · rcases hf with ⟨rfl, q2⟩ | ⟨f, f1, rfl, q2⟩
          · refine ⟨[.pl (tD c), .pl (.int q), .pl (tD (pw c (k - 1))), .pl (tD (pw c (k + k - 1)))], q, by omega, ?_, k + k, _, by omega, rfl, .inr ⟨k, hk, rfl, by omega⟩⟩
            simp [lb1__law_often, odd_g.1, odd_g.2, hb, hh, D2]
          · have hf2 : f - 1 + (k - 1) + 1 = f + k - 1 := by omega
            refine ⟨[.pl (tD c), .pl (.int q), .pl (tD (pw c (f + k - 1))), .pl (tD (pw c (k + k - 1)))], q, by omega, ?_, k + k, _, by omega, rfl, .inr ⟨f + k, by omega, rfl, by omega⟩⟩
            simp [lb1__law_often, odd_g.1, odd_g.2, hb, hh, hf2, non_tD, D2])
    N [.pl (tD c), .pl (.int N), .pl .non, .pl (tD (plT c))] ⟨1, _, by omega, rfl, .inl ⟨rfl, by omega⟩⟩
  have pl : ∀ G, d__law_plain [tD c] G = .ok (.pl (tD (plT c))) G := fun G => law_plain_eq hw
  subst e2
  simp [d__law_often, b__law_often, pl]
  rw [e1]
  simp
theorem fo_rep {c : T3} : ∀ n, foT c (List.replicate n c) = pw c n
  | 0 => rfl
  | n + 1 => by
    unfold foT
    rw [List.replicate_succ', List.foldl_append]
    show beT (foT c (List.replicate n c)) c = _
    rw [fo_rep n]
    rfl
theorem often_right_sp {G : GS} (hG : HI G) : ∃ G', d__law_often_right [.ref 0] G = .ok (.pl (.bl true)) G' ∧ HI G' := by
  obtain ⟨s, l, u, G1, e1, p1, p2, p3, p4, h1⟩ := clamp_sp hG
  have hc : CT (s, l, u) := ⟨p1.1, p1.2, p2, p3, p4⟩
  obtain ⟨v2, G2, e2, a2, b2, h2⟩ := draw_sp h1 (n := 9) (by omega) (by decide)
  obtain ⟨v3, G3, e3, a3, b3, h3⟩ := draw_sp h2 (n := 1000000) (by omega) (by decide)
  obtain ⟨x, hx, G4, e4, h4⟩ := any_sp h3 (xs := [.int 1, .int 2, .int (1 + v2), .int (1 + v3), .int 1000000]) (by simp) (by simp)
  obtain ⟨N, rfl, n1, n2⟩ : ∃ N : Nat, x = .int N ∧ 1 ≤ N ∧ N ≤ 1000000 := by
    simp only [List.mem_cons, List.mem_nil_iff, or_false] at hx
    rcases hx with rfl | rfl | rfl | rfl | rfl
    · exact ⟨1, rfl, by omega, by omega⟩
    · exact ⟨2, rfl, by omega, by omega⟩
    · exact ⟨(1 + v2).toNat, by rw [Int.toNat_of_nonneg (by omega)], by omega, by omega⟩
    · exact ⟨(1 + v3).toNat, by rw [Int.toNat_of_nonneg (by omega)], by omega, by omega⟩
    · exact ⟨1000000, rfl, by omega, by omega⟩
  obtain ⟨v5, G5, e5, a5, b5, h5⟩ := draw_sp h4 (n := 9) (by omega) (by decide)
  obtain ⟨k, rfl⟩ : ∃ k : Nat, v5 = k := ⟨v5.toNat, by omega⟩
  have o1 : ∀ G, d_clamp_often [.tup [.int s, .int l, .int u], .int N] G = .ok (.pl (tD (pw (s, l, u) (N - 1)))) G := fun G => clamp_often_eq hc n1 n2
  have o2 : ∀ G, d__law_often [.tup [.int s, .int l, .int u], .int N] G = .ok (.pl (tD (pw (s, l, u) (N - 1)))) G := fun G => law_often_eq hc n1
  have o3 : ∀ G, d_clamp_often [.tup [.int s, .int l, .int u], .int (1 + (k : Int))] G = .ok (.pl (tD (pw (s, l, u) k))) G := fun G => by
    have := clamp_often_eq hc (N := 1 + k) (by omega) (by omega) (G := G)
    rw [show 1 + k - 1 = k by omega] at this
    exact this
  have o4 : ∀ G, d_all_behind [.tup (List.replicate (1 + (k : Int)).toNat (.tup [.int s, .int l, .int u]))] G = .ok (.pl (tD (pw (s, l, u) k))) G := fun G => by
    have := all_behind_eq (t := (s, l, u)) (ts := List.replicate k (s, l, u)) (fun x hx => by
      rcases List.mem_cons.mp hx with q | q
      · rw [q]; exact hc
      · rw [List.eq_of_mem_replicate q]; exact hc) (by rw [List.length_replicate]; omega) (G := G)
    rw [fo_rep] at this
    rw [show (1 + (k : Int)).toNat = k + 1 by omega, List.replicate_succ, ← this]
    simp
  have g1 : 0 < 1 + (k : Int) := by omega
  have g2 : (1 : Int) ≤ 1 + (k : Int) ∧ (1 + (k : Int)).toNat ≤ 1000000 := by omega
  have n0 : ∀ (t : T3) G, dEq G (tD t) (tD t) = some (.bl true) := fun t G => by rw [eq3]; simp
  refine ⟨G5, ?_, h5⟩
  simp [d__law_often_right, b__law_often_right, e1, e2, e3, e4, e5, o1, o2, is8 vl_tD, o3, dMul, g2, o4, n0, hG.len, h5.len]
theorem steps_clamps_eq {ns : List Int} {l u : Int} (h : ∀ n ∈ ns, (n.natAbs : Int) ≤ 1000000000000) (hl : ns.length ≤ 1000) (hc : CL 0 l u) {G : GS} : d_steps_clamps [.tup (ns.map .int), .int l, .int u] G = .ok (.pl (.tup (ns.map fun n => tC n l u))) G := by
  have e0 := are_integers_tup (ys := ns.map .int) ⟨by rw [List.length_map]; exact hl, fun y hy => by obtain ⟨n, _, rfl⟩ := List.mem_map.mp hy; simp⟩ (G := G)
  have ea : (ns.map D.int).all D.isI = true := by simp [D.isI]
  rw [ea] at e0
  have e1 := lc_map (G := G) (tg := gN 3) (fe := le1_steps_clamps) (S := [.pl (.tup (ns.map .int)), .pl (.int l), .pl (.int u), .un, .un]) (fun _ => .bl true) (xs := ns.map .int) fun x hx => by
    obtain ⟨n, hn, rfl⟩ := List.mem_map.mp hx
    exact ⟨_, rfl, by simp [le1_steps_clamps, h n hn]⟩
  have e2 := lc_map (G := G) (tg := gN 4) (fe := le2_steps_clamps) (S := [.pl (.tup (ns.map .int)), .pl (.int l), .pl (.int u), .un, .un]) (fun x => .tup [x, .int l, .int u]) (xs := ns.map .int) fun x hx => by
    obtain ⟨n, hn, rfl⟩ := List.mem_map.mp hx
    exact ⟨_, rfl, by simp [le2_steps_clamps]⟩
  have l1 : ¬ (2000 : Int) < ns.length := by omega
  have l2 : ns.length ≤ 16777216 := by omega
  have ic : ∀ G, d_is_clamp [.tup [.int 0, .int l, .int u]] G = .ok (.pl (.bl true)) G := fun G => by
    rw [← hc.isC]
    exact is_clamp_eq gd_tC
  simp [d_steps_clamps, b_steps_clamps, e0, l1, l2, e1, ic, e2]
theorem steps_right_sp {G : GS} (hG : HI G) : ∃ G', d__law_steps_right [.ref 0] G = .ok (.pl (.bl true)) G' ∧ HI G' := by
  obtain ⟨k, G1, e1, k1, k2, h1⟩ := draw_sp hG (n := 30) (by omega) (by decide)
  obtain ⟨ds, G2, e2, h2, dl, dg⟩ := lc_inv (tg := gN 4) (fe := le1__law_steps_right) (S := [.pl (.ref 0), .un, .un, .un, .un, .un]) HI (fun d => ∃ n : Int, d = .int n ∧ (n.natAbs : Int) ≤ 1000000000000) (xs := (List.range k.toNat).map fun (k : Nat) => D.int k) (G := G1) h1 (fun x hx G hG => by
    obtain ⟨v, G', e, v1, v2, h⟩ := near_sp hG
    exact ⟨_, rfl, .int (max (-1000000000000) (min 1000000000000 v)), G', by simp [le1__law_steps_right, e], h, _, rfl, by omega⟩)
  obtain ⟨ns, rfl, hns⟩ : ∃ ns : List Int, ds = ns.map .int ∧ ∀ n ∈ ns, (n.natAbs : Int) ≤ 1000000000000 := by
    clear e2 dl
    induction ds with
    | nil => exact ⟨[], rfl, by simp⟩
    | cons d r ih =>
      obtain ⟨t, rfl, ht⟩ := dg d List.mem_cons_self
      obtain ⟨ts, rfl, hts⟩ := ih fun x hx => dg x (List.mem_cons_of_mem _ hx)
      refine ⟨t :: ts, rfl, fun x hx => ?_⟩
      rcases List.mem_cons.mp hx with q | q
      · rw [q]; exact ht
      · exact hts x q
  have hl : ns.length ≤ 1000 := by
    have : ns.length = k.toNat := by simpa using dl
    omega
  obtain ⟨s, l, u, G3, e3, p1, p2, p3, p4, h3⟩ := clamp_sp h2
  have hc : CL 0 l u := ⟨by omega, by omega, p2, p3, p4⟩
  have e4 := lc_map (G := G3) (tg := gN 5) (fe := le2__law_steps_right) (S := [.pl (.ref 0), .pl (.tup (ns.map .int)), .pl (.tup [.int s, .int l, .int u]), .un, .un, .un]) (fun x => .tup [x, .int l, .int u]) (xs := ns.map .int) fun x hx => by
    obtain ⟨n, hn, rfl⟩ := List.mem_map.mp hx
    exact ⟨_, rfl, by simp [le2__law_steps_right]⟩
  have e5 := steps_clamps_eq hns hl hc (G := G3)
  have e6 := is8 (x := .tup (ns.map fun n => tC n l u)) ⟨by rw [List.length_map]; exact hl, fun y hy => by obtain ⟨n, _, rfl⟩ := List.mem_map.mp hy; exact ⟨by simp, by simp [Vl]⟩⟩ (G := G3)
  have r1 : (-4611686018427387904 : Int) ≤ k ∧ k < 4611686018427387904 := by omega
  have r2 : k.toNat ≤ 16777216 := by omega
  have r3 : ns.length ≤ 16777216 := by omega
  have em : (ns.map D.int).map (fun x => D.tup [x, .int l, .int u]) = ns.map fun n => tC n l u := by
    rw [List.map_map]
    rfl
  rw [em] at e4
  refine ⟨G3, ?_, h3⟩
  simp [d__law_steps_right, b__law_steps_right, e1, r1, r2]
  rw [e2]
  simp [e3, r3]
  rw [e4]
  simp [e5, e6, hG.len, h3.len]
/-! what is refused -/
theorem deep2_sp {G : GS} (h : HI G) : ∃ x G', d__law_deep [.ref 0] G = .ok (.pl x) G' ∧ Gd x ∧ isC x = false ∧ HI G' := by
  obtain ⟨x, hx, G1, e1, h1⟩ := any_sp h (xs := [.non, .str "?", .bl true]) (by simp) (by simp)
  have gx : Gd x ∧ isC x = false := by
    simp at hx
    rcases hx with rfl | rfl | rfl <;> exact ⟨gd_simple (by simp) (by simp), rfl⟩
  obtain ⟨v, G2, e2, v1, v2, h2⟩ := draw_sp h1 (n := 29) (by omega) (by decide)
  obtain ⟨S', G', e3, ⟨y, t, rfl, gy, hG⟩⟩ := for_inv (tg := gN 2) (body := lb1__law_deep)
    (fun S G => ∃ y t, S = [.pl (.ref 0), .pl y, t] ∧ (Gd y ∧ isC y = false) ∧ HI G) (xs := (List.range (1 + v).toNat).map fun (k : Nat) => D.int k) (S := [.pl (.ref 0), .pl x, .un]) (G := G2) ⟨_, _, rfl, gx, h2⟩ (fun z hz S G hS => by
      obtain ⟨y, t, rfl, gy, hG⟩ := hS
      obtain ⟨w, G3, e4, w1, w2, h3⟩ := draw_sp hG (n := 3) (by omega) (by decide)
      have hw : w = 0 ∨ w = 1 ∨ w = 2 := by omega
      rcases hw with rfl | rfl | rfl
      · exact ⟨_, rfl, [.pl (.ref 0), .pl (.tup [y]), .pl z], G3, by simp [lb1__law_deep, e4], _, _, rfl, ⟨⟨by simp, fun ys e => by cases e; simpa using gy.1.ty⟩, isC_len (by simp)⟩, h3⟩
      · exact ⟨_, rfl, [.pl (.ref 0), .pl (.lst [y]), .pl z], G3, by simp [lb1__law_deep, e4], _, _, rfl, ⟨gd_simple (by simp) (by simp), rfl⟩, h3⟩
      · exact ⟨_, rfl, [.pl (.ref 0), .pl (.dct [.inl 0] [y]), .pl z], G3, by simp [lb1__law_deep, e4], _, _, rfl, ⟨gd_simple (by simp) (by simp), rfl⟩, h3⟩)
  have r1 : (-4611686018427387904 : Int) ≤ 1 + v ∧ 1 + v < 4611686018427387904 := by omega
  exact ⟨y, G', by simp [d__law_deep, b__law_deep, e1, e2, e3, r1, h.len, hG.len], gy.1, gy.2, hG⟩
theorem are_integers_big {ys : List D} (h : ys.length ≤ 16777216) (k : ∀ y ∈ ys, y.tyN ≠ "") {G : GS} : d_are_integers [.tup ys] G = .ok (.pl (.bl (ys.all D.isI))) G := by
  have e := lc_map (G := G) (tg := gN 1) (fe := fCall d_is_integer (fCons (fVar 1) fNil)) (S := [.pl (.tup ys), .un]) (fun x => .bl x.isI) (xs := ys) fun x hx => ⟨_, rfl, by simp [is_integer_eq (k x hx)]⟩
  simp [d_are_integers, b_are_integers, isiB, h, e]
theorem cR : CT (1, 0, 5) := ⟨by decide, by decide, by decide, by decide, by decide⟩
theorem within_no {x : D} (hx : x.tyN ≠ "") (n : x.isI = false ∨ ∃ i : Int, x = .int i ∧ ¬ (1 ≤ i ∧ i ≤ 1000000)) {G : GS} : d_is_within [x, .int 1, .int 1000000] G = .ok (.pl (.bl false)) G := by
  rcases n with n | ⟨i, rfl, n⟩
  · simp [d_is_within, b_is_within, is_integer_eq hx, n]
  · by_cases q : 1 ≤ i
    · have q2 : ¬ i ≤ 1000000 := fun z => n ⟨q, z⟩
      simp [d_is_within, b_is_within, is_integer_eq hx, D.isI, q, q2]
    · simp [d_is_within, b_is_within, is_integer_eq hx, D.isI, q]
theorem often_bad {x y : D} (h : Gd x) (n : isC x = false) {G : GS} : d_clamp_often [x, y] G = .exc "BadClamp" none G := by
  simp [d_clamp_often, b_clamp_often, check_bad h n]
theorem often_far {c : T3} {y : D} (h : CT c) (w : ∀ G, d_is_within [y, .int 1, .int 1000000] G = .ok (.pl (.bl false)) G) {G : GS} : d_clamp_often [tD c, y] G = .exc "BadNumber" none G := by
  simp [d_clamp_often, b_clamp_often, check_ok h, w]
theorem behind_bad1 {x y : D} (h : Gd x) (n : isC x = false) {G : GS} : d_clamp_behind [x, y] G = .exc "BadClamp" none G := by
  simp [d_clamp_behind, b_clamp_behind, check_bad h n]
theorem behind_bad2 {c : T3} {y : D} (hc : CT c) (h : Gd y) (n : isC y = false) {G : GS} : d_clamp_behind [tD c, y] G = .exc "BadClamp" none G := by
  simp [d_clamp_behind, b_clamp_behind, check_ok hc, check_bad h n]
theorem all_bad {x : D} (hx : x.tyN ≠ "") (n : ∀ ys, x ≠ .tup ys) {G : GS} : d_all_behind [x] G = .exc "BadClamp" none G := by
  have : isiB x.tyN "tuple" = false := by
    cases x <;> first | rfl | (exact absurd rfl (n _)) | (exact absurd rfl hx)
  simp [d_all_behind, b_all_behind, hx, this]
theorem all_bad1 {x : D} (h : Gd x) (n : isC x = false) {G : GS} : d_all_behind [.tup [x]] G = .exc "BadClamp" none G := by
  simp [d_all_behind, b_all_behind, isiB, lb1_all_behind, check_bad h n]
theorem all_bad2 {c : T3} {x : D} (hc : CT c) (h : Gd x) (n : isC x = false) {G : GS} : d_all_behind [.tup [tD c, x]] G = .exc "BadClamp" none G := by
  simp [d_all_behind, b_all_behind, isiB, lb1_all_behind, check_ok hc, check_bad h n]
theorem steps_no {x y z : D} (e : ∀ G, d_are_integers [x] G = .ok (.pl (.bl false)) G) {G : GS} : d_steps_clamps [x, y, z] G = .exc "BadNumber" none G := by
  simp [d_steps_clamps, b_steps_clamps, e]
theorem steps_clamp {y : D} (h : isC (.tup [.int 0, y, .int 5]) = false) (hy : y.tyN ≠ "") {G : GS} : d_steps_clamps [.tup [.int 1], y, .int 5] G = .exc "BadClamp" none G := by
  have e0 := are_integers_big (ys := [.int 1]) (by simp) (by simp) (G := G)
  have e1 := lc_map (G := G) (tg := gN 3) (fe := le1_steps_clamps) (S := [.pl (.tup [.int 1]), .pl y, .pl (.int 5), .un, .un]) (fun _ => .bl true) (xs := [.int 1]) fun x hx => by
    simp at hx
    subst hx
    exact ⟨_, rfl, by simp [le1_steps_clamps]⟩
  have ic : ∀ G, d_is_clamp [.tup [.int 0, y, .int 5]] G = .ok (.pl (.bl false)) G := fun G => by
    rw [← h]
    exact is_clamp_eq (gd_tup (by simp) (by simp [hy]))
  simp [D.isI] at e0
  simp [d_steps_clamps, b_steps_clamps, e0, e1, ic, dAll, asBs]
theorem refused_sp {G : GS} (hG : HI G) : ∃ G', d__law_refused [.ref 0] G = .ok (.pl (.bl true)) G' ∧ HI G' := by
  obtain ⟨deep, G1, e1, gd1, nd1, h1⟩ := deep2_sp hG
  obtain ⟨bad, hb, G2, e2, h2⟩ := any_sp h1 (xs := [.non, .int 0, .tup [.int 0, .int 1, .int 0], .tup [.int 0, .int 0], .lst [.int 0, .int 0, .int 1], .tup [.bl true, .int 0, .int 1], .tup [.int 0, .int 0, .int 1000000000000000001], .dct [] [], deep]) (by simp) (by simp)
  have gb : Gd bad ∧ isC bad = false := by
    simp only [List.mem_cons, List.mem_nil_iff, or_false] at hb
    rcases hb with rfl | rfl | rfl | rfl | rfl | rfl | rfl | rfl | rfl
    · exact ⟨gd_simple (by simp) (by simp), rfl⟩
    · exact ⟨gd_simple (by simp) (by simp), rfl⟩
    · exact ⟨gd_tup (by simp) (by simp), by decide⟩
    · exact ⟨gd_tup (by simp) (by simp), rfl⟩
    · exact ⟨gd_lst, rfl⟩
    · exact ⟨gd_tup (by simp) (by simp), rfl⟩
    · exact ⟨gd_tup (by simp) (by simp), by decide⟩
    · exact ⟨gd_simple (by simp) (by simp), rfl⟩
    · exact ⟨gd1, nd1⟩
  obtain ⟨far, hf, G3, e3, h3⟩ := any_sp h2 (xs := [.int 0, .int (-1), .int 1000001, .non, .bl true, .str "2"]) (by simp) (by simp)
  have wf : ∀ G, d_is_within [far, .int 1, .int 1000000] G = .ok (.pl (.bl false)) G := fun G => by
    simp only [List.mem_cons, List.mem_nil_iff, or_false] at hf
    rcases hf with rfl | rfl | rfl | rfl | rfl | rfl
    · exact within_no (by simp) (.inr ⟨_, rfl, by decide⟩)
    · exact within_no (by simp) (.inr ⟨_, rfl, by decide⟩)
    · exact within_no (by simp) (.inr ⟨_, rfl, by decide⟩)
    · exact within_no (by simp) (.inl rfl)
    · exact within_no (by simp) (.inl rfl)
    · exact within_no (by simp) (.inl rfl)
  obtain ⟨row, hr, G4, e4, h4⟩ := any_sp h3 (xs := [.non, .int 0, .lst [.tup [.int 1, .int 0, .int 5]], .tup [.tup [.int 1, .int 0, .int 5], bad], .tup [bad], .dct [] []]) (by simp) (by simp)
  have ab : ∀ G, d_all_behind [row] G = .exc "BadClamp" none G := fun G => by
    simp only [List.mem_cons, List.mem_nil_iff, or_false] at hr
    rcases hr with rfl | rfl | rfl | rfl | rfl | rfl
    · exact all_bad (by simp) (by simp)
    · exact all_bad (by simp) (by simp)
    · exact all_bad (by simp) (by simp)
    · exact all_bad2 cR gb.1 gb.2
    · exact all_bad1 gb.1 gb.2
    · exact all_bad (by simp) (by simp)
  obtain ⟨z, hz⟩ : ∃ z : List D, z = (List.replicate (2001 : Int).toNat [D.int 0]).flatten := ⟨_, rfl⟩
  have zl : z.length = 2001 := by
    rw [hz, List.length_flatten]
    rfl
  have zi : ∀ y ∈ z, y = .int 0 := fun y hy => by
    rw [hz] at hy
    obtain ⟨l, hl, hy⟩ := List.mem_flatten.mp hy
    rw [List.eq_of_mem_replicate hl] at hy
    simpa using hy
  obtain ⟨odd, ho, G5, e5, h5⟩ := any_sp h4 (xs := [.non, .int 0, .lst [.int 1], .tup [.int 1000000000001], .tup [.bl true], .tup [.str "1"], .tup [.non], .tup z, .dct [] []]) (by simp) (by simp)
  have so : ∀ G, d_steps_clamps [odd, .int 1, .int 0] G = .exc "BadNumber" none G := fun G => by
    simp only [List.mem_cons, List.mem_nil_iff, or_false] at ho
    rcases ho with rfl | rfl | rfl | rfl | rfl | rfl | rfl | rfl | rfl
    · exact steps_no fun G => are_integers_not (by simp) (by simp)
    · exact steps_no fun G => are_integers_not (by simp) (by simp)
    · exact steps_no fun G => are_integers_not (by simp) (by simp)
    · have e0 := are_integers_big (ys := [.int 1000000000001]) (by simp) (by simp) (G := G)
      have k1 := lc_map (G := G) (tg := gN 3) (fe := le1_steps_clamps) (S := [.pl (.tup [.int 1000000000001]), .pl (.int 1), .pl (.int 0), .un, .un]) (fun _ => .bl false) (xs := [.int 1000000000001]) fun x hx => by
        simp at hx
        subst hx
        exact ⟨_, rfl, by simp [le1_steps_clamps]⟩
      simp [D.isI] at e0
      simp [d_steps_clamps, b_steps_clamps, e0, k1, dAll, asBs]
    · exact steps_no fun G => are_integers_big (by simp) (by simp)
    · exact steps_no fun G => are_integers_big (by simp) (by simp)
    · exact steps_no fun G => are_integers_big (by simp) (by simp)
    · have e0 := are_integers_big (ys := z) (by omega) (fun y hy => by rw [zi y hy]; simp) (G := G)
      have ea : z.all D.isI = true := List.all_eq_true.mpr fun y hy => by rw [zi y hy]; rfl
      rw [ea] at e0
      simp [d_steps_clamps, b_steps_clamps, e0, zl]
    · exact steps_no fun G => are_integers_not (by simp) (by simp)
  obtain ⟨low, hw, G6, e6, h6⟩ := any_sp h5 (xs := [.int 6, .non, .bl true, .int 1000000000000000001]) (by simp) (by simp)
  have sl : ∀ G, d_steps_clamps [.tup [.int 1], low, .int 5] G = .exc "BadClamp" none G := fun G => by
    simp only [List.mem_cons, List.mem_nil_iff, or_false] at hw
    rcases hw with rfl | rfl | rfl | rfl
    · exact steps_clamp (by decide) (by simp)
    · exact steps_clamp rfl (by simp)
    · exact steps_clamp rfl (by simp)
    · exact steps_clamp (by decide) (by simp)
  have b1 : ∀ G, d_clamp_behind [bad, .tup [.int 1, .int 0, .int 5]] G = .exc "BadClamp" none G := fun G => behind_bad1 gb.1 gb.2
  have b2 : ∀ G, d_clamp_behind [.tup [.int 1, .int 0, .int 5], bad] G = .exc "BadClamp" none G := fun G => behind_bad2 cR gb.1 gb.2
  have b3 : ∀ G, d_clamp_often [bad, far] G = .exc "BadClamp" none G := fun G => often_bad gb.1 gb.2
  have b4 : ∀ G, d_clamp_often [.tup [.int 1, .int 0, .int 5], far] G = .exc "BadNumber" none G := fun G => often_far cR wf
  have mz : ∀ G, dMul G (.tup [.int 0]) (.int 2001) = some (.tup z) := fun G => by
    rw [hz]
    exact gd_true (by decide)
  refine ⟨G6, ?_, h6⟩
  simp [d__law_refused, b__law_refused, e1, e2, e3, th__law_raised, b__law_raised, b1, b2, b3, b4, e4, ab, mz, e5, so, e6, sl, hG.len, h1.len, h2.len, h3.len, h4.len, h5.len, h6.len, dEq, D.pln, D.plns, D.eqv, D.eqvs, dCount, dIndex, D.flat, idxOf]
theorem law_all (ns : List Int) (h : ns.length ≤ 63) (_ : ∀ z ∈ ns, Builtin.Int.intBits z ≤ 1048576) : ∃ G', b_law (.pl (.scr (ns.map .int)) :: List.replicate (4 - 1) .un) [] = .rt (.pl (.bl true)) G' := by
  obtain ⟨xs, eh, h0⟩ := hand_sp ns h
  obtain ⟨S', G', e1, h1, a, b, rfl⟩ := for_inv (tg := gN 2) (body := lb1_law) (fun S G => HI G ∧ ∃ a b, S = [.pl (.scr (ns.map .int)), .pl (.ref 0), a, b]) (xs := (List.range 6).map fun (k : Nat) => D.int k)
    (S := [.pl (.scr (ns.map .int)), .pl (.ref 0), .un, .un]) (G := [xs]) ⟨h0, _, _, rfl⟩ (fun t ht S G hS => by
      obtain ⟨hG, a, b, rfl⟩ := hS
      obtain ⟨s, l, u, G1, e1, p1, p2, p3, p4, h1⟩ := clamp_sp hG
      obtain ⟨s2, l2, u2, G2, e2, q1, q2, q3, q4, h2⟩ := clamp_sp h1
      have c1 : CT (s, l, u) := ⟨p1.1, p1.2, p2, p3, p4⟩
      have c2 : CT (s2, l2, u2) := ⟨q1.1, q1.2, q2, q3, q4⟩
      obtain ⟨G3, e3, h3⟩ := pair_right_sp c1 c2 h2
      obtain ⟨G4, e4, h4⟩ := row_right_sp h3
      obtain ⟨G5, e5, h5⟩ := often_right_sp h4
      obtain ⟨G6, e6, h6⟩ := steps_right_sp h5
      obtain ⟨G7, e7, h7⟩ := refused_sp h6
      have e3' : d__law_pair_right [.ref 0, .tup [.int s, .int l, .int u], .tup [.int s2, .int l2, .int u2]] G2 = .ok (.pl (.bl true)) G3 := e3
      exact ⟨_, rfl, [.pl (.scr (ns.map .int)), .pl (.ref 0), .pl t, b], G7, by simp [lb1_law, e1, e2, e3', e4, e5, e6, e7], h7, _, _, rfl⟩)
  have k1 : d_clamp_behind [.tup [.int 5, .int 0, .int 10], .tup [.int (-3), .int 0, .int 10]] G' = .ok (.pl (.tup [.int 2, .int 0, .int 7])) G' :=
    clamp_behind_eq (a := (5, 0, 10)) (b := (-3, 0, 10)) ⟨by decide, by decide, by decide, by decide, by decide⟩ ⟨by decide, by decide, by decide, by decide, by decide⟩
  have k2 : d_clamp_often [.tup [.int 1, .int 0, .int 9], .int 4] G' = .ok (.pl (.tup [.int 4, .int 3, .int 9])) G' :=
    clamp_often_eq (c := (1, 0, 9)) (N := 4) ⟨by decide, by decide, by decide, by decide, by decide⟩ (by decide) (by decide)
  have k3 : d_all_behind [.tup [.tup [.int 1, .int 0, .int 0], .tup [.int 2, .int 0, .int 5]]] G' = .ok (.pl (.tup [.int 0, .int 2, .int 2])) G' :=
    all_behind_eq (t := (1, 0, 0)) (ts := [(2, 0, 5)]) (fun x hx => by
      simp only [List.mem_cons, List.mem_nil_iff, or_false] at hx
      rcases hx with rfl | rfl <;> exact ⟨by decide, by decide, by decide, by decide, by decide⟩) (by decide)
  have k5 := is8 (G := G') (x := .lst [.tup [.int 2, .int 0, .int 7], .tup [.int 4, .int 3, .int 9], .tup [.int 0, .int 2, .int 2]]) ⟨by simp, by simp [Vl]⟩
  simp [b_law, eh]
  rw [e1]
  simp [k1, k2, k3, k5]
end K72
theorem PySem.Challenge.cw_wordhouse_k72_whole_clamps_behind_holds : PySem.Challenge.rw_wordhouse_k72_whole_clamps_behind.Holds := by
  exact K72.holds_of fun ns h hb => K72.law_all ns h hb
