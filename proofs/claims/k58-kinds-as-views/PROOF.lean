import PyProof.Rows.All
import Wide.All
import OpenK.AllK
import Wide.FinOn
import HandS.ForMost
import HandS.Deep
import HandS.TupAny
import HandS.Style
import HandS.TupLe
import HandS.TupMul
import HandS.Strs
import HandS.StrMore
import HandS.IsInst
import HandS.Flow
import HandS.More
import HandS.Star
import HandS.ClsMeth
import KE.GoesMore
import HandS.SetFor
import HandS.Codes
import HandS.SetTxt0
import HandS.Set
import HandS.SortRule
import HandS.WideBits
import HandS.Iter
import HandS.Defaults
import KE.KSuper
import KE.RegKSuper
import HandS.ExcInit
import HandS.ExcOwn
import HandS.ExcField
import HandS.ExcIs
import HandS.WordsExc
import HandS.Words
import KE.KExcIs
import HandS.Spec
import KE.SortData
import PySem.Challenge.RW_whatleaves_k58_kinds_as_views
set_option Elab.async false
set_option linter.all false
set_option maxRecDepth 100000
set_option autoImplicit false
/-! ### DL1: data as trees over the abstract heap -/
namespace DL
open PySem PySem.Spec PyProof.Rows L2

inductive D where
  | non | bl (b : Bool) | int (i : Int) | str (x : Str)
  | tup (xs : List D) | lst (xs : List D) | dic (ks vs : List D)
  | ins (C : Addr) (ns : List Str) (vs : List D)
  | ref (a : Addr) | ty (n : String) | scr (ns : List Int)
  /-- a caught exception of the class at C, its fields -/
  | exc (C : Addr) (ns : List Str) (vs : List D)

abbrev M := Addr → Option D
def updM (m : M) (a : Addr) (d : D) : M := fun b => if b = a then some d else m b
def delM (m : M) (a : Addr) : M := fun b => if b = a then none else m b
theorem updM_same {m : M} {a : Addr} {d : D} : updM m a d a = some d := by simp [updM]
theorem updM_ne {m : M} {a b : Addr} {d : D} (h : b ≠ a) : updM m a d b = m b := by simp [updM, h]
theorem updM_upd {m : M} {a : Addr} {d d' : D} : updM (updM m a d) a d' = updM m a d' := by
  funext b; simp only [updM]; split <;> rfl
theorem delM_same {m : M} {a : Addr} : delM m a a = none := by simp [delM]
theorem delM_ne {m : M} {a b : Addr} (h : b ≠ a) : delM m a b = m b := by simp [delM, h]

/-- a written tuple, list -/
def TupK (K : PySem.W.Frag) (a : Addr) (xs : List V) : Prop :=
  ∃ (o : Obj) (its : Array Value) (n : Nat), K.lookup a = some o ∧ o.cls = .type "tuple" ∧ o.data = .seq its n ∧ its.size ≤ sizeLine ∧ Vals xs its.toList
def TupAt (K : PySem.W.Frag) (m : M) (H : Hp) (a : Addr) (vs : List V) : Prop := (m a = none ∧ H a = some (.tup vs)) ∨ TupK K a vs
def LstAt (m : M) (H : Hp) (a : Addr) (vs : List V) : Prop := m a = none ∧ H a = some (.lst vs)
/-- the script -/
def ScrAt (K : PySem.W.Frag) (m : M) (H : Hp) (a : Addr) (vs : List V) : Prop := (m a = none ∧ Rd H a (.lst vs)) ∨
  ∃ (o : Obj) (its : Array Value) (n : Nat), K.lookup a = some o ∧ o.cls = .type "list" ∧ o.dict = none ∧ o.data = .seq its n ∧ its.size ≤ sizeLine ∧ Vals vs its.toList
theorem ScrAt.sq {K : PySem.W.Frag} {m : M} {H : Hp} {a : Addr} {vs : List V} (h : ScrAt K m H a vs) : SqL K H a vs := by
  rcases h with ⟨_, h⟩ | h
  · exact .inl h
  · exact .inr h
theorem ScrAt.of {K : PySem.W.Frag} {m : M} {H : Hp} {a : Addr} {vs : List V} (n : m a = none) (h : SqL K H a vs) : ScrAt K m H a vs := by
  rcases h with h | h
  · exact .inl ⟨n, h⟩
  · exact .inr h
def kD : Key → D
  | .inl i => .int i
  | .inr x => .str x
def DicAt (H : Hp) (a : Addr) (ks : List D) (vs : List V) : Prop :=
  ∃ kvs : List (Key × V), Rd H a (.dK kvs) ∧ ks = kvs.map (fun kv => kD kv.1) ∧ vs = kvs.map (·.2)

/-- the object of a caught exception -/
def XO (a C dd : Addr) : HO := .ext fun h => ∃ (oe : Obj) (vs : Array Value), h.get? a = some oe ∧ oe.cls = .ref C ∧ oe.dict = some dd ∧ oe.data = .fields vs
mutual
def Rep (K : PySem.W.Frag) (m : M) (H : Hp) : D → V → Prop
  | .non, v => v = .non
  | .bl b, v => v = .bl b
  | .int i, v => v = .int i
  | .str x, v => v = .str x
  | .ty n, v => v = .ty n
  | .ref a, v => v = .ref a
  | .scr ns, v => ∃ a, v = .ref a ∧ ScrAt K m H a (ns.map V.int)
  | .tup ds, v => ∃ a vs, v = .ref a ∧ TupAt K m H a vs ∧ RepL K m H ds vs
  | .lst ds, v => ∃ a vs, v = .ref a ∧ LstAt m H a vs ∧ RepL K m H ds vs
  | .dic ks ds, v => ∃ a vs, v = .ref a ∧ m a = none ∧ DicAt H a ks vs ∧ RepL K m H ds vs
  | .ins C ns ds, v => ∃ a dx fs, v = .ref a ∧ m a = none ∧ H a = some (.ins C dx fs) ∧ fs.map (·.1) = ns ∧ RepL K m H ds (fs.map (·.2))
  | .exc C ns ds, v => ∃ a dd fs, v = .ref a ∧ m a = none ∧ H a = some (XO a C dd) ∧ m dd = none ∧ H dd = some (.xd fs) ∧ fs.map (·.1) = ns ∧ RepL K m H ds (fs.map (·.2))
def RepL (K : PySem.W.Frag) (m : M) (H : Hp) : List D → List V → Prop
  | [], vs => vs = []
  | d :: ds, vs => ∃ v r, vs = v :: r ∧ Rep K m H d v ∧ RepL K m H ds r
end

/-- what stands at a mutable place -/
def MRep (K : PySem.W.Frag) (m : M) (H : Hp) (a : Addr) : D → Prop
  | .lst ds => ∃ vs, H a = some (.lst vs) ∧ RepL K m H ds vs
  | .dic ks ds => ∃ kvs : List (Key × V), H a = some (.dK kvs) ∧ ks = kvs.map (fun kv => kD kv.1) ∧ RepL K m H ds (kvs.map (·.2))
  | .ins C ns ds => ∃ dx fs, H a = some (.ins C dx fs) ∧ fs.map (·.1) = ns ∧ RepL K m H ds (fs.map (·.2))
  | _ => False
def Sim (K : PySem.W.Frag) (m : M) (H : Hp) : Prop := ∀ a d, m a = some d → MRep K m H a d

def strip : HO → HO
  | .frz _ (.dK k) => .dK k
  | .frz _ (.dT k) => .dT k
  | .tbl _ => .tbl #[]
  | u => u
theorem strip_lst {u : HO} {vs : List V} (h : strip u = .lst vs) : u = .lst vs := by
  unfold strip at h; split at h <;> first | exact h | cases h
theorem strip_tup {u : HO} {vs : List V} (h : strip u = .tup vs) : u = .tup vs := by
  unfold strip at h; split at h <;> first | exact h | cases h
theorem strip_ins {u : HO} {C dx fs} (h : strip u = .ins C dx fs) : u = .ins C dx fs := by
  unfold strip at h; split at h <;> first | exact h | cases h
theorem strip_frzl {u : HO} {o : Obj} {vs : List V} (h : strip u = .frz o (.lst vs)) : u = .frz o (.lst vs) := by
  unfold strip at h; split at h <;> first | exact h | cases h
theorem strip_xd {u : HO} {fs} (h : strip u = .xd fs) : u = .xd fs := by
  unfold strip at h; split at h <;> first | exact h | cases h
theorem strip_XO {u : HO} {a C dd} (h : strip u = XO a C dd) : u = XO a C dd := by
  unfold strip at h; split at h
  · unfold XO at h; cases h
  · unfold XO at h; cases h
  · unfold XO at h; cases h
  · exact h
theorem strip_dK {u : HO} {k} (h : strip u = .dK k) : u = .dK k ∨ ∃ o, u = .frz o (.dK k) := by
  unfold strip at h; split at h <;> first | (cases h; exact .inr ⟨_, rfl⟩) | exact .inl h | cases h
theorem strip_dT {u : HO} {k} (h : strip u = .dT k) : u = .dT k ∨ ∃ o, u = .frz o (.dT k) := by
  unfold strip at h; split at h <;> first | (cases h; exact .inr ⟨_, rfl⟩) | exact .inl h | cases h

/-- what is not mutable stays -/
def Lk (u u' : HO) : Prop := u' = u ∨ (∃ o k, u = .dK k ∧ u' = .frz o (.dK k)) ∨ ∃ ps more, u = .tbl ps ∧ u' = .tbl (ps ++ more)
theorem Lk.trans {u v w : HO} (a : Lk u v) (b : Lk v w) : Lk u w := by
  rcases a with rfl | ⟨o, k, rfl, rfl⟩ | ⟨ps, more, rfl, rfl⟩
  · exact b
  · rcases b with rfl | ⟨o', k', e, _⟩ | ⟨_, _, e, _⟩
    · exact .inr (.inl ⟨o, k, rfl, rfl⟩)
    · cases e
    · cases e
  · rcases b with rfl | ⟨o', k', e, _⟩ | ⟨ps', more', e, rfl⟩
    · exact .inr (.inr ⟨ps, more, rfl, rfl⟩)
    · cases e
    · cases e
      exact .inr (.inr ⟨ps, more ++ more', rfl, by rw [Array.append_assoc]⟩)
theorem Lk.strip {u v : HO} (a : Lk u v) : strip v = strip u := by
  rcases a with rfl | ⟨o, k, rfl, rfl⟩ | ⟨_, _, rfl, rfl⟩ <;> rfl
theorem Lk.lst {vs : List V} {v : HO} (a : Lk (.lst vs) v) : v = .lst vs := by
  rcases a with rfl | ⟨o, k, e, _⟩ | ⟨_, _, e, _⟩
  · rfl
  · cases e
  · cases e
theorem Lk.tup {vs : List V} {v : HO} (a : Lk (.tup vs) v) : v = .tup vs := by
  rcases a with rfl | ⟨o, k, e, _⟩ | ⟨_, _, e, _⟩
  · rfl
  · cases e
  · cases e
theorem Lk.frz {o : Obj} {u v : HO} (a : Lk (.frz o u) v) : v = .frz o u := by
  rcases a with rfl | ⟨o, k, e, _⟩ | ⟨_, _, e, _⟩
  · rfl
  · cases e
  · cases e
theorem Lk.ext {φ : Heap → Prop} {v : HO} (a : Lk (.ext φ) v) : v = .ext φ := by
  rcases a with rfl | ⟨o, k, e, _⟩ | ⟨_, _, e, _⟩
  · rfl
  · cases e
  · cases e
def Fr (m : M) (H : Hp) (m' : M) (H' : Hp) : Prop := ∀ a u, m a = none → H a = some u → m' a = none ∧ ∃ u', H' a = some u' ∧ Lk u u'
theorem Fr.refl {m : M} {H : Hp} : Fr m H m H := fun _ u n h => ⟨n, u, h, .inl rfl⟩
theorem Fr.trans {m m1 m2 : M} {H H1 H2 : Hp} (a : Fr m H m1 H1) (b : Fr m1 H1 m2 H2) : Fr m H m2 H2 := fun c u n h => by
  obtain ⟨n1, u1, h1, e1⟩ := a c u n h
  obtain ⟨n2, u2, h2, e2⟩ := b c u1 n1 h1
  exact ⟨n2, u2, h2, e1.trans e2⟩
theorem Fr.lst {m m1 : M} {H H1 : Hp} (f : Fr m H m1 H1) {a : Addr} {vs : List V} (n : m a = none) (h : H a = some (.lst vs)) : m1 a = none ∧ H1 a = some (.lst vs) := by
  obtain ⟨n1, u1, h1, e1⟩ := f a _ n h
  exact ⟨n1, by rw [h1, e1.lst]⟩
theorem Fr.tup {m m1 : M} {H H1 : Hp} (f : Fr m H m1 H1) {a : Addr} {vs : List V} (n : m a = none) (h : H a = some (.tup vs)) : m1 a = none ∧ H1 a = some (.tup vs) := by
  obtain ⟨n1, u1, h1, e1⟩ := f a _ n h
  exact ⟨n1, by rw [h1, e1.tup]⟩
theorem Fr.frz {m m1 : M} {H H1 : Hp} (f : Fr m H m1 H1) {a : Addr} {o : Obj} {u : HO} (n : m a = none) (h : H a = some (.frz o u)) : m1 a = none ∧ H1 a = some (.frz o u) := by
  obtain ⟨n1, u1, h1, e1⟩ := f a _ n h
  exact ⟨n1, by rw [h1, e1.frz]⟩
theorem rd_dK_strip {H : Hp} {a : Addr} {k} : Rd H a (.dK k) ↔ ∃ u, H a = some u ∧ strip u = .dK k := by
  constructor
  · rintro (h | ⟨o, h⟩)
    · exact ⟨_, h, rfl⟩
    · exact ⟨_, h, rfl⟩
  · rintro ⟨u, h, e⟩
    rcases strip_dK e with rfl | ⟨o, rfl⟩
    · exact .inl h
    · exact .inr ⟨o, h⟩
theorem dicAt_of {H H' : Hp} {a : Addr} {ks : List D} {vs : List V} (k : ∀ u, H a = some u → ∃ u', H' a = some u' ∧ strip u' = strip u) (h : DicAt H a ks vs) : DicAt H' a ks vs := by
  obtain ⟨kvs, h, e⟩ := h
  obtain ⟨u, h, e1⟩ := rd_dK_strip.mp h
  obtain ⟨u', h', e2⟩ := k u h
  exact ⟨kvs, rd_dK_strip.mpr ⟨u', h', e2.trans e1⟩, e⟩
/-- .. up to locks -/
def FrL (m : M) (H : Hp) (m' : M) (H' : Hp) : Prop := ∀ a u, m a = none → H a = some u → m' a = none ∧ ∃ u', H' a = some u' ∧ strip u' = strip u
theorem Fr.l {m m' : M} {H H' : Hp} (f : Fr m H m' H') : FrL m H m' H' := fun a u n h => let ⟨n1, u', h', e⟩ := f a u n h; ⟨n1, u', h', e.strip⟩

mutual
theorem Rep.monoL {K : PySem.W.Frag} {m m' : M} {H H' : Hp} (f : FrL m H m' H') : ∀ (d : D) (v : V), Rep K m H d v → Rep K m' H' d v
  | .non, v, h => h
  | .bl b, v, h => h
  | .int i, v, h => h
  | .str x, v, h => h
  | .ty n, v, h => h
  | .ref a, v, h => h
  | .scr ns, v, h => by
    simp only [Rep] at h ⊢
    obtain ⟨a, e, h1⟩ := h
    refine ⟨a, e, ?_⟩
    rcases h1 with ⟨n, (h1 | ⟨o, h1⟩)⟩ | h1
    · obtain ⟨n', u, h', e'⟩ := f a _ n h1
      exact .inl ⟨n', .inl (by rw [h', strip_lst (e'.trans rfl)])⟩
    · obtain ⟨n', u, h', e'⟩ := f a _ n h1
      exact .inl ⟨n', .inr ⟨o, by rw [h', strip_frzl (e'.trans rfl)]⟩⟩
    · exact .inr h1
  | .tup ds, v, h => by
    simp only [Rep] at h ⊢
    obtain ⟨a, vs, e, h1, h2⟩ := h
    refine ⟨a, vs, e, ?_, RepL.monoL f ds vs h2⟩
    rcases h1 with ⟨n, h1⟩ | h1
    · obtain ⟨n', u, h', e'⟩ := f a _ n h1
      exact .inl ⟨n', by rw [h', strip_tup (e'.trans rfl)]⟩
    · exact .inr h1
  | .lst ds, v, h => by
    simp only [Rep] at h ⊢
    obtain ⟨a, vs, e, h1, h2⟩ := h
    obtain ⟨n', u, h', e'⟩ := f a _ h1.1 h1.2
    exact ⟨a, vs, e, ⟨n', by rw [h', strip_lst (e'.trans rfl)]⟩, RepL.monoL f ds vs h2⟩
  | .dic ks ds, v, h => by
    simp only [Rep] at h ⊢
    obtain ⟨a, vs, e, n, h1, h2⟩ := h
    refine ⟨a, vs, e, ?_, dicAt_of (fun u h => (f a u n h).2) h1, RepL.monoL f ds vs h2⟩
    obtain ⟨kvs, (q | ⟨o, q⟩), _⟩ := h1 <;> exact (f a _ n q).1
  | .ins C ns ds, v, h => by
    simp only [Rep] at h ⊢
    obtain ⟨a, dx, fs, e, n, h1, h2, h3⟩ := h
    obtain ⟨n', u, h', e'⟩ := f a _ n h1
    exact ⟨a, dx, fs, e, n', by rw [h', strip_ins (e'.trans rfl)], h2, RepL.monoL f ds _ h3⟩
  | .exc C ns ds, v, h => by
    simp only [Rep] at h ⊢
    obtain ⟨a, dd, fs, e, n, h1, nd, hd, h2, h3⟩ := h
    obtain ⟨n', u, h', e'⟩ := f a _ n h1
    obtain ⟨nd', u2, hd', e2⟩ := f dd _ nd hd
    exact ⟨a, dd, fs, e, n', by rw [h', strip_XO (e'.trans rfl)], nd', by rw [hd', strip_xd (e2.trans rfl)], h2, RepL.monoL f ds _ h3⟩
theorem RepL.monoL {K : PySem.W.Frag} {m m' : M} {H H' : Hp} (f : FrL m H m' H') : ∀ (ds : List D) (vs : List V), RepL K m H ds vs → RepL K m' H' ds vs
  | [], vs, h => h
  | d :: ds, vs, h => by
    simp only [RepL] at h ⊢
    obtain ⟨v, r, e, h1, h2⟩ := h
    exact ⟨v, r, e, Rep.monoL f d v h1, RepL.monoL f ds r h2⟩
end

theorem Rep.mono {K : PySem.W.Frag} {m m' : M} {H H' : Hp} (f : Fr m H m' H') (d : D) (v : V) (h : Rep K m H d v) : Rep K m' H' d v := Rep.monoL f.l d v h
theorem RepL.mono {K : PySem.W.Frag} {m m' : M} {H H' : Hp} (f : Fr m H m' H') (d : List D) (v : List V) (h : RepL K m H d v) : RepL K m' H' d v := RepL.monoL f.l d v h

section
variable {K : PySem.W.Frag} {m m' : M} {H H' : Hp}
theorem RepL.length : ∀ {ds : List D} {vs : List V}, RepL K m H ds vs → ds.length = vs.length
  | [], vs, h => by simp only [RepL] at h; subst h; rfl
  | d :: ds, vs, h => by
    simp only [RepL] at h
    obtain ⟨v, r, rfl, _, h2⟩ := h
    simp [RepL.length h2]
theorem RepL.nil : RepL K m H [] [] := by simp only [RepL]
theorem RepL.cons {d : D} {ds : List D} {v : V} {vs : List V} (h1 : Rep K m H d v) (h2 : RepL K m H ds vs) : RepL K m H (d :: ds) (v :: vs) := by
  simp only [RepL]; exact ⟨v, vs, rfl, h1, h2⟩
theorem RepL.get : ∀ {ds : List D} {vs : List V} {i : Nat} {d : D}, RepL K m H ds vs → ds[i]? = some d → ∃ v, vs[i]? = some v ∧ Rep K m H d v
  | [], vs, i, d, h, e => by simp at e
  | d0 :: ds, vs, 0, d, h, e => by
    simp only [RepL] at h
    obtain ⟨v, r, rfl, h1, h2⟩ := h
    simp at e; subst e
    exact ⟨v, rfl, h1⟩
  | d0 :: ds, vs, i + 1, d, h, e => by
    simp only [RepL] at h
    obtain ⟨v, r, rfl, h1, h2⟩ := h
    simp at e
    obtain ⟨v', e', h'⟩ := RepL.get h2 e
    exact ⟨v', by simpa using e', h'⟩
theorem RepL.get' : ∀ {ds : List D} {vs : List V} {i : Nat} {v : V}, RepL K m H ds vs → vs[i]? = some v → ∃ d, ds[i]? = some d ∧ Rep K m H d v
  | [], vs, i, v, h, e => by simp only [RepL] at h; subst h; simp at e
  | d0 :: ds, vs, 0, v, h, e => by
    simp only [RepL] at h
    obtain ⟨v0, r, rfl, h1, h2⟩ := h
    simp at e; subst e
    exact ⟨d0, rfl, h1⟩
  | d0 :: ds, vs, i + 1, v, h, e => by
    simp only [RepL] at h
    obtain ⟨v0, r, rfl, h1, h2⟩ := h
    simp at e
    obtain ⟨v', e', h'⟩ := RepL.get' h2 e
    exact ⟨v', by simpa using e', h'⟩
theorem RepL.append : ∀ {ds es : List D} {vs ws : List V}, RepL K m H ds vs → RepL K m H es ws → RepL K m H (ds ++ es) (vs ++ ws)
  | [], es, vs, ws, h, g => by simp only [RepL] at h; subst h; exact g
  | d :: ds, es, vs, ws, h, g => by
    simp only [RepL] at h
    obtain ⟨v, r, rfl, h1, h2⟩ := h
    exact .cons h1 (RepL.append h2 g)
theorem RepL.take : ∀ {ds : List D} {vs : List V} (n : Nat), RepL K m H ds vs → RepL K m H (ds.take n) (vs.take n)
  | ds, vs, 0, h => by simp [RepL]
  | [], vs, n + 1, h => by simp only [RepL] at h; subst h; simp [RepL]
  | d :: ds, vs, n + 1, h => by
    simp only [RepL] at h
    obtain ⟨v, r, rfl, h1, h2⟩ := h
    exact .cons h1 (RepL.take n h2)
theorem RepL.drop : ∀ {ds : List D} {vs : List V} (n : Nat), RepL K m H ds vs → RepL K m H (ds.drop n) (vs.drop n)
  | ds, vs, 0, h => h
  | [], vs, n + 1, h => by simp only [RepL] at h; subst h; simp [RepL]
  | d :: ds, vs, n + 1, h => by
    simp only [RepL] at h
    obtain ⟨v, r, rfl, h1, h2⟩ := h
    exact RepL.drop n h2
theorem RepL.set : ∀ {ds : List D} {vs : List V} (i : Nat) {d : D} {v : V}, RepL K m H ds vs → Rep K m H d v → RepL K m H (ds.set i d) (vs.set i v)
  | [], vs, i, d, v, h, g => by simp only [RepL] at h; subst h; simp [RepL]
  | d0 :: ds, vs, 0, d, v, h, g => by
    simp only [RepL] at h
    obtain ⟨v0, r, rfl, h1, h2⟩ := h
    exact .cons g h2
  | d0 :: ds, vs, i + 1, d, v, h, g => by
    simp only [RepL] at h
    obtain ⟨v0, r, rfl, h1, h2⟩ := h
    exact .cons h1 (RepL.set i h2 g)
theorem RepL.reverse {ds : List D} {vs : List V} (h : RepL K m H ds vs) : RepL K m H ds.reverse vs.reverse := by
  induction ds generalizing vs with
  | nil => simp only [RepL] at h; subst h; simp [RepL]
  | cons d ds ih =>
    simp only [RepL] at h
    obtain ⟨v, r, rfl, h1, h2⟩ := h
    rw [List.reverse_cons, List.reverse_cons]
    exact RepL.append (ih h2) (.cons h1 .nil)
theorem RepL.snoc {ds : List D} {vs : List V} {d : D} {v : V} (h : RepL K m H ds vs) (g : Rep K m H d v) : RepL K m H (ds ++ [d]) (vs ++ [v]) := h.append (.cons g .nil)
theorem RepL.map_int : ∀ (ns : List Int), RepL K m H (ns.map D.int) (ns.map V.int)
  | [] => by simp [RepL]
  | n :: ns => .cons (by simp only [Rep]) (RepL.map_int ns)
theorem RepL.map_str : ∀ (ns : List Str), RepL K m H (ns.map D.str) (ns.map V.str)
  | [] => by simp [RepL]
  | n :: ns => .cons (by simp only [Rep]) (RepL.map_str ns)

theorem MRep.monoL {a : Addr} {d : D} (f : FrL m H m' H') (h : MRep K m H a d) (k : ∀ u, H a = some u → H' a = some u) : MRep K m' H' a d := by
  cases d with
  | lst ds =>
    obtain ⟨vs, h1, h2⟩ := h
    exact ⟨vs, k _ h1, RepL.monoL f _ _ h2⟩
  | dic ks ds =>
    obtain ⟨kvs, h1, h2, h3⟩ := h
    exact ⟨kvs, k _ h1, h2, RepL.monoL f _ _ h3⟩
  | ins C ns ds =>
    obtain ⟨dx, fs, h1, h2, h3⟩ := h
    exact ⟨dx, fs, k _ h1, h2, RepL.monoL f _ _ h3⟩
  | _ => exact h.elim
theorem MRep.mono {a : Addr} {d : D} (f : Fr m H m' H') (h : MRep K m H a d) (k : ∀ u, H a = some u → H' a = some u) : MRep K m' H' a d := h.monoL f.l k
theorem Sim.monoL (s : Sim K m H) (f : FrL m H m H') (k : ∀ a u, m a ≠ none → H a = some u → H' a = some u) : Sim K m H' := fun a d e => (s a d e).monoL f (k a · (by rw [e]; exact fun z => nomatch z))
theorem Sim.free (s : Sim K m H) {a : Addr} (h : H a = none) : m a = none := by
  cases e : m a with
  | none => rfl
  | some d =>
    have q := s a d e
    cases d with
    | lst ds => obtain ⟨vs, h1, _⟩ := q; rw [h] at h1; cases h1
    | dic ks ds =>
      obtain ⟨kvs, h1, _⟩ := q; rw [h] at h1; cases h1
    | ins C ns ds => obtain ⟨dx, fs, h1, _⟩ := q; rw [h] at h1; cases h1
    | _ => exact q.elim
/-- a new object, laid: the store as it is -/
theorem Fr.laid (s : Sim K m H) {p : Addr} {o : HO} (hp : H p = none) : Fr m H m (upd H p o) := fun a u n h =>
  ⟨n, u, by rw [upd_ne (ne_of_none h hp)]; exact h, .inl rfl⟩
theorem Sim.laid (s : Sim K m H) {p : Addr} {o : HO} (hp : H p = none) : Sim K m (upd H p o) := fun a d e => by
  refine (s a d e).mono (Fr.laid s hp) fun u hu => ?_
  rw [upd_ne (ne_of_none hu hp)]; exact hu
/-- .. as a mutable one -/
theorem Fr.laidM (s : Sim K m H) {p : Addr} {o : HO} {d : D} (hp : H p = none) : Fr m H (updM m p d) (upd H p o) := fun a u n h => by
  have ne := ne_of_none h hp
  exact ⟨by rw [updM_ne ne]; exact n, u, by rw [upd_ne ne]; exact h, .inl rfl⟩
theorem Sim.laidM (s : Sim K m H) {p : Addr} {o : HO} {d : D} (hp : H p = none) (r : MRep K (updM m p d) (upd H p o) p d) : Sim K (updM m p d) (upd H p o) := fun a d' e => by
  by_cases ha : a = p
  · subst ha
    rw [updM_same] at e; cases e; exact r
  · rw [updM_ne ha] at e
    exact (s a d' e).mono (Fr.laidM s hp) fun u hu => by rw [upd_ne ha]; exact hu
/-- a mutable object changed -/
theorem Fr.write {p : Addr} {o : HO} {d d0 : D} (hp : m p = some d0) : Fr m H (updM m p d) (upd H p o) := fun a u n h => by
  have ne : a ≠ p := by rintro rfl; rw [hp] at n; cases n
  exact ⟨by rw [updM_ne ne]; exact n, u, by rw [upd_ne ne]; exact h, .inl rfl⟩
theorem Sim.write (s : Sim K m H) {p : Addr} {o : HO} {d d0 : D} (hp : m p = some d0) (r : MRep K (updM m p d) (upd H p o) p d) : Sim K (updM m p d) (upd H p o) := fun a d' e => by
  by_cases ha : a = p
  · subst ha
    rw [updM_same] at e; cases e; exact r
  · rw [updM_ne ha] at e
    exact (s a d' e).mono (Fr.write hp) fun u hu => by rw [upd_ne ha]; exact hu
/-- a mutable object is from now on a tree -/
theorem Fr.frozen {p : Addr} : Fr m H (delM m p) H := fun a u n h => by
  refine ⟨?_, u, h, .inl rfl⟩
  unfold delM; split
  · rfl
  · exact n
theorem Sim.frozen (s : Sim K m H) {p : Addr} : Sim K (delM m p) H := fun a d e => by
  by_cases ha : a = p
  · subst ha; rw [delM_same] at e; cases e
  · rw [delM_ne ha] at e
    exact (s a d e).mono Fr.frozen fun u hu => hu
theorem rep_frozen (s : Sim K m H) {p : Addr} {d : D} (hp : m p = some d) : Rep K (delM m p) H d (.ref p) := by
  have q := s p d hp
  have q := q.mono (Fr.frozen (p := p)) fun u hu => hu
  cases d with
  | lst ds => obtain ⟨vs, h1, h2⟩ := q; simp only [Rep]; exact ⟨p, vs, rfl, ⟨delM_same, h1⟩, h2⟩
  | dic ks ds => obtain ⟨kvs, h1, h2, h3⟩ := q; simp only [Rep]; exact ⟨p, _, rfl, delM_same, ⟨kvs, .inl h1, h2, rfl⟩, h3⟩
  | ins C ns ds => obtain ⟨dx, fs, h1, h2, h3⟩ := q; simp only [Rep]; exact ⟨p, dx, fs, rfl, delM_same, h1, h2, h3⟩
  | _ => exact q.elim
end

/-! ### the state and the readings -/
abbrev Env := List (Option D)
structure EnvOk (K : PySem.W.Frag) (m : M) (H : Hp) (σ : L2.St) (env : Env) : Prop where
  len : σ.length = env.length
  get : ∀ (i : Nat) (d : D), env[i]? = some (some d) → ∃ v, σ[i]? = some (some v) ∧ Rep K m H d v
section
variable {K : PySem.W.Frag} {m m' : M} {H H' : Hp} {σ : L2.St} {env : Env}
theorem EnvOk.mono (h : EnvOk K m H σ env) (f : Fr m H m' H') : EnvOk K m' H' σ env :=
  ⟨h.len, fun i d e => let ⟨v, e1, r⟩ := h.get i d e; ⟨v, e1, Rep.mono f d v r⟩⟩
theorem EnvOk.set (h : EnvOk K m H σ env) (i : Nat) {d : D} {v : V} (r : Rep K m H d v) : EnvOk K m H (σ.set i (some v)) (env.set i (some d)) := by
  refine ⟨by simp [h.len], fun j d' e => ?_⟩
  by_cases hj : j = i
  · subst hj
    have hl : j < env.length := by
      rcases Nat.lt_or_ge j env.length with q | q
      · exact q
      · rw [List.getElem?_eq_none (by simpa using q)] at e; cases e
    rw [List.getElem?_set_self hl] at e
    cases e
    exact ⟨v, by rw [List.getElem?_set_self (by rw [h.len]; exact hl)], r⟩
  · rw [List.getElem?_set_ne (Ne.symm hj)] at e
    obtain ⟨v', e1, r'⟩ := h.get j d' e
    exact ⟨v', by rw [List.getElem?_set_ne (Ne.symm hj)]; exact e1, r'⟩
theorem EnvOk.unset (h : EnvOk K m H σ env) (i : Nat) : EnvOk K m H (σ.set i none) (env.set i none) := by
  refine ⟨by simp [h.len], fun j d' e => ?_⟩
  by_cases hj : j = i
  · subst hj
    rcases Nat.lt_or_ge j env.length with q | q
    · rw [List.getElem?_set_self q] at e; cases e
    · rw [List.getElem?_eq_none (by simpa using q)] at e; cases e
  · rw [List.getElem?_set_ne (Ne.symm hj)] at e
    obtain ⟨v', e1, r'⟩ := h.get j d' e
    exact ⟨v', by rw [List.getElem?_set_ne (Ne.symm hj)]; exact e1, r'⟩
def wipeD (env : Env) : List Nat → Env
  | [] => env
  | v :: vs => (wipeD env vs).set v none
theorem EnvOk.wipe (h : EnvOk K m H σ env) : ∀ vs : List Nat, EnvOk K m H (L2.wipe σ vs) (wipeD env vs)
  | [] => h
  | v :: vs => (EnvOk.wipe h vs).unset v
def startD (n : Nat) (ds : List D) : Env := ds.map some ++ List.replicate (n - ds.length) none
theorem EnvOk.start {N : List Str} {ds : List D} {vs : List V} (r : RepL K m H ds vs) : EnvOk K m H (L2.start N vs) (startD N.length ds) := by
  have l := r.length
  unfold L2.start startD
  refine ⟨by simp [l], fun i d e => ?_⟩
  by_cases hi : i < ds.length
  · rw [List.getElem?_append_left (by simpa using hi), List.getElem?_map] at e
    cases q : ds[i]? with
    | none => rw [q] at e; cases e
    | some d' =>
      rw [q] at e; cases e
      obtain ⟨v, e1, r1⟩ := r.get q
      exact ⟨v, by rw [List.getElem?_append_left (by simp; omega), List.getElem?_map, e1]; rfl, r1⟩
  · rw [List.getElem?_append_right (by simpa using hi), List.getElem?_replicate] at e
    split at e <;> cases e
end

abbrev DK := D → M → Prop
abbrev DTE := Env → M → DK → Prop
abbrev DTT := Env → M → (Bool → M → Prop) → Prop
abbrev DTA := Env → M → (List D → M → Prop) → Prop
structure DEnds where
  nx : Env → M → Prop
  rt : DK
  bk : Env → M → Prop := fun _ _ => False
  ct : Env → M → Prop := fun _ _ => False
  /-- what is raised: its class, its fields -/
  ex : Addr → List Str → List D → Env → M → Prop := fun _ _ _ _ _ => False
abbrev DTS := Env → M → DEnds → Prop
abbrev DTG := D → Env → M → (Env → M → Prop) → Prop
/-- what a def promises -/
abbrev DSp := List D → M → DK → Prop

def liftE (K : PySem.W.Frag) (t : DTE) : TE := fun σ H Q => ∃ env m R, EnvOk K m H σ env ∧ Sim K m H ∧ t env m R ∧
  ∀ d m' v H', R d m' → Fr m H m' H' → Sim K m' H' → Rep K m' H' d v → Q v H'
def liftT (K : PySem.W.Frag) (t : DTT) : TT := fun σ H Q => ∃ env m R, EnvOk K m H σ env ∧ Sim K m H ∧ t env m R ∧
  ∀ b m' H', R b m' → Fr m H m' H' → Sim K m' H' → Q b H'
def liftA (K : PySem.W.Frag) (t : DTA) : TA := fun σ H Q => ∃ env m R, EnvOk K m H σ env ∧ Sim K m H ∧ t env m R ∧
  ∀ ds m' vs H', R ds m' → Fr m H m' H' → Sim K m' H' → RepL K m' H' ds vs → Q vs H'
def liftS (K : PySem.W.Frag) (t : DTS) : TS := fun D σ H => ∃ env m E, EnvOk K m H σ env ∧ Sim K m H ∧ t env m E ∧
  (∀ env' m' σ' H', E.nx env' m' → EnvOk K m' H' σ' env' → Sim K m' H' → Fr m H m' H' → D.nx σ' H') ∧
  (∀ d m' v H', E.rt d m' → Fr m H m' H' → Sim K m' H' → Rep K m' H' d v → D.rt v H') ∧
  (∀ env' m' σ' H', E.bk env' m' → EnvOk K m' H' σ' env' → Sim K m' H' → Fr m H m' H' → D.bk σ' H') ∧
  (∀ env' m' σ' H', E.ct env' m' → EnvOk K m' H' σ' env' → Sim K m' H' → Fr m H m' H' → D.ct σ' H')
def liftG (K : PySem.W.Frag) (t : DTG) : TG := fun v σ H Q => ∃ d env m R, Rep K m H d v ∧ EnvOk K m H σ env ∧ Sim K m H ∧ t d env m R ∧
  ∀ env' m' σ' H', R env' m' → EnvOk K m' H' σ' env' → Sim K m' H' → Fr m H m' H' → Q σ' H'
def liftSp (K : PySem.W.Frag) (sp : DSp) : Sp := fun vs H Q _ => ∃ ds m R, RepL K m H ds vs ∧ Sim K m H ∧ sp ds m R ∧
  ∀ d m' v H', R d m' → Fr m H m' H' → Sim K m' H' → Rep K m' H' d v → Q v H'

structure DE (X : Cx) (e : Expr) (t : DTE) : Prop where run : PE X e (liftE X.K t)
structure DT (X : Cx) (e : Expr) (t : DTT) : Prop where run : PT X e (liftT X.K t)
structure DA (X : Cx) (es : List Expr) (t : DTA) : Prop where run : PA X es (liftA X.K t)
structure DS (X : Cx) (st : Stmt) (t : DTS) : Prop where run : PS X st (liftS X.K t)
structure DSs (X : Cx) (st : List Stmt) (t : DTS) : Prop where run : PSs X st (liftS X.K t)
structure DG (X : Cx) (e : Expr) (t : DTG) : Prop where run : PG X e (liftG X.K t)

theorem PE.weak {X : Cx} {e : Expr} {t t' : TE} (h : PE X e t) (k : ∀ σ H Q, t' σ H Q → t σ H Q) : PE X e t' := ⟨fun pins s σ H Q I q => h.run pins s σ H Q I (k σ H Q q)⟩
theorem PT.weak {X : Cx} {e : Expr} {t t' : TT} (h : PT X e t) (k : ∀ σ H Q, t' σ H Q → t σ H Q) : PT X e t' := ⟨fun pins s σ H Q I q => h.run pins s σ H Q I (k σ H Q q)⟩
theorem PA.weak {X : Cx} {e : List Expr} {t t' : TA} (h : PA X e t) (k : ∀ σ H Q, t' σ H Q → t σ H Q) : PA X e t' := ⟨fun pos pins s σ H Q I q => h.run pos pins s σ H Q I (k σ H Q q)⟩
theorem PS.weak {X : Cx} {e : Stmt} {t t' : TS} (h : PS X e t) (k : ∀ D σ H, t' D σ H → t D σ H) : PS X e t' := ⟨fun pins s σ H D I q => h.run pins s σ H D I (k D σ H q)⟩
theorem PSs.weak {X : Cx} {e : List Stmt} {t t' : TS} (h : PSs X e t) (k : ∀ D σ H, t' D σ H → t D σ H) : PSs X e t' := ⟨fun pins s σ H D I q => h.run pins s σ H D I (k D σ H q)⟩
theorem PG.weak {X : Cx} {e : Expr} {t t' : TG} (h : PG X e t) (k : ∀ v σ H Q, t' v σ H Q → t v σ H Q) : PG X e t' := ⟨fun pins s σ H v u Q I r q => h.run pins s σ H v u Q I r (k v σ H Q q)⟩
end DL
/-! ### DL2: rules of expressions over trees -/
namespace DL
open PySem PySem.Spec PyProof.Rows L2

def look (m : M) : D → D
  | .ref p => (m p).getD (.ref p)
  | d => d
/-- the content of a value -/
def Cont (K : PySem.W.Frag) (m : M) (H : Hp) : D → V → Prop
  | .lst ds, v => ∃ a vs, v = .ref a ∧ H a = some (.lst vs) ∧ RepL K m H ds vs
  | .dic ks ds, v => ∃ a vs, v = .ref a ∧ DicAt H a ks vs ∧ RepL K m H ds vs
  | .ins C ns ds, v => ∃ a dx fs, v = .ref a ∧ H a = some (.ins C dx fs) ∧ fs.map (·.1) = ns ∧ RepL K m H ds (fs.map (·.2))
  | d, v => Rep K m H d v
section
variable {K : PySem.W.Frag} {m m' : M} {H H' : Hp}
theorem cont_of (s : Sim K m H) {x : D} {v : V} (r : Rep K m H x v) : Cont K m H (look m x) v := by
  cases x with
  | ref p =>
    simp only [Rep] at r
    subst r
    cases e : m p with
    | none => simp only [look, e, Option.getD_none, Cont, Rep]
    | some d =>
      simp only [look, e, Option.getD_some]
      have q := s p d e
      cases d with
      | lst ds => obtain ⟨vs, h1, h2⟩ := q; exact ⟨p, vs, rfl, h1, h2⟩
      | dic ks ds => obtain ⟨kvs, h1, h2, h3⟩ := q; exact ⟨p, _, rfl, ⟨kvs, .inl h1, h2, rfl⟩, h3⟩
      | ins C ns ds => obtain ⟨dx, fs, h1, h2, h3⟩ := q; exact ⟨p, dx, fs, rfl, h1, h2, h3⟩
      | _ => exact q.elim
  | lst ds => simp only [Rep] at r; obtain ⟨a, vs, e, h1, h2⟩ := r; exact ⟨a, vs, e, h1.2, h2⟩
  | dic ks ds => simp only [Rep] at r; obtain ⟨a, vs, e, h0, h1, h2⟩ := r; exact ⟨a, vs, e, h1, h2⟩
  | ins C ns ds => simp only [Rep] at r; obtain ⟨a, dx, fs, e, h0, h1, h2, h3⟩ := r; exact ⟨a, dx, fs, e, h1, h2, h3⟩
  | tup ds => exact r
  | _ => exact r
theorem cont_int {i : Int} {v : V} (c : Cont K m H (.int i) v) : v = .int i := by simpa only [Cont, Rep] using c
theorem cont_bl {i : Bool} {v : V} (c : Cont K m H (.bl i) v) : v = .bl i := by simpa only [Cont, Rep] using c
theorem cont_str {i : Str} {v : V} (c : Cont K m H (.str i) v) : v = .str i := by simpa only [Cont, Rep] using c
theorem cont_non {v : V} (c : Cont K m H .non v) : v = .non := by simpa only [Cont, Rep] using c
theorem tupAt_sq {a : Addr} {vs : List V} (h : TupAt K m H a vs) : SqT K H a vs := by
  rcases h with ⟨_, h⟩ | h
  · exact .inl (.inl h)
  · exact .inr h
theorem cont_tup {ds : List D} {v : V} (c : Cont K m H (.tup ds) v) : ∃ a vs, v = .ref a ∧ TupAt K m H a vs ∧ RepL K m H ds vs := by simpa only [Cont, Rep] using c
theorem cont_lst {ds : List D} {v : V} (c : Cont K m H (.lst ds) v) : ∃ a vs, v = .ref a ∧ H a = some (.lst vs) ∧ RepL K m H ds vs := c
theorem cont_dic {ks ds : List D} {v : V} (c : Cont K m H (.dic ks ds) v) : ∃ a vs, v = .ref a ∧ DicAt H a ks vs ∧ RepL K m H ds vs := c
theorem cont_scr {ns : List Int} {v : V} (c : Cont K m H (.scr ns) v) : ∃ a, v = .ref a ∧ SqL K H a (ns.map V.int) := by
  simp only [Cont, Rep] at c
  obtain ⟨a, e, h⟩ := c
  exact ⟨a, e, h.sq⟩

theorem rep_int {i : Int} : Rep K m H (.int i) (.int i) := by simp only [Rep]
theorem rep_bl {i : Bool} : Rep K m H (.bl i) (.bl i) := by simp only [Rep]
theorem rep_str {i : Str} : Rep K m H (.str i) (.str i) := by simp only [Rep]
theorem rep_non : Rep K m H .non .non := by simp only [Rep]
theorem rep_ref {a : Addr} : Rep K m H (.ref a) (.ref a) := by simp only [Rep]
theorem rep_ty {a : String} : Rep K m H (.ty a) (.ty a) := by simp only [Rep]
/-- new ones -/
theorem new_tup (s : Sim K m H) {p : Addr} {ds : List D} {vs : List V} (hp : H p = none) (r : RepL K m H ds vs) : Rep K m (upd H p (.tup vs)) (.tup ds) (.ref p) := by
  simp only [Rep]; exact ⟨p, vs, rfl, .inl ⟨s.free hp, upd_same⟩, RepL.mono (Fr.laid s hp) _ _ r⟩
theorem new_lst (s : Sim K m H) {p : Addr} {ds : List D} {vs : List V} (hp : H p = none) (r : RepL K m H ds vs) : Rep K m (upd H p (.lst vs)) (.lst ds) (.ref p) := by
  simp only [Rep]; exact ⟨p, vs, rfl, ⟨s.free hp, upd_same⟩, RepL.mono (Fr.laid s hp) _ _ r⟩
theorem new_lstM (s : Sim K m H) {p : Addr} {ds : List D} {vs : List V} (hp : H p = none) (r : RepL K m H ds vs) : Sim K (updM m p (.lst ds)) (upd H p (.lst vs)) :=
  Sim.laidM s hp ⟨vs, upd_same, RepL.mono (Fr.laidM s hp) _ _ r⟩
end

/-! ### names, constants -/
def tV (i : Nat) : DTE := fun env m Q => ∃ d, env[i]? = some (some d) ∧ Q d m
def tK (d : D) : DTE := fun _ m Q => Q d m
section
variable {X : Cx} {e a b : Expr} {ta tb : DTE} {pos : Pos}
theorem dv (i : Nat) {x : Str} {pos : Pos} (hN : X.N[i]? = some x := by rfl) (hv : Vis X.env.scope x := by first | exact Or.inl rfl | exact Or.inr (Or.inl rfl) | exact Or.inr (Or.inr rfl)) (hd : (x == ("__debug__" : Str)) = false := by decide)
    (hcd : (x == ("__classdict__" : Str)) = false := by decide) : DE X (.Name x pos) (tV i) := ⟨PE.weak (pe_var hN hv hd hcd) fun σ H Q h => by
  obtain ⟨env, m, R, eo, s, ⟨d, e, r⟩, k⟩ := h
  obtain ⟨v, e1, rp⟩ := eo.get i d e
  exact ⟨v, e1, k d m v H r Fr.refl s rp⟩⟩
theorem de_c {d : D} {v : V} (h : PE X e (tC v)) (r : ∀ m H, Rep X.K m H d v) : DE X e (tK d) := ⟨PE.weak h fun σ H Q h => by
  obtain ⟨env, m, R, eo, s, r', k⟩ := h
  exact k d m v H r' Fr.refl s (r m H)⟩
theorem de_int {i : Int} {j pos} : DE X (.Constant (.int i) j pos) (tK (.int i)) := de_c pe_int fun _ _ => rep_int
theorem de_bl {b j pos} : DE X (.Constant (.bool b) j pos) (tK (.bl b)) := de_c pe_bl fun _ _ => rep_bl
theorem de_non {j pos} : DE X (.Constant .none j pos) (tK .non) := de_c pe_non fun _ _ => rep_non
theorem de_str {x j pos} : DE X (.Constant (.str x) j pos) (tK (.str x)) := de_c pe_str fun _ _ => rep_str
theorem de_glob {x : Str} {d : D} {v : V} {u : Value} {pos : Pos} (hm : X.mg x = some u) (r : RelV v u) (rd : ∀ m H, Rep X.K m H d v) (hg : Gl X x := by rfl) (hd : (x == ("__debug__" : Str)) = false := by decide) : DE X (.Name x pos) (tK d) :=
  de_c (pe_glob hg hm r hd) rd

/-! ### operators by values -/
def liftOp (K : PySem.W.Frag) (f : M → D → D → Option D) : R2 := fun v u H Q => ∃ x y m d, Rep K m H x v ∧ Rep K m H y u ∧ Sim K m H ∧ f m x y = some d ∧
  ∀ w H', Fr m H m H' → Sim K m H' → Rep K m H' d w → Q w H'
theorem opW {g : Value → Value → Sem Value} {r r' : R2} (h : OpR X g r) (k : ∀ x y H Q, r' x y H Q → r x y H Q) : OpR X g r' := fun pins s σ H x y v u Q I rx ry q => h pins s σ H x y v u Q I rx ry (k _ _ _ _ q)
def DOp (X : Cx) (g : Value → Value → Sem Value) (f : M → D → D → Option D) : Prop := OpR X g (liftOp X.K f)
def tBin (f : M → D → D → Option D) (ta tb : DTE) : DTE := fun env m Q => ta env m fun x m1 => tb env m1 fun y m2 => ∃ d, f m2 x y = some d ∧ Q d m2
def tBinT (f : M → D → D → Option D) (ta tb : DTE) : DTT := fun env m Q => ta env m fun x m1 => tb env m1 fun y m2 => ∃ b, f m2 x y = some (.bl b) ∧ Q b m2
theorem bin_lift {f : M → D → D → Option D} {σ : L2.St} {H : Hp} {Q : VK} (h : liftE X.K (tBin f ta tb) σ H Q) : tOp (liftOp X.K f) (liftE X.K ta) (liftE X.K tb) σ H Q := by
  obtain ⟨env, m, R, eo, s, h, k⟩ := h
  refine ⟨env, m, _, eo, s, h, fun x m1 v H1 h1 f1 s1 r1 => ?_⟩
  refine ⟨env, m1, _, eo.mono f1, s1, h1, fun y m2 u H2 h2 f2 s2 r2 => ?_⟩
  obtain ⟨d, e, h2⟩ := h2
  exact ⟨x, y, m2, d, Rep.mono f2 _ _ r1, r2, s2, e, fun w H' f3 s3 r3 => k d m2 w H' h2 ((f1.trans f2).trans f3) s3 r3⟩
theorem de_op {op : Operator} {f : M → D → D → Option D} (ho : DOp X (binaryOp op) f) (ha : DE X a ta) (hb : DE X b tb) : DE X (.BinOp a op b pos) (tBin f ta tb) :=
  ⟨PE.weak (pe_op ho ha.run hb.run) fun _ _ _ h => bin_lift h⟩
theorem de_cmp {op : CmpOp} {f : M → D → D → Option D} (ho : DOp X (compareOp op) f) (ha : DE X a ta) (hb : DE X b tb) (hm : behindInMarks op b = false := by first | exact nomark _ | rfl) : DE X (.Compare a [op] [b] pos) (tBin f ta tb) :=
  ⟨PE.weak (pe_cmpR ho ha.run hb.run hm) fun _ _ _ h => bin_lift h⟩
theorem dt_cmp {op : CmpOp} {f : M → D → D → Option D} (ho : DOp X (compareOp op) f) (ha : DE X a ta) (hb : DE X b tb) (hm : behindInMarks op b = false := by first | exact nomark _ | rfl) : DT X (.Compare a [op] [b] pos) (tBinT f ta tb) :=
  ⟨PT.weak (pt_cmpR ho ha.run hb.run hm) fun σ H Q h => by
    obtain ⟨env, m, R, eo, s, h, k⟩ := h
    refine ⟨env, m, _, eo, s, h, fun x m1 v H1 h1 f1 s1 r1 => ?_⟩
    refine ⟨env, m1, _, eo.mono f1, s1, h1, fun y m2 u H2 h2 f2 s2 r2 => ?_⟩
    obtain ⟨b, e, h2⟩ := h2
    refine ⟨x, y, m2, .bl b, Rep.mono f2 _ _ r1, r2, s2, e, fun w H' f3 s3 r3 => ⟨b, ?_, k b m2 H' h2 ((f1.trans f2).trans f3) s3⟩⟩
    simpa only [Rep] using r3⟩
/-- a < b < c -/
def tChainT (f g : M → D → D → Option D) (ta tb tc : DTE) : DTT := fun env m Q => ta env m fun x m1 => tb env m1 fun y m2 => ∃ b, f m2 x y = some (.bl b) ∧
  if b = true then tc env m2 fun z m3 => ∃ c, g m3 y z = some (.bl c) ∧ Q c m3 else Q false m2
theorem dt_chain {op op' : CmpOp} {f g : M → D → D → Option D} {c : Expr} {tc : DTE} (ho : DOp X (compareOp op) f) (ho' : DOp X (compareOp op') g) (ha : DE X a ta) (hb : DE X b tb) (hc : DE X c tc)
    (hm : lastMarks [op, op'] [b, c] = false := by with_unfolding_all rfl) :
    DT X (.Compare a [op, op'] [b, c] pos) (tChainT f g ta tb tc) :=
  ⟨PT.weak (pt_chain ho ho' ha.run hb.run hc.run hm) fun σ H Q h => by
    obtain ⟨env, m, R, eo, s, h, k⟩ := h
    refine ⟨env, m, _, eo, s, h, fun x m1 v H1 h1 f1 s1 r1 => ?_⟩
    refine ⟨env, m1, _, eo.mono f1, s1, h1, fun y m2 u H2 h2 f2 s2 r2 => ?_⟩
    obtain ⟨b, e, h2⟩ := h2
    refine ⟨x, y, m2, .bl b, Rep.mono f2 _ _ r1, r2, s2, e, fun w H' f3 s3 r3 => ?_⟩
    have e3 : w = .bl b := by simpa only [Rep] using r3
    subst e3
    refine ⟨b, rfl, ?_⟩
    have f13 := (f1.trans f2).trans f3
    cases b with
    | false =>
      simp only [Bool.false_eq_true, if_false] at h2 ⊢
      exact ⟨false, rfl, k false m2 H' h2 f13 s3⟩
    | true =>
      simp only [if_true] at h2 ⊢
      refine ⟨env, m2, _, eo.mono f13, s3, h2, fun z m4 u4 H4 h4 f4 s4 r4 => ?_⟩
      obtain ⟨c, e4, h4⟩ := h4
      refine ⟨y, z, m4, .bl c, Rep.mono (f3.trans f4) _ _ r2, r4, s4, e4, fun w5 H5 f5 s5 r5 => ⟨c, ?_, k c m4 H5 h4 ((f13.trans f4).trans f5) s5⟩⟩
      simpa only [Rep] using r5⟩
theorem DOp.of {g : Value → Value → Sem Value} {f : M → D → D → Option D} {r : R2} (h : OpR X g r)
    (k : ∀ x y m d v u H Q, Cont X.K m H (look m x) v → Cont X.K m H (look m y) u → Rep X.K m H x v → Rep X.K m H y u → Sim X.K m H → f m x y = some d → (∀ w H', Fr m H m H' → Sim X.K m H' → Rep X.K m H' d w → Q w H') → r v u H Q) : DOp X g f :=
  opW h fun v u H Q ⟨x, y, m, d, rx, ry, s, e, q⟩ => k x y m d v u H Q (cont_of s rx) (cont_of s ry) rx ry s e q

/-! ### + - * // % ** -/
def dAdd (m : M) (x y : D) : Option D := match look m x, look m y with
  | .int i, .int j => some (.int (i + j))
  | .str i, .str j => if i.length + j.length ≤ sizeLine then some (.str (i ++ j)) else none
  | .lst i, .lst j => if i.length + j.length ≤ sizeLine then some (.lst (i ++ j)) else none
  | .tup i, .tup j => if i.length + j.length ≤ sizeLine then some (.tup (i ++ j)) else none
  | _, _ => none
theorem do_add : DOp X (binaryOp .Add) dAdd := by
  refine DOp.of (op_add.or (op_add_str.or (op_cat.or op_catA))) fun x y m d v u H Q cx cy rx ry s e q => ?_
  unfold dAdd at e
  generalize look m x = cX at cx e
  generalize look m y = cY at cy e
  split at e
  · cases e
    rw [cont_int cx, cont_int cy]
    exact .inl ⟨_, _, rfl, rfl, q _ _ Fr.refl s rep_int⟩
  · split at e
    · rename_i hl; cases e
      rw [cont_str cx, cont_str cy]
      exact .inr (.inl ⟨_, _, rfl, rfl, hl, q _ _ Fr.refl s rep_str⟩)
    · cases e
  · split at e
    · rename_i hl; cases e
      obtain ⟨a, vs, rfl, ha, r1⟩ := cont_lst cx
      obtain ⟨b, us, rfl, hb, r2⟩ := cont_lst cy
      exact .inr (.inr (.inl ⟨a, b, vs, us, rfl, rfl, ha, hb, by rw [← r1.length, ← r2.length]; exact hl, fun p hp => q _ _ (Fr.laid s hp) (s.laid hp) (new_lst s hp (r1.append r2))⟩))
    · cases e
  · split at e
    · rename_i hl; cases e
      obtain ⟨a, vs, rfl, ha, r1⟩ := cont_tup cx
      obtain ⟨b, us, rfl, hb, r2⟩ := cont_tup cy
      refine .inr (.inr (.inr ⟨a, b, vs, us, rfl, rfl, tupAt_sq ha, tupAt_sq hb, by rw [← r1.length, ← r2.length]; exact hl, fun hv => ?_, fun hv hu => ?_, fun hv hu p hp => q _ _ (Fr.laid s hp) (s.laid hp) (new_tup s hp (r1.append r2))⟩))
      · subst hv
        have z := r1.length
        rw [List.length_nil, List.length_eq_zero_iff] at z
        subst z
        exact q _ _ Fr.refl s (by simp only [List.nil_append, Rep]; exact ⟨b, us, rfl, hb, r2⟩)
      · subst hu
        have z := r2.length
        rw [List.length_nil, List.length_eq_zero_iff] at z
        subst z
        exact q _ _ Fr.refl s (by simp only [List.append_nil, Rep]; exact ⟨a, vs, rfl, ha, r1⟩)
    · cases e
  · cases e
def d2I (f : Int → Int → Option D) (m : M) (x y : D) : Option D := match look m x, look m y with
  | .int i, .int j => f i j
  | _, _ => none
theorem do_2I {g : Value → Value → Sem Value} {f : Int → Int → Option D} {C : Int → Int → Prop} {h : Int → Int → V} (ho : OpR X g (rI C h)) (k : ∀ i j d, f i j = some d → C i j ∧ ∀ m H, Rep X.K m H d (h i j)) : DOp X g (d2I f) := by
  refine DOp.of ho fun x y m d v u H Q cx cy rx ry s e q => ?_
  unfold d2I at e
  generalize look m x = cX at cx e
  generalize look m y = cY at cy e
  split at e
  · obtain ⟨c, r⟩ := k _ _ _ e
    rw [cont_int cx, cont_int cy]
    exact ⟨_, _, rfl, rfl, c, q _ _ Fr.refl s (r m H)⟩
  · cases e
theorem do_2I0 {g : Value → Value → Sem Value} {f : Int → Int → Option D} {h : Int → Int → V} (ho : OpR X g (rI0 h)) (k : ∀ i j d, f i j = some d → ∀ m H, Rep X.K m H d (h i j)) : DOp X g (d2I f) := by
  refine DOp.of ho fun x y m d v u H Q cx cy rx ry s e q => ?_
  unfold d2I at e
  generalize look m x = cX at cx e
  generalize look m y = cY at cy e
  split at e
  · rw [cont_int cx, cont_int cy]
    exact ⟨_, _, rfl, rfl, q _ _ Fr.refl s (k _ _ _ e m H)⟩
  · cases e
abbrev dSub := d2I fun i j => some (.int (i - j))
theorem do_sub : DOp X (binaryOp .Sub) dSub := do_2I0 op_sub fun i j d e m H => by cases e; exact rep_int
abbrev dMod := d2I fun i j => if 0 < j then some (.int (i % j)) else none
theorem do_mod : DOp X (binaryOp .Mod) dMod := do_2I op_mod fun i j d e => by
  split at e
  · cases e; exact ⟨by assumption, fun _ _ => rep_int⟩
  · cases e
abbrev dDiv := d2I fun i j => if 0 < j ∧ j < 1073741824 then some (.int (i / j)) else none
theorem do_div : DOp X (binaryOp .FloorDiv) dDiv := do_2I op_fdiv fun i j d e => by
  split at e
  · cases e; exact ⟨by assumption, fun _ _ => rep_int⟩
  · cases e
abbrev dPow := d2I fun i j => if 0 ≤ j ∧ j ≤ 1000000 ∧ i.natAbs < 2 ^ 64 then some (.int (i ^ j.toNat)) else none
theorem do_pow : DOp X (binaryOp .Pow) dPow := do_2I op_pow fun i j d e => by
  split at e
  · cases e; exact ⟨by assumption, fun _ _ => rep_int⟩
  · cases e
abbrev dShl := d2I fun i j => if 0 ≤ j ∧ j ≤ 1000000 ∧ i.natAbs < 2 ^ 64 then some (.int (i * 2 ^ j.toNat)) else none
theorem do_shl : DOp X (binaryOp .LShift) dShl := do_2I op_shl fun i j d e => by
  split at e
  · cases e; exact ⟨by assumption, fun _ _ => rep_int⟩
  · cases e
abbrev dShr := d2I fun i j => if 0 ≤ j then some (.int (i / 2 ^ j.toNat)) else none
theorem do_shr : DOp X (binaryOp .RShift) dShr := do_2I op_shr fun i j d e => by
  split at e
  · cases e; exact ⟨by assumption, fun _ _ => rep_int⟩
  · cases e
abbrev dAnd := d2I fun i j => some (.int (Builtin.bitAnd i j))
theorem do_and : DOp X (binaryOp .BitAnd) dAnd := do_2I0 op_and fun i j d e m H => by cases e; exact rep_int
abbrev dOr := d2I fun i j => some (.int (Builtin.bitOr i j))
theorem do_or : DOp X (binaryOp .BitOr) dOr := do_2I0 op_or fun i j d e m H => by cases e; exact rep_int
abbrev dXor := d2I fun i j => some (.int (Builtin.bitXor i j))
theorem do_xor : DOp X (binaryOp .BitXor) dXor := do_2I0 op_xor fun i j d e m H => by cases e; exact rep_int
end
end DL
/-! ### DL3: equality, membership, items, slices, conversions -/
namespace DL
open PySem PySem.Spec PyProof.Rows L2

mutual
def toPd : D → PyData
  | .non => .none
  | .bl b => .bool b
  | .int i => .int i
  | .str x => .str x
  | .tup xs => .tuple (toPdL xs)
  | .lst xs => .list (toPdL xs)
  | .dic _ _ => .none
  | .ins _ _ _ => .none
  | .ref _ => .none
  | .ty _ => .none
  | .scr _ => .none
  | .exc _ _ _ => .none
def toPdL : List D → List PyData
  | [] => []
  | d :: ds => toPd d :: toPdL ds
end
mutual
/-- data of at most this depth -/
def dat : Nat → D → Bool
  | _, .non => true
  | _, .bl _ => true
  | _, .int _ => true
  | _, .str x => PySem.PyData.strOk x
  | n + 1, .tup xs => datL n xs
  | n + 1, .lst xs => datL n xs
  | _, _ => false
def datL : Nat → List D → Bool
  | _, [] => true
  | n, d :: ds => dat n d && datL n ds
end
theorem toPdL_map (xs : List D) : toPdL xs = xs.map toPd := by
  induction xs with
  | nil => rfl
  | cons d ds ih => rw [List.map_cons, ← ih]; rfl
theorem datL_all (n : Nat) (xs : List D) : datL n xs = xs.all (dat n) := by
  induction xs with
  | nil => rfl
  | cons d ds ih => rw [List.all_cons, ← ih]; rfl
mutual
theorem dat_lay : ∀ (n : Nat) (d : D), dat n d = true → (toPd d).canLay0 = true ∧ (toPd d).depth ≤ n
  | n, .non, h => by simp [toPd, PyData.canLay0, PyData.depth]
  | n, .bl _, h => by simp [toPd, PyData.canLay0, PyData.depth]
  | n, .int _, h => by simp [toPd, PyData.canLay0, PyData.depth]
  | n, .str _, h => by simp only [dat] at h; simp [toPd, PyData.canLay0, PyData.depth, h]
  | n + 1, .tup xs, h => by
    simp only [dat] at h
    obtain ⟨h1, h2⟩ := dat_layL n xs h
    simp only [toPd, PyData.canLay0, PyData.depth]
    exact ⟨h1, by omega⟩
  | n + 1, .lst xs, h => by
    simp only [dat] at h
    obtain ⟨h1, h2⟩ := dat_layL n xs h
    simp only [toPd, PyData.canLay0, PyData.depth]
    exact ⟨h1, by omega⟩
  | 0, .tup xs, h => by simp only [dat] at h; cases h
  | 0, .lst xs, h => by simp only [dat] at h; cases h
  | n, .dic _ _, h => by cases n <;> simp only [dat] at h <;> cases h
  | n, .ins _ _ _, h => by cases n <;> simp only [dat] at h <;> cases h
  | n, .ref _, h => by cases n <;> simp only [dat] at h <;> cases h
  | n, .ty _, h => by cases n <;> simp only [dat] at h <;> cases h
  | n, .scr _, h => by cases n <;> simp only [dat] at h <;> cases h
theorem dat_layL : ∀ (n : Nat) (ds : List D), datL n ds = true → PyData.canLayAll0 (toPdL ds) = true ∧ PyData.depthAll (toPdL ds) ≤ n
  | n, [], h => by simp [toPdL, PyData.canLayAll0, PyData.depthAll]
  | n, d :: ds, h => by
    simp only [datL, Bool.and_eq_true] at h
    obtain ⟨h1, h2⟩ := dat_lay n d h.1
    obtain ⟨h3, h4⟩ := dat_layL n ds h.2
    simp only [toPdL, PyData.canLayAll0, PyData.depthAll, Bool.and_eq_true]
    exact ⟨⟨h1, h3⟩, by omega⟩
end
theorem dat_shaped {n : Nat} {d : D} (hn : n ≤ 64) (h : dat n d = true) : SeqAt.shaped (toPd d) = true := by
  obtain ⟨h1, h2⟩ := dat_lay n d h
  unfold SeqAt.shaped
  rw [h1, decide_eq_true (by omega)]; rfl
section
variable {K : PySem.W.Frag} {m : M} {H : Hp}
mutual
theorem rep_dp (s : Sim K m H) : ∀ (n : Nat) (d : D) (v : V), dat n d = true → Rep K m H d v → Dp K H v (toPd d)
  | n, .non, v, _, r => by simp only [Rep] at r; subst r; exact .non
  | n, .bl _, v, _, r => by simp only [Rep] at r; subst r; exact .bl _
  | n, .int _, v, _, r => by simp only [Rep] at r; subst r; exact .int _
  | n, .str _, v, _, r => by simp only [Rep] at r; subst r; exact .str _
  | n + 1, .tup xs, v, h, r => by
    simp only [dat] at h
    simp only [Rep] at r
    obtain ⟨a, vs, rfl, h1, h2⟩ := r
    exact .tup (tupAt_sq h1) (rep_dpL s n xs vs h h2)
  | n + 1, .lst xs, v, h, r => by
    simp only [dat] at h
    simp only [Rep] at r
    obtain ⟨a, vs, rfl, h1, h2⟩ := r
    exact .lst (.of h1.2) (rep_dpL s n xs vs h h2)
  | 0, .tup xs, _, h, _ => by simp only [dat] at h; cases h
  | 0, .lst xs, _, h, _ => by simp only [dat] at h; cases h
  | n, .dic _ _, _, h, _ => by cases n <;> simp only [dat] at h <;> cases h
  | n, .ins _ _ _, _, h, _ => by cases n <;> simp only [dat] at h <;> cases h
  | n, .ref _, _, h, _ => by cases n <;> simp only [dat] at h <;> cases h
  | n, .ty _, _, h, _ => by cases n <;> simp only [dat] at h <;> cases h
  | n, .scr _, _, h, _ => by cases n <;> simp only [dat] at h <;> cases h
theorem rep_dpL (s : Sim K m H) : ∀ (n : Nat) (ds : List D) (vs : List V), datL n ds = true → RepL K m H ds vs → DpAll K H vs (toPdL ds)
  | n, [], vs, _, r => by simp only [RepL] at r; subst r; exact .nil
  | n, d :: ds, vs, h, r => by
    simp only [datL, Bool.and_eq_true] at h
    simp only [RepL] at r
    obtain ⟨v, r', rfl, h1, h2⟩ := r
    exact .cons (rep_dp s n d v h.1 h1) (rep_dpL s n ds r' h.2 h2)
end
theorem cont_dp (s : Sim K m H) {n : Nat} {d : D} {v : V} (h : dat n d = true) (c : Cont K m H d v) : Dp K H v (toPd d) := by
  cases d with
  | lst xs =>
    obtain ⟨a, vs, rfl, h1, h2⟩ := c
    cases n with
    | zero => simp only [dat] at h; cases h
    | succ n => simp only [dat] at h; exact .lst (.of h1) (rep_dpL s n xs vs h h2)
  | dic _ _ => cases n <;> simp only [dat] at h <;> cases h
  | ins _ _ _ => cases n <;> simp only [dat] at h <;> cases h
  | tup xs => exact rep_dp s n _ v h c
  | _ => exact rep_dp s n _ v h c
end

def eqvD (x y : D) : Bool := PyData.eqv (toPd x) (toPd y)
def dEqB (x y : D) : Option Bool := match x, y with
  | .int i, .int j => some (decide (i = j))
  | .str i, .str j => some (decide (i = j))
  | .bl i, .bl j => some (decide (i = j))
  | .non, .non => some true
  | .non, .int _ => some false
  | .int _, .non => some false
  | .non, .str _ => some false
  | .str _, .non => some false
  | .non, .bl _ => some false
  | .bl _, .non => some false
  | .int _, .str _ => some false
  | .str _, .int _ => some false
  | .bl _, .str _ => some false
  | .str _, .bl _ => some false
  | x, y => if dat 60 x = true ∧ dat 60 y = true then some (eqvD x y) else none
def dEq (m : M) (x y : D) : Option D := (dEqB (look m x) (look m y)).map .bl
def dNe (m : M) (x y : D) : Option D := (dEqB (look m x) (look m y)).map fun b => .bl (!b)
section
variable {X : Cx}
theorem do_eqneg (hu : X.A.units + 65 < cLine) : DOp X (compareOp .Eq) dEq ∧ DOp X (compareOp .NotEq) dNe := by
  have main : ∀ (neg : Bool) (x y : D) (m : M) (d : D) (v u : V) (H : Hp) (Q : VK), Cont X.K m H (look m x) v → Cont X.K m H (look m y) u → Sim X.K m H →
      (dEqB (look m x) (look m y)).map (fun b => D.bl (neg ^^ b)) = some d → (∀ w H', Fr m H m H' → Sim X.K m H' → Rep X.K m H' d w → Q w H') →
      (scal v u = true ∧ Q (.bl (neg ^^ decide (v = u))) H) ∨ ∃ p q, Dp X.K H v p ∧ Dp X.K H u q ∧ SeqAt.shaped p = true ∧ SeqAt.shaped q = true ∧ Q (.bl (neg ^^ PyData.eqv p q)) H := by
    intro neg x y m d v u H Q cx cy s e q
    generalize look m x = cX at cx e
    generalize look m y = cY at cy e
    unfold dEqB at e
    split at e <;> (try (cases e))
    · rw [cont_int cx, cont_int cy]; exact .inl ⟨rfl, by simpa using q _ _ Fr.refl s rep_bl⟩
    · rw [cont_str cx, cont_str cy]; exact .inl ⟨rfl, by simpa using q _ _ Fr.refl s rep_bl⟩
    · rw [cont_bl cx, cont_bl cy]; exact .inl ⟨rfl, by simpa using q _ _ Fr.refl s rep_bl⟩
    · rw [cont_non cx, cont_non cy]; exact .inl ⟨rfl, by simpa using q _ _ Fr.refl s rep_bl⟩
    · rw [cont_non cx, cont_int cy]; exact .inl ⟨rfl, by simpa using q _ _ Fr.refl s rep_bl⟩
    · rw [cont_int cx, cont_non cy]; exact .inl ⟨rfl, by simpa using q _ _ Fr.refl s rep_bl⟩
    · rw [cont_non cx, cont_str cy]; exact .inl ⟨rfl, by simpa using q _ _ Fr.refl s rep_bl⟩
    · rw [cont_str cx, cont_non cy]; exact .inl ⟨rfl, by simpa using q _ _ Fr.refl s rep_bl⟩
    · rw [cont_non cx, cont_bl cy]; exact .inl ⟨rfl, by simpa using q _ _ Fr.refl s rep_bl⟩
    · rw [cont_bl cx, cont_non cy]; exact .inl ⟨rfl, by simpa using q _ _ Fr.refl s rep_bl⟩
    · rw [cont_int cx, cont_str cy]; exact .inl ⟨rfl, by simpa using q _ _ Fr.refl s rep_bl⟩
    · rw [cont_str cx, cont_int cy]; exact .inl ⟨rfl, by simpa using q _ _ Fr.refl s rep_bl⟩
    · rw [cont_bl cx, cont_str cy]; exact .inl ⟨rfl, by simpa using q _ _ Fr.refl s rep_bl⟩
    · rw [cont_str cx, cont_bl cy]; exact .inl ⟨rfl, by simpa using q _ _ Fr.refl s rep_bl⟩
    · split at e
      · rename_i h
        cases e
        exact .inr ⟨_, _, cont_dp s h.1 cx, cont_dp s h.2 cy, dat_shaped (by decide) h.1, dat_shaped (by decide) h.2, q _ _ Fr.refl s rep_bl⟩
      · cases e
  constructor
  · refine DOp.of (op_eq.or (op_eqD (by omega))) fun x y m d v u H Q cx cy rx ry s e q => ?_
    have := main false x y m d v u H Q cx cy s (by simpa [dEq] using e) q
    simpa only [Bool.false_xor, rEq, rEqD] using this
  · refine DOp.of (op_ne.or (op_neD (by omega))) fun x y m d v u H Q cx cy rx ry s e q => ?_
    have := main true x y m d v u H Q cx cy s (by simpa [dNe] using e) q
    simpa only [Bool.true_xor, rNe, rNeD] using this
theorem do_eq (hu : X.A.units + 65 < cLine) : DOp X (compareOp .Eq) dEq := (do_eqneg hu).1
theorem do_ne (hu : X.A.units + 65 < cLine) : DOp X (compareOp .NotEq) dNe := (do_eqneg hu).2

/-! ### order -/
def d2IB (f : Int → Int → Bool) (g : Str → Str → Bool) (m : M) (x y : D) : Option D := match look m x, look m y with
  | .int i, .int j => some (.bl (f i j))
  | .str i, .str j => some (.bl (g i j))
  | _, _ => none
theorem do_2IB {h : Value → Value → Sem Value} {f : Int → Int → Bool} {g : Str → Str → Bool} (ho : OpR X h (rI0 fun i j => .bl (f i j)))
    (hs : OpR X h (fun x y H Q => ∃ i j, x = .str i ∧ y = .str j ∧ Q (.bl (g i j)) H)) : DOp X h (d2IB f g) := by
  refine DOp.of (ho.or hs) fun x y m d v u H Q cx cy rx ry s e q => ?_
  unfold d2IB at e
  generalize look m x = cX at cx e
  generalize look m y = cY at cy e
  split at e
  · cases e; rw [cont_int cx, cont_int cy]; exact .inl ⟨_, _, rfl, rfl, q _ _ Fr.refl s rep_bl⟩
  · cases e; rw [cont_str cx, cont_str cy]; exact .inr ⟨_, _, rfl, rfl, q _ _ Fr.refl s rep_bl⟩
  · cases e
def ltS (i j : Str) : Bool := decide (i.cps.toList < j.cps.toList)
abbrev dLt := d2IB (fun i j => decide (i < j)) (fun i j => ltS i j)
abbrev dGt := d2IB (fun i j => decide (j < i)) (fun i j => ltS j i)
abbrev dLe := d2IB (fun i j => decide (i ≤ j)) (fun i j => !ltS j i)
abbrev dGe := d2IB (fun i j => decide (j ≤ i)) (fun i j => !ltS i j)
theorem do_lt : DOp X (compareOp .Lt) dLt := do_2IB op_lt op_lt_str
theorem do_gt : DOp X (compareOp .Gt) dGt := do_2IB op_gt op_gt_str
theorem do_le : DOp X (compareOp .LtE) dLe := do_2IB op_le op_le_str
theorem do_ge : DOp X (compareOp .GtE) dGe := do_2IB op_ge op_ge_str
/-! ### is -/
def dIs (m : M) (x y : D) : Option D := match x, y with
  | .non, .non => some (.bl true)
  | .bl a, .bl b => some (.bl (decide (a = b)))
  | x, .non => some (.bl false)
  | _, _ => none
def dIsNot (m : M) (x y : D) : Option D := match x, y with
  | .non, .non => some (.bl false)
  | .bl a, .bl b => some (.bl (!decide (a = b)))
  | x, .non => some (.bl true)
  | _, _ => none
theorem rep_ne_non {K : PySem.W.Frag} {m : M} {H : Hp} {x : D} {v : V} (r : Rep K m H x v) (h : x ≠ .non) : v ≠ .non := by
  intro e; subst e
  cases x with
  | non => exact h rfl
  | tup _ => simp only [Rep] at r; obtain ⟨_, _, e, _⟩ := r; cases e
  | lst _ => simp only [Rep] at r; obtain ⟨_, _, e, _⟩ := r; cases e
  | dic _ _ => simp only [Rep] at r; obtain ⟨_, _, e, _⟩ := r; cases e
  | ins _ _ _ => simp only [Rep] at r; obtain ⟨_, _, _, e, _⟩ := r; cases e
  | scr _ => simp only [Rep] at r; obtain ⟨_, e, _⟩ := r; cases e
  | exc _ _ _ => simp only [Rep] at r; obtain ⟨_, _, _, e, _⟩ := r; cases e
  | _ => simp only [Rep] at r; cases r
theorem do_is : DOp X (compareOp .Is) dIs := opW (op_isN.or op_isBl) fun v u H Q ⟨x, y, m, d, rx, ry, s, e, q⟩ => by
  unfold dIs at e
  split at e
  · cases e
    simp only [Rep] at rx ry; subst rx; subst ry
    exact .inl ⟨rfl, q _ _ Fr.refl s rep_bl⟩
  · cases e
    simp only [Rep] at rx ry; subst rx; subst ry
    exact .inr ⟨_, _, rfl, rfl, q _ _ Fr.refl s rep_bl⟩
  · rename_i h
    cases e
    simp only [Rep] at ry; subst ry
    refine .inl ⟨rfl, ?_⟩
    rw [decide_eq_false (rep_ne_non rx h)]
    exact q _ _ Fr.refl s rep_bl
  · cases e
theorem do_isnot : DOp X (compareOp .IsNot) dIsNot := opW (op_notN.or op_notBl) fun v u H Q ⟨x, y, m, d, rx, ry, s, e, q⟩ => by
  unfold dIsNot at e
  split at e
  · cases e
    simp only [Rep] at rx ry; subst rx; subst ry
    exact .inl ⟨rfl, q _ _ Fr.refl s rep_bl⟩
  · cases e
    simp only [Rep] at rx ry; subst rx; subst ry
    exact .inr ⟨_, _, rfl, rfl, q _ _ Fr.refl s rep_bl⟩
  · rename_i h
    cases e
    simp only [Rep] at ry; subst ry
    refine .inl ⟨rfl, ?_⟩
    rw [decide_eq_false (rep_ne_non rx h)]
    exact q _ _ Fr.refl s rep_bl
  · cases e
end
end DL
/-! ### DL4: membership, items, slices -/
namespace DL
open PySem PySem.Spec PyProof.Rows L2

def keyOf : D → Option Key
  | .int i => some (.inl i)
  | .str x => some (.inr x)
  | _ => none
theorem keyOf_eq {d : D} {k : Key} (h : keyOf d = some k) : d = kD k := by
  cases d <;> simp [keyOf] at h <;> subst h <;> rfl
theorem keyOf_kD (k : Key) : keyOf (kD k) = some k := by cases k <;> rfl
theorem kD_inj {a b : Key} (h : kD a = kD b) : a = b := by
  cases a <;> cases b <;> simp [kD] at h <;> subst h <;> rfl
theorem rep_kD {K : PySem.W.Frag} {m : M} {H : Hp} {k : Key} {v : V} (r : Rep K m H (kD k) v) : v = kV k := by
  cases k <;> simpa only [kD, Rep, kV] using r
/-- the value at a key -/
def dlook : List D → List D → Key → Option D
  | k :: ks, v :: vs, q => if keyOf k = some q then some v else dlook ks vs q
  | _, _, _ => none
/-- what a store makes of the keys, of the values -/
def isKey (q : Key) (k : D) : Bool := decide (keyOf k = some q)
def dputK (ks : List D) (q : Key) : List D := if ks.any (isKey q) = true then ks else ks ++ [kD q]
def dputV (ks vs : List D) (q : Key) (d : D) : List D := if ks.any (isKey q) = true then List.zipWith (fun k v => if isKey q k = true then d else v) ks vs else vs ++ [d]
section
variable {K : PySem.W.Frag} {m : M} {H : Hp}
theorem dlook_V : ∀ {kvs : List (Key × V)} {ds : List D}, RepL K m H ds (kvs.map (·.2)) → ∀ q : Key, (valV kvs q = none ∧ dlook (kvs.map fun kv => kD kv.1) ds q = none) ∨
    ∃ d v, dlook (kvs.map fun kv => kD kv.1) ds q = some d ∧ valV kvs q = some v ∧ Rep K m H d v
  | [], ds, r, q => by
    left
    cases ds with
    | nil => simp [dlook, valV]
    | cons d ds => simp [dlook, valV]
  | kv :: kvs, ds, r, q => by
    cases ds with
    | nil => simp only [List.map_cons, RepL] at r; cases r
    | cons d ds =>
      simp only [List.map_cons, RepL] at r
      obtain ⟨v, r', e, h1, h2⟩ := r
      cases e
      simp only [List.map_cons, dlook, keyOf_kD, Option.some.injEq]
      by_cases hq : kv.1 = q
      · right
        simp only [hq, if_true]
        exact ⟨d, kv.2, rfl, valV_pos hq, h1⟩
      · simp only [hq, if_false]
        rw [valV_neg hq]
        exact dlook_V h2 q
theorem any_isKey (q : Key) : ∀ kvs : List (Key × V), (kvs.any fun kv => decide (kv.1 = q)) = (kvs.map fun kv => kD kv.1).any (isKey q)
  | [] => rfl
  | kv :: kvs => by
    have e : isKey q (kD kv.1) = decide (kv.1 = q) := by unfold isKey; rw [keyOf_kD]; simp
    rw [List.any_cons, List.map_cons, List.any_cons, any_isKey q kvs, e]
theorem putK_map (q : Key) (v : V) (kvs : List (Key × V)) : (putK kvs q v).map (fun kv => kD kv.1) = dputK (kvs.map fun kv => kD kv.1) q := by
  unfold putK dputK
  rw [any_isKey q kvs]
  split
  · rw [List.map_map]
    refine List.map_congr_left fun kv hk => ?_
    simp only [Function.comp]
    split <;> rfl
  · rw [List.map_append]; rfl
theorem putV_rep (q : Key) {v : V} {d : D} (rd : Rep K m H d v) (kvs : List (Key × V)) (ds : List D) (r : RepL K m H ds (kvs.map (·.2))) :
    RepL K m H (dputV (kvs.map fun kv => kD kv.1) ds q d) ((putK kvs q v).map (·.2)) := by
  unfold putK dputV
  rw [any_isKey q kvs]
  split
  · rename_i hh; clear hh
    induction kvs generalizing ds with
    | nil => simp [RepL]
    | cons kv kvs ih =>
      cases ds with
      | nil => simp only [List.map_cons, RepL] at r; cases r
      | cons d0 ds =>
        simp only [List.map_cons, RepL] at r
        obtain ⟨v0, r', e, h1, h2⟩ := r
        cases e
        have e : isKey q (kD kv.1) = decide (kv.1 = q) := by unfold isKey; rw [keyOf_kD]; simp
        simp only [List.map_cons, List.zipWith_cons_cons, e]
        refine .cons ?_ (ih ds h2)
        by_cases hq : kv.1 = q
        · simpa [hq] using rd
        · simpa [hq] using h1
  · rw [List.map_append]
    exact r.snoc rd
end

def flatD : D → Bool
  | .non => true
  | .bl _ => true
  | .int _ => true
  | .str _ => true
  | _ => false
theorem flat_V {K : PySem.W.Frag} {m : M} {H : Hp} {d : D} {v : V} (h : flatD d = true) (r : Rep K m H d v) : flatV v = true ∧ ∀ {d' : D} {v' : V}, flatD d' = true → Rep K m H d' v' → eqV v v' = eqvD d d' := by
  cases d with
  | non | bl _ | int _ | str _ =>
    simp only [Rep] at r; subst r
    refine ⟨rfl, fun {d' v'} h' r' => ?_⟩
    cases d' with
    | non | bl _ | int _ | str _ => simp only [Rep] at r'; subst r'; simp [eqV, eqvD, toPd, PyData.eqv]
    | _ => cases h'
  | _ => cases h
theorem flat_inV {K : PySem.W.Frag} {m : M} {H : Hp} {x : D} {v : V} (hx : flatD x = true) (rx : Rep K m H x v) : ∀ {ds : List D} {vs : List V}, ds.all flatD = true → RepL K m H ds vs →
    vs.all flatV = true ∧ inV v vs = ds.any fun y => eqvD y x
  | [], vs, _, r => by simp only [RepL] at r; subst r; exact ⟨rfl, rfl⟩
  | d :: ds, vs, h, r => by
    simp only [RepL] at r
    obtain ⟨u, r', rfl, h1, h2⟩ := r
    simp only [List.all_cons, Bool.and_eq_true] at h
    obtain ⟨i1, i2⟩ := flat_inV hx rx h.2 h2
    obtain ⟨f1, f2⟩ := flat_V h.1 h1
    refine ⟨by simp [f1, i1], ?_⟩
    unfold inV at i2 ⊢
    simp only [List.any_cons, i2, f2 hx rx]
def strIn (x z : Str) : Bool := !(Builtin.Str.occurrences z x 0 z.length 1).isEmpty
def dInB (m : M) (x y : D) : Option Bool := match look m y with
  | .lst ds => if (flatD x = true ∧ ds.all flatD = true) ∨ (dat 60 x = true ∧ datL 59 ds = true) then some (ds.any fun y => eqvD y x) else none
  | .tup ds => if (flatD x = true ∧ ds.all flatD = true) ∨ (dat 60 x = true ∧ datL 59 ds = true) then some (ds.any fun y => eqvD y x) else none
  | .dic ks vs => (keyOf x).map fun k => (dlook ks vs k).isSome
  | .str z => match x with
    | .str a => some (strIn a z)
    | _ => none
  | _ => none
def dIn (m : M) (x y : D) : Option D := (dInB m x y).map .bl
def dNotIn (m : M) (x y : D) : Option D := (dInB m x y).map fun b => .bl (!b)
section
variable {X : Cx}
def rInT (K : PySem.W.Frag) (neg : Bool) : R2 := fun x y H Q => ∃ d ds, Dp K H x d ∧ (Dp K H y (.tuple ds) ∨ Dp K H y (.list ds)) ∧ SeqAt.shaped d = true ∧ SeqAt.shaped (.list ds) = true ∧ Q (.bl (neg ^^ ds.any fun z => PyData.eqv z d)) H
theorem shaped_tl {ds : List PyData} (h : SeqAt.shaped (.list ds) = true) : SeqAt.shaped (.tuple ds) = true := by
  unfold SeqAt.shaped at h ⊢
  exact h
theorem op_inT (hu : X.A.units + 65 < cLine) : OpR X (compareOp .In) (rInT X.K false) := by
  intro pins s σ H x y v u Q I rx ry h
  obtain ⟨d, ds, hd, he, sd, se, q⟩ := h
  simp only [Bool.false_xor] at q
  obtain ⟨as, r1⟩ := Dp.reads I d x v hd rx
  rcases he with he | he
  · obtain ⟨bs, r2⟩ := Dp.reads I (.tuple ds) y u he ry
    exact SeqAt.in_tuple_reads r2 r1 (SeqAt.canLay_of_shaped se) (SeqAt.canLay_of_shaped sd) (PyProof.Rows.room_in_shaped sd hu) ⟨.bl _, H, I, rfl, q⟩
  · obtain ⟨bs, r2⟩ := Dp.reads I (.list ds) y u he ry
    exact SeqAt.in_list_reads r2 r1 (SeqAt.canLay_of_shaped se) (SeqAt.canLay_of_shaped sd) (PyProof.Rows.room_in_shaped sd hu) ⟨.bl _, H, I, rfl, q⟩
theorem op_notInT (hu : X.A.units + 65 < cLine) : OpR X (compareOp .NotIn) (rInT X.K true) := by
  intro pins s σ H x y v u Q I rx ry h
  obtain ⟨d, ds, hd, he, sd, se, q⟩ := h
  simp only [Bool.true_xor] at q
  obtain ⟨as, r1⟩ := Dp.reads I d x v hd rx
  rcases he with he | he
  · obtain ⟨bs, r2⟩ := Dp.reads I (.tuple ds) y u he ry
    exact SeqAt.notIn_tuple_reads r2 r1 (SeqAt.canLay_of_shaped se) (SeqAt.canLay_of_shaped sd) (PyProof.Rows.room_in_shaped sd hu) ⟨.bl _, H, I, rfl, q⟩
  · obtain ⟨bs, r2⟩ := Dp.reads I (.list ds) y u he ry
    exact SeqAt.notIn_list_reads r2 r1 (SeqAt.canLay_of_shaped se) (SeqAt.canLay_of_shaped sd) (PyProof.Rows.room_in_shaped sd hu) ⟨.bl _, H, I, rfl, q⟩
def rInDict (neg : Bool) : R2 := fun x y H Q => ∃ a o, y = .ref a ∧ DGet H a x o ∧ Q (.bl (neg ^^ o.isSome)) H
theorem op_inDict (hu : X.A.units + 65 < cLine) : OpR X (compareOp .In) (rInDict false) := by
  intro pins s σ H x y v u Q I rx ry h
  obtain ⟨a, o, rfl, g, q⟩ := h
  cases ry
  simp only [Bool.false_xor] at q
  exact d_in (by omega) I g rx fun s' I' => ⟨.bl _, H, I', rfl, q⟩
theorem op_notInDict (hu : X.A.units + 65 < cLine) : OpR X (compareOp .NotIn) (rInDict true) := by
  intro pins s σ H x y v u Q I rx ry h
  obtain ⟨a, o, rfl, g, q⟩ := h
  cases ry
  simp only [Bool.true_xor] at q
  exact d_notIn (by omega) I g rx fun s' I' => ⟨.bl _, H, I', rfl, q⟩
theorem datL_shaped {ds : List D} (h : datL 59 ds = true) : SeqAt.shaped (.list (toPdL ds)) = true := by
  have := dat_shaped (n := 60) (d := .lst ds) (by decide) (by simpa only [dat] using h)
  simpa only [toPd] using this
theorem in_main (neg : Bool) {x y : D} {m : M} {b : Bool} {v u : V} {H : Hp} {Q : VK} (cy : Cont X.K m H (look m y) u) (rx : Rep X.K m H x v) (s : Sim X.K m H) (e : dInB m x y = some b) (q : Q (.bl (neg ^^ b)) H) :
    rIn X.K neg v u H Q ∨ rInT X.K neg v u H Q ∨ rInDict neg v u H Q ∨ ∃ i j, v = .str i ∧ u = .str j ∧ Q (.bl (neg ^^ strIn i j)) H := by
  unfold dInB at e
  generalize look m y = cY at cy e
  have seq : ∀ (ds : List D) (p : Addr) (vs : List V), u = .ref p → (SqL X.K H p vs ∨ SqT X.K H p vs) → RepL X.K m H ds vs →
      ((flatD x = true ∧ ds.all flatD = true) ∨ (dat 60 x = true ∧ datL 59 ds = true)) → b = (ds.any fun y => eqvD y x) → rIn X.K neg v u H Q ∨ rInT X.K neg v u H Q := by
    intro ds p vs hu hs r hc hb
    rcases hc with ⟨h1, h2⟩ | ⟨h1, h2⟩
    · obtain ⟨f1, f2⟩ := flat_inV h1 rx h2 r
      refine .inl ⟨p, vs, hu, hs, (flat_V h1 rx).1, f1, ?_⟩
      rw [f2, ← hb]
      cases neg <;> simpa using q
    · refine .inr ⟨toPd x, toPdL ds, rep_dp s 60 x v h1 rx, ?_, dat_shaped (by decide) h1, datL_shaped h2, ?_⟩
      · subst hu
        rcases hs with z | z
        · exact .inr (.lst z (rep_dpL s 59 ds vs h2 r))
        · exact .inl (.tup z (rep_dpL s 59 ds vs h2 r))
      · have e1 : ((toPdL ds).any fun z => PyData.eqv z (toPd x)) = b := by
          rw [hb, toPdL_map, List.any_map]; rfl
        rw [e1]
        exact q
  split at e
  · split at e
    · cases e
      obtain ⟨p, vs, hu, hp, r⟩ := cont_lst cy
      exact (seq _ p vs hu (.inl (.of hp)) r (by assumption) rfl).elim .inl fun z => .inr (.inl z)
    · cases e
  · split at e
    · cases e
      obtain ⟨p, vs, hu, hp, r⟩ := cont_tup cy
      exact (seq _ p vs hu (.inr (tupAt_sq hp)) r (by assumption) rfl).elim .inl fun z => .inr (.inl z)
    · cases e
  · rename_i ks vs
    cases ek : keyOf x with
    | none => rw [ek] at e; cases e
    | some k =>
      rw [ek] at e
      simp only [Option.map_some, Option.some.injEq] at e
      have ex := keyOf_eq ek
      subst ex
      have ev := rep_kD rx
      subst ev
      obtain ⟨a, ws, rfl, ⟨kvs, hd, rfl, rfl⟩, r⟩ := cont_dic cy
      refine .inr (.inr (.inl ⟨a, valV kvs k, rfl, .inl ⟨kvs, k, hd, rfl, rfl⟩, ?_⟩))
      rcases dlook_V r k with ⟨h1, h2⟩ | ⟨d, v, h1, h2, _⟩
      · rw [h1]; rw [h2] at e; subst e; exact q
      · rw [h2]; rw [h1] at e; subst e; exact q
  · split at e
    · cases e
      simp only [Rep] at rx
      exact .inr (.inr (.inr ⟨_, _, rx, cont_str cy, q⟩))
    · cases e
  · cases e
theorem do_in (hu : X.A.units + 65 < cLine) : DOp X (compareOp .In) dIn := by
  refine DOp.of (op_in_seq.or ((op_inT hu).or ((op_inDict hu).or op_in_str))) fun x y m d v u H Q cx cy rx ry s e q => ?_
  unfold dIn at e
  cases eb : dInB m x y with
  | none => rw [eb] at e; cases e
  | some b =>
    rw [eb] at e; cases e
    have := in_main (neg := false) (Q := Q) cy rx s eb (by simpa using q _ _ Fr.refl s rep_bl)
    simpa only [strIn, Bool.false_xor] using this
theorem do_notin (hu : X.A.units + 65 < cLine) : DOp X (compareOp .NotIn) dNotIn := by
  refine DOp.of (op_notIn_seq.or ((op_notInT hu).or ((op_notInDict hu).or op_notIn_str))) fun x y m d v u H Q cx cy rx ry s e q => ?_
  unfold dNotIn at e
  cases eb : dInB m x y with
  | none => rw [eb] at e; cases e
  | some b =>
    rw [eb] at e; cases e
    have := in_main (neg := true) (Q := Q) cy rx s eb (by simpa using q _ _ Fr.refl s rep_bl)
    simpa only [strIn, Bool.true_xor] using this

/-! ### items -/
def dIx (m : M) (x y : D) : Option D := match look m x with
  | .lst ds => match look m y with
    | .int i => atI ds i
    | _ => none
  | .tup ds => match look m y with
    | .int i => atI ds i
    | _ => none
  | .str z => match look m y with
    | .int i => if z.length ≤ sizeLine then (atI z.cps.toList i).map fun c => .str ⟨#[c]⟩ else none
    | _ => none
  | .dic ks vs => (keyOf y).bind fun k => dlook ks vs k
  | _ => none
theorem ix_dict (hu : X.A.units + 65 < cLine) : IxR X (fun x y H Q => ∃ a v, x = .ref a ∧ DGet H a y (some v) ∧ Q v H) := by
  intro value slice pins s σ H x y v u Q I rx ry h hs
  obtain ⟨a, z, rfl, g, q⟩ := h
  cases rx
  have hT := dict_typeIs I g
  unfold subscriptTail
  refine wpAny_bind ?_
  rw [getitemInPython_of_ne hT.not_modules]
  refine wpAny_bind (wpAny_specialOf hT PySem.F.slot_dict_getitem.lookup ?_)
  have fin : wpAny (model X.prog X.w) X.A (subscripted slice false (.ref a) u) (fun r s₃ => wpAny (model X.prog X.w) X.A (letTemporaryGo value (.ref a) r >>= fun _ => pure r) (EP X pins σ Q) X.xe s₃) X.xe s := by
    rw [hs]
    exact wpAny_operating (wpAny_mono (d_getItem (Q := EP X pins σ Q) (by omega) I g ry fun w' s3 I3 rw' => ⟨z, H, I3, rw', q⟩) (fun r s₃ h₃ => wpAny_bind (wpAny_letTemporaryGo (wpAny_pure h₃))) fun _ _ x => x)
  first
    | exact wpAny_pure (wpAny_bind fin)
    | exact wpAny_bind (wpAny_pure (wpAny_bind fin))
    | exact wpAny_bind fin
theorem repL_atI {K : PySem.W.Frag} {m : M} {H : Hp} {ds : List D} {vs : List V} {i : Int} {d : D} (r : RepL K m H ds vs) (e : atI ds i = some d) : ∃ v, atI vs i = some v ∧ Rep K m H d v := by
  unfold atI at e ⊢
  rw [← r.length]
  cases h : ixN ds.length i with
  | none => rw [h] at e; cases e
  | some j =>
    rw [h] at e
    exact r.get e
theorem ixW {r r' : R2} (h : IxR X r) (k : ∀ x y H Q, r' x y H Q → r x y H Q) : IxR X r' := fun value slice pins s σ H x y v u Q I rx ry q hs => h value slice pins s σ H x y v u Q I rx ry (k _ _ _ _ q) hs
theorem ix_main (hu : X.A.units + 65 < cLine) : IxR X (liftOp X.K dIx) := ixW (ix_seq.or (ix_dict hu)) fun v u H Q ⟨x, y, m, d, rx, ry, s, e, q⟩ => by
  have cx := cont_of s rx
  have cy := cont_of s ry
  unfold dIx at e
  generalize look m x = cX at cx e
  split at e
  · split at e
    · rename_i ey
      rw [ey] at cy
      obtain ⟨p, vs, rfl, hp, r⟩ := cont_lst cx
      obtain ⟨w, h1, h2⟩ := repL_atI r e
      exact .inl (.inl ⟨p, vs, _, w, rfl, cont_int cy, .of hp, h1, q _ _ Fr.refl s h2⟩)
    · cases e
  · split at e
    · rename_i ey
      rw [ey] at cy
      obtain ⟨p, vs, rfl, hp, r⟩ := cont_tup cx
      obtain ⟨w, h1, h2⟩ := repL_atI r e
      exact .inl (.inr (.inl ⟨p, vs, _, w, rfl, cont_int cy, tupAt_sq hp, h1, q _ _ Fr.refl s h2⟩))
    · cases e
  · split at e
    · rename_i ey
      rw [ey] at cy
      split at e
      · rename_i hz
        obtain ⟨c, ec, rfl⟩ := Option.map_eq_some_iff.mp e
        exact .inl (.inr (.inr ⟨_, _, c, cont_str cx, cont_int cy, hz, ec, q _ _ Fr.refl s rep_str⟩))
      · cases e
    · cases e
  · cases ek : keyOf y with
    | none => rw [ek] at e; cases e
    | some k =>
      rw [ek] at e
      simp only [Option.bind_some] at e
      have ex := keyOf_eq ek
      subst ex
      have ev := rep_kD ry
      subst ev
      obtain ⟨a, ws, rfl, ⟨kvs, hd, rfl, rfl⟩, r⟩ := cont_dic cx
      rcases dlook_V r k with ⟨h1, h2⟩ | ⟨d', v, h1, h2, h3⟩
      · rw [h2] at e; cases e
      · rw [h1] at e; cases e
        exact .inr ⟨a, v, rfl, .inl ⟨kvs, k, hd, rfl, h2.symm⟩, q _ _ Fr.refl s h3⟩
  · cases e
theorem de_ix {a b : Expr} {ta tb : DTE} {pos : Pos} (hu : X.A.units + 65 < cLine) (ha : DE X a ta) (hb : DE X b tb) (hs : PlainIx b := by exact fun _ _ => rfl) : DE X (.Subscript a b pos) (tBin dIx ta tb) :=
  ⟨PE.weak (pe_ix (ix_main hu) ha.run hb.run hs) fun _ _ _ h => bin_lift h⟩

/-! ### slices -/
def cutD {α : Type} (xs : List α) (lo hi : Option Int) : List α := (xs.drop (HT.sIx xs.length 0 lo)).take (HT.sIx xs.length xs.length hi - HT.sIx xs.length 0 lo)
theorem cutD_map {α β : Type} (f : α → β) (ns : List α) (lo hi : Option Int) : (cutD ns lo hi).map f = cutD (ns.map f) lo hi := by
  unfold cutD; simp [List.map_take, List.map_drop]
theorem cutD_whole {α : Type} {ds : List α} {n : Nat} {lo hi : Option Int} (hl : ds.length = n) (h1 : HT.sIx n 0 lo = 0) (h2 : HT.sIx n n hi = n) : cutD ds lo hi = ds := by
  unfold cutD
  rw [hl, h1, h2]
  simp only [List.drop_zero, Nat.sub_zero]
  rw [← hl, List.take_length]
theorem cutD_rep {K : PySem.W.Frag} {m : M} {H : Hp} {ds : List D} {vs : List V} (r : RepL K m H ds vs) (lo hi : Option Int) : RepL K m H (cutD ds lo hi) (cutV vs lo hi) := by
  unfold cutD cutV
  rw [← r.length]
  exact (r.drop _).take _
def dSl (m : M) (x : D) (lo hi : Option Int) : Option D := match look m x with
  | .lst ds => some (.lst (cutD ds lo hi))
  | .tup ds => some (.tup (cutD ds lo hi))
  | .scr ns => some (.lst ((cutD ns lo hi).map .int))
  | .str z => if z.length ≤ sizeLine then some (.str (cutS z lo hi)) else none
  | _ => none
def liftSl (K : PySem.W.Frag) : V → Option Int → Option Int → Hp → VK → Prop := fun v lo hi H Q => ∃ x m d, Rep K m H x v ∧ Sim K m H ∧ dSl m x lo hi = some d ∧ ∀ w H', Fr m H m H' → Sim K m H' → Rep K m H' d w → Q w H'
theorem slW {r r' : V → Option Int → Option Int → Hp → VK → Prop} (h : SlR X r) (k : ∀ x lo hi H Q, r' x lo hi H Q → r x lo hi H Q) : SlR X r' := fun pins s σ H x v vl vu lo hi sl Q I rx hs pl pu q => h pins s σ H x v vl vu lo hi sl Q I rx hs pl pu (k _ _ _ _ _ q)
theorem sl_main : SlR X (liftSl X.K) := slW (sl_list.or (sl_tupA.or sl_str)) fun v lo hi H Q ⟨x, m, d, rx, s, e, q⟩ => by
  have cx := cont_of s rx
  unfold dSl at e
  generalize look m x = cX at cx e
  split at e
  · cases e
    obtain ⟨p, vs, rfl, hp, r⟩ := cont_lst cx
    exact .inl ⟨p, vs, rfl, .of hp, fun p' hp' => q _ _ (Fr.laid s hp') (s.laid hp') (new_lst s hp' (cutD_rep r lo hi))⟩
  · cases e
    obtain ⟨p, vs, rfl, hp, r⟩ := cont_tup cx
    refine .inr (.inl ⟨p, vs, rfl, tupAt_sq hp, fun ⟨h1, h2⟩ => ?_, fun _ p' hp' => q _ _ (Fr.laid s hp') (s.laid hp') (new_tup s hp' (cutD_rep r lo hi))⟩)
    refine q _ _ Fr.refl s ?_
    rw [cutD_whole r.length h1 h2]
    simp only [Rep]
    exact ⟨p, vs, rfl, hp, r⟩
  · cases e
    obtain ⟨a, rfl, h⟩ := cont_scr cx
    refine .inl ⟨a, _, rfl, h, fun p' hp' => q _ _ (Fr.laid s hp') (s.laid hp') ?_⟩
    rw [cutD_map]
    exact new_lst s hp' (cutD_rep (RepL.map_int _) lo hi)
  · split at e
    · rename_i hz; cases e
      exact .inr (.inr ⟨_, cont_str cx, hz, q _ _ Fr.refl s rep_str⟩)
    · cases e
  · cases e
abbrev DTO := Env → M → (Option Int → M → Prop) → Prop
def liftO (K : PySem.W.Frag) (t : DTO) : TO := fun σ H Q => ∃ env m R, EnvOk K m H σ env ∧ Sim K m H ∧ t env m R ∧ ∀ o m' H', R o m' → Fr m H m' H' → Sim K m' H' → Q o H'
structure DO (X : Cx) (e : Option Expr) (t : DTO) : Prop where run : PO X e (liftO X.K t)
theorem PO.weak {e : Option Expr} {t t' : TO} (h : PO X e t) (k : ∀ σ H Q, t' σ H Q → t σ H Q) : PO X e t' := ⟨fun pins s σ H Q I q => h.run pins s σ H Q I (k σ H Q q)⟩
def tON : DTO := fun _ m Q => Q none m
def tOS (te : DTE) : DTO := fun env m Q => te env m fun d m1 => ∃ i, look m1 d = .int i ∧ Q (some i) m1
theorem do_none : DO X none tON := ⟨PO.weak po_none fun σ H Q h => by
  obtain ⟨env, m, R, eo, s, h, k⟩ := h
  exact k none m H h Fr.refl s⟩
theorem do_some {e : Expr} {te : DTE} (h : DE X e te) : DO X (some e) (tOS te) := ⟨PO.weak (po_some h.run) fun σ H Q h => by
  obtain ⟨env, m, R, eo, s, h, k⟩ := h
  refine ⟨env, m, _, eo, s, h, fun d m1 v H1 h1 f1 s1 r1 => ?_⟩
  obtain ⟨i, e, h1⟩ := h1
  have c := cont_of s1 r1
  rw [e] at c
  exact ⟨i, cont_int c, k (some i) m1 H1 h1 f1 s1⟩⟩
def tSlD (te : DTE) (tl th : DTO) : DTE := fun env m Q => te env m fun x m1 => tl env m1 fun lo m2 => th env m2 fun hi m3 => ∃ d, dSl m3 x lo hi = some d ∧ Q d m3
theorem de_slice {e : Expr} {lo hi : Option Expr} {te : DTE} {tl th : DTO} {p2 pos : Pos} (he : DE X e te) (hl : DO X lo tl) (hh : DO X hi th) : DE X (.Subscript e (.Slice lo hi none p2) pos) (tSlD te tl th) :=
  ⟨PE.weak (pe_slice sl_main he.run hl.run hh.run) fun σ H Q h => by
    obtain ⟨env, m, R, eo, s, h, k⟩ := h
    refine ⟨env, m, _, eo, s, h, fun x m1 v H1 h1 f1 s1 r1 => ?_⟩
    refine ⟨env, m1, _, eo.mono f1, s1, h1, fun lo m2 H2 h2 f2 s2 => ?_⟩
    refine ⟨env, m2, _, eo.mono (f1.trans f2), s2, h2, fun hi m3 H3 h3 f3 s3 => ?_⟩
    obtain ⟨d, e, h3⟩ := h3
    exact ⟨x, m3, d, Rep.mono (f2.trans f3) _ _ r1, s3, e, fun w H' f4 s4 r4 => k d m3 w H' h3 (((f1.trans f2).trans f3).trans f4) s4 r4⟩⟩
end
end DL
/-! ### DL5: tests, displays, statements, loops -/
namespace DL
open PySem PySem.Spec PyProof.Rows L2

section
variable {X : Cx} {e a b : Expr} {es rest : List Expr} {te ta tb : DTE} {pos : Pos}
/-! arguments, displays -/
def tA0 : DTA := fun _ m Q => Q [] m
def tAC (ta : DTE) (tr : DTA) : DTA := fun env m Q => ta env m fun d m1 => tr env m1 fun ds m2 => Q (d :: ds) m2
theorem da_nil : DA X [] tA0 := ⟨PA.weak pa_nil fun σ H Q h => by
  obtain ⟨env, m, R, eo, s, h, k⟩ := h
  exact k [] m [] H h Fr.refl s .nil⟩
theorem da_cons {tr : DTA} (ha : DE X e ta) (hr : DA X es tr) (hs : starEach (e :: es) X.env = (false, eval e X.env) :: starEach es X.env := by rfl) : DA X (e :: es) (tAC ta tr) := ⟨PA.weak (pa_cons ha.run hr.run hs) fun σ H Q h => by
  obtain ⟨env, m, R, eo, s, h, k⟩ := h
  refine ⟨env, m, _, eo, s, h, fun d m1 v H1 h1 f1 s1 r1 => ?_⟩
  refine ⟨env, m1, _, eo.mono f1, s1, h1, fun ds m2 vs H2 h2 f2 s2 r2 => ?_⟩
  exact k (d :: ds) m2 (v :: vs) H2 h2 (f1.trans f2) s2 (.cons (Rep.mono f2 _ _ r1) r2)⟩
def tTupD (t : DTA) : DTE := fun env m Q => t env m fun ds m1 => ds.length ≤ sizeLine ∧ Q (.tup ds) m1
def tLstD (t : DTA) : DTE := fun env m Q => t env m fun ds m1 => ds.length ≤ sizeLine ∧ Q (.lst ds) m1
def tLstM (t : DTA) : DTE := fun env m Q => t env m fun ds m1 => ds.length ≤ sizeLine ∧ ∀ p, m1 p = none → Q (.ref p) (updM m1 p (.lst ds))
theorem de_tup {x1 : Nat} {t : DTA} (h : DA X es t) : DE X (.Tuple es x1 pos) (tTupD t) := ⟨PE.weak (pe_tup h.run) fun σ H Q h => by
  obtain ⟨env, m, R, eo, s, h, k⟩ := h
  refine ⟨env, m, _, eo, s, h, fun ds m1 vs H1 h1 f1 s1 r1 => ?_⟩
  obtain ⟨hl, h1⟩ := h1
  exact ⟨by rw [← r1.length]; exact hl, fun p hp => k _ m1 _ _ h1 (f1.trans (Fr.laid s1 hp)) (s1.laid hp) (new_tup s1 hp r1)⟩⟩
theorem de_lst {t : DTA} (h : DA X es t) : DE X (.List es pos) (tLstD t) := ⟨PE.weak (pe_lst h.run) fun σ H Q h => by
  obtain ⟨env, m, R, eo, s, h, k⟩ := h
  refine ⟨env, m, _, eo, s, h, fun ds m1 vs H1 h1 f1 s1 r1 => ?_⟩
  obtain ⟨hl, h1⟩ := h1
  exact ⟨by rw [← r1.length]; exact hl, fun p hp => k _ m1 _ _ h1 (f1.trans (Fr.laid s1 hp)) (s1.laid hp) (new_lst s1 hp r1)⟩⟩
theorem de_lstM {t : DTA} (h : DA X es t) : DE X (.List es pos) (tLstM t) := ⟨PE.weak (pe_lst h.run) fun σ H Q h => by
  obtain ⟨env, m, R, eo, s, h, k⟩ := h
  refine ⟨env, m, _, eo, s, h, fun ds m1 vs H1 h1 f1 s1 r1 => ?_⟩
  obtain ⟨hl, h1⟩ := h1
  exact ⟨by rw [← r1.length]; exact hl, fun p hp => k _ _ _ _ (h1 p (s1.free hp)) (f1.trans (Fr.laidM s1 hp)) (new_lstM s1 hp r1) rep_ref⟩⟩
/-- a mutable object from now on a tree -/
def tFrz (te : DTE) : DTE := fun env m Q => te env m fun d m1 => match d with
  | .ref p => ∃ c, m1 p = some c ∧ Q c (delM m1 p)
  | d => Q d m1
theorem de_frz (h : DE X e te) : DE X e (tFrz te) := ⟨PE.weak h.run fun σ H Q h => by
  obtain ⟨env, m, R, eo, s, h, k⟩ := h
  refine ⟨env, m, _, eo, s, h, fun d m1 v H1 h1 f1 s1 r1 => ?_⟩
  split at h1
  · obtain ⟨c, e, h1⟩ := h1
    simp only [Rep] at r1
    subst r1
    exact k c _ _ H1 h1 (f1.trans Fr.frozen) s1.frozen (rep_frozen s1 e)
  · exact k _ m1 v H1 h1 f1 s1 r1⟩

/-! tests -/
def dTru : D → Option Bool
  | .non => some false
  | .bl b => some b
  | .int i => some (i != 0)
  | .str x => if x.length ≤ sizeLine then some ((x.length : Int) != 0) else none
  | .lst ds => some (!ds.isEmpty)
  | .tup ds => some (!ds.isEmpty)
  | _ => none
theorem isEmpty_rep {K : PySem.W.Frag} {m : M} {H : Hp} {ds : List D} {vs : List V} (r : RepL K m H ds vs) : vs.isEmpty = ds.isEmpty := by
  have l := r.length
  cases ds <;> cases vs <;> simp_all
theorem truV {K : PySem.W.Frag} {m : M} {H : Hp} {d : D} {v : V} {b : Bool} (c : Cont K m H d v) (h : dTru d = some b) : TruV K v H b := by
  cases d with
  | non => rw [cont_non c]; cases h; rfl
  | bl _ => rw [cont_bl c]; cases h; rfl
  | int _ => rw [cont_int c]; cases h; rfl
  | str _ =>
    rw [cont_str c]
    simp only [dTru] at h
    split at h
    · cases h; exact ⟨by assumption, rfl⟩
    · cases h
  | lst ds =>
    obtain ⟨p, vs, rfl, hp, r⟩ := cont_lst c
    cases h
    exact .inl ⟨vs, .of hp, by rw [isEmpty_rep r]⟩
  | tup ds =>
    obtain ⟨p, vs, rfl, hp, r⟩ := cont_tup c
    cases h
    exact .inr (.inl ⟨vs, tupAt_sq hp, by rw [isEmpty_rep r]⟩)
  | _ => cases h
def tTru (te : DTE) : DTT := fun env m Q => te env m fun d m1 => ∃ b, dTru (look m1 d) = some b ∧ Q b m1
theorem dt_truth (h : DE X e te) (he : ∀ whole, isTrue e X.env whole = (do let v ← whole; standAt e.pos; holding [v] (truthy v)) := by intro _; rfl) : DT X e (tTru te) := ⟨PT.weak (pt_truth h.run he) fun σ H Q h => by
  obtain ⟨env, m, R, eo, s, h, k⟩ := h
  refine ⟨env, m, _, eo, s, h, fun d m1 v H1 h1 f1 s1 r1 => ?_⟩
  obtain ⟨b, e, h1⟩ := h1
  exact ⟨b, truV (cont_of s1 r1) e, k b m1 H1 h1 f1 s1⟩⟩
structure DW (X : Cx) (e : Expr) (t : DTT) : Prop where run : PW X e (liftT X.K t)
theorem PW.weak {t t' : TT} (h : PW X e t) (k : ∀ σ H Q, t' σ H Q → t σ H Q) : PW X e t' := ⟨fun wh pins s σ H Q I q => h.run wh pins s σ H Q I (k σ H Q q)⟩
theorem DW.dt {t : DTT} (h : DW X e t) : DT X e t := ⟨h.run.pt⟩
def tAndT (t u : DTT) : DTT := fun env m Q => t env m fun c m1 => if c = true then u env m1 Q else Q false m1
def tOrT (t u : DTT) : DTT := fun env m Q => t env m fun c m1 => if c = true then Q true m1 else u env m1 Q
def tNotT (t : DTT) : DTT := fun env m Q => t env m fun c m1 => Q (!c) m1
variable {t u : DTT}
theorem dw_and1 (ha : DT X a t) : DW X (.BoolOp .And [a] pos) t := ⟨pw_and1 ha.run⟩
theorem dw_or1 (ha : DT X a t) : DW X (.BoolOp .Or [a] pos) t := ⟨pw_or1 ha.run⟩
theorem dw_and (ha : DT X a t) (hb : DW X (.BoolOp .And (b :: rest) pos) u) : DW X (.BoolOp .And (a :: b :: rest) pos) (tAndT t u) := ⟨PW.weak (pw_and ha.run hb.run) fun σ H Q h => by
  obtain ⟨env, m, R, eo, s, h, k⟩ := h
  refine ⟨env, m, _, eo, s, h, fun c m1 H1 h1 f1 s1 => ?_⟩
  cases c with
  | true =>
    simp only [if_true] at h1 ⊢
    exact ⟨env, m1, R, eo.mono f1, s1, h1, fun b m2 H2 h2 f2 s2 => k b m2 H2 h2 (f1.trans f2) s2⟩
  | false =>
    simp only [Bool.false_eq_true, if_false] at h1 ⊢
    exact k false m1 H1 h1 f1 s1⟩
theorem dw_or (ha : DT X a t) (hb : DW X (.BoolOp .Or (b :: rest) pos) u) : DW X (.BoolOp .Or (a :: b :: rest) pos) (tOrT t u) := ⟨PW.weak (pw_or ha.run hb.run) fun σ H Q h => by
  obtain ⟨env, m, R, eo, s, h, k⟩ := h
  refine ⟨env, m, _, eo, s, h, fun c m1 H1 h1 f1 s1 => ?_⟩
  cases c with
  | false =>
    simp only [Bool.false_eq_true, if_false] at h1 ⊢
    exact ⟨env, m1, R, eo.mono f1, s1, h1, fun b m2 H2 h2 f2 s2 => k b m2 H2 h2 (f1.trans f2) s2⟩
  | true =>
    simp only [if_true] at h1 ⊢
    exact k true m1 H1 h1 f1 s1⟩
theorem dt_not (ha : DT X a t) : DT X (.UnaryOp .Not a pos) (tNotT t) := ⟨PT.weak (pt_not ha.run) fun σ H Q h => by
  obtain ⟨env, m, R, eo, s, h, k⟩ := h
  exact ⟨env, m, _, eo, s, h, fun c m1 H1 h1 f1 s1 => k (!c) m1 H1 h1 f1 s1⟩⟩
/-- as values -/
def tOrV (ta tb : DTE) : DTE := fun env m Q => ta env m fun d m1 => ∃ b, dTru (look m1 d) = some b ∧ if b = true then Q d m1 else tb env m1 Q
def tAndV (ta tb : DTE) : DTE := fun env m Q => ta env m fun d m1 => ∃ b, dTru (look m1 d) = some b ∧ if b = true then tb env m1 Q else Q d m1
def tNotV (ta : DTE) : DTE := fun env m Q => ta env m fun d m1 => ∃ b, dTru (look m1 d) = some b ∧ Q (.bl (!b)) m1
theorem de_one {op : BoolOp} (h : DE X a ta) : DE X (.BoolOp op [a] pos) ta := ⟨pe_one h.run⟩
theorem de_or (ha : DE X a ta) (hb : DE X (.BoolOp .Or (b :: rest) pos) tb) : DE X (.BoolOp .Or (a :: b :: rest) pos) (tOrV ta tb) := ⟨PE.weak (pe_orT ha.run hb.run) fun σ H Q h => by
  obtain ⟨env, m, R, eo, s, h, k⟩ := h
  refine ⟨env, m, _, eo, s, h, fun d m1 v H1 h1 f1 s1 r1 => ?_⟩
  obtain ⟨c, e, h1⟩ := h1
  refine ⟨c, truV (cont_of s1 r1) e, ?_⟩
  cases c with
  | false =>
    simp only [Bool.false_eq_true, if_false] at h1 ⊢
    exact ⟨env, m1, R, eo.mono f1, s1, h1, fun b m2 v2 H2 h2 f2 s2 r2 => k b m2 v2 H2 h2 (f1.trans f2) s2 r2⟩
  | true =>
    simp only [if_true] at h1 ⊢
    exact k d m1 v H1 h1 f1 s1 r1⟩
theorem de_and (ha : DE X a ta) (hb : DE X (.BoolOp .And (b :: rest) pos) tb) : DE X (.BoolOp .And (a :: b :: rest) pos) (tAndV ta tb) := ⟨PE.weak (pe_andT ha.run hb.run) fun σ H Q h => by
  obtain ⟨env, m, R, eo, s, h, k⟩ := h
  refine ⟨env, m, _, eo, s, h, fun d m1 v H1 h1 f1 s1 r1 => ?_⟩
  obtain ⟨c, e, h1⟩ := h1
  refine ⟨c, truV (cont_of s1 r1) e, ?_⟩
  cases c with
  | true =>
    simp only [if_true] at h1 ⊢
    exact ⟨env, m1, R, eo.mono f1, s1, h1, fun b m2 v2 H2 h2 f2 s2 r2 => k b m2 v2 H2 h2 (f1.trans f2) s2 r2⟩
  | false =>
    simp only [Bool.false_eq_true, if_false] at h1 ⊢
    exact k d m1 v H1 h1 f1 s1 r1⟩
theorem de_not (ha : DE X a ta) : DE X (.UnaryOp .Not a pos) (tNotV ta) := ⟨PE.weak (pe_notT ha.run) fun σ H Q h => by
  obtain ⟨env, m, R, eo, s, h, k⟩ := h
  refine ⟨env, m, _, eo, s, h, fun d m1 v H1 h1 f1 s1 r1 => ?_⟩
  obtain ⟨c, e, h1⟩ := h1
  exact ⟨c, truV (cont_of s1 r1) e, k (.bl (!c)) m1 _ H1 h1 f1 s1 rep_bl⟩⟩
def tIfD (t : DTT) (ta tb : DTE) : DTE := fun env m Q => t env m fun c m1 => if c = true then ta env m1 Q else tb env m1 Q
theorem de_if {c : Expr} (hc : DT X c t) (ha : DE X a ta) (hb : DE X b tb) : DE X (.IfExp c a b pos) (tIfD t ta tb) := ⟨PE.weak (pe_ifExp hc.run ha.run hb.run) fun σ H Q h => by
  obtain ⟨env, m, R, eo, s, h, k⟩ := h
  refine ⟨env, m, _, eo, s, h, fun c m1 H1 h1 f1 s1 => ?_⟩
  cases c with
  | true =>
    simp only [if_true] at h1 ⊢
    exact ⟨env, m1, R, eo.mono f1, s1, h1, fun b m2 v2 H2 h2 f2 s2 r2 => k b m2 v2 H2 h2 (f1.trans f2) s2 r2⟩
  | false =>
    simp only [Bool.false_eq_true, if_false] at h1 ⊢
    exact ⟨env, m1, R, eo.mono f1, s1, h1, fun b m2 v2 H2 h2 f2 s2 r2 => k b m2 v2 H2 h2 (f1.trans f2) s2 r2⟩⟩

/-! built-ins by values -/
def liftC (K : PySem.W.Frag) (f : M → List D → Option D) : List V → Hp → VK → Prop := fun vs H Q => ∃ ds m d, RepL K m H ds vs ∧ Sim K m H ∧ f m ds = some d ∧ ∀ w H', Fr m H m H' → Sim K m H' → Rep K m H' d w → Q w H'
def DCall (X : Cx) (g : Value) (f : M → List D → Option D) : Prop := CallR X g (liftC X.K f)
theorem callW {g : Value} {r r' : List V → Hp → VK → Prop} (h : CallR X g r) (k : ∀ x H Q, r' x H Q → r x H Q) : CallR X g r' := fun pins s σ H x us Q I r q => h pins s σ H x us Q I r (k _ _ _ q)
def tFn (f : M → List D → Option D) (t : DTA) : DTE := fun env m Q => t env m fun ds m1 => ∃ d, f m1 ds = some d ∧ Q d m1
theorem fn_lift {f : M → List D → Option D} {t : DTA} {σ : L2.St} {H : Hp} {Q : VK} (h : liftE X.K (tFn f t) σ H Q) : tCB (liftC X.K f) (liftA X.K t) σ H Q := by
  obtain ⟨env, m, R, eo, s, h, k⟩ := h
  refine ⟨env, m, _, eo, s, h, fun ds m1 vs H1 h1 f1 s1 r1 => ?_⟩
  obtain ⟨d, e, h1⟩ := h1
  exact ⟨ds, m1, d, r1, s1, e, fun w H' f2 s2 r2 => k d m1 w H' h1 (f1.trans f2) s2 r2⟩
theorem de_fn {id : String} {f : M → List D → Option D} {t : DTA} {x : Str} {p : Pos} (hc : DCall X (.builtin id) f) (hm : X.mg x = none) (hv : bootBuiltins x = some (.builtin id)) (ha : DA X (e :: es) t) (hg : Gl X x := by rfl) (hn : x ≠ "__name__" := by decide) (hdb : (x == ("__debug__" : Str)) = false := by decide)
    (he : starEach (e :: es) X.env = (false, eval e X.env) :: starEach es X.env := by rfl) (hpl : (backTo pos (starEach es X.env)).any (·.1) = false := by rfl) : DE X (.Call (.Name x p) (e :: es) [] pos) (tFn f t) :=
  ⟨PE.weak (pe_callB hc hg hm hv ha.run hn hdb he hpl) fun _ _ _ h => fn_lift h⟩
theorem de_ty {T : String} {f : M → List D → Option D} {t : DTA} {x : Str} {p : Pos} (hc : DCall X (.type T) f) (hm : X.mg x = none) (hv : bootBuiltins x = some (.type T)) (ha : DA X (e :: es) t) (hg : Gl X x := by rfl) (hn : x ≠ "__name__" := by decide) (hdb : (x == ("__debug__" : Str)) = false := by decide)
    (he : starEach (e :: es) X.env = (false, eval e X.env) :: starEach es X.env := by rfl) (hpl : (backTo pos (starEach es X.env)).any (·.1) = false := by rfl) : DE X (.Call (.Name x p) (e :: es) [] pos) (tFn f t) :=
  ⟨PE.weak (pe_callTy hc hg hm hv ha.run hn hdb he hpl) fun _ _ _ h => fn_lift h⟩
def d1 (f : D → Option D) (m : M) : List D → Option D
  | [x] => f (look m x)
  | _ => none
theorem repL1 {K : PySem.W.Frag} {m : M} {H : Hp} {x : D} {vs : List V} (r : RepL K m H [x] vs) : ∃ v, vs = [v] ∧ Rep K m H x v := by
  simp only [RepL] at r
  obtain ⟨v, r', e, h1, h2⟩ := r
  subst h2
  exact ⟨v, e, h1⟩
theorem dc_1 {g : Value} {f : D → Option D} {r : List V → Hp → VK → Prop} (ho : CallR X g r)
    (k : ∀ c m d v H Q, Cont X.K m H c v → Sim X.K m H → f c = some d → (∀ w H', Fr m H m H' → Sim X.K m H' → Rep X.K m H' d w → Q w H') → r [v] H Q) : DCall X g (d1 f) :=
  callW ho fun vs H Q ⟨ds, m, d, r, s, e, q⟩ => by
    cases ds with
    | nil => cases e
    | cons x ds =>
      cases ds with
      | cons _ _ => cases e
      | nil =>
        obtain ⟨v, rfl, r1⟩ := repL1 r
        exact k _ m d v H Q (cont_of s r1) s e q
def dLen : D → Option D
  | .lst ds => some (.int ds.length)
  | .tup ds => some (.int ds.length)
  | .str x => if x.length ≤ sizeLine then some (.int x.length) else none
  | .dic ks vs => some (.int vs.length)
  | _ => none
theorem call_lenDR : CallR X (.builtin "len") (fun xs H Q => ∃ a kvs, xs = [V.ref a] ∧ Rd H a (.dK kvs) ∧ Q (.int kvs.length) H) := by
  intro pins s σ H xs us Q I r h
  obtain ⟨a, kvs, rfl, hd, q⟩ := h
  obtain rfl := Vals.ref1 r
  exact d_len I hd fun t s' I' => ⟨.int _, H, I', ⟨t, rfl⟩, q⟩
theorem dc_len : DCall X (.builtin "len") (d1 dLen) := dc_1 (call_len.or call_lenDR) fun c m d v H Q cc s e q => by
  unfold dLen at e
  split at e
  · cases e
    obtain ⟨p, vs, rfl, hp, r⟩ := cont_lst cc
    refine .inl ⟨_, vs.length, rfl, .inl ⟨vs, .of hp, rfl⟩, ?_⟩
    rw [← r.length]
    exact q _ _ Fr.refl s rep_int
  · cases e
    obtain ⟨p, vs, rfl, hp, r⟩ := cont_tup cc
    refine .inl ⟨_, vs.length, rfl, .inr ⟨vs, tupAt_sq hp, rfl⟩, ?_⟩
    rw [← r.length]
    exact q _ _ Fr.refl s rep_int
  · split at e
    · cases e
      rw [cont_str cc]
      exact .inl ⟨_, _, rfl, ⟨by assumption, rfl⟩, q _ _ Fr.refl s rep_int⟩
    · cases e
  · cases e
    obtain ⟨p, vs, rfl, ⟨kvs, hd, rfl, rfl⟩, r⟩ := cont_dic cc
    refine .inr ⟨p, kvs, rfl, hd, ?_⟩
    have l := r.length
    rw [List.length_map] at l
    rw [← l]
    exact q _ _ Fr.refl s rep_int
  · cases e
def dInt : D → Option D
  | .int i => some (.int i)
  | .bl b => some (.int (if b then 1 else 0))
  | _ => none
theorem dc_int : DCall X (.type "int") (d1 dInt) := dc_1 call_int1 fun c m d v H Q cc s e q => by
  unfold dInt at e
  split at e
  · cases e; rw [cont_int cc]; exact .inl ⟨_, rfl, q _ _ Fr.refl s rep_int⟩
  · cases e; rw [cont_bl cc]; exact .inr ⟨_, rfl, q _ _ Fr.refl s rep_int⟩
  · cases e
def dAbs : D → Option D
  | .int i => some (.int (if i < 0 then -i else i))
  | _ => none
theorem dc_abs : DCall X (.builtin "abs") (d1 dAbs) := dc_1 call_abs fun c m d v H Q cc s e q => by
  unfold dAbs at e
  split at e
  · cases e; rw [cont_int cc]; exact ⟨_, rfl, q _ _ Fr.refl s rep_int⟩
  · cases e
def dList : D → Option D
  | .lst ds => some (.lst ds)
  | .tup ds => some (.lst ds)
  | .dic ks _ => some (.lst ks)
  | _ => none
theorem rep_kk {K : PySem.W.Frag} {m : M} {H : Hp} (k : Key) : Rep K m H (kD k) (kV k) := by cases k <;> simp only [kD, kV, Rep]
theorem repL_keys {K : PySem.W.Frag} {m : M} {H : Hp} : ∀ kvs : List (Key × V), RepL K m H (kvs.map fun kv => kD kv.1) (kvs.map fun kv => kV kv.1)
  | [] => .nil
  | kv :: kvs => .cons (rep_kk kv.1) (repL_keys kvs)
theorem dc_list (hc : X.calm = true) : DCall X (.type "list") (d1 dList) := dc_1 (call_list_of.or (call_listD hc)) fun c m d v H Q cc s e q => by
  unfold dList at e
  split at e
  · cases e
    obtain ⟨p, vs, rfl, hp, r⟩ := cont_lst cc
    exact .inl ⟨p, vs, rfl, .inl (.of hp), fun l hl => q _ _ (Fr.laid s hl) (s.laid hl) (new_lst s hl r)⟩
  · cases e
    obtain ⟨p, vs, rfl, hp, r⟩ := cont_tup cc
    exact .inl ⟨p, vs, rfl, .inr (tupAt_sq hp), fun l hl => q _ _ (Fr.laid s hl) (s.laid hl) (new_lst s hl r)⟩
  · cases e
    obtain ⟨p, vs, rfl, ⟨kvs, hd, rfl, rfl⟩, r⟩ := cont_dic cc
    exact .inr ⟨p, kvs, rfl, hd, fun l hl => q _ _ (Fr.laid s hl) (s.laid hl) (new_lst s hl (repL_keys kvs))⟩
  · cases e
def dTuple : D → Option D
  | .lst ds => some (.tup ds)
  | .tup ds => some (.tup ds)
  | _ => none
theorem dc_tuple : DCall X (.type "tuple") (d1 dTuple) := dc_1 call_tuple_of fun c m d v H Q cc s e q => by
  unfold dTuple at e
  split at e
  · cases e
    obtain ⟨p, vs, rfl, hp, r⟩ := cont_lst cc
    exact ⟨p, vs, rfl, .inl ⟨.of hp, fun l hl => q _ _ (Fr.laid s hl) (s.laid hl) (new_tup s hl r)⟩⟩
  · cases e
    obtain ⟨p, vs, rfl, hp, r⟩ := cont_tup cc
    exact ⟨p, vs, rfl, .inr ⟨tupAt_sq hp, q _ _ Fr.refl s (by simp only [Rep]; exact ⟨p, vs, rfl, hp, r⟩)⟩⟩
  · cases e
def boolsOf : List D → Option (List Bool)
  | [] => some []
  | .bl b :: ds => (boolsOf ds).map (b :: ·)
  | _ => none
theorem boolsOf_rep {K : PySem.W.Frag} {m : M} {H : Hp} : ∀ {ds : List D} {bs : List Bool} {vs : List V}, boolsOf ds = some bs → RepL K m H ds vs → vs = bs.map V.bl
  | [], bs, vs, e, r => by simp only [boolsOf, Option.some.injEq] at e; subst e; simp only [RepL] at r; exact r
  | d :: ds, bs, vs, e, r => by
    simp only [RepL] at r
    obtain ⟨v, r', rfl, h1, h2⟩ := r
    cases d with
    | bl b =>
      simp only [boolsOf, Option.map_eq_some_iff] at e
      obtain ⟨bs', e', rfl⟩ := e
      simp only [Rep] at h1
      rw [h1, boolsOf_rep e' h2]; rfl
    | _ => simp [boolsOf] at e
def dAll : D → Option D
  | .lst ds => (boolsOf ds).map fun bs => .bl (bs.all id)
  | _ => none
def dAny : D → Option D
  | .lst ds => (boolsOf ds).map fun bs => .bl (bs.any id)
  | _ => none
theorem dc_all (hc : X.calm = true) : DCall X (.builtin "all") (d1 dAll) := dc_1 (cr_all hc) fun c m d v H Q cc s e q => by
  unfold dAll at e
  split at e
  · obtain ⟨bs, eb, rfl⟩ := Option.map_eq_some_iff.mp e
    obtain ⟨p, vs, rfl, hp, r⟩ := cont_lst cc
    have := boolsOf_rep eb r
    subst this
    exact ⟨p, bs, rfl, .of hp, q _ _ Fr.refl s rep_bl⟩
  · cases e
theorem dc_any (hc : X.calm = true) : DCall X (.builtin "any") (d1 dAny) := dc_1 (cr_any hc) fun c m d v H Q cc s e q => by
  unfold dAny at e
  split at e
  · obtain ⟨bs, eb, rfl⟩ := Option.map_eq_some_iff.mp e
    obtain ⟨p, vs, rfl, hp, r⟩ := cont_lst cc
    have := boolsOf_rep eb r
    subst this
    exact ⟨p, bs, rfl, .of hp, q _ _ Fr.refl s rep_bl⟩
  · cases e
end
end DL
/-! ### DL6: statements, loops, comprehensions -/
namespace DL
open PySem PySem.Spec PyProof.Rows L2

section
variable {X : Cx} {e a b tg iter : Expr} {es : List Expr} {st : Stmt} {rest body : List Stmt} {te ta tb : DTE} {t u : DTS} {pos : Pos}
/-! statements -/
def tNx : DTS := fun env m E => E.nx env m
def tSq (t u : DTS) : DTS := fun env m E => t env m { E with nx := fun env' m' => u env' m' E }
theorem dss_nil : DSs X [] tNx := ⟨PSs.weak pss_nil fun D σ H h => by
  obtain ⟨env, m, E, eo, s, h, k1, _⟩ := h
  exact k1 env m σ H h eo s Fr.refl⟩
theorem dss_cons (h1 : DS X st t) (h2 : DSs X rest u) : DSs X (st :: rest) (tSq t u) := ⟨PSs.weak (pss_cons h1.run h2.run) fun D σ H h => by
  obtain ⟨env, m, E, eo, s, h, k1, k2, k3, k4⟩ := h
  refine ⟨env, m, _, eo, s, h, fun env' m' σ' H' h' eo' s' f' => ?_, k2, k3, k4⟩
  exact ⟨env', m', E, eo', s', h', fun env2 m2 σ2 H2 a1 a2 a3 a4 => k1 env2 m2 σ2 H2 a1 a2 a3 (f'.trans a4), fun d m2 v H2 a1 a2 a3 a4 => k2 d m2 v H2 a1 (f'.trans a2) a3 a4,
    fun env2 m2 σ2 H2 a1 a2 a3 a4 => k3 env2 m2 σ2 H2 a1 a2 a3 (f'.trans a4), fun env2 m2 σ2 H2 a1 a2 a3 a4 => k4 env2 m2 σ2 H2 a1 a2 a3 (f'.trans a4)⟩⟩
theorem dss_one (h1 : DS X st t) : DSs X [st] t := ⟨pss_one h1.run⟩
def tBrk : DTS := fun env m E => E.bk env m
def tCnt : DTS := fun env m E => E.ct env m
def tNev : DTS := fun _ _ _ => False
theorem ds_pass : DS X (.Pass pos) tNx := ⟨PS.weak ps_pass fun D σ H h => by
  obtain ⟨env, m, E, eo, s, h, k1, _⟩ := h
  exact k1 env m σ H h eo s Fr.refl⟩
theorem ds_break : DS X (.Break pos) tBrk := ⟨PS.weak ps_break fun D σ H h => by
  obtain ⟨env, m, E, eo, s, h, k1, k2, k3, k4⟩ := h
  exact k3 env m σ H h eo s Fr.refl⟩
theorem ds_continue : DS X (.Continue pos) tCnt := ⟨PS.weak ps_continue fun D σ H h => by
  obtain ⟨env, m, E, eo, s, h, k1, k2, k3, k4⟩ := h
  exact k4 env m σ H h eo s Fr.refl⟩
theorem ds_never : DS X st tNev := ⟨⟨fun pins s σ H D I h => by obtain ⟨_, _, _, _, _, z, _⟩ := h; exact z.elim⟩⟩
theorem dss_never {sts : List Stmt} : DSs X sts tNev := ⟨⟨fun pins s σ H D I h => by obtain ⟨_, _, _, _, _, z, _⟩ := h; exact z.elim⟩⟩
def tDr (te : DTE) : DTS := fun env m E => te env m fun _ m1 => E.nx env m1
theorem ds_expr (he : DE X e te) (hs : swapsWith e none pos.line X.env = pure false := by rfl) : DS X (.Expr e pos) (tDr te) := ⟨PS.weak (ps_expr he.run hs) fun D σ H h => by
  obtain ⟨env, m, E, eo, s, h, k1, k2, k3, k4⟩ := h
  exact ⟨env, m, _, eo, s, h, fun d m1 v H1 h1 f1 s1 r1 => k1 env m1 σ H1 h1 (eo.mono f1) s1 f1⟩⟩
def tRt (te : DTE) : DTS := fun env m E => te env m E.rt
theorem ds_ret (he : DE X e te) : DS X (.Return (some e) pos) (tRt te) := ⟨PS.weak (ps_ret he.run) fun D σ H h => by
  obtain ⟨env, m, E, eo, s, h, k1, k2, k3, k4⟩ := h
  exact ⟨env, m, _, eo, s, h, fun d m1 v H1 h1 f1 s1 r1 => k2 d m1 v H1 h1 f1 s1 r1⟩⟩
def tRtN : DTS := fun _ m E => E.rt .non m
theorem ds_retN : DS X (.Return none pos) tRtN := ⟨PS.weak ps_retN fun D σ H h => by
  obtain ⟨env, m, E, eo, s, h, k1, k2, k3, k4⟩ := h
  exact k2 .non m .non H h Fr.refl s rep_non⟩
def tIfS (c : DTT) (t u : DTS) : DTS := fun env m E => c env m fun b m1 => if b = true then t env m1 E else u env m1 E
theorem ds_if {c : Expr} {sa sb : List Stmt} {tc : DTT} (hc : DT X c tc) (ha : DSs X sa t) (hb : DSs X sb u) : DS X (.If c sa sb pos) (tIfS tc t u) := ⟨PS.weak (ps_if hc.run ha.run hb.run) fun D σ H h => by
  obtain ⟨env, m, E, eo, s, h, k1, k2, k3, k4⟩ := h
  refine ⟨env, m, _, eo, s, h, fun c m1 H1 h1 f1 s1 => ?_⟩
  have go : ∀ {t : DTS}, t env m1 E → liftS X.K t D σ H1 := fun {t} h1 => ⟨env, m1, E, eo.mono f1, s1, h1, fun env2 m2 σ2 H2 a1 a2 a3 a4 => k1 env2 m2 σ2 H2 a1 a2 a3 (f1.trans a4), fun d m2 v H2 a1 a2 a3 a4 => k2 d m2 v H2 a1 (f1.trans a2) a3 a4,
    fun env2 m2 σ2 H2 a1 a2 a3 a4 => k3 env2 m2 σ2 H2 a1 a2 a3 (f1.trans a4), fun env2 m2 σ2 H2 a1 a2 a3 a4 => k4 env2 m2 σ2 H2 a1 a2 a3 (f1.trans a4)⟩
  cases c with
  | true => simp only [if_true] at h1 ⊢; exact go h1
  | false => simp only [Bool.false_eq_true, if_false] at h1 ⊢; exact go h1⟩
def tSet (i : Nat) (te : DTE) : DTS := fun env m E => te env m fun d m1 => E.nx (env.set i (some d)) m1
theorem set_lift {i : Nat} {tr : TE} (hw : ∀ σ H Q, liftE X.K te σ H Q → tr σ H Q) {D : Ends} {σ : L2.St} {H : Hp} (h : liftS X.K (tSet i te) D σ H) : tAsg tr (gName i) D σ H := by
  obtain ⟨env, m, E, eo, s, h, k1, k2, k3, k4⟩ := h
  refine hw _ _ _ ⟨env, m, _, eo, s, h, fun d m1 v H1 h1 f1 s1 r1 => ?_⟩
  exact k1 _ m1 _ H1 h1 ((eo.mono f1).set i r1) s1 f1
theorem ds_set {i : Nat} {x : Str} {pos' : Pos} (he : DE X e te) (hN : X.N.Nodup) (hi : X.N[i]? = some x := by rfl) (hx : Loc X.env.scope x := by first | exact Or.inl rfl | exact Or.inr rfl) (hs : swapsWith e (some (.Name x pos')) pos.line X.env = pure false := by rfl)
    (hf : X.fn x = true ∨ X.env.scope.names.lookup x = some .local := by first | exact .inl rfl | exact .inr rfl) :
    DS X (.Assign [.Name x pos'] e pos) (tSet i te) := ⟨PS.weak (ps_set hN hi hx he.run hs hf) fun D σ H h => set_lift (fun _ _ _ q => q) h⟩
/-! targets -/
def gN (i : Nat) : DTG := fun d env m Q => Q (env.set i (some d)) m
theorem dg_name {i : Nat} {x : Str} (hN : X.N.Nodup) (hi : X.N[i]? = some x := by rfl) (hx : Loc X.env.scope x := by first | exact Or.inl rfl | exact Or.inr rfl)
    (hf : X.fn x = true ∨ X.env.scope.names.lookup x = some .local := by first | exact .inl rfl | exact .inr rfl) : DG X (.Name x pos) (gN i) := ⟨PG.weak (pg_name hN hi hx hf) fun v σ H Q h => by
  obtain ⟨d, env, m, R, r, eo, s, h, k⟩ := h
  exact k _ m _ H h (eo.set i r) s Fr.refl⟩
/-- the names of a tuple target -/
def setL : List Nat → List D → Env → Env
  | i :: is, d :: ds, env => setL is ds (env.set i (some d))
  | _, _, env => env
def setLV : List Nat → List V → L2.St → L2.St
  | i :: is, d :: ds, env => setLV is ds (env.set i (some d))
  | _, _, env => env
theorem EnvOk.setL {K : PySem.W.Frag} {m : M} {H : Hp} : ∀ {is : List Nat} {ds : List D} {vs : List V} {σ : L2.St} {env : Env}, RepL K m H ds vs → EnvOk K m H σ env → EnvOk K m H (setLV is vs σ) (DL.setL is ds env)
  | [], ds, vs, σ, env, r, eo => by cases ds <;> cases vs <;> exact eo
  | i :: is, [], vs, σ, env, r, eo => by simp only [RepL] at r; subst r; exact eo
  | i :: is, d :: ds, vs, σ, env, r, eo => by
    simp only [RepL] at r
    obtain ⟨v, r', rfl, h1, h2⟩ := r
    exact EnvOk.setL (is := is) (ds := ds) (vs := r') h2 (eo.set i h1)
def gNames : List Nat → TGs
  | [] => gNil
  | i :: is => gCons (gName i) (gNames is)
theorem gNames_of {σ : L2.St} {H : Hp} {Q : L2.St → Hp → Prop} : ∀ {is : List Nat} {vs : List V} {σ : L2.St}, vs.length = is.length → Q (setLV is vs σ) H → gNames is vs σ H Q
  | [], [], σ, _, q => ⟨rfl, q⟩
  | i :: is, v :: vs, σ, hl, q => ⟨v, vs, rfl, gNames_of (σ := σ) (by simpa using hl) q⟩
/-- a target: a name, or names in a tuple -/
inductive Tgt where
  | one (i : Nat)
  | many (is : List Nat)
def Tgt.ix : Tgt → List Nat
  | .one i => [i]
  | .many is => is
def tgD : Tgt → DTG
  | .one i => gN i
  | .many is => fun d env m Q => ∃ ds, look m d = .tup ds ∧ ds.length = is.length ∧ Q (setL is ds env) m
def tgR (K : PySem.W.Frag) : Tgt → TG
  | .one i => gName i
  | .many is => gTup K is.length (gNames is)
theorem wipe_set {vs : List Nat} {i : Nat} (h : i ∈ vs) (σ : L2.St) (v : Option V) : L2.wipe (σ.set i v) vs = L2.wipe σ vs := by
  induction vs with
  | nil => cases h
  | cons j vs ih =>
    show (L2.wipe (σ.set i v) vs).set j none = (L2.wipe σ vs).set j none
    have comm : ∀ ws : List Nat, (i ∈ ws → L2.wipe (σ.set i v) ws = L2.wipe σ ws) → ¬ i ∈ ws → L2.wipe (σ.set i v) ws = (L2.wipe σ ws).set i v := by
      intro ws
      induction ws with
      | nil => intro _ _; rfl
      | cons k ws ih2 =>
        intro _ hn
        simp only [List.mem_cons, not_or] at hn
        show (L2.wipe (σ.set i v) ws).set k none = ((L2.wipe σ ws).set k none).set i v
        rw [ih2 (fun z => absurd z hn.2) hn.2, List.set_comm _ _ hn.1]
    by_cases hv : i ∈ vs
    · rw [ih hv]
    · have hij : i = j := by
        rcases List.mem_cons.mp h with z | z
        · exact z
        · exact absurd z hv
      subst hij
      rw [comm vs ih hv, List.set_set]
theorem wipe_setLV {vs : List Nat} : ∀ {is : List Nat} {ws : List V} {σ : L2.St}, (∀ i ∈ is, i ∈ vs) → L2.wipe (setLV is ws σ) vs = L2.wipe σ vs
  | [], ws, σ, _ => by cases ws <;> rfl
  | i :: is, [], σ, _ => rfl
  | i :: is, w :: ws, σ, h => by
    show L2.wipe (setLV is ws (σ.set i (some w))) vs = _
    rw [wipe_setLV fun j hj => h j (List.mem_cons_of_mem _ hj), wipe_set (h i List.mem_cons_self)]
/-- what a target's store does, in full -/
theorem tg_run {K : PySem.W.Frag} {g : Tgt} {d : D} {v : V} {env : Env} {m : M} {H : Hp} {σ : L2.St} {R : Env → M → Prop} {Q : L2.St → Hp → Prop} (r : Rep K m H d v) (eo : EnvOk K m H σ env) (s : Sim K m H) (h : tgD g d env m R)
    (k : ∀ env' σ', R env' m → EnvOk K m H σ' env' → (∀ vs, (∀ i ∈ g.ix, i ∈ vs) → L2.wipe σ' vs = L2.wipe σ vs) → Q σ' H) : tgR K g v σ H Q := by
  cases g with
  | one i => exact k _ _ h (eo.set i r) fun vs hv => wipe_set (hv i List.mem_cons_self) _ _
  | many is =>
    obtain ⟨ds, e, hl, h⟩ := h
    have c := cont_of s r
    rw [e] at c
    obtain ⟨a, vs, rfl, ha, rl⟩ := cont_tup c
    have hl2 : vs.length = is.length := by rw [← rl.length]; exact hl
    refine ⟨a, vs, rfl, tupAt_sq ha, hl2, gNames_of (σ := σ) hl2 (k _ _ h (EnvOk.setL rl eo) fun ws hw => wipe_setLV hw)⟩
structure DGt (X : Cx) (e : Expr) (g : Tgt) : Prop where run : PG X e (tgR X.K g)
theorem dgt_one {i : Nat} {x : Str} (hN : X.N.Nodup) (hi : X.N[i]? = some x := by rfl) (hx : Loc X.env.scope x := by first | exact Or.inl rfl | exact Or.inr rfl)
    (hf : X.fn x = true ∨ X.env.scope.names.lookup x = some .local := by first | exact .inl rfl | exact .inr rfl) : DGt X (.Name x pos) (.one i) := ⟨pg_name hN hi hx hf⟩
structure DGn (X : Cx) (es : List Expr) (is : List Nat) : Prop where run : PGs X es (gNames is)
theorem dgn_nil : DGn X [] [] := ⟨pgs_nil⟩
theorem dgn_cons {i : Nat} {is : List Nat} {x : Str} (hr : DGn X es is) (hN : X.N.Nodup) (hi : X.N[i]? = some x := by rfl) (hx : Loc X.env.scope x := by first | exact Or.inl rfl | exact Or.inr rfl)
    (hf : X.fn x = true ∨ X.env.scope.names.lookup x = some .local := by first | exact .inl rfl | exact .inr rfl) (hs : (assignEach (.Name x pos :: es) X.env).map (·.2) = assign (.Name x pos) X.env :: (assignEach es X.env).map (·.2) := by rfl) :
    DGn X (.Name x pos :: es) (i :: is) := ⟨pgs_cons (pg_name hN hi hx hf) hr.run hs⟩
theorem dgt_many {is : List Nat} {k : Nat} (hc : X.calm = true) (h : DGn X es is) (hn : (assignEach es X.env).length = is.length := by rfl) (hst : (assignEach es X.env).findIdx? (·.1) = none := by rfl) : DGt X (.Tuple es k pos) (.many is) :=
  ⟨pg_tup hc h.run hn hst⟩
theorem DGt.dg {g : Tgt} (h : DGt X e g) : DG X e (tgD g) := ⟨PG.weak h.run fun v σ H Q h => by
  obtain ⟨d, env, m, R, r, eo, s, h, k⟩ := h
  exact tg_run r eo s h fun env' σ' h' eo' _ => k env' m σ' H h' eo' s Fr.refl⟩
def tAs (te : DTE) (g : DTG) : DTS := fun env m E => te env m fun d m1 => g d env m1 E.nx
theorem ds_asg {g : DTG} (he : DE X e te) (hg : DG X tg g) (hs : swapsWithSole [tg] e pos.line X.env = pure false := by rfl) (hw : swappedStores [tg] e X.env = pure none := by rfl)
    (h1 : (assignEach [tg] X.env).map (·.2) = [assign tg X.env] := by rfl) : DS X (.Assign [tg] e pos) (tAs te g) := ⟨PS.weak (ps_asg he.run hg.run hs hw h1) fun D σ H h => by
  obtain ⟨env, m, E, eo, s, h, k1, k2, k3, k4⟩ := h
  refine ⟨env, m, _, eo, s, h, fun d m1 v H1 h1 f1 s1 r1 => ?_⟩
  exact ⟨d, env, m1, _, r1, eo.mono f1, s1, h1, fun env' m' σ' H' a1 a2 a3 a4 => k1 env' m' σ' H' a1 a2 a3 (f1.trans a4)⟩⟩
def tPr (i j : Nat) (ta : DTA) : DTS := fun env m E => ta env m fun ds m1 => ∃ x y, ds = [x, y] ∧ E.nx ((env.set i (some x)).set j (some y)) m1
theorem ds_par {i j : Nat} {x y : Str} {px py pt : Pos} {kt k2 : Nat} {pt2 : Pos} {ta : DTA} (ha : DA X [a, b] ta) (hc : X.calm = true) (hN : X.N.Nodup) (hi : X.N[i]? = some x := by rfl) (hj : X.N[j]? = some y := by rfl) (hij : i ≠ j := by decide)
    (hx : X.env.scope.names.lookup x = some .local := by rfl) (hy : X.env.scope.names.lookup y = some .local := by rfl)
    (hw : swappedStores [.Tuple [.Name x px, .Name y py] kt pt] (.Tuple [a, b] k2 pt2) X.env = pure (some [x, y]) := by rfl)
    (hs : swapsWithSole [.Tuple [.Name x px, .Name y py] kt pt] (.Tuple [a, b] k2 pt2) pos.line X.env = pure false := by rfl) :
    DS X (.Assign [.Tuple [.Name x px, .Name y py] kt pt] (.Tuple [a, b] k2 pt2) pos) (tPr i j ta) := ⟨PS.weak (ps_par hc hN hi hj hij hx hy ha.run hw hs) fun D σ H h => by
  obtain ⟨env, m, E, eo, s, h, k1, k2, k3, k4⟩ := h
  refine ⟨env, m, _, eo, s, h, fun ds m1 vs H1 h1 f1 s1 r1 => ?_⟩
  obtain ⟨x, y, rfl, h1⟩ := h1
  simp only [RepL] at r1
  obtain ⟨v, r', rfl, q1, v2, r2, rfl, q2, rfl⟩ := r1
  exact ⟨v, v2, rfl, k1 _ m1 _ H1 h1 (((eo.mono f1).set i q1).set j q2) s1 f1⟩⟩
/-! stores -/
def dStore (m : M) (o i d : D) (Q : M → Prop) : Prop := match o with
  | .ref p => match m p with
    | some (.lst ds) => ∃ k j, look m i = .int k ∧ ixN ds.length k = some j ∧ Q (updM m p (.lst (ds.set j d)))
    | some (.dic ks vs) => ∃ k, keyOf i = some k ∧ vs.length < sizeLine ∧ Q (updM m p (.dic (dputK ks k) (dputV ks vs k d)))
    | _ => False
  | _ => False
theorem set_dict (hu : X.A.units + 65 < cLine) : PSet X (fun o i v H Q => ∃ a H', o = .ref a ∧ DPut H a i v H' ∧ Q H') := by
  intro pins s σ H o i v ov iv u Q I ro ri rv h
  obtain ⟨a, H', rfl, g, q⟩ := h
  cases ro
  exact d_setItem (by omega) I g ri rv fun s' I' => ⟨H', I', q⟩
theorem PSet.or {r r' : V → V → V → Hp → (Hp → Prop) → Prop} (h : PSet X r) (h' : PSet X r') : PSet X (fun o i v H Q => r o i v H Q ∨ r' o i v H Q) := by
  intro pins s σ H o i v ov iv u Q I ro ri rv q
  rcases q with q | q
  · exact h pins s σ H o i v ov iv u Q I ro ri rv q
  · exact h' pins s σ H o i v ov iv u Q I ro ri rv q
def gSb (to ti : DTE) : DTG := fun d env m Q => to env m fun o m1 => ti env m1 fun i m2 => dStore m2 o i d fun m3 => Q env m3
theorem store_main {K : PySem.W.Frag} {m : M} {o i d : D} {ov iv v : V} {H : Hp} {R : M → Prop} {Q : Hp → Prop} (s : Sim K m H) (ro : Rep K m H o ov) (ri : Rep K m H i iv) (rv : Rep K m H d v) (h : dStore m o i d R)
    (k : ∀ m' H', R m' → Fr m H m' H' → Sim K m' H' → Q H') : rSetL ov iv v H Q ∨ ∃ a H', ov = .ref a ∧ DPut H a iv v H' ∧ Q H' := by
  unfold dStore at h
  split at h
  · simp only [Rep] at ro; subst ro
    split at h
    · rename_i p _ ds hp
      obtain ⟨kk, j, e1, e2, h⟩ := h
      have ci := cont_of s ri
      rw [e1] at ci
      obtain ⟨vs, h1, r1⟩ := s p _ hp
      refine .inl ⟨p, vs, kk, j, rfl, cont_int ci, h1, by rw [← r1.length]; exact e2, k _ _ h (Fr.write hp) (s.write hp ⟨_, upd_same, ?_⟩)⟩
      exact RepL.set j (RepL.mono (Fr.write hp) _ _ r1) (Rep.mono (Fr.write hp) _ _ rv)
    · rename_i p _ ks ds hp
      obtain ⟨kk, e1, hl, h⟩ := h
      have ei := keyOf_eq e1
      subst ei
      have := rep_kD ri
      subst this
      obtain ⟨kvs', hd', rfl, r1⟩ := s p _ hp
      refine .inr ⟨p, _, rfl, DPut.k (k := kk) hd' (by have := r1.length; rw [List.length_map] at this; omega), k _ _ h (Fr.write hp) (s.write hp ⟨_, upd_same, (putK_map kk v kvs').symm, ?_⟩)⟩
      exact putV_rep kk (Rep.mono (Fr.write hp) _ _ rv) kvs' ds (RepL.mono (Fr.write hp) _ _ r1)
    · exact h.elim
  · exact h.elim
end
end DL
/-! ### DL7: stores, fields, loops, comprehensions -/
namespace DL
open PySem PySem.Spec PyProof.Rows L2

section
variable {X : Cx} {e a b o i tg iter elt : Expr} {es ifs : List Expr} {st : Stmt} {rest body : List Stmt} {te ta tb to ti : DTE} {t u : DTS} {pos pos' : Pos}
theorem dg_sub (hu : X.A.units + 65 < cLine) (ho : DE X o to) (hi : DE X i ti)
    (ha : ∀ v, assign (.Subscript o i pos) X.env v = (do
      let ov ← holding [v] (eval o X.env)
      let iv ← holding [v, ov] (eval i X.env)
      standAt pos
      holding [v, ov, iv] (setItem ov iv v)
      release [v, ov, iv] []) := by intro _; rfl) : DG X (.Subscript o i pos) (gSb to ti) := ⟨PG.weak (pg_sub ho.run hi.run (PSet.or set_list (set_dict hu)) ha) fun v σ H Q h => by
  obtain ⟨d, env, m, R, r, eo, s, h, k⟩ := h
  refine ⟨env, m, _, eo, s, h, fun o m1 ov H1 h1 f1 s1 r1 => ?_⟩
  refine ⟨env, m1, _, eo.mono f1, s1, h1, fun i m2 iv H2 h2 f2 s2 r2 => ?_⟩
  have f12 := f1.trans f2
  exact store_main s2 (Rep.mono f2 _ _ r1) r2 (Rep.mono f12 _ _ r) h2 fun m' H' a1 a2 a3 => k env m' σ H' a1 (eo.mono (f12.trans a2)) a3 (f12.trans a2)⟩
/-! fields -/
def fget (f : Str) : List Str → List D → Option D
  | g :: ns, d :: ds => if g = f then some d else fget f ns ds
  | _, _ => none
def fputN (f : Str) : List Str → List Str
  | [] => [f]
  | g :: ns => if g = f then g :: ns else g :: fputN f ns
def fputV (f : Str) (d : D) : List Str → List D → List D
  | g :: ns, v :: ds => if g = f then d :: ds else v :: fputV f d ns ds
  | _, _ => [d]
theorem fget_rep {K : PySem.W.Frag} {m : M} {H : Hp} {f : Str} {d : D} : ∀ {fs : List (Str × V)} {ds : List D}, RepL K m H ds (fs.map (·.2)) → fget f (fs.map (·.1)) ds = some d → ∃ v, fs.lookup f = some v ∧ Rep K m H d v
  | [], ds, r, e => by cases ds <;> simp [fget] at e
  | p :: fs, [], r, e => by simp [fget] at e
  | p :: fs, d0 :: ds, r, e => by
    simp only [List.map_cons, RepL] at r
    obtain ⟨v, r', ev, h1, h2⟩ := r
    cases ev
    simp only [List.map_cons, fget] at e
    by_cases hf : p.1 = f
    · simp only [hf, if_true, Option.some.injEq] at e
      subst e
      refine ⟨p.2, ?_, h1⟩
      rw [← hf]
      obtain ⟨p1, p2⟩ := p
      simp [List.lookup]
    · simp only [hf, if_false] at e
      obtain ⟨v, e1, r1⟩ := fget_rep h2 e
      refine ⟨v, ?_, r1⟩
      obtain ⟨p1, p2⟩ := p
      have : (f == p1) = false := beq_eq_false_iff_ne.mpr fun z => hf z.symm
      simp only [List.lookup, this]
      exact e1
theorem fput_N (f : Str) (v : V) : ∀ fs : List (Str × V), (putF f v fs).map (·.1) = fputN f (fs.map (·.1))
  | [] => rfl
  | (g, x) :: r => by
    simp only [putF, List.map_cons, fputN]
    split
    · rfl
    · simp only [List.map_cons, fput_N f v r]
theorem fput_V {K : PySem.W.Frag} {m : M} {H : Hp} (f : Str) {v : V} {d : D} (rd : Rep K m H d v) : ∀ {fs : List (Str × V)} {ds : List D}, RepL K m H ds (fs.map (·.2)) → RepL K m H (fputV f d (fs.map (·.1)) ds) ((putF f v fs).map (·.2))
  | [], ds, r => by cases ds <;> exact .cons rd .nil
  | p :: fs, [], r => by simp only [List.map_cons, RepL] at r; cases r
  | (g, x) :: fs, d0 :: ds, r => by
    simp only [List.map_cons, RepL] at r
    obtain ⟨v', r', ev, h1, h2⟩ := r
    cases ev
    simp only [putF, List.map_cons, fputV]
    split
    · exact .cons rd h2
    · exact .cons h1 (fput_V f rd h2)
def tFl (C : Addr) (f : Str) (te : DTE) : DTE := fun env m Q => te env m fun x m1 => ∃ ns vs d, look m1 x = .ins C ns vs ∧ fget f ns vs = some d ∧ Q d m1
theorem de_fld {f : Str} (C : Addr) (he : DE X e te) (c : Cls X.K C) (n : NoAttr X.K C f) (hb : attributeBase e f X.env (eval e X.env) = eval e X.env := by rfl) : DE X (.Attribute e f pos) (tFl C f te) := ⟨PE.weak (pe_fld he.run hb) fun σ H Q h => by
  obtain ⟨env, m, R, eo, s, h, k⟩ := h
  refine ⟨env, m, _, eo, s, h, fun x m1 v H1 h1 f1 s1 r1 => ?_⟩
  obtain ⟨ns, vs, d, e1, e2, h1⟩ := h1
  have cc := cont_of s1 r1
  rw [e1] at cc
  obtain ⟨a, dx, fs, rfl, h2, rfl, r2⟩ := cc
  obtain ⟨v, e3, r3⟩ := fget_rep r2 e2
  exact ⟨a, C, dx, fs, v, rfl, h2, c, n, e3, k d m1 v H1 h1 f1 s1 r3⟩⟩
def tFlS (C : Addr) (f : Str) (ta tv : DTE) : DTS := fun env m E => tv env m fun d m1 => ta env m1 fun o m2 => ∃ p ns vs, o = .ref p ∧ m2 p = some (.ins C ns vs) ∧ vs.length < 1000 ∧ E.nx env (updM m2 p (.ins C (fputN f ns) (fputV f d ns vs)))
theorem ds_fld {f : Str} {value : Expr} {tv : DTE} (C : Addr) (ha : DE X o ta) (hv : DE X value tv) (c : Cls X.K C) (n : NoAttr X.K C f) (hs : swapsWith value (some (.Attribute o f pos')) pos.line X.env = pure false := by rfl) :
    DS X (.Assign [.Attribute o f pos'] value pos) (tFlS C f ta tv) := ⟨PS.weak (ps_fld ha.run hv.run hs) fun D σ H h => by
  obtain ⟨env, m, E, eo, s, h, k1, k2, k3, k4⟩ := h
  refine ⟨env, m, _, eo, s, h, fun d m1 v H1 h1 f1 s1 r1 => ?_⟩
  refine ⟨env, m1, _, eo.mono f1, s1, h1, fun x m2 w H2 h2 f2 s2 r2 => ?_⟩
  obtain ⟨p, ns, vs, rfl, hp, hl, h2⟩ := h2
  simp only [Rep] at r2
  subst r2
  obtain ⟨dx, fs, h3, rfl, r3⟩ := s2 p _ hp
  have fw : Fr m2 H2 (updM m2 p (.ins C (fputN f (fs.map (·.1))) (fputV f d (fs.map (·.1)) vs))) (upd H2 p (.ins C dx (putF f v fs))) := Fr.write hp
  refine ⟨p, C, dx, fs, rfl, h3, c, n, by have := r3.length; rw [List.length_map] at this; omega, k1 env _ σ _ h2 (eo.mono ((f1.trans f2).trans fw)) ?_ ((f1.trans f2).trans fw)⟩
  refine s2.write hp ⟨dx, _, upd_same, fput_N f v fs, ?_⟩
  exact fput_V f (Rep.mono fw _ _ (Rep.mono f2 _ _ r1)) (RepL.mono fw _ _ r3)⟩
/-! what is walked -/
def Items (K : PySem.W.Frag) (J : It) (ds : List D) (m0 : M) (H0 : Hp) : Prop := ∀ (i : Nat) (m : M) (H : Hp), Fr m0 H0 m H → Sim K m H →
  (∀ d, ds[i]? = some d → J.go i H ∧ ∀ x H', J.yld i H x H' → Fr m H m H' ∧ Sim K m H' ∧ Rep K m H' d x) ∧ (i = ds.length → J.stop i H)
abbrev DTI := Env → M → (List D → M → Prop) → Prop
def liftI (K : PySem.W.Frag) (t : DTI) : TI := fun σ H R => ∃ env m RR, EnvOk K m H σ env ∧ Sim K m H ∧ t env m RR ∧ ∀ ds m' J H', RR ds m' → Fr m H m' H' → Sim K m' H' → Items K J ds m' H' → R J H'
structure DI (X : Cx) (tg e : Expr) (t : DTI) : Prop where run : PI X tg e (liftI X.K t)
theorem PI.weak {tg e : Expr} {t t' : TI} (h : PI X tg e t) (k : ∀ σ H R, t' σ H R → t σ H R) : PI X tg e t' := ⟨fun pins s σ H R I q => h.run pins s σ H R I (k σ H R q)⟩
def dSeq : D → Option (List D)
  | .lst ds => some ds
  | .tup ds => some ds
  | .str x => some (x.cps.toList.map fun c => .str ⟨#[c]⟩)
  | .dic ks _ => some ks
  | _ => none
def iSeq (te : DTE) : DTI := fun env m Q => te env m fun d m1 => ∃ ds, dSeq d = some ds ∧ Q ds m1
theorem items_list {K : PySem.W.Frag} {m0 : M} {H0 : Hp} {a : Addr} {ds : List D} {vs : List V} (n : m0 a = none) (h : H0 a = some (.lst vs)) (r : RepL K m0 H0 ds vs) : Items K (Itl K a) ds m0 H0 := fun i m H f s => by
  obtain ⟨n', h'⟩ := f.lst n h
  have inj : ∀ ys, SqL K H a ys → (Rd H a (.lst ys) → ys = vs) := fun ys _ z => by
    rcases z with z | ⟨o, z⟩
    · rw [h'] at z; cases z; rfl
    · rw [h'] at z; cases z
  refine ⟨fun d e => ?_, fun hl => ⟨vs, .of h', by rw [← r.length, hl]; exact Nat.le_refl _⟩⟩
  obtain ⟨v, e1, r1⟩ := r.get e
  refine ⟨⟨vs, v, .of h', e1⟩, fun x H' y => ?_⟩
  obtain ⟨eH, y⟩ := y
  subst eH
  have := y vs (.of h')
  rw [e1] at this; cases this
  exact ⟨Fr.refl, s, Rep.mono f _ _ r1⟩
theorem items_tup {K : PySem.W.Frag} {m0 : M} {H0 : Hp} {a : Addr} {ds : List D} {vs : List V} (h : TupAt K m0 H0 a vs) (r : RepL K m0 H0 ds vs) : Items K (Itt K a) ds m0 H0 := fun i m H f s => by
  have h' : SqT K H a vs := by
    rcases h with ⟨n, h⟩ | h
    · exact .inl (.inl (f.tup n h).2)
    · exact .inr h
  refine ⟨fun d e => ?_, fun hl => ⟨vs, h', by rw [← r.length, hl]; exact Nat.le_refl _⟩⟩
  obtain ⟨v, e1, r1⟩ := r.get e
  refine ⟨⟨vs, v, h', e1⟩, fun x H' y => ?_⟩
  obtain ⟨eH, y⟩ := y
  subst eH
  have := y vs h'
  rw [e1] at this; cases this
  exact ⟨Fr.refl, s, Rep.mono f _ _ r1⟩
theorem items_str {K : PySem.W.Frag} {m0 : M} {H0 : Hp} {x : Str} : Items K (Its x) (x.cps.toList.map fun c => .str ⟨#[c]⟩) m0 H0 := fun i m H f s => by
  refine ⟨fun d e => ?_, fun hl => ?_⟩
  rotate_left
  · rw [List.length_map, Array.length_toList] at hl; exact Nat.le_of_eq hl.symm
  rw [List.getElem?_map] at e
  obtain ⟨c, ec, rfl⟩ := Option.map_eq_some_iff.mp e
  have hi : i < x.cps.size := by
    rcases Nat.lt_or_ge i x.cps.toList.length with z | z
    · simpa using z
    · rw [List.getElem?_eq_none z] at ec; cases ec
  refine ⟨hi, fun y H' q => ?_⟩
  obtain ⟨rfl, c', ec', rfl⟩ := q
  rw [Array.getElem?_toList] at ec
  rw [ec] at ec'; cases ec'
  exact ⟨Fr.refl, s, rep_str⟩
theorem items_dic {K : PySem.W.Frag} {m0 : M} {H0 : Hp} {a : Addr} {o : Obj} {kvs : List (Key × V)} (n : m0 a = none) (h : H0 a = some (.frz o (.dK kvs))) : Items K (Itk a o kvs) (kvs.map fun kv => kD kv.1) m0 H0 := fun i m H f s => by
  obtain ⟨n', h'⟩ := f.frz n h
  refine ⟨fun d e => ?_, fun hl => ⟨h', by rw [hl, List.length_map]; exact Nat.le_refl _⟩⟩
  rw [List.getElem?_map] at e
  obtain ⟨kv, ek, rfl⟩ := Option.map_eq_some_iff.mp e
  have hi : i < kvs.length := by
    rcases Nat.lt_or_ge i kvs.length with z | z
    · exact z
    · rw [List.getElem?_eq_none z] at ek; cases ek
  refine ⟨⟨h', hi⟩, fun x H' y => ?_⟩
  obtain ⟨eH, k, v, e1, rfl⟩ := y
  subst eH
  rw [ek] at e1; cases e1
  exact ⟨Fr.refl, s, rep_kk _⟩
theorem Fr.locked {m : M} {H : Hp} {a : Addr} {o : Obj} {kvs : List (Key × V)} (h : H a = some (.dK kvs)) : Fr m H m (upd H a (.frz o (.dK kvs))) := fun b u nb hb => by
  by_cases e : b = a
  · subst e
    rw [h] at hb; cases hb
    exact ⟨nb, _, upd_same, .inr (.inl ⟨o, kvs, rfl, rfl⟩)⟩
  · exact ⟨nb, u, by rw [upd_ne e]; exact hb, .inl rfl⟩
theorem Sim.locked {K : PySem.W.Frag} {m : M} {H : Hp} {a : Addr} {o : Obj} {kvs : List (Key × V)} (s : Sim K m H) (n : m a = none) (h : H a = some (.dK kvs)) : Sim K m (upd H a (.frz o (.dK kvs))) :=
  s.monoL (Fr.locked h).l fun b u nb hb => by
    have e : b ≠ a := fun z => nb (by rw [z]; exact n)
    rw [upd_ne e]; exact hb
theorem di_seq (he : DE X e te) : DI X tg e (iSeq te) := ⟨⟨fun pins s σ H R I h => by
  obtain ⟨env, m, RR, eo, sm, h, k⟩ := h
  have h0 : liftE X.K te σ H (fun x H1 => (∃ a, x = .ref a ∧ (∃ xs, SqL X.K H1 a xs) ∧ R (Itl X.K a) H1) ∨ (∃ a, x = .ref a ∧ (∃ xs, SqT X.K H1 a xs) ∧ R (Itt X.K a) H1) ∨ (∃ y, x = .str y ∧ R (Its y) H1) ∨ ∃ a kvs, x = .ref a ∧ ((∃ o, H1 a = some (.frz o (.dK kvs)) ∧ R (Itk a o kvs) H1) ∨ (H1 a = some (.dK kvs) ∧ ∀ o, R (Itk a o kvs) (upd H1 a (.frz o (.dK kvs)))))) := by
    refine ⟨env, m, _, eo, sm, h, fun d m1 v H1 h1 f1 s1 r1 => ?_⟩
    obtain ⟨ds, e1, h1⟩ := h1
    unfold dSeq at e1
    split at e1
    · cases e1
      simp only [Rep] at r1
      obtain ⟨a, vs, rfl, ⟨n, h2⟩, r2⟩ := r1
      exact .inl ⟨a, rfl, ⟨vs, .of h2⟩, k _ m1 _ H1 h1 f1 s1 (items_list n h2 r2)⟩
    · cases e1
      simp only [Rep] at r1
      obtain ⟨a, vs, rfl, h2, r2⟩ := r1
      exact .inr (.inl ⟨a, rfl, ⟨vs, tupAt_sq h2⟩, k _ m1 _ H1 h1 f1 s1 (items_tup h2 r2)⟩)
    · cases e1
      simp only [Rep] at r1
      subst r1
      exact .inr (.inr (.inl ⟨_, rfl, k _ m1 _ H1 h1 f1 s1 items_str⟩))
    · cases e1
      simp only [Rep] at r1
      obtain ⟨a, vs, rfl, n, ⟨kvs, h2, rfl, rfl⟩, r2⟩ := r1
      refine .inr (.inr (.inr ⟨a, kvs, rfl, ?_⟩))
      rcases h2 with h2 | ⟨o, h2⟩
      · refine .inr ⟨h2, fun o => k _ m1 _ _ h1 (f1.trans (Fr.locked h2)) (s1.locked n h2) (items_dic n upd_same)⟩
      · exact .inl ⟨o, h2, k _ m1 _ H1 h1 f1 s1 (items_dic n h2)⟩
    · cases e1
  refine thn (he.run.run pins s σ H _ I h0) fun v s1 ⟨x, H1, I1, r1, q1⟩ => ?_
  rcases q1 with ⟨a, rfl, ⟨xs, hq⟩, q⟩ | ⟨a, rfl, ⟨xs, hq⟩, q⟩ | ⟨y, rfl, q⟩ | ⟨d, kvs, rfl, q⟩
  · cases r1
    obtain ⟨its, rv, p, hz⟩ := I1.list hq
    refine wpAny_pyIter_list p.isList ?_
    refine ⟨s1.heap.objs.size, [s1.heap.objs.size], _, _, H1, rfl, I1.kept (t' := s1.toks) fun b o e => Heap.get?_push_of_some _ e, turn_list a _, ⟨_, Heap.get?_push_size _ rfl, rfl, rfl⟩, fun b hb => ?_, q⟩
    have e : b = s1.heap.objs.size := by simpa using hb
    subst e
    exact I1.fpOk (Nat.le_refl _) (I1.hok.fresh (Nat.le_refl _))
  · cases r1
    obtain ⟨its, rv, p, hz⟩ := I1.tuple hq
    refine wpAny_pyIter_tuple (show s1.heap.IsTuple a its.toArray from p) ?_
    refine ⟨s1.heap.objs.size, [s1.heap.objs.size], _, _, H1, rfl, I1.kept (t' := s1.toks) fun b o e => Heap.get?_push_of_some _ e, turn_tuple a _, ⟨_, Heap.get?_push_size _ rfl, rfl, rfl⟩, fun b hb => ?_, q⟩
    have e : b = s1.heap.objs.size := by simpa using hb
    subst e
    exact I1.fpOk (Nat.le_refl _) (I1.hok.fresh (Nat.le_refl _))
  · obtain ⟨t, rfl⟩ := r1
    cases ha : y.cps.all (· < 128)
    · exact wpAny_pyIter_wide ha (pi_one (tk := s1.toks) I1 _ (turn_str _ y t "str_iterator" (.inr rfl)) ⟨_, Heap.get?_push_size _ rfl, rfl, rfl⟩ q)
    · exact wpAny_pyIter_ascii ha (pi_one (tk := s1.toks) I1 _ (turn_str _ y t "str_ascii_iterator" (.inl rfl)) ⟨_, Heap.get?_push_size _ rfl, rfl, rfl⟩ q)
  · cases r1
    have key : ∀ (o : Obj) (H2 : Hp) (I2 : Inv X pins σ H2 s1) (hd : H2 d = some (.frz o (.dK kvs))) (q : R (Itk d o kvs) H2), wpAny (model X.prog X.w) X.A (pyIter (.ref d)) (PIE X pins σ tg R) X.xe s1 := by
      intro o H2 I2 hd q
      obtain ⟨hs, hgd, hx, es, ep, vs, hdt, hsz, kv, hm⟩ := I2.frzK hd
      refine iter_keys hs hgd hx hdt (pi_one (tk := s1.toks) I2 _ (turn_keys _ hdt) ⟨_, Heap.get?_push_size _ rfl, rfl, ?_⟩ q)
      rw [hsz] <;> rfl
    rcases q with ⟨o, hd, q⟩ | ⟨hd, q⟩
    · exact key o H1 I1 hd q
    · obtain ⟨od, I2⟩ := I1.lock hd trivial
      exact key od _ I2 upd_same (q od)⟩⟩
/-- range -/
def rngD (lo : Int) (n : Nat) : List D := (List.range n).map fun (i : Nat) => D.int (lo + i)
theorem items_rng {K : PySem.W.Frag} {m0 : M} {H0 : Hp} {lo : Int} {n : Nat} : Items K (Itr lo n) (rngD lo n) m0 H0 := fun i m H f s => by
  refine ⟨fun d e => ?_, fun hl => ?_⟩
  rotate_left
  · unfold rngD at hl; rw [List.length_map, List.length_range] at hl; exact Nat.le_of_eq hl.symm
  unfold rngD at e
  rw [List.getElem?_map] at e
  obtain ⟨j, ej, rfl⟩ := Option.map_eq_some_iff.mp e
  have hi : i < n := by
    rcases Nat.lt_or_ge i (List.range n).length with z | z
    · simpa using z
    · rw [List.getElem?_eq_none z] at ej; cases ej
  rw [List.getElem?_range hi] at ej
  cases ej
  refine ⟨hi, fun y H' q => ?_⟩
  obtain ⟨rfl, rfl⟩ := q
  exact ⟨Fr.refl, s, rep_int⟩
def iRg (ta : DTA) : DTI := fun env m Q => ta env m fun ds m1 => (∃ j, ds = [.int j] ∧ -(2 ^ 62) ≤ j ∧ j < 2 ^ 62 ∧ Q (rngD 0 j.toNat) m1)
def iRg2 (ta : DTA) : DTI := fun env m Q => ta env m fun ds m1 => (∃ i j, ds = [.int i, .int j] ∧ (-(2 ^ 62) ≤ i ∧ i < 2 ^ 62 ∧ -(2 ^ 62) ≤ j ∧ j < 2 ^ 62) ∧ Q (rngD i (j - i).toNat) m1)
theorem di_range {p : Pos} {ta : DTA} (hm : X.mg "range" = none) (ha : DA X [a] ta) (hg : Gl X "range" := by rfl) (hs : starEach [a] X.env = [(false, eval a X.env)] := by rfl) : DI X tg (.Call (.Name "range" p) [a] [] pos) (iRg ta) :=
  ⟨PI.weak (pi_range1 hg hm ha.run hs) fun σ H R h => by
    obtain ⟨env, m, RR, eo, s, h, k⟩ := h
    refine ⟨env, m, _, eo, s, h, fun ds m1 vs H1 h1 f1 s1 r1 => ?_⟩
    obtain ⟨j, rfl, b1, b2, h1⟩ := h1
    obtain ⟨v, rfl, r2⟩ := repL1 r1
    simp only [Rep] at r2
    subst r2
    exact ⟨j, rfl, b1, b2, k _ m1 _ H1 h1 f1 s1 items_rng⟩⟩
theorem di_range2 {p : Pos} {ta : DTA} (hm : X.mg "range" = none) (ha : DA X [a, b] ta) (hg : Gl X "range" := by rfl) (hs : starEach [a, b] X.env = [(false, eval a X.env), (false, eval b X.env)] := by rfl) (hs2 : starEach [b] X.env = [(false, eval b X.env)] := by rfl) :
    DI X tg (.Call (.Name "range" p) [a, b] [] pos) (iRg2 ta) :=
  ⟨PI.weak (pi_range2 hg hm ha.run hs hs2) fun σ H R h => by
    obtain ⟨env, m, RR, eo, s, h, k⟩ := h
    refine ⟨env, m, _, eo, s, h, fun ds m1 vs H1 h1 f1 s1 r1 => ?_⟩
    obtain ⟨i, j, rfl, b1, h1⟩ := h1
    simp only [RepL] at r1
    obtain ⟨v, r', rfl, q1, v2, r2, rfl, q2, rfl⟩ := r1
    simp only [Rep] at q1 q2
    subst q1; subst q2
    exact ⟨i, j, rfl, b1, k _ m1 _ H1 h1 f1 s1 items_rng⟩⟩
/-! for -/
def forD (g : Tgt) (tb : DTS) (E : DEnds) : List D → Env → M → Prop
  | [], env, m => E.nx env m
  | d :: ds, env, m => tgD g d env m fun env' m' => tb env' m' { E with nx := forD g tb E ds, ct := forD g tb E ds, bk := E.nx }
def tFo (ti : DTI) (g : Tgt) (tb : DTS) : DTS := fun env m E => ti env m fun ds m1 => forD g tb E ds env m1
theorem for_core {g : Tgt} {tb : DTS} {De : Ends} {σ : L2.St} {env : Env} {m1 : M} {H1 : Hp} {J : It} {ds : List D} {E : DEnds} (eo : EnvOk X.K m1 H1 σ env) (s1 : Sim X.K m1 H1) (it : Items X.K J ds m1 H1) (h1 : forD g tb E ds env m1)
    (k1 : ∀ env' m' σ' H', E.nx env' m' → EnvOk X.K m' H' σ' env' → Sim X.K m' H' → Fr m1 H1 m' H' → De.nx σ' H') (k2 : ∀ d m' v H', E.rt d m' → Fr m1 H1 m' H' → Sim X.K m' H' → Rep X.K m' H' d v → De.rt v H') :
    ∃ W : Nat → Nat → L2.St → Hp → Prop, (∃ n, W 0 n σ H1) ∧ ∀ i n σ H, W i n σ H → (J.stop i H ∧ De.nx σ H) ∨ (J.go i H ∧ ∃ N : L2.St → Hp → Prop, (∀ σ' H', N σ' H' → ∃ n', n' < n ∧ W (i + 1) n' σ' H') ∧
      ∀ x H', J.yld i H x H' → tgR X.K g x σ H' fun σ2 H2 => liftS X.K tb { De with nx := N, ct := N, bk := De.nx } σ2 H2) := by
  refine ⟨fun i n σ H => n = ds.length - i ∧ i ≤ ds.length ∧ ∃ env m, EnvOk X.K m H σ env ∧ Sim X.K m H ∧ Fr m1 H1 m H ∧ forD g tb E (ds.drop i) env m, ⟨_, rfl, Nat.zero_le _, env, m1, eo, s1, Fr.refl, h1⟩, ?_⟩
  rintro i n σ2 H2 ⟨rfl, hi, env2, m2, eo2, s2, f2, h2⟩
  obtain ⟨go, stop⟩ := it i m2 H2 f2 s2
  by_cases hlt : i < ds.length
  · obtain ⟨g1, g2⟩ := go ds[i] (by simp [hlt])
    have ed : ds.drop i = ds[i] :: ds.drop (i + 1) := List.drop_eq_getElem_cons hlt
    rw [ed] at h2
    refine .inr ⟨g1, fun σ' H' => ∃ env m, EnvOk X.K m H' σ' env ∧ Sim X.K m H' ∧ Fr m1 H1 m H' ∧ forD g tb E (ds.drop (i + 1)) env m, fun σ' H' q => ⟨ds.length - (i + 1), by omega, rfl, hlt, q⟩, fun x H' y => ?_⟩
    obtain ⟨f3, s3, r3⟩ := g2 x H' y
    have h2 : tgD g ds[i] env2 m2 _ := h2
    refine tg_run r3 (eo2.mono f3) s3 h2 fun env4 σ4 h4 eo4 _ => ?_
    have f13 := f2.trans f3
    exact ⟨env4, m2, _, eo4, s3, h4, fun env' m' σ' H' a1 a2 a3 a4 => ⟨env', m', a2, a3, f13.trans a4, a1⟩, fun d m' v H' a1 a2 a3 a4 => k2 d m' v H' a1 (f13.trans a2) a3 a4,
      fun env' m' σ' H' a1 a2 a3 a4 => k1 env' m' σ' H' a1 a2 a3 (f13.trans a4), fun env' m' σ' H' a1 a2 a3 a4 => ⟨env', m', a2, a3, f13.trans a4, a1⟩⟩
  · have e : i = ds.length := by omega
    subst e
    rw [List.drop_length] at h2
    exact .inl ⟨stop rfl, k1 env2 m2 σ2 H2 h2 eo2 s2 f2⟩
theorem for_lift {g : Tgt} {tb : DTS} {ti : DTI} {D : Ends} {σ : L2.St} {H : Hp} (h : liftS X.K (tFo ti g tb) D σ H) : tFor (liftI X.K ti) (tgR X.K g) (liftS X.K tb) D σ H := by
  obtain ⟨env, m, E, eo, s, h, k1, k2, k3, k4⟩ := h
  refine ⟨env, m, _, eo, s, h, fun ds m1 J H1 h1 f1 s1 it => ?_⟩
  exact for_core (eo.mono f1) s1 it h1 (fun env' m' σ' H' a1 a2 a3 a4 => k1 env' m' σ' H' a1 a2 a3 (f1.trans a4)) fun d m' v H' a1 a2 a3 a4 => k2 d m' v H' a1 (f1.trans a2) a3 a4
theorem ds_for {ti : DTI} {g : Tgt} {tb : DTS} (hi : DI X tg iter ti) (hg : DGt X tg g) (hb : DSs X body tb) (hc : X.calm = true) (hp : PassesOwn (model X.prog X.w) X.A X.env X.xe) (hs : ∀ x, foldedSetIterable iter X.env x = pure x := by intro _; rfl) :
    DS X (.For tg iter body [] pos) (tFo ti g tb) := ⟨PS.weak (ps_for hp hc hi.run hg.run hb.run hs) fun D σ H h => for_lift h⟩
/-! while -/
def whileD (c : DTT) (tb : DTS) (E : DEnds) : Nat → Env → M → Prop
  | 0, _, _ => False
  | n + 1, env, m => c env m fun b m1 => if b = true then tb env m1 { E with nx := whileD c tb E n, ct := whileD c tb E n, bk := E.nx } else E.nx env m1
def tWh (c : DTT) (tb : DTS) : DTS := fun env m E => ∃ n, whileD c tb E n env m
theorem ds_while {c : Expr} {tc : DTT} {tb : DTS} (hc : DT X c tc) (hb : DSs X body tb) (hp : PassesOwn (model X.prog X.w) X.A X.env X.xe) : DS X (.While c body [] pos) (tWh tc tb) := ⟨PS.weak (ps_while hp hc.run hb.run) fun D σ H h => by
  obtain ⟨env, m, E, eo, s, ⟨n, h⟩, k1, k2, k3, k4⟩ := h
  refine ⟨fun n σ' H' => ∃ env' m', EnvOk X.K m' H' σ' env' ∧ Sim X.K m' H' ∧ Fr m H m' H' ∧ whileD tc tb E n env' m', ⟨n, env, m, eo, s, Fr.refl, h⟩, ?_⟩
  rintro n σ2 H2 ⟨env2, m2, eo2, s2, f2, h2⟩
  cases n with
  | zero => exact h2.elim
  | succ n =>
    refine ⟨env2, m2, _, eo2, s2, h2, fun b m3 H3 h3 f3 s3 => ?_⟩
    cases b with
    | true =>
      simp only [if_true] at h3 ⊢
      refine ⟨fun σ' H' => ∃ env' m', EnvOk X.K m' H' σ' env' ∧ Sim X.K m' H' ∧ Fr m H m' H' ∧ whileD tc tb E n env' m', fun σ' H' q => ⟨n, Nat.lt_succ_self n, q⟩, ?_⟩
      have f23 := f2.trans f3
      exact ⟨env2, m3, _, eo2.mono f3, s3, h3, fun env' m' σ' H' a1 a2 a3 a4 => ⟨env', m', a2, a3, f23.trans a4, a1⟩, fun d m' v H' a1 a2 a3 a4 => k2 d m' v H' a1 (f23.trans a2) a3 a4,
        fun env' m' σ' H' a1 a2 a3 a4 => k1 env' m' σ' H' a1 a2 a3 (f23.trans a4), fun env' m' σ' H' a1 a2 a3 a4 => ⟨env', m', a2, a3, f23.trans a4, a1⟩⟩
    | false =>
      simp only [Bool.false_eq_true, if_false] at h3 ⊢
      exact k1 env2 m3 σ2 H3 h3 (eo2.mono f3) s3 (f2.trans f3)⟩
/-! comprehensions -/
structure DTs (X : Cx) (es : List Expr) (t : DTT) : Prop where run : PTs X es (liftT X.K t)
def tYe : DTT := fun _ m Q => Q true m
theorem dts_nil : DTs X [] tYe := ⟨⟨fun pins s σ H Q I h => by
  obtain ⟨env, m, R, eo, sm, h, k⟩ := h
  exact (pts_nil (X := X)).run pins s σ H Q I (k true m H h Fr.refl sm)⟩⟩
theorem dts_one {c : Expr} {t : DTT} (h : DT X c t) : DTs X [c] t := ⟨pts_one h.run⟩
/-- the new list stands at p -/
def lcD (p : Addr) (g : Tgt) (tt : DTT) (te : DTE) (env : Env) (Q : M → Prop) : List D → M → Prop
  | [], m => Q m
  | d :: ds, m => tgD g d env m fun env' m' => tt env' m' fun b m2 => if b = true then te env' m2 fun y m3 => ∃ acc, m3 p = some (.lst acc) ∧ acc.length < sizeLine ∧ lcD p g tt te env Q ds (updM m3 p (.lst (acc ++ [y]))) else lcD p g tt te env Q ds m2
def tLcM (ti : DTI) (g : Tgt) (tt : DTT) (te : DTE) (vs : List Nat) : DTE := fun env m Q => ti env m fun ds m1 => ∀ p, m1 p = none → lcD p g tt te (wipeD env vs) (fun m2 => Q (.ref p) m2) ds (updM m1 p (.lst []))
theorem wipe_sub {vs : List Nat} : ∀ {ws : List Nat} {σ : L2.St}, (∀ i ∈ ws, i ∈ vs) → L2.wipe (L2.wipe σ ws) vs = L2.wipe σ vs
  | [], σ, _ => rfl
  | i :: ws, σ, h => by
    show L2.wipe ((L2.wipe σ ws).set i none) vs = _
    rw [wipe_set (h i List.mem_cons_self), wipe_sub fun j hj => h j (List.mem_cons_of_mem _ hj)]
theorem lc_core {g : Tgt} {tt : DTT} {vs : List Nat} (hg : ∀ i ∈ g.ix, i ∈ vs) {σ : L2.St} {env : Env} {m1 : M} {H1 : Hp} {J : It} {ds : List D} {Q : VK} {R : DK} (eo : EnvOk X.K m1 H1 σ env) (s1 : Sim X.K m1 H1) (it : Items X.K J ds m1 H1)
    (h1 : ∀ p, m1 p = none → lcD p g tt te (wipeD env vs) (fun m2 => R (.ref p) m2) ds (updM m1 p (.lst []))) (k : ∀ d m' v H', R d m' → Fr m1 H1 m' H' → Sim X.K m' H' → Rep X.K m' H' d v → Q v H') :
    ∀ Dz, H1 Dz = none → ∃ W : Nat → Nat → Hp → Prop, (∃ n, W 0 n (upd H1 Dz (.lst []))) ∧ ∀ i n H, W i n H → (J.stop i H ∧ Q (.ref Dz) H) ∨ (J.go i H ∧ ∃ Nx : Hp → Prop, (∀ H', Nx H' → ∃ n', n' < n ∧ W (i + 1) n' H') ∧
      ∀ x H', J.yld i H x H' → tgR X.K g x (L2.wipe σ vs) H' fun σ2 H2 => L2.wipe σ2 vs = L2.wipe σ vs ∧ liftT X.K tt σ2 H2 fun b H3 =>
        if b = true then liftE X.K te σ2 H3 fun y H4 => ∃ acc, H4 Dz = some (.lst acc) ∧ acc.length < sizeLine ∧ Nx (upd H4 Dz (.lst (acc ++ [y]))) else Nx H3) := by
  intro D hD
  have mD : m1 D = none := s1.free hD
  refine ⟨fun i n H => n = ds.length - i ∧ i ≤ ds.length ∧ ∃ m, Sim X.K m H ∧ Fr m1 H1 m H ∧ lcD D g tt te (wipeD env vs) (fun m2 => R (.ref D) m2) (ds.drop i) m,
    ⟨_, rfl, Nat.zero_le _, _, new_lstM s1 hD .nil, Fr.laidM s1 hD, h1 D mD⟩, ?_⟩
  rintro i n H2 ⟨rfl, hi, m2, s2, f2, h2⟩
  obtain ⟨go, stop⟩ := it i m2 H2 f2 s2
  by_cases hlt : i < ds.length
  · obtain ⟨g1, g2⟩ := go ds[i] (by simp [hlt])
    have ed : ds.drop i = ds[i] :: ds.drop (i + 1) := List.drop_eq_getElem_cons hlt
    rw [ed] at h2
    refine .inr ⟨g1, fun H' => ∃ m, Sim X.K m H' ∧ Fr m1 H1 m H' ∧ lcD D g tt te (wipeD env vs) (fun m2 => R (.ref D) m2) (ds.drop (i + 1)) m,
      fun H' q => ⟨ds.length - (i + 1), by omega, rfl, hlt, q⟩, fun x H' y => ?_⟩
    obtain ⟨f3, s3, r3⟩ := g2 x H' y
    have h2 : tgD g ds[i] (wipeD env vs) m2 _ := h2
    refine tg_run r3 (((eo.mono f2).wipe vs).mono f3) s3 h2 fun env4 σ4 h4 eo4 wp => ?_
    refine ⟨by rw [wp vs hg]; exact wipe_sub fun i hi => hi, env4, m2, _, eo4, s3, h4, fun b m5 H5 h5 f5 s5 => ?_⟩
    have f35 := f3.trans f5
    cases b with
    | true =>
      simp only [if_true] at h5 ⊢
      refine ⟨env4, m5, _, eo4.mono f5, s5, h5, fun z m6 zv H6 h6 f6 s6 r6 => ?_⟩
      obtain ⟨acc, ea, hz, h6⟩ := h6
      obtain ⟨ws, hD6, ra⟩ := s6 D _ ea
      have fw : Fr m6 H6 (updM m6 D (.lst (acc ++ [z]))) (upd H6 D (.lst (ws ++ [zv]))) := Fr.write ea
      exact ⟨ws, hD6, by rw [← ra.length]; exact hz, _, s6.write (d := .lst (acc ++ [z])) ea ⟨_, upd_same, RepL.mono fw _ _ (ra.snoc r6)⟩, (f2.trans (f35.trans f6)).trans fw, h6⟩
    | false =>
      simp only [Bool.false_eq_true, if_false] at h5 ⊢
      exact ⟨m5, s5, f2.trans f35, h5⟩
  · have e : i = ds.length := by omega
    subst e
    rw [List.drop_length] at h2
    exact .inl ⟨stop rfl, k (.ref D) m2 _ H2 h2 f2 s2 rep_ref⟩
theorem lc_lift {g : Tgt} {tt : DTT} {ti : DTI} {vs : List Nat} (hg : ∀ i ∈ g.ix, i ∈ vs) {σ : L2.St} {H : Hp} {Q : VK} (h : liftE X.K (tLcM ti g tt te vs) σ H Q) : L2.tLc (liftI X.K ti) (tgR X.K g) (liftT X.K tt) (liftE X.K te) vs σ H Q := by
  obtain ⟨env, m, R, eo, s, h, k⟩ := h
  refine ⟨env, m, _, eo, s, h, fun ds m1 J H1 h1 f1 s1 it => ?_⟩
  exact lc_core hg (eo.mono f1) s1 it h1 fun d m' v H' a1 a2 a3 a4 => k d m' v H' a1 (f1.trans a2) a3 a4
theorem frz_lift {K : PySem.W.Frag} {te : DTE} {σ : L2.St} {H : Hp} {Q : VK} (h : liftE K (tFrz te) σ H Q) : liftE K te σ H Q := by
  obtain ⟨env, m, R, eo, s, h, k⟩ := h
  refine ⟨env, m, _, eo, s, h, fun d m1 v H1 h1 f1 s1 r1 => ?_⟩
  split at h1
  · obtain ⟨c, e, h1⟩ := h1
    simp only [Rep] at r1
    subst r1
    exact k c _ _ H1 h1 (f1.trans Fr.frozen) s1.frozen (rep_frozen s1 e)
  · exact k _ m1 v H1 h1 f1 s1 r1
abbrev Blk (X : Cx) (scope : Scope) (s : Shared) (H : Hp) (C : Addr) (cl : List (Str × Addr)) (fp : List Addr) : Cx := X.blk s H scope (compEnvC scope cl C X.env) fp
theorem de_lc {scope : Scope} {own : List (Str × Nat)} {ti : DTI} {g : Tgt} {tt : DTT} (hi : DI X tg iter ti) (ok : BlkOk X.N X.env.scope scope own) (hN : X.N.Nodup) (hc : X.calm = true)
    (hg : ∀ (s : Shared) (H : Hp) (C : Addr) (cl : List (Str × Addr)) (fp : List Addr), DGt (Blk X scope s H C cl fp) tg g) (ht : ∀ (s : Shared) (H : Hp) (C : Addr) (cl : List (Str × Addr)) (fp : List Addr), DTs (Blk X scope s H C cl fp) ifs tt)
    (he : ∀ (s : Shared) (H : Hp) (C : Addr) (cl : List (Str × Addr)) (fp : List Addr), DE (Blk X scope s H C cl fp) elt te) (hv : ∀ i ∈ g.ix, i ∈ own.map (·.2) := by decide) (hs : ∀ x, foldedSetIterable iter X.env x = pure x := by intro _; rfl) :
    DE X (.ListComp elt [⟨tg, iter, ifs, 0⟩] scope pos) (tLcM ti g tt te (own.map (·.2))) :=
  ⟨PE.weak (pe_lc hc hN hi.run ok (fun s H C cl fp => (hg s H C cl fp).run) (fun s H C cl fp => (ht s H C cl fp).run) (fun s H C cl fp => (he s H C cl fp).run) hs) fun σ H Q h => lc_lift hv h⟩
theorem ds_setLc {j : Nat} {y : Str} {py spos : Pos} {scope : Scope} {own : List (Str × Nat)} {ti : DTI} {g : Tgt} {tt : DTT} (hi : DI X tg iter ti) (ok : BlkOk X.N X.env.scope scope own) (hN : X.N.Nodup) (hc : X.calm = true)
    (hg : ∀ (s : Shared) (H : Hp) (C : Addr) (cl : List (Str × Addr)) (fp : List Addr), DGt (Blk X scope s H C cl fp) tg g) (ht : ∀ (s : Shared) (H : Hp) (C : Addr) (cl : List (Str × Addr)) (fp : List Addr), DTs (Blk X scope s H C cl fp) ifs tt)
    (he : ∀ (s : Shared) (H : Hp) (C : Addr) (cl : List (Str × Addr)) (fp : List Addr), DE (Blk X scope s H C cl fp) elt te) (fz : Bool)
    (hsw : swapsWith (.ListComp elt [⟨tg, iter, ifs, 0⟩] scope pos) (some (.Name y py)) spos.line X.env = pure true) (hv : ∀ i ∈ g.ix, i ∈ own.map (·.2) := by decide) (hy : X.N[j]? = some y := by rfl) (hyl : X.env.scope.names.lookup y = some .local := by rfl)
    (hs : ∀ x, foldedSetIterable iter X.env x = pure x := by intro _; rfl) :
    DS X (.Assign [.Name y py] (.ListComp elt [⟨tg, iter, ifs, 0⟩] scope pos) spos) (tSet j (if fz = true then tFrz (tLcM ti g tt te (own.map (·.2))) else tLcM ti g tt te (own.map (·.2)))) :=
  ⟨PS.weak (ps_setLc hc hN hy hyl hsw hi.run ok (fun s H C cl fp => (hg s H C cl fp).run) (fun s H C cl fp => (ht s H C cl fp).run) (fun s H C cl fp => (he s H C cl fp).run) hs) fun D σ H h =>
    set_lift (fun σ H Q q => lc_lift hv (by
      cases fz with
      | true => exact frz_lift q
      | false => exact q)) h⟩
end
end DL
/-! ### DL8: defs, calls, methods, classes -/
namespace DL
open PySem PySem.Spec PyProof.Rows L2

/-- room for calls, and no guard runs -/
structure RoomG (k : Nat) (A : Around) : Prop where
  r : Room k A
  g : A.guards = some []
theorem RoomG.mono {j k : Nat} {A : Around} (r : RoomG k A) (h : j ≤ k) : RoomG j A := ⟨r.r.mono h, r.g⟩
theorem RoomG.make {k : Nat} {A : Around} (r : RoomG (k + 1) A) (C : Addr) (us : List Value) (kw : List (Str × Value)) : RoomG k (A.under (.builtin "type.__call__" ⟨.ref C :: us, kw⟩)) :=
  ⟨r.r.make C us kw, by
    have g := r.g
    first
      | exact g
      | (simp only [Around.under, g]; rfl)
      | (simp [Around.under, Code.guards, Code.isGuard, pushGuards, g])⟩
/-- a promise by positional values, where no guard runs -/
def FnG (P : Program) (w : World) (K : PySem.W.Frag) (mg : Str → Option Value) (base : Heap) (CX : CXT) (k : Nat) (f : Addr) (sp : Sp) : Prop :=
  ∀ (A : Around) (outer : List PySem.Env) (s : Shared) (H : Hp) (us : List Value) (vs : List V) (Q : VK) (E : XK), RoomG k A → Env0 P w K mg base A outer s H → Vals vs us → sp vs H Q E →
    codeAny (model P w) A (.call (.ref f) ⟨us, []⟩) (CR CX outer P w H s Q E) s
theorem FnG.imp {P : Program} {w : World} {K : PySem.W.Frag} {mg : Str → Option Value} {base : Heap} {CX : CXT} {k : Nat} {f : Addr} {sp sp' : Sp} (F : FnG P w K mg base CX k f sp) (h : ∀ vs H Q E, sp' vs H Q E → sp vs H Q E) : FnG P w K mg base CX k f sp' :=
  fun A outer s H us vs Q E hr e0 r q => F A outer s H us vs Q E hr e0 r (h _ _ _ _ q)
theorem FnG.mono {P : Program} {w : World} {K : PySem.W.Frag} {mg : Str → Option Value} {base : Heap} {CX : CXT} {j k : Nat} {f : Addr} {sp : Sp} (F : FnG P w K mg base CX j f sp) (h : j ≤ k) : FnG P w K mg base CX k f sp :=
  fun A outer s H us vs Q E hr e0 r q => F A outer s H us vs Q E (hr.mono h) e0 r q
/-- the ends of a def's body -/
def bodyEnds (R : DK) : DEnds := { nx := fun _ m => R .non m, rt := R }
section
variable {P : Program} {w : World} {K : PySem.W.Frag} {mg : Str → Option Value} {base : Heap}
theorem liftSp_imp {sp sp' : DSp} (h : ∀ ds m R, sp' ds m R → sp ds m R) : ∀ vs H Q E, liftSp K sp' vs H Q E → liftSp K sp vs H Q E := fun vs H Q E ⟨ds, m, R, r, s, q, k⟩ => ⟨ds, m, R, r, s, h _ _ _ q, k⟩
theorem body_lift {N : List Str} {t : DTS} {ds : List D} {vs : List V} {m : M} {R : DK} {H : Hp} {Q : VK} (r : RepL K m H ds vs) (s : Sim K m H) (h : t (startD N.length ds) m (bodyEnds R))
    (k : ∀ d m' v H', R d m' → Fr m H m' H' → Sim K m' H' → Rep K m' H' d v → Q v H') : liftS K t { nx := fun _ H' => Q .non H', rt := Q } (L2.start N vs) H :=
  ⟨_, m, _, EnvOk.start r, s, h, fun env' m' σ' H' a1 a2 a3 a4 => k .non m' .non H' a1 a4 a3 rep_non, fun d m' v H' a1 a2 a3 a4 => k d m' v H' a1 a2 a3 a4, fun _ _ _ _ z => z.elim, fun _ _ _ _ z => z.elim⟩
theorem fn_mk {x qual : Str} {st : Stmt} {f : Addr} {fd : FuncData} {N ps : List Str} {k : Nat} {sp : DSp} {t : DTS} (F : Fun K x qual st f fd) (S : FnScope N ps (defScope st)) (hb : Binds K fd ps []) (hn : ∀ ds m R, sp ds m R → ds.length = ps.length)
    (hbody : ∀ (cdv : Value) (A : Around) (outer : List PySem.Env) (s : Shared) (H : Hp) (E : XK), RoomG k (A.deeper (envOfC qual (defScope st) s.heap.objs.size f cdv)) → DSs (cxOf CX0 P w K mg base N qual (defScope st) f cdv A outer s H E).nox (defBody st) t)
    (hsp : ∀ ds m R, sp ds m R → t (startD N.length ds) m (bodyEnds R)) : FnG P w K mg base CX0 (k + 1) f (liftSp K sp) := by
  obtain ⟨oc, od, kV, doc, pm, an, cdv, ct, osl, rfl, lk, hcd⟩ := F.ex
  intro A outer s H us vs Q E hr e0 rv ⟨ds, m, R, r, sm, q, kq⟩
  have hl : vs.length = ps.length := by rw [← r.length]; exact hn _ _ _ q
  have kin : K.In s.heap := e0.mod.kin.keeps fun b o e => (e0.bs b o e).1
  have lu : (us ++ ([] : List Value)).length = ps.length := by rw [List.append_nil, ← rv.length]; exact hl
  have hb1 := hb s us kin lu
  rw [List.append_nil] at hb1
  refine StX.run_bnd lk hcd S hr.r e0 (G := fun xs H2 => xs = vs ∧ H2 = H) (fun A' Ex Q' h => hb1 _ _ _ _ (h s H vs us e0 Un.refl rfl (fun _ _ z => z) rv hl ⟨rfl, rfl⟩)) fun s2 H2 xs g hr' => ?_
  obtain ⟨rfl, rfl⟩ := g
  exact ⟨_, (hbody cdv A outer s2 _ E ⟨hr', hr.g⟩).run.nox, body_lift r sm (hsp _ _ _ q) kq⟩
/-- with *rest behind n parameters -/
def spRest (n : Nat) (sp : DSp) : DSp := fun ds m R => n ≤ ds.length ∧ (ds.drop n).length ≤ sizeLine ∧ sp (ds.take n ++ [.tup (ds.drop n)]) m R
theorem fn_mkS {x qual : Str} {st : Stmt} {f : Addr} {fd : FuncData} {N ps : List Str} {pv : Str} {k : Nat} {sp : DSp} {t : DTS} (F : Fun K x qual st f fd) (S : FnScope N (ps ++ [pv]) (defScope st))
    (hb : ∀ (kV doc pm : Value) (an : Option Addr) (cdv ct : Value) (us rest : List Value), us.length = ps.length → bindArgs (PySem.W.fnOf x qual (defArgs st) (defBody st) (defScope st) .none kV doc pm an cdv ct) ⟨us ++ rest, []⟩ = (newTuple rest >>= fun t => pure (ps.zip us ++ [(pv, t)])))
    (hbody : ∀ (cdv : Value) (A : Around) (outer : List PySem.Env) (s : Shared) (H : Hp) (E : XK), RoomG k (A.deeper (envOfC qual (defScope st) s.heap.objs.size f cdv)) → DSs (cxOf CX0 P w K mg base N qual (defScope st) f cdv A outer s H E).nox (defBody st) t)
    (hsp : ∀ ds m R, sp ds m R → t (startD N.length ds) m (bodyEnds R)) : FnG P w K mg base CX0 (k + 1) f (liftSp K (spRest ps.length sp)) := by
  obtain ⟨oc, od, kV, doc, pm, an, cdv, ct, osl, rfl, lk, hcd⟩ := F.ex
  intro A outer s H us vs Q E hr e0 rv ⟨ds, m, R, r, sm, ⟨hn, hz, q⟩, kq⟩
  have lr := r.length
  have lv := rv.length
  have hH : H s.heap.objs.size = none := e0.hok.fresh (Nat.le_refl _)
  have ud : (us.take ps.length).length = ps.length := by rw [List.length_take]; omega
  have eus : us = us.take ps.length ++ us.drop ps.length := (List.take_append_drop _ _).symm
  rw [eus]
  have zr : (vs.drop ps.length).length ≤ sizeLine := by rw [List.length_drop] at hz ⊢; omega
  have rd := rv.drop ps.length
  have rt := rv.take ps.length
  have lw : (vs.take ps.length).length = ps.length := by rw [List.length_take]; omega
  refine StX.run_bnd lk hcd S hr.r e0 (G := fun xs H2 => ∃ p, H p = none ∧ xs = vs.take ps.length ++ [V.ref p] ∧ H2 = upd H p (.tup (vs.drop ps.length))) (fun A' Ex Q' h => ?_) fun s2 H2 xs g hr' => ?_
  · rw [hb kV doc pm an cdv ct _ (us.drop ps.length) ud]
    refine wpAny_bind (wpAny_newTuple (wpAny_pure ?_) (by rw [← rd.length]; exact zr))
    have ok : ObjOk P w (upd H s.heap.objs.size (.tup (vs.drop ps.length))) (s.heap.push ({ cls := .type "tuple", data := .seq (us.drop ps.length).toArray } : Obj)) s.heap.objs.size (.tup (vs.drop ps.length)) :=
      ⟨zr, _, rd, ⟨_, Heap.get?_push_size _ rfl, rfl, _, rfl⟩⟩
    have un : Un (frs outer) [] H (upd H s.heap.objs.size (.tup (vs.drop ps.length))) s.heap (s.heap.push ({ cls := .type "tuple", data := .seq (us.drop ps.length).toArray } : Obj)) := StX.un_laid hH
    have z := h _ _ (vs.take ps.length ++ [V.ref s.heap.objs.size]) (us.take ps.length ++ [Value.ref s.heap.objs.size]) (StX.env0_laid e0 ok) un rfl (fun _ _ z => z.elim) (rt.append (.cons rfl .nil)) (by rw [List.length_append, List.length_append, lw]; rfl) ⟨_, hH, rfl, rfl⟩
    rwa [List.zip_append ud.symm] at z
  · obtain ⟨p, hp, rfl, rfl⟩ := g
    refine ⟨_, (hbody cdv A outer s2 _ E ⟨hr', hr.g⟩).run.nox, body_lift (ds := ds.take ps.length ++ [.tup (ds.drop ps.length)]) ?_ (sm.laid hp) (hsp _ _ _ q) fun d m' v H' a1 a2 a3 a4 => kq d m' v H' a1 ((Fr.laid sm hp).trans a2) a3 a4⟩
    exact RepL.append (RepL.mono (Fr.laid sm hp) _ _ (r.take _)) (.cons (new_tup sm hp (r.drop _)) .nil)
end

/-- a def of the module that may be called -/
structure Cal (X : Cx) (x : Str) (k : Nat) (sp : DSp) : Prop where
  ex : ∃ f, X.mg x = some (.ref f) ∧ PySem.W.keepIn X.K (.ref f) = true ∧ FnG X.prog X.w X.K X.mg X.base CX0 k f (liftSp X.K sp)
/-- a method of the class at C -/
structure CalM (X : Cx) (C : Addr) (m : Str) (k : Nat) (sp : DSp) : Prop where
  ex : ∃ f, Meth X.K C m f ∧ FnG X.prog X.w X.K X.mg X.base CX0 k f (liftSp X.K sp)
/-- the making of an instance -/
structure CalC (X : Cx) (C : Addr) (k : Nat) (sp : DSp) : Prop where
  ex : ∃ f, Mk X.K C f ∧ FnG X.prog X.w X.K X.mg X.base CX0 k f (liftSp X.K sp)
/-- a class method of the class at C -/
structure CalK (X : Cx) (C : Addr) (m : Str) (k : Nat) (sp : DSp) : Prop where
  ex : ∃ mc p g, ClX.CRead X.K C mc ∧ ClX.CMet X.K C mc m p g ∧ FnG X.prog X.w X.K X.mg X.base CX0 k g (liftSp X.K sp)
section
variable {X : Cx} {k : Nat} {sp : DSp} {C : Addr} {x m : Str} {p pos apos : Pos} {e o : Expr} {es : List Expr} {te ta : DTE} {t : DTA}
def tCl (sp : DSp) (t : DTA) : DTE := fun env m Q => t env m fun ds m1 => sp ds m1 Q
theorem run_fnC {pins : List (Addr × Obj)} {σ : L2.St} {H : Hp} {s : Shared} {CX : CXT} {f : Addr} {sp : Sp} {E : XK} {Q : VK} {us : List Value} {vs : List V} (F : FnG X.prog X.w X.K X.mg X.base CX k f sp) (hr : RoomG k X.A) (hx : Passes CX X E) (I : Inv X pins σ H s) (r : Vals vs us)
    (q : sp vs H Q E) : codeAny (model X.prog X.w) X.A (.call (.ref f) ⟨us, []⟩) (fun r s' => match r with | .ok (.ret v) => EP X pins σ Q v s' | .ok _ => False | .error e => X.xe e s') s :=
  codeAny_mono (F X.A X.stack s H us vs Q E hr I.env0 r q) fun res s' h => match res, h with
    | .error e, h => hx pins σ H s e s' I h
    | .ok (.ret u), h => I.after h
    | .ok .next, h => h.elim
    | .ok .brk, h => h.elim
    | .ok .cont, h => h.elim
theorem run_fnG {pins : List (Addr × Obj)} {σ : L2.St} {H : Hp} {s : Shared} {CX : CXT} {f : Addr} {sp : Sp} {E : XK} {Q : VK} {us : List Value} {vs : List V} (F : FnG X.prog X.w X.K X.mg X.base CX k f sp) (hr : RoomG k X.A) (hx : Passes CX X E) (I : Inv X pins σ H s) (r : Vals vs us)
    (q : sp vs H Q E) : wpAny (model X.prog X.w) X.A (call (.ref f) us) (EP X pins σ Q) X.xe s := wpAny_call (run_fnC F hr hx I r q)
/-- a new instance, its __init__ by the promise -/
theorem run_makeG {pins : List (Addr × Obj)} {σ : L2.St} {H : Hp} {s : Shared} {CX : CXT} {f : Addr} {sp : Sp} {E : XK} {Q : VK} {us : List Value} {vs : List V} (M0 : Mk X.K C f) (F : FnG X.prog X.w X.K X.mg X.base CX k f sp) (hr : RoomG (k + 1) X.A) (hx : Passes CX X E) (I : Inv X pins σ H s) (r : Vals vs us)
    (h : ∀ x dx, H x = none → H dx = none → dx ≠ x → sp (V.ref x :: vs) (upd (upd H dx (.own x)) x (.ins C dx [])) (fun v H2 => v = .non ∧ Q (.ref x) H2) E) : wpAny (model X.prog X.w) X.A (call (.ref C) us) (EP X pins σ Q) X.xe s := by
  have J := Inv.made (C := C) I
  have q := h (s.heap.objs.size + 1) s.heap.objs.size (I.hok.fresh (Nat.le_succ _)) (I.hok.fresh (Nat.le_refl _)) (Nat.ne_of_lt (Nat.lt_succ_self _))
  refine wpAny_call (make_map (f := f) I.kIn M0.makes M0.init (beq_iff_eq.mp M0.fn) (codeAny_mono (F _ X.stack _ _ (Value.ref (s.heap.objs.size + 1) :: us) _ _ E (hr.make C us []) (J.env0.make C us []) (show Vals (V.ref (s.heap.objs.size + 1) :: vs) (Value.ref (s.heap.objs.size + 1) :: us) from .cons rfl r) q) fun res s' h => ?_))
  match res, h with
  | .error e, h => exact hx pins σ _ _ e s' J h
  | .ok (.ret u), h =>
    obtain ⟨v, H', J', rv, ev, q'⟩ := J.after h
    subst ev
    exact ⟨rv, V.ref (s.heap.objs.size + 1), H', J', rfl, q'⟩
  | .ok .next, h => exact h.elim
  | .ok .brk, h => exact h.elim
  | .ok .cont, h => exact h.elim
theorem pe_callR {f : Addr} {sp : Sp} {E : XK} {t : TA} {CX : CXT} (F : FnG X.prog X.w X.K X.mg X.base CX k f sp) (hr : RoomG k X.A) (hk : PySem.W.keepIn X.K (.ref f) = true) (hg : Gl X x) (hm : X.mg x = some (.ref f)) (hx : Passes CX X E) (ha : PA X (e :: es) t)
    (hd : (x == ("__debug__" : Str)) = false := by decide) (he : starEach (e :: es) X.env = (false, eval e X.env) :: starEach es X.env := by rfl) (hpl : (backTo pos (starEach es X.env)).any (·.1) = false := by rfl) :
    PE X (.Call (.Name x p) (e :: es) [] pos) (fun σ H Q => t σ H fun vs H1 => sp vs H1 Q E) := by
  refine ⟨fun pins s σ H Q I h => ?_⟩
  refine wpAny_Call_Name_kw (ld_glob I hg hm ?_ hd)
  refine PySem.W.callWith_K (h₀ := X.base) I.ok.mod.kin hk (thn (ha.run pos pins s σ H _ I h) fun us s1 ⟨vs, H1, I1, r, q⟩ => ⟨I1.kIn, ?_⟩) he hpl
  exact run_fnG F hr hx I1 r q
theorem pe_callR0 {f : Addr} {sp : Sp} {E : XK} {CX : CXT} (F : FnG X.prog X.w X.K X.mg X.base CX k f sp) (hr : RoomG k X.A) (hk : PySem.W.keepIn X.K (.ref f) = true) (hg : Gl X x) (hm : X.mg x = some (.ref f)) (hx : Passes CX X E)
    (hd : (x == ("__debug__" : Str)) = false := by decide) : PE X (.Call (.Name x p) [] [] pos) (fun σ H Q => sp [] H Q E) := by
  refine ⟨fun pins s σ H Q I h => ?_⟩
  refine wpAny_Call_Name_kw (ld_glob I hg hm ?_ hd)
  exact PySem.W.callWith_K0 I.kIn hk (run_fnG F hr hx I .nil h)
theorem cl_lift {σ : L2.St} {H : Hp} {Q : VK} (h : liftE X.K (tCl sp t) σ H Q) : liftA X.K t σ H fun vs H1 => liftSp X.K sp vs H1 Q E0 := by
  obtain ⟨env, m, R, eo, s, h, k⟩ := h
  refine ⟨env, m, _, eo, s, h, fun ds m1 vs H1 h1 f1 s1 r1 => ?_⟩
  exact ⟨ds, m1, R, r1, s1, h1, fun d m' v H' a1 a2 a3 a4 => k d m' v H' a1 (f1.trans a2) a3 a4⟩
theorem de_call (c : Cal X x k sp) (hr : RoomG k X.A) (ha : DA X (e :: es) t) (hg : Gl X x := by rfl) (hd : (x == ("__debug__" : Str)) = false := by decide) (he : starEach (e :: es) X.env = (false, eval e X.env) :: starEach es X.env := by rfl)
    (hpl : (backTo pos (starEach es X.env)).any (·.1) = false := by rfl) : DE X (.Call (.Name x p) (e :: es) [] pos) (tCl sp t) := by
  obtain ⟨f, h1, h2, F⟩ := c.ex
  exact ⟨PE.weak (pe_callR F hr h2 hg h1 pass0 ha.run hd he hpl) fun σ H Q h => cl_lift h⟩
theorem de_call0 (c : Cal X x k sp) (hr : RoomG k X.A) (hg : Gl X x := by rfl) (hd : (x == ("__debug__" : Str)) = false := by decide) : DE X (.Call (.Name x p) [] [] pos) (tCl sp tA0) := by
  obtain ⟨f, h1, h2, F⟩ := c.ex
  exact ⟨PE.weak (pe_callR0 F hr h2 hg h1 pass0 hd) fun σ H Q h => by
    obtain ⟨env, m, R, eo, s, h, k⟩ := h
    exact ⟨[], m, R, .nil, s, h, fun d m' v H' a1 a2 a3 a4 => k d m' v H' a1 a2 a3 a4⟩⟩
/-! methods -/
def tMt (C : Addr) (m : Str) (sp : DSp) (ta : DTE) (t : DTA) : DTE := fun env st Q => ta env st fun o m1 => ∃ ns vs, look m1 o = .ins C ns vs ∧ m ∉ ns ∧ t env m1 fun ds m2 => sp (o :: ds) m2 Q
theorem lookup_none {α : Type} {f : Str} : ∀ {fs : List (Str × α)}, f ∉ fs.map (·.1) → fs.lookup f = none
  | [], _ => rfl
  | (g, v) :: fs, h => by
    simp only [List.map_cons, List.mem_cons, not_or] at h
    have : (f == g) = false := beq_eq_false_iff_ne.mpr h.1
    simp only [List.lookup, this]
    exact lookup_none h.2
theorem pe_methG {C f : Addr} {sp : Sp} {E : XK} {CX : CXT} {ta : TE} {t : TA} {pl : Sem Bool} (he : PE X o ta) (c : Cls X.K C) (hm : Meth X.K C m f) (F : FnG X.prog X.w X.K X.mg X.base CX k f sp) (hr : RoomG k X.A) (hx : Passes CX X E) (ha : PA X (e :: es) t)
    (hst : starEach (e :: es) X.env = (false, eval e X.env) :: starEach es X.env := by rfl) (hpl : (backTo pos (starEach es X.env)).any (·.1) = false := by rfl)
    (ht : eval (.Call (.Attribute o m apos) (e :: es) [] pos) X.env = (do
      let ov ← eval o X.env
      standAt apos.atName
      let (f, first) ← holding [ov] (getMethod ov m pl)
      callWith pos f first (backTo pos (starEach (e :: es) X.env)) (backToKw pos (keywordEach [] X.env))) := by rfl) :
    PE X (.Call (.Attribute o m apos) (e :: es) [] pos) (tMethR C m sp E ta t) := by
  refine ⟨fun pins s σ H Q I h => PySem.W.methodCall_KW (pl := pl) (thn (he.run pins s σ H _ I h) fun u s1 hx1 => ?_) ht⟩
  obtain ⟨x, H1, I1, rx, a, dx, fs, rfl, ea, l, q⟩ := hx1
  obtain rfl : u = Value.ref a := rx
  refine getmeth_ok I1 ea c hm l (PySem.W.callWith_K (first := [.ref a]) (h₀ := X.base) I.ok.mod.kin hm.kp (thn (ha.run pos pins s1 σ H1 _ I1 q) fun us s2 hx2 => ?_) hst hpl)
  obtain ⟨vs, H2, I2, r, q2⟩ := hx2
  exact ⟨I2.kIn, run_fnG (us := .ref a :: us) (vs := .ref a :: vs) F hr hx I2 (.cons rfl r) q2⟩
theorem de_meth {pl : Sem Bool} (c : CalM X C m k sp) (hc : Cls X.K C) (hr : RoomG k X.A) (ho : DE X o ta) (ha : DA X (e :: es) t)
    (hst : starEach (e :: es) X.env = (false, eval e X.env) :: starEach es X.env := by rfl) (hpl : (backTo pos (starEach es X.env)).any (·.1) = false := by rfl)
    (ht : eval (.Call (.Attribute o m apos) (e :: es) [] pos) X.env = (do
      let ov ← eval o X.env
      standAt apos.atName
      let (f, first) ← holding [ov] (getMethod ov m pl)
      callWith pos f first (backTo pos (starEach (e :: es) X.env)) (backToKw pos (keywordEach [] X.env))) := by rfl) :
    DE X (.Call (.Attribute o m apos) (e :: es) [] pos) (tMt C m sp ta t) := by
  obtain ⟨f, hm, F⟩ := c.ex
  refine ⟨PE.weak (pe_methG ho.run hc hm F hr pass0 ha.run hst hpl ht) fun σ H Q h => ?_⟩
  obtain ⟨env, mm, R, eo, s, h, k⟩ := h
  refine ⟨env, mm, _, eo, s, h, fun d m1 v H1 h1 f1 s1 r1 => ?_⟩
  obtain ⟨ns, vs, e1, hn, h1⟩ := h1
  have cc := cont_of s1 r1
  rw [e1] at cc
  obtain ⟨a, dx, fs, rfl, h2, rfl, r2⟩ := cc
  refine ⟨a, dx, fs, rfl, h2, lookup_none hn, env, m1, _, eo.mono f1, s1, h1, fun ds m2 ws H2 h3 f2 s2 r3 => ?_⟩
  exact ⟨d :: ds, m2, R, .cons (Rep.mono f2 _ _ r1) r3, s2, h3, fun d' m' v H' a1 a2 a3 a4 => k d' m' v H' a1 ((f1.trans f2).trans a2) a3 a4⟩
theorem pe_methR0 {C f : Addr} {sp : Sp} {E : XK} {CX : CXT} {ta : TE} {pl : Sem Bool} (he : PE X o ta) (c : Cls X.K C) (hm : Meth X.K C m f) (F : FnG X.prog X.w X.K X.mg X.base CX k f sp) (hr : RoomG k X.A) (hx : Passes CX X E)
    (ht : eval (.Call (.Attribute o m apos) [] [] pos) X.env = (do
      let ov ← eval o X.env
      standAt apos.atName
      let (f, first) ← holding [ov] (getMethod ov m pl)
      callWith pos f first (backTo pos (starEach [] X.env)) (backToKw pos (keywordEach [] X.env))) := by rfl) :
    PE X (.Call (.Attribute o m apos) [] [] pos) (tMethR C m sp E ta tNil) := by
  refine ⟨fun pins s σ H Q I h => ?_⟩
  refine PySem.W.methodCall_KW (pl := pl) (thn (he.run pins s σ H _ I h) fun u s1 ⟨x, H1, I1, rx, a, dx, fs, ex, ea, l, q⟩ => ?_) ht
  subst ex
  obtain rfl : u = Value.ref a := rx
  refine getmeth_ok I1 ea c hm l ?_
  exact PySem.W.callWith_K0 (first := [.ref a]) I1.kIn hm.kp (run_fnG (us := [.ref a]) (vs := [.ref a]) F hr hx I1 (.cons rfl .nil) q)
theorem de_meth0 {pl : Sem Bool} (c : CalM X C m k sp) (hc : Cls X.K C) (hr : RoomG k X.A) (ho : DE X o ta)
    (ht : eval (.Call (.Attribute o m apos) [] [] pos) X.env = (do
      let ov ← eval o X.env
      standAt apos.atName
      let (f, first) ← holding [ov] (getMethod ov m pl)
      callWith pos f first (backTo pos (starEach [] X.env)) (backToKw pos (keywordEach [] X.env))) := by rfl) :
    DE X (.Call (.Attribute o m apos) [] [] pos) (tMt C m sp ta tA0) := by
  obtain ⟨f, hm, F⟩ := c.ex
  refine ⟨PE.weak (pe_methR0 ho.run hc hm F hr pass0 ht) fun σ H Q h => ?_⟩
  obtain ⟨env, mm, R, eo, s, h, k⟩ := h
  refine ⟨env, mm, _, eo, s, h, fun d m1 v H1 h1 f1 s1 r1 => ?_⟩
  obtain ⟨ns, vs, e1, hn, h1⟩ := h1
  have cc := cont_of s1 r1
  rw [e1] at cc
  obtain ⟨a, dx, fs, rfl, h2, rfl, r2⟩ := cc
  exact ⟨a, dx, fs, rfl, h2, lookup_none hn, [d], m1, R, .cons r1 .nil, s1, h1, fun d' m' v H' a1 a2 a3 a4 => k d' m' v H' a1 (f1.trans a2) a3 a4⟩
/-! class methods -/
theorem pe_cmethG {C g q : Addr} {mc : Value} {sp : Sp} {E : XK} {CX : CXT} {ta : TE} {t : TA} {pl : Sem Bool} (he : PE X o ta) (r : ClX.CRead X.K C mc) (c : ClX.CMet X.K C mc m q g) (F : FnG X.prog X.w X.K X.mg X.base CX k g sp) (hr : RoomG k X.A) (hx : Passes CX X E) (ha : PA X (e :: es) t)
    (hst : starEach (e :: es) X.env = (false, eval e X.env) :: starEach es X.env := by rfl) (hpl : (backTo pos (starEach es X.env)).any (·.1) = false := by rfl)
    (ht : eval (.Call (.Attribute o m apos) (e :: es) [] pos) X.env = (do
      let ov ← eval o X.env
      standAt apos.atName
      let (f, first) ← holding [ov] (getMethod ov m pl)
      callWith pos f first (backTo pos (starEach (e :: es) X.env)) (backToKw pos (keywordEach [] X.env))) := by rfl) :
    PE X (.Call (.Attribute o m apos) (e :: es) [] pos) (ClX.tCMeth C sp E ta t) := by
  refine ⟨fun pins s σ H Q I h => PySem.W.methodCall_KW (pl := pl) (thn (he.run pins s σ H _ I h) fun u s1 hx1 => ?_) ht⟩
  obtain ⟨x, H1, I1, rx, rfl, q⟩ := hx1
  obtain rfl : u = Value.ref C := rx
  refine ClX.getmethcm_ok I1 r c fun s2 I2 => ?_
  refine ClX.callwith_cm I2 (ClX.base_none I1 (Nat.le_refl _)) c.fi (thn (ha.run pos _ s2 σ H1 _ I2 q) fun us s3 hx3 => ?_) hst hpl
  obtain ⟨vs, H2, I3, rv, q2⟩ := hx3
  refine ⟨⟨ClX.pin_at I3, I3.kIn⟩, ?_⟩
  exact thn (wpAny_call (PySem.W.method_call (ClX.pin_at I3) (run_fnC (us := .ref C :: us) (vs := .ref C :: vs) F hr hx I3 (.cons rfl rv) q2))) fun _ _ y => ClX.unpinE y
def tCm (C : Addr) (sp : DSp) (t : DTA) : DTE := fun env st Q => t env st fun ds m2 => sp (.ref C :: ds) m2 Q
theorem de_cmeth {pl : Sem Bool} {cx : Str} {cp : Pos} (c : CalK X C m k sp) (hr : RoomG k X.A) (hm : X.mg cx = some (.ref C)) (ha : DA X (e :: es) t) (hg : Gl X cx := by rfl) (hd : (cx == ("__debug__" : Str)) = false := by decide)
    (hst : starEach (e :: es) X.env = (false, eval e X.env) :: starEach es X.env := by rfl) (hpl : (backTo pos (starEach es X.env)).any (·.1) = false := by rfl)
    (ht : eval (.Call (.Attribute (.Name cx cp) m apos) (e :: es) [] pos) X.env = (do
      let ov ← eval (.Name cx cp) X.env
      standAt apos.atName
      let (f, first) ← holding [ov] (getMethod ov m pl)
      callWith pos f first (backTo pos (starEach (e :: es) X.env)) (backToKw pos (keywordEach [] X.env))) := by rfl) :
    DE X (.Call (.Attribute (.Name cx cp) m apos) (e :: es) [] pos) (tCm C sp t) := by
  obtain ⟨mc, q, g, h1, h2, F⟩ := c.ex
  refine ⟨PE.weak (pe_cmethG (pe_glob (v := .ref C) hg hm rfl hd) h1 h2 F hr pass0 ha.run hst hpl ht) fun σ H Q h => ?_⟩
  obtain ⟨env, mm, R, eo, s, h, k⟩ := h
  refine ⟨rfl, env, mm, _, eo, s, h, fun ds m1 vs H1 h1 f1 s1 r1 => ?_⟩
  exact ⟨.ref C :: ds, m1, R, .cons rep_ref r1, s1, h1, fun d' m' v H' a1 a2 a3 a4 => k d' m' v H' a1 (f1.trans a2) a3 a4⟩
/-! instances -/
/-- a new instance, mutable -/
def tNw (C : Addr) (sp : DSp) (t : DTA) : DTE := fun env st Q => t env st fun ds m1 => ∀ x, m1 x = none → sp (.ref x :: ds) (updM m1 x (.ins C [] [])) fun d m2 => d = .non ∧ Q (.ref x) m2
theorem nw_lift {ds : List D} {m1 : M} {vs : List V} {H1 : Hp} {R : DK} {Q : VK} (s1 : Sim X.K m1 H1) (r1 : RepL X.K m1 H1 ds vs)
    (h : ∀ x, m1 x = none → sp (.ref x :: ds) (updM m1 x (.ins C [] [])) fun d m2 => d = .non ∧ R (.ref x) m2)
    (k : ∀ d m' v H', R d m' → Fr m1 H1 m' H' → Sim X.K m' H' → Rep X.K m' H' d v → Q v H') :
    ∀ x dx, H1 x = none → H1 dx = none → dx ≠ x → liftSp X.K sp (V.ref x :: vs) (upd (upd H1 dx (.own x)) x (.ins C dx [])) (fun v H2 => v = .non ∧ Q (.ref x) H2) E0 := by
  intro x dx hx hdx ne
  have f0 := Fr.laid (o := .own x) s1 hdx
  have s2 := s1.laid (o := .own x) hdx
  have hx' : upd H1 dx (.own x) x = none := by rw [upd_ne ne.symm]; exact hx
  have f2 := Fr.laidM (o := .ins C dx []) (d := .ins C [] []) s2 hx'
  have s3 := Sim.laidM (o := .ins C dx []) (d := .ins C [] []) s2 hx' ⟨dx, [], upd_same, rfl, .nil⟩
  refine ⟨.ref x :: ds, _, _, .cons rep_ref (RepL.mono (f0.trans f2) _ _ r1), s3, h x (s1.free hx), fun d m' v H' a1 a2 a3 a4 => ?_⟩
  obtain ⟨rfl, a1⟩ := a1
  exact ⟨by simpa only [Rep] using a4, k _ m' _ H' a1 ((f0.trans f2).trans a2) a3 rep_ref⟩
theorem pe_makeG {f : Addr} {sp : Sp} {E : XK} {CX : CXT} {t : TA} (M0 : Mk X.K C f) (F : FnG X.prog X.w X.K X.mg X.base CX k f sp) (hr : RoomG (k + 1) X.A) (hg : Gl X x) (hm : X.mg x = some (.ref C)) (hx : Passes CX X E) (ha : PA X (e :: es) t) (hdb : (x == ("__debug__" : Str)) = false := by decide)
    (he : starEach (e :: es) X.env = (false, eval e X.env) :: starEach es X.env := by rfl) (hpl : (backTo pos (starEach es X.env)).any (·.1) = false := by rfl) : PE X (.Call (.Name x p) (e :: es) [] pos) (StX.tMakeR C sp E t) := by
  refine ⟨fun pins s σ H Q I h => wpAny_Call_Name_kw (ld_glob I hg hm ?_ hdb)⟩
  refine PySem.W.callWith_K (h₀ := X.base) I.ok.mod.kin M0.kp (thn (ha.run pos pins s σ H _ I h) fun us s1 hx1 => ?_) he hpl
  obtain ⟨vs, H1, I1, r, q⟩ := hx1
  exact ⟨I1.kIn, run_makeG M0 F hr hx I1 r q⟩
theorem de_new (c : CalC X C k sp) (hr : RoomG (k + 1) X.A) (hm : X.mg x = some (.ref C)) (ha : DA X (e :: es) t) (hg : Gl X x := by rfl) (hd : (x == ("__debug__" : Str)) = false := by decide)
    (he : starEach (e :: es) X.env = (false, eval e X.env) :: starEach es X.env := by rfl) (hpl : (backTo pos (starEach es X.env)).any (·.1) = false := by rfl) : DE X (.Call (.Name x p) (e :: es) [] pos) (tNw C sp t) := by
  obtain ⟨f, M0, F⟩ := c.ex
  refine ⟨PE.weak (pe_makeG M0 F hr hg hm pass0 ha.run hd he hpl) fun σ H Q h => ?_⟩
  obtain ⟨env, mm, R, eo, s, h, k⟩ := h
  refine ⟨env, mm, _, eo, s, h, fun ds m1 vs H1 h1 f1 s1 r1 => ?_⟩
  exact nw_lift s1 r1 h1 fun d m' v H' a1 a2 a3 a4 => k d m' v H' a1 (f1.trans a2) a3 a4
theorem pe_makeR0 {f : Addr} {sp : Sp} {E : XK} {CX : CXT} (M0 : Mk X.K C f) (F : FnG X.prog X.w X.K X.mg X.base CX k f sp) (hr : RoomG (k + 1) X.A) (hg : Gl X x) (hm : X.mg x = some (.ref C)) (hx : Passes CX X E) (hdb : (x == ("__debug__" : Str)) = false := by decide) :
    PE X (.Call (.Name x p) [] [] pos) (StX.tMakeR C sp E tNil) := by
  refine ⟨fun pins s σ H Q I h => ?_⟩
  refine wpAny_Call_Name_kw (ld_glob I hg hm ?_ hdb)
  exact PySem.W.callWith_K0 I.kIn M0.kp (run_makeG (us := []) M0 F hr hx I .nil h)
theorem de_new0 (c : CalC X C k sp) (hr : RoomG (k + 1) X.A) (hm : X.mg x = some (.ref C)) (hg : Gl X x := by rfl) (hd : (x == ("__debug__" : Str)) = false := by decide) : DE X (.Call (.Name x p) [] [] pos) (tNw C sp tA0) := by
  obtain ⟨f, M0, F⟩ := c.ex
  refine ⟨PE.weak (pe_makeR0 M0 F hr hg hm pass0 hd) fun σ H Q h => ?_⟩
  obtain ⟨env, mm, R, eo, s, h, k⟩ := h
  exact nw_lift s .nil h fun d m' v H' a1 a2 a3 a4 => k d m' v H' a1 a2 a3 a4
/-! starred arguments -/
def tAS (ta : DTE) (tr : DTA) : DTA := fun env m Q => ta env m fun d m1 => ∃ xs, (look m1 d = .tup xs ∨ look m1 d = .lst xs) ∧ tr env m1 fun ds m2 => Q (xs ++ ds) m2
theorem star_items {K : PySem.W.Frag} {m : M} {H : Hp} {d : D} {v : V} {xs : List D} (c : Cont K m H (look m d) v) (h : look m d = .tup xs ∨ look m d = .lst xs) : ∃ p vs, v = .ref p ∧ (SqT K H p vs ∨ SqL K H p vs) ∧ RepL K m H xs vs := by
  rcases h with e | e <;> rw [e] at c
  · obtain ⟨a, vs, rfl, h, r⟩ := cont_tup c
    exact ⟨a, vs, rfl, .inl (tupAt_sq h), r⟩
  · obtain ⟨a, vs, rfl, h, r⟩ := cont_lst c
    exact ⟨a, vs, rfl, .inr (.of h), r⟩
theorem da_star {tr : DTA} {sp_ : Pos} (ha : DE X e ta) (hr : DA X es tr) (hs : starEach (.Starred e sp_ :: es) X.env = (true, eval e X.env) :: starEach es X.env := by rfl) : DA X (.Starred e sp_ :: es) (tAS ta tr) := ⟨PA.weak (StX.pa_star ha.run hr.run hs) fun σ H Q h => by
  obtain ⟨env, m, R, eo, s, h, k⟩ := h
  refine ⟨env, m, _, eo, s, h, fun d m1 v H1 h1 f1 s1 r1 => ?_⟩
  obtain ⟨xs, e1, h1⟩ := h1
  obtain ⟨q, vs, rfl, hq, rx⟩ := star_items (cont_of s1 r1) e1
  refine ⟨q, vs, rfl, hq, env, m1, _, eo.mono f1, s1, h1, fun ds m2 ws H2 h2 f2 s2 r2 => ?_⟩
  exact k (xs ++ ds) m2 (vs ++ ws) H2 h2 (f1.trans f2) s2 (RepL.append (RepL.mono f2 _ _ rx) r2)⟩
/-- x(e, .., *y) -/
theorem pe_callSG {f : Addr} {sp : Sp} {E : XK} {CX : CXT} {t : TA} (F : FnG X.prog X.w X.K X.mg X.base CX k f sp) (hr : RoomG k X.A) (hk : PySem.W.keepIn X.K (.ref f) = true) (hg : Gl X x) (hm : X.mg x = some (.ref f)) (hx : Passes CX X E) (ha : PA X (e :: es) t) (hd : (x == ("__debug__" : Str)) = false := by decide)
    (he : starEach (e :: es) X.env = (false, eval e X.env) :: starEach es X.env := by rfl) (hst : (backTo pos (starEach es X.env)).any (·.1) = true := by rfl) :
    PE X (.Call (.Name x p) (e :: es) [] pos) (fun σ H Q => t σ H fun vs H1 => sp vs H1 Q E) := by
  refine ⟨fun pins s σ H Q I h => wpAny_Call_Name_kw (ld_glob I hg hm ?_ hd)⟩
  refine PySem.W.callWith_S2 (h₀ := X.base) I.ok.mod.kin hk (thn (ha.run pos pins s σ H _ I h) fun us s1 hx1 => ?_) he hst
  obtain ⟨vs, H1, I1, r, q⟩ := hx1
  exact ⟨I1.kIn, run_fnG F hr hx I1 r q⟩
theorem pe_callS1G {f : Addr} {sp : Sp} {E : XK} {CX : CXT} {te : TE} {sp_ : Pos} (F : FnG X.prog X.w X.K X.mg X.base CX k f sp) (hr : RoomG k X.A) (hk : PySem.W.keepIn X.K (.ref f) = true) (hg : Gl X x) (hm : X.mg x = some (.ref f)) (hx : Passes CX X E) (he : PE X e te) (hd : (x == ("__debug__" : Str)) = false := by decide)
    (hst : starEach [.Starred e sp_] X.env = [(true, eval e X.env)] := by rfl) :
    PE X (.Call (.Name x p) [.Starred e sp_] [] pos) (fun σ H Q => te σ H fun y H1 => ∃ a xs, y = V.ref a ∧ (SqT X.K H1 a xs ∨ SqL X.K H1 a xs) ∧ sp xs H1 Q E) := by
  refine ⟨fun pins s σ H Q I h => wpAny_Call_Name_kw (ld_glob I hg hm ?_ hd)⟩
  refine PySem.W.callWith_S (h₀ := X.base) I.ok.mod.kin hk (thn (he.run pins s σ H _ I h) fun v s1 hx1 => ?_) hst
  obtain ⟨y, H1, I1, ry, a, xs, rfl, hxs, q⟩ := hx1
  obtain rfl : v = Value.ref a := ry
  exact StX.star_any I1 hxs fun us s2 I2 rv => ⟨I2.kIn, run_fnG F hr hx I2 rv q⟩
theorem de_callS2 (c : Cal X x k sp) (hr : RoomG k X.A) (ha : DA X (e :: es) t) (hg : Gl X x := by rfl) (hd : (x == ("__debug__" : Str)) = false := by decide) (he : starEach (e :: es) X.env = (false, eval e X.env) :: starEach es X.env := by rfl)
    (hst : (backTo pos (starEach es X.env)).any (·.1) = true := by rfl) : DE X (.Call (.Name x p) (e :: es) [] pos) (tCl sp t) := by
  obtain ⟨f, h1, h2, F⟩ := c.ex
  exact ⟨PE.weak (pe_callSG F hr h2 hg h1 pass0 ha.run hd he hst) fun σ H Q h => cl_lift h⟩
/-- x(*y) -/
theorem de_callS1 {sp_ : Pos} (c : Cal X x k sp) (hr : RoomG k X.A) (ha : DE X e ta) (hg : Gl X x := by rfl) (hd : (x == ("__debug__" : Str)) = false := by decide) (hst : starEach [.Starred e sp_] X.env = [(true, eval e X.env)] := by rfl) :
    DE X (.Call (.Name x p) [.Starred e sp_] [] pos) (tCl sp (tAS ta tA0)) := by
  obtain ⟨f, h1, h2, F⟩ := c.ex
  refine ⟨PE.weak (pe_callS1G F hr h2 hg h1 pass0 ha.run hd hst) fun σ H Q h => ?_⟩
  obtain ⟨env, m, R, eo, s, h, k⟩ := h
  refine ⟨env, m, _, eo, s, h, fun d m1 v H1 h1 f1 s1 r1 => ?_⟩
  obtain ⟨xs, e1, h1⟩ := h1
  obtain ⟨q, vs, rfl, hq, rx⟩ := star_items (cont_of s1 r1) e1
  have h1 : sp (xs ++ []) m1 R := h1
  rw [List.append_nil] at h1
  exact ⟨q, vs, rfl, hq, xs, m1, R, rx, s1, h1, fun d m' v H' a1 a2 a3 a4 => k d m' v H' a1 (f1.trans a2) a3 a4⟩
/-- C(*y), C a class, by a global or by a name of the def -/
theorem pe_newS {f : Addr} {sp : Sp} {E : XK} {CX : CXT} {fe : Expr} {te tf : TE} {sp_ : Pos} (M0 : Mk X.K C f) (F : FnG X.prog X.w X.K X.mg X.base CX k f sp) (hr : RoomG (k + 1) X.A) (hx : Passes CX X E) (hf : PE X (.Name x p) tf) (he : PE X e te)
    (hst : starEach [.Starred e sp_] X.env = [(true, eval e X.env)] := by rfl) :
    PE X (.Call (.Name x p) [.Starred e sp_] [] pos) (fun σ H Q => tf σ H fun z H0 => z = .ref C ∧ te σ H0 fun y H1 => ∃ a xs, y = V.ref a ∧ (SqT X.K H1 a xs ∨ SqL X.K H1 a xs) ∧ ∀ x dx, H1 x = Option.none → H1 dx = Option.none → dx ≠ x →
      sp (V.ref x :: xs) (upd (upd H1 dx (.own x)) x (.ins C dx [])) (fun v H2 => v = .non ∧ Q (.ref x) H2) E) := by
  refine ⟨fun pins s σ H Q I h => ?_⟩
  refine wpAny_Call_Name_kw (thn (hf.run pins s σ H _ I h) fun u s0 ⟨z, H0, I0, rz, ez, q0⟩ => ?_)
  subst ez
  obtain rfl : u = Value.ref C := rz
  refine PySem.W.callWith_S (h₀ := X.base) I.ok.mod.kin M0.kp (thn (he.run pins s0 σ H0 _ I0 q0) fun v s1 ⟨y, H1, I1, ry, a, xs, ey, hxs, q⟩ => ?_) hst
  subst ey
  obtain rfl : v = Value.ref a := ry
  exact StX.star_any I1 hxs fun us s2 I2 rv => ⟨I2.kIn, run_makeG M0 F hr hx I2 rv q⟩
def tNwF (C : Addr) (sp : DSp) (tf : DTE) (t : DTA) : DTE := fun env st Q => tf env st fun z m0 => z = .ref C ∧ tNw C sp t env m0 Q
theorem de_newS {tf : DTE} {sp_ : Pos} (c : CalC X C k sp) (hr : RoomG (k + 1) X.A) (hf : DE X (.Name x p) tf) (ha : DE X e ta) (hst : starEach [.Starred e sp_] X.env = [(true, eval e X.env)] := by rfl) :
    DE X (.Call (.Name x p) [.Starred e sp_] [] pos) (tNwF C sp tf (tAS ta tA0)) := by
  obtain ⟨f, M0, F⟩ := c.ex
  refine ⟨PE.weak (pe_newS (fe := e) M0 F hr pass0 hf.run ha.run hst) fun σ H Q h => ?_⟩
  obtain ⟨env, m, R, eo, s, h, k⟩ := h
  refine ⟨env, m, _, eo, s, h, fun z m0 v0 H0 h0 f0 s0 r0 => ?_⟩
  obtain ⟨rfl, h0⟩ := h0
  refine ⟨by simpa only [Rep] using r0, env, m0, _, eo.mono f0, s0, h0, fun d m1 v H1 h1 f1 s1 r1 => ?_⟩
  obtain ⟨xs, e1, h1⟩ := h1
  obtain ⟨q, vs, rfl, hq, rx⟩ := star_items (cont_of s1 r1) e1
  refine ⟨q, vs, rfl, hq, nw_lift s1 rx (fun x hx => ?_) fun d m' v H' a1 a2 a3 a4 => k d m' v H' a1 ((f0.trans f1).trans a2) a3 a4⟩
  have := h1 x hx
  rw [List.append_nil] at this
  exact this
end
end DL
/-! ### DL9: the end of a row -/
namespace DL
open PySem PySem.Spec PyProof.Rows L2
theorem callerG {k : Nat} (h : Room k callerA) : RoomG k callerA := ⟨h, rfl⟩
/-- what the law's def promises at its call -/
theorem law_callG {P : Program} {w : World} {K : PySem.W.Frag} {mg mb : Str → Option Value} {k : Nat} {fa a : Addr} {sp : DSp} {s1 : Shared} {vs : List Value} {ns : List Int}
    (KX : K.In s1.heap) (hns : s1.heap.Ns mainGlobals mg) (hb : s1.heap.Ns builtinsNs mb) (hbb : ∀ x : Str, x ≠ "__name__" → mb x = bootBuiltins x) (hlim : s1.heap.NoLimit) (hg : s1.gens = #[])
    (ha : s1.heap.get? a = some { cls := .type "list", data := .seq vs.toArray }) (hi : IntsAre vs ns) (hl : ns.length ≤ sizeLine) (hr : Room k callerA)
    (F : ∀ base : Heap, K.In base → base.Ns mainGlobals mg → FnG P w K mg base CX0 k fa (liftSp K sp)) (hsp : sp [.scr ns] (fun _ => none) fun d _ => d = .bl true) :
    codeAny (model P w) callerA (.call (.ref fa) ⟨[.ref a], []⟩) (fun r s' => r = .ok (.ret (.bool true)) ∧ OldK s1.heap s'.heap ∧ s'.os = s1.os ∧ AllBare s'.gens) s1 := by
  have rv := vals_ints hi
  have main : ∀ H : Hp, (∀ b u, H b = some u → b = a ∧ ∃ o xs, u = .frz o (.lst xs)) → SqL K H a (ns.map V.int) → HOk P w H s1.heap → (H a ≠ none → K.lookup a = none) →
      codeAny (model P w) callerA (.call (.ref fa) ⟨[.ref a], []⟩) (fun r s' => r = .ok (.ret (.bool true)) ∧ OldK s1.heap s'.heap ∧ s'.os = s1.os ∧ AllBare s'.gens) s1 := by
    intro H only hS ok hK
    have untr : ∀ {b : Addr} {o : Obj}, s1.heap.get? b = some o → (b = a → H a = none) → H b = none := fun {b o} _ z => by
      cases q : H b with
      | none => rfl
      | some u =>
        obtain ⟨rfl, _⟩ := only b u q
        rw [z rfl] at q; cases q
    have seen : ∀ {b : Addr} {o : Obj}, s1.heap.get? b = some o → (b = a → H a = none) → (hidT s1.heap H).get? b = some o := fun e z => hidT_get e (untr e z)
    have names : ∀ {b : Addr} {m : Str → Option Value}, s1.heap.Ns b m → (hidT s1.heap H).Ns b m := by
      rintro b m ⟨o, es, ep, e, d, r⟩
      refine ⟨o, es, ep, seen e (fun z => ?_), d, r⟩
      exfalso
      subst z
      rw [ha] at e
      cases e
      have d : Data.seq vs.toArray _ = Data.dict es ep := d
      cases d
    have kin : K.In (hidT s1.heap H) := fun b o e => seen (KX b o e) fun z => by
      subst z
      cases q : H b with
      | none => rfl
      | some u =>
        have := hK (by rw [q]; exact fun z => nomatch z)
        rw [this] at e; cases e
    have mod : Mod K mg (hidT s1.heap H) := ⟨kin, names hns, ⟨mb, names hb, hbb⟩, let ⟨mc, h1, h2⟩ := hlim; ⟨mc, names h1, h2⟩⟩
    have e0 : Env0 P w K mg (hidT s1.heap H) callerA [] s1 H := ⟨rfl, mod, fun b o e => of_hidT e, Nat.le_of_eq (hidT_size _ _), trivial, fun b z => absurd (show b ∈ ([] : List Addr) from z) (by simp), ok, .of_eq hg⟩
    have q : liftSp K sp [.ref a] H (fun v _ => v = .bl true) E0 := by
      refine ⟨[.scr ns], fun _ => none, fun d _ => d = .bl true, .cons (by simp only [Rep]; exact ⟨a, rfl, .of rfl hS⟩) .nil, fun b d z => (by cases z), hsp, fun d m' v H' a1 _ _ a4 => ?_⟩
      have a1 : d = .bl true := a1
      subst a1
      simpa only [Rep] using a4
    refine codeAny_mono (F _ kin (names hns) callerA [] s1 H [.ref a] [.ref a] _ E0 (callerG hr) e0 (.cons rfl .nil) q) fun r s' h => ?_
    match r, h with
    | .error e, h => exact h.elim
    | .ok .next, h => exact h.elim
    | .ok .brk, h => exact h.elim
    | .ok .cont, h => exact h.elim
    | .ok (.ret u), h =>
      obtain ⟨v, H', os, bare, un, hok', r', q⟩ := h
      have q : v = .bl true := q
      subst q
      obtain rfl : u = Value.bool true := r'
      refine ⟨rfl, OldK.of_keep fun b o e => ?_, os, bare⟩
      cases q : H b with
      | none => exact un.keep b o e q (fun z => absurd (show b ∈ ([] : List Addr) from z) (by simp)) (by simp)
      | some u =>
        obtain ⟨_, ob, xs, rfl⟩ := only b u q
        obtain ⟨e1, _⟩ := ok b _ q
        obtain ⟨e2, _⟩ := hok' b _ (un.frzs b ob _ q)
        rw [e] at e1; cases e1
        exact e2
  cases hk : K.lookup a with
  | some o =>
    have e := KX a o hk
    rw [ha] at e
    cases e
    exact main (fun _ => none) (fun _ _ z => (by cases z)) (.inr ⟨_, vs.toArray, _, hk, rfl, rfl, rfl, by rw [List.size_toArray, hi.length]; exact hl, by simpa using rv⟩) (fun _ _ z => (by cases z)) fun z => absurd rfl z
  | none =>
    have at_ : ∀ b u, (fun b => if b = a then some (HO.frz { cls := .type "list", data := .seq vs.toArray } (.lst (ns.map V.int))) else none) b = some u → b = a ∧ u = HO.frz { cls := .type "list", data := .seq vs.toArray } (.lst (ns.map V.int)) := fun b u z => by
      by_cases hb : b = a
      · simp only [hb, if_true, Option.some.injEq] at z
        exact ⟨hb, z.symm⟩
      · simp only [hb, if_false] at z; cases z
    refine main (fun b => if b = a then some (.frz { cls := .type "list", data := .seq vs.toArray } (.lst (ns.map V.int))) else none) (fun b u z => ⟨(at_ b u z).1, _, _, (at_ b u z).2⟩) (.inl (.inr ⟨{ cls := .type "list", data := .seq vs.toArray }, if_pos rfl⟩)) (fun b u z => ?_) fun _ => hk
    obtain ⟨rfl, rfl⟩ := at_ b u z
    exact ⟨ha, by rw [List.length_map]; exact hl, vs, _, rv, ha⟩
/-- the goal that k_head leaves, by the promise of the law's def -/
theorem walk_ofG {l : PySem.W.OpenLaw} {n k : Nat} {q : Program} {loose : List Str} {XP : (Str → Option Value) → Heap → Prop} {YP : World → Heap → Prop} {d : DefRec} {K : Params → PySem.W.Frag} {sp : DSp}
    (hn : l.most = some n) (hn2 : n ≤ sizeLine) (hdf : d.params.defaults = []) (hr : Room k callerA) (hY : ∀ (w : World) (h : Heap), YP w h → (K w.params).In h)
    (F : ∀ (w : World) (mg : Str → Option Value) (fa : Addr) (h : Heap), (K w.params).In h → h.Ns mainGlobals mg → mg d.name = some (.ref fa) →
      ∀ base : Heap, (K w.params).In base → base.Ns mainGlobals mg → FnG l.prog w (K w.params) mg base CX0 k fa (liftSp (K w.params) sp))
    (hsp : ∀ ns : List Int, ns.length ≤ n → sp [.scr ns] (fun _ => none) fun d _ => d = .bl true) : PySem.W.WalkO q loose XP YP l.row.toRowW d [] (fun f vs => PySem.call f vs) := by
  refine Att.attach_call hn hdf fun w s₀ s₁ mg mb fa o pm cd doc a vs ns G Y ho hd hcd hmg hobj hints hlen hg => ?_
  have KX := hY w _ Y
  exact law_callG KX G.T.g G.T.b G.T.builtins G.T.nolimit hg hobj hints (Nat.le_trans hlen hn2) hr (F w mg fa _ KX G.T.g hmg) (hsp ns hlen)
end DL
/-! ### DL10: methods of lists and texts, displays of dicts, products -/
namespace DL
open PySem PySem.Spec PyProof.Rows L2

section
variable {X : Cx} {e a b o : Expr} {es : List Expr} {te ta tb to : DTE} {pos apos cpos : Pos}
/-! lists -/
def tApp (to te : DTE) : DTE := fun env m Q => to env m fun o m1 => ∃ p d0, o = .ref p ∧ m1 p = some (.lst d0) ∧ te env m1 fun d m2 => ∃ ds, m2 p = some (.lst ds) ∧ ds.length < sizeLine ∧ Q .non (updM m2 p (.lst (ds ++ [d])))
theorem de_app (ho : DE X o to) (he : DE X e te) (hbase : attributeBase o "append" X.env (eval o X.env) = eval o X.env := by rfl)
    (hfew : ((backTo cpos (starEach [e] X.env)).all (fun x => !x.1) && (backToKw cpos (keywordEach [] X.env)).all (fun x => x.1.isSome) && decide ([e].length + ([] : List Keyword).length + (if ([] : List Keyword).isEmpty then 0 else 1) < 30)) = true := by rfl)
    (hline : (apos.endLine == cpos.line) = true := by rfl) (hs : starEach [e] X.env = (false, eval e X.env) :: starEach [] X.env := by rfl) (hplain : (backTo cpos (starEach [] X.env)).any (·.1) = false := by rfl) :
    DE X (.Call (.Attribute o "append" apos) [e] [] cpos) (tApp to te) := ⟨PE.weak (pe_bm PySem.F.plainAttrs_list PySem.F.slot_list_append PySem.F.type_list_append mt_append ho.run (pa_cons he.run pa_nil hs) hbase hfew hline hs hplain) fun σ H Q h => by
  obtain ⟨env, m, R, eo, s, h, k⟩ := h
  refine ⟨env, m, _, eo, s, h, fun x m1 v H1 h1 f1 s1 r1 => ?_⟩
  obtain ⟨p, d0, rfl, e0, h1⟩ := h1
  simp only [Rep] at r1
  subst r1
  obtain ⟨v0, hv0, _⟩ := s1 p _ e0
  refine ⟨.inl ⟨rfl, v0, .of hv0⟩, env, m1, _, eo.mono f1, s1, h1, fun d m2 w H2 h2 f2 s2 r2 => ?_⟩
  obtain ⟨ds, e2, hl, h2⟩ := h2
  obtain ⟨vs, hv, rl⟩ := s2 p _ e2
  have fw : Fr m2 H2 (updM m2 p (.lst (ds ++ [d]))) (upd H2 p (.lst (vs ++ [w]))) := Fr.write e2
  exact ⟨p, vs, w, rfl, rfl, hv, by rw [← rl.length]; exact hl, k _ _ _ _ h2 ((f1.trans f2).trans fw) (s2.write (d := .lst (ds ++ [d])) e2 ⟨_, upd_same, RepL.mono fw _ _ (rl.snoc r2)⟩) rep_non⟩⟩
def tExt (to te : DTE) : DTE := fun env m Q => to env m fun o m1 => ∃ p d0, o = .ref p ∧ m1 p = some (.lst d0) ∧ te env m1 fun d m2 => ∃ ds es, m2 p = some (.lst ds) ∧ look m2 d = .lst es ∧ ds.length + es.length ≤ sizeLine ∧ Q .non (updM m2 p (.lst (ds ++ es)))
theorem de_ext (ho : DE X o to) (he : DE X e te) (hbase : attributeBase o "extend" X.env (eval o X.env) = eval o X.env := by rfl)
    (hfew : ((backTo cpos (starEach [e] X.env)).all (fun x => !x.1) && (backToKw cpos (keywordEach [] X.env)).all (fun x => x.1.isSome) && decide ([e].length + ([] : List Keyword).length + (if ([] : List Keyword).isEmpty then 0 else 1) < 30)) = true := by rfl)
    (hline : (apos.endLine == cpos.line) = true := by rfl) (hs : starEach [e] X.env = (false, eval e X.env) :: starEach [] X.env := by rfl) (hplain : (backTo cpos (starEach [] X.env)).any (·.1) = false := by rfl) :
    DE X (.Call (.Attribute o "extend" apos) [e] [] cpos) (tExt to te) := ⟨PE.weak (pe_bm PySem.F.plainAttrs_list PySem.F.slot_list_extend PySem.F.type_list_extend mt_extend ho.run (pa_cons he.run pa_nil hs) hbase hfew hline hs hplain) fun σ H Q h => by
  obtain ⟨env, m, R, eo, s, h, k⟩ := h
  refine ⟨env, m, _, eo, s, h, fun x m1 v H1 h1 f1 s1 r1 => ?_⟩
  obtain ⟨p, d0, rfl, e0, h1⟩ := h1
  simp only [Rep] at r1
  subst r1
  obtain ⟨v0, hv0, _⟩ := s1 p _ e0
  refine ⟨.inl ⟨rfl, v0, .of hv0⟩, env, m1, _, eo.mono f1, s1, h1, fun d m2 w H2 h2 f2 s2 r2 => ?_⟩
  obtain ⟨ds, es, e2, e3, hl, h2⟩ := h2
  obtain ⟨vs, hv, rl⟩ := s2 p _ e2
  have cc := cont_of s2 r2
  rw [e3] at cc
  obtain ⟨q, us, rfl, hq, rq⟩ := cont_lst cc
  have fw : Fr m2 H2 (updM m2 p (.lst (ds ++ es))) (upd H2 p (.lst (vs ++ us))) := Fr.write e2
  exact ⟨p, q, vs, us, rfl, rfl, hv, hq, by rw [← rl.length, ← rq.length]; exact hl, k _ _ _ _ h2 ((f1.trans f2).trans fw) (s2.write (d := .lst (ds ++ es)) e2 ⟨_, upd_same, RepL.mono fw _ _ (rl.append rq)⟩) rep_non⟩⟩
def tPop0 (to : DTE) : DTE := fun env m Q => to env m fun o m1 => ∃ p ds d, o = .ref p ∧ m1 p = some (.lst ds) ∧ ds[ds.length - 1]? = some d ∧ Q d (updM m1 p (.lst ds.dropLast))
theorem RepL.dropLast {K : PySem.W.Frag} {m : M} {H : Hp} {ds : List D} {vs : List V} (r : RepL K m H ds vs) : RepL K m H ds.dropLast vs.dropLast := by
  rw [List.dropLast_eq_take, List.dropLast_eq_take, ← r.length]
  exact r.take _
theorem RepL.eraseIdx {K : PySem.W.Frag} {m : M} {H : Hp} : ∀ {ds : List D} {vs : List V} (i : Nat), RepL K m H ds vs → RepL K m H (ds.eraseIdx i) (vs.eraseIdx i)
  | [], vs, i, r => by simp only [RepL] at r; subst r; simp [RepL]
  | d :: ds, vs, 0, r => by
    simp only [RepL] at r
    obtain ⟨v, r', rfl, h1, h2⟩ := r
    exact h2
  | d :: ds, vs, i + 1, r => by
    simp only [RepL] at r
    obtain ⟨v, r', rfl, h1, h2⟩ := r
    exact .cons h1 (RepL.eraseIdx i h2)
theorem de_pop0 (ho : DE X o to) (hbase : attributeBase o "pop" X.env (eval o X.env) = eval o X.env := by rfl) (hline : (apos.endLine == cpos.line) = true := by rfl) :
    DE X (.Call (.Attribute o "pop" apos) [] [] cpos) (tPop0 to) := ⟨PE.weak (pe_bm0 PySem.F.plainAttrs_list PySem.F.slot_list_pop PySem.F.type_list_pop mt_pop ho.run hbase hline) fun σ H Q h => by
  obtain ⟨env, m, R, eo, s, h, k⟩ := h
  refine ⟨env, m, _, eo, s, h, fun x m1 v H1 h1 f1 s1 r1 => ?_⟩
  obtain ⟨p, ds, d, rfl, e1, e2, h1⟩ := h1
  simp only [Rep] at r1
  subst r1
  obtain ⟨vs, hv, rl⟩ := s1 p _ e1
  obtain ⟨w, ew, rw'⟩ := rl.get e2
  rw [rl.length] at ew
  have fw : Fr m1 H1 (updM m1 p (.lst ds.dropLast)) (upd H1 p (.lst vs.dropLast)) := Fr.write e1
  exact ⟨.inl ⟨rfl, vs, .of hv⟩, p, vs, w, rfl, rfl, hv, ew, k _ _ _ _ h1 (f1.trans fw) (s1.write (d := .lst ds.dropLast) e1 ⟨_, upd_same, RepL.mono fw _ _ rl.dropLast⟩) (Rep.mono fw _ _ rw')⟩⟩
def tPopA (to te : DTE) : DTE := fun env m Q => to env m fun o m1 => ∃ p d0, o = .ref p ∧ m1 p = some (.lst d0) ∧ te env m1 fun i m2 => ∃ ds j n d, m2 p = some (.lst ds) ∧ look m2 i = .int j ∧ -(2 ^ 63) ≤ j ∧ j < 2 ^ 63 ∧ seqIndex? j ds.length = some n ∧ ds[n]? = some d ∧ Q d (updM m2 p (.lst (ds.eraseIdx n)))
theorem de_popA (ho : DE X o to) (he : DE X e te) (hbase : attributeBase o "pop" X.env (eval o X.env) = eval o X.env := by rfl)
    (hfew : ((backTo cpos (starEach [e] X.env)).all (fun x => !x.1) && (backToKw cpos (keywordEach [] X.env)).all (fun x => x.1.isSome) && decide ([e].length + ([] : List Keyword).length + (if ([] : List Keyword).isEmpty then 0 else 1) < 30)) = true := by rfl)
    (hline : (apos.endLine == cpos.line) = true := by rfl) (hs : starEach [e] X.env = (false, eval e X.env) :: starEach [] X.env := by rfl) (hplain : (backTo cpos (starEach [] X.env)).any (·.1) = false := by rfl) :
    DE X (.Call (.Attribute o "pop" apos) [e] [] cpos) (tPopA to te) := ⟨PE.weak (pe_bm PySem.F.plainAttrs_list PySem.F.slot_list_pop PySem.F.type_list_pop mt_popAt ho.run (pa_cons he.run pa_nil hs) hbase hfew hline hs hplain) fun σ H Q h => by
  obtain ⟨env, m, R, eo, s, h, k⟩ := h
  refine ⟨env, m, _, eo, s, h, fun x m1 v H1 h1 f1 s1 r1 => ?_⟩
  obtain ⟨p, d0, rfl, e0, h1⟩ := h1
  simp only [Rep] at r1
  subst r1
  obtain ⟨v0, hv0, _⟩ := s1 p _ e0
  refine ⟨.inl ⟨rfl, v0, .of hv0⟩, env, m1, _, eo.mono f1, s1, h1, fun i m2 w H2 h2 f2 s2 r2 => ?_⟩
  obtain ⟨ds, j, n, d, e2, e3, b1, b2, e4, e5, h2⟩ := h2
  obtain ⟨vs, hv, rl⟩ := s2 p _ e2
  have cc := cont_of s2 r2
  rw [e3] at cc
  have := cont_int cc
  subst this
  obtain ⟨z, ez, rz⟩ := rl.get e5
  have fw : Fr m2 H2 (updM m2 p (.lst (ds.eraseIdx n))) (upd H2 p (.lst (vs.eraseIdx n))) := Fr.write e2
  exact ⟨p, vs, j, n, z, rfl, rfl, hv, b1, b2, by rw [← rl.length]; exact e4, ez, k _ _ _ _ h2 ((f1.trans f2).trans fw) (s2.write (d := .lst (ds.eraseIdx n)) e2 ⟨_, upd_same, RepL.mono fw _ _ (rl.eraseIdx n)⟩) (Rep.mono fw _ _ rz)⟩⟩
/-! xs[::-1] -/
def tRevD (te : DTE) : DTE := fun env m Q => te env m fun d m1 => ∃ ds, look m1 d = .lst ds ∧ Q (.lst ds.reverse) m1
theorem de_rev {k : Nat} {p1 p2 p3 : Pos} (he : DE X e te) : DE X (.Subscript e (.Slice none none (some (.UnaryOp .USub (.Constant (.int 1) k p1) p2)) p3) pos) (tRevD te) := ⟨PE.weak (pe_revL he.run) fun σ H Q h => by
  obtain ⟨env, m, R, eo, s, h, k⟩ := h
  refine ⟨env, m, _, eo, s, h, fun d m1 v H1 h1 f1 s1 r1 => ?_⟩
  obtain ⟨ds, e1, h1⟩ := h1
  have cc := cont_of s1 r1
  rw [e1] at cc
  obtain ⟨q, us, rfl, hq, rq⟩ := cont_lst cc
  exact ⟨q, us, rfl, .of hq, fun p hp => k _ _ _ _ h1 (f1.trans (Fr.laid s1 hp)) (s1.laid hp) (new_lst s1 hp rq.reverse)⟩⟩
/-! texts -/
def strsOf : List D → Option (List Str)
  | [] => some []
  | .str x :: ds => (strsOf ds).map (x :: ·)
  | _ => none
theorem strsOf_rep {K : PySem.W.Frag} {m : M} {H : Hp} : ∀ {ds : List D} {ys : List Str} {vs : List V}, strsOf ds = some ys → RepL K m H ds vs → vs = ys.map V.str
  | [], ys, vs, e, r => by simp only [strsOf, Option.some.injEq] at e; subst e; simp only [RepL] at r; exact r
  | d :: ds, ys, vs, e, r => by
    simp only [RepL] at r
    obtain ⟨v, r', rfl, h1, h2⟩ := r
    cases d with
    | str x =>
      simp only [strsOf, Option.map_eq_some_iff] at e
      obtain ⟨ys', e', rfl⟩ := e
      simp only [Rep] at h1
      rw [h1, strsOf_rep e' h2]; rfl
    | _ => simp [strsOf] at e
theorem strsOf_map (ys : List Str) : strsOf (ys.map D.str) = some ys := by
  induction ys with
  | nil => rfl
  | cons y ys ih => simp only [List.map_cons, strsOf, ih, Option.map_some]
def tJoin (to te : DTE) : DTE := fun env m Q => to env m fun x m1 => ∃ z, x = .str z ∧ te env m1 fun d m2 => ∃ ds ys, look m2 d = .lst ds ∧ strsOf ds = some ys ∧ (ys.map (·.length)).sum + ys.length * z.length ≤ 16777216 ∧ Q (.str (Txt.join z ys)) m2
theorem de_join (ho : DE X o to) (he : DE X e te) (hs : starEach [e] X.env = [(false, eval e X.env)] := by rfl) (hbase : attributeBase o "join" X.env (eval o X.env) = eval o X.env := by rfl) (hline : (apos.endLine == pos.line) = true := by rfl) :
    DE X (.Call (.Attribute o "join" apos) [e] [] pos) (tJoin to te) := ⟨PE.weak (pe_join ho.run he.run hs hbase hline) fun σ H Q h => by
  obtain ⟨env, m, R, eo, s, h, k⟩ := h
  refine ⟨env, m, _, eo, s, h, fun x m1 v H1 h1 f1 s1 r1 => ?_⟩
  obtain ⟨z, rfl, h1⟩ := h1
  simp only [Rep] at r1
  subst r1
  refine ⟨⟨z, rfl⟩, env, m1, _, eo.mono f1, s1, h1, fun d m2 w H2 h2 f2 s2 r2 => ?_⟩
  obtain ⟨ds, ys, e1, e2, hl, h2⟩ := h2
  have cc := cont_of s2 r2
  rw [e1] at cc
  obtain ⟨q, us, rfl, hq, rq⟩ := cont_lst cc
  have := strsOf_rep e2 rq
  subst this
  exact ⟨z, q, ys, rfl, rfl, .inl (.of hq), hl, k _ _ _ _ h2 (f1.trans f2) s2 rep_str⟩⟩
def tSplit (to te : DTE) : DTE := fun env m Q => to env m fun x m1 => ∃ z, x = .str z ∧ te env m1 fun d m2 => ∃ y, d = .str y ∧ (y.length == 0) = false ∧ z.length + 2 ≤ sizeLine ∧ Q (.lst ((Txt.split z y).map .str)) m2
theorem de_split (ho : DE X o to) (he : DE X e te) (hs : starEach [e] X.env = [(false, eval e X.env)] := by rfl) (hbase : attributeBase o "split" X.env (eval o X.env) = eval o X.env := by rfl) (hline : (apos.endLine == pos.line) = true := by rfl) :
    DE X (.Call (.Attribute o "split" apos) [e] [] pos) (tSplit to te) := ⟨PE.weak (pe_split ho.run he.run hs hbase hline) fun σ H Q h => by
  obtain ⟨env, m, R, eo, s, h, k⟩ := h
  refine ⟨env, m, _, eo, s, h, fun x m1 v H1 h1 f1 s1 r1 => ?_⟩
  obtain ⟨z, rfl, h1⟩ := h1
  simp only [Rep] at r1
  subst r1
  refine ⟨⟨z, rfl⟩, env, m1, _, eo.mono f1, s1, h1, fun d m2 w H2 h2 f2 s2 r2 => ?_⟩
  obtain ⟨y, rfl, hy, hz, h2⟩ := h2
  simp only [Rep] at r2
  subst r2
  exact ⟨z, y, rfl, rfl, hy, hz, fun p hp => k _ _ _ _ h2 ((f1.trans f2).trans (Fr.laid s2 hp)) (s2.laid hp) (new_lst s2 hp (RepL.map_str _))⟩⟩
/-! dicts -/
def tPrs : List (DTE × DTE) → Env → M → (List (D × D) → M → Prop) → Prop
  | [], _, m, Q => Q [] m
  | (tk, tv) :: r, env, m, Q => tk env m fun x m1 => tv env m1 fun y m2 => tPrs r env m2 fun ps m3 => Q ((x, y) :: ps) m3
structure DPs (X : Cx) (pos : Pos) (keys : List (Option Expr)) (values : List Expr) (trs : List (DTE × DTE)) : Prop where
  run : PPs X pos keys values (trs.map fun t => (liftE X.K t.1, liftE X.K t.2))
theorem dps_nil : DPs X pos [] [] [] := ⟨pps_nil⟩
theorem dps_cons {k v : Expr} {ks : List (Option Expr)} {vs : List Expr} {tk tv : DTE} {trs : List (DTE × DTE)} (hk : DE X k tk) (hv : DE X v tv) (hr : DPs X pos ks vs trs) : DPs X pos (some k :: ks) (v :: vs) ((tk, tv) :: trs) := ⟨pps_cons hk.run hv.run hr.run⟩
theorem prs_lift {K : PySem.W.Frag} {σ : L2.St} {env : Env} {Q : List (V × V) → Hp → Prop} : ∀ {trs : List (DTE × DTE)} {m : M} {H : Hp} {R : List (D × D) → M → Prop}, EnvOk K m H σ env → Sim K m H → tPrs trs env m R →
    (∀ ps m' vs H', R ps m' → Fr m H m' H' → Sim K m' H' → RepL K m' H' (ps.map (·.1)) (vs.map (·.1)) → RepL K m' H' (ps.map (·.2)) (vs.map (·.2)) → Q vs H') → tPairs (trs.map fun t => (liftE K t.1, liftE K t.2)) σ H Q
  | [], m, H, R, eo, s, h, k => k [] m [] H h Fr.refl s .nil .nil
  | (tk, tv) :: trs, m, H, R, eo, s, h, k => by
    refine ⟨env, m, _, eo, s, h, fun x m1 xv H1 h1 f1 s1 r1 => ?_⟩
    refine ⟨env, m1, _, eo.mono f1, s1, h1, fun y m2 yv H2 h2 f2 s2 r2 => ?_⟩
    refine prs_lift (eo.mono (f1.trans f2)) s2 h2 fun ps m' vs H' a1 a2 a3 a4 a5 => ?_
    exact k ((x, y) :: ps) m' ((xv, yv) :: vs) H' a1 ((f1.trans f2).trans a2) a3 (.cons (Rep.mono (f2.trans a2) _ _ r1) a4) (.cons (Rep.mono a2 _ _ r2) a5)
def keysOf : List D → Option (List Key)
  | [] => some []
  | d :: ds => (keyOf d).bind fun k => (keysOf ds).map (k :: ·)
theorem keysOf_eq : ∀ {ds : List D} {ks : List Key}, keysOf ds = some ks → ds = ks.map kD
  | [], ks, h => by simp [keysOf] at h; subst h; rfl
  | d :: ds, ks, h => by
    simp only [keysOf, Option.bind_eq_some_iff, Option.map_eq_some_iff] at h
    obtain ⟨k, h1, ks', h2, rfl⟩ := h
    rw [List.map_cons, ← keyOf_eq h1, ← keysOf_eq h2]
theorem repL_kV {K : PySem.W.Frag} {m : M} {H : Hp} : ∀ {ks : List Key} {vs : List V}, RepL K m H (ks.map kD) vs → vs = ks.map kV
  | [], vs, r => by simp only [List.map_nil, RepL] at r; exact r
  | k :: ks, vs, r => by
    simp only [List.map_cons, RepL] at r
    obtain ⟨v, r', rfl, h1, h2⟩ := r
    rw [rep_kD h1, repL_kV h2]; rfl
theorem merge_nodup : ∀ (more kvs : List (Key × V)), ((kvs ++ more).map (·.1)).Nodup → mergeK kvs more = kvs ++ more
  | [], kvs, _ => by simp [mergeK]
  | p :: more, kvs, nd => by
    have e : putK kvs p.1 p.2 = kvs ++ [p] := by
      unfold putK
      have : (kvs.any fun kv => decide (kv.1 = p.1)) = false := by
        rw [List.any_eq_false]
        intro kv hk
        simp only [decide_eq_true_eq]
        intro q
        rw [List.map_append, List.map_cons, List.nodup_append] at nd
        exact nd.2.2 kv.1 (List.mem_map.mpr ⟨kv, hk, rfl⟩) p.1 List.mem_cons_self q
      rw [this]; rfl
    show mergeK (putK kvs p.1 p.2) more = _
    rw [e, merge_nodup more (kvs ++ [p]) (by simpa using nd)]
    simp
theorem zip_keys : ∀ {ks : List Key} {vs : List (V × V)}, vs.map (·.1) = ks.map kV → vs = (ks.zip (vs.map (·.2))).map fun kv => (kV kv.1, kv.2)
  | [], [], _ => rfl
  | [], _ :: _, h => by simp at h
  | _ :: _, [], h => by simp at h
  | k :: ks, v :: vs, h => by
    simp only [List.map_cons, List.cons.injEq] at h
    simp only [List.map_cons, List.zip_cons_cons, List.map_cons]
    rw [← zip_keys h.2, ← h.1]
/-- a display; its keys are unlike -/
def tDicM (trs : List (DTE × DTE)) : DTE := fun env m Q => ∀ p, m p = none → tPrs trs env (updM m p (.dic [] [])) fun ps m2 => m2 p = some (.dic [] []) ∧ ∃ ks, keysOf (ps.map (·.1)) = some ks ∧ ks.Nodup ∧ ps.length ≤ 15 ∧ Q (.ref p) (updM m2 p (.dic (ps.map (·.1)) (ps.map (·.2))))
theorem de_dic {keys : List (Option Expr)} {values : List Expr} {trs : List (DTE × DTE)} (h : DPs X pos keys values trs) (hall : keys.all (·.isSome) = true := by rfl) (hl : keys.length = values.length := by rfl) (h0 : keys ≠ [] := by exact fun z => by cases z) (h15 : keys.length ≤ 15 := by decide) :
    DE X (.Dict keys values pos) (tDicM trs) := ⟨PE.weak (pe_disp h.run hall hl h0 h15) fun σ H Q h => by
  obtain ⟨env, m, R, eo, s, h, k⟩ := h
  intro p hp
  have f1 : Fr m H (updM m p (.dic [] [])) (upd H p (.dK [])) := Fr.laidM s hp
  have s1 : Sim X.K (updM m p (.dic [] [])) (upd H p (.dK [])) := Sim.laidM s hp ⟨[], upd_same, rfl, .nil⟩
  refine prs_lift (eo.mono f1) s1 (h p (s.free hp)) fun ps m2 vs H2 h2 f2 s2 r1 r2 => ?_
  obtain ⟨e2, ks, ek, nd, hl, h2⟩ := h2
  obtain ⟨kvs0, hd, ek0, _⟩ := s2 p _ e2
  have e0 : kvs0 = [] := by
    cases kvs0 with
    | nil => rfl
    | cons _ _ => cases ek0
  subst e0
  have ek := keysOf_eq ek
  rw [ek] at r1
  have ev := repL_kV r1
  have lks : ks.length = vs.length := by
    have := congrArg List.length ev
    simpa using this.symm
  refine ⟨hd, ks.zip (vs.map (·.2)), ?_, by rw [List.length_zip, List.length_map, lks, Nat.min_self]; have := congrArg List.length ek; simp only [List.length_map] at this; omega, ?_⟩
  · exact zip_keys ev
  · have lz : (ks.zip (vs.map (·.2))).map (·.1) = ks := List.map_fst_zip (by rw [List.length_map, lks]; exact Nat.le_refl _)
    have lz2 : (ks.zip (vs.map (·.2))).map (·.2) = vs.map (·.2) := List.map_snd_zip (by rw [List.length_map, lks]; exact Nat.le_refl _)
    rw [merge_nodup _ [] (by rw [List.nil_append, lz]; exact nd), List.nil_append]
    have fw : Fr m2 H2 (updM m2 p (.dic (ps.map (·.1)) (ps.map (·.2)))) (upd H2 p (.dK (ks.zip (vs.map (·.2))))) := Fr.write e2
    refine k _ _ _ _ h2 ((f1.trans f2).trans fw) (s2.write (d := .dic (ps.map (·.1)) (ps.map (·.2))) e2 ⟨_, upd_same, ?_, ?_⟩) rep_ref
    · rw [ek, ← lz, List.map_map]
      rw [lz]; rfl
    · rw [lz2]; exact RepL.mono fw _ _ r2⟩
/-- {} -/
def tDic0 : DTE := fun _ m Q => ∀ p, m p = none → Q (.ref p) (updM m p (.dic [] []))
theorem de_dic0 : DE X (.Dict [] [] pos) tDic0 := ⟨PE.weak pe_dnewK fun σ H Q h => by
  obtain ⟨env, m, R, eo, s, h, k⟩ := h
  exact fun p hp => k _ _ _ _ (h p (s.free hp)) (Fr.laidM s hp) (Sim.laidM s hp ⟨[], upd_same, rfl, .nil⟩) rep_ref⟩
end
end DL
/-! ### DL11: enumerate -/
namespace DL
open PySem PySem.Spec PyProof.Rows L2
open AutoSeq1 (wpAny_loadPart')

theorem meets_enumT (l : Addr) (items : Array Value) (n : Nat) (dct : Option Addr) (sl : Array (Option Value)) :
    Meets (Builtin.«enumerate.__new__» ⟨[.type "enumerate", .ref l], []⟩) (fun _ R s => s.heap.get? l = some { cls := .type "tuple", dict := dct, data := .seq items n, slots := sl } ∧
      R (.ok (.ret (.ref (s.heap.push { cls := .type "tuple_iterator", data := .fields #[.ref l, .int 0 0] }).objs.size)))
        { s with heap := (s.heap.push { cls := .type "tuple_iterator", data := .fields #[.ref l, .int 0 0] }).push { cls := .type "enumerate", data := .fields #[.none, .bool false, .ref s.heap.objs.size, rawInt 0, .none, .none] } }) :=
  .of_wp fun prog w A R s h => by
    obtain ⟨hp, g, d, tk, os⟩ := s
    obtain ⟨hl, h⟩ := h
    have hsub := sub_enumerate
    have hL : Heap.IsTuple (Shared.heap ⟨hp, g, d, tk, os⟩) l items := ⟨_, hl, rfl, n, rfl⟩
    wp_walk using wpAny_loadPart' hl
    refine wpAny_stack_any fun st => wpAny_pure ?_
    split
    · rename_i c _ _ _ _ _
      cases (c == Value.type "enumerate") <;> (wp_walk using wpAny_loadPart' hl, wpAny_pyIter_tuple hL; exact ⟨_, rfl, h⟩)
    · wp_walk using wpAny_loadPart' hl, wpAny_pyIter_tuple hL
      exact ⟨_, rfl, h⟩
theorem call_enumT {prog : Program} {w : World} {A : Around} {E : Value → Shared → Prop} {s : Shared} {l : Addr} {items : Array Value} {Q : Value → Shared → Prop} (hL : s.heap.IsTuple l items)
    (h : ∀ h', IsEnum h' (s.heap.objs.size + 1) s.heap.objs.size 0 .none → h'.IsTupleIter s.heap.objs.size l 0 → (∀ b o, s.heap.get? b = some o → h'.get? b = some o) → Q (.ref (s.heap.objs.size + 1)) { s with heap := h' }) :
    wpAny (model prog w) A (call (.type "enumerate") [.ref l]) Q E s := by
  obtain ⟨⟨c, dct, dt, sl⟩, hl, hc, n, hd⟩ := hL
  have hc : c = .type "tuple" := hc
  have hd : dt = .seq items n := hd
  subst hc hd
  refine callType_new F.called_enumerate (by decide) (F.typeCall_enumerate_1 _) (F.newCall_enumerate_1 _) (fun obj => F.args_object_init_2 obj _) F.entry_enumerate_new (meets_enumT l items n dct sl) ⟨hl, ?_⟩
  have hz : (s.heap.push { cls := .type "tuple_iterator", data := .fields #[.ref l, .int 0 0] }).objs.size = s.heap.objs.size + 1 := Heap.size_push ..
  show _ ∧ _
  rw [hz]
  have he : IsEnum ((s.heap.push { cls := .type "tuple_iterator", data := .fields #[.ref l, .int 0 0] }).push { cls := .type "enumerate", data := .fields #[.none, .bool false, .ref s.heap.objs.size, rawInt 0, .none, .none] }) (s.heap.objs.size + 1) s.heap.objs.size 0 .none := by
    have q := Heap.get?_push_size (s.heap.push { cls := .type "tuple_iterator", data := .fields #[.ref l, .int 0 0] }) (o := { cls := .type "enumerate", data := .fields #[.none, .bool false, .ref s.heap.objs.size, rawInt 0, .none, .none] }) rfl
    rwa [hz] at q
  exact ⟨⟨_, he, rfl⟩, h _ he ⟨_, Heap.get?_push_of_some _ (Heap.get?_push_size _ rfl), rfl, rfl⟩ fun b o x => Heap.get?_push_of_some _ (Heap.get?_push_of_some _ x)⟩
def IteT (K : PySem.W.Frag) (a : Addr) : It where
  go := fun i H => ∃ (xs : List V) (x : V), SqT K H a xs ∧ xs[i]? = some x
  yld := fun i H v H' => ∃ T x, v = .ref T ∧ H T = none ∧ H' = upd H T (.tup [.int (i : Nat), x]) ∧ ∀ xs, SqT K H a xs → xs[i]? = some x
  stop := fun i H => ∃ xs : List V, SqT K H a xs ∧ i = xs.length
theorem turn_enumT {P : Program} {w : World} {K : PySem.W.Frag} {elts : List Expr} {kk : Nat} {tpos : Pos} (a e it : Addr) :
    Turn P w K (.Tuple elts kk tpos) (IteT K a) [e, it] e (fun i h => (∃ old, IsEnum h e it ((i : Nat) : Int) old) ∧ h.IsTupleIter it a i ∧ e ≠ it) where
  mem := List.mem_cons_self
  obj := by
    rintro i h ⟨⟨old, he⟩, ⟨o, ho, hc, hd⟩, _⟩ b hb
    rcases List.mem_cons.mp hb with rfl | hb
    · exact ⟨_, he, fun v q => nomatch q⟩
    · obtain rfl : b = it := by simpa using hb
      exact ⟨o, ho, fun v q => by rw [hd] at q; cases q⟩
  keep := by
    rintro i h h' ⟨⟨old, he⟩, hi, hne⟩ k
    exact ⟨⟨old, k e List.mem_cons_self _ he⟩, hi.at fun o q => k it (List.mem_cons_of_mem _ List.mem_cons_self) o q, hne⟩
  item := by
    intro X hP hw hK hc i pins s σ H E I hf st hg
    subst hP hw hK
    obtain ⟨⟨old, he⟩, hit, hne⟩ := st
    obtain ⟨xs, x, hq, hx⟩ := hg
    obtain ⟨its, rv, p, hz⟩ := I.tuple hq
    obtain ⟨u, hu, ru⟩ := rv.get hx
    have hel : e < s.heap.objs.size := Heap.lt_size he
    have hil : it < s.heap.objs.size := by obtain ⟨_, q, _⟩ := hit; exact Heap.lt_size q
    have pt : s.heap.IsTuple a its.toArray := p
    have hat : a ≠ it := by
      rintro rfl
      obtain ⟨o1, h1, c1, _⟩ := pt
      obtain ⟨o2, h2, c2, _⟩ := hit
      rw [h1] at h2; cases h2
      have z : Value.type "tuple" = Value.type "tuple_iterator" := c1.symm.trans c2
      injection z with z
      exact absurd z (by decide)
    have hae : e ≠ a := by
      rintro rfl
      obtain ⟨o1, h1, c1, _⟩ := pt
      rw [he] at h1; cases h1
      have z : Value.type "enumerate" = Value.type "tuple" := c1
      injection z with z
      exact absurd z (by decide)
    have hi : i < its.toArray.size := by
      rw [List.size_toArray]
      rcases Nat.lt_or_ge i its.length with z | z
      · exact z
      · rw [List.getElem?_eq_none z] at hu; cases hu
    refine wpAny_pyNext_enum_itemD (Draws.tuple (A := X.A.in1) (show X.A.in1.handled = none from I.ok.hd hc) it a hat its.toArray) he ⟨hit, pt⟩ hi hne (by simp [hne, hae]) fun y h' tk hy ho st' hT hsz hk => ?_
    have ey : y = u := by
      have hy : its.toArray[i]? = some y := hy
      rw [List.getElem?_toArray, hu] at hy
      exact (Option.some.inj hy).symm
    subst ey
    refine ⟨_, rfl, wpAny_letOwnedTupleGo_enum (s := { s with heap := h', toks := tk + 1 }) ho fun h'' he' sb => ?_⟩
    have hT2 := (sb.2 _ (Nat.ne_of_gt hel)).trans hT
    have new : ObjOk X.prog X.w (upd H s.heap.objs.size (.tup [.int (i : Nat), x])) h'' s.heap.objs.size (.tup [.int (i : Nat), x]) :=
      ⟨by show 2 ≤ sizeLine; decide, [.int i tk, y], .cons ⟨_, rfl⟩ (.cons ru .nil), ⟨_, hT2, rfl, _, rfl⟩⟩
    have J : Inv X pins σ (upd H s.heap.objs.size (.tup [.int (i : Nat), x])) { s with heap := h'', toks := tk + 1 } :=
      I.turnedNew (ch := [e, it]) (fun b ob hb q => (sb.2 b (fun z => hb (by simp [z]))).trans (hk b ob (fun z => hb (by simp [z])) (fun z => hb (by simp [z])) q)) hf (Nat.le_refl _) new
    refine ⟨.ref s.heap.objs.size, _, J, rfl, ⟨_, x, rfl, I.hok.fresh (Nat.le_refl _), rfl, fun ys hy => by rw [I.tuple_inj hy hq]; exact hx⟩, ⟨⟨y, ?_⟩, st'.1.at fun o q => (sb.2 it (Ne.symm hne)).trans q, hne⟩, fun b hb => ?_⟩
    · have e1 : ((i + 1 : Nat) : Int) = (i : Int) + 1 := by omega
      rw [e1]; exact he'
    · have hb' : b < s.heap.objs.size := by
        rcases List.mem_cons.mp hb with rfl | hb
        · exact hel
        · obtain rfl : b = it := by simpa using hb
          exact hil
      rw [upd_ne (Nat.ne_of_lt hb')]
      exact (hf b hb).1
  done := by
    intro X hP hw hK hc i pins s σ H E I hf st hg
    subst hP hw hK
    obtain ⟨⟨old, he⟩, hit, hne⟩ := st
    obtain ⟨xs, hq, hx⟩ := hg
    obtain ⟨its, rv, p, hz⟩ := I.tuple hq
    obtain ⟨f0, f1, f2, f3, f4, f5⟩ := hf it (List.mem_cons_of_mem _ List.mem_cons_self)
    have pt : s.heap.IsTuple a its.toArray := p
    have hat : a ≠ it := by
      rintro rfl
      obtain ⟨o1, h1, c1, _⟩ := pt
      obtain ⟨o2, h2, c2, _⟩ := hit
      rw [h1] at h2; cases h2
      have z : Value.type "tuple" = Value.type "tuple_iterator" := c1.symm.trans c2
      injection z with z
      exact absurd z (by decide)
    have e1 : i = its.toArray.size := by rw [List.size_toArray, ← rv.length]; exact hx
    subst e1
    exact wpAny_pyNext_enum_endD (Draws.tuple (A := X.A.in1) (show X.A.in1.handled = none from I.ok.hd hc) it a hat its.toArray) he ⟨hit, pt⟩ fun h' eb => ⟨rfl, I.turned (t' := s.toks) (fun b o hb q => eb b o hb q) f0 f1 f3 f4 f5⟩
  self := fun A i s Q E st h => let ⟨⟨_, he⟩, _⟩ := st; wpAny_pyIter_enum he h
section
variable {X : Cx} {e tg : Expr} {es elts : List Expr} {te : DTE} {p pos tpos : Pos} {kk : Nat}
/-- enumerate over a list, a tuple -/
def enumD (ds : List D) : List D := (List.range ds.length).zipWith (fun (i : Nat) d => D.tup [.int i, d]) ds
def iEn (te : DTE) : DTI := fun env m Q => te env m fun d m1 => ∃ ds, (d = .lst ds ∨ d = .tup ds) ∧ Q (enumD ds) m1
theorem enumD_get {ds : List D} {i : Nat} {d : D} (h : (enumD ds)[i]? = some d) : ∃ x, ds[i]? = some x ∧ d = .tup [.int (i : Nat), x] := by
  unfold enumD at h
  rw [List.getElem?_zipWith] at h
  split at h
  · rename_i a b h1 h2
    have hi : i < ds.length := by
      rcases Nat.lt_or_ge i ds.length with z | z
      · exact z
      · rw [List.getElem?_eq_none z] at h2; cases h2
    rw [List.getElem?_range hi] at h1
    cases h1
    cases h
    exact ⟨b, h2, rfl⟩
  · cases h
theorem enumD_length (ds : List D) : (enumD ds).length = ds.length := by unfold enumD; simp
theorem two_tup {K : PySem.W.Frag} {m : M} {H : Hp} {x : D} {v : V} {i : Int} {T : Addr} (s : Sim K m H) (hT : H T = none) (r : Rep K m H x v) : Fr m H m (upd H T (.tup [.int i, v])) ∧ Sim K m (upd H T (.tup [.int i, v])) ∧ Rep K m (upd H T (.tup [.int i, v])) (.tup [.int i, x]) (.ref T) :=
  ⟨Fr.laid s hT, s.laid hT, new_tup s hT (.cons rep_int (.cons r .nil))⟩
theorem items_enumL {K : PySem.W.Frag} {m0 : M} {H0 : Hp} {a : Addr} {ds : List D} {vs : List V} (n : m0 a = none) (h : H0 a = some (.lst vs)) (r : RepL K m0 H0 ds vs) : Items K (Ite K a) (enumD ds) m0 H0 := fun i m H f s => by
  obtain ⟨n', h'⟩ := f.lst n h
  refine ⟨fun d e => ?_, fun hl => ⟨vs, .of h', by rw [← r.length, hl, enumD_length]; exact Nat.le_refl _⟩⟩
  obtain ⟨x, ex, rfl⟩ := enumD_get e
  obtain ⟨v, e1, r1⟩ := r.get ex
  refine ⟨⟨vs, v, .of h', e1⟩, fun y H' q => ?_⟩
  obtain ⟨T, z, rfl, hT, rfl, hz⟩ := q
  have := hz vs (.of h')
  rw [e1] at this; cases this
  exact two_tup s hT (Rep.mono f _ _ r1)
theorem items_enumT {K : PySem.W.Frag} {m0 : M} {H0 : Hp} {a : Addr} {ds : List D} {vs : List V} (h : TupAt K m0 H0 a vs) (r : RepL K m0 H0 ds vs) : Items K (IteT K a) (enumD ds) m0 H0 := fun i m H f s => by
  have h' : SqT K H a vs := by
    rcases h with ⟨n, h⟩ | h
    · exact .inl (.inl (f.tup n h).2)
    · exact .inr h
  refine ⟨fun d e => ?_, fun hl => ⟨vs, h', by rw [← r.length, hl, enumD_length]⟩⟩
  obtain ⟨x, ex, rfl⟩ := enumD_get e
  obtain ⟨v, e1, r1⟩ := r.get ex
  refine ⟨⟨vs, v, h', e1⟩, fun y H' q => ?_⟩
  obtain ⟨T, z, rfl, hT, rfl, hz⟩ := q
  have := hz vs h'
  rw [e1] at this; cases this
  exact two_tup s hT (Rep.mono f _ _ r1)
theorem di_enum (hm : X.mg "enumerate" = none) (he : DE X e te) (hg : Gl X "enumerate" := by rfl) (hs : starEach [e] X.env = [(false, eval e X.env)] := by rfl) : DI X (.Tuple elts kk tpos) (.Call (.Name "enumerate" p) [e] [] pos) (iEn te) := ⟨⟨fun pins s σ H R I h => by
  obtain ⟨env, m, RR, eo, sm, h, k⟩ := h
  have h0 : liftE X.K te σ H (fun x H1 => (∃ a xs, x = .ref a ∧ SqL X.K H1 a xs ∧ R (Ite X.K a) H1) ∨ ∃ a xs, x = .ref a ∧ SqT X.K H1 a xs ∧ R (IteT X.K a) H1) := by
    refine ⟨env, m, _, eo, sm, h, fun d m1 v H1 h1 f1 s1 r1 => ?_⟩
    obtain ⟨ds, (rfl | rfl), h1⟩ := h1
    · simp only [Rep] at r1
      obtain ⟨a, vs, rfl, ⟨n, h2⟩, r2⟩ := r1
      exact .inl ⟨a, vs, rfl, .of h2, k _ m1 _ H1 h1 f1 s1 (items_enumL n h2 r2)⟩
    · simp only [Rep] at r1
      obtain ⟨a, vs, rfl, h2, r2⟩ := r1
      exact .inr ⟨a, vs, rfl, tupAt_sq h2, k _ m1 _ H1 h1 f1 s1 (items_enumT h2 r2)⟩
  have args : PA X [e] _ := pa_cons he.run pa_nil hs
  refine Call_ (ld_blt I hg hm boot_enumerate (PyProof.Rows.callWith_type1 (thn (args.run pos pins s σ H (fun vs H1 => ∃ x, vs = [x] ∧ ((∃ a xs, x = .ref a ∧ SqL X.K H1 a xs ∧ R (Ite X.K a) H1) ∨ ∃ a xs, x = .ref a ∧ SqT X.K H1 a xs ∧ R (IteT X.K a) H1)) I ?_) fun us s1 hx => ?_) hs rfl))
  · obtain ⟨env', m', R', a1, a2, a3, a4⟩ := h0
    exact ⟨env', m', R', a1, a2, a3, fun d m1 v H1 b1 b2 b3 b4 => ⟨v, rfl, a4 d m1 v H1 b1 b2 b3 b4⟩⟩
  · obtain ⟨vs, H1, I1, r1, x, rfl, q⟩ := hx
    rcases q with ⟨a, xs, rfl, hq, q⟩ | ⟨a, xs, rfl, hq, q⟩
    · obtain rfl := Vals.ref1 r1
      obtain ⟨its, rv, pl, hz⟩ := I1.list hq
      refine call_enumerate_list pl.isList fun h' he' hit hsz hk => wpAny_pyIter_enum he' ?_
      have J : Inv X pins σ H1 { s1 with heap := h' } := I1.kept (t' := s1.toks) hk
      refine ⟨s1.heap.objs.size + 1, [s1.heap.objs.size + 1, s1.heap.objs.size], _, _, H1, rfl, J, turn_enum a (s1.heap.objs.size + 1) s1.heap.objs.size, ⟨⟨.none, he'⟩, hit, Nat.succ_ne_self _⟩, fun b hb => ?_, q⟩
      have hle : s1.heap.objs.size ≤ b := by
        rcases List.mem_cons.mp hb with e | hb
        · rw [e]; exact Nat.le_add_right _ _
        · rw [List.mem_singleton.mp hb]; exact Nat.le_refl _
      exact I1.fpOk hle (I1.hok.fresh hle)
    · obtain rfl := Vals.ref1 r1
      obtain ⟨its, rv, pt, hz⟩ := I1.tuple hq
      refine call_enumT (show s1.heap.IsTuple a its.toArray from pt) fun h' he' hit hk => wpAny_pyIter_enum he' ?_
      have J : Inv X pins σ H1 { s1 with heap := h' } := I1.kept (t' := s1.toks) hk
      refine ⟨s1.heap.objs.size + 1, [s1.heap.objs.size + 1, s1.heap.objs.size], _, _, H1, rfl, J, turn_enumT a (s1.heap.objs.size + 1) s1.heap.objs.size, ⟨⟨.none, he'⟩, hit, Nat.succ_ne_self _⟩, fun b hb => ?_, q⟩
      have hle : s1.heap.objs.size ≤ b := by
        rcases List.mem_cons.mp hb with e | hb
        · rw [e]; exact Nat.le_add_right _ _
        · rw [List.mem_singleton.mp hb]; exact Nat.le_refl _
      exact I1.fpOk hle (I1.hok.fresh hle)⟩⟩
end
end DL
/-! ### DL12: products -/
namespace DL
open PySem PySem.Spec PyProof.Rows L2

/-- a tuple times one is itself -/
theorem tup_mul1 (l : Addr) (items : Array Value) (n : Nat) (dd : Option Addr) (sl : Array (Option Value)) (u : Tok) :
    Meets (Builtin.«tuple.__mul__» ⟨[.ref l, .int 1 u], []⟩) (fun _ R s => s.heap.get? l = some { cls := .type "tuple", dict := dd, data := .seq items n, slots := sl } ∧ R (.ok (.ret (Value.ref l))) s) :=
  .of_wp fun prog w A R s h => by
    obtain ⟨hp, g, d, tk, os⟩ := s
    obtain ⟨hl, h⟩ := h
    have f1 := AutoSeq1.idx_int
    have c1 : (items.isEmpty || (1 : Int) == 1) = true := by simp
    wp_walk using wpAny_loadPart' hl
    repeat (first
      | (refine wpAny_ite_true (decide_eq_true c1) ?_; wp_walk using wpAny_loadPart' hl)
      | (refine wpAny_ite_false (decide_eq_false (by decide)) ?_; wp_walk using wpAny_loadPart' hl))
    exact ⟨_, rfl, h⟩
/-- .. times none is the empty one -/
theorem tup_mul0 (l : Addr) (items : Array Value) (n : Nat) (dd : Option Addr) (sl : Array (Option Value)) (u : Tok) (c : items.isEmpty = false) :
    Meets (Builtin.«tuple.__mul__» ⟨[.ref l, .int 0 u], []⟩) (fun _ R s => s.heap.get? l = some { cls := .type "tuple", dict := dd, data := .seq items n, slots := sl } ∧
      R (.ok (.ret (Value.ref s.heap.objs.size))) { s with heap := s.heap.push { cls := Value.type "tuple", data := Data.seq #[] }, toks := s.toks }) :=
  .of_wp fun prog w A R s h => by
    obtain ⟨hp, g, d, tk, os⟩ := s
    obtain ⟨hl, h⟩ := h
    have f1 := AutoSeq1.idx_int
    have c1 : (items.isEmpty || (0 : Int) == 1) = false := by rw [c]; rfl
    have c2 : (decide ((0 : Int) ≤ 0) || items.isEmpty) = true := by rw [c]; rfl
    wp_walk using wpAny_loadPart' hl
    repeat (first
      | (refine wpAny_ite_false (decide_eq_false (by rw [c1]; exact Bool.false_ne_true)) ?_; wp_walk using wpAny_loadPart' hl)
      | (refine wpAny_ite_true (decide_eq_true c2) ?_; wp_walk using wpAny_loadPart' hl)
      | (refine wpAny_ite_false (decide_eq_false (by decide)) ?_; wp_walk using wpAny_loadPart' hl))
    exact ⟨_, rfl, h⟩
def rRepT01 (K : PySem.W.Frag) : R2 := fun x y H Q => ∃ l xs, x = .ref l ∧ SqT K H l xs ∧ xs ≠ [] ∧ ((y = .int 1 ∧ Q (.ref l) H) ∨ (y = .int 0 ∧ ∀ p, H p = none → Q (.ref p) (upd H p (.tup []))))
section
variable {X : Cx}
theorem op_repT01 : OpR X (binaryOp .Mult) (rRepT01 X.K) := by
  intro pins s σ H x y v u Q I rx ry h
  obtain ⟨l, xs, rfl, hT, hne, h⟩ := h
  cases rx
  obtain ⟨its, r, ⟨⟨cls, dd, data, sl⟩, ho, hc, n, hd⟩, hs⟩ := I.tuple hT
  simp only at hc hd
  subst hc hd
  have hi : its.toArray.isEmpty = false := by
    cases its with
    | nil => exact absurd (List.eq_nil_of_length_eq_zero r.length) hne
    | cons a b => rfl
  rcases h with ⟨rfl, q⟩ | ⟨rfl, q⟩
  · obtain ⟨t, rfl⟩ := ry
    refine wpAny_binaryOp_repeat_ref (T := "tuple") (U := "int") (by decide) ⟨_, ho, rfl⟩ (fun s' => typeIs_int s' 1 t) noFill_tuple_mul F.fills_int_mul F.slot_int_rmul repeat_tuple F.slot_int_index.lookup
      (call_meets F.slot_int_rmul (typeIs_int s 1 t) F.entry_int_rmul (F.args_int_rmul_2 _ _) (int_rmul_tuple 1 t l its.toArray n dd sl)
        ⟨ho, rfl, ⟨_, ho, rfl⟩, call_meets F.slot_tuple_mul ⟨_, ho, rfl⟩ F.entry_tuple_mul (F.args_tuple_mul_2 _ _) (tup_mul1 l its.toArray n dd sl t) ⟨ho, ?_⟩⟩)
    exact ⟨.ref l, H, I, rfl, q⟩
  · obtain ⟨t, rfl⟩ := ry
    refine wpAny_binaryOp_repeat_ref (T := "tuple") (U := "int") (by decide) ⟨_, ho, rfl⟩ (fun s' => typeIs_int s' 0 t) noFill_tuple_mul F.fills_int_mul F.slot_int_rmul repeat_tuple F.slot_int_index.lookup
      (call_meets F.slot_int_rmul (typeIs_int s 0 t) F.entry_int_rmul (F.args_int_rmul_2 _ _) (int_rmul_tuple 0 t l its.toArray n dd sl)
        ⟨ho, rfl, ⟨_, ho, rfl⟩, call_meets F.slot_tuple_mul ⟨_, ho, rfl⟩ F.entry_tuple_mul (F.args_tuple_mul_2 _ _) (tup_mul0 l its.toArray n dd sl t hi) ⟨ho, ?_⟩⟩)
    refine ⟨.ref s.heap.objs.size, _, I.laid (t' := s.toks) (o := .tup []) (fun b ob q => Heap.get?_push_of_some _ q) (Nat.le_refl _) ?_, rfl, q _ (I.hok.fresh (Nat.le_refl _))⟩
    exact ⟨Nat.zero_le _, [], .nil, IsTup.new _ _⟩
def rRepS : R2 := fun x y H Q => ∃ a k, x = .str a ∧ y = .int k ∧ 0 ≤ k ∧ k ≤ 1000 ∧ a.length ≤ 1000 ∧ Q (.str (Txt.mul a k)) H
theorem op_repS : OpR X (binaryOp .Mult) rRepS := by
  intro pins s σ H x y v u Q I rx ry h
  obtain ⟨a, k, rfl, rfl, h1, h2, h3, q⟩ := h
  obtain ⟨t, rfl⟩ := rx
  obtain ⟨t', rfl⟩ := ry
  exact SB.mul (mulOk_of 1000 1000 h3 (by omega) (by omega) (by decide) (by decide)) fun t'' k' => ⟨.str _, H, I.tok _, ⟨_, rfl⟩, q⟩
/-- x * y -/
def dMul (m : M) (x y : D) : Option D := match look m x, look m y with
  | .int i, .int j => if i.natAbs < 2 ^ 64 ∨ j.natAbs < 2 ^ 64 then some (.int (i * j)) else none
  | .str a, .int j => if 0 ≤ j ∧ j ≤ 1000 ∧ a.length ≤ 1000 then some (.str (Txt.mul a j)) else none
  | .tup ds, .int j => if 0 ≤ j ∧ j ≤ 1000 ∧ ds.length ≤ 1000 ∧ ds ≠ [] then some (.tup (List.replicate j.toNat ds).flatten) else none
  | .lst ds, .int j => if 0 ≤ j ∧ j ≤ 1000 ∧ ds.length ≤ 1000 then some (.lst (List.replicate j.toNat ds).flatten) else none
  | _, _ => none
theorem RepL.rep {K : PySem.W.Frag} {m : M} {H : Hp} {ds : List D} {vs : List V} (r : RepL K m H ds vs) : ∀ n : Nat, RepL K m H (List.replicate n ds).flatten (List.replicate n vs).flatten
  | 0 => .nil
  | n + 1 => by
    rw [List.replicate_succ, List.replicate_succ, List.flatten_cons, List.flatten_cons]
    exact r.append (r.rep n)
theorem do_mul : DOp X (binaryOp .Mult) dMul := by
  refine DOp.of (op_mul.or (op_repS.or (op_rep.or (op_repT01.or op_repT)))) fun x y m d v u H Q cx cy rx ry s e q => ?_
  unfold dMul at e
  generalize look m x = cX at cx e
  generalize look m y = cY at cy e
  split at e
  · split at e
    · rename_i hc; cases e
      rw [cont_int cx, cont_int cy]
      refine .inl ⟨_, _, rfl, rfl, ?_, q _ _ Fr.refl s rep_int⟩
      rcases hc with hc | hc
      · exact .inl (by omega)
      · exact .inr (by omega)
    · cases e
  · split at e
    · rename_i hc; cases e
      rw [cont_str cx, cont_int cy]
      exact .inr (.inl ⟨_, _, rfl, rfl, hc.1, hc.2.1, hc.2.2, q _ _ Fr.refl s rep_str⟩)
    · cases e
  · split at e
    · rename_i j hc; cases e
      rw [cont_int cy]
      obtain ⟨a, vs, rfl, ha, r1⟩ := cont_tup cx
      have l1 := r1.length
      have vne : vs ≠ [] := fun z => hc.2.2.2 (List.eq_nil_of_length_eq_zero (by rw [l1, z]; rfl))
      rcases (by omega : j = 0 ∨ j = 1 ∨ 2 ≤ j) with rfl | rfl | hj
      · refine .inr (.inr (.inr (.inl ⟨a, vs, rfl, tupAt_sq ha, vne, .inr ⟨rfl, fun p hp => q _ _ (Fr.laid s hp) (s.laid hp) ?_⟩⟩)))
        exact new_tup s hp .nil
      · refine .inr (.inr (.inr (.inl ⟨a, vs, rfl, tupAt_sq ha, vne, .inl ⟨rfl, q _ _ Fr.refl s ?_⟩⟩)))
        simp only [Rep]
        exact ⟨a, vs, rfl, ha, by simpa using r1⟩
      · exact .inr (.inr (.inr (.inr ⟨a, j, vs, rfl, rfl, tupAt_sq ha, vne, hj, hc.2.1, by omega, fun p hp => q _ _ (Fr.laid s hp) (s.laid hp) (new_tup s hp (r1.rep _))⟩)))
    · cases e
  · split at e
    · rename_i j hc; cases e
      rw [cont_int cy]
      obtain ⟨a, vs, rfl, ha, r1⟩ := cont_lst cx
      have l1 := r1.length
      refine .inr (.inr (.inl ⟨a, j, vs, rfl, rfl, ha, by omega, by omega, ?_, fun p hp => q _ _ (Fr.laid s hp) (s.laid hp) (new_lst s hp (r1.rep _))⟩))
      rw [sizeLine_eq]
      have a1 : vs.length * j.toNat ≤ 1000 * 1000 := Nat.mul_le_mul (by omega) (by omega)
      omega
    · cases e
  · cases e
end
end DL
/-! ### DL13: how many a set of keys has -/
namespace DL
open PySem PySem.Spec PyProof.Rows L2

def hasK (ks : List Key) (x : Key) : Bool := ks.any fun k => decide (x = k)
theorem hasK_iff {ks : List Key} {x : Key} : hasK ks x = true ↔ x ∈ ks := by
  unfold hasK
  rw [List.any_eq_true]
  constructor
  · rintro ⟨y, h, e⟩
    rw [of_decide_eq_true e]; exact h
  · intro h
    exact ⟨x, h, decide_eq_true rfl⟩
theorem hasK_snoc (ks : List Key) (y x : Key) : hasK (ks ++ [y]) x = (hasK ks x || decide (x = y)) := by
  unfold hasK; simp
theorem scan_of {k : Key} {u : Value} (r : RelV (kV k) u) : u.scannable = true := by
  cases k <;> (obtain ⟨t, rfl⟩ := r; rfl)
/-- how many unlike ones the first i keys are -/
def ndK (ks : List Key) : Nat → Nat
  | 0 => 0
  | i + 1 => ndK ks i + if hasK (ks.take i) (ks.getD i (.inl 0)) = true then 0 else 1
theorem ndK_le (ks : List Key) : ∀ i, ndK ks i ≤ i
  | 0 => Nat.le_refl _
  | i + 1 => by
    have := ndK_le ks i
    unfold ndK
    split <;> omega
theorem ndK_nodup {ks : List Key} (h : ks.Nodup) : ∀ i, i ≤ ks.length → ndK ks i = i
  | 0, _ => rfl
  | i + 1, hi => by
    have hlt : i < ks.length := hi
    have ih := ndK_nodup h i (Nat.le_of_lt hlt)
    have no : ¬ hasK (ks.take i) (ks.getD i (.inl 0)) = true := fun hm => by
      rw [hasK_iff] at hm
      rw [List.getD_eq_getElem?_getD, List.getElem?_eq_getElem hlt] at hm
      obtain ⟨j, hj, e⟩ := List.getElem_of_mem hm
      have hji : j < i := by rw [List.length_take] at hj; omega
      rw [List.getElem_take] at e
      exact absurd e (List.pairwise_iff_getElem.mp h j i (by omega) hlt hji)
    unfold ndK
    rw [if_neg no, ih]
section
variable {prog : Program} {w : World} {A : Around} {R : Result → Shared → Prop} {I : Addr} {fp wr : List Addr} {G : Array GenState → Array GenState → Prop} {n : Nat} {P : Nat → Value → Prop} {St : Nat → Shared → Prop}
theorem setOf_from {K : Type} [DecidableEq K] {knd : PySem.KeyKind prog w K} {h h' : Heap} {a : Addr} {S : K → Bool} {n : Nat} (q : h.SetOf knd a S n) (k : ∀ o, h.get? a = some o → h'.get? a = some o) : h'.SetOf knd a S n := by
  obtain ⟨o, es, ep, t, ho, r⟩ := q
  exact ⟨o, es, ep, t, k o ho, r⟩
theorem loopK (W : WalksS prog w A.in1 I fp wr G n P St) (S : Addr) (hS : S ∉ fp) (ks : List Key) (hn : n < 4000) (val : ∀ i v, P i v → RelV (kV (ks.getD i (.inl 0))) v) :
    ∀ (k i : Nat) (s : Shared), n - i = k → i ≤ n → St i s → s.heap.SetOf (mixKind prog w) S (hasK (ks.take i)) (ndK ks i) → n ≤ ks.length →
      (∀ s', Moved (S :: wr) G s s' → s'.heap.SetOf (mixKind prog w) S (hasK (ks.take n)) (ndK ks n) → R (.ok (.ret .none)) s') →
      codeAny (model prog w) A (.builtin "set.update.loop" ⟨[.ref S, .ref I], []⟩) R s := by
  have hSw : S ∉ wr := fun h => hS (W.sub _ h)
  have hsub : ∀ b ∈ wr, b ∈ S :: wr := fun b hb => List.mem_cons_of_mem _ hb
  intro k
  induction k with
  | zero =>
    intro i s hk hi st q hl fin
    obtain rfl : i = n := by omega
    refine codeAny_builtin PyProof.Rows.F.entry_set_update_loop ?_
    rw [Around.under_plainId PyProof.Rows.F.plain_set_update_loop _]
    show wpAny _ A.in1 (pyNext (.ref I) >>= _) _ _ s
    refine wpAny_bind (W.done s _ _ st fun s' m => ?_)
    show wpAny _ A.in1 (ret Value.none) _ _ s'
    exact wpAny_pure (fin s' (m.mono hsub) (setOf_from q fun o => m.heap S o hSw))
  | succ k ih =>
    intro i s hk hi st q hl fin
    have hlt : i < n := by omega
    refine codeAny_builtin PyProof.Rows.F.entry_set_update_loop ?_
    rw [Around.under_plainId PyProof.Rows.F.plain_set_update_loop _]
    show wpAny _ A.in1 (pyNext (.ref I) >>= _) _ _ s
    refine wpAny_bind (W.item i s _ _ hlt st fun v s' hv st' m => ?_)
    have rv := val i v hv
    have q1 := setOf_from q fun o => m.heap S o hSw
    show wpAny _ A.in1 (holding [v] (setAdd S v) >>= _) _ _ s'
    refine wpAny_bind (wpAny_holding ?_)
    unfold setAdd
    refine wpAny_holding (wpAny_bind ((mixKind prog w).pyHash (k := ks.getD i (.inl 0)) (kV_is rv) ?_))
    refine wpAny_setAddHashed_of (knd := mixKind prog w) (s := { s' with toks := s'.toks + 1 }) (kV_is rv) (scan_of rv) q1 (by have := ndK_le ks i; unfold scanBound; omega) fun h' sb q2 => ?_
    have q3 : h'.SetOf (mixKind prog w) S (hasK (ks.take (i + 1))) (ndK ks (i + 1)) := by
      have hl2 : i < ks.length := by omega
      have e : ks.take (i + 1) = ks.take i ++ [ks.getD i (.inl 0)] := by
        rw [List.take_add_one, List.getD_eq_getElem?_getD, List.getElem?_eq_getElem hl2] <;> rfl
      have e1 : hasK (ks.take (i + 1)) = fun x => hasK (ks.take i) x || decide (x = ks.getD i (.inl 0)) := by
        funext x; rw [e, hasK_snoc]
      have e2 : ndK ks (i + 1) = if hasK (ks.take i) (ks.getD i (.inl 0)) = true then ndK ks i else ndK ks i + 1 := by
        show ndK ks i + _ = _
        by_cases hm : hasK (ks.take i) (ks.getD i (.inl 0)) = true
        · rw [if_pos hm, if_pos hm, Nat.add_zero]
        · rw [if_neg hm, if_neg hm]
      rw [e1, e2]
      exact q2
    refine wpAny_pure ⟨plainId_quiet PyProof.Rows.F.plain_set_update_loop _, ih (i + 1) _ (by omega) hlt (W.frame _ s' _ _ st' (Nat.le_succ _) fun b hb o e => ?_) q3 hl fun s'' m2 q4 => ?_⟩
    · rw [sb.2 b (fun h : b = S => hS (by rw [← h]; exact hb))]; exact e
    · refine fin s'' (Moved.trans W.gtrans ((m.mono hsub).then_heap (Nat.le_succ _) fun b o hb e => ?_) m2) q4
      rw [sb.2 b (fun h : b = S => hb (by rw [h]; exact List.mem_cons_self))]; exact e
end
section
variable {prog : Program} {w : World} {A : Around} {E : Value → Shared → Prop} {s : Shared}
end
def emptySet (led : Bool) : Obj := { cls := .type "set", dict := none, data := .set #[] 0 (.fresh 0 0 led) }
section
variable {prog : Program} {w : World} {A : Around} {E : Value → Shared → Prop} {s : Shared}
set_option maxHeartbeats 3200000 in
theorem set_gen {l : Addr} {Mv : Shared → Prop} {Q : Value → Shared → Prop} (hh : A.handled = none)
    (hinit : ∀ (B : Around) (led : Bool), led = (!w.params.followText "set-order") → B.handled = none → codeAny (model prog w) B (.call (.builtin "set.__init__") ⟨[.ref s.heap.objs.size, .ref l], []⟩) (wants (fun r s' => r = .none ∧ Mv s') E) { s with heap := s.heap.push (emptySet led) })
    (h : ∀ s', Mv s' → Q (.ref s.heap.objs.size) s') : wpAny (model prog w) A (call (.type "set") [.ref l]) Q E s := by
  obtain ⟨c, tl, hmro⟩ := PySem.F.called_set.mro
  have hmade := PySem.F.called_set.made
  have hsub := PySem.F.called_set.sub
  refine wpAny_call (codeAny_of_tree ?_)
  show wpAny _ _ (callAny (.type "set") _) _ _ _
  refine wpAny_pure ⟨Code.quiet_builtin _ (by decide +kernel), codeAny_builtin PySem.F.entry_type_call ?_⟩
  rw [Around.under_plain (weight_type_call_type "set" [.ref l] []) rfl]
  have h1 := PySem.F.called_set.notType
  have h2 := PySem.F.called_set.canCreate
  have hct := PySem.F.typeCall_set_1 (.ref l)
  repeat (any_goals (first | assumption | wp_step))
  refine codeAny_mono (L2.code_set_led1 (.ref l) (E := E) (Q₁ := fun obj s1 => obj = .ref s.heap.objs.size ∧ s1 = { s with heap := s.heap.push (emptySet (!w.params.followText "set-order")) }) ⟨rfl, rfl⟩) fun r s1 hr => ?_
  cases r with
  | error e => exact hr
  | ok fl =>
    cases fl with
    | ret obj =>
      obtain ⟨rfl, rfl⟩ := hr
      generalize hled : (!w.params.followText "set-order") = led
      have hS : (s.heap.push (emptySet led)).get? s.heap.objs.size = some (emptySet led) := Heap.get?_push_size _ rfl
      have hT : Shared.TypeIs { s with heap := s.heap.push (emptySet led) } (.ref s.heap.objs.size) "set" := ⟨_, hS, rfl⟩
      have hli := PySem.F.called_set.init.lookup
      have hbi := PySem.F.called_set.init.bind (.ref s.heap.objs.size)
      repeat (any_goals (first | assumption | wp_step))
      refine codeAny_mono (hinit _ led hled.symm (by simp [hh])) fun r2 s2 hr2 => ?_
      cases r2 with
      | error e => exact hr2
      | ok fl2 =>
        cases fl2 with
        | ret r =>
          obtain ⟨rfl, hM⟩ := hr2
          repeat (any_goals (first | assumption | wp_step))
          exact h _ hM
        | _ => exact hr2.elim
    | _ => exact hr.elim
/-- set.__init__ of a new set with one list or tuple, down to the walk -/
theorem init_gen {B : Around} {l : Addr} {T : String} {R : Result → Shared → Prop} {led : Bool} {dd : Option Addr} {items : Array Value} {n : Nat} {sl : Array (Option Value)} {s : Shared} {S : Addr}
    (hS : s.heap.get? S = some (emptySet led)) (hl : s.heap.get? l = some { cls := .type T, dict := dd, data := .seq items n, slots := sl })
    (hsls : isSubtype (.type T) (.type "set") = pure false) (hslf : isSubtype (.type T) (.type "frozenset") = pure false) (hne : (Value.type T == Value.type "dict") = false)
    (h : wpAny (model prog w) B.in1 (pyIter (.ref l)) (fun it s' => wpAny (model prog w) B.in1 (runValue (.builtin "set.update.loop" ⟨[.ref S, it], []⟩)) (fun _ s2 => R (.ok (.ret .none)) s2) (fun e s2 => R (.error e) s2) s') (fun e s' => R (.error e) s') s) :
    codeAny (model prog w) B (.call (.builtin "set.__init__") ⟨[.ref S, .ref l], []⟩) R s := by
  have hT : Shared.TypeIs s (.ref S) "set" := ⟨_, hS, rfl⟩
  refine codeAny_call_builtin PySem.F.called_set.init.plain PySem.F.entry_set_init (check_set_init_1 hT ?_)
  unfold Builtin.«set.__init__» noKeywords Builtin.Frozenset.updateFrom
  generalize hPI : pyIter = PI
  wp_walk
  subst hPI
  refine wpAny_mono h (fun it s' q => wpAny_bind (wpAny_mono q (fun v s2 q2 => wpAny_pure (wpAny_pure q2)) fun _ _ e => e)) fun _ _ e => e
end
section
variable {prog : Program} {w : World} {A : Around} {E : Value → Shared → Prop} {s : Shared}
theorem vals_at : ∀ {ks : List Key} {us : List Value}, Vals (ks.map kV) us → ∀ (i : Nat) (v : Value), us[i]? = some v → RelV (kV (ks.getD i (.inl 0))) v
  | [], _, .nil, i, v, h => by simp at h
  | k :: ks, _, .cons r t, 0, v, h => by simp at h; subst h; exact r
  | k :: ks, _, .cons r t, i + 1, v, h => by
    simp only [List.getElem?_cons_succ] at h
    exact vals_at t i v h
/-- the walk of set(x) down to its loop, x a tuple of keys -/
theorem call_setT {l : Addr} {items : Array Value} {ks : List Key} {Q : Value → Shared → Prop} (hh : A.handled = none) (hl : s.heap.IsTuple l items) (hi : Vals (ks.map kV) items.toList) (hn : ks.length < 4000)
    (h : ∀ (h' : Heap) (tk : Nat), h'.SetOf (mixKind prog w) s.heap.objs.size (hasK (ks.take ks.length)) (ndK ks ks.length) → (∀ b o, b < s.heap.objs.size → s.heap.get? b = some o → h'.get? b = some o) → Q (.ref s.heap.objs.size) { s with heap := h', toks := tk }) :
    wpAny (model prog w) A (call (.type "set") [.ref l]) Q E s := by
  have hsz : ks.length = items.size := by
    have := hi.length
    rw [List.length_map, Array.length_toList] at this
    exact this
  refine set_gen (Mv := fun s' => ∃ h' tk, s' = { s with heap := h', toks := tk } ∧ h'.SetOf (mixKind prog w) s.heap.objs.size (hasK (ks.take ks.length)) (ndK ks ks.length) ∧ ∀ b o, b < s.heap.objs.size → s.heap.get? b = some o → h'.get? b = some o) hh (fun B led hled hB => ?_) (fun s' ⟨h', tk, e, hS, hk⟩ => by subst e; exact h h' tk hS hk)
  obtain ⟨⟨ocls, odict, odata, oslots⟩, hol, hcl, nl, hdl⟩ := hl
  simp only at hcl hdl
  subst hcl hdl
  have hS : (s.heap.push (emptySet led)).get? s.heap.objs.size = some (emptySet led) := Heap.get?_push_size _ rfl
  have hol' : (s.heap.push (emptySet led)).get? l = some { cls := .type "tuple", dict := odict, data := .seq items nl, slots := oslots } := Heap.get?_push_of_some _ hol
  have hl1 : (s.heap.push (emptySet led)).IsTuple l items := ⟨_, hol', rfl, nl, rfl⟩
  refine init_gen (s := { s with heap := s.heap.push (emptySet led) }) hS hol' PySem.F.sub_tuple_set PySem.F.sub_tuple_frozenset (by decide) ?_
  refine wpAny_pyIter_tuple hl1 (wpAny_runValue ?_)
  have hlS : l < s.heap.objs.size := Heap.lt_size hol
  have big : (s.heap.push (emptySet led)).objs.size = s.heap.objs.size + 1 := Heap.size_push _ _
  have hSf : s.heap.objs.size ∉ [(s.heap.push (emptySet led)).objs.size, l] := by
    rw [big]
    simp only [List.mem_cons, List.not_mem_nil, or_false, not_or]
    exact ⟨Nat.ne_of_lt (Nat.lt_succ_self _), Nat.ne_of_gt hlS⟩
  refine loopK (Walks.tuple (A := B.in1.in1) (by simp [hB]) _ l (by rw [big]; exact Nat.ne_of_lt (Nat.lt_succ_of_lt hlS)) items).toS s.heap.objs.size hSf ks (by omega) (fun i v hv => vals_at hi i v (by rw [Array.getElem?_toList]; exact hv))
    (items.size - 0) 0 _ (by omega) (Nat.zero_le _) ⟨⟨_, Heap.get?_push_size _ rfl, rfl, rfl⟩, hl1.push _⟩ ?_ (by omega) fun s' m q => ?_
  · have hg : ((s.heap.push (emptySet led)).push { cls := .type "tuple_iterator", data := .fields #[.ref l, .int 0 0] }).get? s.heap.objs.size = some (emptySet led) := Heap.get?_push_of_some _ hS
    have e0 : hasK (ks.take 0) = fun _ => false := by funext x; rfl
    rw [e0]
    exact ⟨_, #[], 0, _, hg, ⟨rfl, rfl, rfl⟩, rfl, (fun e he => by simp at he), (fun k => by simp), (by decide), (by rfl), rfl⟩
  · obtain ⟨h', g', d', tk', os'⟩ := s'
    have eg : g' = s.gens := m.gens
    have ed : d' = s.drawn := m.drawn
    have eo : os' = s.os := m.os
    subst eg ed eo
    rw [← hsz] at q
    refine ⟨rfl, h', tk', rfl, q, fun b o hb e => ?_⟩
    refine m.heap b o ?_ (Heap.get?_push_of_some _ (Heap.get?_push_of_some _ e))
    simp only [List.mem_cons, List.not_mem_nil, or_false, not_or]
    have := big
    exact ⟨Nat.ne_of_lt hb, by rw [big]; exact Nat.ne_of_lt (Nat.lt_succ_of_lt hb)⟩
end
section
variable {X : Cx} {a : Expr} {ta : DTE} {p p2 q pos : Pos}
/-- len(set(xs)), xs a tuple of keys -/
def tLenSet (ta : DTE) : DTE := fun env m Q => ta env m fun d m1 => ∃ ds ks, look m1 d = .tup ds ∧ keysOf ds = some ks ∧ ks.length < 4000 ∧ Q (.int (ndK ks ks.length)) m1
theorem de_lenSet (hc : X.calm = true) (hm : X.mg "len" = none) (hm2 : X.mg "set" = none) (ha : DE X a ta) (hg : Gl X "len" := by rfl) (hg2 : Gl X "set" := by rfl)
    (na : starEach [a] X.env = (false, eval a X.env) :: starEach [] X.env := by rfl) : DE X (.Call (.Name "len" p) [.Call (.Name "set" p2) [a] [] q] [] pos) (tLenSet ta) := by
  refine ⟨⟨fun pins s σ H Q I h => ?_⟩⟩
  obtain ⟨env, m, R, eo, sm, h, k⟩ := h
  have h0 : liftE X.K ta σ H (fun x H1 => ∃ (l : Addr) (ks : List Key), x = .ref l ∧ SqT X.K H1 l (ks.map kV) ∧ ks.length < 4000 ∧ Q (.int (ndK ks ks.length)) H1) := by
    refine ⟨env, m, _, eo, sm, h, fun d m1 v H1 h1 f1 s1 r1 => ?_⟩
    obtain ⟨ds, ks, e1, e2, hz, h1⟩ := h1
    have cc := cont_of s1 r1
    rw [e1] at cc
    obtain ⟨l, vs, rfl, hp, r2⟩ := cont_tup cc
    have e3 := keysOf_eq e2
    subst e3
    have e4 := repL_kV r2
    subst e4
    exact ⟨l, ks, rfl, tupAt_sq hp, hz, k _ m1 _ H1 h1 f1 s1 rep_int⟩
  refine Call_ (ld_blt I hg hm boot_len ?_)
  refine PyProof.Rows.callWith_builtin1 (PyProof.Rows.args_cons ?_ rfl) rfl rfl
  refine Call_ (ld_blt I hg2 hm2 boot_set ?_)
  refine PyProof.Rows.callWith_type1 (PyProof.Rows.args_cons (thn (ha.run.run pins s σ H _ I h0) fun v s1 ⟨x, H1, I1, r1, q1⟩ => PyProof.Rows.args_nil ?_) na) na rfl
  obtain ⟨l, ks, rfl, hq, hz, q1⟩ := q1
  cases r1
  obtain ⟨its, r, pl, hz2⟩ := I1.tuple hq
  refine call_setT (I1.ok.hd hc) pl (by simpa using r) hz fun h' tk hS hk => PyProof.Rows.args_nil ?_
  obtain ⟨o, es, ep, t, ho, hex, hd, _, _, _, hf, hn⟩ := hS
  have I2 : Inv X pins σ H1 { s1 with heap := h', toks := tk } := I1.kept fun b o e => hk b o (Heap.lt_size e) e
  have := ndK_le ks ks.length
  exact call_len_set ho hex hd hf (by rw [hn]; omega) ⟨.int _, H1, I2.tok _, ⟨_, by rw [hn]⟩, q1⟩
end
end DL
/-! ### DL14: repr, isinstance -/
namespace DL
open PySem PySem.Spec PyProof.Rows L2
section
variable {X : Cx} {pos : Pos}
theorem de_bty {x : Str} {T : String} (hm : X.mg x = none) (hv : bootBuiltins x = some (.type T)) (hg : Gl X x := by rfl) (hn : x ≠ "__name__" := by decide) (hd : (x == ("__debug__" : Str)) = false := by decide) : DE X (.Name x pos) (tK (.ty T)) :=
  de_c (pe_bltn (v := .ty T) hg hm hv rfl hn hd) fun m H => by simp only [Rep]
/-- repr of lists, tuples -/
def dRepr : D → Option D
  | .lst ds => if dat 60 (.lst ds) = true ∧ (toPd (.lst ds)).showable = true ∧ (toPd (.lst ds)).shown.length ≤ sizeLine then some (.str (toPd (.lst ds)).shown) else none
  | .tup ds => if dat 60 (.tup ds) = true ∧ (toPd (.tup ds)).showable = true ∧ (toPd (.tup ds)).shown.length ≤ sizeLine then some (.str (toPd (.tup ds)).shown) else none
  | _ => none
theorem call_reprD (hg : X.A.guards = some []) (hu : X.A.units + 65 < cLine) : CallR X (.builtin "repr") (fun xs H Q => ∃ a d, xs = [.ref a] ∧ Dp X.K H (.ref a) d ∧ SeqAt.shaped d = true ∧ d.depth ≤ 60 ∧ d.hasDict = false ∧ d.showable = true ∧ d.shown.length ≤ sizeLine ∧ Q (.str d.shown) H) := by
  intro pins s σ H xs us Q I r h
  obtain ⟨a, d, rfl, hd, sh, dp, nd, hs, hz, q⟩ := h
  obtain rfl := Vals.ref1 r
  obtain ⟨as, r1⟩ := Dp.reads I d (.ref a) (.ref a) hd rfl
  refine repr_of_reads' r1 hs (PyData.noDict_hsm nd) hg (by omega) (fun _ _ e => e) (fun h' u tk hk => ?_) hz
  exact ⟨.str _, H, I.kept (t' := tk) hk, ⟨_, rfl⟩, q⟩
theorem dc_repr (hg : X.A.guards = some []) (hu : X.A.units + 65 < cLine) : DCall X (.builtin "repr") (d1 dRepr) := dc_1 (call_reprD hg hu) fun c m d v H Q cc s e q => by
  have main : ∀ c, dat 60 c = true → (toPd c).showable = true → (toPd c).shown.length ≤ sizeLine → d = .str (toPd c).shown → Cont X.K m H c v → (∃ a, v = .ref a) → ∃ a d, [v] = [V.ref a] ∧ Dp X.K H (.ref a) d ∧ SeqAt.shaped d = true ∧ d.depth ≤ 60 ∧ d.hasDict = false ∧ d.showable = true ∧ d.shown.length ≤ sizeLine ∧ Q (.str d.shown) H := by
    rintro c h1 h2 h3 rfl cc ⟨a, rfl⟩
    obtain ⟨l1, l2⟩ := dat_lay 60 c h1
    exact ⟨a, toPd c, rfl, cont_dp s h1 cc, dat_shaped (by decide) h1, l2, PyData.hasDict_of_canLay _ l1, h2, h3, q _ _ Fr.refl s rep_str⟩
  unfold dRepr at e
  split at e
  · split at e
    · rename_i hc; cases e
      exact main _ hc.1 hc.2.1 hc.2.2 rfl cc (by obtain ⟨a, vs, e, _⟩ := cont_lst cc; exact ⟨a, e⟩)
    · cases e
  · split at e
    · rename_i hc; cases e
      exact main _ hc.1 hc.2.1 hc.2.2 rfl cc (by obtain ⟨a, vs, e, _⟩ := cont_tup cc; exact ⟨a, e⟩)
    · cases e
  · cases e

/-! isinstance -/
abbrev Ty := Sum String Addr
def tyD : D → Option Ty
  | .non => some (.inl "NoneType")
  | .bl _ => some (.inl "bool")
  | .int _ => some (.inl "int")
  | .str _ => some (.inl "str")
  | .tup _ => some (.inl "tuple")
  | .lst _ => some (.inl "list")
  | .scr _ => some (.inl "list")
  | .dic _ _ => some (.inl "dict")
  | .ins C _ _ => some (.inr C)
  | _ => none
def clD : D → Option Ty
  | .ty n => some (.inl n)
  | .ref C => some (.inr C)
  | _ => none
def valT : Ty → Value
  | .inl n => .type n
  | .inr C => .ref C
structure InsT (K : PySem.W.Frag) (C : Addr) : Prop where
  cl : Cls K C
  ha : PySem.W.findIn K (.ref C) "__class__" = some (some (.builtin "object.__class__"))
  hn : PySem.W.specialIn K (.builtin "object.__class__") "__get__" = some (some (.builtin "getset_descriptor.__get__"))
  htk : PySem.W.takesIn K (.builtin "object.__class__") = some true
  hm : PySem.W.mroIn K C (.type "object") = some true
theorem cont_ty {K : PySem.W.Frag} {m : M} {H : Hp} {c : D} {v : V} {t : Ty} (cc : Cont K m H c v) (e : tyD c = some t) (hi : ∀ C, t = .inr C → InsT K C) : TyX K H v (valT t) := by
  unfold tyD at e
  split at e
  · cases e; rw [cont_non cc]; exact .base .non
  · cases e; rw [cont_bl cc]; exact .base (.bl _)
  · cases e; rw [cont_int cc]; exact .base (.int _)
  · cases e; rw [cont_str cc]; exact .base (.str _)
  · cases e
    obtain ⟨a, vs, rfl, h, _⟩ := cont_tup cc
    rcases h with ⟨_, h⟩ | ⟨o, its, n, h1, h2, _⟩
    · exact .base (.tup h)
    · exact .kTuple h1 h2
  · cases e
    obtain ⟨a, vs, rfl, h, _⟩ := cont_lst cc
    exact .base (.lst h)
  · cases e
    obtain ⟨a, rfl, h⟩ := cont_scr cc
    rcases h with (h | ⟨o, h⟩) | ⟨o, its, n, h1, h2, _⟩
    · exact .base (.lst h)
    · exact .base (.frz h)
    · exact .kList h1 h2
  · cases e
    obtain ⟨a, vs, rfl, ⟨kvs, (h | ⟨o, h⟩), _⟩, _⟩ := cont_dic cc
    · exact .base (.dK h)
    · exact .fDict h
  · cases e
    obtain ⟨a, dx, fs, rfl, h, _⟩ := cc
    have i := hi _ rfl
    exact .base (.ins h i.cl i.ha i.hn i.htk i.hm)
  · cases e
def dIsi (J : Ty → Ty → Option Bool) (m : M) : List D → Option D
  | [x, c] => match tyD (look m x), clD (look m c) with
    | some t, some u => (J t u).map .bl
    | _, _ => none
  | _ => none
def JOk (K : PySem.W.Frag) (J : Ty → Ty → Option Bool) : Prop := ∀ t u b, J t u = some b → PySem.W.kitOne K (valT t) (valT u) = some b ∧ ∀ C, t = .inr C → InsT K C
theorem dc_isi {J : Ty → Ty → Option Bool} (hJ : JOk X.K J) : DCall X (.builtin "isinstance") (dIsi J) := callW call_isi fun vs H Q ⟨ds, m, d, r, s, e, q⟩ => by
  unfold dIsi at e
  split at e
  · simp only [RepL] at r
    obtain ⟨v1, r', rfl, h1, v2, r2, rfl, h2, rfl⟩ := r
    split at e
    · rename_i t u e1 e2
      obtain ⟨b, eb, rfl⟩ := Option.map_eq_some_iff.mp e
      obtain ⟨k1, k2⟩ := hJ t u b eb
      have c1 := cont_ty (cont_of s h1) e1 k2
      have c2 := cont_of s h2
      refine ⟨v1, v2, valT t, valT u, b, rfl, ?_, c1, k1, q _ _ Fr.refl s rep_bl⟩
      unfold clD at e2
      split at e2
      · rename_i e3; cases e2
        rw [e3] at c2
        simp only [Cont, Rep] at c2
        rw [c2]; exact .ty _
      · rename_i e3; cases e2
        rw [e3] at c2
        simp only [Cont, Rep] at c2
        rw [c2]; exact .own _
      · cases e2
    · cases e
  · cases e
/-- built-in types alone -/
def JB : Ty → Ty → Option Bool
  | .inl a, .inl b => kitB a b
  | _, _ => none
theorem jb_ok {K : PySem.W.Frag} : JOk K JB := fun t u b e => by
  unfold JB at e
  split at e
  · exact ⟨kit_ty e, fun C z => nomatch z⟩
  · cases e
theorem kb_str_str : kitB "str" "str" = some true := by decide +kernel
theorem kb_tup_str : kitB "tuple" "str" = some false := by decide +kernel
theorem kb_lst_str : kitB "list" "str" = some false := by decide +kernel
theorem kb_int_str : kitB "int" "str" = some false := by decide +kernel
theorem kb_bl_str : kitB "bool" "str" = some false := by decide +kernel
theorem kb_non_str : kitB "NoneType" "str" = some false := by decide +kernel
theorem kb_tup_tup : kitB "tuple" "tuple" = some true := by decide +kernel
theorem kb_str_tup : kitB "str" "tuple" = some false := by decide +kernel
theorem kb_lst_tup : kitB "list" "tuple" = some false := by decide +kernel
theorem kb_int_tup : kitB "int" "tuple" = some false := by decide +kernel
theorem kb_bl_tup : kitB "bool" "tuple" = some false := by decide +kernel
theorem kb_non_tup : kitB "NoneType" "tuple" = some false := by decide +kernel
end
end DL
/-! ### DL15: calls by names of parameters -/
namespace DL
open PySem PySem.Spec PyProof.Rows L2

def permL {α : Type} (is : List Nat) (xs : List α) : List α := is.filterMap fun i => xs[i]?
theorem permL_vals {vs : List V} {us : List Value} (r : Vals vs us) : ∀ is : List Nat, Vals (permL is vs) (permL is us)
  | [] => .nil
  | i :: is => by
    have ih := permL_vals r is
    unfold permL at ih ⊢
    rw [List.filterMap_cons, List.filterMap_cons]
    cases e : vs[i]? with
    | none =>
      have : us[i]? = none := by
        rw [List.getElem?_eq_none_iff] at e ⊢
        rw [← r.length]; exact e
      rw [this]; exact ih
    | some v =>
      obtain ⟨u, hu, ru⟩ := r.get e
      rw [hu]; exact .cons ru ih
theorem permL_rep {K : PySem.W.Frag} {m : M} {H : Hp} {ds : List D} {vs : List V} (r : RepL K m H ds vs) : ∀ is : List Nat, RepL K m H (permL is ds) (permL is vs)
  | [] => .nil
  | i :: is => by
    have ih := permL_rep r is
    unfold permL at ih ⊢
    rw [List.filterMap_cons, List.filterMap_cons]
    cases e : ds[i]? with
    | none =>
      have : vs[i]? = none := by
        rw [List.getElem?_eq_none_iff] at e ⊢
        rw [← r.length]; exact e
      rw [this]; exact ih
    | some d =>
      obtain ⟨v, hv, rv⟩ := r.get e
      rw [hv]; exact .cons rv ih
/-- a promise for calls with n values by position and these names behind -/
def FnGK (P : Program) (w : World) (K : PySem.W.Frag) (mg : Str → Option Value) (base : Heap) (CX : CXT) (k : Nat) (f : Addr) (n : Nat) (ks : List Str) (is : List Nat) (sp : Sp) : Prop :=
  ∀ (A : Around) (outer : List PySem.Env) (s : Shared) (H : Hp) (us ws : List Value) (vs zs : List V) (Q : VK) (E : XK), RoomG k A → Env0 P w K mg base A outer s H → Vals vs us → Vals zs ws → vs.length = n → zs.length = ks.length → sp (permL is (vs ++ zs)) H Q E →
    codeAny (model P w) A (.call (.ref f) ⟨us, ks.zip ws⟩) (CR CX outer P w H s Q E) s
theorem FnGK.imp {P : Program} {w : World} {K : PySem.W.Frag} {mg : Str → Option Value} {base : Heap} {CX : CXT} {k : Nat} {f : Addr} {n : Nat} {ks : List Str} {is : List Nat} {sp sp' : Sp} (F : FnGK P w K mg base CX k f n ks is sp) (h : ∀ vs H Q E, sp' vs H Q E → sp vs H Q E) : FnGK P w K mg base CX k f n ks is sp' :=
  fun A outer s H us ws vs zs Q E hr e0 rv rz ln lz q => F A outer s H us ws vs zs Q E hr e0 rv rz ln lz (h _ _ _ _ q)
theorem fn_mkK {P : Program} {w : World} {K : PySem.W.Frag} {mg : Str → Option Value} {base : Heap} {x qual : Str} {st : Stmt} {f : Addr} {fd : FuncData} {N ps ks : List Str} {is : List Nat} {n k : Nat} {sp : DSp} {t : DTS} (F : Fun K x qual st f fd) (S : FnScope N ps (defScope st))
    (hb : ∀ (kV doc pm : Value) (an : Option Addr) (cdv ct : Value) (us ws : List Value), us.length = n → ws.length = ks.length → bindArgs (PySem.W.fnOf x qual (defArgs st) (defBody st) (defScope st) .none kV doc pm an cdv ct) ⟨us, ks.zip ws⟩ = pure (ps.zip (permL is (us ++ ws))))
    (hn : ∀ ds m R, sp ds m R → ds.length = ps.length)
    (hbody : ∀ (cdv : Value) (A : Around) (outer : List PySem.Env) (s : Shared) (H : Hp) (E : XK), RoomG k (A.deeper (envOfC qual (defScope st) s.heap.objs.size f cdv)) → DSs (cxOf CX0 P w K mg base N qual (defScope st) f cdv A outer s H E).nox (defBody st) t)
    (hsp : ∀ ds m R, sp ds m R → t (startD N.length ds) m (bodyEnds R)) : FnGK P w K mg base CX0 (k + 1) f n ks is (liftSp K sp) := by
  obtain ⟨oc, od, kV, doc, pm, an, cdv, ct, osl, rfl, lk, hcd⟩ := F.ex
  intro A outer s H us ws vs zs Q E hr e0 rv rz ln lz ⟨ds, m, R, r, sm, q, kq⟩
  have hb1 := hb kV doc pm an cdv ct us ws (by rw [← rv.length]; exact ln) (by rw [← rz.length]; exact lz)
  have rp := permL_vals (rv.append rz) is
  have hl : (permL is (vs ++ zs)).length = ps.length := by rw [← r.length]; exact hn _ _ _ q
  refine StX.run_bnd lk hcd S hr.r e0 (G := fun xs H2 => xs = permL is (vs ++ zs) ∧ H2 = H) (fun A' Ex Q' h => ?_) fun s2 H2 xs g hr' => ?_
  · rw [hb1]
    exact wpAny_pure (h s H _ _ e0 Un.refl rfl (fun _ _ z => z) rp hl ⟨rfl, rfl⟩)
  · obtain ⟨rfl, rfl⟩ := g
    exact ⟨_, (hbody cdv A outer s2 _ E ⟨hr', hr.g⟩).run.nox, body_lift r sm (hsp _ _ _ q) kq⟩
structure CalMK (X : Cx) (C : Addr) (m : Str) (k : Nat) (n : Nat) (ks : List Str) (is : List Nat) (sp : DSp) : Prop where
  ex : ∃ f, Meth X.K C m f ∧ FnGK X.prog X.w X.K X.mg X.base CX0 k f n ks is (liftSp X.K sp)
structure CalFK (X : Cx) (x : Str) (k : Nat) (n : Nat) (ks : List Str) (is : List Nat) (sp : DSp) : Prop where
  ex : ∃ f, X.mg x = some (.ref f) ∧ PySem.W.keepIn X.K (.ref f) = true ∧ FnGK X.prog X.w X.K X.mg X.base CX0 k f n ks is (liftSp X.K sp)
structure DK_ (X : Cx) (kws : List Keyword) (t : DTA) : Prop where run : PK X kws (liftA X.K t)
section
variable {X : Cx} {k n : Nat} {ks : List Str} {is : List Nat} {sp : DSp} {C : Addr} {x m : Str} {nm : Option Str} {kpos p pos apos : Pos} {e o : Expr} {kws : List Keyword} {te ta : DTE} {t : DTA}
theorem PK.weak {t t' : TA} (h : PK X kws t) (k : ∀ σ H Q, t' σ H Q → t σ H Q) : PK X kws t' := ⟨fun pos pins s σ H Q I q => h.run pos pins s σ H Q I (k σ H Q q)⟩
theorem dk_nil : DK_ X [] tA0 := ⟨PK.weak pk_nil fun σ H Q h => by
  obtain ⟨env, m, R, eo, s, h, k⟩ := h
  exact k [] m [] H h Fr.refl s .nil⟩
theorem dk_cons (ha : DE X e te) (hr : DK_ X kws t) : DK_ X (⟨nm, e, kpos⟩ :: kws) (tAC te t) := ⟨PK.weak (pk_cons ha.run hr.run) fun σ H Q h => by
  obtain ⟨env, m, R, eo, s, h, k⟩ := h
  refine ⟨env, m, _, eo, s, h, fun d m1 v H1 h1 f1 s1 r1 => ?_⟩
  refine ⟨env, m1, _, eo.mono f1, s1, h1, fun ds m2 vs H2 h2 f2 s2 r2 => ?_⟩
  exact k (d :: ds) m2 (v :: vs) H2 h2 (f1.trans f2) s2 (.cons (Rep.mono f2 _ _ r1) r2)⟩
theorem run_fnGK {pins : List (Addr × Obj)} {σ : L2.St} {H : Hp} {s : Shared} {CX : CXT} {f : Addr} {sp : Sp} {E : XK} {Q : VK} {us ws : List Value} {vs zs : List V} (F : FnGK X.prog X.w X.K X.mg X.base CX k f n ks is sp) (hr : RoomG k X.A) (hx : Passes CX X E) (I : Inv X pins σ H s) (r : Vals vs us) (rz : Vals zs ws)
    (ln : vs.length = n) (lz : zs.length = ks.length) (q : sp (permL is (vs ++ zs)) H Q E) : wpAny (model X.prog X.w) X.A (call (.ref f) us (ks.zip ws)) (EP X pins σ Q) X.xe s := wpAny_call (
  codeAny_mono (F X.A X.stack s H us ws vs zs Q E hr I.env0 r rz ln lz q) fun res s' h => match res, h with
    | .error e, h => hx pins σ H s e s' I h
    | .ok (.ret u), h => I.after h
    | .ok .next, h => h.elim
    | .ok .brk, h => h.elim
    | .ok .cont, h => h.elim)
/-- o.m(x = .., ..) -/
def tMtK (C : Addr) (m : Str) (ks : List Str) (is : List Nat) (sp : DSp) (ta : DTE) (t : DTA) : DTE := fun env st Q => ta env st fun o m1 => ∃ ns vs, look m1 o = .ins C ns vs ∧ m ∉ ns ∧ t env m1 fun ds m2 => ds.length = ks.length ∧ sp (permL is (o :: ds)) m2 Q
theorem de_methK {pl : Sem Bool} (c : CalMK X C m k 1 ks is sp) (hc : Cls X.K C) (hr : RoomG k X.A) (ho : DE X o ta) (ha : DK_ X kws t) (hall : (backToKw pos (keywordEach kws X.env)).all (·.1.isSome) = true := by rfl) (hks : (backToKw pos (keywordEach kws X.env)).filterMap (·.1) = ks := by rfl)
    (hpl : ((backTo pos (starEach [] X.env)).any (·.1) || (backToKw pos (keywordEach kws X.env)).any (·.1.isNone)) = false := by rfl)
    (ht : eval (.Call (.Attribute o m apos) [] kws pos) X.env = (do
      let ov ← eval o X.env
      standAt apos.atName
      let (f, first) ← holding [ov] (getMethod ov m pl)
      callWith pos f first (backTo pos (starEach [] X.env)) (backToKw pos (keywordEach kws X.env))) := by rfl) :
    DE X (.Call (.Attribute o m apos) [] kws pos) (tMtK C m ks is sp ta t) := by
  obtain ⟨f, hm, F⟩ := c.ex
  refine ⟨⟨fun pins s σ H Q I h => ?_⟩⟩
  obtain ⟨env, mm, R, eo, sm, h, kq⟩ := h
  have h0 : liftE X.K ta σ H (fun x H1 => ∃ a dx fs, x = .ref a ∧ H1 a = some (.ins C dx fs) ∧ fs.lookup m = none ∧ liftA X.K t σ H1 fun zs H2 => zs.length = ks.length ∧ liftSp X.K sp (permL is (.ref a :: zs)) H2 Q E0) := by
    refine ⟨env, mm, _, eo, sm, h, fun d m1 v H1 h1 f1 s1 r1 => ?_⟩
    obtain ⟨ns, vs, e1, hn, h1⟩ := h1
    have cc := cont_of s1 r1
    rw [e1] at cc
    obtain ⟨a, dx, fs, rfl, h2, rfl, r2⟩ := cc
    refine ⟨a, dx, fs, rfl, h2, lookup_none hn, env, m1, _, eo.mono f1, s1, h1, fun ds m2 ws H2 h3 f2 s2 r3 => ?_⟩
    obtain ⟨hl, h3⟩ := h3
    refine ⟨by rw [← r3.length]; exact hl, permL is (d :: ds), m2, R, permL_rep (.cons (Rep.mono f2 _ _ r1) r3) is, s2, h3, fun d' m' v H' a1 a2 a3 a4 => kq d' m' v H' a1 ((f1.trans f2).trans a2) a3 a4⟩
  refine PySem.W.methodCall_KW (pl := pl) (thn (ho.run.run pins s σ H _ I h0) fun u s1 hx1 => ?_) ht
  obtain ⟨x, H1, I1, rx, a, dx, fs, rfl, ea, l, q⟩ := hx1
  obtain rfl : u = Value.ref a := rx
  refine getmeth_ok I1 ea hc hm l (PySem.W.callWith_KW0 (first := [.ref a]) (h₀ := X.base) I.ok.mod.kin hm.kp hall (thn (ha.run.run pos pins s1 σ H1 _ I1 q) fun us s2 hx2 => ?_) hpl)
  obtain ⟨zs, H2, I2, r, hl, q2⟩ := hx2
  rw [hks]
  exact ⟨I2.kIn, run_fnGK (us := [.ref a]) (vs := [.ref a]) F hr pass0 I2 (.cons rfl .nil) r rfl hl q2⟩
end
end DL
/-! ### DL16: what a module's top has made -/
namespace DL
open PySem PySem.Spec PyProof.Rows L2
theorem RoomG.hu {k : Nat} {A : Around} (r : RoomG k A) : A.units + 65 < cLine := by
  have := r.r.un
  omega
section
variable {X : Cx} {e : Expr} {te : DTE} {pos : Pos}
/-- -x -/
def tNeg (te : DTE) : DTE := fun env m Q => te env m fun d m1 => ∃ i, look m1 d = .int i ∧ Q (.int (-i)) m1
theorem de_neg (he : DE X e te) : DE X (.UnaryOp .USub e pos) (tNeg te) := ⟨PE.weak (pe_un un_neg he.run) fun σ H Q h => by
  obtain ⟨env, m, R, eo, s, h, k⟩ := h
  refine ⟨env, m, _, eo, s, h, fun d m1 v H1 h1 f1 s1 r1 => ?_⟩
  obtain ⟨i, e1, h1⟩ := h1
  have cc := cont_of s1 r1
  rw [e1] at cc
  exact ⟨i, cont_int cc, k _ m1 _ H1 h1 f1 s1 rep_int⟩⟩
/-- list(x), to be changed -/
def tListM (te : DTA) : DTE := fun env m Q => te env m fun xs m1 => ∃ x ds, xs = [x] ∧ dList (look m1 x) = some (.lst ds) ∧ ∀ p, m1 p = none → Q (.ref p) (updM m1 p (.lst ds))
theorem de_listM {p : Pos} {t : DTA} (hc : X.calm = true) (hm : X.mg "list" = none) (ha : DA X [e] t) (hg : Gl X "list" := by rfl)
    (he : starEach [e] X.env = (false, eval e X.env) :: starEach [] X.env := by rfl) (hpl : (backTo pos (starEach [] X.env)).any (·.1) = false := by rfl) : DE X (.Call (.Name "list" p) [e] [] pos) (tListM t) :=
  ⟨PE.weak (pe_callTy (call_list_of.or (call_listD hc)) hg hm (by decide +kernel) ha.run (by decide) (by decide) he hpl) fun σ H Q h => by
    obtain ⟨env, m, R, eo, s, h, k⟩ := h
    refine ⟨env, m, _, eo, s, h, fun xs m1 vs H1 h1 f1 s1 r1 => ?_⟩
    obtain ⟨x, ds, rfl, e1, h1⟩ := h1
    obtain ⟨v, rfl, r2⟩ := repL1 r1
    have cc := cont_of s1 r2
    generalize look m1 x = c at cc e1
    unfold dList at e1
    split at e1
    · cases e1
      obtain ⟨q, vs, rfl, hp, r⟩ := cont_lst cc
      exact .inl ⟨q, vs, rfl, .inl (.of hp), fun l hl => k _ _ _ _ (h1 l (s1.free hl)) (f1.trans (Fr.laidM s1 hl)) (new_lstM s1 hl r) rep_ref⟩
    · cases e1
      obtain ⟨q, vs, rfl, hp, r⟩ := cont_tup cc
      exact .inl ⟨q, vs, rfl, .inr (tupAt_sq hp), fun l hl => k _ _ _ _ (h1 l (s1.free hl)) (f1.trans (Fr.laidM s1 hl)) (new_lstM s1 hl r) rep_ref⟩
    · cases e1
      obtain ⟨q, vs, rfl, ⟨kvs, hd, rfl, rfl⟩, r⟩ := cont_dic cc
      exact .inr ⟨q, kvs, rfl, hd, fun l hl => k _ _ _ _ (h1 l (s1.free hl)) (f1.trans (Fr.laidM s1 hl)) (new_lstM s1 hl (repL_keys kvs)) rep_ref⟩
    · cases e1⟩
end
section
variable {X : Cx} {elt tg iter : Expr} {ifs : List Expr} {pos : Pos}
theorem ds_setLcF {j : Nat} {y : Str} {py spos : Pos} {scope : Scope} {own : List (Str × Nat)} {ti : DTI} {g : Tgt} {tt : DTT} {te : DTE} (hi : DI X tg iter ti) (ok : BlkOk X.N X.env.scope scope own) (hN : X.N.Nodup) (hc : X.calm = true)
    (hg : ∀ (s : Shared) (H : Hp) (C : Addr) (cl : List (Str × Addr)) (fp : List Addr), DGt (Blk X scope s H C cl fp) tg g) (ht : ∀ (s : Shared) (H : Hp) (C : Addr) (cl : List (Str × Addr)) (fp : List Addr), DTs (Blk X scope s H C cl fp) ifs tt)
    (he : ∀ (s : Shared) (H : Hp) (C : Addr) (cl : List (Str × Addr)) (fp : List Addr), DE (Blk X scope s H C cl fp) elt te)
    (hsw : swapsWith (.ListComp elt [⟨tg, iter, ifs, 0⟩] scope pos) (some (.Name y py)) spos.line X.env = pure true) (hv : ∀ i ∈ g.ix, i ∈ own.map (·.2) := by decide) (hy : X.N[j]? = some y := by rfl) (hyl : X.env.scope.names.lookup y = some .local := by rfl)
    (hs : ∀ x, foldedSetIterable iter X.env x = pure x := by intro _; rfl) :
    DS X (.Assign [.Name y py] (.ListComp elt [⟨tg, iter, ifs, 0⟩] scope pos) spos) (tSet j (tFrz (tLcM ti g tt te (own.map (·.2))))) := ds_setLc hi ok hN hc hg ht he true hsw hv hy hyl hs
theorem ds_setLcM {j : Nat} {y : Str} {py spos : Pos} {scope : Scope} {own : List (Str × Nat)} {ti : DTI} {g : Tgt} {tt : DTT} {te : DTE} (hi : DI X tg iter ti) (ok : BlkOk X.N X.env.scope scope own) (hN : X.N.Nodup) (hc : X.calm = true)
    (hg : ∀ (s : Shared) (H : Hp) (C : Addr) (cl : List (Str × Addr)) (fp : List Addr), DGt (Blk X scope s H C cl fp) tg g) (ht : ∀ (s : Shared) (H : Hp) (C : Addr) (cl : List (Str × Addr)) (fp : List Addr), DTs (Blk X scope s H C cl fp) ifs tt)
    (he : ∀ (s : Shared) (H : Hp) (C : Addr) (cl : List (Str × Addr)) (fp : List Addr), DE (Blk X scope s H C cl fp) elt te)
    (hsw : swapsWith (.ListComp elt [⟨tg, iter, ifs, 0⟩] scope pos) (some (.Name y py)) spos.line X.env = pure true) (hv : ∀ i ∈ g.ix, i ∈ own.map (·.2) := by decide) (hy : X.N[j]? = some y := by rfl) (hyl : X.env.scope.names.lookup y = some .local := by rfl)
    (hs : ∀ x, foldedSetIterable iter X.env x = pure x := by intro _; rfl) :
    DS X (.Assign [.Name y py] (.ListComp elt [⟨tg, iter, ifs, 0⟩] scope pos) spos) (tSet j (tLcM ti g tt te (own.map (·.2)))) := ds_setLc hi ok hN hc hg ht he false hsw hv hy hyl hs
end
/-! facts of the top, apart from the frame -/
/-- the module's constant x is d -/
def GV (K : PySem.W.Frag) (mg : Str → Option Value) (x : Str) (d : D) : Prop := ∃ u v, mg x = some u ∧ RelV v u ∧ ∀ m H, Rep K m H d v
theorem de_gv {X : Cx} {x : Str} {d : D} {pos : Pos} (h : GV X.K X.mg x d) (hg : Gl X x := by rfl) (hd : (x == ("__debug__" : Str)) = false := by decide) : DE X (.Name x pos) (tK d) := by
  obtain ⟨u, v, h1, h2, h3⟩ := h
  exact de_glob h1 h2 h3 hg hd
theorem gv_int {K : PySem.W.Frag} {mg : Str → Option Value} {x : Str} {i : Int} {t : Tok} (h : mg x = some (.int i t)) : GV K mg x (.int i) := ⟨_, .int i, h, ⟨_, rfl⟩, fun m H => rep_int⟩
theorem gv_str {K : PySem.W.Frag} {mg : Str → Option Value} {x : Str} {i : Str} {t : Tok} (h : mg x = some (.str i t)) : GV K mg x (.str i) := ⟨_, .str i, h, ⟨_, rfl⟩, fun m H => rep_str⟩
theorem gv_ref {K : PySem.W.Frag} {mg : Str → Option Value} {x : Str} {C : Addr} (h : mg x = some (.ref C)) : GV K mg x (.ref C) := ⟨_, .ref C, h, rfl, fun m H => rep_ref⟩
inductive StrVals : List Str → List Value → Prop
  | nil : StrVals [] []
  | cons {x : Str} {t : Tok} {xs : List Str} {us : List Value} (h : StrVals xs us) : StrVals (x :: xs) (.str x t :: us)
theorem StrVals.vals : ∀ {xs : List Str} {us : List Value}, StrVals xs us → Vals (xs.map V.str) us
  | _, _, .nil => .nil
  | _, _, .cons h => .cons ⟨_, rfl⟩ h.vals
theorem gv_strs {K : PySem.W.Frag} {mg : Str → Option Value} {x : Str} {a : Addr} {dd : Option Addr} {its : Array Value} {n : Nat} {sl : Array (Option Value)} {xs : List Str} (h : mg x = some (.ref a)) (l : K.lookup a = some ⟨.type "tuple", dd, .seq its n, sl⟩) (hz : its.size ≤ sizeLine) (hv : StrVals xs its.toList) : GV K mg x (.tup (xs.map .str)) :=
  ⟨_, .ref a, h, rfl, fun m H => by simp only [Rep]; exact ⟨a, _, rfl, .inr ⟨_, its, n, l, rfl, rfl, hz, hv.vals⟩, RepL.map_str xs⟩⟩
section
variable (P : Program) (w : World) (K : PySem.W.Frag) (mg : Str → Option Value) (base : Heap)
def CalW (x : Str) (k : Nat) (sp : DSp) : Prop := ∃ f, mg x = some (.ref f) ∧ PySem.W.keepIn K (.ref f) = true ∧ FnG P w K mg base CX0 k f (liftSp K sp)
def CalMW (C : Addr) (m : Str) (k : Nat) (sp : DSp) : Prop := ∃ f, Meth K C m f ∧ FnG P w K mg base CX0 k f (liftSp K sp)
def CalCW (C : Addr) (k : Nat) (sp : DSp) : Prop := ∃ f, Mk K C f ∧ FnG P w K mg base CX0 k f (liftSp K sp)
def CalKW (C : Addr) (m : Str) (k : Nat) (sp : DSp) : Prop := ∃ mc p g, ClX.CRead K C mc ∧ ClX.CMet K C mc m p g ∧ FnG P w K mg base CX0 k g (liftSp K sp)
def CalMKW (C : Addr) (m : Str) (k : Nat) (n : Nat) (ks : List Str) (is : List Nat) (sp : DSp) : Prop := ∃ f, Meth K C m f ∧ FnGK P w K mg base CX0 k f n ks is (liftSp K sp)
end
/-- what is mutable may be forgotten at the end -/
def dropR (R : DK) : DK := fun d m => ∃ m', (∀ b, m' b = m b ∨ m' b = none) ∧ R d m'
theorem dropR.self {R : DK} {d : D} {m : M} (h : R d m) : dropR R d m := ⟨m, fun b => .inl rfl, h⟩
def dropSp (sp : DSp) : DSp := fun ds m R => sp ds m (dropR R)
theorem lift_drop {K : PySem.W.Frag} {sp : DSp} : ∀ vs H Q E, liftSp K (dropSp sp) vs H Q E → liftSp K sp vs H Q E := fun vs H Q E ⟨ds, m, R, r, s, q, k⟩ => by
  refine ⟨ds, m, dropR R, r, s, q, fun d m' v H' h f s' rv => ?_⟩
  obtain ⟨m2, hm, h⟩ := h
  have f2 : Fr m' H' m2 H' := fun a u n hu => ⟨by rcases hm a with e | e <;> rw [e]; exact n, u, hu, .inl rfl⟩
  refine k d m2 v H' h (f.trans f2) (fun a d0 e => ?_) (Rep.mono f2 _ _ rv)
  rcases hm a with z | z
  · rw [z] at e
    exact (s' a d0 e).mono f2 fun u hu => hu
  · rw [z] at e; cases e
/-- the promise of a def by its reading -/
def spOf0 (n N : Nat) (t : DTS) : DSp := fun ds m R => ds.length = n ∧ t (startD N ds) m (bodyEnds R)
def spOf (n N : Nat) (t : DTS) : DSp := dropSp (spOf0 n N t)
end DL
/-! ### DL17: for the readings: loops by invariants, stores -/
namespace DL
open PySem PySem.Spec PyProof.Rows

theorem forD_inv {g : Tgt} {tb : DTS} {E : DEnds} {ds : List D} {env : Env} {m : M} (I : Nat → Env → M → Prop) (h0 : I 0 env m)
    (step : ∀ (i : Nat) (d : D) (env : Env) (m : M) (N : Env → M → Prop), ds[i]? = some d → I i env m → (∀ env m, I (i + 1) env m → N env m) → tgD g d env m fun env' m' => tb env' m' { E with nx := N, ct := N, bk := E.nx })
    (done : ∀ env m, I ds.length env m → E.nx env m) : forD g tb E ds env m := by
  have main : ∀ (k i : Nat) (env : Env) (m : M), ds.length - i = k → i ≤ ds.length → I i env m → forD g tb E (ds.drop i) env m := by
    intro k
    induction k with
    | zero =>
      intro i env m hk hi h
      obtain rfl : i = ds.length := by omega
      rw [List.drop_length]
      exact done env m h
    | succ k ih =>
      intro i env m hk hi h
      have hlt : i < ds.length := by omega
      rw [List.drop_eq_getElem_cons hlt]
      exact step i ds[i] env m _ (by simp [hlt]) h fun env' m' h' => ih (i + 1) env' m' (by omega) hlt h'
  exact main _ 0 env m rfl (Nat.zero_le _) h0
theorem lcD_inv {p : Addr} {g : Tgt} {tt : DTT} {te : DTE} {env : Env} {Q : M → Prop} {ds : List D} {m : M} (I : Nat → List D → M → Prop) (h0 : I 0 [] m)
    (step : ∀ (i : Nat) (acc : List D) (d : D) (m : M) (N : M → Prop), ds[i]? = some d → I i acc m → (∀ acc m, I (i + 1) acc m → N m) → tgD g d env m fun env' m' => tt env' m' fun b m2 => if b = true then te env' m2 fun y m3 => ∃ acc, m3 p = some (.lst acc) ∧ acc.length < sizeLine ∧ N (updM m3 p (.lst (acc ++ [y]))) else N m2)
    (done : ∀ acc m, I ds.length acc m → Q m) : lcD p g tt te env Q ds m := by
  have main : ∀ (k i : Nat) (acc : List D) (m : M), ds.length - i = k → i ≤ ds.length → I i acc m → lcD p g tt te env Q (ds.drop i) m := by
    intro k
    induction k with
    | zero =>
      intro i acc m hk hi h
      obtain rfl : i = ds.length := by omega
      rw [List.drop_length]
      exact done acc m h
    | succ k ih =>
      intro i acc m hk hi h
      have hlt : i < ds.length := by omega
      rw [List.drop_eq_getElem_cons hlt]
      exact step i acc ds[i] m _ (by simp [hlt]) h fun acc' m' h' => ih (i + 1) acc' m' (by omega) hlt h'
  exact main _ 0 [] m rfl (Nat.zero_le _) h0
theorem updM_over {m : M} {a : Addr} {d d' : D} : updM (updM m a d) a d' = updM m a d' := updM_upd
theorem delM_upd {m : M} {a : Addr} {d : D} (h : m a = none) : delM (updM m a d) a = m := by
  funext b
  unfold delM updM
  by_cases e : b = a
  · subst e; simp [h]
  · simp [e]
theorem updM_comm {m : M} {a b : Addr} {d e : D} (h : a ≠ b) : updM (updM m a d) b e = updM (updM m b e) a d := by
  funext c
  unfold updM
  by_cases h1 : c = a
  · by_cases h2 : c = b
    · exact absurd (h1.symm.trans h2) h
    · simp [h1, h]
  · simp [h1]
theorem updM_self {m : M} {a : Addr} {d : D} (h : m a = some d) : updM m a d = m := by
  funext b
  unfold updM
  by_cases e : b = a
  · subst e; simp [h]
  · simp [e]
/-- a comprehension that changes nothing, frozen -/
theorem lc_pure {ti : DTI} {g : Tgt} {tt : DTT} {te : DTE} {vs : List Nat} {env : Env} {m : M} {Q : DK} {ds : List D} (F : D → Option D) (hi : ∀ R : List D → M → Prop, R ds m → ti env m R) (hl : ds.length < sizeLine)
    (step : ∀ (d : D) (m1 : M) (R : Bool → DK), d ∈ ds → (∃ p acc, m p = none ∧ m1 = updM m p (.lst acc)) → (∀ y, F d = some y → R true y m1) → (F d = none → R false .non m1) →
      tgD g d (wipeD env vs) m1 fun env' m' => tt env' m' fun b m2 => if b = true then te env' m2 (R true) else R false .non m2)
    (hQ : Q (.lst (ds.filterMap F)) m) : tFrz (tLcM ti g tt te vs) env m Q := by
  refine hi _ fun p hp => ?_
  refine lcD_inv (ds := ds) (fun i acc m' => m' = updM m p (.lst acc) ∧ acc = (ds.take i).filterMap F) ⟨rfl, by simp⟩ (fun i acc d m' N hd ⟨hm, ha⟩ hN => ?_) fun acc m' h => ?_
  · subst hm
    have hmem : d ∈ ds := List.mem_of_getElem? hd
    have hlt : i < ds.length := by
      rcases Nat.lt_or_ge i ds.length with z | z
      · exact z
      · rw [List.getElem?_eq_none z] at hd; cases hd
    have hacc : acc.length ≤ i := by
      rw [ha]
      exact Nat.le_trans (List.length_filterMap_le _ _) (by rw [List.length_take]; omega)
    have et : ds.take (i + 1) = ds.take i ++ [d] := by
      rw [List.take_add_one, hd] <;> rfl
    have := step d _ (fun b y m3 => if b = true then ∃ acc, m3 p = some (.lst acc) ∧ acc.length < sizeLine ∧ N (updM m3 p (.lst (acc ++ [y]))) else N m3) hmem ⟨p, acc, hp, rfl⟩ (fun y e => ?_) fun e => ?_
    · simpa using this
    · simp only [if_true]
      refine ⟨acc, updM_same, by omega, hN (acc ++ [y]) _ ⟨by rw [updM_over], ?_⟩⟩
      rw [et, List.filterMap_append, ha]
      simp [e]
    · simp only [Bool.false_eq_true, if_false]
      refine hN acc _ ⟨rfl, ?_⟩
      rw [et, List.filterMap_append, ha]
      simp [e]
  · obtain ⟨rfl, h⟩ := h
    rw [List.take_length] at h
    subst h
    refine ⟨_, updM_same, ?_⟩
    rw [delM_upd hp]
    exact hQ
theorem dEqB_nil {ds : List D} (h : datL 59 ds = true) : dEqB (.lst ds) (.lst []) = some (decide (ds = [])) := by
  unfold dEqB
  simp only [dat, h, datL]
  cases ds with
  | nil => simp [eqvD, toPd, toPdL]; rfl
  | cons d ds => simp [eqvD, toPd, toPdL]; rfl
theorem datL_ints (n : Nat) (cells : List Int) : datL n (cells.map .int) = true := by
  rw [datL_all]
  simp [dat]
end DL
/-! ### DL18: texts by their signs, values -/
namespace DL
open PySem PySem.Spec PyProof.Rows
open SX (S S_len S_cat S_inj S_tl)

theorem str_S (x : Str) : x = S x.cps.toList := (S_tl x).symm
theorem cutS_to {a : List Nat} {i : Int} (h : 0 ≤ i) : L2.cutS (S a) none (some i) = S (a.take i.toNat) := by rw [C8.cutS_slice, SX.slice_to h]
theorem cutS_from {a : List Nat} {i : Int} (h : 0 ≤ i) : L2.cutS (S a) (some i) none = S (a.drop i.toNat) := by rw [C8.cutS_slice, SX.slice_from h]
theorem join_one (cs : List Nat) : Txt.join (S []) (cs.map fun c => S [c]) = S cs := by
  have e : (cs.map fun c => S [c]) = (cs.map fun c => [c]).map S := by rw [List.map_map]; rfl
  rw [e, SX.join_S]
  congr 1
  induction cs with
  | nil => rfl
  | cons c cs ih =>
    cases cs with
    | nil => rfl
    | cons d cs =>
      have ih' : TL.joinL [] (List.map (fun c => [c]) (d :: cs)) = d :: cs := by
        refine ih ?_
        rw [List.map_map]; rfl
      show [c] ++ ([] ++ TL.joinL [] (List.map (fun c => [c]) (d :: cs))) = _
      rw [ih']; rfl
theorem in_one_S (a : List Nat) (c : Nat) : strIn (S [c]) (S a) = decide (c ∈ a) := SX.in_one a c
theorem cut_to {α : Type} {xs : List α} {i : Int} (h : 0 ≤ i) : cutD xs none (some i) = xs.take i.toNat := by
  unfold cutD HT.sIx
  simp only [if_neg (by omega : ¬ i < 0), List.drop_zero, Nat.sub_zero]
  rw [Nat.min_comm]
  rcases Nat.le_total xs.length i.toNat with z | z
  · rw [Nat.min_eq_left z, List.take_length, List.take_of_length_le z]
  · rw [Nat.min_eq_right z]
theorem cut_from {α : Type} {xs : List α} {i : Int} (h : 0 ≤ i) : cutD xs (some i) none = xs.drop i.toNat := by
  unfold cutD HT.sIx
  simp only [if_neg (by omega : ¬ i < 0)]
  rcases Nat.le_total xs.length i.toNat with z | z
  · rw [Nat.min_eq_right z, Nat.sub_self, List.take_zero, List.drop_of_length_le z]
  · rw [Nat.min_eq_left z, List.take_of_length_le (by rw [List.length_drop]; omega)]
theorem cut_but {α : Type} {xs : List α} : cutD xs none (some (-1)) = xs.dropLast := by
  unfold cutD HT.sIx
  simp only [if_pos (by decide : (-1 : Int) < 0), List.drop_zero, Nat.sub_zero]
  rw [List.dropLast_eq_take]
  congr 1
  omega
theorem atI_pos {α : Type} {xs : List α} {i : Int} {x : α} (h0 : 0 ≤ i) (h : xs[i.toNat]? = some x) : L2.atI xs i = some x := by
  unfold L2.atI L2.ixN
  have hlt : i.toNat < xs.length := by
    rcases Nat.lt_or_ge i.toNat xs.length with z | z
    · exact z
    · rw [List.getElem?_eq_none z] at h; cases h
  rw [if_pos h0, if_pos (by omega)]
  exact h
theorem atI_last {α : Type} {xs : List α} {x : α} (h : xs.getLast? = some x) : L2.atI xs (-1) = some x := by
  have hl : xs ≠ [] := by rintro rfl; cases h
  have hp : 0 < xs.length := List.length_pos_iff.mpr hl
  unfold L2.atI L2.ixN
  rw [if_neg (by decide), if_pos (by omega)]
  rw [List.getLast?_eq_getElem?] at h
  have e : ((-1 : Int) + (xs.length : Int)).toNat = xs.length - 1 := by omega
  show xs[_]? = _
  rw [e]; exact h
theorem mem_getElem? {α : Type} {xs : List α} {i : Int} (h0 : 0 ≤ i) (h1 : i < xs.length) : ∃ x, xs[i.toNat]? = some x ∧ x ∈ xs := by
  have hlt : i.toNat < xs.length := by omega
  exact ⟨xs[i.toNat], List.getElem?_eq_getElem hlt, List.getElem_mem hlt⟩
theorem dIx_lst {m : M} {x y : D} {ds : List D} {i : Int} {d : D} (hx : look m x = .lst ds) (hy : look m y = .int i) (h : L2.atI ds i = some d) : dIx m x y = some d := by
  unfold dIx; rw [hx]; simp only [hy]; exact h
theorem dIx_tup {m : M} {x y : D} {ds : List D} {i : Int} {d : D} (hx : look m x = .tup ds) (hy : look m y = .int i) (h : L2.atI ds i = some d) : dIx m x y = some d := by
  unfold dIx; rw [hx]; simp only [hy]; exact h
theorem dIx_S {m : M} {x y : D} {a : List Nat} {i : Int} {c : Nat} (hx : look m x = .str (S a)) (hy : look m y = .int i) (hz : a.length ≤ sizeLine) (h : L2.atI a i = some c) : dIx m x y = some (.str (S [c])) := by
  unfold dIx; rw [hx]; simp only [hy]
  rw [if_pos (by rw [S_len]; exact hz)]
  show (L2.atI a i).map _ = _
  rw [h]; rfl
theorem dIx_dic {m : M} {x y : D} {ks vs : List D} {k : L2.Key} {d : D} (hx : look m x = .dic ks vs) (hy : keyOf y = some k) (h : dlook ks vs k = some d) : dIx m x y = some d := by
  unfold dIx; rw [hx]; simp only [hy]; exact h
/-- eqvD of texts -/
theorem eqvD_str (a b : Str) : eqvD (.str a) (.str b) = decide (a = b) := by
  show (PyData.eqv (.str a) (.str b)) = _
  simp only [PyData.eqv]
  by_cases e : a = b
  · subst e; simp
  · simp only [e, decide_false]
    exact beq_eq_false_iff_ne.mpr e
theorem dInB_strs {m : M} {y : D} {x : Str} {xs : List Str} (hy : look m y = .lst (xs.map .str) ∨ look m y = .tup (xs.map .str)) : dInB m (.str x) y = some (decide (x ∈ xs)) := by
  have hf : (flatD (.str x) = true ∧ (xs.map D.str).all flatD = true) := ⟨rfl, by rw [List.all_map]; simp [flatD]⟩
  have he : ((xs.map D.str).any fun y => eqvD y (.str x)) = decide (x ∈ xs) := by
    rw [List.any_map]
    clear hf hy
    induction xs with
    | nil => rfl
    | cons z zs ih =>
      rw [List.any_cons, ih]
      show (eqvD (.str z) (.str x) || _) = _
      rw [eqvD_str]
      by_cases e : z = x
      · subst e; simp
      · have e' : x ≠ z := fun q => e q.symm
        simp [e, e']
  unfold dInB
  rcases hy with hy | hy <;> rw [hy] <;> simp only <;> rw [if_pos (.inl hf), he]
end DL
/-! ### DL19: dicts by texts -/
namespace DL
open PySem PySem.Spec PyProof.Rows
def alook : List (Str × D) → Str → Option D
  | [], _ => none
  | e :: r, x => if e.1 = x then some e.2 else alook r x
def dicA (al : List (Str × D)) : D := .dic (al.map fun e => .str e.1) (al.map (·.2))
theorem dlook_al : ∀ (al : List (Str × D)) (x : Str), dlook (al.map fun e => .str e.1) (al.map (·.2)) (.inr x) = alook al x
  | [], x => rfl
  | e :: r, x => by
    show (if keyOf (.str e.1) = some (.inr x) then some e.2 else dlook (r.map fun e => .str e.1) (r.map (·.2)) (.inr x)) = (if e.1 = x then some e.2 else alook r x)
    rw [dlook_al r x]
    by_cases h : e.1 = x
    · rw [if_pos h, if_pos (by rw [h]; rfl)]
    · rw [if_neg h, if_neg (fun z => h (by simp only [keyOf, Option.some.injEq] at z; exact Sum.inr.inj z))]
theorem alook_mem : ∀ {al : List (Str × D)} {x : Str}, x ∈ al.map (·.1) → ∃ d, alook al x = some d ∧ (x, d) ∈ al
  | e :: r, x, h => by
    by_cases hx : e.1 = x
    · exact ⟨e.2, if_pos hx, by rw [← hx]; exact List.mem_cons_self⟩
    · rw [List.map_cons, List.mem_cons] at h
      obtain ⟨d, h1, h2⟩ := alook_mem (h.resolve_left fun z => hx z.symm)
      exact ⟨d, (if_neg hx).trans h1, List.mem_cons_of_mem _ h2⟩
theorem alook_none : ∀ {al : List (Str × D)} {x : Str}, x ∉ al.map (·.1) → alook al x = none
  | [], x, h => rfl
  | e :: r, x, h => by
    rw [List.map_cons, List.mem_cons, not_or] at h
    exact (if_neg fun z => h.1 z.symm).trans (alook_none h.2)
theorem alook_append : ∀ {al bl : List (Str × D)} {x : Str}, alook (al ++ bl) x = (alook al x).or (alook bl x)
  | [], bl, x => rfl
  | e :: r, bl, x => by
    show (if e.1 = x then some e.2 else alook (r ++ bl) x) = _
    rw [alook_append]
    show _ = (if e.1 = x then some e.2 else alook r x).or _
    split <;> rfl
theorem any_isKey_al : ∀ (al : List (Str × D)) (x : Str), (al.map fun e => D.str e.1).any (isKey (.inr x)) = decide (x ∈ al.map (·.1))
  | [], x => rfl
  | e :: r, x => by
    rw [List.map_cons, List.any_cons, any_isKey_al r x, List.map_cons]
    have : isKey (.inr x) (.str e.1) = decide (e.1 = x) := by
      unfold isKey
      simp only [keyOf, Option.some.injEq]
      by_cases h : e.1 = x
      · rw [h]; simp
      · have : ¬ (Sum.inr e.1 : L2.Key) = Sum.inr x := fun z => h (Sum.inr.inj z)
        simp [h, this]
    rw [this]
    by_cases h : e.1 = x
    · simp [h]
    · have h' : x ≠ e.1 := fun z => h z.symm
      simp [h, h']
theorem dput_new {al : List (Str × D)} {x : Str} {d : D} (h : x ∉ al.map (·.1)) : D.dic (dputK (al.map fun e => .str e.1) (.inr x)) (dputV (al.map fun e => .str e.1) (al.map (·.2)) (.inr x) d) = dicA (al ++ [(x, d)]) := by
  have e := any_isKey_al al x
  have e2 : ¬ (al.map fun e => D.str e.1).any (isKey (.inr x)) = true := by rw [e]; simpa using h
  unfold dputK dputV dicA
  rw [if_neg e2, if_neg e2, List.map_append, List.map_append]
  rfl
theorem dInB_dic {m : M} {y : D} {x : Str} {al : List (Str × D)} (hy : look m y = dicA al) : dInB m (.str x) y = some (alook al x).isSome := by
  unfold dInB
  rw [hy]
  show (keyOf (.str x)).map _ = _
  simp only [keyOf, Option.map_some]
  rw [dlook_al]
theorem dIx_al {m : M} {y x : D} {z : Str} {al : List (Str × D)} {d : D} (hy : look m y = dicA al) (hx : x = .str z) (h : alook al z = some d) : dIx m y x = some d := by
  subst hx
  exact dIx_dic hy rfl (by rw [dlook_al]; exact h)
/-- a display with two keys -/
theorem two_keys : keysOf [D.str ("error" : Str), D.str ("vacant" : Str)] = some [.inr ("error" : Str), .inr ("vacant" : Str)] := rfl
end DL
/-! ### DL20: sorted(set(xs)), xs a list of texts -/
namespace DL
open PySem PySem.Spec PyProof.Rows L2
open PySem.Froz (SD sObj addTx tailTx TxOk)
/-- a set of the texts l that can be walked -/
structure TxR (P : Program) (w : World) (D : SD) (l : List Str) : Prop where
  ok : TxOk P w D l
  nd : l.Nodup
  ris : L2.Ris D.2.2.place.toList
  led : w.params.followText "set-order" = true ∨ D.2.2.led = true
section
variable {P : Program} {w : World} {A : Around} {E : Value → Shared → Prop} {s : Shared}
theorem tail_rl {ep : Nat} {es1 : Array (Int × Value)} {t2 : SetTable} {b : Bool} (r : L2.Ris t2.place.toList) : L2.Ris (tailTx ep es1 t2 b).2.2.place.toList ∧ (tailTx ep es1 t2 b).2.2.led = t2.led := by
  unfold tailTx
  split
  · exact ⟨L2.relayAll_ris _ _ _, L2.relayAll_led _ _ _⟩
  · exact ⟨r, rfl⟩
theorem TxR.add {D : SD} {l : List Str} {k : Str} (u : Tok) (R : TxR P w D l) (hk : k ∉ l) : TxR P w (addTx (hashStr w k) (.str k u) D) (k :: l) := by
  have r1 := L2.layNew_ris D.2.2 D.1 (hashStr w k) (.str k u) R.ris
  have l1 := L2.layNew_led D.2.2 D.1 (hashStr w k) (.str k u)
  have r2 : L2.Ris (if (layNew D.2.2 D.1 (hashStr w k) (.str k u)).2.1.plain = true then { (layNew D.2.2 D.1 (hashStr w k) (.str k u)).2.1 with plain := false } else (layNew D.2.2 D.1 (hashStr w k) (.str k u)).2.1).place.toList := by
    split <;> exact r1
  have l2 : (if (layNew D.2.2 D.1 (hashStr w k) (.str k u)).2.1.plain = true then { (layNew D.2.2 D.1 (hashStr w k) (.str k u)).2.1 with plain := false } else (layNew D.2.2 D.1 (hashStr w k) (.str k u)).2.1).led = D.2.2.led := by
    split <;> exact l1
  have t := tail_rl (ep := D.2.1) (es1 := (layNew D.2.2 D.1 (hashStr w k) (.str k u)).1) (b := (layNew D.2.2 D.1 (hashStr w k) (.str k u)).2.2.1) r2
  exact ⟨PySem.Froz.add_ok u R.ok, List.nodup_cons.mpr ⟨hk, R.nd⟩, t.1, R.led.imp id fun z => by
    show (tailTx _ _ _ _).2.2.led = true
    rw [t.2, l2]; exact z⟩
/-- a text that is there already -/
theorem add_old {a : Addr} {T : String} {D : SD} {l : List Str} {k : Str} {u : Tok} {Q : Bool → Shared → Prop} (ho : s.heap.get? a = some (sObj T D)) (F : TxOk P w D l) (hk : k ∈ l) (hb : l.length + 1 < scanBound)
    (h : Q false s) : wpAny (model P w) A (setAddHashed a (.str k u) (hashStr w k)) Q E s := by
  obtain ⟨es, ep, t⟩ := D
  have hd : (sObj T (es, ep, t)).data = .set es ep t := rfl
  have hf : t.fits es.size = true := F.fit
  have hel : ElemsOf (PySem.strKind P w) es.toList := F.el
  have hsz : es.size = l.length := F.sz
  have hb0 : es.size < scanBound := by omega
  have hkey : (PySem.strKind P w).is k (.str k u) = true := PySem.Froz.is_str k u
  unfold setAddHashed setAddHashedIn
  refine wpAny_holding (wpAny_bind (wpAny_setState_of ho hd hf ?_))
  dsimp only
  rw [byScan_of rfl hb0 hel]
  simp only [↓reduceIte]
  unfold setAddByScan
  refine wpAny_bind ?_
  refine wpAny_bind (wpAny_rule ?_)
  refine wpAny_bind (wpAny_setScan_of (knd := PySem.strKind P w) (k := k) hkey ho hd hf hel ?_)
  cases hr : List.findIdx? (fun e => (PySem.strKind P w).is k e.2) es.toList with
  | some j =>
    dsimp only
    exact wpAny_pure (wpAny_pure h)
  | none =>
    obtain ⟨e, he, hp⟩ := (F.mem k).mp hk
    have := List.findIdx?_eq_none_iff.mp hr e he
    rw [hp] at this; cases this
end
section
variable {prog : Program} {w : World} {A : Around} {R : Result → Shared → Prop} {I : Addr} {fp wr : List Addr} {G : Array GenState → Array GenState → Prop} {n : Nat} {Pv : Nat → Value → Prop} {St : Nat → Shared → Prop}
theorem loopT (W : WalksS prog w A.in1 I fp wr G n Pv St) (S : Addr) (hS : S ∉ fp) (xs : List Str) (hn : n < 4000) (hlx : n ≤ xs.length) (val : ∀ i v, Pv i v → ∃ t x, xs[i]? = some x ∧ v = .str x t) :
    ∀ (k i : Nat) (s : Shared) (D : SD) (l : List Str), n - i = k → i ≤ n → St i s → s.heap.get? S = some (sObj "set" D) → TxR prog w D l → (∀ x, x ∈ l ↔ x ∈ xs.take i) → l.length ≤ i →
      (∀ s' D' l', Moved (S :: wr) G s s' → s'.heap.get? S = some (sObj "set" D') → TxR prog w D' l' → (∀ x, x ∈ l' ↔ x ∈ xs.take n) → l'.length ≤ n → R (.ok (.ret .none)) s') →
      codeAny (model prog w) A (.builtin "set.update.loop" ⟨[.ref S, .ref I], []⟩) R s := by
  have hSw : S ∉ wr := fun h => hS (W.sub _ h)
  have hsub : ∀ b ∈ wr, b ∈ S :: wr := fun b hb => List.mem_cons_of_mem _ hb
  intro k
  induction k with
  | zero =>
    intro i s D l hk hi st q T mem ln fin
    obtain rfl : i = n := by omega
    refine codeAny_builtin PyProof.Rows.F.entry_set_update_loop ?_
    rw [Around.under_plainId PyProof.Rows.F.plain_set_update_loop _]
    show wpAny _ A.in1 (pyNext (.ref I) >>= _) _ _ s
    refine wpAny_bind (W.done s _ _ st fun s' m => ?_)
    show wpAny _ A.in1 (ret Value.none) _ _ s'
    exact wpAny_pure (fin s' D l (m.mono hsub) (m.heap S _ hSw q) T mem ln)
  | succ k ih =>
    intro i s D l hk hi st q T mem ln fin
    have hlt : i < n := by omega
    refine codeAny_builtin PyProof.Rows.F.entry_set_update_loop ?_
    rw [Around.under_plainId PyProof.Rows.F.plain_set_update_loop _]
    show wpAny _ A.in1 (pyNext (.ref I) >>= _) _ _ s
    refine wpAny_bind (W.item i s _ _ hlt st fun v s' hv st' m => ?_)
    obtain ⟨t, x, hx, rfl⟩ := val i v hv
    have q1 := m.heap S _ hSw q
    have etk : xs.take (i + 1) = xs.take i ++ [x] := by
      rw [List.take_add_one, hx] <;> rfl
    show wpAny _ A.in1 (holding [Value.str x t] (setAdd S (.str x t)) >>= _) _ _ s'
    refine wpAny_bind (wpAny_holding ?_)
    unfold setAdd
    refine wpAny_holding (wpAny_bind ((PySem.strKind prog w).pyHash (k := x) (PySem.Froz.is_str x t) ?_))
    have room : l.length + 1 < scanBound := by unfold scanBound; omega
    by_cases hm : x ∈ l
    · refine add_old (s := { s' with toks := s'.toks + 1 }) q1 T.ok hm room ?_
      refine wpAny_pure ⟨plainId_quiet PyProof.Rows.F.plain_set_update_loop _, ih (i + 1) _ D l (by omega) hlt (W.frame _ s' s'.heap _ st' (Nat.le_succ _) fun b hb o e => e) q1 T (fun y => ?_) (by omega) fun s'' D' l' m2 q4 T4 mem4 ln4 => ?_⟩
      · rw [etk, List.mem_append, List.mem_singleton, mem y]
        constructor
        · exact .inl
        · rintro (h | rfl)
          · exact h
          · exact (mem y).mp hm
      · exact fin s'' D' l' (Moved.trans W.gtrans ((m.mono hsub).then_heap (Nat.le_succ _) fun b o hb e => e) m2) q4 T4 mem4 ln4
    · refine PySem.Froz.add_x (s := { s' with toks := s'.toks + 1 }) q1 T.ok hm room ?_
      have sb := Heap.SameBut.update s'.heap S (fun _ => sObj "set" (addTx (hashStr w x) (.str x t) D))
      refine wpAny_pure ⟨plainId_quiet PyProof.Rows.F.plain_set_update_loop _, ih (i + 1) _ (addTx (hashStr w x) (.str x t) D) (x :: l) (by omega) hlt (W.frame _ s' _ _ st' (Nat.le_succ _) fun b hb o e => ?_) (PySem.Froz.get_upd _ q1 rfl) (T.add t hm) (fun y => ?_) (by rw [List.length_cons]; omega) fun s'' D' l' m2 q4 T4 mem4 ln4 => ?_⟩
      · rw [sb.2 b (fun h : b = S => hS (by rw [← h]; exact hb))]; exact e
      · rw [etk, List.mem_append, List.mem_singleton, List.mem_cons, mem y]
        exact or_comm
      · refine fin s'' D' l' (Moved.trans W.gtrans ((m.mono hsub).then_heap (Nat.le_succ _) fun b o hb e => ?_) m2) q4 T4 mem4 ln4
        rw [sb.2 b (fun h : b = S => hb (by rw [h]; exact List.mem_cons_self))]; exact e
end
section
variable {prog : Program} {w : World} {A : Around} {E : Value → Shared → Prop} {s : Shared}
theorem vals_str : ∀ {xs : List Str} {us : List Value} {i : Nat} {v : Value}, Vals (xs.map V.str) us → us[i]? = some v → ∃ t x, xs[i]? = some x ∧ v = .str x t
  | [], _, i, v, .nil, h => by simp at h
  | x :: xs, _, 0, v, .cons r t, h => by
    simp at h; subst h
    obtain ⟨u, rfl⟩ := r
    exact ⟨u, x, rfl, rfl⟩
  | x :: xs, _, i + 1, v, .cons r t, h => by
    simp only [List.getElem?_cons_succ] at h ⊢
    exact vals_str t h
/-- .. x a list of texts: a set that can be walked -/
theorem call_setL {l : Addr} {items : Array Value} {xs : List Str} {Q : Value → Shared → Prop} (hh : A.handled = none) (hl : s.heap.IsList l items) (hi : Vals (xs.map V.str) items.toList) (hn : xs.length < 4000)
    (h : ∀ (h' : Heap) (tk : Nat) (D : SD) (zs : List Str), h'.get? s.heap.objs.size = some (sObj "set" D) → TxR prog w D zs → (∀ x, x ∈ zs ↔ x ∈ xs) → zs.length ≤ xs.length → (∀ b o, b < s.heap.objs.size → s.heap.get? b = some o → h'.get? b = some o) → Q (.ref s.heap.objs.size) { s with heap := h', toks := tk }) :
    wpAny (model prog w) A (call (.type "set") [.ref l]) Q E s := by
  have hsz : xs.length = items.size := by
    have := hi.length
    rw [List.length_map, Array.length_toList] at this
    exact this
  refine set_gen (Mv := fun s' => ∃ h' tk D zs, s' = { s with heap := h', toks := tk } ∧ h'.get? s.heap.objs.size = some (sObj "set" D) ∧ TxR prog w D zs ∧ (∀ x, x ∈ zs ↔ x ∈ xs) ∧ zs.length ≤ xs.length ∧ ∀ b o, b < s.heap.objs.size → s.heap.get? b = some o → h'.get? b = some o) hh (fun B led hled hB => ?_) (fun s' ⟨h', tk, D, zs, e, h1, h2, h3, h4, hk⟩ => by subst e; exact h h' tk D zs h1 h2 h3 h4 hk)
  obtain ⟨⟨ocls, odict, odata, oslots⟩, hol, hcl, nl, hdl⟩ := hl
  simp only at hcl hdl
  subst hcl hdl
  have hS : (s.heap.push (emptySet led)).get? s.heap.objs.size = some (emptySet led) := Heap.get?_push_size _ rfl
  have hol' : (s.heap.push (emptySet led)).get? l = some { cls := .type "list", dict := odict, data := .seq items nl, slots := oslots } := Heap.get?_push_of_some _ hol
  have hl1 : (s.heap.push (emptySet led)).IsList l items := ⟨_, hol', rfl, nl, rfl⟩
  refine init_gen (s := { s with heap := s.heap.push (emptySet led) }) hS hol' PySem.F.sub_list_set PySem.F.sub_list_frozenset (by decide) ?_
  refine wpAny_pyIter_list hl1 (wpAny_runValue ?_)
  have hlS : l < s.heap.objs.size := Heap.lt_size hol
  have big : (s.heap.push (emptySet led)).objs.size = s.heap.objs.size + 1 := Heap.size_push _ _
  have hSf : s.heap.objs.size ∉ [(s.heap.push (emptySet led)).objs.size, l] := by
    rw [big]
    simp only [List.mem_cons, List.not_mem_nil, or_false, not_or]
    exact ⟨Nat.ne_of_lt (Nat.lt_succ_self _), Nat.ne_of_gt hlS⟩
  refine loopT (Walks.list (A := B.in1.in1) (by simp [hB]) _ l (by rw [big]; exact Nat.ne_of_lt (Nat.lt_succ_of_lt hlS)) items).toS s.heap.objs.size hSf xs (by omega) (by omega) (fun i v hv => vals_str hi (by rw [Array.getElem?_toList]; exact hv))
    (items.size - 0) 0 _ (#[], 0, .fresh 0 0 led) [] (by omega) (Nat.zero_le _) ⟨⟨_, Heap.get?_push_size _ rfl, rfl, rfl⟩, hl1.push _⟩ ?_ ?_ (by simp) (Nat.zero_le _) fun s' D' l' m q T mem ln => ?_
  · exact Heap.get?_push_of_some _ hS
  · refine ⟨PySem.Froz.TxOk.nil rfl, List.nodup_nil, List.Pairwise.nil, ?_⟩
    show _ ∨ led = true
    rw [hled]
    cases w.params.followText "set-order"
    · exact .inr rfl
    · exact .inl rfl
  · obtain ⟨h', g', d', tk', os'⟩ := s'
    have eg : g' = s.gens := m.gens
    have ed : d' = s.drawn := m.drawn
    have eo : os' = s.os := m.os
    subst eg ed eo
    rw [← hsz, List.take_length] at mem
    refine ⟨rfl, h', tk', D', l', rfl, q, T, mem, by omega, fun b o hb e => ?_⟩
    refine m.heap b o ?_ (Heap.get?_push_of_some _ (Heap.get?_push_of_some _ e))
    simp only [List.mem_cons, List.not_mem_nil, or_false, not_or]
    have := big
    exact ⟨Nat.ne_of_lt hb, by rw [big]; exact Nat.ne_of_lt (Nat.lt_succ_of_lt hb)⟩
end
section
variable {P : Program} {w : World} {A : Around} {E : Value → Shared → Prop} {s : Shared}
theorem strs_of : ∀ (l : List Value), (∀ v ∈ l, ∃ k tk, v = Value.str k tk) → ∃ xs : List Str, StrsAre l xs
  | [], _ => ⟨[], .nil⟩
  | v :: r, h => by
    obtain ⟨k, tk, rfl⟩ := h v List.mem_cons_self
    obtain ⟨xs, hx⟩ := strs_of r fun u hu => h u (List.mem_cons_of_mem _ hu)
    exact ⟨k :: xs, .cons k tk hx⟩
theorem strs_mem : ∀ {l : List Value} {xs : List Str} {x : Str}, StrsAre l xs → (x ∈ xs ↔ ∃ tk, Value.str x tk ∈ l)
  | _, _, x, .nil => by simp
  | _, _, x, .cons y t r => by
    rw [List.mem_cons, strs_mem r]
    constructor
    · rintro (rfl | ⟨tk, h⟩)
      · exact ⟨t, List.mem_cons_self⟩
      · exact ⟨tk, List.mem_cons_of_mem _ h⟩
    · rintro ⟨tk, h⟩
      rcases List.mem_cons.mp h with e | h
      · cases e; exact .inl rfl
      · exact .inr ⟨tk, h⟩
theorem isStr_of {P : Program} {w : World} {k : Str} {v : Value} (h : (PySem.strKind P w).is k v = true) : ∃ y tk, v = Value.str y tk := by
  have h : Value.isStrOf k v = true := h
  cases v with
  | str y tk => exact ⟨y, tk, rfl⟩
  | _ => simp [Value.isStrOf] at h
/-- sorted(found), found a set of texts -/
theorem sorted_setT {a : Addr} {D : SD} {l : List Str} {Q : Value → Shared → Prop} (ho : s.heap.get? a = some (sObj "set" D)) (T : TxR P w D l) (hh : A.handled = none) (h64 : l.length < 64)
    (hQ : ∀ s' p (out : Array Value) (c : Nat) (ys : List Str), (∀ b o, s.heap.get? b = some o → s'.heap.get? b = some o) → s'.gens = s.gens → s'.os = s.os → s.heap.objs.size ≤ p →
      s'.heap.get? p = some (seqObj "list" out c) → StrsAre out.toList ys → ys.length = l.length → (∀ x, x ∈ ys ↔ x ∈ l) → sortedS ys = true → Q (.ref p) s') :
    wpAny (model P w) A (call (.builtin "sorted") [.ref a]) Q E s := by
  obtain ⟨es, ep, t⟩ := D
  have hsz : es.size = l.length := T.ok.sz
  have hel : ElemsOf (PySem.strKind P w) es.toList := T.ok.el
  refine Calls.call_function_entry kind_sorted plain_sorted entry_sorted (args_sorted1 _) ?_
  unfold Builtin.«sorted»
  refine wpAny_bind (m := checkCount "sorted" 1 1 _) (wpAny_pure ?_)
  refine wpAny_bind (L2.collect_set (A := A.in1) hh ⟨_, ho, rfl, rfl⟩ T.ok.fit (by rw [hsz]; unfold scanBound; omega) T.ris T.led fun s1 vs k1 hz g1 o1 pm => ?_)
  have hvl : vs.length = l.length := by rw [pm.length_eq, List.length_map, Array.length_toList]; exact hsz
  have hstr : ∀ v ∈ vs, ∃ k tk, v = Value.str k tk := fun v hv => by
    obtain ⟨e, he, q⟩ := List.mem_map.mp (pm.mem_iff.mp hv)
    obtain ⟨⟨k, hk, _⟩, _⟩ := hel e he
    rw [← q]
    exact isStr_of hk
  obtain ⟨xs, hS⟩ := strs_of vs hstr
  refine wpAny_bind (wpAny_newList ?_ (by rw [hvl, sizeLine_eq]; omega))
  have hoL : (s1.heap.push (seqObj "list" vs.toArray 0)).get? s1.heap.objs.size = some (seqObj "list" vs.toArray 0) := Heap.get?_push_size _ rfl
  refine wpAny_bind (wpAny_holding (wpAny_call_entry slot_list_sort ⟨_, hoL, rfl⟩ entry_list_sort (list_sort_treeK strKind_oneLt hoL hS.keysOf (fun v1 v2 rest e => keyKind_strs (by rw [← e]; exact hS)) (by rw [hvl]; exact h64) fun st' hp hs => ⟨_, rfl, ?_⟩) (args_list_sort _)))
  obtain ⟨ys, y1, y2, y3⟩ := sorted_out_str hS hp hs
  obtain ⟨c, hc⟩ := sortedHeap_at (vs := vs) (out := (arrOf st').map (·.2)) hoL
  have lx : xs.length = vs.length := (StrsAre.length hS).symm
  refine wpAny_pure ⟨_, rfl, hQ _ s1.heap.objs.size _ c ys (fun b u e => ?_) g1 o1 hz hc y1 (by rw [y2.length_eq, lx, hvl]) (fun x => ?_) y3⟩
  · have q := k1 b u e
    have hlt := Heap.lt_size q
    show (sortedHeap (s1.heap.push (seqObj "list" vs.toArray 0)) s1.heap.objs.size vs _).get? b = some u
    rw [sortedHeap_old (Nat.ne_of_lt hlt) (by rw [size_push']; exact Nat.lt_succ_of_lt hlt)]
    exact Heap.get?_push_of_some _ q
  · rw [y2.mem_iff, strs_mem hS, T.ok.mem x]
    constructor
    · rintro ⟨tk, h⟩
      obtain ⟨e, he, q⟩ := List.mem_map.mp (pm.mem_iff.mp h)
      exact ⟨e, he, by rw [q]; exact PySem.Froz.is_str x tk⟩
    · rintro ⟨e, he, hk⟩
      obtain ⟨y, tk, q⟩ := isStr_of hk
      have : y = x := by
        rw [q] at hk
        exact ((PySem.strKind P w).inj (.str y tk) x y hk (PySem.Froz.is_str y tk)).symm
      subst this
      exact ⟨tk, pm.mem_iff.mpr (List.mem_map.mpr ⟨e, he, q⟩)⟩
end
section
variable {X : Cx} {a : Expr} {ta : DTE} {p p2 q pos : Pos}
/-- sorted(set(xs)), xs a list of fewer than 64 texts -/
def tSortSet (ta : DTE) : DTE := fun env m Q => ta env m fun d m1 => ∃ xs : List Str, look m1 d = .lst (xs.map .str) ∧ xs.length < 64 ∧ ∀ ys : List Str, (∀ x, x ∈ ys ↔ x ∈ xs) → sortedS ys = true → ys.Nodup → Q (.lst (ys.map .str)) m1
theorem nodup_of_same : ∀ (ys l : List Str), l.Nodup → ys.length = l.length → (∀ x, x ∈ ys ↔ x ∈ l) → ys.Nodup
  | [], _, _, _, _ => List.nodup_nil
  | y :: ys, l, nd, hl, hm => by
    have hy : y ∈ l := (hm y).mp List.mem_cons_self
    have hp := List.length_pos_of_mem hy
    have el : (l.erase y).length = ys.length := by
      rw [List.length_erase_of_mem hy, ← hl, List.length_cons]; omega
    have nde : (l.erase y).Nodup := nd.erase y
    have sub : ∀ x, x ∈ l.erase y → x ∈ ys := fun x hx => by
      have hne : x ≠ y := fun e => by
        rw [e] at hx
        exact (List.Nodup.not_mem_erase nd) hx
      rcases List.mem_cons.mp ((hm x).mpr (List.mem_of_mem_erase hx)) with e | e
      · exact absurd e hne
      · exact e
    -- y is not behind: else the erased list would hold all of ys
    have hny : y ∉ ys := fun h => by
      have big : l.length ≤ ys.length := by
        have : ∀ (l k : List Str), l.Nodup → (∀ x ∈ l, x ∈ k) → l.length ≤ k.length := by
          intro l
          induction l with
          | nil => intro k _ _; exact Nat.zero_le _
          | cons a l ih =>
            intro k h s
            rw [List.nodup_cons] at h
            have ha := s a List.mem_cons_self
            have := ih (k.erase a) h.2 fun x hx => (List.mem_erase_of_ne (fun e => h.1 (by rw [← e]; exact hx))).mpr (s x (List.mem_cons_of_mem _ hx))
            rw [List.length_erase_of_mem ha] at this
            have := List.length_pos_of_mem ha
            rw [List.length_cons]; omega
        refine this l ys nd fun x hx => ?_
        rcases List.mem_cons.mp ((hm x).mpr hx) with e | e
        · rw [e]; exact h
        · exact e
      rw [List.length_cons] at hl
      omega
    refine List.nodup_cons.mpr ⟨hny, nodup_of_same ys (l.erase y) nde el.symm fun x => ⟨fun hx => ?_, sub x⟩⟩
    have hne : x ≠ y := fun e => hny (by rw [← e]; exact hx)
    exact (List.mem_erase_of_ne hne).mpr ((hm x).mp (List.mem_cons_of_mem _ hx))
theorem de_sortSet (hc : X.calm = true) (hm : X.mg "sorted" = none) (hm2 : X.mg "set" = none) (ha : DE X a ta) (hg : Gl X "sorted" := by rfl) (hg2 : Gl X "set" := by rfl)
    (na : starEach [a] X.env = (false, eval a X.env) :: starEach [] X.env := by rfl) : DE X (.Call (.Name "sorted" p) [.Call (.Name "set" p2) [a] [] q] [] pos) (tSortSet ta) := by
  refine ⟨⟨fun pins s σ H Q I h => ?_⟩⟩
  obtain ⟨env, m, R, eo, sm, h, k⟩ := h
  have h0 : liftE X.K ta σ H (fun x H1 => ∃ (l : Addr) (xs : List Str), x = .ref l ∧ SqL X.K H1 l (xs.map V.str) ∧ xs.length < 64 ∧ ∀ ys : List Str, (∀ x, x ∈ ys ↔ x ∈ xs) → sortedS ys = true → ys.Nodup → ∀ p, H1 p = none → Q (.ref p) (upd H1 p (.lst (ys.map V.str)))) := by
    refine ⟨env, m, _, eo, sm, h, fun d m1 v H1 h1 f1 s1 r1 => ?_⟩
    obtain ⟨xs, e1, hz, h1⟩ := h1
    have cc := cont_of s1 r1
    rw [e1] at cc
    obtain ⟨l, vs, rfl, hp, r2⟩ := cont_lst cc
    have e4 : vs = xs.map V.str := strsOf_rep (strsOf_map xs) r2
    subst e4
    exact ⟨l, xs, rfl, .of hp, hz, fun ys a1 a2 a3 p hp2 => k _ m1 _ _ (h1 ys a1 a2 a3) (f1.trans (Fr.laid s1 hp2)) (s1.laid hp2) (new_lst s1 hp2 (RepL.map_str ys))⟩
  refine Call_ (ld_blt I hg hm boot_sorted ?_)
  refine PyProof.Rows.callWith_builtin1 (PyProof.Rows.args_cons ?_ rfl) rfl rfl
  refine Call_ (ld_blt I hg2 hm2 boot_set ?_)
  refine PyProof.Rows.callWith_type1 (PyProof.Rows.args_cons (thn (ha.run.run pins s σ H _ I h0) fun v s1 ⟨x, H1, I1, r1, q1⟩ => PyProof.Rows.args_nil ?_) na) na rfl
  obtain ⟨l, xs, rfl, hq, hz, q1⟩ := q1
  cases r1
  obtain ⟨its, r, pl, hz2⟩ := I1.list hq
  refine call_setL (I1.ok.hd hc) pl.isList (by simpa using r) (by omega) fun h' tk D zs hS T mem ln hk => PyProof.Rows.args_nil ?_
  have I2 : Inv X pins σ H1 { s1 with heap := h', toks := tk } := I1.kept fun b o e => hk b o (Heap.lt_size e) e
  refine sorted_setT (s := { s1 with heap := h', toks := tk }) hS T (I1.ok.hd hc) (by omega) fun s' p out c ys k1 g o hp hob hst hl hmem hsrt => ?_
  have hlen : (ys.map V.str).length ≤ sizeLine := by rw [List.length_map, hl, sizeLine_eq]; omega
  have hn : H1 p = none := I2.hok.fresh hp
  have J : Inv X pins σ (upd H1 p (.lst (ys.map V.str))) { s1 with heap := s'.heap, gens := s'.gens, drawn := s'.drawn, toks := s'.toks } :=
    Inv.call (s := { s1 with heap := h', toks := tk }) (ch := []) I2 (Un.laid k1 hp hn) (I2.hok.laid k1 hp ⟨hlen, out.toList, c, vals_of_strs hst, hob⟩) (by rw [g]; exact I2.bare) (fun _ z => nomatch z)
  have e : s' = { s1 with heap := s'.heap, gens := s'.gens, drawn := s'.drawn, toks := s'.toks } := by
    cases s'
    cases s1
    cases o
    rfl
  rw [e]
  exact ⟨.ref p, _, J, rfl, q1 ys (fun x => (hmem x).trans (mem x)) hsrt (nodup_of_same ys zs T.nd hl hmem) p hn⟩
/-- sorted(xs) -/
def dSorted : D → Option (List Str)
  | .lst ds => strsOf ds
  | _ => none
end
end DL
/-! ### DL21: comprehensions with two for -/
namespace DL
open PySem PySem.Spec PyProof.Rows L2
section
variable {X : Cx} {tg iter elt tg1 iter1 : Expr} {ifs ifs1 : List Expr} {te : DTE} {pos : Pos}
theorem in_core {g : Tgt} {tt : DTT} {vs : List Nat} (hg : ∀ i ∈ g.ix, i ∈ vs) {σ : L2.St} {env : Env} {m1 : M} {H1 : Hp} {J : It} {ds : List D} {Dz : Addr} {N : Hp → Prop} {R : M → Prop} (eo : EnvOk X.K m1 H1 σ env) (s1 : Sim X.K m1 H1) (it : Items X.K J ds m1 H1)
    (h1 : lcD Dz g tt te (wipeD env vs) R ds m1) (k : ∀ m' H', R m' → Fr m1 H1 m' H' → Sim X.K m' H' → N H') :
    ∃ W : Nat → Nat → Hp → Prop, (∃ n, W 0 n H1) ∧ ∀ i n H, W i n H → (J.stop i H ∧ N H) ∨ (J.go i H ∧ ∃ Nx : Hp → Prop, (∀ H', Nx H' → ∃ n', n' < n ∧ W (i + 1) n' H') ∧
      ∀ x H', J.yld i H x H' → tgR X.K g x (L2.wipe σ vs) H' fun σ2 H2 => L2.wipe σ2 vs = L2.wipe σ vs ∧ liftT X.K tt σ2 H2 fun b H3 =>
        if b = true then liftE X.K te σ2 H3 fun y H4 => ∃ acc, H4 Dz = some (.lst acc) ∧ acc.length < sizeLine ∧ Nx (upd H4 Dz (.lst (acc ++ [y]))) else Nx H3) := by
  refine ⟨fun i n H => n = ds.length - i ∧ i ≤ ds.length ∧ ∃ m, Sim X.K m H ∧ Fr m1 H1 m H ∧ lcD Dz g tt te (wipeD env vs) R (ds.drop i) m, ⟨_, rfl, Nat.zero_le _, m1, s1, Fr.refl, h1⟩, ?_⟩
  rintro i n H2 ⟨rfl, hi, m2, s2, f2, h2⟩
  obtain ⟨go, stop⟩ := it i m2 H2 f2 s2
  by_cases hlt : i < ds.length
  · obtain ⟨g1, g2⟩ := go ds[i] (by simp [hlt])
    have ed : ds.drop i = ds[i] :: ds.drop (i + 1) := List.drop_eq_getElem_cons hlt
    rw [ed] at h2
    refine .inr ⟨g1, fun H' => ∃ m, Sim X.K m H' ∧ Fr m1 H1 m H' ∧ lcD Dz g tt te (wipeD env vs) R (ds.drop (i + 1)) m, fun H' q => ⟨ds.length - (i + 1), by omega, rfl, hlt, q⟩, fun x H' y => ?_⟩
    obtain ⟨f3, s3, r3⟩ := g2 x H' y
    have h2 : tgD g ds[i] (wipeD env vs) m2 _ := h2
    refine tg_run r3 (((eo.mono f2).wipe vs).mono f3) s3 h2 fun env4 σ4 h4 eo4 wp => ?_
    refine ⟨by rw [wp vs hg]; exact wipe_sub fun i hi => hi, env4, m2, _, eo4, s3, h4, fun b m5 H5 h5 f5 s5 => ?_⟩
    have f35 := f3.trans f5
    cases b with
    | true =>
      simp only [if_true] at h5 ⊢
      refine ⟨env4, m5, _, eo4.mono f5, s5, h5, fun z m6 zv H6 h6 f6 s6 r6 => ?_⟩
      obtain ⟨acc, ea, hz, h6⟩ := h6
      obtain ⟨ws, hD6, ra⟩ := s6 Dz _ ea
      have fw : Fr m6 H6 (updM m6 Dz (.lst (acc ++ [z]))) (upd H6 Dz (.lst (ws ++ [zv]))) := Fr.write ea
      exact ⟨ws, hD6, by rw [← ra.length]; exact hz, _, s6.write (d := .lst (acc ++ [z])) ea ⟨_, upd_same, RepL.mono fw _ _ (ra.snoc r6)⟩, (f2.trans (f35.trans f6)).trans fw, h6⟩
    | false =>
      simp only [Bool.false_eq_true, if_false] at h5 ⊢
      exact ⟨m5, s5, f2.trans f35, h5⟩
  · have e : i = ds.length := by omega
    subst e
    rw [List.drop_length] at h2
    exact .inl ⟨stop rfl, k m2 H2 h2 f2 s2⟩
def lcD2 (p : Addr) (g : Tgt) (tt : DTT) (ti1 : DTI) (g1 : Tgt) (tt1 : DTT) (te : DTE) (vs1 : List Nat) (env : Env) (Q : M → Prop) : List D → M → Prop
  | [], m => Q m
  | d :: ds, m => tgD g d env m fun env' m' => tt env' m' fun b m2 => if b = true then ti1 env' m2 fun es m3 => lcD p g1 tt1 te (wipeD env' vs1) (fun m4 => lcD2 p g tt ti1 g1 tt1 te vs1 env Q ds m4) es m3 else lcD2 p g tt ti1 g1 tt1 te vs1 env Q ds m2
def tLcM2 (ti : DTI) (g : Tgt) (tt : DTT) (ti1 : DTI) (g1 : Tgt) (tt1 : DTT) (te : DTE) (vs vs1 : List Nat) : DTE := fun env m Q => ti env m fun ds m1 => ∀ p, m1 p = none → lcD2 p g tt ti1 g1 tt1 te vs1 (wipeD env vs) (fun m2 => Q (.ref p) m2) ds (updM m1 p (.lst []))
theorem lc2_lift {g g1 : Tgt} {tt tt1 : DTT} {ti ti1 : DTI} {vs vs1 : List Nat} (hg : ∀ i ∈ g.ix, i ∈ vs) (hg1 : ∀ i ∈ g1.ix, i ∈ vs1) {σ : L2.St} {H : Hp} {Q : VK} (h : liftE X.K (tLcM2 ti g tt ti1 g1 tt1 te vs vs1) σ H Q) :
    L2.tLc2 (liftI X.K ti) (tgR X.K g) (liftT X.K tt) (liftI X.K ti1) (tgR X.K g1) (liftT X.K tt1) (liftE X.K te) vs vs1 σ H Q := by
  obtain ⟨env, m0, R, eo0, s0, h, k⟩ := h
  refine ⟨env, m0, _, eo0, s0, h, fun ds m1 J H1 h1 f1 s1 it => ?_⟩
  have eo := eo0.mono f1
  intro Dz hD
  have mD : m1 Dz = none := s1.free hD
  refine ⟨fun i n H => n = ds.length - i ∧ i ≤ ds.length ∧ ∃ m, Sim X.K m H ∧ Fr m1 H1 m H ∧ lcD2 Dz g tt ti1 g1 tt1 te vs1 (wipeD env vs) (fun m2 => R (.ref Dz) m2) (ds.drop i) m,
    ⟨_, rfl, Nat.zero_le _, _, new_lstM s1 hD .nil, Fr.laidM s1 hD, h1 Dz mD⟩, ?_⟩
  rintro i n H2 ⟨rfl, hi, m2, s2, f2, h2⟩
  obtain ⟨go, stop⟩ := it i m2 H2 f2 s2
  by_cases hlt : i < ds.length
  · obtain ⟨q1, q2⟩ := go ds[i] (by simp [hlt])
    have ed : ds.drop i = ds[i] :: ds.drop (i + 1) := List.drop_eq_getElem_cons hlt
    rw [ed] at h2
    refine .inr ⟨q1, fun H' => ∃ m, Sim X.K m H' ∧ Fr m1 H1 m H' ∧ lcD2 Dz g tt ti1 g1 tt1 te vs1 (wipeD env vs) (fun m2 => R (.ref Dz) m2) (ds.drop (i + 1)) m,
      fun H' q => ⟨ds.length - (i + 1), by omega, rfl, hlt, q⟩, fun x H' y => ?_⟩
    obtain ⟨f3, s3, r3⟩ := q2 x H' y
    have h2 : tgD g ds[i] (wipeD env vs) m2 _ := h2
    refine tg_run r3 (((eo.mono f2).wipe vs).mono f3) s3 h2 fun env4 σ4 h4 eo4 wp => ?_
    refine ⟨by rw [wp vs hg]; exact wipe_sub fun i hi => hi, env4, m2, _, eo4, s3, h4, fun b m5 H5 h5 f5 s5 => ?_⟩
    have f25 := f2.trans (f3.trans f5)
    cases b with
    | true =>
      simp only [if_true] at h5 ⊢
      refine ⟨env4, m5, _, eo4.mono f5, s5, h5, fun es m6 J1 H6 h6 f6 s6 it1 => ?_⟩
      exact in_core hg1 ((eo4.mono f5).mono f6) s6 it1 h6 fun m' H' a1 a2 a3 => ⟨m', a3, f25.trans (f6.trans a2), a1⟩
    | false =>
      simp only [Bool.false_eq_true, if_false] at h5 ⊢
      exact ⟨m5, s5, f25, h5⟩
  · have e : i = ds.length := by omega
    subst e
    rw [List.drop_length] at h2
    exact .inl ⟨stop rfl, k (.ref Dz) m2 _ H2 h2 (f1.trans f2) s2 rep_ref⟩
theorem de_lc2 {scope : Scope} {own : List (Str × Nat)} {vs1 : List Nat} {ti ti1 : DTI} {g g1 : Tgt} {tt tt1 : DTT} (hi : DI X tg iter ti) (ok : BlkOk X.N X.env.scope scope own) (hN : X.N.Nodup) (hc : X.calm = true)
    (hg : ∀ (s : Shared) (H : Hp) (C : Addr) (cl : List (Str × Addr)) (fp : List Addr), DGt (Blk X scope s H C cl fp) tg g) (ht : ∀ (s : Shared) (H : Hp) (C : Addr) (cl : List (Str × Addr)) (fp : List Addr), DTs (Blk X scope s H C cl fp) ifs tt)
    (hi1 : ∀ (s : Shared) (H : Hp) (C : Addr) (cl : List (Str × Addr)) (fp : List Addr), DI (Blk X scope s H C cl fp) tg1 iter1 ti1)
    (hg1 : ∀ (s : Shared) (H : Hp) (C : Addr) (cl : List (Str × Addr)) (fp : List Addr), DGt (Blk X scope s H C cl fp) tg1 g1) (ht1 : ∀ (s : Shared) (H : Hp) (C : Addr) (cl : List (Str × Addr)) (fp : List Addr), DTs (Blk X scope s H C cl fp) ifs1 tt1)
    (he : ∀ (s : Shared) (H : Hp) (C : Addr) (cl : List (Str × Addr)) (fp : List Addr), DE (Blk X scope s H C cl fp) elt te) (hv : ∀ i ∈ g.ix, i ∈ own.map (·.2) := by decide) (hv1 : ∀ i ∈ g1.ix, i ∈ vs1 := by decide) (hvo : ∀ i ∈ vs1, i ∈ own.map (·.2) := by decide)
    (hs : ∀ x, foldedSetIterable iter X.env x = pure x := by intro _; rfl) (hs1 : ∀ env x, foldedSetIterable iter1 env x = pure x := by intro _ _; rfl) :
    DE X (.ListComp elt [⟨tg, iter, ifs, 0⟩, ⟨tg1, iter1, ifs1, 0⟩] scope pos) (tLcM2 ti g tt ti1 g1 tt1 te (own.map (·.2)) vs1) :=
  ⟨PE.weak (pe_lc2 hc hN hi.run ok hvo (fun s H C cl fp => (hg s H C cl fp).run) (fun s H C cl fp => (ht s H C cl fp).run) (fun s H C cl fp => (hi1 s H C cl fp).run) (fun s H C cl fp => (hg1 s H C cl fp).run) (fun s H C cl fp => (ht1 s H C cl fp).run) (fun s H C cl fp => (he s H C cl fp).run) hs hs1) fun σ H Q h => lc2_lift hv hv1 h⟩
end
end DL
/-! ### DL22: lists of texts in order -/
namespace DL
open PySem PySem.Spec PyProof.Rows
def ltL (a b : Str) : Prop := a.cps.toList < b.cps.toList
theorem str_ext {a b : Str} (h : a.cps.toList = b.cps.toList) : a = b := by
  cases a; cases b
  congr 1
  exact Array.ext' h
theorem ltL_irrefl (a : Str) : ¬ ltL a a := List.lt_irrefl _
theorem ltL_trans {a b c : Str} (h : ltL a b) (k : ltL b c) : ltL a c := List.lt_trans h k
theorem ltL_of {a b : Str} (h : ¬ ltL b a) (ne : a ≠ b) : ltL a b := by
  rcases Classical.em (ltL a b) with h1 | h1
  · exact h1
  · exact absurd (str_ext (List.le_antisymm (List.not_lt.mp h) (List.not_lt.mp h1))) ne
theorem rising_lt : ∀ (r : List Str) (p : Str), PyProof.Rows.risingS p r = true → (p :: r).Nodup → (p :: r).Pairwise ltL
  | [], p, _, _ => List.pairwise_singleton _ _
  | x :: r, p, h, nd => by
    have h : (!ltCps x.cps.toList p.cps.toList && PyProof.Rows.risingS x r) = true := h
    rw [Bool.and_eq_true, Bool.not_eq_true', ltCps_eq, decide_eq_false_iff_not] at h
    have nd2 := (List.nodup_cons.mp nd)
    have ih := rising_lt r x h.2 nd2.2
    have hpx : ltL p x := ltL_of h.1 fun e => nd2.1 (by rw [e]; exact List.mem_cons_self)
    refine List.pairwise_cons.mpr ⟨fun y hy => ?_, ih⟩
    rcases List.mem_cons.mp hy with rfl | hy
    · exact hpx
    · exact ltL_trans hpx ((List.pairwise_cons.mp ih).1 y hy)
theorem sorted_lt {ys : List Str} (h : sortedS ys = true) (nd : ys.Nodup) : ys.Pairwise ltL := by
  cases ys with
  | nil => exact List.Pairwise.nil
  | cons y ys => exact rising_lt ys y h nd
theorem lt_uniq : ∀ (xs ys : List Str), xs.Pairwise ltL → ys.Pairwise ltL → (∀ x, x ∈ xs ↔ x ∈ ys) → xs = ys
  | [], [], _, _, _ => rfl
  | [], y :: ys, _, _, h => absurd ((h y).mpr List.mem_cons_self) (by simp)
  | x :: xs, [], _, _, h => absurd ((h x).mp List.mem_cons_self) (by simp)
  | x :: xs, y :: ys, hx, hy, h => by
    have px := List.pairwise_cons.mp hx
    have py := List.pairwise_cons.mp hy
    have e : x = y := by
      rcases List.mem_cons.mp ((h x).mp List.mem_cons_self) with e | e
      · exact e
      · rcases List.mem_cons.mp ((h y).mpr List.mem_cons_self) with e2 | e2
        · exact e2.symm
        · exact absurd (ltL_trans (px.1 y e2) (py.1 x e)) (ltL_irrefl x)
    subst e
    have nx : x ∉ xs := fun z => ltL_irrefl x (px.1 x z)
    have ny : x ∉ ys := fun z => ltL_irrefl x (py.1 x z)
    rw [lt_uniq xs ys px.2 py.2 fun z => ⟨fun hz => ?_, fun hz => ?_⟩]
    · rcases List.mem_cons.mp ((h z).mp (List.mem_cons_of_mem _ hz)) with e | e
      · exact absurd hz (by rw [e]; exact nx)
      · exact e
    · rcases List.mem_cons.mp ((h z).mpr (List.mem_cons_of_mem _ hz)) with e | e
      · exact absurd hz (by rw [e]; exact ny)
      · exact e
end DL
/-! ### DL23: two for, nothing changed -/
namespace DL
open PySem PySem.Spec PyProof.Rows
theorem lc2_in {p : Addr} {i1 : Nat} {te : DTE} {env : Env} {N : M → Prop} {m : M} {G : D → D} : ∀ (es acc : List D), acc.length + es.length < sizeLine →
    (∀ e ∈ es, ∀ (acc : List D) (R : DK), R (G e) (updM m p (.lst acc)) → te (env.set i1 (some e)) (updM m p (.lst acc)) R) → N (updM m p (.lst (acc ++ es.map G))) → lcD p (.one i1) tYe te env N es (updM m p (.lst acc))
  | [], acc, _, _, h => by
    rw [List.map_nil, List.append_nil] at h
    exact h
  | e :: es, acc, hl, step, h => by
    simp only [lcD, tgD, gN, tYe, if_true]
    refine step e List.mem_cons_self acc _ ⟨acc, updM_same, by rw [List.length_cons] at hl; omega, ?_⟩
    rw [updM_over]
    refine lc2_in es (acc ++ [G e]) (by rw [List.length_append, List.length_singleton]; rw [List.length_cons] at hl; omega) (fun e' he => step e' (List.mem_cons_of_mem _ he)) ?_
    rw [List.append_assoc]
    exact h
theorem lc2_out {p : Addr} {i i1 : Nat} {ti1 : DTI} {te : DTE} {vs1 : List Nat} {env : Env} {N : M → Prop} {m : M} {F : D → D → D} {es : D → List D} : ∀ (ds acc : List D), acc.length + (ds.flatMap fun d => (es d).map (F d)).length < sizeLine →
    (∀ d ∈ ds, ∀ (acc : List D) (R : List D → M → Prop), R (es d) (updM m p (.lst acc)) → ti1 (env.set i (some d)) (updM m p (.lst acc)) R) →
    (∀ d ∈ ds, ∀ e ∈ es d, ∀ (acc : List D) (R : DK), R (F d e) (updM m p (.lst acc)) → te ((wipeD (env.set i (some d)) vs1).set i1 (some e)) (updM m p (.lst acc)) R) →
    N (updM m p (.lst (acc ++ ds.flatMap fun d => (es d).map (F d)))) → lcD2 p (.one i) tYe ti1 (.one i1) tYe te vs1 env N ds (updM m p (.lst acc))
  | [], acc, _, _, _, h => by
    rw [List.flatMap_nil, List.append_nil] at h
    exact h
  | d :: ds, acc, hl, hin, step, h => by
    rw [List.flatMap_cons, List.length_append, List.length_map] at hl
    simp only [lcD2, tgD, gN, tYe, if_true]
    refine hin d List.mem_cons_self acc _ ?_
    refine lc2_in (G := F d) (es d) acc (by omega) (fun e he acc R q => step d List.mem_cons_self e he acc R q) ?_
    refine lc2_out ds (acc ++ (es d).map (F d)) (by rw [List.length_append, List.length_map]; omega) (fun d' hd => hin d' (List.mem_cons_of_mem _ hd)) (fun d' hd => step d' (List.mem_cons_of_mem _ hd)) ?_
    rw [List.append_assoc]
    rw [List.flatMap_cons] at h
    exact h
theorem lc2_pure {ti ti1 : DTI} {i i1 : Nat} {te : DTE} {vs vs1 : List Nat} {env : Env} {m : M} {Q : DK} {ds : List D} (F : D → D → D) (es : D → List D) (hi : ∀ R : List D → M → Prop, R ds m → ti env m R) (hl : (ds.flatMap fun d => (es d).map (F d)).length < sizeLine)
    (hin : ∀ d ∈ ds, ∀ (m1 : M) (R : List D → M → Prop), (∃ p acc, m p = none ∧ m1 = updM m p (.lst acc)) → R (es d) m1 → ti1 ((wipeD env vs).set i (some d)) m1 R)
    (step : ∀ d ∈ ds, ∀ e ∈ es d, ∀ (m1 : M) (R : DK), (∃ p acc, m p = none ∧ m1 = updM m p (.lst acc)) → R (F d e) m1 → te ((wipeD ((wipeD env vs).set i (some d)) vs1).set i1 (some e)) m1 R)
    (hQ : Q (.lst (ds.flatMap fun d => (es d).map (F d))) m) : tFrz (tLcM2 ti (.one i) tYe ti1 (.one i1) tYe te vs vs1) env m Q := by
  refine hi _ fun p hp => ?_
  refine lc2_out ds [] (by simpa using hl) (fun d hd acc R q => hin d hd _ R ⟨p, acc, hp, rfl⟩ q) (fun d hd e he acc R q => step d hd e he _ R ⟨p, acc, hp, rfl⟩ q) ?_
  refine ⟨_, updM_same, ?_⟩
  rw [delM_upd hp, List.nil_append]
  exact hQ
end DL
/-! ### DL24: the greater of two numbers; a method's call with a starred argument -/
namespace DL
open PySem PySem.Spec PyProof.Rows L2
def dMax2 (m : M) : List D → Option D
  | [x, y] => match look m x, look m y with
    | .int i, .int j => some (.int (if j > i then j else i))
    | _, _ => none
  | _ => none
def dMin2 (m : M) : List D → Option D
  | [x, y] => match look m x, look m y with
    | .int i, .int j => some (.int (if j < i then j else i))
    | _, _ => none
  | _ => none
section
variable {X : Cx}
theorem two_ints {m : M} {H : Hp} {ds : List D} {vs : List V} {f : Int → Int → Int} {d : D} {g : M → List D → Option D} (hg : ∀ ds d, g m ds = some d → ∃ x y i j, ds = [x, y] ∧ look m x = .int i ∧ look m y = .int j ∧ d = .int (f i j))
    (s : Sim X.K m H) (r : RepL X.K m H ds vs) (e : g m ds = some d) : ∃ i j, vs = [.int i, .int j] ∧ d = .int (f i j) := by
  obtain ⟨x, y, i, j, rfl, ex, ey, rfl⟩ := hg ds d e
  simp only [RepL] at r
  obtain ⟨v, r1, rfl, rv, u, r2, rfl, ru, rfl⟩ := r
  have c1 := cont_of s rv
  have c2 := cont_of s ru
  rw [ex] at c1; rw [ey] at c2
  exact ⟨i, j, by rw [cont_int c1, cont_int c2], rfl⟩
theorem dMax2_of {m : M} (ds : List D) (d : D) (e : dMax2 m ds = some d) : ∃ x y i j, ds = [x, y] ∧ look m x = .int i ∧ look m y = .int j ∧ d = .int (if j > i then j else i) := by
  unfold dMax2 at e
  split at e
  · rename_i x y
    split at e
    · rename_i i j h1 h2
      cases e
      exact ⟨x, y, i, j, rfl, h1, h2, rfl⟩
    · cases e
  · cases e
theorem dMin2_of {m : M} (ds : List D) (d : D) (e : dMin2 m ds = some d) : ∃ x y i j, ds = [x, y] ∧ look m x = .int i ∧ look m y = .int j ∧ d = .int (if j < i then j else i) := by
  unfold dMin2 at e
  split at e
  · rename_i x y
    split at e
    · rename_i i j h1 h2
      cases e
      exact ⟨x, y, i, j, rfl, h1, h2, rfl⟩
    · cases e
  · cases e
theorem dc_max2 (hc : X.calm = true) : DCall X (.builtin "max") dMax2 := callW (call_max2 hc) fun vs H Q ⟨ds, m, d, r, s, e, q⟩ => by
  obtain ⟨i, j, rfl, rfl⟩ := two_ints (f := fun i j => if j > i then j else i) dMax2_of s r e
  exact ⟨i, j, rfl, q _ _ Fr.refl s rep_int⟩
theorem dc_min2 (hc : X.calm = true) : DCall X (.builtin "min") dMin2 := callW (call_min2 hc) fun vs H Q ⟨ds, m, d, r, s, e, q⟩ => by
  obtain ⟨i, j, rfl, rfl⟩ := two_ints (f := fun i j => if j < i then j else i) dMin2_of s r e
  exact ⟨i, j, rfl, q _ _ Fr.refl s rep_int⟩
end
structure CalMB (X : Cx) (C : Addr) (m : Str) (k : Nat) (sp : DSp) : Prop where
  ex : ∃ g, BMeth X.K C m g ∧ FnG X.prog X.w X.K X.mg X.base CX0 k g (liftSp X.K sp)
theorem Lk.met {g a : Addr} {u : HO} (h : Lk (.met g a) u) : u = .met g a := by
  rcases h with h | ⟨_, _, h, _⟩ | ⟨_, _, h, _⟩
  · exact h
  · cases h
  · cases h
section
variable {X : Cx} {k : Nat} {m : Str} {o e : Expr} {apos pos sp_ : Pos}
theorem pe_methS1 {C g : Addr} {sp : Sp} {E : XK} {CX : CXT} {ta te : TE} (he : PE X o ta) (c : Cls X.K C) (b : BMeth X.K C m g) (F : FnG X.prog X.w X.K X.mg X.base CX k g sp) (hr : RoomG k X.A) (hx : Passes CX X E) (ha : PE X e te)
    (hbase : attributeBase o m X.env (eval o X.env) = eval o X.env := by rfl) :
    PE X (.Call (.Attribute o m apos) [.Starred e sp_] [] pos) (fun σ H Q => ta σ H fun x H1 => ∃ a dx fs, x = V.ref a ∧ H1 a = some (.ins C dx fs) ∧ fs.lookup m = Option.none ∧ ∀ q, H1 q = Option.none → te σ (upd H1 q (.met g a)) fun y H2 => ∃ b xs, y = V.ref b ∧ (SqT X.K H2 b xs ∨ SqL X.K H2 b xs) ∧ H2 q = some (.met g a) ∧ sp (V.ref a :: xs) H2 Q E) := by
  refine ⟨fun pins s σ H Q I h => ?_⟩
  refine starcall_of hbase (thn (he.run pins s σ H _ I h) fun u s1 hx1 => ?_)
  obtain ⟨x, H1, I1, rx, a, dx, fs, rfl, ea, l, q⟩ := hx1
  obtain rfl : u = Value.ref a := rx
  refine getbound_ok I1 ea c b l fun q1 s2 hq1 I2 => ?_
  refine PySem.W.ks_call (P := PySem.W.MethP X.K q1 g (.ref a)) rfl (PySem.W.keeps_M b.fi) (PySem.W.ks_lone ?_)
  refine thn (ha.run pins s2 σ _ _ I2 (q q1 hq1)) fun v s3 hx3 => ?_
  obtain ⟨y, H2, I3, ry, t, vs, rfl, ht, hm, hsp⟩ := hx3
  obtain rfl : v = Value.ref t := ry
  refine StX.star_any I3 ht fun us s4 I4 rv => ⟨met_P I4 hm, ?_⟩
  exact wpAny_call (PySem.W.method_call (met_P I4 hm).1 (run_fnC (us := Value.ref a :: us) (vs := V.ref a :: vs) F hr hx I4 (.cons rfl rv) hsp))
theorem de_methS1 {C : Addr} {sp : DSp} {ta te : DTE} (c : CalMB X C m k sp) (hc : Cls X.K C) (hr : RoomG k X.A) (ho : DE X o ta) (ha : DE X e te)
    (hbase : attributeBase o m X.env (eval o X.env) = eval o X.env := by rfl) :
    DE X (.Call (.Attribute o m apos) [.Starred e sp_] [] pos) (tMt C m sp ta (tAS te tA0)) := by
  obtain ⟨f, hm, F⟩ := c.ex
  refine ⟨PE.weak (pe_methS1 ho.run hc hm F hr pass0 ha.run hbase) fun σ H Q h => ?_⟩
  obtain ⟨env, mm, R, eo, s, h, k⟩ := h
  refine ⟨env, mm, _, eo, s, h, fun d m1 v H1 h1 f1 s1 r1 => ?_⟩
  obtain ⟨ns, vs, e1, hn, h1⟩ := h1
  have cc := cont_of s1 r1
  rw [e1] at cc
  obtain ⟨a, dx, fs, rfl, h2, rfl, r2⟩ := cc
  refine ⟨a, dx, fs, rfl, h2, lookup_none hn, fun q hq => ?_⟩
  have f0 := Fr.laid (o := .met f a) s1 hq
  refine ⟨env, m1, _, (eo.mono f1).mono f0, s1.laid hq, h1, fun d2 m2 w H2 h3 f2 s2 r3 => ?_⟩
  obtain ⟨xs, e2, h3⟩ := h3
  obtain ⟨b, ws, rfl, hq2, rx⟩ := star_items (cont_of s2 r3) e2
  have h3 : sp (d :: (xs ++ [])) m2 R := h3
  rw [List.append_nil] at h3
  have hm2 : H2 q = some (.met f a) := by
    obtain ⟨_, u', e3, e4⟩ := f2 q _ (s1.free hq) upd_same
    rw [e3, e4.met]
  exact ⟨b, ws, rfl, hq2, hm2, d :: xs, m2, R, .cons (Rep.mono (f0.trans f2) _ _ r1) rx, s2, h3, fun d' m' v H' a1 a2 a3 a4 => k d' m' v H' a1 (((f1.trans f0).trans f2).trans a2) a3 a4⟩
end
section
variable (P : Program) (w : World) (K : PySem.W.Frag) (mg : Str → Option Value) (base : Heap)
def CalMBW (C : Addr) (m : Str) (k : Nat) (sp : DSp) : Prop := ∃ g, BMeth K C m g ∧ FnG P w K mg base CX0 k g (liftSp K sp)
end
end DL
/-! ### DL25: ==, != and len by an own class's methods -/
namespace DLn
open PySem PySem.Spec PyProof.Rows PySem.SeqAt
section
variable {M : Model} {prog : Program} {w : World} {A : Around} {E : Value → Shared → Prop} {s : Shared} {K : PySem.W.Frag} {x C f : Addr} {ox : Obj} {od : Option Obj} {b tb : Value}
theorem entry_ne {Q : Fin → Shared → Prop} (hu : A.units < cLine) (X : K.In s.heap) (I : PySem.W.InstAt s.heap x ox C od) (hs : PySem.W.findIn K (.ref C) "__eq__" = some (some (.ref f))) (hf : PySem.W.isFn K (.ref f) = true)
    (h : wpAny (model prog w) A (call (.ref f) [.ref x, b]) (fun v s' => ∃ r, v = .bool r ∧ Q (.done (.ret (.bool (!r)))) s') E s) : wpAny (model prog w) A (Builtin.«object.__ne__» ⟨[.ref x, b], []⟩) Q E s := by
  unfold Builtin.«object.__ne__»
  repeat (first
    | with_reducible refine wpAny_cRoomFor hu ?_
    | (refine wpAny_bind (m := callSpecialIfBound? (.ref x) (Str.ofString "__eq__") [b])
        (PySem.W.ifBound_K X I hs hf (wpAny_mono h (fun r s' hr => by
          obtain ⟨b, rfl, hq⟩ := hr
          repeat (first | exact hq | exact wpAny_pure hq | exact wpAny_truthy_bool hq | (refine wpAny_bind (m := truthy (.bool _)) (wpAny_truthy_bool ?_)) | wp_step)) fun _ _ e => e)))
    | wp_step)
theorem call_objNe {Q : Value → Shared → Prop} (hu : A.units + 1 < cLine) (X : K.In s.heap) (I : PySem.W.InstAt s.heap x ox C od) (hm : PySem.W.mroIn K C (.type "object") = some true) (hs : PySem.W.findIn K (.ref C) "__eq__" = some (some (.ref f))) (hf : PySem.W.isFn K (.ref f) = true)
    (h : wpAny (model prog w) A.in1 (call (.ref f) [.ref x, b]) (fun v s' => ∃ r, v = .bool r ∧ Q (.bool (!r)) s') E s) : wpAny (model prog w) A (call (.builtin "object.__ne__") [.ref x, b]) Q E s :=
  wpAny_call (codeAny_call_builtin F.cmp_object.ne.plain F.cmpEntry_ne (PySem.W.check_slot F.cmpKind_ne F.cmpSplit_ne (I.type.andThen (PySem.W.looks_mroIn X hm)) (F.cmpArgs_ne _ _)
    (entry_ne (A := A.in1) hu X I hs hf (wpAny_mono h (fun v s' hv => by obtain ⟨r, rfl, q⟩ := hv; exact ⟨r, rfl, q⟩) fun _ _ e => e))))
theorem ifBound_objNe {args : List Value} {Q : Option Value → Shared → Prop} (X : K.In s.heap) (I : PySem.W.InstAt s.heap x ox C od) (hs : PySem.W.findIn K (.ref C) "__ne__" = some (some (.builtin "object.__ne__")))
    (h : wpAny M A (call (.builtin "object.__ne__") (.ref x :: args)) (fun v => Q (some v)) E s) : wpAny M A (callSpecialIfBound? (.ref x) "__ne__" args) Q E s := by
  simp only [callSpecialIfBound?, bindSpecialIfBound?]
  refine wpAny_holding (wpAny_bind (wpAny_bind (wpAny_bind (I.type.here ((PySem.W.looks_findIn X hs).here ?_)))))
  refine wpAny_bind (wpAny_askSetting (wpAny_ite ?_))
  have fin : wpAny M A (call (.builtin "object.__ne__") ([.ref x] ++ args) >>= fun v => pure (some v)) Q E s := wpAny_bind (wpAny_mono h (fun v s' h' => wpAny_pure h') fun _ _ h' => h')
  split
  · exact wpAny_bind (wpAny_of_eq (F.cmp_object.ne.bind _) (wpAny_pure (by exact fin)))
  · exact wpAny_tryCatch (wpAny_bind (wpAny_of_eq (F.cmp_object.ne.bind _) (wpAny_pure (by exact fin))))
theorem cmp_ne {Q : Value → Shared → Prop} (hu : A.units + 1 < cLine) (X : K.In s.heap) (I : PySem.W.InstAt s.heap x ox C od) (hb : PySem.W.Looks (model prog w) s.heap (typeOf b) tb) (hn : PySem.W.notFirst K C tb = true)
    (hm : PySem.W.mroIn K C (.type "object") = some true) (hne : PySem.W.findIn K (.ref C) "__ne__" = some (some (.builtin "object.__ne__"))) (hs : PySem.W.findIn K (.ref C) "__eq__" = some (some (.ref f))) (hf : PySem.W.isFn K (.ref f) = true)
    (h : wpAny (model prog w) A.in1 (call (.ref f) [.ref x, b]) (fun v s' => ∃ r, v = .bool r ∧ Q (.bool (!r)) s') E s) : wpAny (model prog w) A (richCompare .NotEq (.ref x) b) Q E s := by
  have one : wpAny (model prog w) A (tryCompare (.ref x) "__ne__" b) (fun r s' => ∃ v, r = some v ∧ Q v s') E s := by
    unfold tryCompare
    refine wpAny_bind (ifBound_objNe X I hne (call_objNe hu X I hm hs hf (wpAny_mono h (fun v s' hv => ?_) fun _ _ e => e)))
    obtain ⟨r, rfl, q⟩ := hv
    exact ⟨r, rfl, wpAny_pure ⟨_, rfl, q⟩⟩
  unfold richCompare
  rw [cmpInfo_NotEq]
  simp only [oneThing_ref]
  refine wpAny_holding (wpAny_bind (wpAny_cRoomFor (by omega) ?_))
  refine wpAny_bind (I.type.here (wpAny_bind (hb.here ?_)))
  split
  · rename_i q
    have e : PySem.W.subIn K tb (.ref C) = some false := by
      rcases Bool.or_eq_true_iff.mp hn with e | e
      · rw [beq_iff_eq.mp e] at q; simp at q
      · exact beq_iff_eq.mp e
    refine wpAny_bind ((PySem.W.looks_subIn X e).here ?_)
    simp only [Bool.false_eq_true, if_false]
    refine wpAny_bind (wpAny_mono one (fun r s' z => ?_) fun _ _ e => e)
    obtain ⟨v, rfl, hq⟩ := z
    exact wpAny_pure hq
  · refine wpAny_bind (wpAny_pure ?_)
    simp only [Bool.false_eq_true, if_false]
    refine wpAny_bind (wpAny_mono one (fun r s' z => ?_) fun _ _ e => e)
    obtain ⟨v, rfl, hq⟩ := z
    exact wpAny_pure hq
end
end DLn
namespace DL
open PySem PySem.Spec PyProof.Rows L2
theorem RoomG.in1 {k : Nat} {A : Around} (r : RoomG (k + 1) A) : RoomG k A.in1 := ⟨r.r.in1, r.g⟩
/-- a call somewhere below the running body -/
theorem run_fnA {X : Cx} {A : Around} {k : Nat} {pins : List (Addr × Obj)} {σ : L2.St} {H : Hp} {s : Shared} {CX : CXT} {f : Addr} {sp : Sp} {E : XK} {Q : VK} {us : List Value} {vs : List V} (fr : A.frames = X.A.frames) (F : FnG X.prog X.w X.K X.mg X.base CX k f sp) (hr : RoomG k A) (hx : Passes CX X E) (I : Inv X pins σ H s) (r : Vals vs us)
    (q : sp vs H Q E) : wpAny (model X.prog X.w) A (call (.ref f) us) (EP X pins σ Q) X.xe s := by
  have e := I.env0
  have e0 : Env0 X.prog X.w X.K X.mg X.base A X.stack s H := ⟨by rw [fr]; exact e.frames, e.mod, e.bs, e.bsz, e.funs, e.frf, e.hok, e.bare⟩
  exact wpAny_call (codeAny_mono (F A X.stack s H us vs Q E hr e0 r q) fun res s' h => match res, h with
    | .error e, h => hx pins σ H s e s' I h
    | .ok (.ret u), h => I.after h
    | .ok .next, h => h.elim
    | .ok .brk, h => h.elim
    | .ok .cont, h => h.elim)
/-- built-in values on the right side do not answer ahead of an instance of C -/
def NF (K : PySem.W.Frag) (C : Addr) : Prop := ∀ T ∈ ["NoneType", "bool", "int", "str", "tuple", "list", "dict"], PySem.W.subIn K (.type T) (.ref C) = some false
theorem tyD_mem {d : D} {T : String} (h : tyD d = some (.inl T)) : T ∈ ["NoneType", "bool", "int", "str", "tuple", "list", "dict"] := by
  unfold tyD at h
  split at h <;> first | (cases h; simp) | cases h
def rightOk (C : Addr) (d : D) : Prop := ∃ t, tyD d = some t ∧ ∀ C', t = .inr C' → C' = C
theorem right_looks {X : Cx} {pins : List (Addr × Obj)} {σ : L2.St} {H : Hp} {s : Shared} {m : M} {C : Addr} {d : D} {v : V} {u : Value} (I : Inv X pins σ H s) (nf : NF X.K C) (c : Cont X.K m H d v) (r : RelV v u) (h : rightOk C d) :
    ∃ tb, PySem.W.Looks (model X.prog X.w) s.heap (typeOf u) tb ∧ PySem.W.notFirst X.K C tb = true := by
  obtain ⟨t, ht, hc⟩ := h
  cases t with
  | inl T =>
    have ty := cont_ty c ht (fun C' e => by cases e)
    obtain ⟨P, Z, hp, _⟩ := kit_of I r ty
    refine ⟨_, Z.ty _ _ I.kIn hp, ?_⟩
    unfold PySem.W.notFirst
    rw [Bool.or_eq_true]
    right
    have e : PySem.W.subIn X.K (valT (.inl T)) (.ref C) = some false := nf T (tyD_mem ht)
    rw [e]; rfl
  | inr C' =>
    obtain rfl := hc C' rfl
    unfold tyD at ht
    split at ht <;> (try cases ht)
    obtain ⟨a, dx, fs, rfl, h, _⟩ := c
    cases r
    obtain ⟨mA, J, _⟩ := ins_get I.hok h
    obtain ⟨od, J, _⟩ := J.look
    exact ⟨_, J.type, by simp [PySem.W.notFirst]⟩
/-- what an own comparison's def is asked -/
def rOwn (K : PySem.W.Frag) (C : Addr) (sp : DSp) (g : Bool → Bool) : R2 := fun v u H Q => ∃ x y m, Rep K m H x v ∧ Rep K m H y u ∧ Sim K m H ∧ (∃ ns vs, look m x = .ins C ns vs) ∧ rightOk C (look m y) ∧
  liftSp K sp [v, u] H (fun w H' => ∃ b, w = .bl b ∧ Q (.bl (g b)) H') E0
section
variable {X : Cx} {C : Addr} {k : Nat} {sp : DSp}
theorem op_ownEq (c : CalM X C "__eq__" k sp) (nf : NF X.K C) (hr : RoomG k X.A) : OpR X (compareOp .Eq) (rOwn X.K C sp id) := by
  intro pins s σ H v u a b Q I rv ru ⟨x, y, m, rx, ry, sm, ⟨ns, vs, ex⟩, rt, hsp⟩
  obtain ⟨f, hm, F⟩ := c.ex
  have cx := cont_of sm rx
  rw [ex] at cx
  obtain ⟨p, dx, fs, rfl, hp, _, _⟩ := cx
  cases rv
  obtain ⟨mA, J, _⟩ := ins_get I.hok hp
  obtain ⟨od, J, _⟩ := J.look
  obtain ⟨m0, hF⟩ := I.fr
  obtain ⟨tb, hb, hn⟩ := right_looks I nf (cont_of sm ry) ru rt
  show wpAny (model X.prog X.w) X.A (richCompare .Eq (.ref p) b) (EP X pins σ Q) X.xe s
  refine PySem.W.cmp_K (op := .Eq) (tb := tb) hr.r.units0 hF I.ok.mod.kin J hb hn hm.at_ hm.fn ?_
  refine wpAny_mono (run_fnA (us := [Value.ref p, b]) (vs := [V.ref p, u]) rfl F hr pass0 I (.cons rfl (.cons ru .nil)) hsp) (fun r s' hq => ?_) fun _ _ x => x
  obtain ⟨w, H', I', rw', b, rfl, q⟩ := hq
  cases rw'
  exact ⟨.bl b, H', I', rfl, q⟩
theorem op_ownNe (c : CalM X C "__eq__" k sp) (nf : NF X.K C) (hm0 : PySem.W.mroIn X.K C (.type "object") = some true) (hne : PySem.W.findIn X.K (.ref C) "__ne__" = some (some (.builtin "object.__ne__"))) (hr : RoomG (k + 1) X.A) : OpR X (compareOp .NotEq) (rOwn X.K C sp not) := by
  intro pins s σ H v u a b Q I rv ru ⟨x, y, m, rx, ry, sm, ⟨ns, vs, ex⟩, rt, hsp⟩
  obtain ⟨f, hm, F⟩ := c.ex
  have cx := cont_of sm rx
  rw [ex] at cx
  obtain ⟨p, dx, fs, rfl, hp, _, _⟩ := cx
  cases rv
  obtain ⟨mA, J, _⟩ := ins_get I.hok hp
  obtain ⟨od, J, _⟩ := J.look
  obtain ⟨tb, hb, hn⟩ := right_looks I nf (cont_of sm ry) ru rt
  show wpAny (model X.prog X.w) X.A (richCompare .NotEq (.ref p) b) (EP X pins σ Q) X.xe s
  refine DLn.cmp_ne (tb := tb) (by have := hr.r.un; omega) I.kIn J hb hn hm0 hne hm.at_ hm.fn ?_
  refine wpAny_mono (run_fnA (A := X.A.in1) (us := [Value.ref p, b]) (vs := [V.ref p, u]) rfl F hr.in1 pass0 I (.cons rfl (.cons ru .nil)) hsp) (fun r s' hq => ?_) fun _ _ x => x
  obtain ⟨w, H', I', rw', b, rfl, q⟩ := hq
  cases rw'
  exact ⟨b, rfl, .bl (!b), H', I', rfl, q⟩
/-- x == y, x != y by C's __eq__ -/
def tOwn (C : Addr) (sp : DSp) (g : Bool → Bool) (ta tb : DTE) : DTE := fun env m Q => ta env m fun x m1 => tb env m1 fun y m2 => (∃ ns vs, look m2 x = .ins C ns vs) ∧ rightOk C (look m2 y) ∧ sp [x, y] m2 fun d m3 => ∃ b, d = .bl b ∧ Q (.bl (g b)) m3
def tOwnT (C : Addr) (sp : DSp) (g : Bool → Bool) (ta tb : DTE) : DTT := fun env m Q => ta env m fun x m1 => tb env m1 fun y m2 => (∃ ns vs, look m2 x = .ins C ns vs) ∧ rightOk C (look m2 y) ∧ sp [x, y] m2 fun d m3 => ∃ b, d = .bl b ∧ Q (g b) m3
variable {a b : Expr} {ta tb : DTE} {pos : Pos}
theorem own_lift {g : Bool → Bool} {σ : L2.St} {H : Hp} {Q : VK} (h : liftE X.K (tOwn C sp g ta tb) σ H Q) : tOp (rOwn X.K C sp g) (liftE X.K ta) (liftE X.K tb) σ H Q := by
  obtain ⟨env, m, R, eo, s, h, k⟩ := h
  refine ⟨env, m, _, eo, s, h, fun x m1 v H1 h1 f1 s1 r1 => ?_⟩
  refine ⟨env, m1, _, eo.mono f1, s1, h1, fun y m2 u H2 h2 f2 s2 r2 => ?_⟩
  obtain ⟨e1, e2, h2⟩ := h2
  refine ⟨x, y, m2, Rep.mono f2 _ _ r1, r2, s2, e1, e2, [x, y], m2, _, .cons (Rep.mono f2 _ _ r1) (.cons r2 .nil), s2, h2, fun d m3 w H3 h3 f3 s3 r3 => ?_⟩
  obtain ⟨b, rfl, h3⟩ := h3
  exact ⟨b, by simpa only [Rep] using r3, k _ m3 _ H3 h3 ((f1.trans f2).trans f3) s3 rep_bl⟩
theorem ownT_lift {g : Bool → Bool} {σ : L2.St} {H : Hp} {Q : Bool → Hp → Prop} (h : liftT X.K (tOwnT C sp g ta tb) σ H Q) : tOp (rOwn X.K C sp g) (liftE X.K ta) (liftE X.K tb) σ H (fun w H' => ∃ k, w = .bl k ∧ Q k H') := by
  obtain ⟨env, m, R, eo, s, h, k⟩ := h
  refine ⟨env, m, _, eo, s, h, fun x m1 v H1 h1 f1 s1 r1 => ?_⟩
  refine ⟨env, m1, _, eo.mono f1, s1, h1, fun y m2 u H2 h2 f2 s2 r2 => ?_⟩
  obtain ⟨e1, e2, h2⟩ := h2
  refine ⟨x, y, m2, Rep.mono f2 _ _ r1, r2, s2, e1, e2, [x, y], m2, _, .cons (Rep.mono f2 _ _ r1) (.cons r2 .nil), s2, h2, fun d m3 w H3 h3 f3 s3 r3 => ?_⟩
  obtain ⟨b, rfl, h3⟩ := h3
  exact ⟨b, by simpa only [Rep] using r3, g b, rfl, k _ m3 H3 h3 ((f1.trans f2).trans f3) s3⟩
theorem de_ownEq (c : CalM X C "__eq__" k sp) (nf : NF X.K C) (hr : RoomG k X.A) (ha : DE X a ta) (hb : DE X b tb) (hm : behindInMarks .Eq b = false := by first | exact nomark _ | rfl) : DE X (.Compare a [.Eq] [b] pos) (tOwn C sp id ta tb) :=
  ⟨PE.weak (pe_cmpR (op_ownEq c nf hr) ha.run hb.run hm) fun _ _ _ h => own_lift h⟩
theorem dt_ownEq (c : CalM X C "__eq__" k sp) (nf : NF X.K C) (hr : RoomG k X.A) (ha : DE X a ta) (hb : DE X b tb) (hm : behindInMarks .Eq b = false := by first | exact nomark _ | rfl) : DT X (.Compare a [.Eq] [b] pos) (tOwnT C sp id ta tb) :=
  ⟨PT.weak (pt_cmpR (op_ownEq c nf hr) ha.run hb.run hm) fun _ _ _ h => ownT_lift h⟩
theorem de_ownNe (c : CalM X C "__eq__" k sp) (nf : NF X.K C) (hm0 : PySem.W.mroIn X.K C (.type "object") = some true) (hne : PySem.W.findIn X.K (.ref C) "__ne__" = some (some (.builtin "object.__ne__"))) (hr : RoomG (k + 1) X.A) (ha : DE X a ta) (hb : DE X b tb) (hm : behindInMarks .NotEq b = false := by first | exact nomark _ | rfl) : DE X (.Compare a [.NotEq] [b] pos) (tOwn C sp not ta tb) :=
  ⟨PE.weak (pe_cmpR (op_ownNe c nf hm0 hne hr) ha.run hb.run hm) fun _ _ _ h => own_lift h⟩
theorem dt_ownNe (c : CalM X C "__eq__" k sp) (nf : NF X.K C) (hm0 : PySem.W.mroIn X.K C (.type "object") = some true) (hne : PySem.W.findIn X.K (.ref C) "__ne__" = some (some (.builtin "object.__ne__"))) (hr : RoomG (k + 1) X.A) (ha : DE X a ta) (hb : DE X b tb) (hm : behindInMarks .NotEq b = false := by first | exact nomark _ | rfl) : DT X (.Compare a [.NotEq] [b] pos) (tOwnT C sp not ta tb) :=
  ⟨PT.weak (pt_cmpR (op_ownNe c nf hm0 hne hr) ha.run hb.run hm) fun _ _ _ h => ownT_lift h⟩
/-! len -/
theorem call_lenO (c : CalM X C "__len__" k sp) (hr : RoomG (k + 1) X.A) : CallR X (.builtin "len") (fun xs H Q => ∃ x m, (∃ v, xs = [v] ∧ Rep X.K m H x v) ∧ Sim X.K m H ∧ (∃ ns vs, look m x = .ins C ns vs) ∧ liftSp X.K sp xs H (fun w H' => ∃ n : Int, w = .int n ∧ 0 ≤ n ∧ n < 2 ^ 63 ∧ Q (.int n) H') E0) := by
  rintro pins s σ H xs us Q I r ⟨x, m, ⟨v, rfl, rx⟩, sm, ⟨ns, vs, ex⟩, hsp⟩
  obtain ⟨u, rfl, ru⟩ := vals1 r
  obtain ⟨f, hm, F⟩ := c.ex
  have cx := cont_of sm rx
  rw [ex] at cx
  obtain ⟨p, dx, fs, rfl, hp, _, _⟩ := cx
  cases ru
  obtain ⟨mA, J, _⟩ := ins_get I.hok hp
  obtain ⟨od, J, _⟩ := J.look
  obtain ⟨m0, hF⟩ := I.fr
  refine PySem.W.len_K hF I.ok.mod.kin J hm.at_ hm.fn ?_
  refine wpAny_mono (run_fnA (A := X.A.in1) (us := [Value.ref p]) (vs := [V.ref p]) rfl F hr.in1 pass0 I (.cons rfl .nil) hsp) (fun r s' hq => ?_) fun _ _ x => x
  obtain ⟨w, H', I', rw', n, rfl, h0, h1, q⟩ := hq
  obtain ⟨t, rfl⟩ := rw'
  exact ⟨⟨h0, h1⟩, .int n, H', I'.tok _, ⟨_, rfl⟩, q⟩
def tLenO (C : Addr) (sp : DSp) (te : DTE) : DTE := fun env m Q => te env m fun x m1 => (∃ ns vs, look m1 x = .ins C ns vs) ∧ sp [x] m1 fun d m2 => ∃ n : Int, d = .int n ∧ 0 ≤ n ∧ n < 2 ^ 63 ∧ Q (.int n) m2
theorem de_lenO {e : Expr} {te : DTE} {p : Pos} (c : CalM X C "__len__" k sp) (hr : RoomG (k + 1) X.A) (hm : X.mg "len" = none) (he : DE X e te) (hg : Gl X "len" := by rfl) (hs : starEach [e] X.env = (false, eval e X.env) :: starEach [] X.env := by rfl) (hpl : (backTo pos (starEach [] X.env)).any (·.1) = false := by rfl) :
    DE X (.Call (.Name "len" p) [e] [] pos) (tLenO C sp te) :=
  ⟨PE.weak (pe_callB (call_lenO c hr) hg hm (by decide +kernel) (pa_cons he.run pa_nil hs) (by decide) (by decide) hs hpl) fun σ H Q h => by
    obtain ⟨env, m, R, eo, s, h, kq⟩ := h
    refine ⟨env, m, _, eo, s, h, fun x m1 v H1 h1 f1 s1 r1 => ?_⟩
    obtain ⟨e1, h1⟩ := h1
    refine ⟨x, m1, ⟨v, rfl, r1⟩, s1, e1, [x], m1, _, .cons r1 .nil, s1, h1, fun d m2 w H2 h2 f2 s2 r2 => ?_⟩
    obtain ⟨n, rfl, b0, b1, h2⟩ := h2
    exact ⟨n, by simpa only [Rep] using r2, b0, b1, kq _ m2 _ H2 h2 (f1.trans f2) s2 rep_int⟩⟩
end
end DL
/-! ### DL26: isinstance of own classes, defs called by names, sorted pairs of ints -/
namespace DL
open PySem PySem.Spec PyProof.Rows L2
/-- built-in types, and a table for own classes -/
def JO (tab : List (Ty × Ty × Bool)) : Ty → Ty → Option Bool
  | .inl a, .inl b => kitB a b
  | t, u => (tab.find? fun e => decide (e.1 = t) && decide (e.2.1 = u)).map (·.2.2)
theorem jo_ok {K : PySem.W.Frag} {tab : List (Ty × Ty × Bool)} (h : ∀ e ∈ tab, PySem.W.kitOne K (valT e.1) (valT e.2.1) = some e.2.2 ∧ ∀ C, e.1 = .inr C → InsT K C) : JOk K (JO tab) := fun t u b e => by
  have main : ∀ (t u : Ty), (tab.find? fun e => decide (e.1 = t) && decide (e.2.1 = u)).map (·.2.2) = some b → PySem.W.kitOne K (valT t) (valT u) = some b ∧ ∀ C, t = .inr C → InsT K C := fun t u e => by
    obtain ⟨x, hx, rfl⟩ := Option.map_eq_some_iff.mp e
    have h1 := List.find?_some hx
    rw [Bool.and_eq_true, decide_eq_true_eq, decide_eq_true_eq] at h1
    obtain ⟨rfl, rfl⟩ := h1
    exact h x (List.mem_of_find?_eq_some hx)
  unfold JO at e
  split at e
  · exact jb_ok _ _ b e
  · exact main _ _ e
theorem kit_self {K : PySem.W.Frag} {t : Value} : PySem.W.kitOne K t t = some true := by unfold PySem.W.kitOne; rw [if_pos (by simp)]
theorem kit_own {K : PySem.W.Frag} {t : Value} {C : Addr} {b : Bool} (hne : (t == .ref C) = false) (h1 : PySem.W.isClsIn K C = true) (h2 : PySem.W.typeIn K (.ref C) = some (.type "type")) (h3 : PySem.W.subIn K t (.ref C) = some b) : PySem.W.kitOne K t (.ref C) = some b := by
  unfold PySem.W.kitOne
  rw [if_neg (by rw [hne]; decide)]
  have h1 : (PySem.W.clsIn K C).isSome = true := h1
  show (if ((PySem.W.clsIn K C).isSome && PySem.W.typeIn K (.ref C) == some (.type "type")) = true then PySem.W.subIn K t (.ref C) else none) = _
  rw [if_pos (by rw [h1, h2]; simp), h3]
theorem kit_bty {K : PySem.W.Frag} {t : Value} {T : String} {b : Bool} (hne : (t == .type T) = false) (h1 : PySem.W.kitMeta T = true) (h3 : PySem.W.subIn K t (.type T) = some b) : PySem.W.kitOne K t (.type T) = some b := by
  unfold PySem.W.kitOne
  rw [if_neg (by rw [hne]; decide)]
  show (if PySem.W.kitMeta T = true then PySem.W.subIn K t (.type T) else none) = _
  rw [if_pos h1, h3]
/-- isinstance(x, c), c written as it is -/
def dIsiO (J : Ty → Ty → Option Bool) (m : M) : List D → Option D
  | [x, c] => match tyD (look m x), clD c with
    | some t, some u => (J t u).map .bl
    | _, _ => none
  | _ => none
theorem dc_isiO {X : Cx} {J : Ty → Ty → Option Bool} (hJ : JOk X.K J) : DCall X (.builtin "isinstance") (dIsiO J) := callW call_isi fun vs H Q ⟨ds, m, d, r, s, e, q⟩ => by
  unfold dIsiO at e
  split at e
  · rename_i x c
    simp only [RepL] at r
    obtain ⟨v1, r', rfl, h1, v2, r2, rfl, h2, rfl⟩ := r
    split at e
    · rename_i t u e1 e2
      obtain ⟨b, eb, rfl⟩ := Option.map_eq_some_iff.mp e
      obtain ⟨k1, k2⟩ := hJ t u b eb
      have c1 := cont_ty (cont_of s h1) e1 k2
      refine ⟨v1, v2, valT t, valT u, b, rfl, ?_, c1, k1, q _ _ Fr.refl s rep_bl⟩
      unfold clD at e2
      split at e2
      · cases e2
        simp only [Rep] at h2
        rw [h2]; exact .ty _
      · cases e2
        simp only [Rep] at h2
        rw [h2]; exact .own _
      · cases e2
    · cases e
  · cases e
section
variable {X : Cx} {k : Nat} {ks : List Str} {is : List Nat} {sp : DSp} {x : Str} {p pos : Pos} {kws : List Keyword} {t : DTA}
/-- f(x = .., ..) -/
def tClK (ks : List Str) (is : List Nat) (sp : DSp) (t : DTA) : DTE := fun env st Q => t env st fun ds m1 => ds.length = ks.length ∧ sp (permL is ds) m1 Q
theorem de_callK (c : CalFK X x k 0 ks is sp) (hr : RoomG k X.A) (ha : DK_ X kws t) (hg : Gl X x := by rfl) (hd : (x == ("__debug__" : Str)) = false := by decide) (hall : (backToKw pos (keywordEach kws X.env)).all (·.1.isSome) = true := by rfl) (hks : (backToKw pos (keywordEach kws X.env)).filterMap (·.1) = ks := by rfl)
    (hpl : ((backTo pos (starEach [] X.env)).any (·.1) || (backToKw pos (keywordEach kws X.env)).any (·.1.isNone)) = false := by rfl) :
    DE X (.Call (.Name x p) [] kws pos) (tClK ks is sp t) := by
  obtain ⟨f, hm, hk, F⟩ := c.ex
  refine ⟨⟨fun pins s σ H Q I h => ?_⟩⟩
  obtain ⟨env, mm, R, eo, sm, h, kq⟩ := h
  have h0 : liftA X.K t σ H (fun zs H2 => zs.length = ks.length ∧ liftSp X.K sp (permL is zs) H2 Q E0) := by
    refine ⟨env, mm, _, eo, sm, h, fun ds m2 ws H2 h3 f2 s2 r3 => ?_⟩
    obtain ⟨hl, h3⟩ := h3
    exact ⟨by rw [← r3.length]; exact hl, permL is ds, m2, R, permL_rep r3 is, s2, h3, fun d' m' v H' a1 a2 a3 a4 => kq d' m' v H' a1 (f2.trans a2) a3 a4⟩
  refine wpAny_Call_Name_kw (ld_glob I hg hm ?_ hd)
  refine PySem.W.callWith_KW0 (first := []) (h₀ := X.base) I.ok.mod.kin hk hall (thn (ha.run.run pos pins s σ H _ I h0) fun us s2 hx2 => ?_) hpl
  obtain ⟨zs, H2, I2, r, hl, q2⟩ := hx2
  rw [hks]
  exact ⟨I2.kIn, run_fnGK (us := []) (vs := []) F hr pass0 I2 .nil r rfl hl q2⟩
end
section
variable (P : Program) (w : World) (K : PySem.W.Frag) (mg : Str → Option Value) (base : Heap)
def CalFKW (x : Str) (k : Nat) (n : Nat) (ks : List Str) (is : List Nat) (sp : DSp) : Prop := ∃ f, mg x = some (.ref f) ∧ PySem.W.keepIn K (.ref f) = true ∧ FnGK P w K mg base CX0 k f n ks is (liftSp K sp)
end
/-! sorted of pairs of ints -/
def pairD (p : Int × Int) : D := .tup [.int p.1, .int p.2]
def rSortPD (K : PySem.W.Frag) : List V → Hp → VK → Prop := fun vs H Q => ∃ (a : Addr) (xs : List V) (k : V → Int × Int), vs = [V.ref a] ∧ SqL K H a xs ∧ (∀ x ∈ xs, ∃ t, x = V.ref t ∧ SqT K H t [.int (k x).1, .int (k x).2]) ∧
  ∀ ys p, SrtO.Srtd (ltP k) ys → SrtO.Stb (ltP k) ys xs → H p = none → Q (.ref p) (upd H p (.lst ys))
section
variable {X : Cx}
theorem cr_sortPD : CallR X (.builtin "sorted") (rSortPD X.K) := by
  intro pins s σ H vs us Q I r h
  obtain ⟨a, xs, k, rfl, hs, hx, q⟩ := h
  obtain ⟨its, rv, hl, hz⟩ := I.list hs
  obtain ⟨u, rfl, ru⟩ := vals1 r
  obtain rfl : u = Value.ref a := ru
  obtain ⟨e1, e2⟩ := refs_back rv fun x m => by
    obtain ⟨t, e, _⟩ := hx x m
    exact ⟨t, e⟩
  refine SrtO.sorted_pairsO (k := fun u => k (backV u)) hl.isList (by rw [← rv.length]; exact hz) (fun v hv => ?_) fun h' d out h1 h2 kp hd hn => ?_
  · obtain ⟨t, rfl⟩ := e2 v hv
    have hm : V.ref t ∈ xs := by rw [e1]; exact List.mem_map.mpr ⟨_, hv, rfl⟩
    obtain ⟨t', e, ht⟩ := hx _ hm
    cases e
    obtain ⟨its2, r2, ⟨o, ho, hc, n, hd⟩, _⟩ := I.tuple ht
    obtain ⟨u1, u2, rfl, ri, rj⟩ := vals2 r2
    obtain ⟨t1, rfl⟩ := ri
    obtain ⟨t2, rfl⟩ := rj
    exact ⟨t, o, t1, t2, n, rfl, ho, hc, hd⟩
  · have h3 : ∀ u ∈ out, ∃ a, u = Value.ref a := fun u hu => e2 u (h2.perm.mem_iff.mp hu)
    obtain ⟨n, hn⟩ := hn
    have hb : SrtO.Stb (ltP k) (out.map backV) xs := by
      rw [e1]
      exact SrtO.Stb.map (ltP_swo k) backV h2
    refine ⟨.ref d, upd H d (.lst (out.map backV)), I.laid (t' := s.toks) kp hd ⟨?_, out, n, vals_back h3, hn⟩, rfl, q _ d (SrtO.srtd_map h1) hb (I.hok.fresh hd)⟩
    rw [hb.len]
    rw [← hb.len, List.length_map, h2.len, ← rv.length]; exact hz
end
open Classical in
noncomputable def keyP (K : PySem.W.Frag) (m : M) (H : Hp) (x : V) : Int × Int := if h : ∃ p : Int × Int, Rep K m H (pairD p) x then h.choose else (0, 0)
theorem keyP_rep {K : PySem.W.Frag} {m : M} {H : Hp} {x : V} {p : Int × Int} (h : Rep K m H (pairD p) x) : Rep K m H (pairD (keyP K m H x)) x := by
  unfold keyP
  have e : ∃ p : Int × Int, Rep K m H (pairD p) x := ⟨p, h⟩
  rw [dif_pos e]
  exact e.choose_spec
theorem rep_pair {K : PySem.W.Frag} {m : M} {H : Hp} {x : V} {p : Int × Int} (h : Rep K m H (pairD p) x) : ∃ t, x = .ref t ∧ TupAt K m H t [.int p.1, .int p.2] := by
  unfold pairD at h
  simp only [Rep, RepL] at h
  obtain ⟨a, vs, rfl, h1, v, r, rfl, rfl, v2, r2, rfl, rfl, rfl⟩ := h
  exact ⟨a, rfl, h1⟩
theorem pair_of {K : PySem.W.Frag} {m : M} {H : Hp} {x : V} {t : Addr} {i j : Int} (h : TupAt K m H t [.int i, .int j]) : Rep K m H (pairD (i, j)) (.ref t) := by
  unfold pairD
  simp only [Rep]
  exact ⟨t, _, rfl, h, .cons rep_int (.cons rep_int .nil)⟩
theorem pair_uniq {X : Cx} {pins : List (Addr × Obj)} {σ : L2.St} {H : Hp} {s : Shared} {m : M} (I : Inv X pins σ H s) {x : V} {p q : Int × Int} (h : Rep X.K m H (pairD p) x) (h' : Rep X.K m H (pairD q) x) : p = q := by
  obtain ⟨t, rfl, h1⟩ := rep_pair h
  obtain ⟨t', e, h2⟩ := rep_pair h'
  cases e
  obtain ⟨its, r, ⟨o, ho, _, n, hd⟩, _⟩ := I.tuple (tupAt_sq h1)
  obtain ⟨its2, r2, ⟨o2, ho2, _, n2, hd2⟩, _⟩ := I.tuple (tupAt_sq h2)
  rw [ho] at ho2
  cases ho2
  rw [hd] at hd2
  have e3 : its = its2 := by
    have : its.toArray = its2.toArray := by injection hd2
    simpa using this
  subst e3
  obtain ⟨u1, u2, e4, ⟨t1, a1⟩, ⟨t2, a2⟩⟩ := vals2 r
  obtain ⟨w1, w2, e5, ⟨t3, a3⟩, ⟨t4, a4⟩⟩ := vals2 r2
  rw [e4] at e5
  cases e5
  rw [a1] at a3
  rw [a2] at a4
  injection a3 with b1 _
  injection a4 with b2 _
  exact Prod.ext b1 b2
def rSP (K : PySem.W.Frag) : List V → Hp → VK → Prop := fun vs H Q => ∃ d m ps v, vs = [v] ∧ Rep K m H d v ∧ Sim K m H ∧ look m d = .lst (List.map pairD ps) ∧
  ∀ qs : List (Int × Int), qs.Perm ps → qs.Pairwise (fun p q => SrtO.lexB q p = false) → ∀ w H', Fr m H m H' → Sim K m H' → Rep K m H' (.lst (qs.map pairD)) w → Q w H'
section
variable {X : Cx}
theorem call_sortP : CallR X (.builtin "sorted") (rSP X.K) := by
  rintro pins s σ H vs us Q I r ⟨d, m, ps, v, rfl, rd, sm, e, kq⟩
  have c := cont_of sm rd
  rw [e] at c
  obtain ⟨a, xs, rfl, ha, rl⟩ := cont_lst c
  have all : ∀ (ps : List (Int × Int)) (xs : List V), RepL X.K m H (ps.map pairD) xs → xs.map (keyP X.K m H) = ps ∧ ∀ x ∈ xs, Rep X.K m H (pairD (keyP X.K m H x)) x := by
    intro ps
    induction ps with
    | nil => intro xs h; simp only [List.map_nil, RepL] at h; subst h; exact ⟨rfl, fun x hx => by cases hx⟩
    | cons p ps ih =>
      intro xs h
      simp only [List.map_cons, RepL] at h
      obtain ⟨v, r, rfl, h1, h2⟩ := h
      obtain ⟨i1, i2⟩ := ih r h2
      have k1 := keyP_rep h1
      have k2 := pair_uniq I k1 h1
      refine ⟨by rw [List.map_cons, i1, k2], fun x hx => ?_⟩
      rcases List.mem_cons.mp hx with rfl | hx
      · exact k1
      · exact i2 x hx
  obtain ⟨e1, e2⟩ := all ps xs rl
  refine cr_sortPD pins s σ H _ us Q I r ⟨a, xs, keyP X.K m H, rfl, .of ha, fun x hx => ?_, fun ys p hs hb hp => ?_⟩
  · obtain ⟨t, ht, h⟩ := rep_pair (e2 x hx)
    exact ⟨t, ht, tupAt_sq h⟩
  · have hr : ∀ ys : List V, (∀ y ∈ ys, y ∈ xs) → RepL X.K m H ((ys.map (keyP X.K m H)).map pairD) ys := by
      intro ys
      induction ys with
      | nil => intro _; exact .nil
      | cons y ys ih => intro h; exact .cons (e2 y (h y List.mem_cons_self)) (ih fun z hz => h z (List.mem_cons_of_mem _ hz))
    refine kq (ys.map (keyP X.K m H)) ?_ ?_ _ _ (Fr.laid sm hp) (sm.laid hp) (new_lst sm hp (hr ys fun y hy => hb.perm.mem_iff.mp hy))
    · rw [← e1]; exact hb.perm.map _
    · exact List.pairwise_map.mpr hs
/-- sorted(xs), xs a list of pairs of ints -/
def tSortP (te : DTE) : DTE := fun env m Q => te env m fun d m1 => ∃ ps, look m1 d = .lst (List.map pairD ps) ∧ ∀ qs : List (Int × Int), qs.Perm ps → qs.Pairwise (fun p q => SrtO.lexB q p = false) → Q (.lst (qs.map pairD)) m1
theorem de_sortP {e : Expr} {te : DTE} {p pos : Pos} (hm : X.mg "sorted" = none) (he : DE X e te) (hg : Gl X "sorted" := by rfl) (hs : starEach [e] X.env = (false, eval e X.env) :: starEach [] X.env := by rfl) (hpl : (backTo pos (starEach [] X.env)).any (·.1) = false := by rfl) :
    DE X (.Call (.Name "sorted" p) [e] [] pos) (tSortP te) :=
  ⟨PE.weak (pe_callB call_sortP hg hm (by decide +kernel) (pa_cons he.run pa_nil hs) (by decide) (by decide) hs hpl) fun σ H Q h => by
    obtain ⟨env, m, R, eo, s, h, kq⟩ := h
    refine ⟨env, m, _, eo, s, h, fun x m1 v H1 h1 f1 s1 r1 => ?_⟩
    obtain ⟨ps, e1, h1⟩ := h1
    exact ⟨x, m1, ps, v, rfl, r1, s1, e1, fun qs q1 q2 w H2 f2 s2 r2 => kq _ m1 w H2 (h1 qs q1 q2) (f1.trans f2) s2 r2⟩⟩
end
end DL
/-! ### DL27: data that may be compared and shown -/
namespace DL
open PySem PySem.Spec PyProof.Rows L2
def okS (s : Str) : Prop := PyData.strOk s = true ∧ s.length ≤ 8
/-- what the readings ask of data -/
structure Fit (d : D) (n w : Nat) : Prop where
  dat : dat n d = true
  sh : PyData.showable (toPd d) = true
  i : PyData.intsShort 13 (toPd d) = true
  w : PyData.weight (toPd d) ≤ w
structure FitL (ds : List D) (n w : Nat) : Prop where
  dat : datL n ds = true
  sh : PyData.showableAll (toPdL ds) = true
  i : PyData.intsShortAll 13 (toPdL ds) = true
  w : PyData.weightAll (toPdL ds) ≤ w
theorem FitL.nil {n : Nat} : FitL [] n 0 := ⟨rfl, rfl, rfl, by simp [toPdL, PyData.weightAll]⟩
theorem FitL.cons {d : D} {ds : List D} {n a b : Nat} (h : Fit d n a) (k : FitL ds n b) : FitL (d :: ds) n (a + 1 + b) := by
  refine ⟨?_, ?_, ?_, ?_⟩
  · simp only [datL, h.dat, k.dat, Bool.and_self]
  · simp only [toPdL, PyData.showableAll, h.sh, k.sh, Bool.and_self]
  · simp only [toPdL, PyData.intsShortAll, h.i, k.i, Bool.and_self]
  · simp only [toPdL, PyData.weightAll]
    have := h.w
    have := k.w
    omega
theorem FitL.all {α : Type} {f : α → D} {n a : Nat} : ∀ (xs : List α), (∀ x ∈ xs, Fit (f x) n a) → FitL (xs.map f) n ((a + 1) * xs.length)
  | [], _ => FitL.nil
  | x :: xs, h => by
    have := FitL.cons (h x List.mem_cons_self) (FitL.all xs fun y hy => h y (List.mem_cons_of_mem _ hy))
    rw [List.length_cons, Nat.mul_succ, Nat.add_comm]
    exact this
theorem FitL.le {ds : List D} {n a b : Nat} (h : FitL ds n a) (hab : a ≤ b) : FitL ds n b := ⟨h.dat, h.sh, h.i, Nat.le_trans h.w hab⟩
theorem Fit.le {d : D} {n a b : Nat} (h : Fit d n a) (hab : a ≤ b) : Fit d n b := ⟨h.dat, h.sh, h.i, Nat.le_trans h.w hab⟩
theorem FitL.tup {ds : List D} {n a : Nat} (h : FitL ds n a) : Fit (.tup ds) (n + 1) (a + 10) := by
  refine ⟨?_, ?_, ?_, ?_⟩
  · simp only [DL.dat, h.dat]
  · simp only [toPd, PyData.showable, h.sh]
  · simp only [toPd, PyData.intsShort, h.i]
  · simp only [toPd, PyData.weight]
    have := h.w
    omega
theorem fit_str {s : Str} {n : Nat} (h : okS s) : Fit (.str s) n 20 := by
  refine ⟨?_, rfl, ?_, ?_⟩
  · cases n <;> exact h.1
  · rfl
  · simp only [toPd, PyData.weight]
    have : s.cps.size ≤ 8 := h.2
    omega
theorem fit_non {n : Nat} : Fit .non n 20 := by
  refine ⟨by cases n <;> rfl, rfl, rfl, ?_⟩
  simp [toPd, PyData.weight]
theorem log2_small {k : Nat} (h : k ≤ 1000000) : k.log2 < 20 := by
  by_cases z : k = 0
  · rw [z]; decide
  · rw [Nat.log2_lt z]
    exact Nat.lt_of_le_of_lt h (by decide)
theorem fit_int {i : Int} {n : Nat} (h : i.natAbs ≤ 1000000) : Fit (.int i) n 20 := by
  refine ⟨by cases n <;> rfl, ?_, ?_, ?_⟩
  · simp only [toPd, PyData.showable, decide_eq_true_eq]
    have := log2_small h
    omega
  · simp only [toPd, PyData.intsShort, decide_eq_true_eq]
    exact PyData.shown_int_le (Nat.lt_of_le_of_lt h (by decide))
  · simp only [toPd, PyData.weight]
    have := log2_small h
    split <;> omega
theorem fit_bl {b : Bool} {n : Nat} : Fit (.bl b) n 20 := by
  refine ⟨by cases n <;> rfl, rfl, rfl, ?_⟩
  simp [toPd, PyData.weight]
theorem FitL.lst {ds : List D} {n a : Nat} (h : FitL ds n a) : Fit (.lst ds) (n + 1) (a + 10) := by
  refine ⟨?_, ?_, ?_, ?_⟩
  · simp only [DL.dat, h.dat]
  · simp only [toPd, PyData.showable, h.sh]
  · simp only [toPd, PyData.intsShort, h.i]
  · simp only [toPd, PyData.weight]
    have := h.w
    omega
/-! repr of anything -/
def dReprA : D → Option D
  | .bl b => some (.str (if b then "True" else "False"))
  | .non => some (.str "None")
  | .int i => if i.natAbs.log2 < 1920 then some (.str (toString i)) else none
  | .str x => if (reprText x).length ≤ sizeLine then some (.str (reprText x)) else none
  | d => dRepr d
section
variable {X : Cx}
theorem dc_reprA (hg : X.A.guards = some []) (hu : X.A.units + 65 < cLine) : DCall X (.builtin "repr") (d1 dReprA) := by
  intro pins s σ H xs us Q I r ⟨ds, m, d, rl, sm, e, q⟩
  cases ds with
  | nil => cases e
  | cons x ds =>
    cases ds with
    | cons _ _ => cases e
    | nil =>
      obtain ⟨v, rfl, rx⟩ := repL1 rl
      have c := cont_of sm rx
      have e0 : d1 dReprA m [x] = dReprA (look m x) := rfl
      have e1 : d1 dRepr m [x] = dRepr (look m x) := rfl
      have hold := dc_repr hg hu pins s σ H [v] us Q I r
      rw [e0] at e
      generalize look m x = cX at *
      obtain ⟨u, rfl, ru⟩ := vals1 r
      unfold dReprA at e
      split at e
      · cases e
        rw [cont_bl c] at ru
        cases ru
        exact PySem.P.repr_of_bool ⟨.str _, H, I.tok _, ⟨_, rfl⟩, q _ H Fr.refl sm rep_str⟩
      · cases e
        rw [cont_non c] at ru
        cases ru
        exact PySem.P.repr_of_none ⟨.str _, H, I.tok _, ⟨_, rfl⟩, q _ H Fr.refl sm rep_str⟩
      · split at e
        · rename_i hz
          cases e
          rw [cont_int c] at ru
          obtain ⟨t, rfl⟩ := ru
          exact PySem.P.repr_of_int hz ⟨.str _, H, I.tok _, ⟨_, rfl⟩, q _ H Fr.refl sm rep_str⟩
        · cases e
      · split at e
        · rename_i hz
          cases e
          rw [cont_str c] at ru
          obtain ⟨t, rfl⟩ := ru
          exact PySem.P.repr_of_str ⟨.str _, H, I.tok _, ⟨_, rfl⟩, q _ H Fr.refl sm rep_str⟩ hz
        · cases e
      · exact hold ⟨[x], m, d, rl, sm, e1.trans e, q⟩
end
theorem fit_shown {d : D} {w : Nat} (h : Fit d 60 w) (hw : w ≤ 1000000) : dat 60 d = true ∧ (toPd d).showable = true ∧ (toPd d).shown.length ≤ sizeLine :=  ⟨h.dat, h.sh, PyData.shown_fits (B := 13) (by decide) (by decide) (PyData.leavesShort_of_canLay0 13 _ (dat_lay 60 _ h.dat).1 h.i) (Nat.le_trans h.w (Nat.le_trans hw (by decide)))⟩
theorem repr_tup {ds : List D} {w : Nat} (h : Fit (.tup ds) 60 w) (hw : w ≤ 1000000) : dReprA (.tup ds) = some (.str (toPd (.tup ds)).shown) := if_pos (fit_shown h hw)
theorem repr_lst {ds : List D} {w : Nat} (h : Fit (.lst ds) 60 w) (hw : w ≤ 1000000) : dReprA (.lst ds) = some (.str (toPd (.lst ds)).shown) := if_pos (fit_shown h hw)
theorem eq_refl {d : D} {ds : List D} {w : Nat} (e : d = .tup ds) (h : Fit d 60 w) : dEqB d d = some true := by
  subst e
  unfold dEqB
  simp only
  rw [if_pos ⟨h.dat, h.dat⟩]
  exact congrArg some (SeqAt.eqv_refl _ (dat_lay 60 _ h.dat).1)
end DL
/-! ### DL28: `in` by an own class's method, a class called with two starred lists, class methods by names, static methods -/
namespace DL
open PySem PySem.Spec PyProof.Rows L2
section
variable {M : Model} {A : Around} {E : Value → Shared → Prop} {s : Shared}
theorem evalArgs_two {f : Value} {x y : Sem Value} {b : Bool} {rest : List (Bool × Sem Value)} {Q : Args → Shared → Prop}
    (h : wpAny M A (spliced ((true, x) :: (b, y) :: rest)) (fun vs s' => Q ⟨vs, []⟩ s') E s) : wpAny M A (evalArgs f true ((true, x) :: (b, y) :: rest) []) Q E s := by
  unfold evalArgs
  show wpAny M A (spliced ((true, x) :: (b, y) :: rest) >>= _) Q E s
  refine wpAny_bind (wpAny_mono h (fun vs s' h' => ?_) fun _ _ x => x)
  refine wpAny_holding ?_
  exact wpAny_bind (wpAny_pure (wpAny_bind (wpAny_pure (wpAny_pure h'))))
end
section
variable {X : Cx} {k : Nat} {sp : DSp} {C : Addr} {x : Str} {p pos : Pos} {e1 e2 : Expr} {p1 p2 : Pos} {t : DTA} {tf : DTE}
theorem pe_newSS {f : Addr} {sp : Sp} {E : XK} {CX : CXT} {tf : TE} {t : TA} (M0 : Mk X.K C f) (F : FnG X.prog X.w X.K X.mg X.base CX k f sp) (hr : RoomG (k + 1) X.A) (hx : Passes CX X E) (hf : PE X (.Name x p) tf) (ha : PA X [.Starred e1 p1, .Starred e2 p2] t)
    (hst : starEach [.Starred e1 p1, .Starred e2 p2] X.env = [(true, eval e1 X.env), (true, eval e2 X.env)] := by rfl) :
    PE X (.Call (.Name x p) [.Starred e1 p1, .Starred e2 p2] [] pos) (fun σ H Q => tf σ H fun z H0 => z = .ref C ∧ StX.tMakeR C sp E t σ H0 Q) := by
  refine ⟨fun pins s σ H Q I h => ?_⟩
  refine wpAny_Call_Name_kw (thn (hf.run pins s σ H _ I h) fun u s0 ⟨z, H0, I0, rz, ez, q0⟩ => ?_)
  subst ez
  obtain rfl : u = Value.ref C := rz
  have ha' := ha.run pos pins s0 σ H0 _ I0 q0
  rw [hst] at ha' ⊢
  refine PySem.W.ks_call (P := X.K.In) rfl (PySem.W.keeps_K M0.kp) (evalArgs_two (thn ha' fun us s1 ⟨vs, H1, I1, r, q⟩ => ?_))
  exact ⟨I1.kIn, run_makeG M0 F hr hx I1 r q⟩
theorem de_newSS (c : CalC X C k sp) (hr : RoomG (k + 1) X.A) (hf : DE X (.Name x p) tf) (ha : DA X [.Starred e1 p1, .Starred e2 p2] t)
    (hst : starEach [.Starred e1 p1, .Starred e2 p2] X.env = [(true, eval e1 X.env), (true, eval e2 X.env)] := by rfl) :
    DE X (.Call (.Name x p) [.Starred e1 p1, .Starred e2 p2] [] pos) (tNwF C sp tf t) := by
  obtain ⟨f, M0, F⟩ := c.ex
  refine ⟨PE.weak (pe_newSS M0 F hr pass0 hf.run ha.run hst) fun σ H Q h => ?_⟩
  obtain ⟨env, m, R, eo, s, h, k⟩ := h
  refine ⟨env, m, _, eo, s, h, fun z m0 v0 H0 h0 f0 s0 r0 => ?_⟩
  obtain ⟨rfl, h0⟩ := h0
  refine ⟨by simpa only [Rep] using r0, env, m0, _, eo.mono f0, s0, h0, fun ds m1 vs H1 h1 f1 s1 r1 => ?_⟩
  exact nw_lift s1 r1 h1 fun d m' v H' a1 a2 a3 a4 => k d m' v H' a1 ((f0.trans f1).trans a2) a3 a4
end
/-! in -/
def rInO (K : PySem.W.Frag) (C : Addr) (sp : DSp) (g : Bool → Bool) : R2 := fun v u H Q => ∃ x y m, Rep K m H x v ∧ Rep K m H y u ∧ Sim K m H ∧ (∃ ns vs, look m y = .ins C ns vs) ∧
  liftSp K sp [u, v] H (fun w H' => ∃ b, w = .bl b ∧ Q (.bl (g b)) H') E0
section
variable {X : Cx} {C : Addr} {k : Nat} {sp : DSp}
theorem op_inO (c : CalM X C "__contains__" k sp) (hr : RoomG k X.A) : OpR X (compareOp .In) (rInO X.K C sp id) := by
  intro pins s σ H v u a b Q I rv ru ⟨x, y, m, rx, ry, sm, ⟨ns, vs, ey⟩, hsp⟩
  obtain ⟨f, hm, F⟩ := c.ex
  have cy := cont_of sm ry
  rw [ey] at cy
  obtain ⟨p, dx, fs, rfl, hp, _, _⟩ := cy
  cases ru
  obtain ⟨mA, J, _⟩ := ins_get I.hok hp
  obtain ⟨od, J, _⟩ := J.look
  obtain ⟨m0, hF⟩ := I.fr
  refine PySem.W.in_K hF I.ok.mod.kin J hm.at_ hm.fn ?_
  refine wpAny_mono (run_fnA (us := [Value.ref p, a]) (vs := [V.ref p, v]) rfl F hr pass0 I (.cons rfl (.cons rv .nil)) hsp) (fun r s' hq => ?_) fun _ _ x => x
  obtain ⟨w, H', I', rw', b, rfl, q⟩ := hq
  cases rw'
  exact wpAny_truthy_bool ⟨.bl b, H', I', rfl, q⟩
theorem op_ninO (c : CalM X C "__contains__" k sp) (hr : RoomG k X.A) : OpR X (compareOp .NotIn) (rInO X.K C sp not) := by
  intro pins s σ H v u a b Q I rv ru ⟨x, y, m, rx, ry, sm, ⟨ns, vs, ey⟩, hsp⟩
  obtain ⟨f, hm, F⟩ := c.ex
  have cy := cont_of sm ry
  rw [ey] at cy
  obtain ⟨p, dx, fs, rfl, hp, _, _⟩ := cy
  cases ru
  obtain ⟨mA, J, _⟩ := ins_get I.hok hp
  obtain ⟨od, J, _⟩ := J.look
  obtain ⟨m0, hF⟩ := I.fr
  refine PySem.W.notIn_K hF I.ok.mod.kin J hm.at_ hm.fn ?_
  refine wpAny_mono (run_fnA (us := [Value.ref p, a]) (vs := [V.ref p, v]) rfl F hr pass0 I (.cons rfl (.cons rv .nil)) hsp) (fun r s' hq => ?_) fun _ _ x => x
  obtain ⟨w, H', I', rw', b, rfl, q⟩ := hq
  cases rw'
  exact wpAny_truthy_bool ⟨.bl (!b), H', I', rfl, q⟩
/-- x in y, x not in y by C's __contains__ -/
def tInO (C : Addr) (sp : DSp) (g : Bool → Bool) (ta tb : DTE) : DTE := fun env m Q => ta env m fun x m1 => tb env m1 fun y m2 => (∃ ns vs, look m2 y = .ins C ns vs) ∧ sp [y, x] m2 fun d m3 => ∃ b, d = .bl b ∧ Q (.bl (g b)) m3
variable {a b : Expr} {ta tb : DTE} {pos : Pos}
theorem inO_lift {g : Bool → Bool} {σ : L2.St} {H : Hp} {Q : VK} (h : liftE X.K (tInO C sp g ta tb) σ H Q) : tOp (rInO X.K C sp g) (liftE X.K ta) (liftE X.K tb) σ H Q := by
  obtain ⟨env, m, R, eo, s, h, k⟩ := h
  refine ⟨env, m, _, eo, s, h, fun x m1 v H1 h1 f1 s1 r1 => ?_⟩
  refine ⟨env, m1, _, eo.mono f1, s1, h1, fun y m2 u H2 h2 f2 s2 r2 => ?_⟩
  obtain ⟨e1, h2⟩ := h2
  refine ⟨x, y, m2, Rep.mono f2 _ _ r1, r2, s2, e1, [y, x], m2, _, .cons r2 (.cons (Rep.mono f2 _ _ r1) .nil), s2, h2, fun d m3 w H3 h3 f3 s3 r3 => ?_⟩
  obtain ⟨b, rfl, h3⟩ := h3
  exact ⟨b, by simpa only [Rep] using r3, k _ m3 _ H3 h3 ((f1.trans f2).trans f3) s3 rep_bl⟩
theorem de_inO (c : CalM X C "__contains__" k sp) (hr : RoomG k X.A) (ha : DE X a ta) (hb : DE X b tb) (hm : behindInMarks .In b = false := by first | exact nomark _ | rfl) : DE X (.Compare a [.In] [b] pos) (tInO C sp id ta tb) :=
  ⟨PE.weak (pe_cmpR (op_inO c hr) ha.run hb.run hm) fun _ _ _ h => inO_lift h⟩
theorem de_ninO (c : CalM X C "__contains__" k sp) (hr : RoomG k X.A) (ha : DE X a ta) (hb : DE X b tb) (hm : behindInMarks .NotIn b = false := by first | exact nomark _ | rfl) : DE X (.Compare a [.NotIn] [b] pos) (tInO C sp not ta tb) :=
  ⟨PE.weak (pe_cmpR (op_ninO c hr) ha.run hb.run hm) fun _ _ _ h => inO_lift h⟩
def tInOT (C : Addr) (sp : DSp) (g : Bool → Bool) (ta tb : DTE) : DTT := fun env m Q => ta env m fun x m1 => tb env m1 fun y m2 => (∃ ns vs, look m2 y = .ins C ns vs) ∧ sp [y, x] m2 fun d m3 => ∃ b, d = .bl b ∧ Q (g b) m3
theorem inOT_lift {g : Bool → Bool} {σ : L2.St} {H : Hp} {Q : Bool → Hp → Prop} (h : liftT X.K (tInOT C sp g ta tb) σ H Q) : tOp (rInO X.K C sp g) (liftE X.K ta) (liftE X.K tb) σ H (fun w H' => ∃ k, w = .bl k ∧ Q k H') := by
  obtain ⟨env, m, R, eo, s, h, k⟩ := h
  refine ⟨env, m, _, eo, s, h, fun x m1 v H1 h1 f1 s1 r1 => ?_⟩
  refine ⟨env, m1, _, eo.mono f1, s1, h1, fun y m2 u H2 h2 f2 s2 r2 => ?_⟩
  obtain ⟨e1, h2⟩ := h2
  refine ⟨x, y, m2, Rep.mono f2 _ _ r1, r2, s2, e1, [y, x], m2, _, .cons r2 (.cons (Rep.mono f2 _ _ r1) .nil), s2, h2, fun d m3 w H3 h3 f3 s3 r3 => ?_⟩
  obtain ⟨b, rfl, h3⟩ := h3
  exact ⟨b, by simpa only [Rep] using r3, g b, rfl, k _ m3 H3 h3 ((f1.trans f2).trans f3) s3⟩
theorem dt_inO (c : CalM X C "__contains__" k sp) (hr : RoomG k X.A) (ha : DE X a ta) (hb : DE X b tb) (hm : behindInMarks .In b = false := by first | exact nomark _ | rfl) : DT X (.Compare a [.In] [b] pos) (tInOT C sp id ta tb) :=
  ⟨PT.weak (pt_cmpR (op_inO c hr) ha.run hb.run hm) fun _ _ _ h => inOT_lift h⟩
theorem dt_ninO (c : CalM X C "__contains__" k sp) (hr : RoomG k X.A) (ha : DE X a ta) (hb : DE X b tb) (hm : behindInMarks .NotIn b = false := by first | exact nomark _ | rfl) : DT X (.Compare a [.NotIn] [b] pos) (tInOT C sp not ta tb) :=
  ⟨PT.weak (pt_cmpR (op_ninO c hr) ha.run hb.run hm) fun _ _ _ h => inOT_lift h⟩
end
/-! class methods by the names of parameters; static methods -/
structure CalKK (X : Cx) (C : Addr) (m : Str) (k : Nat) (n : Nat) (ks : List Str) (is : List Nat) (sp : DSp) : Prop where
  ex : ∃ mc p g, ClX.CRead X.K C mc ∧ ClX.CMet X.K C mc m p g ∧ FnGK X.prog X.w X.K X.mg X.base CX0 k g n ks is (liftSp X.K sp)
/-- C.m is a static method: its record at p, its def at g -/
structure SMet (K : PySem.W.Frag) (C : Addr) (mc : Value) (m : Str) (p g : Addr) : Prop where
  at_ : PySem.W.findCls K (.ref C) mc m = some (.get (.builtin "staticmethod.__get__") (.ref p) .none (.ref C))
  rc : ∃ rest, PySem.W.recIn K p "staticmethod" = some (.ref g :: rest)
  kp : PySem.W.keepIn K (.ref g) = true
structure CalS (X : Cx) (C : Addr) (m : Str) (k : Nat) (sp : DSp) : Prop where
  ex : ∃ mc p g, ClX.CRead X.K C mc ∧ SMet X.K C mc m p g ∧ FnG X.prog X.w X.K X.mg X.base CX0 k g (liftSp X.K sp)
section
variable {X : Cx} {k n : Nat} {ks : List Str} {is : List Nat} {sp : DSp} {C : Addr} {m : Str} {p pos apos : Pos} {kws : List Keyword} {t : DTA}
theorem run_fnCK {pins : List (Addr × Obj)} {σ : L2.St} {H : Hp} {s : Shared} {CX : CXT} {f : Addr} {sp : Sp} {E : XK} {Q : VK} {us ws : List Value} {vs zs : List V} (F : FnGK X.prog X.w X.K X.mg X.base CX k f n ks is sp) (hr : RoomG k X.A) (hx : Passes CX X E) (I : Inv X pins σ H s) (r : Vals vs us) (rz : Vals zs ws)
    (ln : vs.length = n) (lz : zs.length = ks.length) (q : sp (permL is (vs ++ zs)) H Q E) : codeAny (model X.prog X.w) X.A (.call (.ref f) ⟨us, ks.zip ws⟩) (fun r s' => match r with | .ok (.ret v) => EP X pins σ Q v s' | .ok _ => False | .error e => X.xe e s') s :=
  codeAny_mono (F X.A X.stack s H us ws vs zs Q E hr I.env0 r rz ln lz q) fun res s' h => match res, h with
    | .error e, h => hx pins σ H s e s' I h
    | .ok (.ret u), h => I.after h
    | .ok .next, h => h.elim
    | .ok .brk, h => h.elim
    | .ok .cont, h => h.elim
/-- C.m(x = .., ..) -/
def tCmK (C : Addr) (ks : List Str) (is : List Nat) (sp : DSp) (t : DTA) : DTE := fun env st Q => t env st fun ds m2 => ds.length = ks.length ∧ sp (permL is (.ref C :: ds)) m2 Q
theorem de_cmethK {pl : Sem Bool} {cx : Str} {cp : Pos} (c : CalKK X C m k 1 ks is sp) (hr : RoomG k X.A) (hm : X.mg cx = some (.ref C)) (ha : DK_ X kws t) (hg : Gl X cx := by rfl) (hd : (cx == ("__debug__" : Str)) = false := by decide)
    (hall : (backToKw pos (keywordEach kws X.env)).all (·.1.isSome) = true := by rfl) (hks : (backToKw pos (keywordEach kws X.env)).filterMap (·.1) = ks := by rfl)
    (hpl : ((backTo pos (starEach [] X.env)).any (·.1) || (backToKw pos (keywordEach kws X.env)).any (·.1.isNone)) = false := by rfl)
    (ht : eval (.Call (.Attribute (.Name cx cp) m apos) [] kws pos) X.env = (do
      let ov ← eval (.Name cx cp) X.env
      standAt apos.atName
      let (f, first) ← holding [ov] (getMethod ov m pl)
      callWith pos f first (backTo pos (starEach [] X.env)) (backToKw pos (keywordEach kws X.env))) := by rfl) :
    DE X (.Call (.Attribute (.Name cx cp) m apos) [] kws pos) (tCmK C ks is sp t) := by
  obtain ⟨mc, q0, g, h1, h2, F⟩ := c.ex
  refine ⟨⟨fun pins s σ H Q I h => ?_⟩⟩
  obtain ⟨env, mm, R, eo, sm, h, kq⟩ := h
  have h0 : liftA X.K t σ H (fun zs H2 => zs.length = ks.length ∧ liftSp X.K sp (permL is (.ref C :: zs)) H2 Q E0) := by
    refine ⟨env, mm, _, eo, sm, h, fun ds m2 ws H2 h3 f2 s2 r3 => ?_⟩
    obtain ⟨hl, h3⟩ := h3
    exact ⟨by rw [← r3.length]; exact hl, permL is (.ref C :: ds), m2, R, permL_rep (.cons rep_ref r3) is, s2, h3, fun d' m' v H' a1 a2 a3 a4 => kq d' m' v H' a1 (f2.trans a2) a3 a4⟩
  refine PySem.W.methodCall_KW (pl := pl) (thn ((pe_glob (v := .ref C) hg hm rfl hd).run pins s σ H (fun x H' => x = .ref C ∧ H' = H) I ⟨rfl, rfl⟩) fun u s1 hx1 => ?_) ht
  obtain ⟨x, H1, I1, rx, rfl, rfl⟩ := hx1
  obtain rfl : u = Value.ref C := rx
  refine ClX.getmethcm_ok I1 h1 h2 fun s2 I2 => ?_
  refine PySem.W.callWith_of (P := PySem.W.MethP X.K _ g (.ref C)) hpl (PySem.W.keeps_M h2.fi) (evalArgs_kw2_nil hall (thn (ha.run.run pos _ s2 σ H1 _ I2 h0) fun ws s3 hx3 => ?_))
  obtain ⟨zs, H2, I3, rv, hl, q2⟩ := hx3
  refine ⟨⟨ClX.pin_at I3, I3.kIn⟩, ?_⟩
  rw [hks]
  exact thn (wpAny_call (PySem.W.method_call (ClX.pin_at I3) (run_fnCK (us := [.ref C]) (vs := [.ref C]) F hr pass0 I3 (.cons rfl .nil) rv rfl hl q2))) fun _ _ y => ClX.unpinE y
/-- C.m(), m a static method -/
def tSm (sp : DSp) : DTE := fun env st Q => sp [] st Q
theorem de_smeth0 {pl : Sem Bool} {cx : Str} {cp : Pos} (c : CalS X C m k sp) (hr : RoomG k X.A) (hm : X.mg cx = some (.ref C)) (hg : Gl X cx := by rfl) (hd : (cx == ("__debug__" : Str)) = false := by decide)
    (ht : eval (.Call (.Attribute (.Name cx cp) m apos) [] [] pos) X.env = (do
      let ov ← eval (.Name cx cp) X.env
      standAt apos.atName
      let (f, first) ← holding [ov] (getMethod ov m pl)
      callWith pos f first (backTo pos (starEach [] X.env)) (backToKw pos (keywordEach [] X.env))) := by rfl) :
    DE X (.Call (.Attribute (.Name cx cp) m apos) [] [] pos) (tSm sp) := by
  obtain ⟨mc, q0, g, h1, h2, F⟩ := c.ex
  refine ⟨⟨fun pins s σ H Q I h => ?_⟩⟩
  obtain ⟨env, mm, R, eo, sm, h, kq⟩ := h
  refine PySem.W.methodCall_KW (pl := pl) (thn ((pe_glob (v := .ref C) hg hm rfl hd).run pins s σ H (fun x H' => x = .ref C ∧ H' = H) I ⟨rfl, rfl⟩) fun u s1 hx1 => ?_) ht
  obtain ⟨x, H1, I1, rx, rfl, rfl⟩ := hx1
  obtain rfl : u = Value.ref C := rx
  obtain ⟨rest, hp⟩ := h2.rc
  refine PySem.W.method_cls I1.kIn h1.ga (PySem.W.cls_bind I1.kIn h1.rd h2.at_ (wpAny_call (PySem.W.sm_get (s := { s1 with toks := s1.toks + 1 }) I1.kIn hp (PySem.W.handed_on rfl ?_))))
  have I2 := I1.tok (s1.toks + 1)
  exact PySem.W.callWith_K0 I2.kIn h2.kp (run_fnG F hr pass0 I2 .nil ⟨[], mm, R, .nil, sm, h, fun d' m' v H' a1 a2 a3 a4 => kq d' m' v H' a1 a2 a3 a4⟩)
end
section
variable (P : Program) (w : World) (K : PySem.W.Frag) (mg : Str → Option Value) (base : Heap)
def CalKKW (C : Addr) (m : Str) (k : Nat) (n : Nat) (ks : List Str) (is : List Nat) (sp : DSp) : Prop := ∃ mc p g, ClX.CRead K C mc ∧ ClX.CMet K C mc m p g ∧ FnGK P w K mg base CX0 k g n ks is (liftSp K sp)
def CalSW (C : Addr) (m : Str) (k : Nat) (sp : DSp) : Prop := ∃ mc p g, ClX.CRead K C mc ∧ SMet K C mc m p g ∧ FnG P w K mg base CX0 k g (liftSp K sp)
end
end DL
/-! ### DL29: great products, t[::-1] of a tuple -/
namespace DLt
open PySem PyProof.Rows HT
section
variable {prog : Program} {w : World} {A : Around} {E : Value → Shared → Prop} {s : Shared}
theorem adjust_rev (n : Nat) : Builtin.Slice.sliceAdjust none none (-1) (n : Int) = ((n : Int) - 1, -1) := by
  unfold Builtin.Slice.sliceAdjust
  simp
theorem places_rev (n : Nat) : Builtin.Slice.slicePlaces ((n : Int) - 1) (-1) (-1) = n := by
  unfold Builtin.Slice.slicePlaces
  have h1 : ¬ ((-1 : Int) > 0) := by omega
  rw [if_neg h1]
  have h2 : (-(-1) : Int) = 1 := rfl
  rw [h2, Int.ediv_one]
  split <;> omega
theorem applied_rev {sl : Addr} {vl vu vs : Value} {n : Nat} {Q : Int × Int × Nat → Shared → Prop} (hs : s.heap.IsSliceOf sl vl vu vs) (pl : IsPart vl none) (pu : IsPart vu none) (ps : IsPart vs (some (-1)))
    (h : Q ((n : Int) - 1, -1, n) s) : wpAny (model prog w) A (Builtin.Slice.sliceApplied (.ref sl) (pure (n : Int))) Q E s := by
  obtain ⟨os, hos, hcs, hds⟩ := id hs
  unfold Builtin.Slice.sliceApplied Builtin.Slice.sliceFields
  refine wpAny_bind (wpAny_bind (wpAny_field hos hds (x := vl) rfl (wpAny_bind (wpAny_field hos hds (x := vu) rfl (wpAny_bind (wpAny_field hos hds (x := vs) rfl (wpAny_pure ?_)))))))
  refine wpAny_bind (slicePart_ ps ?_)
  show wpAny _ _ (if ((-1 : Int) == 0) = true then _ else _) _ _ s
  rw [if_neg (by decide)]
  refine wpAny_bind (slicePart_ pl (wpAny_bind (slicePart_ pu (wpAny_bind (wpAny_pure ?_)))))
  show wpAny _ _ (match Builtin.Slice.sliceAdjust none none (-1) (n : Int) with | (lo, hi) => pure (lo, (-1 : Int), Builtin.Slice.slicePlaces lo hi (-1))) _ _ s
  rw [adjust_rev n]
  show wpAny _ _ (pure ((n : Int) - 1, (-1 : Int), Builtin.Slice.slicePlaces ((n : Int) - 1) (-1) (-1))) _ _ s
  rw [places_rev]
  exact wpAny_pure h
theorem fm_congr {α β : Type} {f g : α → Option β} : ∀ {l : List α}, (∀ x ∈ l, f x = g x) → l.filterMap f = l.filterMap g
  | [], _ => rfl
  | x :: l, h => by
    rw [List.filterMap_cons, List.filterMap_cons, h x List.mem_cons_self, fm_congr fun y hy => h y (List.mem_cons_of_mem _ hy)]
theorem pick_rev (xs : Array Value) : ((List.range xs.size).filterMap fun (m : Nat) => xs[((xs.size : Int) - 1 + (m : Int) * (-1)).toNat]?).toArray = xs.toList.reverse.toArray := by
  refine congrArg List.toArray ?_
  have e : ∀ m ∈ List.range xs.size, xs[((xs.size : Int) - 1 + (m : Int) * (-1)).toNat]? = xs.toList.reverse[m]? := by
    intro m hm
    have hm := List.mem_range.mp hm
    rw [List.getElem?_reverse (by simpa using hm), Array.length_toList]
    have : ((xs.size : Int) - 1 + (m : Int) * (-1)).toNat = xs.size - 1 - m := by omega
    rw [this]; simp
  rw [fm_congr e]
  have hl : xs.size = xs.toList.reverse.length := by simp
  rw [hl]
  generalize xs.toList.reverse = l
  clear e hl
  have : ∀ (l : List Value) (pre : List Value), (List.range' pre.length l.length).filterMap (fun m => (pre ++ l)[m]?) = l := by
    intro l
    induction l with
    | nil => intro pre; rfl
    | cons x l ih =>
      intro pre
      rw [List.length_cons, List.range'_succ, List.filterMap_cons]
      have h1 : (pre ++ x :: l)[pre.length]? = some x := by simp
      rw [h1]
      have h2 := ih (pre ++ [x])
      rw [List.length_append, List.length_singleton, List.append_assoc] at h2
      simp only
      rw [show pre ++ x :: l = pre ++ ([x] ++ l) from rfl, h2]
  have h := this l []
  simpa [List.range_eq_range'] using h
theorem getItem_tuple_rev {t sl : Addr} {items : Array Value} {vl vu vs : Value} {Q : Value → Shared → Prop} (ht : IsTup s.heap t items) (hs : s.heap.IsSliceOf sl vl vu vs) (pl : IsPart vl none) (pu : IsPart vu none) (ps : IsPart vs (some (-1)))
    (h : Q (.ref s.heap.objs.size) { s with heap := s.heap.push { cls := .type "tuple", data := .seq items.toList.reverse.toArray } })
    (hsz : items.size ≤ sizeLine) : wpAny (model prog w) A (getItem (.ref t) (.ref sl)) Q E s := by
  have htake : sizeOk (.seq items.toList.reverse.toArray) := by
    show items.toList.reverse.toArray.size ≤ sizeLine
    rw [List.size_toArray, List.length_reverse, Array.length_toList]
    exact hsz
  obtain ⟨os, hos, hcs, hds⟩ := id hs
  have hTs : s.TypeIs (.ref sl) "slice" := ⟨os, hos, hcs⟩
  unfold getItem
  try with_reducible refine wpAny_holding ?_
  first | refine wpAny_bind (wpAny_pure ?_) | skip
  refine wpAny_bind (wpAny_sequenceKey ht.typeIs (by decide) ?_)
  refine wpAny_bind (wpAny_callSpecial?_slot (name := Str.ofString "__getitem__") ht.typeIs PyProof.Rows.slot_tuple_getitem
    (wpAny_call_entry PyProof.Rows.slot_tuple_getitem ht.typeIs entry_tuple_getitem ?_ (args_tuple_getitem _ _)))
  show wpAny _ _ (Builtin.Tuple.tupleItemsOf (.ref t) >>= _) _ _ s
  refine wpAny_bind (tupleItemsOf_ ht ?_)
  refine wpAny_bind (wpAny_typeOf hTs ?_)
  rw [if_pos (by decide)]
  refine wpAny_bind (applied_rev hs pl pu ps ?_)
  show wpAny _ _ (if (((items.size : Int) - 1) == 0 && (-1 : Int) == 1 && items.size == items.size) = true then _ else _) _ _ s
  rw [if_neg (by simp), pick_rev]
  first
    | exact wpAny_bind (m := Builtin.Tuple.tupleExact _) (wpAny_newObj_type (wpAny_pure ⟨_, rfl, wpAny_pure h⟩) htake)
    | exact wpAny_bind (m := Builtin.Tuple.tupleExact _) (wpAny_newObj_type (wpAny_bind (wpAny_pure (wpAny_pure ⟨_, rfl, wpAny_pure h⟩))) htake)
    | exact wpAny_bind (wpAny_bind (m := Builtin.Tuple.tupleExact _) (wpAny_newObj_type (wpAny_pure (wpAny_pure ⟨_, rfl, wpAny_pure h⟩)) htake))
    | exact wpAny_bind (wpAny_bind (m := Builtin.Tuple.tupleExact _) (wpAny_newObj_type (wpAny_pure ⟨_, rfl, wpAny_pure h⟩) htake))
end
end DLt
namespace DL
open PySem PySem.Spec PyProof.Rows L2
abbrev dMulX := d2I fun i j => if i.natAbs < 2 ^ 1000 ∧ j.natAbs < 2 ^ 1000 then some (.int (i * j)) else none
section
variable {X : Cx}
theorem do_mulX : DOp X (binaryOp .Mult) dMulX := do_2I op_mulX fun i j d e => by
  split at e
  · rename_i hc
    cases e
    exact ⟨mulx_ok hc.1 hc.2 (by decide), fun _ _ => rep_int⟩
  · cases e
def rtRevT (K : PySem.W.Frag) (te : TE) : TE := fun σ H Q => te σ H fun x H1 => ∃ a xs, x = .ref a ∧ SqT K H1 a xs ∧ ∀ p, H1 p = none → Q (.ref p) (upd H1 p (.tup xs.reverse))
theorem pe_revT {e : Expr} {te : TE} {k : Nat} {p1 p2 p3 pos : Pos} (he : PE X e te) : PE X (.Subscript e (.Slice none none (some (.UnaryOp .USub (.Constant (.int 1) k p1) p2)) p3) pos) (rtRevT X.K te) := by
  refine ⟨fun pins s σ H Q I h => ?_⟩
  refine Subscript_ (thn (he.run pins s σ H _ I h) fun v s1 ⟨x, H1, I1, r1, q1⟩ => ?_)
  obtain ⟨a, xs, ex, hx, q⟩ := q1
  subst ex
  cases r1
  have hst : PO X (some (.UnaryOp .USub (.Constant (.int 1) k p1) p2)) (tPart (tUn (rU fun i => .int (-i)) (tC (.int 1)))) := po_some (pe_un un_neg pe_int)
  refine wpAny_Slice (thn (po_none.run pins s1 σ H1 (fun o H2 => o = none ∧ H2 = H1) I1 ⟨rfl, rfl⟩) fun vl s2 ⟨l, H2, I2, pl, el, e2⟩ => ?_)
  subst el e2
  refine thn (po_none.run pins s2 σ H2 (fun o H3 => o = none ∧ H3 = H2) I2 ⟨rfl, rfl⟩) fun vu s3 ⟨u, H3, I3, pu, eu, e3⟩ => ?_
  subst eu e3
  refine thn (hst.run pins s3 σ H3 (fun o H4 => o = some (-1) ∧ H4 = H3) I3 ⟨1, rfl, -1, rfl, rfl, rfl⟩) fun vs s4 ⟨o, H4, I4, ps, eo, e4⟩ => ?_
  subst eo e4
  have I5 : Inv X pins σ H4 { s4 with heap := s4.heap.push { cls := .type "slice", data := .fields #[vl, vu, vs] } } := I4.kept (t' := s4.toks) fun b ob q => Heap.get?_push_of_some _ q
  obtain ⟨its, r, ht, hz⟩ := I5.tuple hx
  have hlen := r.length
  show wpAny (model X.prog X.w) X.A (subscriptTail e (.Slice none none (some (.UnaryOp .USub (.Constant (.int 1) k p1) p2)) p3) (.ref a) (.ref s4.heap.objs.size)) (EP X pins σ Q) X.xe { s4 with heap := s4.heap.push { cls := .type "slice", data := .fields #[vl, vu, vs] } }
  refine tail_any (ops := [.ref a, .ref s4.heap.objs.size]) ht.typeIs (PyProof.Rows.slot_tuple_getitem.lookup) ?_ (by with_unfolding_all rfl)
  refine DLt.getItem_tuple_rev ht (Heap.IsSliceOf.new _ vl vu vs) pl pu ps ?_ (by rw [List.size_toArray]; omega)
  refine ⟨.ref _, _, I5.laid (t' := s4.toks) (o := .tup xs.reverse) (fun b ob q => Heap.get?_push_of_some _ q) (Nat.le_refl _) ?_, rfl, q _ (I5.hok.fresh (Nat.le_refl _))⟩
  exact ⟨by rw [List.length_reverse]; exact hz, its.reverse, r.reverse, IsTup.new _ _⟩
/-- t[::-1] of a tuple -/
def tRevT (te : DTE) : DTE := fun env m Q => te env m fun d m1 => ∃ ds, look m1 d = .tup ds ∧ Q (.tup ds.reverse) m1
theorem de_revT {e : Expr} {te : DTE} {pos : Pos} {k : Nat} {p1 p2 p3 : Pos} (he : DE X e te) : DE X (.Subscript e (.Slice none none (some (.UnaryOp .USub (.Constant (.int 1) k p1) p2)) p3) pos) (tRevT te) := ⟨PE.weak (pe_revT he.run) fun σ H Q h => by
  obtain ⟨env, m, R, eo, s, h, k⟩ := h
  refine ⟨env, m, _, eo, s, h, fun d m1 v H1 h1 f1 s1 r1 => ?_⟩
  obtain ⟨ds, e1, h1⟩ := h1
  have cc := cont_of s1 r1
  rw [e1] at cc
  obtain ⟨q, us, rfl, hq, rq⟩ := cont_tup cc
  exact ⟨q, us, rfl, tupAt_sq hq, fun p hp => k _ _ _ _ h1 (f1.trans (Fr.laid s1 hp)) (s1.laid hp) (new_tup s1 hp rq.reverse)⟩⟩
end
end DL
/-! ### DL30: ranges downwards, constants of classes, classes made by keywords, defaults -/
namespace DL
open PySem PySem.Spec PyProof.Rows L2
/-- hi, hi - 1, .. -/
def dnD (hi : Int) (n : Nat) : List D := (List.range n).map fun (i : Nat) => D.int (hi - i)
theorem items_dn {K : PySem.W.Frag} {m0 : M} {H0 : Hp} {hi : Int} {n : Nat} : Items K (Itc hi (-1) n) (dnD hi n) m0 H0 := fun i m H f s => by
  refine ⟨fun d e => ?_, fun hl => ?_⟩
  rotate_left
  · unfold dnD at hl; rw [List.length_map, List.length_range] at hl; exact Nat.le_of_eq hl.symm
  unfold dnD at e
  rw [List.getElem?_map] at e
  obtain ⟨j, ej, rfl⟩ := Option.map_eq_some_iff.mp e
  have hi' : i < n := by
    rcases Nat.lt_or_ge i (List.range n).length with z | z
    · simpa using z
    · rw [List.getElem?_eq_none z] at ej; cases ej
  rw [List.getElem?_range hi'] at ej
  cases ej
  refine ⟨hi', fun y H' q => ?_⟩
  obtain ⟨rfl, rfl⟩ := q
  have e2 : hi + (i : Int) * (-1) = hi - (i : Int) := by omega
  rw [e2]
  exact ⟨Fr.refl, s, rep_int⟩
def iRg3 (ta : DTA) : DTI := fun env m Q => ta env m fun ds m1 => (∃ i j, ds = [.int i, .int j, .int (-1)] ∧ (-(2 ^ 62) ≤ i ∧ i < 2 ^ 62 ∧ -(2 ^ 62) ≤ j ∧ j < 2 ^ 62) ∧ Q (dnD i (i - j).toNat) m1)
section
variable {X : Cx} {tg a b c : Expr} {pos : Pos}
theorem di_range3 {p : Pos} {ta : DTA} (hm : X.mg "range" = none) (ha : DA X [a, b, c] ta) (hg : Gl X "range" := by rfl) (hs : starEach [a, b, c] X.env = (false, eval a X.env) :: starEach [b, c] X.env := by rfl) (hpl : (backTo pos (starEach [b, c] X.env)).any (·.1) = false := by rfl) :
    DI X tg (.Call (.Name "range" p) [a, b, c] [] pos) (iRg3 ta) :=
  ⟨PI.weak (pi_range3 hg hm ha.run hs hpl) fun σ H R h => by
    obtain ⟨env, m, RR, eo, s, h, k⟩ := h
    refine ⟨env, m, _, eo, s, h, fun ds m1 vs H1 h1 f1 s1 r1 => ?_⟩
    obtain ⟨i, j, rfl, ⟨b1, b2, b3, b4⟩, h1⟩ := h1
    simp only [RepL] at r1
    obtain ⟨v, r', rfl, q1, v2, r2, rfl, q2, v3, r3, rfl, q3, rfl⟩ := r1
    simp only [Rep] at q1 q2 q3
    subst q1; subst q2; subst q3
    exact ⟨i, j, -1, _, rfl, .neg b1 b2 b3 b4, k _ m1 _ H1 h1 f1 s1 items_dn⟩⟩
end
/-! constants of classes -/
def KonD (K : PySem.W.Frag) (C : Addr) (f : Str) (d : D) : Prop := ∃ v u, Con K C f v u ∧ ∀ m H, Rep K m H d v
def CvlD (K : PySem.W.Frag) (C : Addr) (f : Str) (d : D) : Prop := ∃ mc v u, ClX.CRead K C mc ∧ ClX.CVal K C mc f v u ∧ ∀ m H, Rep K m H d v
section
variable {X : Cx} {C : Addr} {e : Expr} {f : Str} {d : D} {ta : DTE} {pos : Pos}
/-- o.f, o an instance of C, f a constant of C -/
def tKi (C : Addr) (f : Str) (d : D) (ta : DTE) : DTE := fun env m Q => ta env m fun o m1 => ∃ ns vs, look m1 o = .ins C ns vs ∧ f ∉ ns ∧ Q d m1
theorem de_con (hc : Cls X.K C) (hk : KonD X.K C f d) (he : DE X e ta) (hb : attributeBase e f X.env (eval e X.env) = eval e X.env := by rfl) : DE X (.Attribute e f pos) (tKi C f d ta) := by
  obtain ⟨v, u, k, r⟩ := hk
  refine ⟨PE.weak (pe_con he.run hb) fun σ H Q h => ?_⟩
  obtain ⟨env, m, R, eo, s, h, kq⟩ := h
  refine ⟨env, m, _, eo, s, h, fun o m1 w H1 h1 f1 s1 r1 => ?_⟩
  obtain ⟨ns, vs, e1, hn, h1⟩ := h1
  have cc := cont_of s1 r1
  rw [e1] at cc
  obtain ⟨a, dx, fs, rfl, h2, rfl, r2⟩ := cc
  exact ⟨a, C, dx, fs, v, u, rfl, h2, hc, k, lookup_none hn, kq _ m1 _ H1 h1 f1 s1 (r _ _)⟩
/-- C.f, f a constant of C -/
def tKc (d : D) : DTE := fun _ m Q => Q d m
theorem de_cval {cx : Str} {cp : Pos} (hk : CvlD X.K C f d) (hm : X.mg cx = some (.ref C)) (hg : Gl X cx := by rfl) (hd : (cx == ("__debug__" : Str)) = false := by decide) (hb : attributeBase (.Name cx cp) f X.env (eval (.Name cx cp) X.env) = eval (.Name cx cp) X.env := by rfl) : DE X (.Attribute (.Name cx cp) f pos) (tKc d) := by
  obtain ⟨mc, v, u, k1, k2, r⟩ := hk
  refine ⟨PE.weak (ClX.pe_cval (pe_glob (v := .ref C) hg hm rfl hd) hb) fun σ H Q h => ?_⟩
  obtain ⟨env, m, R, eo, s, h, kq⟩ := h
  exact ⟨C, mc, v, u, rfl, k1, k2, kq _ m _ H h Fr.refl s (r _ _)⟩
end
/-! classes made by the names of parameters -/
structure CalCK (X : Cx) (C : Addr) (k : Nat) (ks : List Str) (is : List Nat) (sp : DSp) : Prop where
  ex : ∃ f, Mk X.K C f ∧ FnGK X.prog X.w X.K X.mg X.base CX0 k f 1 ks is (liftSp X.K sp)
section
variable {X : Cx} {C : Addr} {k : Nat} {ks : List Str} {is : List Nat} {sp : DSp} {x : Str} {p pos : Pos} {kws : List Keyword} {t : DTA}
theorem run_makeGK {pins : List (Addr × Obj)} {σ : L2.St} {H : Hp} {s : Shared} {CX : CXT} {f : Addr} {sp : Sp} {E : XK} {Q : VK} {ws : List Value} {zs : List V} (M0 : Mk X.K C f) (F : FnGK X.prog X.w X.K X.mg X.base CX k f 1 ks is sp) (hr : RoomG (k + 1) X.A) (hx : Passes CX X E) (I : Inv X pins σ H s) (r : Vals zs ws) (lz : zs.length = ks.length)
    (h : ∀ x dx, H x = none → H dx = none → dx ≠ x → sp (permL is (V.ref x :: zs)) (upd (upd H dx (.own x)) x (.ins C dx [])) (fun v H2 => v = .non ∧ Q (.ref x) H2) E) : wpAny (model X.prog X.w) X.A (call (.ref C) [] (ks.zip ws)) (EP X pins σ Q) X.xe s := by
  have J := Inv.made (C := C) I
  have q := h (s.heap.objs.size + 1) s.heap.objs.size (I.hok.fresh (Nat.le_succ _)) (I.hok.fresh (Nat.le_refl _)) (Nat.ne_of_lt (Nat.lt_succ_self _))
  refine wpAny_call (make_map (f := f) I.kIn M0.makes M0.init (beq_iff_eq.mp M0.fn) (codeAny_mono (F _ X.stack _ _ [Value.ref (s.heap.objs.size + 1)] ws [V.ref (s.heap.objs.size + 1)] zs _ E (hr.make C [] (ks.zip ws)) (J.env0.make C [] (ks.zip ws)) (.cons rfl .nil) r rfl lz q) fun res s' h => ?_))
  match res, h with
  | .error e, h => exact hx pins σ _ _ e s' J h
  | .ok (.ret u), h =>
    obtain ⟨v, H', J', rv, ev, q'⟩ := J.after h
    subst ev
    exact ⟨rv, V.ref (s.heap.objs.size + 1), H', J', rfl, q'⟩
  | .ok .next, h => exact h.elim
  | .ok .brk, h => exact h.elim
  | .ok .cont, h => exact h.elim
/-- C(x = .., ..) -/
def tNwK (C : Addr) (ks : List Str) (is : List Nat) (sp : DSp) (t : DTA) : DTE := fun env st Q => t env st fun ds m1 => ds.length = ks.length ∧ ∀ x, m1 x = none → sp (permL is (.ref x :: ds)) (updM m1 x (.ins C [] [])) fun d m2 => d = .non ∧ Q (.ref x) m2
theorem de_newK (c : CalCK X C k ks is sp) (hr : RoomG (k + 1) X.A) (hm : X.mg x = some (.ref C)) (ha : DK_ X kws t) (hg : Gl X x := by rfl) (hd : (x == ("__debug__" : Str)) = false := by decide) (hall : (backToKw pos (keywordEach kws X.env)).all (·.1.isSome) = true := by rfl) (hks : (backToKw pos (keywordEach kws X.env)).filterMap (·.1) = ks := by rfl)
    (hpl : ((backTo pos (starEach [] X.env)).any (·.1) || (backToKw pos (keywordEach kws X.env)).any (·.1.isNone)) = false := by rfl) :
    DE X (.Call (.Name x p) [] kws pos) (tNwK C ks is sp t) := by
  obtain ⟨f, M0, F⟩ := c.ex
  refine ⟨⟨fun pins s σ H Q I h => ?_⟩⟩
  obtain ⟨env, mm, R, eo, sm, h, kq⟩ := h
  have h0 : liftA X.K t σ H (fun zs H2 => zs.length = ks.length ∧ ∀ x dx, H2 x = none → H2 dx = none → dx ≠ x → liftSp X.K sp (permL is (V.ref x :: zs)) (upd (upd H2 dx (.own x)) x (.ins C dx [])) (fun v H3 => v = .non ∧ Q (.ref x) H3) E0) := by
    refine ⟨env, mm, _, eo, sm, h, fun ds m1 vs H1 h1 f1 s1 r1 => ?_⟩
    obtain ⟨hl, h1⟩ := h1
    refine ⟨by rw [← r1.length]; exact hl, fun x dx hx hdx ne => ?_⟩
    have f0 := Fr.laid (o := .own x) s1 hdx
    have s2 := s1.laid (o := .own x) hdx
    have hx' : upd H1 dx (.own x) x = none := by rw [upd_ne ne.symm]; exact hx
    have f2 := Fr.laidM (o := .ins C dx []) (d := .ins C [] []) s2 hx'
    have s3 := Sim.laidM (o := .ins C dx []) (d := .ins C [] []) s2 hx' ⟨dx, [], upd_same, rfl, .nil⟩
    refine ⟨permL is (.ref x :: ds), _, _, permL_rep (.cons rep_ref (RepL.mono (f0.trans f2) _ _ r1)) is, s3, h1 x (s1.free hx), fun d m' v H' a1 a2 a3 a4 => ?_⟩
    obtain ⟨rfl, a1⟩ := a1
    exact ⟨by simpa only [Rep] using a4, kq _ m' _ H' a1 (f1.trans ((f0.trans f2).trans a2)) a3 rep_ref⟩
  refine wpAny_Call_Name_kw (ld_glob I hg hm ?_ hd)
  refine PySem.W.callWith_KW0 (first := []) (h₀ := X.base) I.ok.mod.kin M0.kp hall (thn (ha.run.run pos pins s σ H _ I h0) fun us s2 hx2 => ?_) hpl
  obtain ⟨zs, H2, I2, r, hl, q2⟩ := hx2
  rw [hks]
  exact ⟨I2.kIn, run_makeGK M0 F hr pass0 I2 r hl q2⟩
end
end DL
/-! ### DL31: defs with defaults -/
namespace DL
open PySem PySem.Spec PyProof.Rows L2
/-- a def whose last parameters have defaults -/
structure FunV (K : PySem.W.Frag) (x qual : Str) (st : Stmt) (dvs : List V) (f : Addr) (fd : FuncData) : Prop where
  ex : ∃ (oc : Value) (od : Option Addr) (T : Addr) (kV doc pm : Value) (an : Option Addr) (cdv ct : Value) (osl : Array (Option Value)) (o : Obj) (its : List Value) (n : Nat),
    fd = PySem.W.fnOf x qual (defArgs st) (defBody st) (defScope st) (.ref T) kV doc pm an cdv ct ∧ K.lookup f = some ⟨oc, od, .func fd, osl⟩ ∧ PySem.W.codeIn K cdv qual = true ∧ K.lookup T = some o ∧ o.data = .seq its.toArray n ∧ Vals dvs its
section
variable {P : Program} {w : World} {K : PySem.W.Frag} {mg : Str → Option Value} {base : Heap}
theorem fn_mkV {x qual : Str} {st : Stmt} {f : Addr} {fd : FuncData} {N ps : List Str} {k n j : Nat} {sp : DSp} {t : DTS} {dvs : List V} {dds : List D} (F : FunV K x qual st dvs f fd) (S : FnScope N ps (defScope st)) (hd : ∀ m H, RepL K m H dds dvs)
    (hb : ∀ (T : Addr) (kV doc pm : Value) (an : Option Addr) (cdv ct : Value) (us its : List Value), us.length = n → its.length = dvs.length →
      ∃ k, bindArgs (PySem.W.fnOf x qual (defArgs st) (defBody st) (defScope st) (.ref T) kV doc pm an cdv ct) ⟨us, []⟩ = seqItems? (.ref T) >>= k ∧ k (some its.toArray) = pure (ps.zip (us ++ its.drop j)))
    (hn : ∀ ds m R, sp ds m R → ds.length = n) (hl : n + (dvs.length - j) = ps.length)
    (hbody : ∀ (cdv : Value) (A : Around) (outer : List PySem.Env) (s : Shared) (H : Hp) (E : XK), RoomG k (A.deeper (envOfC qual (defScope st) s.heap.objs.size f cdv)) → DSs (cxOf CX0 P w K mg base N qual (defScope st) f cdv A outer s H E).nox (defBody st) t)
    (hsp : ∀ ds m R, sp ds m R → t (startD N.length (ds ++ dds.drop j)) m (bodyEnds R)) : FnG P w K mg base CX0 (k + 1) f (liftSp K sp) := by
  obtain ⟨oc, od, T, kV, doc, pm, an, cdv, ct, osl, o, its, nn, rfl, lk, hcd, lT, oT, rT⟩ := F.ex
  intro A outer s H us vs Q E hr e0 rv ⟨ds, m, R, r, sm, q, kq⟩
  have lv : vs.length = n := by rw [← r.length]; exact hn _ _ _ q
  have kin : K.In s.heap := e0.mod.kin.keeps fun b o e => (e0.bs b o e).1
  obtain ⟨kk, e1, e2⟩ := hb T kV doc pm an cdv ct us its (by rw [← rv.length]; exact lv) rT.length.symm
  have hb1 : BindsTo s (PySem.W.fnOf x qual (defArgs st) (defBody st) (defScope st) (.ref T) kV doc pm an cdv ct) ⟨us, []⟩ (ps.zip (us ++ its.drop j)) := BindsTo.of_looks fun M => by
    rw [e1]
    exact looks_items kin lT oT (.of_pure e2)
  have lz : (vs ++ dvs.drop j).length = ps.length := by rw [List.length_append, List.length_drop, lv]; exact hl
  refine StX.run_bnd lk hcd S hr.r e0 (G := fun xs H2 => xs = vs ++ dvs.drop j ∧ H2 = H) (fun A' Ex Q' h => hb1 _ _ _ _ (h s H (vs ++ dvs.drop j) (us ++ its.drop j) e0 Un.refl rfl (fun _ _ z => z) (rv.append (rT.drop j)) lz ⟨rfl, rfl⟩)) fun s2 H2 xs g hr' => ?_
  obtain ⟨rfl, rfl⟩ := g
  exact ⟨_, (hbody cdv A outer s2 _ E ⟨hr', hr.g⟩).run.nox, body_lift (ds := ds ++ dds.drop j) (RepL.append r ((hd m H2).drop j)) sm (hsp _ _ _ q) kq⟩
/-- by names: all parameters are given -/
theorem fn_mkVK {x qual : Str} {st : Stmt} {f : Addr} {fd : FuncData} {N ps ks : List Str} {is : List Nat} {n k : Nat} {sp : DSp} {t : DTS} {dvs : List V} (F : FunV K x qual st dvs f fd) (S : FnScope N ps (defScope st))
    (hb : ∀ (T : Addr) (kV doc pm : Value) (an : Option Addr) (cdv ct : Value) (us its ws : List Value), us.length = n → its.length = dvs.length → ws.length = ks.length →
      ∃ k, bindArgs (PySem.W.fnOf x qual (defArgs st) (defBody st) (defScope st) (.ref T) kV doc pm an cdv ct) ⟨us, ks.zip ws⟩ = seqItems? (.ref T) >>= k ∧ k (some its.toArray) = pure (ps.zip (permL is (us ++ ws))))
    (hn : ∀ ds m R, sp ds m R → ds.length = ps.length)
    (hbody : ∀ (cdv : Value) (A : Around) (outer : List PySem.Env) (s : Shared) (H : Hp) (E : XK), RoomG k (A.deeper (envOfC qual (defScope st) s.heap.objs.size f cdv)) → DSs (cxOf CX0 P w K mg base N qual (defScope st) f cdv A outer s H E).nox (defBody st) t)
    (hsp : ∀ ds m R, sp ds m R → t (startD N.length ds) m (bodyEnds R)) : FnGK P w K mg base CX0 (k + 1) f n ks is (liftSp K sp) := by
  obtain ⟨oc, od, T, kV, doc, pm, an, cdv, ct, osl, o, its, nn, rfl, lk, hcd, lT, oT, rT⟩ := F.ex
  intro A outer s H us ws vs zs Q E hr e0 rv rz ln lz ⟨ds, m, R, r, sm, q, kq⟩
  have kin : K.In s.heap := e0.mod.kin.keeps fun b o e => (e0.bs b o e).1
  obtain ⟨kk, e1, e2⟩ := hb T kV doc pm an cdv ct us its ws (by rw [← rv.length]; exact ln) rT.length.symm (by rw [← rz.length]; exact lz)
  have hb1 : BindsTo s (PySem.W.fnOf x qual (defArgs st) (defBody st) (defScope st) (.ref T) kV doc pm an cdv ct) ⟨us, ks.zip ws⟩ (ps.zip (permL is (us ++ ws))) := BindsTo.of_looks fun M => by
    rw [e1]
    exact looks_items kin lT oT (.of_pure e2)
  have rp := permL_vals (rv.append rz) is
  have hl : (permL is (vs ++ zs)).length = ps.length := by rw [← r.length]; exact hn _ _ _ q
  refine StX.run_bnd lk hcd S hr.r e0 (G := fun xs H2 => xs = permL is (vs ++ zs) ∧ H2 = H) (fun A' Ex Q' h => hb1 _ _ _ _ (h s H _ _ e0 Un.refl rfl (fun _ _ z => z) rp hl ⟨rfl, rfl⟩)) fun s2 H2 xs g hr' => ?_
  obtain ⟨rfl, rfl⟩ := g
  exact ⟨_, (hbody cdv A outer s2 _ E ⟨hr', hr.g⟩).run.nox, body_lift r sm (hsp _ _ _ q) kq⟩
end
end DL
/-! ### DL32: defs that say super() -/
namespace DL
open PySem PySem.Spec PyProof.Rows L2
abbrev envS (qual : Str) (scope : Scope) (L f : Addr) (cd : Value) (cc : Addr) : PySem.Env := PySem.W.ksEnv qual scope L f cd cc
/-- the context of the body of a def that holds the cell __class__ -/
def cxS (CX : CXT) (P : Program) (w : World) (K : PySem.W.Frag) (mg : Str → Option Value) (base : Heap) (N : List Str) (qual : Str) (scope : Scope) (f cc : Addr) (cd : Value) (A : Around) (outer : List PySem.Env) (s : Shared) (H : Hp) (E : XK) : Cx where
  prog := P
  w := w
  K := K
  mg := mg
  base := base
  A := A.deeper (envS qual scope s.heap.objs.size f cd cc)
  N := N
  s_0 := s
  H_0 := H
  env := envS qual scope s.heap.objs.size f cd cc
  outer := outer
  stack := envS qual scope s.heap.objs.size f cd cc :: outer
  ex := []
  calm := true
  fn := fun _ => false
  pn := []
  xe := fun e s' => wpAny (model P w) (A.deeper (envS qual scope s.heap.objs.size f cd cc)) (leaving (envS qual scope s.heap.objs.size f cd cc) e) (fun _ s'' => CX outer H s E e s'') (fun e' s'' => CX outer H s E e' s'') s'
structure SScope (N P : List Str) (sc : Scope) : Prop where
  kind : sc.kind = .function
  co : sc.isCoroutine = false
  gen : sc.isGenerator = false
  nd : N.Nodup
  pre : N.take P.length = P
  par : ∀ x ∈ P, sc.names.lookup x = some .local
  nocell : ∀ y ∈ sc.names, y.2 ≠ .cell
  free : ∀ y ∈ sc.names, y.2 = .free → y.1 = "__class__"
theorem zip_fst : ∀ (ps : List Str) (us : List Value), ((ps.zip us).map (·.1)).Sublist ps
  | [], _ => by simp
  | _ :: _, [] => by simp
  | p :: ps, u :: us => by
    rw [List.zip_cons_cons, List.map_cons]
    exact (zip_fst ps us).cons₂ p
theorem rev_look : ∀ {ps : List Str} {us : List Value} {i : Nat} {x : Str} {u : Value}, ps.Nodup → ps[i]? = some x → us[i]? = some u → (ps.zip us).reverse.lookup x = some u := by
  intro ps us i x u nd h1 h2
  have hz : (ps.zip us)[i]? = some (x, u) := by
    rw [List.getElem?_zip_eq_some]; exact ⟨h1, h2⟩
  have hm : (x, u) ∈ (ps.zip us).reverse := List.mem_reverse.mpr (List.mem_of_getElem? hz)
  have hnd : (((ps.zip us).reverse).map (·.1)).Nodup := by
    rw [List.map_reverse]
    refine (List.reverse_perm _).nodup_iff.mpr ?_
    exact nd.sublist (zip_fst ps us)
  generalize (ps.zip us).reverse = l at hm hnd
  induction l with
  | nil => cases hm
  | cons q l ih =>
    obtain ⟨y, v⟩ := q
    simp only [List.map_cons, List.nodup_cons] at hnd
    rcases List.mem_cons.mp hm with e | hm
    · cases e; simp
    · have : (x == y) = false := by
        refine beq_eq_false_iff_ne.mpr fun e => hnd.1 ?_
        rw [← e]; exact List.mem_map_of_mem (f := (·.1)) hm
      simp only [List.lookup, this]
      exact ih hm hnd.2
theorem inv_startS {CX : CXT} {P : Program} {w : World} {K : PySem.W.Frag} {mg : Str → Option Value} {base : Heap} {N ps : List Str} {qual : Str} {scope : Scope} {f cc : Addr} {cd : Value} {A : Around} {outer : List PySem.Env} {s : Shared} {h1 : Heap} {tk : Nat} {H : Hp} {E : XK} {us : List Value} {vs : List V} {oc : Obj} {cv : Option Value}
    (S : SScope N ps scope) (hd : A.handled = none) (e0 : Env0 P w K mg base A outer s H) (hl : vs.length = ps.length) (r : Vals vs us) (hcc : base.get? cc = some oc) (hcv : oc.data = .cell cv)
    (hns : h1.Ns s.heap.objs.size fun y => (ps.zip us).reverse.lookup y) (kp : ∀ b o, s.heap.get? b = some o → h1.get? b = some o) :
    Inv (cxS CX P w K mg base N qual scope f cc cd A outer s H E) [] (L2.start N vs) H { s with heap := h1, toks := tk } := by
  have hpl : ps.length ≤ N.length := by have := congrArg List.length S.pre; rw [List.length_take] at this; omega
  have noA : ∀ b : Addr, b ∉ (cxS CX P w K mg base N qual scope f cc cd A outer s H E).ex := fun b z => absurd (show b ∈ ([] : List Addr) from z) (by simp)
  have cell1 : ∀ {y : Str} {c : Addr}, [(("__class__" : Str), cc)].lookup y = some c → y = "__class__" ∧ c = cc := fun {y c} e => by
    simp only [List.lookup] at e
    split at e
    · rename_i q
      exact ⟨by simpa using q, by cases e; rfl⟩
    · cases e
  refine ⟨⟨e0.mod, S.kind, rfl, rfl, Nat.le_refl _, fun y z c h1 h2 => (cell1 h1).1.trans (cell1 h2).1.symm, fun y hy => ?_, fun y c z _ => ?_, fun _ => hd, Around.frames_deeper e0.frames, .inr ⟨rfl, rfl⟩, fun b z => absurd z (noA b), e0.bs, e0.bsz, fun b _ _ => noA b, fun b z => absurd z (noA b), e0.funs, e0.frf⟩,
    rfl, e0.bare, Un.kept kp, ⟨_, hns, fun i y v a1 a2 a3 => ?_⟩, fun y c h => ?_, e0.hok.fresh (Nat.le_refl _), fun y c h => ?_, fun p hp => absurd (show p ∈ ([] : List (Addr × Obj)) from hp) (by simp), e0.hok.kept kp, ?_⟩
  · have hy : scope.names.lookup y = some .cell ∨ scope.names.lookup y = some .free := hy
    rcases hy with hy | hy
    · exact absurd rfl (S.nocell _ (PySem.mem_of_lookup hy))
    · have e := S.free _ (PySem.mem_of_lookup hy) rfl
      have e : y = "__class__" := e
      subst e
      refine ⟨cc, ?_⟩
      show List.lookup ("__class__" : Str) [(("__class__" : Str), cc)] = some cc
      simp [List.lookup]
  · have z : false = true := z
    cases z
  · have hi : i < vs.length := by
      unfold L2.start at a2
      by_cases hi : i < vs.length
      · exact hi
      · rw [List.getElem?_append_right (by simpa using hi)] at a2
        rw [List.getElem?_replicate] at a2
        split at a2 <;> cases a2
    have ha : vs[i]? = some v := by
      unfold L2.start at a2
      rw [List.getElem?_append_left (by simpa using hi), List.getElem?_map] at a2
      cases e : vs[i]? with
      | none => rw [e] at a2; cases a2
      | some a => rw [e] at a2; cases a2; rfl
    obtain ⟨u, hu, rv⟩ := r.get ha
    have hp : ps[i]? = some y := by
      rw [← S.pre, List.getElem?_take_of_lt (by omega)]; exact a1
    have ndP : ps.Nodup := by rw [← S.pre]; exact S.nd.sublist (List.take_sublist _ _)
    exact ⟨u, rv, .inl ⟨S.par y (List.mem_of_getElem? hp), rev_look ndP hp hu⟩⟩
  · obtain ⟨_, rfl⟩ := cell1 h
    obtain ⟨b1, _⟩ := e0.bs _ _ hcc
    exact ⟨cv, oc, kp _ _ b1, hcv⟩
  · obtain ⟨_, rfl⟩ := cell1 h
    exact (e0.bs _ _ hcc).2
  · unfold L2.start
    show _ = N.length
    rw [List.length_append, List.length_map, List.length_replicate]
    omega
end DL
/-! ### DL33: super().__init__(..) as the first statement of an own __init__ -/
namespace DL
open PySem PySem.Spec PyProof.Rows L2
/-- a def that holds the cell __class__ with the class at D -/
structure FunS (K : PySem.W.Frag) (x qual : Str) (st : Stmt) (CD : Addr) (file : Str) (f cc cda : Addr) (fd : FuncData) : Prop where
  ex : ∃ (oc : Value) (od : Option Addr) (kV doc pm : Value) (an : Option Addr) (ct : Value) (osl : Array (Option Value)),
    fd = PySem.W.ksFn x qual (defArgs st) (defBody st) (defScope st) .none kV doc pm an (.ref cda) ct cc ∧ K.lookup f = some ⟨oc, od, .func fd, osl⟩
  cd : PySem.W.codeIn K (.ref cda) qual = true
  code : ∃ (c : Value) (d : Option Addr) (vs : Array Value) (sl : Array (Option Value)) (tf : Tok), K.lookup cda = some ⟨c, d, .fields vs, sl⟩ ∧ vs[2]? = some (.str file tf)
  cell : ∃ (c : Value) (d : Option Addr) (sl : Array (Option Value)), K.lookup cc = some ⟨c, d, .cell (some (.ref CD)), sl⟩
/-- super().name of an instance of C, within a def of D: the def at g -/
structure SupOk (K : PySem.W.Frag) (mg : Str → Option Value) (C CD g : Addr) (name : Str) : Prop where
  cls : ∃ cd, PySem.W.clsIn K CD = some cd
  sub : PySem.W.mroIn K C (.ref CD) = some true
  at_ : PySem.W.ks_superIn K C CD name = some (some (.ref g))
  ty : PySem.W.typeIn K (.ref g) = some (.type "function")
  fn : PySem.W.fnIn K g = true
  opq : PySem.W.nsIn K cStatics "thirdparty.any" = some none
  nosup : mg "super" = none
def tSup (C : Addr) (sp2 : DSp) (tA : DTA) (tR : DTS) : DTS := fun env m E => ∃ x ns vs, env[0]? = some (some (.ref x)) ∧ m x = some (.ins C ns vs) ∧ tA env m fun ds m1 => sp2 (.ref x :: ds) m1 fun _ m2 => tR env m2 E
section
variable {P : Program} {w : World} {K : PySem.W.Frag} {mg : Str → Option Value} {base : Heap}
theorem super_run {x qual : Str} {st : Stmt} {f cc cda C CD g : Addr} {fd : FuncData} {file : Str} {N ps : List Str} {self : Str} {ar : Arg} {k : Nat} {sp2 : DSp} {tA : DTA} {tR : DTS} {e : Expr} {es : List Expr} {rest : List Stmt} {p0 p1 p2 p3 p4 : Pos}
    (F : FunS K x qual st CD file f cc cda fd) (S : SScope N ps (defScope st)) (hself : N[0]? = some self) (hloc0 : (defScope st).names.lookup self = some .local) (har : ((defArgs st).posonlyargs ++ (defArgs st).args).head? = some ar) (hars : ar.arg = self)
    (hsn : (defScope st).names.lookup ("super" : Str) = some .globalImplicit) (hcn : (defScope st).names.lookup ("__class__" : Str) = some .free)
    (hst : defBody st = .Expr (.Call (.Attribute (.Call (.Name "super" p0) [] [] p1) "__init__" p2) (e :: es) [] p3) p4 :: rest)
    (hfile : ((P.main.file : Str) == file) = true) (htop : (P.main.scope.names.lookup ("super" : Str)).isSome = false)
    (U : SupOk K mg C CD g "__init__") (G : FnG P w K mg base CX0 k g (liftSp K sp2))
    {A : Around} {outer : List PySem.Env} {s : Shared} {H : Hp} {args : Args} {us : List Value} {vs : List V} {Q : VK} {E : XK} {ds : List D} {m : M} {R : DK}
    (hA : DA (cxS CX0 P w K mg base N qual (defScope st) f cc (.ref cda) A outer s H E) (e :: es) tA) (hR : DSs (cxS CX0 P w K mg base N qual (defScope st) f cc (.ref cda) A outer s H E).nox rest tR)
    (hi : ∀ L, interactive (envS qual (defScope st) L f (.ref cda) cc) = false) (hsw : ∀ L, swapsWith (.Call (.Attribute (.Call (.Name "super" p0) [] [] p1) "__init__" p2) (e :: es) [] p3) none p4.line (envS qual (defScope st) L f (.ref cda) cc) = pure false)
    (hse : ∀ L, starEach (e :: es) (envS qual (defScope st) L f (.ref cda) cc) = (false, eval e (envS qual (defScope st) L f (.ref cda) cc)) :: starEach es (envS qual (defScope st) L f (.ref cda) cc)) (hpl : ∀ L, (backTo p3 (starEach es (envS qual (defScope st) L f (.ref cda) cc))).any (·.1) = false)
    {pl : Sem Bool} (hev : ∀ L, eval (.Call (.Attribute (.Call (.Name "super" p0) [] [] p1) "__init__" p2) (e :: es) [] p3) (envS qual (defScope st) L f (.ref cda) cc) = (do
      let ov ← attributeBase (.Call (.Name "super" p0) [] [] p1) "__init__" (envS qual (defScope st) L f (.ref cda) cc) (eval (.Call (.Name "super" p0) [] [] p1) (envS qual (defScope st) L f (.ref cda) cc))
      standAt p2.atName
      let (fn, first) ← holding [ov] (getMethod ov "__init__" pl)
      callWith p3 fn first (backTo p3 (starEach (e :: es) (envS qual (defScope st) L f (.ref cda) cc))) []))
    (hr : RoomG (k + 1) A) (e0 : Env0 P w K mg base A outer s H) (rv : Vals vs us) (hl : vs.length = ps.length) (hb : BindsTo s fd args (ps.zip us))
    (r : RepL K m H ds vs) (sm : Sim K m H) (q : tSup C sp2 tA tR (startD N.length ds) m (bodyEnds R)) (kq : ∀ d m' v H', R d m' → Fr m H m' H' → Sim K m' H' → Rep K m' H' d v → Q v H') :
    codeAny (model P w) A (.call (.ref f) args) (CR CX0 outer P w H s Q E) s := by
  obtain ⟨oc, od, kV, doc, pm, an, ct, osl, rfl, lk⟩ := F.ex
  have kin : K.In s.heap := e0.mod.kin.keeps fun b o e => (e0.bs b o e).1
  have lim : s.heap.NoLimit := e0.mod.nolimit.keeps fun b o e => (e0.bs b o e).1
  obtain ⟨ccl, ccd, ccs, hcell⟩ := F.cell
  obtain ⟨dcl, dcd, dvs, dsl, tf, hcode, hvs⟩ := F.code
  refine ks_codeAny_call_defAt hr.r.depth (kin _ _ lk) rfl lim (PySem.W.codeRec_of kin F.cd) rfl hb S.nocell (fun y hy => S.par y.1 (List.of_mem_zip hy).1) (fun h1 hns kp => ?_) S.co S.gen S.kind
  have J : Inv (cxS CX0 P w K mg base N qual (defScope st) f cc (.ref cda) A outer s H E) [] (L2.start N vs) H { s with heap := h1, toks := s.toks + (ps.zip us).length } :=
    inv_startS S hr.r.hd e0 hl rv (e0.mod.kin _ _ hcell) rfl hns kp
  have EO : EnvOk K m H (L2.start N vs) (startD N.length ds) := EnvOk.start r
  obtain ⟨a, ns, fvs, ea, em, qA⟩ := q
  obtain ⟨va, eva, ra⟩ := EO.get 0 _ ea
  simp only [Rep] at ra
  subst ra
  obtain ⟨dx, fs, hH, _, _⟩ := sm a _ em
  have hr' : RoomG k (A.deeper (envS qual (defScope st) s.heap.objs.size f (.ref cda) cc)) := ⟨hr.r.deeper _, hr.g⟩
  suffices goal2 : _root_.PySem.wpAt (model P w) (A.deeper (envS qual (defScope st) s.heap.objs.size f (.ref cda) cc)) (.func (defBody st) (envS qual (defScope st) s.heap.objs.size f (.ref cda) cc)) (execs (defBody st) (envS qual (defScope st) s.heap.objs.size f (.ref cda) cc))
      (fun fl s' => CR CX0 outer P w H s Q E (.ok (.ret (match fl with | .ret v => v | _ => .none))) s')
      (fun e s' => wpAny (model P w) (A.deeper (envS qual (defScope st) s.heap.objs.size f (.ref cda) cc)) (leaving (envS qual (defScope st) s.heap.objs.size f (.ref cda) cc) e) (fun _ s'' => CR CX0 outer P w H s Q E (.error e) s'') (fun e' s'' => CR CX0 outer P w H s Q E (.error e') s'') s')
      { s with heap := h1, toks := s.toks + (ps.zip us).length } by
    exact goal2
  rw [hst]
  refine ks_wpAt_execs_cons (ks_wpAt_Expr_any (ks_wpAt_MethodCall ?_ (hev _)) (hi _) (hsw _))
  -- the loads
  obtain ⟨ml, hml, hlk⟩ := J.loc
  obtain ⟨u0, ru0, lk0⟩ := hlk 0 self (.ref a) hself eva (.inl hloc0)
  obtain rfl : u0 = Value.ref a := ru0
  have hlv : ml self = some (.ref a) := by
    rcases lk0 with ⟨_, z⟩ | ⟨z, _⟩
    · exact z
    · have z' : (defScope st).names.lookup self = some .cell ∨ (defScope st).names.lookup self = some .free := z
      rw [hloc0] at z'
      rcases z' with z' | z' <;> cases z'
  obtain ⟨mA, O, _, _, _, _⟩ := ins_get J.hok hH
  obtain ⟨odx, I0, _⟩ := O.look
  obtain ⟨cdD, hcD⟩ := U.cls
  have X := J.kIn
  obtain ⟨oD, hD1, hD2⟩ : ∃ oD, h1.get? CD = some oD ∧ oD.data = .cls cdD := by
    unfold PySem.W.clsIn at hcD
    split at hcD
    · rename_i z ho
      cases hcD
      exact ⟨_, X _ _ ho, rfl⟩
    · cases hcD
  obtain ⟨mb, hmb, hbt⟩ := J.mod.blt
  refine ks_wpAt_super_base (env := envS qual (defScope st) s.heap.objs.size f (.ref cda) cc) hsn hcn (by decide) rfl (X _ _ lk) rfl har rfl (X _ _ hcode) rfl hvs hfile htop ?_
  refine PySem.W.ks_loadName_global S.kind hsn (Calls.loadGlobal_builtin (env := envS qual (defScope st) s.heap.objs.size f (.ref cda) cc) (J.mod.glob.keeps J.bk) U.nosup (hmb.keeps J.bk) ((hbt _ (by decide)).trans (by rfl)) ⟨rfl, ?_⟩)
  refine wpAny_loadName_free S.kind hcn rfl ⟨_, X _ _ hcell, rfl⟩ ?_
  rw [hars]
  refine wpAny_loadName_local S.kind hloc0 hml hlv ?_
  refine ks_wpAny_isType_cls hD1 hD2 ⟨rfl, ?_⟩
  refine ks_wpAny_call_super hD1 hD2 I0.at_ I0.cls (fun c e => ?_) (PySem.W.looks_mroIn X U.sub) (fun h2 e2 k2 => ?_)
  · cases e
  have J2 := J.kept (h' := h2) (t' := s.toks + (ps.zip us).length) k2
  have X2 : K.In h2 := J2.kIn
  obtain ⟨mA2, O2, _⟩ := ins_get J2.hok hH
  obtain ⟨od2, I2, _⟩ := O2.look
  obtain ⟨gcl, god, gdt, gsl, glk, gty⟩ : ∃ c d dt sl, K.lookup g = some ⟨c, d, dt, sl⟩ ∧ c = .type "function" := by
    have t := U.ty
    unfold PySem.W.typeIn at t
    dsimp only at t
    cases z : K.lookup g with
    | none => rw [z] at t; cases t
    | some o =>
      rw [z] at t
      exact ⟨o.cls, o.dict, o.data, o.slots, rfl, Option.some.inj t⟩
  obtain ⟨cdC, hcC, hal⟩ : ∃ cd, PySem.W.clsIn K C = some cd ∧ PySem.W.alongIn K "__init__" ((cd.mro.dropWhile (· != .ref CD)).drop 1) = some (some (.ref g)) := by
    have t := U.at_
    unfold PySem.W.ks_superIn at t
    exact Option.bind_eq_some_iff.mp t
  refine ks_wpAny_getMethod_super e2 (PySem.W.looks_opaque X2 U.opq) ((PySem.W.looks_clsIn X2 hcC).andThen .now) rfl X2 hal (X2 _ _ glk) gty (PySem.W.ks_ne X2 I2 hcC) (by decide) ?_
  have hq : H h2.objs.size = none := J2.hok.fresh (Nat.le_refl _)
  have J3 := J2.laid (t' := s.toks + (ps.zip us).length + 1) (a := h2.objs.size) (o := .met g a) (fun b u z => Heap.get?_push_of_some (PySem.W.methodObj (.ref g) (.ref a)) z) (Nat.le_refl _)
    (Heap.get?_push_size h2 rfl)
  have f3 := Fr.laid (o := HO.met g a) sm hq
  refine callwith_met (X := cxS CX0 P w K mg base N qual (defScope st) f cc (.ref cda) A outer s H E) (g := g) (a := a) ?_ U.fn ?_
  · rw [hse]
    show ((false || (backTo p3 (starEach es (envS qual (defScope st) s.heap.objs.size f (.ref cda) cc))).any (·.1)) || false) = false
    rw [hpl]; rfl
  have hrun := hA.run.run p3 [] _ (L2.start N vs) (upd H h2.objs.size (.met g a)) (fun zs H4 => H4 h2.objs.size = some (.met g a) ∧ liftSp K sp2 (V.ref a :: zs) H4 (fun _ H5 => ∃ env m5 R5, EnvOk K m5 H5 (L2.start N vs) env ∧ Sim K m5 H5 ∧ tR env m5 R5 ∧ (R5 = bodyEnds R) ∧ Fr m H m5 H5) E0) J3
    ⟨startD N.length ds, m, _, EO.mono f3, sm.laid hq, qA, fun d4 m4 v4 H4 a1 a2 a3 a4 => ⟨?_, .ref a :: d4, m4, _, .cons rep_ref a4, a3, a1, fun d5 m5 v5 H5 b1 b2 b3 b4 => ⟨_, m5, _, EO.mono ((f3.trans a2).trans b2), b3, b1, rfl, (f3.trans a2).trans b2⟩⟩⟩
  rotate_left
  · obtain ⟨_, u', e3, e4⟩ := a2 h2.objs.size _ (sm.free hq) upd_same
    rw [e3, e4.met]
  have hse1 : starEach (e :: es) (cxS CX0 P w K mg base N qual (defScope st) f cc (.ref cda) A outer s H E).env = (false, eval e (cxS CX0 P w K mg base N qual (defScope st) f cc (.ref cda) A outer s H E).env) :: starEach es (cxS CX0 P w K mg base N qual (defScope st) f cc (.ref cda) A outer s H E).env := hse _
  rw [hse1] at hrun
  rw [hse]
  refine Calls.evalArgs_plain (thn hrun fun us4 s4 hx4 => ?_)
  obtain ⟨zs, H4, J4, rz, hm4, hsp⟩ := hx4
  refine ⟨met_P J4 hm4, ?_⟩
  refine thn (wpAny_call (PySem.W.method_call (met_P J4 hm4).1 (run_fnC (us := Value.ref a :: us4) (vs := V.ref a :: zs) G hr' pass0 J4 (.cons rfl rz) hsp))) fun u5 s5 hx5 => ?_
  obtain ⟨v5, H5, J5, r5, env5, m5, R5, EO5, S5, h5, rfl, f5⟩ := hx5
  refine wpAt_of_wpAny ?_
  have hrest := (hR.run.nox).run [] s5 (L2.start N vs) H5 { nx := fun _ H' => Q .non H', rt := Q } J5
    ⟨env5, m5, _, EO5, S5, h5, fun env' m' σ' H' a1 a2 a3 a4 => kq .non m' .non H' a1 (f5.trans a4) a3 rep_non, fun d m' v H' a1 a2 a3 a4 => kq d m' v H' a1 (f5.trans a2) a3 a4, fun _ _ _ _ z => z.elim, fun _ _ _ _ z => z.elim⟩
  refine wpAny_mono hrest (fun fl s' hs => ?_) fun e s' hs => hs
  cases fl with
  | ret u =>
    obtain ⟨v, σ', H', J6, rv6, q6⟩ := hs
    exact ⟨v, H', J6.os, J6.bare, J6.base, J6.hok, rv6, q6⟩
  | next =>
    obtain ⟨σ', H', J6, q6⟩ := hs
    exact ⟨V.non, H', J6.os, J6.bare, J6.base, J6.hok, rfl, q6⟩
  | brk =>
    obtain ⟨_, _, _, q6⟩ := hs
    exact False.elim q6
  | cont =>
    obtain ⟨_, _, _, q6⟩ := hs
    exact False.elim q6
theorem fn_superK {x qual : Str} {st : Stmt} {f cc cda C CD g : Addr} {fd : FuncData} {file : Str} {N ps : List Str} {self : Str} {ar : Arg} {k : Nat} {sp sp2 : DSp} {tA : DTA} {tR : DTS} {e : Expr} {es : List Expr} {rest : List Stmt} {p0 p1 p2 p3 p4 : Pos} {pl : Sem Bool}
    (F : FunS K x qual st CD file f cc cda fd) (S : SScope N ps (defScope st)) (hself : N[0]? = some self) (hloc0 : (defScope st).names.lookup self = some .local) (har : ((defArgs st).posonlyargs ++ (defArgs st).args).head? = some ar) (hars : ar.arg = self)
    (hsn : (defScope st).names.lookup ("super" : Str) = some .globalImplicit) (hcn : (defScope st).names.lookup ("__class__" : Str) = some .free)
    (hst : defBody st = .Expr (.Call (.Attribute (.Call (.Name "super" p0) [] [] p1) "__init__" p2) (e :: es) [] p3) p4 :: rest)
    (hfile : ((P.main.file : Str) == file) = true) (htop : (P.main.scope.names.lookup ("super" : Str)).isSome = false)
    (U : SupOk K mg C CD g "__init__") (G : FnG P w K mg base CX0 k g (liftSp K sp2))
    (hA : ∀ (A : Around) (outer : List PySem.Env) (s : Shared) (H : Hp) (E : XK), DA (cxS CX0 P w K mg base N qual (defScope st) f cc (.ref cda) A outer s H E) (e :: es) tA)
    (hR : ∀ (A : Around) (outer : List PySem.Env) (s : Shared) (H : Hp) (E : XK), RoomG k (A.deeper (envS qual (defScope st) s.heap.objs.size f (.ref cda) cc)) → DSs (cxS CX0 P w K mg base N qual (defScope st) f cc (.ref cda) A outer s H E).nox rest tR)
    (hi : ∀ L, interactive (envS qual (defScope st) L f (.ref cda) cc) = false) (hsw : ∀ L, swapsWith (.Call (.Attribute (.Call (.Name "super" p0) [] [] p1) "__init__" p2) (e :: es) [] p3) none p4.line (envS qual (defScope st) L f (.ref cda) cc) = pure false)
    (hse : ∀ L, starEach (e :: es) (envS qual (defScope st) L f (.ref cda) cc) = (false, eval e (envS qual (defScope st) L f (.ref cda) cc)) :: starEach es (envS qual (defScope st) L f (.ref cda) cc)) (hpl : ∀ L, (backTo p3 (starEach es (envS qual (defScope st) L f (.ref cda) cc))).any (·.1) = false)
    (hev : ∀ L, eval (.Call (.Attribute (.Call (.Name "super" p0) [] [] p1) "__init__" p2) (e :: es) [] p3) (envS qual (defScope st) L f (.ref cda) cc) = (do
      let ov ← attributeBase (.Call (.Name "super" p0) [] [] p1) "__init__" (envS qual (defScope st) L f (.ref cda) cc) (eval (.Call (.Name "super" p0) [] [] p1) (envS qual (defScope st) L f (.ref cda) cc))
      standAt p2.atName
      let (fn, first) ← holding [ov] (getMethod ov "__init__" pl)
      callWith p3 fn first (backTo p3 (starEach (e :: es) (envS qual (defScope st) L f (.ref cda) cc))) []))
    (hn : ∀ ds m R, sp ds m R → ds.length = ps.length) (hsp : ∀ ds m R, sp ds m R → tSup C sp2 tA tR (startD N.length ds) m (bodyEnds R))
    {ks : List Str} {is : List Nat} {n : Nat} (hb : ∀ (kV doc pm : Value) (an : Option Addr) (ct : Value) (us ws : List Value), us.length = n → ws.length = ks.length → bindArgs (PySem.W.ksFn x qual (defArgs st) (defBody st) (defScope st) .none kV doc pm an (.ref cda) ct cc) ⟨us, ks.zip ws⟩ = pure (ps.zip (permL is (us ++ ws)))) :
    FnGK P w K mg base CX0 (k + 1) f n ks is (liftSp K sp) := by
  intro A outer s H us ws vs zs Q E hr e0 rv rz ln lz ⟨ds, m, R, r, sm, q, kq⟩
  have rp := permL_vals (rv.append rz) is
  have hl : (permL is (vs ++ zs)).length = ps.length := by rw [← r.length]; exact hn _ _ _ q
  have hb1 : BindsTo s fd ⟨us, ks.zip ws⟩ (ps.zip (permL is (us ++ ws))) := by
    obtain ⟨oc, od, kV, doc, pm, an, ct, osl, rfl, lk⟩ := F.ex
    exact BindsTo.of_eq (hb kV doc pm an ct us ws (by rw [← rv.length]; exact ln) (by rw [← rz.length]; exact lz))
  exact super_run F S hself hloc0 har hars hsn hcn hst hfile htop U G (hA A outer s H E) (hR A outer s H E ⟨hr.r.deeper _, hr.g⟩) hi hsw hse hpl hev hr e0 rp hl hb1 r sm (hsp _ _ _ q) kq
theorem fn_superG {x qual : Str} {st : Stmt} {f cc cda C CD g : Addr} {fd : FuncData} {file : Str} {N ps : List Str} {self : Str} {ar : Arg} {k : Nat} {sp sp2 : DSp} {tA : DTA} {tR : DTS} {e : Expr} {es : List Expr} {rest : List Stmt} {p0 p1 p2 p3 p4 : Pos} {pl : Sem Bool}
    (F : FunS K x qual st CD file f cc cda fd) (S : SScope N ps (defScope st)) (hself : N[0]? = some self) (hloc0 : (defScope st).names.lookup self = some .local) (har : ((defArgs st).posonlyargs ++ (defArgs st).args).head? = some ar) (hars : ar.arg = self)
    (hsn : (defScope st).names.lookup ("super" : Str) = some .globalImplicit) (hcn : (defScope st).names.lookup ("__class__" : Str) = some .free)
    (hst : defBody st = .Expr (.Call (.Attribute (.Call (.Name "super" p0) [] [] p1) "__init__" p2) (e :: es) [] p3) p4 :: rest)
    (hfile : ((P.main.file : Str) == file) = true) (htop : (P.main.scope.names.lookup ("super" : Str)).isSome = false)
    (U : SupOk K mg C CD g "__init__") (G : FnG P w K mg base CX0 k g (liftSp K sp2))
    (hA : ∀ (A : Around) (outer : List PySem.Env) (s : Shared) (H : Hp) (E : XK), DA (cxS CX0 P w K mg base N qual (defScope st) f cc (.ref cda) A outer s H E) (e :: es) tA)
    (hR : ∀ (A : Around) (outer : List PySem.Env) (s : Shared) (H : Hp) (E : XK), RoomG k (A.deeper (envS qual (defScope st) s.heap.objs.size f (.ref cda) cc)) → DSs (cxS CX0 P w K mg base N qual (defScope st) f cc (.ref cda) A outer s H E).nox rest tR)
    (hi : ∀ L, interactive (envS qual (defScope st) L f (.ref cda) cc) = false) (hsw : ∀ L, swapsWith (.Call (.Attribute (.Call (.Name "super" p0) [] [] p1) "__init__" p2) (e :: es) [] p3) none p4.line (envS qual (defScope st) L f (.ref cda) cc) = pure false)
    (hse : ∀ L, starEach (e :: es) (envS qual (defScope st) L f (.ref cda) cc) = (false, eval e (envS qual (defScope st) L f (.ref cda) cc)) :: starEach es (envS qual (defScope st) L f (.ref cda) cc)) (hpl : ∀ L, (backTo p3 (starEach es (envS qual (defScope st) L f (.ref cda) cc))).any (·.1) = false)
    (hev : ∀ L, eval (.Call (.Attribute (.Call (.Name "super" p0) [] [] p1) "__init__" p2) (e :: es) [] p3) (envS qual (defScope st) L f (.ref cda) cc) = (do
      let ov ← attributeBase (.Call (.Name "super" p0) [] [] p1) "__init__" (envS qual (defScope st) L f (.ref cda) cc) (eval (.Call (.Name "super" p0) [] [] p1) (envS qual (defScope st) L f (.ref cda) cc))
      standAt p2.atName
      let (fn, first) ← holding [ov] (getMethod ov "__init__" pl)
      callWith p3 fn first (backTo p3 (starEach (e :: es) (envS qual (defScope st) L f (.ref cda) cc))) []))
    (hn : ∀ ds m R, sp ds m R → ds.length = ps.length) (hsp : ∀ ds m R, sp ds m R → tSup C sp2 tA tR (startD N.length ds) m (bodyEnds R))
    (hb : ∀ (kV doc pm : Value) (an : Option Addr) (ct : Value) (us : List Value), us.length = ps.length → bindArgs (PySem.W.ksFn x qual (defArgs st) (defBody st) (defScope st) .none kV doc pm an (.ref cda) ct cc) ⟨us, []⟩ = pure (ps.zip us)) :
    FnG P w K mg base CX0 (k + 1) f (liftSp K sp) := by
  intro A outer s H us vs Q E hr e0 rv ⟨ds, m, R, r, sm, q, kq⟩
  have hl : vs.length = ps.length := by rw [← r.length]; exact hn _ _ _ q
  have hb1 : BindsTo s fd ⟨us, []⟩ (ps.zip us) := by
    obtain ⟨oc, od, kV, doc, pm, an, ct, osl, rfl, lk⟩ := F.ex
    exact BindsTo.of_eq (hb kV doc pm an ct us (by rw [← rv.length]; exact hl))
  exact super_run F S hself hloc0 har hars hsn hcn hst hfile htop U G (hA A outer s H E) (hR A outer s H E ⟨hr.r.deeper _, hr.g⟩) hi hsw hse hpl hev hr e0 rv hl hb1 r sm (hsp _ _ _ q) kq
def CalCKW (P : Program) (w : World) (K : PySem.W.Frag) (mg : Str → Option Value) (base : Heap) (C : Addr) (k : Nat) (ks : List Str) (is : List Nat) (sp : DSp) : Prop := ∃ f, Mk K C f ∧ FnGK P w K mg base CX0 k f 1 ks is (liftSp K sp)
def SupW (P : Program) (w : World) (K : PySem.W.Frag) (mg : Str → Option Value) (base : Heap) (C : Addr) (k : Nat) (sp : DSp) : Prop := ∃ g, SupOk K mg C C g "__init__" ∧ FnG P w K mg base CX0 k g (liftSp K sp)
/-- the last parameters by their defaults -/
def spDft (n : Nat) (dds : List D) (sp : DSp) : DSp := fun ds m R => ds.length = n ∧ sp (ds ++ dds) m R
end
end DL
/-! ### DL34: a list put together that is changed later on -/
namespace DL
open PySem PySem.Spec PyProof.Rows L2
def tAddM (ta tb : DTE) : DTE := fun env m Q => ta env m fun x m1 => tb env m1 fun y m2 => ∃ xs ys, look m2 x = .lst xs ∧ look m2 y = .lst ys ∧ xs.length + ys.length ≤ sizeLine ∧ ∀ p, m2 p = none → Q (.ref p) (updM m2 p (.lst (xs ++ ys)))
section
variable {X : Cx} {a b : Expr} {ta tb : DTE} {pos : Pos}
theorem de_addM (ha : DE X a ta) (hb : DE X b tb) : DE X (.BinOp a .Add b pos) (tAddM ta tb) := ⟨PE.weak (pe_op op_cat ha.run hb.run) fun σ H Q h => by
  obtain ⟨env, m, R, eo, s, h, k⟩ := h
  refine ⟨env, m, _, eo, s, h, fun x m1 v H1 h1 f1 s1 r1 => ⟨env, m1, _, eo.mono f1, s1, h1, fun y m2 u H2 h2 f2 s2 r2 => ?_⟩⟩
  obtain ⟨xs, ys, ex, ey, hl, h2⟩ := h2
  have cx := cont_of s2 (Rep.mono f2 _ _ r1)
  have cy := cont_of s2 r2
  rw [ex] at cx
  rw [ey] at cy
  obtain ⟨p1, vs, rfl, z1, q1⟩ := cont_lst cx
  obtain ⟨p2, us, rfl, z2, q2⟩ := cont_lst cy
  exact ⟨p1, p2, vs, us, rfl, rfl, z1, z2, by rw [← q1.length, ← q2.length]; exact hl, fun p hp => k _ _ _ _ (h2 p (s2.free hp)) ((f1.trans f2).trans (Fr.laidM s2 hp)) (new_lstM s2 hp (q1.append q2)) rep_ref⟩⟩
end
end DL
/-! ### DL35: for over a list that may be changed, and is not while it is walked -/
namespace DL
open PySem PySem.Spec PyProof.Rows L2
def forDM (p : Addr) (all : List D) (g : Tgt) (tb : DTS) (E : DEnds) : List D → Env → M → Prop
  | [], env, m => m p = some (.lst all) ∧ E.nx env m
  | d :: ds, env, m => m p = some (.lst all) ∧ tgD g d env m fun env' m' => tb env' m' { E with nx := forDM p all g tb E ds, ct := forDM p all g tb E ds, bk := E.nx }
def tFoM (te : DTE) (g : Tgt) (tb : DTS) : DTS := fun env m E => te env m fun o m1 => ∃ p ds, o = .ref p ∧ m1 p = some (.lst ds) ∧ forDM p ds g tb E ds env m1
theorem forDM_at {p : Addr} {all : List D} {g : Tgt} {tb : DTS} {E : DEnds} {ds : List D} {env : Env} {m : M} (h : forDM p all g tb E ds env m) : m p = some (.lst all) := by
  cases ds with
  | nil => exact h.1
  | cons d ds => exact h.1
section
variable {X : Cx} {tg iter : Expr} {body : List Stmt} {pos : Pos}
theorem itl_at {K : PySem.W.Frag} {m : M} {H : Hp} {p : Addr} {all : List D} (s : Sim K m H) (hp : m p = some (.lst all)) (i : Nat) :
    (∀ d, all[i]? = some d → (Itl K p).go i H ∧ ∀ x H', (Itl K p).yld i H x H' → H' = H ∧ Rep K m H d x) ∧ (i = all.length → (Itl K p).stop i H) := by
  obtain ⟨vs, h', r⟩ := s p _ hp
  have inj : ∀ ys, SqL K H p ys → (Rd H p (.lst ys) → ys = vs) := fun ys _ z => by
    rcases z with z | ⟨o, z⟩
    · rw [h'] at z; cases z; rfl
    · rw [h'] at z; cases z
  refine ⟨fun d e => ?_, fun hl => ⟨vs, .of h', by rw [← r.length, hl]; exact Nat.le_refl _⟩⟩
  obtain ⟨v, e1, r1⟩ := r.get e
  refine ⟨⟨vs, v, .of h', e1⟩, fun x H' y => ?_⟩
  obtain ⟨eH, y⟩ := y
  subst eH
  have z := y vs (.of h')
  rw [e1] at z; cases z
  exact ⟨rfl, r1⟩
theorem forM_core {g : Tgt} {tb : DTS} {De : Ends} {σ : L2.St} {env : Env} {m1 : M} {H1 : Hp} {p : Addr} {all : List D} {E : DEnds} (eo : EnvOk X.K m1 H1 σ env) (s1 : Sim X.K m1 H1) (h1 : forDM p all g tb E all env m1)
    (k1 : ∀ env' m' σ' H', E.nx env' m' → EnvOk X.K m' H' σ' env' → Sim X.K m' H' → Fr m1 H1 m' H' → De.nx σ' H') (k2 : ∀ d m' v H', E.rt d m' → Fr m1 H1 m' H' → Sim X.K m' H' → Rep X.K m' H' d v → De.rt v H') :
    ∃ W : Nat → Nat → L2.St → Hp → Prop, (∃ n, W 0 n σ H1) ∧ ∀ i n σ H, W i n σ H → ((Itl X.K p).stop i H ∧ De.nx σ H) ∨ ((Itl X.K p).go i H ∧ ∃ N : L2.St → Hp → Prop, (∀ σ' H', N σ' H' → ∃ n', n' < n ∧ W (i + 1) n' σ' H') ∧
      ∀ x H', (Itl X.K p).yld i H x H' → tgR X.K g x σ H' fun σ2 H2 => liftS X.K tb { De with nx := N, ct := N, bk := De.nx } σ2 H2) := by
  refine ⟨fun i n σ H => n = all.length - i ∧ i ≤ all.length ∧ ∃ env m, EnvOk X.K m H σ env ∧ Sim X.K m H ∧ Fr m1 H1 m H ∧ forDM p all g tb E (all.drop i) env m, ⟨_, rfl, Nat.zero_le _, env, m1, eo, s1, Fr.refl, h1⟩, ?_⟩
  rintro i n σ2 H2 ⟨rfl, hi, env2, m2, eo2, s2, f2, h2⟩
  obtain ⟨go, stop⟩ := itl_at s2 (forDM_at h2) i
  by_cases hlt : i < all.length
  · obtain ⟨g1, g2⟩ := go all[i] (by simp [hlt])
    have ed : all.drop i = all[i] :: all.drop (i + 1) := List.drop_eq_getElem_cons hlt
    rw [ed] at h2
    refine .inr ⟨g1, fun σ' H' => ∃ env m, EnvOk X.K m H' σ' env ∧ Sim X.K m H' ∧ Fr m1 H1 m H' ∧ forDM p all g tb E (all.drop (i + 1)) env m, fun σ' H' q => ⟨all.length - (i + 1), by omega, rfl, hlt, q⟩, fun x H' y => ?_⟩
    obtain ⟨rfl, r3⟩ := g2 x H' y
    have h2 : tgD g all[i] env2 m2 _ := h2.2
    refine tg_run r3 eo2 s2 h2 fun env4 σ4 h4 eo4 _ => ?_
    exact ⟨env4, m2, _, eo4, s2, h4, fun env' m' σ' H' a1 a2 a3 a4 => ⟨env', m', a2, a3, f2.trans a4, a1⟩, fun d m' v H' a1 a2 a3 a4 => k2 d m' v H' a1 (f2.trans a2) a3 a4,
      fun env' m' σ' H' a1 a2 a3 a4 => k1 env' m' σ' H' a1 a2 a3 (f2.trans a4), fun env' m' σ' H' a1 a2 a3 a4 => ⟨env', m', a2, a3, f2.trans a4, a1⟩⟩
  · have e : i = all.length := by omega
    subst e
    rw [List.drop_length] at h2
    exact .inl ⟨stop rfl, k1 env2 m2 σ2 H2 h2.2 eo2 s2 f2⟩
theorem ds_forM {te : DTE} {g : Tgt} {tb : DTS} (he : DE X iter te) (hg : DGt X tg g) (hb : DSs X body tb) (hc : X.calm = true) (hp : PassesOwn (model X.prog X.w) X.A X.env X.xe) (hs : ∀ x, foldedSetIterable iter X.env x = pure x := by intro _; rfl) :
    DS X (.For tg iter body [] pos) (tFoM te g tb) := ⟨PS.weak (ps_for hp hc (pi_list he.run) hg.run hb.run hs) fun D σ H h => by
  obtain ⟨env, m, E, eo, s, h, k1, k2, k3, k4⟩ := h
  refine ⟨env, m, _, eo, s, h, fun o m1 v H1 h1 f1 s1 r1 => ?_⟩
  obtain ⟨p, ds, rfl, hm, h1⟩ := h1
  simp only [Rep] at r1
  subst r1
  obtain ⟨vs, h', r⟩ := s1 p _ hm
  exact ⟨p, rfl, ⟨vs, .of h'⟩, forM_core (eo.mono f1) s1 h1 (fun env' m' σ' H' a1 a2 a3 a4 => k1 env' m' σ' H' a1 a2 a3 (f1.trans a4)) fun d m' v H' a1 a2 a3 a4 => k2 d m' v H' a1 (f1.trans a2) a3 a4⟩⟩
end
theorem forDM_inv {p : Addr} {g : Tgt} {tb : DTS} {E : DEnds} {ds : List D} {env : Env} {m : M} (I : Nat → Env → M → Prop) (h0 : I 0 env m) (hk : ∀ i env m, I i env m → m p = some (.lst ds))
    (step : ∀ (i : Nat) (d : D) (env : Env) (m : M) (N : Env → M → Prop), ds[i]? = some d → I i env m → (∀ env m, I (i + 1) env m → N env m) → tgD g d env m fun env' m' => tb env' m' { E with nx := N, ct := N, bk := E.nx })
    (done : ∀ env m, I ds.length env m → E.nx env m) : forDM p ds g tb E ds env m := by
  have main : ∀ (k i : Nat) (env : Env) (m : M), ds.length - i = k → i ≤ ds.length → I i env m → forDM p ds g tb E (ds.drop i) env m := by
    intro k
    induction k with
    | zero =>
      intro i env m hk' hi h
      obtain rfl : i = ds.length := by omega
      rw [List.drop_length]
      exact ⟨hk _ env m h, done env m h⟩
    | succ k ih =>
      intro i env m hk' hi h
      have hlt : i < ds.length := by omega
      rw [List.drop_eq_getElem_cons hlt]
      exact ⟨hk i env m h, step i ds[i] env m _ (by simp [hlt]) h fun env' m' h' => ih (i + 1) env' m' (by omega) hlt h'⟩
  exact main _ 0 env m rfl (Nat.zero_le _) h0
end DL
/-! ### DL36: raise, and calls of defs that raise -/
namespace DL
open PySem PySem.Spec PyProof.Rows L2
abbrev DXE := Addr → List Str → List D → Env → M → Prop
/-- the class, the dict of an exception that is in the air -/
def ExR (K : PySem.W.Frag) (m : M) (H : Hp) (C : Addr) (ns : List Str) (xs : List D) (cls : Value) (d : Option Addr) : Prop :=
  cls = .ref C ∧ ∃ dd fs, d = some dd ∧ m dd = none ∧ H dd = some (.xd fs) ∧ fs.map (·.1) = ns ∧ RepL K m H xs (fs.map (·.2))
def liftSX (K : PySem.W.Frag) (W : WX) (t : DTS) : TS := fun D σ H => ∃ env m E, EnvOk K m H σ env ∧ Sim K m H ∧ t env m E ∧
  (∀ env' m' σ' H', E.nx env' m' → EnvOk K m' H' σ' env' → Sim K m' H' → Fr m H m' H' → D.nx σ' H') ∧
  (∀ d m' v H', E.rt d m' → Fr m H m' H' → Sim K m' H' → Rep K m' H' d v → D.rt v H') ∧
  (∀ env' m' σ' H', E.bk env' m' → EnvOk K m' H' σ' env' → Sim K m' H' → Fr m H m' H' → D.bk σ' H') ∧
  (∀ env' m' σ' H', E.ct env' m' → EnvOk K m' H' σ' env' → Sim K m' H' → Fr m H m' H' → D.ct σ' H') ∧
  (∀ C ns xs env' m' cls d σ' H', E.ex C ns xs env' m' → EnvOk K m' H' σ' env' → Sim K m' H' → Fr m H m' H' → ExR K m' H' C ns xs cls d → W cls d σ' H')
/-- an expression that may raise -/
abbrev DTEX := Env → M → DK → DXE → Prop
def liftEX (K : PySem.W.Frag) (W : WX) (t : DTEX) : TE := fun σ H Q => ∃ env m R F, EnvOk K m H σ env ∧ Sim K m H ∧ t env m R F ∧
  (∀ d m' v H', R d m' → Fr m H m' H' → Sim K m' H' → Rep K m' H' d v → Q v H') ∧
  (∀ C ns xs env' m' cls d σ' H', F C ns xs env' m' → EnvOk K m' H' σ' env' → Sim K m' H' → Fr m H m' H' → ExR K m' H' C ns xs cls d → W cls d σ' H')
/-- what a def promises that may raise -/
abbrev DSpX := List D → M → DK → (Addr → List Str → List D → M → Prop) → Prop
def liftSpX (K : PySem.W.Frag) (sp : DSpX) : Sp := fun vs H Q E => ∃ ds m R F, RepL K m H ds vs ∧ Sim K m H ∧ sp ds m R F ∧
  (∀ d m' v H', R d m' → Fr m H m' H' → Sim K m' H' → Rep K m' H' d v → Q v H') ∧
  (∀ C ns xs m' cls d H', F C ns xs m' → Sim K m' H' → Fr m H m' H' → ExR K m' H' C ns xs cls d → E cls d H')
structure DXS (X : Cx) (W : WX) (st : Stmt) (t : DTS) : Prop where run : PS X st (liftSX X.K W t)
structure DXSs (X : Cx) (W : WX) (st : List Stmt) (t : DTS) : Prop where run : PSs X st (liftSX X.K W t)
structure DEX (X : Cx) (W : WX) (e : Expr) (t : DTEX) : Prop where run : PE X e (liftEX X.K W t)
section
variable {X : Cx} {W : WX} {st : Stmt} {rest : List Stmt} {t u : DTS} {pos : Pos} {e : Expr}
theorem dxs_of (h : DS X st t) : DXS X W st t := ⟨PS.weak h.run fun D σ H ⟨env, m, E, eo, s, h, k1, k2, k3, k4, _⟩ => ⟨env, m, E, eo, s, h, k1, k2, k3, k4⟩⟩
theorem dxss_of (h : DSs X rest t) : DXSs X W rest t := ⟨PSs.weak h.run fun D σ H ⟨env, m, E, eo, s, h, k1, k2, k3, k4, _⟩ => ⟨env, m, E, eo, s, h, k1, k2, k3, k4⟩⟩
theorem dxss_one (h1 : DXS X W st t) : DXSs X W [st] t := ⟨pss_one h1.run⟩
/-- the same ends, later on -/
theorem liftSX_at {D : Ends} {σ' : L2.St} {H H1 : Hp} {m m1 : M} {env1 : Env} {E : DEnds} (f1 : Fr m H m1 H1) (eo : EnvOk X.K m1 H1 σ' env1) (s1 : Sim X.K m1 H1) (h : t env1 m1 E)
    (k1 : ∀ env' m' σ' H', E.nx env' m' → EnvOk X.K m' H' σ' env' → Sim X.K m' H' → Fr m H m' H' → D.nx σ' H')
    (k2 : ∀ d m' v H', E.rt d m' → Fr m H m' H' → Sim X.K m' H' → Rep X.K m' H' d v → D.rt v H')
    (k3 : ∀ env' m' σ' H', E.bk env' m' → EnvOk X.K m' H' σ' env' → Sim X.K m' H' → Fr m H m' H' → D.bk σ' H')
    (k4 : ∀ env' m' σ' H', E.ct env' m' → EnvOk X.K m' H' σ' env' → Sim X.K m' H' → Fr m H m' H' → D.ct σ' H')
    (k5 : ∀ C ns xs env' m' cls d σ' H', E.ex C ns xs env' m' → EnvOk X.K m' H' σ' env' → Sim X.K m' H' → Fr m H m' H' → ExR X.K m' H' C ns xs cls d → W cls d σ' H') : liftSX X.K W t D σ' H1 :=
  ⟨env1, m1, E, eo, s1, h, fun a b c d a1 a2 a3 a4 => k1 a b c d a1 a2 a3 (f1.trans a4), fun a b c d a1 a2 a3 a4 => k2 a b c d a1 (f1.trans a2) a3 a4, fun a b c d a1 a2 a3 a4 => k3 a b c d a1 a2 a3 (f1.trans a4),
    fun a b c d a1 a2 a3 a4 => k4 a b c d a1 a2 a3 (f1.trans a4), fun C ns xs a b c d g i a1 a2 a3 a4 a5 => k5 C ns xs a b c d g i a1 a2 a3 (f1.trans a4) a5⟩
theorem dxss_cons (h1 : DXS X W st t) (h2 : DXSs X W rest u) : DXSs X W (st :: rest) (tSq t u) := ⟨PSs.weak (pss_cons h1.run h2.run) fun D σ H h => by
  obtain ⟨env, m, E, eo, s, h, k1, k2, k3, k4, k5⟩ := h
  refine ⟨env, m, _, eo, s, h, fun env' m' σ' H' h' eo' s' f' => ?_, k2, k3, k4, k5⟩
  exact liftSX_at f' eo' s' h' k1 k2 k3 k4 k5⟩
theorem dxs_if {c : Expr} {sa sb : List Stmt} {tc : DTT} (hc : DT X c tc) (ha : DXSs X W sa t) (hb : DXSs X W sb u) : DXS X W (.If c sa sb pos) (tIfS tc t u) := ⟨PS.weak (ps_if hc.run ha.run hb.run) fun D σ H h => by
  obtain ⟨env, m, E, eo, s, h, k1, k2, k3, k4, k5⟩ := h
  refine ⟨env, m, _, eo, s, h, fun c m1 H1 h1 f1 s1 => ?_⟩
  cases c with
  | true => simp only [if_true] at h1 ⊢; exact liftSX_at f1 (eo.mono f1) s1 h1 k1 k2 k3 k4 k5
  | false => simp only [Bool.false_eq_true, if_false] at h1 ⊢; exact liftSX_at f1 (eo.mono f1) s1 h1 k1 k2 k3 k4 k5⟩
theorem for_coreX {g : Tgt} {tb : DTS} {De : Ends} {σ : L2.St} {env : Env} {m1 : M} {H1 : Hp} {J : It} {ds : List D} {E : DEnds} (eo : EnvOk X.K m1 H1 σ env) (s1 : Sim X.K m1 H1) (it : Items X.K J ds m1 H1) (h1 : forD g tb E ds env m1)
    (k1 : ∀ env' m' σ' H', E.nx env' m' → EnvOk X.K m' H' σ' env' → Sim X.K m' H' → Fr m1 H1 m' H' → De.nx σ' H') (k2 : ∀ d m' v H', E.rt d m' → Fr m1 H1 m' H' → Sim X.K m' H' → Rep X.K m' H' d v → De.rt v H')
    (k5 : ∀ C ns xs env' m' cls d σ' H', E.ex C ns xs env' m' → EnvOk X.K m' H' σ' env' → Sim X.K m' H' → Fr m1 H1 m' H' → ExR X.K m' H' C ns xs cls d → W cls d σ' H') :
    ∃ V : Nat → Nat → L2.St → Hp → Prop, (∃ n, V 0 n σ H1) ∧ ∀ i n σ H, V i n σ H → (J.stop i H ∧ De.nx σ H) ∨ (J.go i H ∧ ∃ N : L2.St → Hp → Prop, (∀ σ' H', N σ' H' → ∃ n', n' < n ∧ V (i + 1) n' σ' H') ∧
      ∀ x H', J.yld i H x H' → tgR X.K g x σ H' fun σ2 H2 => liftSX X.K W tb { De with nx := N, ct := N, bk := De.nx } σ2 H2) := by
  refine ⟨fun i n σ H => n = ds.length - i ∧ i ≤ ds.length ∧ ∃ env m, EnvOk X.K m H σ env ∧ Sim X.K m H ∧ Fr m1 H1 m H ∧ forD g tb E (ds.drop i) env m, ⟨_, rfl, Nat.zero_le _, env, m1, eo, s1, Fr.refl, h1⟩, ?_⟩
  rintro i n σ2 H2 ⟨rfl, hi, env2, m2, eo2, s2, f2, h2⟩
  obtain ⟨go, stop⟩ := it i m2 H2 f2 s2
  by_cases hlt : i < ds.length
  · obtain ⟨g1, g2⟩ := go ds[i] (by simp [hlt])
    have ed : ds.drop i = ds[i] :: ds.drop (i + 1) := List.drop_eq_getElem_cons hlt
    rw [ed] at h2
    refine .inr ⟨g1, fun σ' H' => ∃ env m, EnvOk X.K m H' σ' env ∧ Sim X.K m H' ∧ Fr m1 H1 m H' ∧ forD g tb E (ds.drop (i + 1)) env m, fun σ' H' q => ⟨ds.length - (i + 1), by omega, rfl, hlt, q⟩, fun x H' y => ?_⟩
    obtain ⟨f3, s3, r3⟩ := g2 x H' y
    have h2 : tgD g ds[i] env2 m2 _ := h2
    refine tg_run r3 (eo2.mono f3) s3 h2 fun env4 σ4 h4 eo4 _ => ?_
    have f13 := f2.trans f3
    exact ⟨env4, m2, _, eo4, s3, h4, fun env' m' σ' H' a1 a2 a3 a4 => ⟨env', m', a2, a3, f13.trans a4, a1⟩, fun d m' v H' a1 a2 a3 a4 => k2 d m' v H' a1 (f13.trans a2) a3 a4,
      fun env' m' σ' H' a1 a2 a3 a4 => k1 env' m' σ' H' a1 a2 a3 (f13.trans a4), fun env' m' σ' H' a1 a2 a3 a4 => ⟨env', m', a2, a3, f13.trans a4, a1⟩,
      fun C ns xs a b c d g i a1 a2 a3 a4 a5 => k5 C ns xs a b c d g i a1 a2 a3 (f13.trans a4) a5⟩
  · have e : i = ds.length := by omega
    subst e
    rw [List.drop_length] at h2
    exact .inl ⟨stop rfl, k1 env2 m2 σ2 H2 h2 eo2 s2 f2⟩
theorem dxs_for {tg iter : Expr} {body : List Stmt} {ti : DTI} {g : Tgt} {tb : DTS} (hi : DI X tg iter ti) (hg : DGt X tg g) (hb : DXSs X W body tb) (hc : X.calm = true) (hp : PassesOwn (model X.prog X.w) X.A X.env X.xe) (hs : ∀ x, foldedSetIterable iter X.env x = pure x := by intro _; rfl) :
    DXS X W (.For tg iter body [] pos) (tFo ti g tb) := ⟨PS.weak (ps_for hp hc hi.run hg.run hb.run hs) fun D σ H h => by
  obtain ⟨env, m, E, eo, s, h, k1, k2, k3, k4, k5⟩ := h
  refine ⟨env, m, _, eo, s, h, fun ds m1 J H1 h1 f1 s1 it => ?_⟩
  exact for_coreX (eo.mono f1) s1 it h1 (fun env' m' σ' H' a1 a2 a3 a4 => k1 env' m' σ' H' a1 a2 a3 (f1.trans a4)) (fun d m' v H' a1 a2 a3 a4 => k2 d m' v H' a1 (f1.trans a2) a3 a4)
    fun C ns xs a b c d g i a1 a2 a3 a4 a5 => k5 C ns xs a b c d g i a1 a2 a3 (f1.trans a4) a5⟩
/-! statements with an expression that may raise -/
def tRtX (te : DTEX) : DTS := fun env m E => te env m E.rt E.ex
theorem dxs_ret {te : DTEX} (he : DEX X W e te) : DXS X W (.Return (some e) pos) (tRtX te) := ⟨PS.weak (ps_ret he.run) fun D σ H h => by
  obtain ⟨env, m, E, eo, s, h, k1, k2, k3, k4, k5⟩ := h
  exact ⟨env, m, _, _, eo, s, h, fun d m1 v H1 h1 f1 s1 r1 => k2 d m1 v H1 h1 f1 s1 r1, k5⟩⟩
def tDrX (te : DTEX) : DTS := fun env m E => te env m (fun _ m1 => E.nx env m1) E.ex
theorem dxs_expr {te : DTEX} (he : DEX X W e te) (hs : swapsWith e none pos.line X.env = pure false := by rfl) : DXS X W (.Expr e pos) (tDrX te) := ⟨PS.weak (ps_expr he.run hs) fun D σ H h => by
  obtain ⟨env, m, E, eo, s, h, k1, k2, k3, k4, k5⟩ := h
  exact ⟨env, m, _, _, eo, s, h, fun d m1 v H1 h1 f1 s1 r1 => k1 env m1 σ H1 h1 (eo.mono f1) s1 f1, k5⟩⟩
def tSetX (i : Nat) (te : DTEX) : DTS := fun env m E => te env m (fun d m1 => E.nx (env.set i (some d)) m1) E.ex
theorem dxs_set {i : Nat} {x : Str} {pos' : Pos} {te : DTEX} (he : DEX X W e te) (hN : X.N.Nodup) (hi : X.N[i]? = some x := by rfl) (hx : Loc X.env.scope x := by first | exact Or.inl rfl | exact Or.inr rfl) (hs : swapsWith e (some (.Name x pos')) pos.line X.env = pure false := by rfl)
    (hf : X.fn x = true ∨ X.env.scope.names.lookup x = some .local := by first | exact .inl rfl | exact .inr rfl) :
    DXS X W (.Assign [.Name x pos'] e pos) (tSetX i te) := ⟨PS.weak (ps_set hN hi hx he.run hs hf) fun D σ H h => by
  obtain ⟨env, m, E, eo, s, h, k1, k2, k3, k4, k5⟩ := h
  refine ⟨env, m, _, _, eo, s, h, fun d m1 v H1 h1 f1 s1 r1 => ?_, k5⟩
  exact k1 _ m1 _ H1 h1 ((eo.mono f1).set i r1) s1 f1⟩
end
end DL
/-! ### DL37: exceptions of own classes, made and raised; defs that raise -/
namespace DL
open PySem PySem.Spec PyProof.Rows L2
/-- what the written part tells of an exception class over ValueError -/
def oexQ (C : Addr) (sl : List (Option Value)) (q : ClassData) : Bool := q.hasDict && (!q.hasDel && (decide (q.mro.head? = some (.ref C)) && (PySem.HandSPX.refsVE q.mro.tail && (decide (sl.length = 6) && decide (sl[4]? = some (some (.builtin "ValueError.__new__")))))))
def oexB (K : PySem.W.Frag) (C : Addr) : Bool := match K.lookup C with
  | some ⟨c, _, .cls q, sl⟩ => decide (c = .type "type") && oexQ C sl.toList q
  | _ => false
theorem oexB_cls {K : PySem.W.Frag} {C : Addr} (h : oexB K C = true) : ∃ nm q N bs bm sn sub ab col dd k0 k1 k2 k3 k5, K.lookup C = some (excClassObj nm q C N bs bm true sn sub ab col dd k0 k1 k2 k3 k5 "ValueError.__new__") ∧ PySem.HandSPX.refsVE bm = true := by
  unfold oexB at h
  split at h
  · rename_i c od q sl ho
    obtain ⟨h1, h2⟩ := Bool.and_eq_true_iff.mp h
    have h3 := of_decide_eq_true h1
    obtain ⟨nm, bs, mro, ns, qn, hd, sn, sb, ab, col, de⟩ := q
    unfold oexQ at h2
    obtain ⟨g1, h2⟩ := Bool.and_eq_true_iff.mp h2
    obtain ⟨g2, h2⟩ := Bool.and_eq_true_iff.mp h2
    obtain ⟨g3, h2⟩ := Bool.and_eq_true_iff.mp h2
    obtain ⟨g4, h2⟩ := Bool.and_eq_true_iff.mp h2
    obtain ⟨g5, g6⟩ := Bool.and_eq_true_iff.mp h2
    have e1 : hd = true := g1
    have e2 : de = false := by simpa using g2
    have e3 : mro.head? = some (.ref C) := of_decide_eq_true g3
    have g5 : sl.toList.length = 6 := of_decide_eq_true g5
    have g6 := of_decide_eq_true g6
    obtain ⟨l⟩ := sl
    match l, g5, g6 with
    | [k0, k1, k2, k3, k4, k5], _, g6 =>
      have e4 : k4 = some (.builtin "ValueError.__new__") := by simpa using g6
      match mro, e3, g4 with
      | z :: r, e3, g4 =>
        have ez : z = .ref C := by simpa using e3
        rw [e1, e2, e4, ez, h3] at ho
        exact ⟨_, _, _, _, _, _, _, _, _, _, _, _, _, _, _, ho, g4⟩
  · cases h
theorem oexC_of {K : PySem.W.Frag} {C : Addr} (h1 : oexB K C = true) (h2 : PySem.W.findIn K (.ref C) "__setattr__" = some (some (.builtin "object.__setattr__"))) (h3 : PySem.W.subIn K (.ref C) (.type "BaseException") = some true)
    (h4 : PySem.W.typeIn K (.ref C) = some (.type "type")) (h5 : PySem.W.keepIn K (.ref C) = true) : OexC K C := ⟨oexB_cls h1, h2, h3, h4, h5⟩
/-- what the __init__ of an exception class does: a field of each parameter -/
def xiSp (C : Addr) (fns : List Str) : Sp := fun vs H Q _ => ∃ (a : Addr) (ys : List V), vs = .ref a :: ys ∧ ys.length = fns.length ∧ H a = some (exo a C none) ∧
  ∀ dx, H dx = none → dx ≠ a → ∀ H2 : Hp, H2 a = some (exo a C (some dx)) → H2 dx = some (exd dx (fns.zip ys).reverse) → (∀ b, b ≠ a → b ≠ dx → H2 b = H b) → Q .non H2
/-- an own exception class that may be made -/
structure MkX (P : Program) (w : World) (K : PySem.W.Frag) (mg : Str → Option Value) (base : Heap) (C : Addr) (k : Nat) (fns : List Str) : Prop where
  oc : OexC K C
  ex : ∃ (fI : Addr) (fd : FuncData) (ps : List Str), PySem.W.findIn K (.ref C) "__init__" = some (some (.ref fI)) ∧ PySem.W.typeIn K (.ref fI) = some (.type "function") ∧ Binds K fd ps [] ∧ FnOk P w K mg base CX0 k fI fd ps (xiSp C fns)
section
variable {P : Program} {w : World} {K : PySem.W.Frag} {mg : Str → Option Value} {base : Heap}
theorem xi_upd {H : Hp} {a dx : Addr} {e d1 : HO} (ne : dx ≠ a) : ∀ b, b ≠ a → b ≠ dx → upd (upd H dx d1) a e b = H b := fun b h1 h2 => by rw [upd_ne h1, upd_ne h2]
/-- def __init__(self, p): self.f = p -/
theorem xinit1 {x qual : Str} {st : Stmt} {f : Addr} {fd : FuncData} {N : List Str} {s p f1 : Str} {k : Nat} {C : Addr} {q1 q2 q3 q4 : Pos} (F : Fun K x qual st f fd) (S : FnScope N [s, p] (defScope st)) (hN : N = [s, p]) (T : OexC K C)
    (hn : PySem.W.findIn K (.ref C) f1 = some none) (hv0 : Vis (defScope st) s) (hv1 : Vis (defScope st) p) (hd0 : (s == ("__debug__" : Str)) = false := by decide) (hc0 : (s == ("__classdict__" : Str)) = false := by decide) (hd1 : (p == ("__debug__" : Str)) = false := by decide) (hc1 : (p == ("__classdict__" : Str)) = false := by decide)
    (hb : defBody st = [.Assign [.Attribute (.Name s q1) f1 q2] (.Name p q3) q4]) : FnOk P w K mg base CX0 (k + 1) f fd [s, p] (xiSp C [f1]) := by
  subst hN
  refine F.ok S (fun vs H Q E ⟨a, ys, e, l, _⟩ => by rw [e]; simp at l ⊢; omega) fun cdv A outer sh H vs Q E hr hs => ?_
  obtain ⟨a, ys, rfl, hl, ha, hq⟩ := hs
  match ys, hl with
  | [y], _ =>
    rw [hb]
    refine ⟨_, pss_one (ps_ost (pe_var (i := 0) rfl hv0 hd0 hc0) (pe_var (i := 1) rfl hv1 hd1 hc1)), ?_⟩
    refine ⟨y, rfl, .ref a, rfl, a, C, rfl, T, hn, .inl ⟨ha, fun dx h1 h2 => ?_⟩⟩
    exact hq dx h1 h2 _ upd_same (by rw [upd_ne h2, upd_same]; rfl) (xi_upd h2)
/-- def __init__(self, p, r): self.f = p; self.g = r -/
theorem xinit2 {x qual : Str} {st : Stmt} {f : Addr} {fd : FuncData} {N : List Str} {s p r f1 f2 : Str} {k : Nat} {C : Addr} {q1 q2 q3 q4 r1 r2 r3 r4 : Pos} (F : Fun K x qual st f fd) (S : FnScope N [s, p, r] (defScope st)) (hN : N = [s, p, r]) (T : OexC K C)
    (hn : PySem.W.findIn K (.ref C) f1 = some none) (hn2 : PySem.W.findIn K (.ref C) f2 = some none) (hv0 : Vis (defScope st) s) (hv1 : Vis (defScope st) p) (hv2 : Vis (defScope st) r)
    (hd0 : (s == ("__debug__" : Str)) = false := by decide) (hc0 : (s == ("__classdict__" : Str)) = false := by decide) (hd1 : (p == ("__debug__" : Str)) = false := by decide) (hc1 : (p == ("__classdict__" : Str)) = false := by decide)
    (hd2 : (r == ("__debug__" : Str)) = false := by decide) (hc2 : (r == ("__classdict__" : Str)) = false := by decide)
    (hb : defBody st = [.Assign [.Attribute (.Name s q1) f1 q2] (.Name p q3) q4, .Assign [.Attribute (.Name s r1) f2 r2] (.Name r r3) r4]) : FnOk P w K mg base CX0 (k + 1) f fd [s, p, r] (xiSp C [f1, f2]) := by
  subst hN
  refine F.ok S (fun vs H Q E ⟨a, ys, e, l, _⟩ => by rw [e]; simp at l ⊢; omega) fun cdv A outer sh H vs Q E hr hs => ?_
  obtain ⟨a, ys, rfl, hl, ha, hq⟩ := hs
  match ys, hl with
  | [y, z], _ =>
    rw [hb]
    refine ⟨_, pss_cons (ps_ost (pe_var (i := 0) rfl hv0 hd0 hc0) (pe_var (i := 1) rfl hv1 hd1 hc1)) (pss_one (ps_ost (pe_var (i := 0) rfl hv0 hd0 hc0) (pe_var (i := 2) rfl hv2 hd2 hc2))), ?_⟩
    refine ⟨y, rfl, .ref a, rfl, a, C, rfl, T, hn, .inl ⟨ha, fun dx h1 h2 => ?_⟩⟩
    refine ⟨z, rfl, .ref a, rfl, a, C, rfl, T, hn2, .inr ⟨dx, [(f1, y)], upd_same, by rw [upd_ne h2, upd_same], by simp, ?_⟩⟩
    exact hq dx h1 h2 _ (by rw [upd_ne h2.symm, upd_same]) upd_same fun b b1 b2 => by rw [upd_ne b2, upd_ne b1, upd_ne b2]
end
/-! raise -/
section
variable {X : Cx} {W : WX} {C : Addr} {k : Nat} {fns : List Str} {x : Str} {e : Expr} {es : List Expr} {t : DTA} {p pos pos' : Pos}
/-- the class is made of these and raised -/
def tRz (C : Addr) (fns : List Str) (t : DTA) : DTS := fun env m E => t env m fun ds m1 => ds.length = fns.length ∧ E.ex C fns.reverse ds.reverse env m1
theorem zip_fsts : ∀ (fs : List Str) (ys : List V), ys.length = fs.length → (fs.zip ys).map (·.1) = fs ∧ (fs.zip ys).map (·.2) = ys
  | [], [], _ => ⟨rfl, rfl⟩
  | f :: fs, y :: ys, h => by
    obtain ⟨h1, h2⟩ := zip_fsts fs ys (by simpa using h)
    simp [h1, h2]
theorem dxs_raise (c : MkX X.prog X.w X.K X.mg X.base C k fns) (hr : RoomG (k + 1) X.A) (hm : X.mg x = some (.ref C)) (ha : DA X (e :: es) t) (hc : X.calm = true) (tk : Takes X W) (hg : Gl X x := by rfl) (hd : (x == ("__debug__" : Str)) = false := by decide)
    (he : starEach (e :: es) X.env = (false, eval e X.env) :: starEach es X.env := by rfl) (hpl : (backTo pos (starEach es X.env)).any (·.1) = false := by rfl) (hz : fns.length ≤ 1000 := by decide) :
    DXS X W (.Raise (some (.Call (.Name x p) (e :: es) [] pos)) none pos') (tRz C fns t) := by
  obtain ⟨fI, fd, ps, h1, h2, hb, F⟩ := c.ex
  refine ⟨PS.weak (ps_raise hc tk (pmk_oex c.oc h1 h2 F hr.r hb .nil (fun _ _ _ _ _ _ _ z => z.elim) hg hm ha.run hd he hpl)) fun D σ H hh => ?_⟩
  obtain ⟨env, m, E, eo, s, h, _, _, _, _, k5⟩ := hh
  refine ⟨env, m, _, eo, s, h, fun ds m1 vs H1 h1 f1 s1 r1 => ?_⟩
  obtain ⟨hl, h1⟩ := h1
  have hlv : vs.length = fns.length := by rw [← r1.length]; exact hl
  refine ⟨by omega, fun a ha1 => ⟨a, vs ++ [], rfl, by rw [List.append_nil]; exact hlv, upd_same, fun dx d1 d2 H2 e1 e2 e3 => ⟨rfl, dx, _, e1, e2, ?_, ?_⟩⟩⟩
  · rw [upd_ne d2] at d1; exact d1
  · rw [upd_ne d2] at d1
    rw [List.append_nil]
    have hH : upd (del H2 a) dx (.xd (fns.zip vs).reverse) = upd H1 dx (.xd (fns.zip vs).reverse) := by
      funext b
      by_cases hb : b = dx
      · rw [hb, upd_same, upd_same]
      · rw [upd_ne hb, upd_ne hb]
        by_cases hba : b = a
        · rw [hba, del_same, ha1]
        · rw [del_ne hba, e3 b hba hb, upd_ne hba]
    rw [hH]
    have fl := Fr.laid (o := .xd (fns.zip vs).reverse) s1 d1
    obtain ⟨z1, z2⟩ := zip_fsts fns vs hlv
    refine k5 C _ _ env m1 _ _ σ _ h1 ((eo.mono f1).mono fl) (s1.laid d1) (f1.trans fl) ⟨rfl, dx, _, rfl, s1.free d1, upd_same, ?_, ?_⟩
    · rw [List.map_reverse, z1]
    · rw [List.map_reverse, z2]
      exact RepL.mono fl _ _ r1.reverse
end
/-! a def that raises -/
/-- the ends of its body -/
def bodyEndsX (R : DK) (F : Addr → List Str → List D → M → Prop) : DEnds := { nx := fun _ m => R .non m, rt := R, ex := fun C ns xs _ m => F C ns xs m }
section
variable {P : Program} {w : World} {K : PySem.W.Frag} {mg : Str → Option Value} {base : Heap}
theorem liftSpX_imp {sp sp' : DSpX} (h : ∀ ds m R F, sp' ds m R F → sp ds m R F) : ∀ vs H Q E, liftSpX K sp' vs H Q E → liftSpX K sp vs H Q E := fun vs H Q E ⟨ds, m, R, F, r, s, q, k⟩ => ⟨ds, m, R, F, r, s, h _ _ _ _ q, k⟩
theorem fn_mkX {x qual : Str} {st : Stmt} {f : Addr} {fd : FuncData} {N ps : List Str} {k : Nat} {sp : DSpX} {t : DTS} (F : Fun K x qual st f fd) (S : FnScope N ps (defScope st)) (hb : Binds K fd ps []) (hn : ∀ ds m R G, sp ds m R G → ds.length = ps.length)
    (hbody : ∀ (cdv : Value) (A : Around) (outer : List PySem.Env) (s : Shared) (H : Hp) (E : XK), RoomG k (A.deeper (envOfC qual (defScope st) s.heap.objs.size f cdv)) → DXSs (cxOf (L2.CX P w) P w K mg base N qual (defScope st) f cdv A outer s H E) (fun cls d _ H => E cls d H) (defBody st) t)
    (hsp : ∀ ds m R G, sp ds m R G → t (startD N.length ds) m (bodyEndsX R G)) : FnG P w K mg base (L2.CX P w) (k + 1) f (liftSpX K sp) := by
  obtain ⟨oc, od, kV, doc, pm, an, cdv, ct, osl, rfl, lk, hcd⟩ := F.ex
  intro A outer s H us vs Q E hr e0 rv ⟨ds, m, R, G, r, sm, q, kq, kx⟩
  have hl : vs.length = ps.length := by rw [← r.length]; exact hn _ _ _ _ q
  have kin : K.In s.heap := e0.mod.kin.keeps fun b o e => (e0.bs b o e).1
  have lu : (us ++ ([] : List Value)).length = ps.length := by rw [List.append_nil, ← rv.length]; exact hl
  have hb1 := hb s us kin lu
  rw [List.append_nil] at hb1
  refine StX.run_bnd lk hcd S hr.r e0 (G := fun xs H2 => xs = vs ∧ H2 = H) (fun A' Ex Q' h => hb1 _ _ _ _ (h s H vs us e0 Un.refl rfl (fun _ _ z => z) rv hl ⟨rfl, rfl⟩)) fun s2 H2 xs g hr' => ?_
  obtain ⟨rfl, rfl⟩ := g
  exact ⟨_, (hbody cdv A outer s2 _ E ⟨hr', hr.g⟩).run, ⟨_, m, _, EnvOk.start r, sm, hsp _ _ _ _ q, fun env' m' σ' H' a1 a2 a3 a4 => kq .non m' .non H' a1 a4 a3 rep_non, fun d m' v H' a1 a2 a3 a4 => kq d m' v H' a1 a2 a3 a4, fun _ _ _ _ z => z.elim, fun _ _ _ _ z => z.elim,
    fun C ns xs env' m' cls d σ' H' a1 a2 a3 a4 a5 => kx C ns xs m' cls d H' a1 a3 a4 a5⟩⟩
/-- what may leave such a body -/
theorem takesX {N : List Str} {qual : Str} {scope : Scope} {f : Addr} {cdv : Value} {A : Around} {outer : List PySem.Env} {s : Shared} {H : Hp} {E : XK} : Takes (cxOf (L2.CX P w) P w K mg base N qual scope f cdv A outer s H E) (fun cls d _ H => E cls d H) := takes_of rfl rfl rfl rfl
theorem ownX {CX : CXT} {N : List Str} {qual : Str} {scope : Scope} {f : Addr} {cdv : Value} {A : Around} {outer : List PySem.Env} {s : Shared} {H : Hp} {E : XK} : PassesOwn (model P w) (cxOf CX P w K mg base N qual scope f cdv A outer s H E).A (cxOf CX P w K mg base N qual scope f cdv A outer s H E).env (cxOf CX P w K mg base N qual scope f cdv A outer s H E).xe := passes_of rfl
end
end DL
/-! ### DL38: calls that may raise -/
namespace DL
open PySem PySem.Spec PyProof.Rows L2
/-- a def of the module, a method, a class, a class method that may raise -/
structure CalX (X : Cx) (x : Str) (k : Nat) (sp : DSpX) : Prop where
  ex : ∃ f, X.mg x = some (.ref f) ∧ PySem.W.keepIn X.K (.ref f) = true ∧ FnG X.prog X.w X.K X.mg X.base (L2.CX X.prog X.w) k f (liftSpX X.K sp)
structure CalMX (X : Cx) (C : Addr) (m : Str) (k : Nat) (sp : DSpX) : Prop where
  ex : ∃ f, Meth X.K C m f ∧ FnG X.prog X.w X.K X.mg X.base (L2.CX X.prog X.w) k f (liftSpX X.K sp)
structure CalCX (X : Cx) (C : Addr) (k : Nat) (sp : DSpX) : Prop where
  ex : ∃ f, Mk X.K C f ∧ FnG X.prog X.w X.K X.mg X.base (L2.CX X.prog X.w) k f (liftSpX X.K sp)
structure CalKX (X : Cx) (C : Addr) (m : Str) (k : Nat) (sp : DSpX) : Prop where
  ex : ∃ mc p g, ClX.CRead X.K C mc ∧ ClX.CMet X.K C mc m p g ∧ FnG X.prog X.w X.K X.mg X.base (L2.CX X.prog X.w) k g (liftSpX X.K sp)
section
variable {X : Cx} {W : WX} {k : Nat} {C : Addr} {x m : Str} {p pos apos : Pos} {e o : Expr} {es : List Expr} {te ta : DTE} {t : DTA}
theorem run_fnX {pins : List (Addr × Obj)} {σ : L2.St} {H : Hp} {s : Shared} {CT : CXT} {f : Addr} {sp : Sp} {E : XK} {Q : VK} {us : List Value} {vs : List V} (F : FnG X.prog X.w X.K X.mg X.base CT k f sp) (hr : RoomG k X.A) (hx : PassesAt CT X σ E) (I : Inv X pins σ H s) (r : Vals vs us)
    (q : sp vs H Q E) : codeAny (model X.prog X.w) X.A (.call (.ref f) ⟨us, []⟩) (fun r s' => match r with | .ok (.ret v) => EP X pins σ Q v s' | .ok _ => False | .error e => X.xe e s') s :=
  codeAny_mono (F X.A X.stack s H us vs Q E hr I.env0 r q) fun res s' h => match res, h with
    | .error e, h => hx pins H s e s' I h
    | .ok (.ret u), h => I.after h
    | .ok .next, h => h.elim
    | .ok .brk, h => h.elim
    | .ok .cont, h => h.elim
theorem run_callX {pins : List (Addr × Obj)} {σ : L2.St} {H : Hp} {s : Shared} {CT : CXT} {f : Addr} {sp : Sp} {E : XK} {Q : VK} {us : List Value} {vs : List V} (F : FnG X.prog X.w X.K X.mg X.base CT k f sp) (hr : RoomG k X.A) (hx : PassesAt CT X σ E) (I : Inv X pins σ H s) (r : Vals vs us)
    (q : sp vs H Q E) : wpAny (model X.prog X.w) X.A (call (.ref f) us) (EP X pins σ Q) X.xe s := wpAny_call (run_fnX F hr hx I r q)
theorem run_makeX {pins : List (Addr × Obj)} {σ : L2.St} {H : Hp} {s : Shared} {CT : CXT} {f : Addr} {sp : Sp} {E : XK} {Q : VK} {us : List Value} {vs : List V} (M0 : Mk X.K C f) (F : FnG X.prog X.w X.K X.mg X.base CT k f sp) (hr : RoomG (k + 1) X.A) (hx : PassesAt CT X σ E) (I : Inv X pins σ H s) (r : Vals vs us)
    (h : ∀ x dx, H x = none → H dx = none → dx ≠ x → sp (V.ref x :: vs) (upd (upd H dx (.own x)) x (.ins C dx [])) (fun v H2 => v = .non ∧ Q (.ref x) H2) E) : wpAny (model X.prog X.w) X.A (call (.ref C) us) (EP X pins σ Q) X.xe s := by
  have J := Inv.made (C := C) I
  have q := h (s.heap.objs.size + 1) s.heap.objs.size (I.hok.fresh (Nat.le_succ _)) (I.hok.fresh (Nat.le_refl _)) (Nat.ne_of_lt (Nat.lt_succ_self _))
  refine wpAny_call (make_map (f := f) I.kIn M0.makes M0.init (beq_iff_eq.mp M0.fn) (codeAny_mono (F _ X.stack _ _ (Value.ref (s.heap.objs.size + 1) :: us) _ _ E (hr.make C us []) (J.env0.make C us []) (show Vals (V.ref (s.heap.objs.size + 1) :: vs) (Value.ref (s.heap.objs.size + 1) :: us) from .cons rfl r) q) fun res s' h => ?_))
  match res, h with
  | .error e, h => exact hx pins _ _ e s' J h
  | .ok (.ret u), h =>
    obtain ⟨v, H', J', rv, ev, q'⟩ := J.after h
    subst ev
    exact ⟨rv, V.ref (s.heap.objs.size + 1), H', J', rfl, q'⟩
  | .ok .next, h => exact h.elim
  | .ok .brk, h => exact h.elim
  | .ok .cont, h => exact h.elim
/-! rules at the heap: the promise is asked with what this def wants of exceptions at its slots -/
theorem pe_callX {f : Addr} {sp : Sp} {t : TA} (tk : Takes X W) (F : FnG X.prog X.w X.K X.mg X.base (L2.CX X.prog X.w) k f sp) (hr : RoomG k X.A) (hk : PySem.W.keepIn X.K (.ref f) = true) (hg : Gl X x) (hm : X.mg x = some (.ref f)) (ha : PA X (e :: es) t)
    (hd : (x == ("__debug__" : Str)) = false := by decide) (he : starEach (e :: es) X.env = (false, eval e X.env) :: starEach es X.env := by rfl) (hpl : (backTo pos (starEach es X.env)).any (·.1) = false := by rfl) :
    PE X (.Call (.Name x p) (e :: es) [] pos) (fun σ H Q => t σ H fun vs H1 => sp vs H1 Q (WE W σ)) := by
  refine ⟨fun pins s σ H Q I h => wpAny_Call_Name_kw (ld_glob I hg hm ?_ hd)⟩
  refine PySem.W.callWith_K (h₀ := X.base) I.ok.mod.kin hk (thn (ha.run pos pins s σ H _ I h) fun us s1 hx1 => ?_) he hpl
  obtain ⟨vs, H1, I1, r, q⟩ := hx1
  exact ⟨I1.kIn, run_callX F hr (passAt tk σ) I1 r q⟩
theorem pe_callX0 {f : Addr} {sp : Sp} (tk : Takes X W) (F : FnG X.prog X.w X.K X.mg X.base (L2.CX X.prog X.w) k f sp) (hr : RoomG k X.A) (hk : PySem.W.keepIn X.K (.ref f) = true) (hg : Gl X x) (hm : X.mg x = some (.ref f)) (hd : (x == ("__debug__" : Str)) = false := by decide) :
    PE X (.Call (.Name x p) [] [] pos) (fun σ H Q => sp [] H Q (WE W σ)) :=
  ⟨fun pins s σ H Q I h => wpAny_Call_Name_kw (ld_glob I hg hm (PySem.W.callWith_K0 I.kIn hk (run_callX F hr (passAt tk σ) I .nil h)) hd)⟩
theorem pe_methX {f : Addr} {sp : Sp} {ta : TE} {t : TA} {pl : Sem Bool} (tk : Takes X W) (he : PE X o ta) (c : Cls X.K C) (hm : Meth X.K C m f) (F : FnG X.prog X.w X.K X.mg X.base (L2.CX X.prog X.w) k f sp) (hr : RoomG k X.A) (ha : PA X (e :: es) t)
    (hst : starEach (e :: es) X.env = (false, eval e X.env) :: starEach es X.env := by rfl) (hpl : (backTo pos (starEach es X.env)).any (·.1) = false := by rfl)
    (ht : eval (.Call (.Attribute o m apos) (e :: es) [] pos) X.env = (do
      let ov ← eval o X.env
      standAt apos.atName
      let (f, first) ← holding [ov] (getMethod ov m pl)
      callWith pos f first (backTo pos (starEach (e :: es) X.env)) (backToKw pos (keywordEach [] X.env))) := by rfl) :
    PE X (.Call (.Attribute o m apos) (e :: es) [] pos) (fun σ H Q => tMethR C m sp (WE W σ) ta t σ H Q) := by
  refine ⟨fun pins s σ H Q I h => PySem.W.methodCall_KW (pl := pl) (thn (he.run pins s σ H _ I h) fun u s1 hx1 => ?_) ht⟩
  obtain ⟨x, H1, I1, rx, a, dx, fs, rfl, ea, l, q⟩ := hx1
  obtain rfl : u = Value.ref a := rx
  refine getmeth_ok I1 ea c hm l (PySem.W.callWith_K (first := [.ref a]) (h₀ := X.base) I.ok.mod.kin hm.kp (thn (ha.run pos pins s1 σ H1 _ I1 q) fun us s2 hx2 => ?_) hst hpl)
  obtain ⟨vs, H2, I2, r, q2⟩ := hx2
  exact ⟨I2.kIn, run_callX (us := .ref a :: us) (vs := .ref a :: vs) F hr (passAt tk σ) I2 (.cons rfl r) q2⟩
theorem pe_methX0 {f : Addr} {sp : Sp} {ta : TE} {pl : Sem Bool} (tk : Takes X W) (he : PE X o ta) (c : Cls X.K C) (hm : Meth X.K C m f) (F : FnG X.prog X.w X.K X.mg X.base (L2.CX X.prog X.w) k f sp) (hr : RoomG k X.A)
    (ht : eval (.Call (.Attribute o m apos) [] [] pos) X.env = (do
      let ov ← eval o X.env
      standAt apos.atName
      let (f, first) ← holding [ov] (getMethod ov m pl)
      callWith pos f first (backTo pos (starEach [] X.env)) (backToKw pos (keywordEach [] X.env))) := by rfl) :
    PE X (.Call (.Attribute o m apos) [] [] pos) (fun σ H Q => tMethR C m sp (WE W σ) ta tNil σ H Q) := by
  refine ⟨fun pins s σ H Q I h => PySem.W.methodCall_KW (pl := pl) (thn (he.run pins s σ H _ I h) fun u s1 hx1 => ?_) ht⟩
  obtain ⟨x, H1, I1, rx, a, dx, fs, ex, ea, l, q⟩ := hx1
  subst ex
  obtain rfl : u = Value.ref a := rx
  exact getmeth_ok I1 ea c hm l (PySem.W.callWith_K0 (first := [.ref a]) I1.kIn hm.kp (run_callX (us := [.ref a]) (vs := [.ref a]) F hr (passAt tk σ) I1 (.cons rfl .nil) q))
theorem pe_newX {f : Addr} {sp : Sp} {t : TA} (tk : Takes X W) (M0 : Mk X.K C f) (F : FnG X.prog X.w X.K X.mg X.base (L2.CX X.prog X.w) k f sp) (hr : RoomG (k + 1) X.A) (hg : Gl X x) (hm : X.mg x = some (.ref C)) (ha : PA X (e :: es) t) (hdb : (x == ("__debug__" : Str)) = false := by decide)
    (he : starEach (e :: es) X.env = (false, eval e X.env) :: starEach es X.env := by rfl) (hpl : (backTo pos (starEach es X.env)).any (·.1) = false := by rfl) : PE X (.Call (.Name x p) (e :: es) [] pos) (fun σ H Q => StX.tMakeR C sp (WE W σ) t σ H Q) := by
  refine ⟨fun pins s σ H Q I h => wpAny_Call_Name_kw (ld_glob I hg hm ?_ hdb)⟩
  refine PySem.W.callWith_K (h₀ := X.base) I.ok.mod.kin M0.kp (thn (ha.run pos pins s σ H _ I h) fun us s1 hx1 => ?_) he hpl
  obtain ⟨vs, H1, I1, r, q⟩ := hx1
  exact ⟨I1.kIn, run_makeX M0 F hr (passAt tk σ) I1 r q⟩
theorem pe_newX0 {f : Addr} {sp : Sp} (tk : Takes X W) (M0 : Mk X.K C f) (F : FnG X.prog X.w X.K X.mg X.base (L2.CX X.prog X.w) k f sp) (hr : RoomG (k + 1) X.A) (hg : Gl X x) (hm : X.mg x = some (.ref C)) (hdb : (x == ("__debug__" : Str)) = false := by decide) :
    PE X (.Call (.Name x p) [] [] pos) (fun σ H Q => StX.tMakeR C sp (WE W σ) tNil σ H Q) :=
  ⟨fun pins s σ H Q I h => wpAny_Call_Name_kw (ld_glob I hg hm (PySem.W.callWith_K0 I.kIn M0.kp (run_makeX (us := []) M0 F hr (passAt tk σ) I .nil h)) hdb)⟩
theorem pe_newSX {f : Addr} {sp : Sp} {te tf : TE} {sp_ : Pos} (tk : Takes X W) (M0 : Mk X.K C f) (F : FnG X.prog X.w X.K X.mg X.base (L2.CX X.prog X.w) k f sp) (hr : RoomG (k + 1) X.A) (hf : PE X (.Name x p) tf) (he : PE X e te)
    (hst : starEach [.Starred e sp_] X.env = [(true, eval e X.env)] := by rfl) :
    PE X (.Call (.Name x p) [.Starred e sp_] [] pos) (fun σ H Q => tf σ H fun z H0 => z = .ref C ∧ te σ H0 fun y H1 => ∃ a xs, y = V.ref a ∧ (SqT X.K H1 a xs ∨ SqL X.K H1 a xs) ∧ ∀ x dx, H1 x = Option.none → H1 dx = Option.none → dx ≠ x →
      sp (V.ref x :: xs) (upd (upd H1 dx (.own x)) x (.ins C dx [])) (fun v H2 => v = .non ∧ Q (.ref x) H2) (WE W σ)) := by
  refine ⟨fun pins s σ H Q I h => wpAny_Call_Name_kw (thn (hf.run pins s σ H _ I h) fun u s0 hx0 => ?_)⟩
  obtain ⟨z, H0, I0, rz, ez, q0⟩ := hx0
  subst ez
  obtain rfl : u = Value.ref C := rz
  refine PySem.W.callWith_S (h₀ := X.base) I.ok.mod.kin M0.kp (thn (he.run pins s0 σ H0 _ I0 q0) fun v s1 hx1 => ?_) hst
  obtain ⟨y, H1, I1, ry, a, xs, ey, hxs, q⟩ := hx1
  subst ey
  obtain rfl : v = Value.ref a := ry
  exact StX.star_any I1 hxs fun us s2 I2 rv => ⟨I2.kIn, run_makeX M0 F hr (passAt tk σ) I2 rv q⟩
theorem pe_newSSX {e1 e2 : Expr} {p1 p2 : Pos} {f : Addr} {sp : Sp} {tf : TE} {t : TA} (tk : Takes X W) (M0 : Mk X.K C f) (F : FnG X.prog X.w X.K X.mg X.base (L2.CX X.prog X.w) k f sp) (hr : RoomG (k + 1) X.A) (hf : PE X (.Name x p) tf) (ha : PA X [.Starred e1 p1, .Starred e2 p2] t)
    (hst : starEach [.Starred e1 p1, .Starred e2 p2] X.env = [(true, eval e1 X.env), (true, eval e2 X.env)] := by rfl) :
    PE X (.Call (.Name x p) [.Starred e1 p1, .Starred e2 p2] [] pos) (fun σ H Q => tf σ H fun z H0 => z = .ref C ∧ StX.tMakeR C sp (WE W σ) t σ H0 Q) := by
  refine ⟨fun pins s σ H Q I h => wpAny_Call_Name_kw (thn (hf.run pins s σ H _ I h) fun u s0 hx0 => ?_)⟩
  obtain ⟨z, H0, I0, rz, ez, q0⟩ := hx0
  subst ez
  obtain rfl : u = Value.ref C := rz
  have ha' := ha.run pos pins s0 σ H0 _ I0 q0
  rw [hst] at ha' ⊢
  refine PySem.W.ks_call (P := X.K.In) rfl (PySem.W.keeps_K M0.kp) (evalArgs_two (thn ha' fun us s1 hx1 => ?_))
  obtain ⟨vs, H1, I1, r, q⟩ := hx1
  exact ⟨I1.kIn, run_makeX M0 F hr (passAt tk σ) I1 r q⟩
theorem pe_cmethX {g q : Addr} {mc : Value} {sp : Sp} {ta : TE} {t : TA} {pl : Sem Bool} (tk : Takes X W) (he : PE X o ta) (r : ClX.CRead X.K C mc) (c : ClX.CMet X.K C mc m q g) (F : FnG X.prog X.w X.K X.mg X.base (L2.CX X.prog X.w) k g sp) (hr : RoomG k X.A) (ha : PA X (e :: es) t)
    (hst : starEach (e :: es) X.env = (false, eval e X.env) :: starEach es X.env := by rfl) (hpl : (backTo pos (starEach es X.env)).any (·.1) = false := by rfl)
    (ht : eval (.Call (.Attribute o m apos) (e :: es) [] pos) X.env = (do
      let ov ← eval o X.env
      standAt apos.atName
      let (f, first) ← holding [ov] (getMethod ov m pl)
      callWith pos f first (backTo pos (starEach (e :: es) X.env)) (backToKw pos (keywordEach [] X.env))) := by rfl) :
    PE X (.Call (.Attribute o m apos) (e :: es) [] pos) (fun σ H Q => ClX.tCMeth C sp (WE W σ) ta t σ H Q) := by
  refine ⟨fun pins s σ H Q I h => PySem.W.methodCall_KW (pl := pl) (thn (he.run pins s σ H _ I h) fun u s1 hx1 => ?_) ht⟩
  obtain ⟨x, H1, I1, rx, rfl, q⟩ := hx1
  obtain rfl : u = Value.ref C := rx
  refine ClX.getmethcm_ok I1 r c fun s2 I2 => ?_
  refine ClX.callwith_cm I2 (ClX.base_none I1 (Nat.le_refl _)) c.fi (thn (ha.run pos _ s2 σ H1 _ I2 q) fun us s3 hx3 => ?_) hst hpl
  obtain ⟨vs, H2, I3, rv, q2⟩ := hx3
  refine ⟨⟨ClX.pin_at I3, I3.kIn⟩, ?_⟩
  exact thn (wpAny_call (PySem.W.method_call (ClX.pin_at I3) (run_fnX (us := .ref C :: us) (vs := .ref C :: vs) F hr (passAt tk σ) I3 (.cons rfl rv) q2))) fun _ _ y => ClX.unpinE y
end
/-! readings -/
section
variable {X : Cx} {W : WX} {k : Nat} {sp : DSpX} {C : Addr} {x m : Str} {p pos apos : Pos} {e o : Expr} {es : List Expr} {te ta : DTE} {t : DTA}
theorem dex_of {te : DTE} (h : DE X e te) : DEX X W e (fun env m R _ => te env m R) := ⟨PE.weak h.run fun σ H Q ⟨env, m, R, F, eo, s, h, k, _⟩ => ⟨env, m, R, eo, s, h, k⟩⟩
/-- the promise asked behind the arguments -/
theorem spx_lift {env : Env} {σ : L2.St} {m m1 : M} {H H1 : Hp} {R : DK} {F : DXE} {Q : VK} {ds : List D} {vs : List V} (eo : EnvOk X.K m H σ env) (f1 : Fr m H m1 H1) (s1 : Sim X.K m1 H1) (r1 : RepL X.K m1 H1 ds vs) (h1 : sp ds m1 R fun C ns xs m' => F C ns xs env m')
    (k : ∀ d m' v H', R d m' → Fr m H m' H' → Sim X.K m' H' → Rep X.K m' H' d v → Q v H')
    (k2 : ∀ C ns xs env' m' cls d σ' H', F C ns xs env' m' → EnvOk X.K m' H' σ' env' → Sim X.K m' H' → Fr m H m' H' → ExR X.K m' H' C ns xs cls d → W cls d σ' H') : liftSpX X.K sp vs H1 Q (WE W σ) :=
  ⟨ds, m1, R, _, r1, s1, h1, fun d m' v H' a1 a2 a3 a4 => k d m' v H' a1 (f1.trans a2) a3 a4, fun C ns xs m' cls d H' a1 a2 a3 a4 => k2 C ns xs env m' cls d σ H' a1 (eo.mono (f1.trans a3)) a2 (f1.trans a3) a4⟩
def tClX (sp : DSpX) (t : DTA) : DTEX := fun env m R F => t env m fun ds m1 => sp ds m1 R fun C ns xs m' => F C ns xs env m'
theorem dex_call (c : CalX X x k sp) (hr : RoomG k X.A) (tk : Takes X W) (ha : DA X (e :: es) t) (hg : Gl X x := by rfl) (hd : (x == ("__debug__" : Str)) = false := by decide) (he : starEach (e :: es) X.env = (false, eval e X.env) :: starEach es X.env := by rfl)
    (hpl : (backTo pos (starEach es X.env)).any (·.1) = false := by rfl) : DEX X W (.Call (.Name x p) (e :: es) [] pos) (tClX sp t) := by
  obtain ⟨f, h1, h2, F⟩ := c.ex
  refine ⟨PE.weak (pe_callX tk F hr h2 hg h1 ha.run hd he hpl) fun σ H Q h => ?_⟩
  obtain ⟨env, m, R, F, eo, s, h, k, k2⟩ := h
  exact ⟨env, m, _, eo, s, h, fun ds m1 vs H1 h1 f1 s1 r1 => spx_lift eo f1 s1 r1 h1 k k2⟩
theorem dex_call0 (c : CalX X x k sp) (hr : RoomG k X.A) (tk : Takes X W) (hg : Gl X x := by rfl) (hd : (x == ("__debug__" : Str)) = false := by decide) : DEX X W (.Call (.Name x p) [] [] pos) (tClX sp tA0) := by
  obtain ⟨f, h1, h2, F⟩ := c.ex
  refine ⟨PE.weak (pe_callX0 tk F hr h2 hg h1 hd) fun σ H Q h => ?_⟩
  obtain ⟨env, m, R, F, eo, s, h, k, k2⟩ := h
  exact spx_lift eo Fr.refl s .nil h k k2
def tMtX (C : Addr) (m : Str) (sp : DSpX) (ta : DTE) (t : DTA) : DTEX := fun env st R F => ta env st fun o m1 => ∃ ns vs, look m1 o = .ins C ns vs ∧ m ∉ ns ∧ t env m1 fun ds m2 => sp (o :: ds) m2 R fun C ns xs m' => F C ns xs env m'
theorem dex_meth {pl : Sem Bool} (c : CalMX X C m k sp) (hc : Cls X.K C) (hr : RoomG k X.A) (tk : Takes X W) (ho : DE X o ta) (ha : DA X (e :: es) t)
    (hst : starEach (e :: es) X.env = (false, eval e X.env) :: starEach es X.env := by rfl) (hpl : (backTo pos (starEach es X.env)).any (·.1) = false := by rfl)
    (ht : eval (.Call (.Attribute o m apos) (e :: es) [] pos) X.env = (do
      let ov ← eval o X.env
      standAt apos.atName
      let (f, first) ← holding [ov] (getMethod ov m pl)
      callWith pos f first (backTo pos (starEach (e :: es) X.env)) (backToKw pos (keywordEach [] X.env))) := by rfl) :
    DEX X W (.Call (.Attribute o m apos) (e :: es) [] pos) (tMtX C m sp ta t) := by
  obtain ⟨f, hm, F⟩ := c.ex
  refine ⟨PE.weak (pe_methX tk ho.run hc hm F hr ha.run hst hpl ht) fun σ H Q h => ?_⟩
  obtain ⟨env, mm, R, F, eo, s, h, k, k2⟩ := h
  refine ⟨env, mm, _, eo, s, h, fun d m1 v H1 h1 f1 s1 r1 => ?_⟩
  obtain ⟨ns, vs, e1, hn, h1⟩ := h1
  have cc := cont_of s1 r1
  rw [e1] at cc
  obtain ⟨a, dx, fs, rfl, h2, rfl, r2⟩ := cc
  refine ⟨a, dx, fs, rfl, h2, lookup_none hn, env, m1, _, eo.mono f1, s1, h1, fun ds m2 ws H2 h3 f2 s2 r3 => ?_⟩
  exact spx_lift eo (f1.trans f2) s2 (.cons (Rep.mono f2 _ _ r1) r3) h3 k k2
theorem dex_meth0 {pl : Sem Bool} (c : CalMX X C m k sp) (hc : Cls X.K C) (hr : RoomG k X.A) (tk : Takes X W) (ho : DE X o ta)
    (ht : eval (.Call (.Attribute o m apos) [] [] pos) X.env = (do
      let ov ← eval o X.env
      standAt apos.atName
      let (f, first) ← holding [ov] (getMethod ov m pl)
      callWith pos f first (backTo pos (starEach [] X.env)) (backToKw pos (keywordEach [] X.env))) := by rfl) :
    DEX X W (.Call (.Attribute o m apos) [] [] pos) (tMtX C m sp ta tA0) := by
  obtain ⟨f, hm, F⟩ := c.ex
  refine ⟨PE.weak (pe_methX0 tk ho.run hc hm F hr ht) fun σ H Q h => ?_⟩
  obtain ⟨env, mm, R, F, eo, s, h, k, k2⟩ := h
  refine ⟨env, mm, _, eo, s, h, fun d m1 v H1 h1 f1 s1 r1 => ?_⟩
  obtain ⟨ns, vs, e1, hn, h1⟩ := h1
  have cc := cont_of s1 r1
  rw [e1] at cc
  obtain ⟨a, dx, fs, rfl, h2, rfl, r2⟩ := cc
  exact ⟨a, dx, fs, rfl, h2, lookup_none hn, spx_lift eo f1 s1 (.cons r1 .nil) h1 k k2⟩
def tCmX (C : Addr) (sp : DSpX) (t : DTA) : DTEX := fun env st R F => t env st fun ds m2 => sp (.ref C :: ds) m2 R fun C ns xs m' => F C ns xs env m'
theorem dex_cmeth {pl : Sem Bool} {cx : Str} {cp : Pos} (c : CalKX X C m k sp) (hr : RoomG k X.A) (tk : Takes X W) (hm : X.mg cx = some (.ref C)) (ha : DA X (e :: es) t) (hg : Gl X cx := by rfl) (hd : (cx == ("__debug__" : Str)) = false := by decide)
    (hst : starEach (e :: es) X.env = (false, eval e X.env) :: starEach es X.env := by rfl) (hpl : (backTo pos (starEach es X.env)).any (·.1) = false := by rfl)
    (ht : eval (.Call (.Attribute (.Name cx cp) m apos) (e :: es) [] pos) X.env = (do
      let ov ← eval (.Name cx cp) X.env
      standAt apos.atName
      let (f, first) ← holding [ov] (getMethod ov m pl)
      callWith pos f first (backTo pos (starEach (e :: es) X.env)) (backToKw pos (keywordEach [] X.env))) := by rfl) :
    DEX X W (.Call (.Attribute (.Name cx cp) m apos) (e :: es) [] pos) (tCmX C sp t) := by
  obtain ⟨mc, q, g, h1, h2, F⟩ := c.ex
  refine ⟨PE.weak (pe_cmethX tk (pe_glob (v := .ref C) hg hm rfl hd) h1 h2 F hr ha.run hst hpl ht) fun σ H Q h => ?_⟩
  obtain ⟨env, mm, R, F, eo, s, h, k, k2⟩ := h
  refine ⟨rfl, env, mm, _, eo, s, h, fun ds m1 vs H1 h1 f1 s1 r1 => ?_⟩
  exact spx_lift eo f1 s1 (.cons rep_ref r1) h1 k k2
/-- a new instance whose __init__ may raise -/
def tNwX (C : Addr) (sp : DSpX) (t : DTA) : DTEX := fun env st R F => t env st fun ds m1 => ∀ x, m1 x = none → sp (.ref x :: ds) (updM m1 x (.ins C [] [])) (fun d m2 => d = .non ∧ R (.ref x) m2) fun C ns xs m' => F C ns xs env m'
theorem nwx_lift {env : Env} {σ : L2.St} {m m1 : M} {H H1 : Hp} {R : DK} {F : DXE} {Q : VK} {ds : List D} {vs : List V} (eo : EnvOk X.K m H σ env) (f1 : Fr m H m1 H1) (s1 : Sim X.K m1 H1) (r1 : RepL X.K m1 H1 ds vs)
    (h : ∀ x, m1 x = none → sp (.ref x :: ds) (updM m1 x (.ins C [] [])) (fun d m2 => d = .non ∧ R (.ref x) m2) fun C ns xs m' => F C ns xs env m')
    (k : ∀ d m' v H', R d m' → Fr m H m' H' → Sim X.K m' H' → Rep X.K m' H' d v → Q v H')
    (k2 : ∀ C ns xs env' m' cls d σ' H', F C ns xs env' m' → EnvOk X.K m' H' σ' env' → Sim X.K m' H' → Fr m H m' H' → ExR X.K m' H' C ns xs cls d → W cls d σ' H') :
    ∀ x dx, H1 x = none → H1 dx = none → dx ≠ x → liftSpX X.K sp (V.ref x :: vs) (upd (upd H1 dx (.own x)) x (.ins C dx [])) (fun v H2 => v = .non ∧ Q (.ref x) H2) (WE W σ) := by
  intro x dx hx hdx ne
  have f0 := Fr.laid (o := .own x) s1 hdx
  have s2 := s1.laid (o := .own x) hdx
  have hx' : upd H1 dx (.own x) x = none := by rw [upd_ne ne.symm]; exact hx
  have f2 := Fr.laidM (o := .ins C dx []) (d := .ins C [] []) s2 hx'
  have s3 := Sim.laidM (o := .ins C dx []) (d := .ins C [] []) s2 hx' ⟨dx, [], upd_same, rfl, .nil⟩
  have f3 := (f1.trans f0).trans f2
  refine ⟨.ref x :: ds, _, _, _, .cons rep_ref (RepL.mono (f0.trans f2) _ _ r1), s3, h x (s1.free hx), fun d m' v H' a1 a2 a3 a4 => ?_, fun C ns xs m' cls d H' a1 a2 a3 a4 => k2 C ns xs env m' cls d σ H' a1 (eo.mono (f3.trans a3)) a2 (f3.trans a3) a4⟩
  obtain ⟨rfl, a1⟩ := a1
  exact ⟨by simpa only [Rep] using a4, k _ m' _ H' a1 (f3.trans a2) a3 rep_ref⟩
theorem dex_new (c : CalCX X C k sp) (hr : RoomG (k + 1) X.A) (tk : Takes X W) (hm : X.mg x = some (.ref C)) (ha : DA X (e :: es) t) (hg : Gl X x := by rfl) (hd : (x == ("__debug__" : Str)) = false := by decide)
    (he : starEach (e :: es) X.env = (false, eval e X.env) :: starEach es X.env := by rfl) (hpl : (backTo pos (starEach es X.env)).any (·.1) = false := by rfl) : DEX X W (.Call (.Name x p) (e :: es) [] pos) (tNwX C sp t) := by
  obtain ⟨f, M0, F⟩ := c.ex
  refine ⟨PE.weak (pe_newX tk M0 F hr hg hm ha.run hd he hpl) fun σ H Q h => ?_⟩
  obtain ⟨env, mm, R, F, eo, s, h, k, k2⟩ := h
  exact ⟨env, mm, _, eo, s, h, fun ds m1 vs H1 h1 f1 s1 r1 => nwx_lift eo f1 s1 r1 h1 k k2⟩
theorem dex_new0 (c : CalCX X C k sp) (hr : RoomG (k + 1) X.A) (tk : Takes X W) (hm : X.mg x = some (.ref C)) (hg : Gl X x := by rfl) (hd : (x == ("__debug__" : Str)) = false := by decide) : DEX X W (.Call (.Name x p) [] [] pos) (tNwX C sp tA0) := by
  obtain ⟨f, M0, F⟩ := c.ex
  refine ⟨PE.weak (pe_newX0 tk M0 F hr hg hm hd) fun σ H Q h => ?_⟩
  obtain ⟨env, mm, R, F, eo, s, h, k, k2⟩ := h
  exact nwx_lift eo Fr.refl s .nil h k k2
def tNwFX (C : Addr) (sp : DSpX) (tf : DTE) (t : DTA) : DTEX := fun env st R F => tf env st fun z m0 => z = .ref C ∧ tNwX C sp t env m0 R F
theorem dex_newS {tf : DTE} {sp_ : Pos} (c : CalCX X C k sp) (hr : RoomG (k + 1) X.A) (tk : Takes X W) (hf : DE X (.Name x p) tf) (ha : DE X e ta) (hst : starEach [.Starred e sp_] X.env = [(true, eval e X.env)] := by rfl) :
    DEX X W (.Call (.Name x p) [.Starred e sp_] [] pos) (tNwFX C sp tf (tAS ta tA0)) := by
  obtain ⟨f, M0, F⟩ := c.ex
  refine ⟨PE.weak (pe_newSX tk M0 F hr hf.run ha.run hst) fun σ H Q h => ?_⟩
  obtain ⟨env, m, R, F, eo, s, h, k, k2⟩ := h
  refine ⟨env, m, _, eo, s, h, fun z m0 v0 H0 h0 f0 s0 r0 => ?_⟩
  obtain ⟨rfl, h0⟩ := h0
  refine ⟨by simpa only [Rep] using r0, env, m0, _, eo.mono f0, s0, h0, fun d m1 v H1 h1 f1 s1 r1 => ?_⟩
  obtain ⟨xs, e1, h1⟩ := h1
  obtain ⟨q, vs, rfl, hq, rx⟩ := star_items (cont_of s1 r1) e1
  have h1 : ∀ x, m1 x = none → sp (.ref x :: (xs ++ [])) (updM m1 x (.ins C [] [])) (fun d m2 => d = .non ∧ R (.ref x) m2) fun C ns xs m' => F C ns xs env m' := h1
  rw [List.append_nil] at h1
  exact ⟨q, vs, rfl, hq, nwx_lift eo (f0.trans f1) s1 rx h1 k k2⟩
theorem dex_newSS {e1 e2 : Expr} {p1 p2 : Pos} {tf : DTE} (c : CalCX X C k sp) (hr : RoomG (k + 1) X.A) (tk : Takes X W) (hf : DE X (.Name x p) tf) (ha : DA X [.Starred e1 p1, .Starred e2 p2] t)
    (hst : starEach [.Starred e1 p1, .Starred e2 p2] X.env = [(true, eval e1 X.env), (true, eval e2 X.env)] := by rfl) :
    DEX X W (.Call (.Name x p) [.Starred e1 p1, .Starred e2 p2] [] pos) (tNwFX C sp tf t) := by
  obtain ⟨f, M0, F⟩ := c.ex
  refine ⟨PE.weak (pe_newSSX tk M0 F hr hf.run ha.run hst) fun σ H Q h => ?_⟩
  obtain ⟨env, m, R, F, eo, s, h, k, k2⟩ := h
  refine ⟨env, m, _, eo, s, h, fun z m0 v0 H0 h0 f0 s0 r0 => ?_⟩
  obtain ⟨rfl, h0⟩ := h0
  refine ⟨by simpa only [Rep] using r0, env, m0, _, eo.mono f0, s0, h0, fun ds m1 vs H1 h1 f1 s1 r1 => ?_⟩
  exact nwx_lift eo (f0.trans f1) s1 r1 h1 k k2
end
/-! arguments and displays with what may raise -/
abbrev DTAX := Env → M → (List D → M → Prop) → DXE → Prop
def liftAX (K : PySem.W.Frag) (W : WX) (t : DTAX) : TA := fun σ H Q => ∃ env m R F, EnvOk K m H σ env ∧ Sim K m H ∧ t env m R F ∧
  (∀ ds m' vs H', R ds m' → Fr m H m' H' → Sim K m' H' → RepL K m' H' ds vs → Q vs H') ∧
  (∀ C ns xs env' m' cls d σ' H', F C ns xs env' m' → EnvOk K m' H' σ' env' → Sim K m' H' → Fr m H m' H' → ExR K m' H' C ns xs cls d → W cls d σ' H')
structure DAX (X : Cx) (W : WX) (es : List Expr) (t : DTAX) : Prop where run : PA X es (liftAX X.K W t)
section
variable {X : Cx} {W : WX} {pos : Pos} {e o : Expr} {es : List Expr} {te : DTEX} {tr : DTAX}
theorem dax_of {t : DTA} (h : DA X es t) : DAX X W es (fun env m R _ => t env m R) := ⟨PA.weak h.run fun σ H Q ⟨env, m, R, F, eo, s, h, k, _⟩ => ⟨env, m, R, eo, s, h, k⟩⟩
def tACX (te : DTEX) (tr : DTAX) : DTAX := fun env m R F => te env m (fun d m1 => tr env m1 (fun ds m2 => R (d :: ds) m2) F) F
theorem dax_cons (ha : DEX X W e te) (hr : DAX X W es tr) (hs : starEach (e :: es) X.env = (false, eval e X.env) :: starEach es X.env := by rfl) : DAX X W (e :: es) (tACX te tr) := ⟨PA.weak (pa_cons ha.run hr.run hs) fun σ H Q h => by
  obtain ⟨env, m, R, F, eo, s, h, k, k2⟩ := h
  refine ⟨env, m, _, F, eo, s, h, fun d m1 v H1 h1 f1 s1 r1 => ?_, k2⟩
  refine ⟨env, m1, _, F, eo.mono f1, s1, h1, fun ds m2 vs H2 h2 f2 s2 r2 => ?_, fun C ns xs a b c d g i a1 a2 a3 a4 a5 => k2 C ns xs a b c d g i a1 a2 a3 (f1.trans a4) a5⟩
  exact k (_ :: ds) m2 (v :: vs) H2 h2 (f1.trans f2) s2 (.cons (Rep.mono f2 _ _ r1) r2)⟩
def tASX (te : DTEX) (tr : DTAX) : DTAX := fun env m R F => te env m (fun d m1 => ∃ xs, (look m1 d = .tup xs ∨ look m1 d = .lst xs) ∧ tr env m1 (fun ds m2 => R (xs ++ ds) m2) F) F
theorem dax_star {sp_ : Pos} (ha : DEX X W e te) (hr : DAX X W es tr) (hs : starEach (.Starred e sp_ :: es) X.env = (true, eval e X.env) :: starEach es X.env := by rfl) : DAX X W (.Starred e sp_ :: es) (tASX te tr) := ⟨PA.weak (StX.pa_star ha.run hr.run hs) fun σ H Q h => by
  obtain ⟨env, m, R, F, eo, s, h, k, k2⟩ := h
  refine ⟨env, m, _, F, eo, s, h, fun d m1 v H1 h1 f1 s1 r1 => ?_, k2⟩
  obtain ⟨xs, e1, h1⟩ := h1
  obtain ⟨q, vs, rfl, hq, rx⟩ := star_items (cont_of s1 r1) e1
  refine ⟨q, vs, rfl, hq, env, m1, _, F, eo.mono f1, s1, h1, fun ds m2 ws H2 h2 f2 s2 r2 => ?_, fun C ns xs a b c d g i a1 a2 a3 a4 a5 => k2 C ns xs a b c d g i a1 a2 a3 (f1.trans a4) a5⟩
  exact k (xs ++ ds) m2 (vs ++ ws) H2 h2 (f1.trans f2) s2 (RepL.append (RepL.mono f2 _ _ rx) r2)⟩
def tTupX (t : DTAX) : DTEX := fun env m R F => t env m (fun ds m1 => ds.length ≤ sizeLine ∧ R (.tup ds) m1) F
def tLstX (t : DTAX) : DTEX := fun env m R F => t env m (fun ds m1 => ds.length ≤ sizeLine ∧ R (.lst ds) m1) F
theorem dex_tup {x1 : Nat} {t : DTAX} (h : DAX X W es t) : DEX X W (.Tuple es x1 pos) (tTupX t) := ⟨PE.weak (pe_tup h.run) fun σ H Q h => by
  obtain ⟨env, m, R, F, eo, s, h, k, k2⟩ := h
  refine ⟨env, m, _, F, eo, s, h, fun ds m1 vs H1 h1 f1 s1 r1 => ?_, k2⟩
  obtain ⟨hl, h1⟩ := h1
  exact ⟨by rw [← r1.length]; exact hl, fun p hp => k _ m1 _ _ h1 (f1.trans (Fr.laid s1 hp)) (s1.laid hp) (new_tup s1 hp r1)⟩⟩
theorem dex_lst {t : DTAX} (h : DAX X W es t) : DEX X W (.List es pos) (tLstX t) := ⟨PE.weak (pe_lst h.run) fun σ H Q h => by
  obtain ⟨env, m, R, F, eo, s, h, k, k2⟩ := h
  refine ⟨env, m, _, F, eo, s, h, fun ds m1 vs H1 h1 f1 s1 r1 => ?_, k2⟩
  obtain ⟨hl, h1⟩ := h1
  exact ⟨by rw [← r1.length]; exact hl, fun p hp => k _ m1 _ _ h1 (f1.trans (Fr.laid s1 hp)) (s1.laid hp) (new_lst s1 hp r1)⟩⟩
/-- self.f = e -/
def tFlX (C : Addr) (f : Str) (ta : DTE) (tv : DTEX) : DTS := fun env m E => tv env m (fun d m1 => ta env m1 fun o m2 => ∃ p ns vs, o = .ref p ∧ m2 p = some (.ins C ns vs) ∧ vs.length < 1000 ∧ E.nx env (updM m2 p (.ins C (fputN f ns) (fputV f d ns vs)))) E.ex
theorem dxs_fld {C : Addr} {f : Str} {value : Expr} {ta : DTE} {tv : DTEX} {pos' : Pos} (ha : DE X o ta) (hv : DEX X W value tv) (c : Cls X.K C) (n : NoAttr X.K C f) (hs : swapsWith value (some (.Attribute o f pos')) pos.line X.env = pure false := by rfl) :
    DXS X W (.Assign [.Attribute o f pos'] value pos) (tFlX C f ta tv) := ⟨PS.weak (ps_fld ha.run hv.run hs) fun D σ H h => by
  obtain ⟨env, m, E, eo, s, h, k1, k2, k3, k4, k5⟩ := h
  refine ⟨env, m, _, _, eo, s, h, fun d m1 v H1 h1 f1 s1 r1 => ?_, k5⟩
  refine ⟨env, m1, _, eo.mono f1, s1, h1, fun x m2 w H2 h2 f2 s2 r2 => ?_⟩
  obtain ⟨p, ns, vs, rfl, hp, hl, h2⟩ := h2
  simp only [Rep] at r2
  subst r2
  obtain ⟨dx, fs, h3, rfl, r3⟩ := s2 p _ hp
  have fw : Fr m2 H2 (updM m2 p (.ins C (fputN f (fs.map (·.1))) (fputV f d (fs.map (·.1)) vs))) (upd H2 p (.ins C dx (putF f v fs))) := Fr.write hp
  refine ⟨p, C, dx, fs, rfl, h3, c, n, by have := r3.length; rw [List.length_map] at this; omega, k1 env _ σ _ h2 (eo.mono ((f1.trans f2).trans fw)) ?_ ((f1.trans f2).trans fw)⟩
  refine s2.write hp ⟨dx, _, upd_same, fput_N f v fs, ?_⟩
  exact fput_V f (Rep.mono fw _ _ (Rep.mono f2 _ _ r1)) (RepL.mono fw _ _ r3)⟩
end
end DL
/-! ### DL39: try .. except C as e, the error kept from then on -/
namespace DL
open PySem PySem.Spec PyProof.Rows L2
theorem XO_ne_own {a C dd x : Addr} : XO a C dd ≠ .own x := fun z => by
  unfold XO at z; cases z
theorem XO_ok {P : Program} {w : World} {H : Hp} {h : Heap} {a C dd : Addr} {oe : Obj} {vs : Array Value} (g : h.get? a = some oe) (z : Zc (.ref C) (some dd) oe) (hd : oe.data = .fields vs) : ObjOk P w H h a (XO a C dd) :=
  ⟨⟨oe, vs, g, z.1, z.2, hd⟩, ⟨oe, g⟩, fun h1 h2 y k => by
    obtain ⟨o2, v2, g2, r⟩ := y
    exact ⟨o2, v2, k _ g2, r⟩⟩
theorem XO_at {P : Program} {w : World} {H : Hp} {h : Heap} {a C dd : Addr} (hok : HOk P w H h) (e : H a = some (XO a C dd)) : ∃ (oe : Obj) (vs : Array Value), h.get? a = some oe ∧ oe.cls = .ref C ∧ oe.dict = some dd ∧ oe.data = .fields vs := by
  have x : ObjOk P w H h a (.ext fun h => ∃ (oe : Obj) (vs : Array Value), h.get? a = some oe ∧ oe.cls = .ref C ∧ oe.dict = some dd ∧ oe.data = .fields vs) := hok a _ e
  exact x.1
section
variable {X : Cx} {pins : List (Addr × Obj)} {σ : L2.St} {H : Hp} {sI s' : Shared} {B : Heap} {a C dd : Addr} {oe : Obj} {vs : Array Value}
/-- the ground is reached: the error is one of our objects from now on -/
theorem kept_err (I : Inv X pins σ H sI) (nb : ∀ b o, sI.heap.get? b = some o → b ∉ frs X.stack → B.get? b = some o) (st : B.StaysIn s'.heap) (up : sI.heap.UpToSlots s'.heap) (os : s'.os = sI.os) (ag : AllBare s'.gens)
    (na : H a = none) (bn : B.get? a = none) (nf : a ∉ frs X.stack) (g : s'.heap.get? a = some oe) (z : Zc (.ref C) (some dd) oe) (hd : oe.data = .fields vs) : Inv X pins σ (upd H a (XO a C dd)) s' := by
  have nI : ∀ b o, sI.heap.get? b = some o → b ≠ a := fun b o e q => by
    rw [q] at e
    have y := nb a o e nf
    rw [bn] at y; cases y
  have slots : ∀ b o, sI.heap.get? b = some o → ∃ sl, s'.heap.get? b = some { o with slots := sl } := fun b o e => by
    by_cases m : b ∈ frs X.stack
    · obtain ⟨_, o', e', hnf⟩ := I.stack.mem m
      rw [e] at e'; cases e'
      exact up b o e hnf
    · exact ⟨o.slots, st b o (nb b o e m)⟩
  have other : ∀ {b : Addr} {u : HO}, H b = some u → upd H a (XO a C dd) b = some u := fun {b u} e => by rw [upd_ne (ne_of_none e na)]; exact e
  refine I.call' (ch := []) os ⟨fun b o e _ m _ => st b o (nb b o e m), fun b o e _ _ _ => slots b o e, fun b o e n _ => by rw [upd_ne (nI b o e)]; exact n, fun b o e _ => ?_, fun b xs e => other e, fun b o v e => other e, fun b ps e => ⟨#[], by rw [other e]; simp⟩⟩ (fun b u e => ?_) ag (fun _ q => nomatch q)
  · obtain ⟨sl, y⟩ := slots b o e
    exact ⟨_, y⟩
  · by_cases hb : b = a
    · subst hb
      rw [upd_same] at e
      cases e
      exact XO_ok g z hd
    · rw [upd_ne hb] at e
      exact (((I.inGround nb).kept st) b u e).stay (fun _ _ _ q => q) (fun d q => other q) fun d xs q => other q
theorem suite_in (I : Inv X pins σ H s') {a : Addr} : Inv (X.suite a (X.pn ++ pins)) [] σ H s' :=
  ⟨I.ok.suite _ _, I.os, I.bare, I.base, I.loc, I.cell, I.free, I.freeC, fun p hp => I.pin p (by rw [List.append_nil] at hp; exact hp), I.hok, I.len⟩
theorem suite_out {a : Addr} {pn' : List (Addr × Obj)} (I : Inv (X.suite a (X.pn ++ pins)) pn' σ H s') (ok : X.Ok) : Inv X pins σ H s' :=
  ⟨ok, I.os, I.bare, I.base, I.loc, I.cell, I.free, I.freeC, fun p hp => I.pin p (List.mem_append_left _ hp), I.hok, I.len⟩
end
/-- the wish of the clause: slot i is the error's name -/
def wErr (K : PySem.W.Frag) (c : Value) (i : Nat) (ts : TS) (Wout : WX) (D : Ends) : WX := fun cls d σ H => ∃ b, PySem.W.exmOne K cls c = some b ∧ (b = false → Wout cls d σ H) ∧
  (b = true → ∃ C dd, cls = .ref C ∧ d = some dd ∧ ∀ a, H a = none → ts { nx := fun σ' H' => D.nx (σ'.set i none) H', rt := D.rt, bk := fun σ' H' => D.bk (σ'.set i none) H', ct := fun σ' H' => D.ct (σ'.set i none) H' } (σ.set i (some (.ref a))) (upd H a (XO a C dd)))
section
variable {X : Cx} {x n : Str} {c : Value} {i : Nat} {body suite : List Stmt} {st0 : Stmt} {np pos pos' : Pos} {tb : WX → TS} {ts : TS} {Wout : WX}
/-- the suite runs, the name goes -/
theorem err_suite {pins : List (Addr × Obj)} {σ : L2.St} {H : Hp} {D : Ends} {a : Addr} {s5 : Shared} (ok : X.Ok) (hN : X.N.Nodup) (hi : X.N[i]? = some n) (hl : X.env.kindOf n = some .local) (hsu : PSs (X.suite a (X.pn ++ pins)) (st0 :: suite) ts) (I : Inv (X.suite a (X.pn ++ pins)) [] σ H s5)
    (h : ts { nx := fun σ' H' => D.nx (σ'.set i none) H', rt := D.rt, bk := fun σ' H' => D.bk (σ'.set i none) H', ct := fun σ' H' => D.ct (σ'.set i none) H' } σ H) :
    wpAny (model X.prog X.w) (X.A.mark (some (.ref a))) (execs (st0 :: suite) X.env) (fun f s6 => wpAny (model X.prog X.w) X.A (do bindName X.env n .none; unbindBehindTheSuite X.env n pos') (fun _ s7 => SP X pins D f s7) X.xe s6) (fun _ _ => False) s5 := by
  refine wpAny_mono (hsu.run [] s5 σ H _ I h) (fun f s6 y => ?_) fun _ _ q => q
  match f, y with
  | .next, y =>
    obtain ⟨σ6, H6, J, q⟩ := y
    exact gone_ok (suite_out J ok) hN hi hl fun s7 J7 => ⟨_, _, J7, q⟩
  | .brk, y =>
    obtain ⟨σ6, H6, J, q⟩ := y
    exact gone_ok (suite_out J ok) hN hi hl fun s7 J7 => ⟨_, _, J7, q⟩
  | .cont, y =>
    obtain ⟨σ6, H6, J, q⟩ := y
    exact gone_ok (suite_out J ok) hN hi hl fun s7 J7 => ⟨_, _, J7, q⟩
  | .ret u, y =>
    obtain ⟨v6, σ6, H6, J, r, q⟩ := y
    exact gone_ok (suite_out J ok) hN hi hl fun s7 J7 => ⟨_, _, _, J7, r, q⟩
theorem ps_tryX (hst : X.stack = X.env :: X.outer) (hfm : X.env.frame = some X.env.locals) (hN : X.N.Nodup) (hi : X.N[i]? = some n) (hl : X.env.kindOf n = some .local) (hc : Names X x c) (tk : Takes X Wout)
    (hb : ∀ (W : WX) (pn : List (Addr × Obj)) (xe : Value → Shared → Prop), Takes (X.tr pn xe) W → PassesOwn (model X.prog X.w) X.A X.env xe → PSs (X.tr pn xe) body (tb W)) (hsu : ∀ (a : Addr) (pn : List (Addr × Obj)), PSs (X.suite a pn) (st0 :: suite) ts) :
    PS X (.Try body [.ExceptHandler (some (.Name x np)) (some n) (st0 :: suite) pos'] [] [] pos) (fun D σ H => tb (wErr X.K c i ts Wout D) D σ H) := by
  refine ⟨fun pins s σ H D I h => ?_⟩
  have ok := I.ok
  have fr : X.A.frames = some (X.env :: X.outer) := by rw [ok.frames, hst]
  have key : ∀ (u : Value) (s1 : Shared), XE (X.tr (X.pn ++ pins) (fun e s₁ => wpAny (model X.prog X.w) X.A (noteFrame e X.env) (fun _ s₂ => wpAny (model X.prog X.w) X.A (setFlight e none) (fun _ s₃ =>
      wpAny (model X.prog X.w) X.A (handleBy e X.env [.ExceptHandler (some (.Name x np)) (some n) (st0 :: suite) pos']) (SP X pins D) X.xe s₃) X.xe s₂) X.xe s₁)) (wErr X.K c i ts Wout D) u s1 →
      wpAny (model X.prog X.w) X.A (noteFrame u X.env) (fun _ s₂ => wpAny (model X.prog X.w) X.A (setFlight u none) (fun _ s₃ =>
      wpAny (model X.prog X.w) X.A (handleBy u X.env [.ExceptHandler (some (.Name x np)) (some n) (st0 :: suite) pos']) (SP X pins D) X.xe s₃) X.xe s₂) X.xe s1 := by
    intro u s1 hx
    obtain ⟨a, B, sI, pins1, σ1, H1, cls, d, rfl, J0, nb, up, sky, na, os, ag, b, e1, wNo, wYes⟩ := hx
    have J : Inv X pins σ1 H1 sI := J0.ofTry ok
    have sky1 : Sky B (X.env :: X.outer) a (Zc cls d) X.env.locals s1.heap := by rw [← hst]; exact sky
    refine Sky.land Zc.steady fr hfm sky1 fun h3 fl up3 => ?_
    have bn : B.get? a = none := fl.2.1
    obtain ⟨o3, v3, g3, z3, d3⟩ := fl.there
    have nfr : a ∉ frs (X.env :: X.outer) := fun m => by
      obtain ⟨_, o', e', hnf⟩ := fl.2.2.1.mem m
      rw [g3] at e'; cases e'
      exact hnf _ d3
    have nfs : a ∉ frs X.stack := by rw [hst]; exact nfr
    have nloc : a ≠ X.env.locals := fun q => nfr (List.mem_filterMap.mpr ⟨X.env, .head _, by rw [hfm, q]⟩)
    have nfx : a ∉ X.fs := fun m => by
      obtain ⟨e, he, q⟩ := List.mem_filterMap.mp m
      exact nfr (List.mem_filterMap.mpr ⟨e, .tail _ he, q⟩)
    have J3 : Inv X pins σ1 H1 { s1 with heap := h3 } := J.landed nb fl.1 (up.trans up3) os ag
    have P3 := J3.suite g3 d3 na nloc nfx
    refine wpAny_handleBy_cons (codeAny_handlers_test ?_) (by intro q; cases q)
    have clsOf : PySem.W.Looks (model X.prog X.w) h3 (typeOf (.ref a)) cls := fun A Q E s k q => wpAny_typeOf_ref (k _ _ g3) (by rw [z3.1]; exact q)
    have asked : ∀ {Q E : Value → Shared → Prop}, Q c { s1 with heap := h3 } → wpAny (model X.prog X.w) (X.A.mark (some (.ref a))) (eval (.Name x np) X.env) Q E { s1 with heap := h3 } := fun {Q E} q => by
      rcases hc with ⟨hg, hdb, hm | ⟨hm, hv, hnn⟩⟩
      · exact ld_glob (X := X.suite a ((a, o3) :: (X.pn ++ pins))) P3 hg hm q hdb
      · exact ld_blt (X := X.suite a ((a, o3) :: (X.pn ++ pins))) P3 hg hm hv q hnn hdb
    refine asked ((PySem.W.exm_one (M := model X.prog X.w) J3.kIn clsOf e1).here ?_)
    cases b with
    | true =>
      obtain ⟨C, dd, rfl, rfl, wS⟩ := wYes rfl
      refine codeAny_handlers_suite_as (HandSPX.lands_againZ fl fun h4 fl4 up4 => ?_)
      obtain ⟨o4, v4, g4, z4, d4⟩ := fl4.there
      have J4 : Inv X pins σ1 (upd H1 a (XO a C dd)) { s1 with heap := h4 } := kept_err J nb fl4.1 ((up.trans up3).trans up4) os ag na bn nfs g4 z4 d4
      refine store_ok (X := X.suite a (X.pn ++ pins)) (v := .ref a) (suite_in J4) hN hi (Or.inl hl) rfl (fun s5 S5 => ?_) (.inr hl)
      exact wpAny_mono (err_suite ok hN hi hl (hsu a (X.pn ++ pins)) S5 (wS a na)) (fun _ _ q => q) fun _ _ q => q.elim
    | false =>
      refine wpAny_handleBy_nil ?_
      have wN := wNo rfl
      have away : wpAny (model X.prog X.w) X.A (setFlight (.ref a) X.env.frame) (fun _ s4 => wpAny (model X.prog X.w) X.A (throw (.ref a) : Sem Flow) (SP X pins D) X.xe s4) X.xe { s1 with heap := h3 } := by
        rw [hfm]
        exact HandSPX.setFlight_upZ fl fun h4 hh up4 => wpAny_throw (tk _ _ ⟨a, B, sI, pins, σ1, H1, cls, d, rfl, J, nb, (up.trans up3).trans up4, .inr (.inr (by rw [hst]; exact hh)), na, os, ag, wN⟩)
      obtain ⟨_, _, _, o9, v9, T, oT, w9, g9, _, d9, h9, _⟩ := id fl
      unfold PySem.passOn
      refine wpAny_bind (wpAny_field g9 d9 h9 ?_)
      rw [if_neg (show ¬ ((Value.ref T == Value.none) = true) from by simp)]
      first
        | exact wpAny_bind (wpAny_pure (wpAny_bind away))
        | exact wpAny_bind away
  refine wpAny_Try_except (wpAny_mono ((hb (wErr X.K c i ts Wout D) (X.pn ++ pins) _ key PassesOwn.looking).run [] s σ H D (I.toTry _) h) (fun f s1 y => ?_) fun e s1 y => y)
  match f, y with
  | .next, y =>
    obtain ⟨σ1, H1, J, q⟩ := y
    exact wpAny_execs_nil ⟨σ1, H1, J.ofTry ok, q⟩
  | .brk, y =>
    obtain ⟨σ1, H1, J, q⟩ := y
    exact ⟨σ1, H1, J.ofTry ok, q⟩
  | .cont, y =>
    obtain ⟨σ1, H1, J, q⟩ := y
    exact ⟨σ1, H1, J.ofTry ok, q⟩
  | .ret u, y =>
    obtain ⟨v, σ1, H1, J, r, q⟩ := y
    exact ⟨v, σ1, H1, J.ofTry ok, r, q⟩
end
end DL
/-! ### DL40: try .. except C as e over data; what is asked of a caught error: isinstance, fields -/
namespace DL
open PySem PySem.Spec PyProof.Rows L2
/-- the classes that the clause takes -/
def JX (K : PySem.W.Frag) (c : Value) (J : Addr → Option Bool) : Prop := ∀ C b, J C = some b → PySem.W.exmOne K (.ref C) c = some b
def tErr (J : Addr → Option Bool) (i : Nat) (tb ts : DTS) : DTS := fun env m E => tb env m { E with ex := fun C ns xs e1 m1 => ∃ b, J C = some b ∧ (b = false → E.ex C ns xs e1 m1) ∧
  (b = true → ts (e1.set i (some (.exc C ns xs))) m1 { nx := fun e2 m2 => E.nx (e2.set i none) m2, rt := E.rt, bk := fun e2 m2 => E.bk (e2.set i none) m2, ct := fun e2 m2 => E.ct (e2.set i none) m2 }) }
section
variable {X : Cx} {x n : Str} {c : Value} {J : Addr → Option Bool} {i : Nat} {body suite : List Stmt} {st0 : Stmt} {np pos pos' : Pos} {tb ts : DTS} {W : WX}
theorem dxs_try (hJ : JX X.K c J) (hN : X.N.Nodup) (hc : Names X x c) (tk : Takes X W)
    (hb : ∀ (W : WX) (pn : List (Addr × Obj)) (xe : Value → Shared → Prop), Takes (X.tr pn xe) W → PassesOwn (model X.prog X.w) X.A X.env xe → DXSs (X.tr pn xe) W body tb) (hsu : ∀ (a : Addr) (pn : List (Addr × Obj)), DSs (X.suite a pn) (st0 :: suite) ts)
    (hi : X.N[i]? = some n := by rfl) (hl : X.env.kindOf n = some .local := by rfl) (hst : X.stack = X.env :: X.outer := by rfl) (hfm : X.env.frame = some X.env.locals := by rfl) :
    DXS X W (.Try body [.ExceptHandler (some (.Name x np)) (some n) (st0 :: suite) pos'] [] [] pos) (tErr J i tb ts) := by
  refine ⟨PS.weak (ps_tryX (tb := fun W => liftSX X.K W tb) (ts := liftS X.K ts) hst hfm hN hi hl hc tk (fun W pn xe t o => (hb W pn xe t o).run) (fun a pn => (hsu a pn).run)) fun D σ H h => ?_⟩
  obtain ⟨env, m, E, eo, s, h, k1, k2, k3, k4, k5⟩ := h
  refine ⟨env, m, _, eo, s, h, k1, k2, k3, k4, fun C ns xs e1 m1 cls d σ1 H1 hx eo1 s1 f1 r => ?_⟩
  obtain ⟨b, e, hno, hyes⟩ := hx
  obtain ⟨rfl, dd, fs, rfl, nd, hd, hn, rr⟩ := r
  refine ⟨b, hJ C b e, fun hb => k5 C ns xs e1 m1 _ _ σ1 H1 (hno hb) eo1 s1 f1 ⟨rfl, dd, fs, rfl, nd, hd, hn, rr⟩, fun hb => ⟨C, dd, rfl, rfl, fun a na => ?_⟩⟩
  have fl := Fr.laid (o := XO a C dd) s1 na
  have ne : dd ≠ a := fun q => by rw [q, na] at hd; cases hd
  have rp : Rep X.K m1 (upd H1 a (XO a C dd)) (.exc C ns xs) (.ref a) := by
    simp only [Rep]
    exact ⟨a, dd, fs, rfl, s1.free na, upd_same, nd, by rw [upd_ne ne]; exact hd, hn, RepL.mono fl _ _ rr⟩
  have ff := f1.trans fl
  exact ⟨_, m1, _, (eo1.mono fl).set i rp, s1.laid na, hyes hb, fun e2 m2 σ2 H2 a1 a2 a3 a4 => k1 _ m2 _ H2 a1 (a2.unset i) a3 (ff.trans a4), fun d m2 v H2 a1 a2 a3 a4 => k2 d m2 v H2 a1 (ff.trans a2) a3 a4,
    fun e2 m2 σ2 H2 a1 a2 a3 a4 => k3 _ m2 _ H2 a1 (a2.unset i) a3 (ff.trans a4), fun e2 m2 σ2 H2 a1 a2 a3 a4 => k4 _ m2 _ H2 a1 (a2.unset i) a3 (ff.trans a4)⟩
/-- .. in a def that lets nothing out -/
theorem ds_of_never (h : DXS X (fun _ _ _ _ => False) (.Try body [.ExceptHandler (some (.Name x np)) (some n) (st0 :: suite) pos'] [] [] pos) (tErr J i tb ts)) :
    DS X (.Try body [.ExceptHandler (some (.Name x np)) (some n) (st0 :: suite) pos'] [] [] pos) (fun env m E => tErr J i tb ts env m { E with ex := fun _ _ _ _ _ => False }) :=
  ⟨PS.weak h.run fun D σ H ⟨env, m, E, eo, s, h, k1, k2, k3, k4⟩ => ⟨env, m, _, eo, s, h, k1, k2, k3, k4, fun _ _ _ _ _ _ _ _ _ z => z.elim⟩⟩
def tErr0 (J : Addr → Option Bool) (i : Nat) (tb ts : DTS) : DTS := fun env m E => tErr J i tb ts env m { E with ex := fun _ _ _ _ _ => False }
theorem ds_try (hJ : JX X.K c J) (hN : X.N.Nodup) (hc : Names X x c)
    (hb : ∀ (W : WX) (pn : List (Addr × Obj)) (xe : Value → Shared → Prop), Takes (X.tr pn xe) W → PassesOwn (model X.prog X.w) X.A X.env xe → DXSs (X.tr pn xe) W body tb) (hsu : ∀ (a : Addr) (pn : List (Addr × Obj)), DSs (X.suite a pn) (st0 :: suite) ts)
    (hi : X.N[i]? = some n := by rfl) (hl : X.env.kindOf n = some .local := by rfl) (hst : X.stack = X.env :: X.outer := by rfl) (hfm : X.env.frame = some X.env.locals := by rfl) :
    DS X (.Try body [.ExceptHandler (some (.Name x np)) (some n) (st0 :: suite) pos'] [] [] pos) (tErr0 J i tb ts) := ds_of_never (dxs_try hJ hN hc takes0 hb hsu hi hl hst hfm)
end
/-! isinstance of a caught error -/
section
variable {X : Cx}
theorem err_inst {pins : List (Addr × Obj)} {σ : L2.St} {H : Hp} {s : Shared} {a C dd : Addr} {fs : List (Str × V)} (I : Inv X pins σ H s) (h1 : H a = some (XO a C dd)) (h2 : H dd = some (.xd fs)) :
    ∃ oe od mA, PySem.W.InstAt s.heap a oe C (some od) ∧ s.heap.Ns1 dd mA ∧ s.heap.get? dd = some od ∧ (∀ f, RelO (fs.lookup f) (mA f)) := by
  obtain ⟨oe, vs, g, z1, z2, z3⟩ := XO_at I.hok h1
  have hx : ObjOk X.prog X.w H s.heap dd (.xd fs) := I.hok dd _ h2
  obtain ⟨mA, hns, hr⟩ := hx
  obtain ⟨od, es, ep, ho, hl⟩ := id hns
  exact ⟨oe, od, mA, ⟨g, z1, by unfold PySem.W.notCls; rw [z3] <;> rfl, by rw [z2]; exact ho⟩, hns, ho, hr⟩
theorem err_kit {K : PySem.W.Frag} {a C : Addr} {oe od : Obj} (T : ExcC K C) : PySem.W.KitX K (.ref a) (.ref C) (fun h => PySem.W.InstAt h a oe C (some od)) := by
  obtain ⟨q, hq, _⟩ := PySem.W.any_some T.hd
  exact PySem.W.kitx_exc (by rw [hq]; rfl) T.hg T.hk T.hs T.ha T.hn T.ht T.hm
/-- isinstance(e, c) | isinstance(e, (c, ..)) -/
def rErrI (K : PySem.W.Frag) : List V → Hp → VK → Prop := fun xs H Q => ∃ (a C dd : Addr) (fs : List (Str × V)) (c : V) (b : Bool), xs = [.ref a, c] ∧ H a = some (XO a C dd) ∧ H dd = some (.xd fs) ∧ ExcC K C ∧
  ((∃ cv, (∀ u, RelV c u → u = cv) ∧ PySem.W.kitOne K (.ref C) cv = some b) ∨ ∃ q ws, c = .ref q ∧ SqT K H q ws ∧ ∀ us, Vals ws us → PySem.W.kitAny K (.ref C) us = some b) ∧ Q (.bl b) H
theorem call_errI : CallR X (.builtin "isinstance") (rErrI X.K) := by
  intro pins s σ H xs us Q I r h
  obtain ⟨a, C, dd, fs, c, b, rfl, h1, h2, T, hc, q⟩ := h
  obtain ⟨oe, od, _, J, _, _, _⟩ := err_inst I h1 h2
  match us, r with
  | [u0, u1], .cons r0 (.cons r1 .nil) =>
    obtain rfl : u0 = Value.ref a := r0
    have fin : ∀ tk, EP X pins σ Q (.bool b) { s with toks := tk } := fun tk => ⟨.bl b, H, I.kept (t' := tk) fun _ _ y => y, rfl, q⟩
    rcases hc with ⟨cv, e1, e2⟩ | ⟨p, ws, rfl, hp, e1⟩
    · rw [e1 _ r1]
      exact PySem.W.kia_one (err_kit T) I.kIn J e2 (fun y => nomatch y) fin
    · obtain rfl : u1 = Value.ref p := r1
      obtain ⟨its, o, n, hv, g, g1, g2⟩ := sqT_at I.hok I.kIn hp
      obtain ⟨oc, od', oda, osl⟩ := o
      dsimp only at g1 g2
      subst g1 g2
      exact PySem.W.kia_tup (err_kit T) I.kIn J g (e1 its hv) (fun y => nomatch y) fin
end
/-- a table of answers; that of ValueError stands for the class being an error's -/
def anyJ (J : Addr → Ty → Option Bool) (C : Addr) : List D → Option Bool
  | [] => some false
  | c :: r => match clD c with
    | some u => match J C u with
      | some true => some true
      | some false => anyJ J C r
      | none => none
    | none => none
def dIsiX (J : Addr → Ty → Option Bool) (m : M) : List D → Option D
  | [x, c] => match look m x with
    | .exc C _ _ => match J C (.inl "ValueError") with
      | some true => match c with
        | .tup cs => (anyJ J C cs).map .bl
        | c => match clD c with
          | some u => (J C u).map .bl
          | none => none
      | _ => none
    | _ => none
  | _ => none
def JE (K : PySem.W.Frag) (J : Addr → Ty → Option Bool) : Prop := ∀ C u b, J C u = some b → PySem.W.kitOne K (.ref C) (valT u) = some b ∧ ExcC K C
theorem cl_val {K : PySem.W.Frag} {m : M} {H : Hp} {c : D} {u : Ty} {v : V} (e : clD c = some u) (r : Rep K m H c v) : ∀ w, RelV v w → w = valT u := by
  unfold clD at e
  split at e
  · cases e
    simp only [Rep] at r
    subst r
    exact fun w q => q
  · cases e
    simp only [Rep] at r
    subst r
    exact fun w q => q
  · cases e
theorem anyJ_ok {K : PySem.W.Frag} {m : M} {H : Hp} {J : Addr → Ty → Option Bool} {C : Addr} (hJ : JE K J) : ∀ {cs : List D} {vs : List V} {b : Bool}, anyJ J C cs = some b → RepL K m H cs vs → ∀ us, Vals vs us → PySem.W.kitAny K (.ref C) us = some b
  | [], vs, b, e, r, us, hu => by
    simp only [RepL] at r
    subst r
    cases hu
    exact e
  | c :: cs, vs, b, e, r, us, hu => by
    simp only [RepL] at r
    obtain ⟨v, vr, rfl, r1, r2⟩ := r
    cases hu with
    | cons h1 h2 =>
      unfold anyJ at e
      split at e
      · rename_i u eu
        rw [cl_val eu r1 _ h1]
        split at e
        · rename_i ej
          rw [← e]
          unfold PySem.W.kitAny
          rw [(hJ _ _ _ ej).1]
        · rename_i ej
          have ih := anyJ_ok hJ e r2 _ h2
          unfold PySem.W.kitAny
          rw [(hJ _ _ _ ej).1]
          exact ih
        · cases e
      · cases e
theorem dc_isiX {X : Cx} {J : Addr → Ty → Option Bool} (hJ : JE X.K J) : DCall X (.builtin "isinstance") (dIsiX J) := callW call_errI fun vs H Q ⟨ds, m, d, r, s, e, q⟩ => by
  unfold dIsiX at e
  split at e
  · rename_i x c
    simp only [RepL] at r
    obtain ⟨v1, r', rfl, h1, v2, r2, rfl, h2, rfl⟩ := r
    split at e
    · rename_i C ns xs ex
      have cc := cont_of s h1
      rw [ex] at cc
      simp only [Cont, Rep] at cc
      obtain ⟨a, dd, fs, rfl, _, g1, _, g2, _, _⟩ := cc
      split at e
      · rename_i ev
        obtain ⟨_, T⟩ := hJ _ _ _ ev
        split at e
        · rename_i cs
          obtain ⟨b, eb, rfl⟩ := Option.map_eq_some_iff.mp e
          simp only [Rep] at h2
          obtain ⟨p, ws, rfl, hp, rw'⟩ := h2
          exact ⟨a, C, dd, fs, _, b, rfl, g1, g2, T, .inr ⟨p, ws, rfl, tupAt_sq hp, fun us hu => anyJ_ok hJ eb rw' us hu⟩, q _ _ Fr.refl s rep_bl⟩
        · split at e
          · rename_i u eu
            obtain ⟨b, eb, rfl⟩ := Option.map_eq_some_iff.mp e
            exact ⟨a, C, dd, fs, _, b, rfl, g1, g2, T, .inl ⟨_, cl_val eu h2, (hJ _ _ _ eb).1⟩, q _ _ Fr.refl s rep_bl⟩
          · cases e
      · cases e
    · cases e
  · cases e
/-! a field of a caught error -/
def XF (K : PySem.W.Frag) (G : Addr → Str → Bool) : Prop := ∀ C f, G C f = true → XfC K C ∧ PySem.W.findIn K (.ref C) f = some none
def tXfl (G : Addr → Str → Bool) (f : Str) (te : DTE) : DTE := fun env m Q => te env m fun x m1 => ∃ C ns vs d, look m1 x = .exc C ns vs ∧ G C f = true ∧ fget f ns vs = some d ∧ Q d m1
section
variable {X : Cx} {e : Expr} {te : DTE} {pos : Pos}
theorem de_xfl {f : Str} {G : Addr → Str → Bool} (hG : XF X.K G) (he : DE X e te) (hb : attributeBase e f X.env (eval e X.env) = eval e X.env := by rfl) : DE X (.Attribute e f pos) (tXfl G f te) := by
  refine ⟨⟨fun pins s σ H Q I h => ?_⟩⟩
  obtain ⟨env, m, R, eo, sm, h, k⟩ := h
  have h0 : liftE X.K te σ H (fun v H1 => ∃ C a dd fs w, v = .ref a ∧ H1 a = some (XO a C dd) ∧ H1 dd = some (.xd fs) ∧ G C f = true ∧ fs.lookup f = some w ∧ Q w H1) := by
    refine ⟨env, m, _, eo, sm, h, fun x m1 v H1 h1 f1 s1 r1 => ?_⟩
    obtain ⟨C, ns, vs, d, e1, eg, e2, h1⟩ := h1
    have cc := cont_of s1 r1
    rw [e1] at cc
    simp only [Cont, Rep] at cc
    obtain ⟨a, dd, fs, rfl, _, g1, _, g2, rfl, r2⟩ := cc
    obtain ⟨w, e3, r3⟩ := fget_rep r2 e2
    exact ⟨C, a, dd, fs, w, rfl, g1, g2, eg, e3, k d m1 w H1 h1 f1 s1 r3⟩
  refine attr_of hb (thn (he.run.run pins s σ H _ I h0) fun u s1 hh => ?_)
  obtain ⟨v, H1, I1, rv, C, a, dd, fs, w, rfl, g1, g2, eg, l, q⟩ := hh
  obtain rfl : u = Value.ref a := rv
  obtain ⟨T, hno⟩ := hG C f eg
  obtain ⟨oe, od, mA, J, hns, ho, hr⟩ := err_inst I1 g1 g2
  obtain ⟨od', ho', hl⟩ := lookIn_ns hns
  rw [ho] at ho'
  cases ho'
  obtain ⟨u, hu, ru⟩ := RelO.some_of (v := w) (o := mA f) (by rw [← l]; exact hr f)
  exact HandSPX.exc_get I1.kIn J T.ga T.gg T.exC (PySem.W.findObj_own T.hdC hno rfl (by rw [hl, hu])) (handed_of ru) ⟨w, H1, I1.tok _, ru, q⟩
end
end DL
/-! ### DL41: promises of defs that raise; super().__init__(..) where the rest may raise -/
namespace DL
open PySem PySem.Spec PyProof.Rows L2
section
variable (P : Program) (w : World) (K : PySem.W.Frag) (mg : Str → Option Value) (base : Heap)
def CalXW (x : Str) (k : Nat) (sp : DSpX) : Prop := ∃ f, mg x = some (.ref f) ∧ PySem.W.keepIn K (.ref f) = true ∧ FnG P w K mg base (L2.CX P w) k f (liftSpX K sp)
def CalMXW (C : Addr) (m : Str) (k : Nat) (sp : DSpX) : Prop := ∃ f, Meth K C m f ∧ FnG P w K mg base (L2.CX P w) k f (liftSpX K sp)
def CalCXW (C : Addr) (k : Nat) (sp : DSpX) : Prop := ∃ f, Mk K C f ∧ FnG P w K mg base (L2.CX P w) k f (liftSpX K sp)
def CalKXW (C : Addr) (m : Str) (k : Nat) (sp : DSpX) : Prop := ∃ mc p g, ClX.CRead K C mc ∧ ClX.CMet K C mc m p g ∧ FnG P w K mg base (L2.CX P w) k g (liftSpX K sp)
end
def spOfX (n N : Nat) (t : DTS) : DSpX := fun ds m R F => ds.length = n ∧ t (startD N ds) m (bodyEndsX R F)
section
variable {P : Program} {w : World} {K : PySem.W.Frag} {mg : Str → Option Value} {base : Heap}
theorem takesS {N : List Str} {qual : Str} {scope : Scope} {f cc : Addr} {cdv : Value} {A : Around} {outer : List PySem.Env} {s : Shared} {H : Hp} {E : XK} : Takes (cxS (L2.CX P w) P w K mg base N qual scope f cc cdv A outer s H E) (fun cls d _ H => E cls d H) := takes_of rfl rfl rfl rfl
theorem ownS {CX : CXT} {N : List Str} {qual : Str} {scope : Scope} {f cc : Addr} {cdv : Value} {A : Around} {outer : List PySem.Env} {s : Shared} {H : Hp} {E : XK} : PassesOwn (model P w) (cxS CX P w K mg base N qual scope f cc cdv A outer s H E).A (cxS CX P w K mg base N qual scope f cc cdv A outer s H E).env (cxS CX P w K mg base N qual scope f cc cdv A outer s H E).xe := passes_of rfl
theorem super_runX {x qual : Str} {st : Stmt} {f cc cda C CD g : Addr} {fd : FuncData} {file : Str} {N ps : List Str} {self : Str} {ar : Arg} {k : Nat} {sp2 : DSp} {tA : DTA} {tR : DTS} {e : Expr} {es : List Expr} {rest : List Stmt} {p0 p1 p2 p3 p4 : Pos}
    (F : FunS K x qual st CD file f cc cda fd) (S : SScope N ps (defScope st)) (hself : N[0]? = some self) (hloc0 : (defScope st).names.lookup self = some .local) (har : ((defArgs st).posonlyargs ++ (defArgs st).args).head? = some ar) (hars : ar.arg = self)
    (hsn : (defScope st).names.lookup ("super" : Str) = some .globalImplicit) (hcn : (defScope st).names.lookup ("__class__" : Str) = some .free)
    (hst : defBody st = .Expr (.Call (.Attribute (.Call (.Name "super" p0) [] [] p1) "__init__" p2) (e :: es) [] p3) p4 :: rest)
    (hfile : ((P.main.file : Str) == file) = true) (htop : (P.main.scope.names.lookup ("super" : Str)).isSome = false)
    (U : SupOk K mg C CD g "__init__") (G : FnG P w K mg base CX0 k g (liftSp K sp2))
    {A : Around} {outer : List PySem.Env} {s : Shared} {H : Hp} {args : Args} {us : List Value} {vs : List V} {Q : VK} {E : XK} {ds : List D} {m : M} {R : DK} {FX : Addr → List Str → List D → M → Prop}
    (hA : DA (cxS (L2.CX P w) P w K mg base N qual (defScope st) f cc (.ref cda) A outer s H E) (e :: es) tA) (hR : DXSs (cxS (L2.CX P w) P w K mg base N qual (defScope st) f cc (.ref cda) A outer s H E) (fun cls d _ H => E cls d H) rest tR)
    (hi : ∀ L, interactive (envS qual (defScope st) L f (.ref cda) cc) = false) (hsw : ∀ L, swapsWith (.Call (.Attribute (.Call (.Name "super" p0) [] [] p1) "__init__" p2) (e :: es) [] p3) none p4.line (envS qual (defScope st) L f (.ref cda) cc) = pure false)
    (hse : ∀ L, starEach (e :: es) (envS qual (defScope st) L f (.ref cda) cc) = (false, eval e (envS qual (defScope st) L f (.ref cda) cc)) :: starEach es (envS qual (defScope st) L f (.ref cda) cc)) (hpl : ∀ L, (backTo p3 (starEach es (envS qual (defScope st) L f (.ref cda) cc))).any (·.1) = false)
    {pl : Sem Bool} (hev : ∀ L, eval (.Call (.Attribute (.Call (.Name "super" p0) [] [] p1) "__init__" p2) (e :: es) [] p3) (envS qual (defScope st) L f (.ref cda) cc) = (do
      let ov ← attributeBase (.Call (.Name "super" p0) [] [] p1) "__init__" (envS qual (defScope st) L f (.ref cda) cc) (eval (.Call (.Name "super" p0) [] [] p1) (envS qual (defScope st) L f (.ref cda) cc))
      standAt p2.atName
      let (fn, first) ← holding [ov] (getMethod ov "__init__" pl)
      callWith p3 fn first (backTo p3 (starEach (e :: es) (envS qual (defScope st) L f (.ref cda) cc))) []))
    (hr : RoomG (k + 1) A) (e0 : Env0 P w K mg base A outer s H) (rv : Vals vs us) (hl : vs.length = ps.length) (hb : BindsTo s fd args (ps.zip us))
    (r : RepL K m H ds vs) (sm : Sim K m H) (q : tSup C sp2 tA tR (startD N.length ds) m (bodyEndsX R FX)) (kq : ∀ d m' v H', R d m' → Fr m H m' H' → Sim K m' H' → Rep K m' H' d v → Q v H')
    (kx : ∀ C ns xs m' cls d H', FX C ns xs m' → Sim K m' H' → Fr m H m' H' → ExR K m' H' C ns xs cls d → E cls d H') :
    codeAny (model P w) A (.call (.ref f) args) (CR (L2.CX P w) outer P w H s Q E) s := by
  obtain ⟨oc, od, kV, doc, pm, an, ct, osl, rfl, lk⟩ := F.ex
  have kin : K.In s.heap := e0.mod.kin.keeps fun b o e => (e0.bs b o e).1
  have lim : s.heap.NoLimit := e0.mod.nolimit.keeps fun b o e => (e0.bs b o e).1
  obtain ⟨ccl, ccd, ccs, hcell⟩ := F.cell
  obtain ⟨dcl, dcd, dvs, dsl, tf, hcode, hvs⟩ := F.code
  refine ks_codeAny_call_defAt hr.r.depth (kin _ _ lk) rfl lim (PySem.W.codeRec_of kin F.cd) rfl hb S.nocell (fun y hy => S.par y.1 (List.of_mem_zip hy).1) (fun h1 hns kp => ?_) S.co S.gen S.kind
  have J : Inv (cxS (L2.CX P w) P w K mg base N qual (defScope st) f cc (.ref cda) A outer s H E) [] (L2.start N vs) H { s with heap := h1, toks := s.toks + (ps.zip us).length } :=
    inv_startS S hr.r.hd e0 hl rv (e0.mod.kin _ _ hcell) rfl hns kp
  have EO : EnvOk K m H (L2.start N vs) (startD N.length ds) := EnvOk.start r
  obtain ⟨a, ns, fvs, ea, em, qA⟩ := q
  obtain ⟨va, eva, ra⟩ := EO.get 0 _ ea
  simp only [Rep] at ra
  subst ra
  obtain ⟨dx, fs, hH, _, _⟩ := sm a _ em
  have hr' : RoomG k (A.deeper (envS qual (defScope st) s.heap.objs.size f (.ref cda) cc)) := ⟨hr.r.deeper _, hr.g⟩
  suffices goal2 : _root_.PySem.wpAt (model P w) (A.deeper (envS qual (defScope st) s.heap.objs.size f (.ref cda) cc)) (.func (defBody st) (envS qual (defScope st) s.heap.objs.size f (.ref cda) cc)) (execs (defBody st) (envS qual (defScope st) s.heap.objs.size f (.ref cda) cc))
      (fun fl s' => CR (L2.CX P w) outer P w H s Q E (.ok (.ret (match fl with | .ret v => v | _ => .none))) s')
      (fun e s' => wpAny (model P w) (A.deeper (envS qual (defScope st) s.heap.objs.size f (.ref cda) cc)) (leaving (envS qual (defScope st) s.heap.objs.size f (.ref cda) cc) e) (fun _ s'' => CR (L2.CX P w) outer P w H s Q E (.error e) s'') (fun e' s'' => CR (L2.CX P w) outer P w H s Q E (.error e') s'') s')
      { s with heap := h1, toks := s.toks + (ps.zip us).length } by
    exact goal2
  rw [hst]
  refine ks_wpAt_execs_cons (ks_wpAt_Expr_any (ks_wpAt_MethodCall ?_ (hev _)) (hi _) (hsw _))
  -- the loads
  obtain ⟨ml, hml, hlk⟩ := J.loc
  obtain ⟨u0, ru0, lk0⟩ := hlk 0 self (.ref a) hself eva (.inl hloc0)
  obtain rfl : u0 = Value.ref a := ru0
  have hlv : ml self = some (.ref a) := by
    rcases lk0 with ⟨_, z⟩ | ⟨z, _⟩
    · exact z
    · have z' : (defScope st).names.lookup self = some .cell ∨ (defScope st).names.lookup self = some .free := z
      rw [hloc0] at z'
      rcases z' with z' | z' <;> cases z'
  obtain ⟨mA, O, _, _, _, _⟩ := ins_get J.hok hH
  obtain ⟨odx, I0, _⟩ := O.look
  obtain ⟨cdD, hcD⟩ := U.cls
  have X := J.kIn
  obtain ⟨oD, hD1, hD2⟩ : ∃ oD, h1.get? CD = some oD ∧ oD.data = .cls cdD := by
    unfold PySem.W.clsIn at hcD
    split at hcD
    · rename_i z ho
      cases hcD
      exact ⟨_, X _ _ ho, rfl⟩
    · cases hcD
  obtain ⟨mb, hmb, hbt⟩ := J.mod.blt
  refine ks_wpAt_super_base (env := envS qual (defScope st) s.heap.objs.size f (.ref cda) cc) hsn hcn (by decide) rfl (X _ _ lk) rfl har rfl (X _ _ hcode) rfl hvs hfile htop ?_
  refine PySem.W.ks_loadName_global S.kind hsn (Calls.loadGlobal_builtin (env := envS qual (defScope st) s.heap.objs.size f (.ref cda) cc) (J.mod.glob.keeps J.bk) U.nosup (hmb.keeps J.bk) ((hbt _ (by decide)).trans (by rfl)) ⟨rfl, ?_⟩)
  refine wpAny_loadName_free S.kind hcn rfl ⟨_, X _ _ hcell, rfl⟩ ?_
  rw [hars]
  refine wpAny_loadName_local S.kind hloc0 hml hlv ?_
  refine ks_wpAny_isType_cls hD1 hD2 ⟨rfl, ?_⟩
  refine ks_wpAny_call_super hD1 hD2 I0.at_ I0.cls (fun c e => ?_) (PySem.W.looks_mroIn X U.sub) (fun h2 e2 k2 => ?_)
  · cases e
  have J2 := J.kept (h' := h2) (t' := s.toks + (ps.zip us).length) k2
  have X2 : K.In h2 := J2.kIn
  obtain ⟨mA2, O2, _⟩ := ins_get J2.hok hH
  obtain ⟨od2, I2, _⟩ := O2.look
  obtain ⟨gcl, god, gdt, gsl, glk, gty⟩ : ∃ c d dt sl, K.lookup g = some ⟨c, d, dt, sl⟩ ∧ c = .type "function" := by
    have t := U.ty
    unfold PySem.W.typeIn at t
    dsimp only at t
    cases z : K.lookup g with
    | none => rw [z] at t; cases t
    | some o =>
      rw [z] at t
      exact ⟨o.cls, o.dict, o.data, o.slots, rfl, Option.some.inj t⟩
  obtain ⟨cdC, hcC, hal⟩ : ∃ cd, PySem.W.clsIn K C = some cd ∧ PySem.W.alongIn K "__init__" ((cd.mro.dropWhile (· != .ref CD)).drop 1) = some (some (.ref g)) := by
    have t := U.at_
    unfold PySem.W.ks_superIn at t
    exact Option.bind_eq_some_iff.mp t
  refine ks_wpAny_getMethod_super e2 (PySem.W.looks_opaque X2 U.opq) ((PySem.W.looks_clsIn X2 hcC).andThen .now) rfl X2 hal (X2 _ _ glk) gty (PySem.W.ks_ne X2 I2 hcC) (by decide) ?_
  have hq : H h2.objs.size = none := J2.hok.fresh (Nat.le_refl _)
  have J3 := J2.laid (t' := s.toks + (ps.zip us).length + 1) (a := h2.objs.size) (o := .met g a) (fun b u z => Heap.get?_push_of_some (PySem.W.methodObj (.ref g) (.ref a)) z) (Nat.le_refl _)
    (Heap.get?_push_size h2 rfl)
  have f3 := Fr.laid (o := HO.met g a) sm hq
  refine callwith_met (X := cxS (L2.CX P w) P w K mg base N qual (defScope st) f cc (.ref cda) A outer s H E) (g := g) (a := a) ?_ U.fn ?_
  · rw [hse]
    show ((false || (backTo p3 (starEach es (envS qual (defScope st) s.heap.objs.size f (.ref cda) cc))).any (·.1)) || false) = false
    rw [hpl]; rfl
  have hrun := hA.run.run p3 [] _ (L2.start N vs) (upd H h2.objs.size (.met g a)) (fun zs H4 => H4 h2.objs.size = some (.met g a) ∧ liftSp K sp2 (V.ref a :: zs) H4 (fun _ H5 => ∃ env m5 R5, EnvOk K m5 H5 (L2.start N vs) env ∧ Sim K m5 H5 ∧ tR env m5 R5 ∧ (R5 = bodyEndsX R FX) ∧ Fr m H m5 H5) E0) J3
    ⟨startD N.length ds, m, _, EO.mono f3, sm.laid hq, qA, fun d4 m4 v4 H4 a1 a2 a3 a4 => ⟨?_, .ref a :: d4, m4, _, .cons rep_ref a4, a3, a1, fun d5 m5 v5 H5 b1 b2 b3 b4 => ⟨_, m5, _, EO.mono ((f3.trans a2).trans b2), b3, b1, rfl, (f3.trans a2).trans b2⟩⟩⟩
  rotate_left
  · obtain ⟨_, u', e3, e4⟩ := a2 h2.objs.size _ (sm.free hq) upd_same
    rw [e3, e4.met]
  have hse1 : starEach (e :: es) (cxS (L2.CX P w) P w K mg base N qual (defScope st) f cc (.ref cda) A outer s H E).env = (false, eval e (cxS (L2.CX P w) P w K mg base N qual (defScope st) f cc (.ref cda) A outer s H E).env) :: starEach es (cxS (L2.CX P w) P w K mg base N qual (defScope st) f cc (.ref cda) A outer s H E).env := hse _
  rw [hse1] at hrun
  rw [hse]
  refine Calls.evalArgs_plain (thn hrun fun us4 s4 hx4 => ?_)
  obtain ⟨zs, H4, J4, rz, hm4, hsp⟩ := hx4
  refine ⟨met_P J4 hm4, ?_⟩
  refine thn (wpAny_call (PySem.W.method_call (met_P J4 hm4).1 (run_fnC (us := Value.ref a :: us4) (vs := V.ref a :: zs) G hr' pass0 J4 (.cons rfl rz) hsp))) fun u5 s5 hx5 => ?_
  obtain ⟨v5, H5, J5, r5, env5, m5, R5, EO5, S5, h5, rfl, f5⟩ := hx5
  refine wpAt_of_wpAny ?_
  have hrest := hR.run.run [] s5 (L2.start N vs) H5 { nx := fun _ H' => Q .non H', rt := Q } J5
    ⟨env5, m5, _, EO5, S5, h5, fun env' m' σ' H' a1 a2 a3 a4 => kq .non m' .non H' a1 (f5.trans a4) a3 rep_non, fun d m' v H' a1 a2 a3 a4 => kq d m' v H' a1 (f5.trans a2) a3 a4, fun _ _ _ _ z => z.elim, fun _ _ _ _ z => z.elim, fun C ns xs env' m' cls d σ' H' a1 a2 a3 a4 a5 => kx C ns xs m' cls d H' a1 a3 (f5.trans a4) a5⟩
  refine wpAny_mono hrest (fun fl s' hs => ?_) fun e s' hs => hs
  cases fl with
  | ret u =>
    obtain ⟨v, σ', H', J6, rv6, q6⟩ := hs
    exact ⟨v, H', J6.os, J6.bare, J6.base, J6.hok, rv6, q6⟩
  | next =>
    obtain ⟨σ', H', J6, q6⟩ := hs
    exact ⟨V.non, H', J6.os, J6.bare, J6.base, J6.hok, rfl, q6⟩
  | brk =>
    obtain ⟨_, _, _, q6⟩ := hs
    exact False.elim q6
  | cont =>
    obtain ⟨_, _, _, q6⟩ := hs
    exact False.elim q6
theorem fn_superX {x qual : Str} {st : Stmt} {f cc cda C CD g : Addr} {fd : FuncData} {file : Str} {N ps : List Str} {self : Str} {ar : Arg} {k : Nat} {sp : DSpX} {sp2 : DSp} {tA : DTA} {tR : DTS} {e : Expr} {es : List Expr} {rest : List Stmt} {p0 p1 p2 p3 p4 : Pos} {pl : Sem Bool}
    (F : FunS K x qual st CD file f cc cda fd) (S : SScope N ps (defScope st)) (hself : N[0]? = some self) (hloc0 : (defScope st).names.lookup self = some .local) (har : ((defArgs st).posonlyargs ++ (defArgs st).args).head? = some ar) (hars : ar.arg = self)
    (hsn : (defScope st).names.lookup ("super" : Str) = some .globalImplicit) (hcn : (defScope st).names.lookup ("__class__" : Str) = some .free)
    (hst : defBody st = .Expr (.Call (.Attribute (.Call (.Name "super" p0) [] [] p1) "__init__" p2) (e :: es) [] p3) p4 :: rest)
    (hfile : ((P.main.file : Str) == file) = true) (htop : (P.main.scope.names.lookup ("super" : Str)).isSome = false)
    (U : SupOk K mg C CD g "__init__") (G : FnG P w K mg base CX0 k g (liftSp K sp2))
    (hA : ∀ (A : Around) (outer : List PySem.Env) (s : Shared) (H : Hp) (E : XK), DA (cxS (L2.CX P w) P w K mg base N qual (defScope st) f cc (.ref cda) A outer s H E) (e :: es) tA)
    (hR : ∀ (A : Around) (outer : List PySem.Env) (s : Shared) (H : Hp) (E : XK), RoomG k (A.deeper (envS qual (defScope st) s.heap.objs.size f (.ref cda) cc)) → DXSs (cxS (L2.CX P w) P w K mg base N qual (defScope st) f cc (.ref cda) A outer s H E) (fun cls d _ H => E cls d H) rest tR)
    (hi : ∀ L, interactive (envS qual (defScope st) L f (.ref cda) cc) = false) (hsw : ∀ L, swapsWith (.Call (.Attribute (.Call (.Name "super" p0) [] [] p1) "__init__" p2) (e :: es) [] p3) none p4.line (envS qual (defScope st) L f (.ref cda) cc) = pure false)
    (hse : ∀ L, starEach (e :: es) (envS qual (defScope st) L f (.ref cda) cc) = (false, eval e (envS qual (defScope st) L f (.ref cda) cc)) :: starEach es (envS qual (defScope st) L f (.ref cda) cc)) (hpl : ∀ L, (backTo p3 (starEach es (envS qual (defScope st) L f (.ref cda) cc))).any (·.1) = false)
    (hev : ∀ L, eval (.Call (.Attribute (.Call (.Name "super" p0) [] [] p1) "__init__" p2) (e :: es) [] p3) (envS qual (defScope st) L f (.ref cda) cc) = (do
      let ov ← attributeBase (.Call (.Name "super" p0) [] [] p1) "__init__" (envS qual (defScope st) L f (.ref cda) cc) (eval (.Call (.Name "super" p0) [] [] p1) (envS qual (defScope st) L f (.ref cda) cc))
      standAt p2.atName
      let (fn, first) ← holding [ov] (getMethod ov "__init__" pl)
      callWith p3 fn first (backTo p3 (starEach (e :: es) (envS qual (defScope st) L f (.ref cda) cc))) []))
    (hn : ∀ ds m R G, sp ds m R G → ds.length = ps.length) (hsp : ∀ ds m R G, sp ds m R G → tSup C sp2 tA tR (startD N.length ds) m (bodyEndsX R G))
    (hb : ∀ (kV doc pm : Value) (an : Option Addr) (ct : Value) (us : List Value), us.length = ps.length → bindArgs (PySem.W.ksFn x qual (defArgs st) (defBody st) (defScope st) .none kV doc pm an (.ref cda) ct cc) ⟨us, []⟩ = pure (ps.zip us)) :
    FnG P w K mg base (L2.CX P w) (k + 1) f (liftSpX K sp) := by
  intro A outer s H us vs Q E hr e0 rv ⟨ds, m, R, FX, r, sm, q, kq, kx⟩
  have hl : vs.length = ps.length := by rw [← r.length]; exact hn _ _ _ _ q
  have hb1 : BindsTo s fd ⟨us, []⟩ (ps.zip us) := by
    obtain ⟨oc, od, kV, doc, pm, an, ct, osl, rfl, lk⟩ := F.ex
    exact BindsTo.of_eq (hb kV doc pm an ct us (by rw [← rv.length]; exact hl))
  exact super_runX F S hself hloc0 har hars hsn hcn hst hfile htop U G (hA A outer s H E) (hR A outer s H E ⟨hr.r.deeper _, hr.g⟩) hi hsw hse hpl hev hr e0 rv hl hb1 r sm (hsp _ _ _ _ q) kq kx
end
end DL
/-! ### DL42: tables of what is known of errors -/
namespace DL
open PySem PySem.Spec PyProof.Rows L2
def jxT (Cs : List Addr) : Addr → Option Bool := fun C => if C ∈ Cs then some true else none
theorem jx_ok {K : PySem.W.Frag} {c : Value} {Cs : List Addr} (h : ∀ C ∈ Cs, PySem.W.exmOne K (.ref C) c = some true) : JX K c (jxT Cs) := fun C b e => by
  unfold jxT at e
  split at e
  · rename_i hc
    rw [← e]
    exact h C hc
  · cases e
def xfT (tab : List (Addr × Str)) : Addr → Str → Bool := fun C f => tab.any fun e => decide (e.1 = C) && decide (e.2 = f)
theorem xf_ok {K : PySem.W.Frag} {tab : List (Addr × Str)} (h : ∀ e ∈ tab, XfC K e.1 ∧ PySem.W.findIn K (.ref e.1) e.2 = some none) : XF K (xfT tab) := fun C f e => by
  obtain ⟨x, hx, hd⟩ := List.any_eq_true.mp e
  obtain ⟨h1, h2⟩ := Bool.and_eq_true_iff.mp hd
  have h1 := of_decide_eq_true h1
  have h2 := of_decide_eq_true h2
  subst h1 h2
  exact h x hx
/-! isinstance(e, c), c written as it is -/
def clsAll : List D → Option (List Value)
  | [] => some []
  | d :: ds => match clD d, clsAll ds with
    | some u, some us => some (valT u :: us)
    | _, _ => none
def ansD (K : PySem.W.Frag) (C : Addr) : D → Option Bool
  | .tup cs => (clsAll cs).bind (PySem.W.kitAny K (.ref C))
  | d => (clD d).bind fun u => PySem.W.kitOne K (.ref C) (valT u)
def JI (K : PySem.W.Frag) (cd : D) (J : Addr → Option Bool) : Prop := ∀ C b, J C = some b → ExcC K C ∧ ansD K C cd = some b
open Classical in
noncomputable def dIsiK (cd : D) (J : Addr → Option Bool) (m : M) : List D → Option D
  | [x, c] => if c = cd then (match look m x with
    | .exc C _ _ => (J C).map .bl
    | _ => none) else none
  | _ => none
theorem clsAll_val {K : PySem.W.Frag} {m : M} {H : Hp} : ∀ {cs : List D} {ws : List V} {vals : List Value}, clsAll cs = some vals → RepL K m H cs ws → ∀ us, Vals ws us → us = vals
  | [], ws, vals, e, r, us, hu => by
    simp only [RepL] at r
    subst r
    cases hu
    exact Option.some.inj e
  | c :: cs, ws, vals, e, r, us, hu => by
    simp only [RepL] at r
    obtain ⟨v, vr, rfl, r1, r2⟩ := r
    cases hu with
    | cons h1 h2 =>
      unfold clsAll at e
      split at e
      · rename_i u us' e1 e2
        rw [← Option.some.inj e, cl_val e1 r1 _ h1, clsAll_val e2 r2 _ h2]
      · cases e
theorem dc_isiK {X : Cx} {cd : D} {J : Addr → Option Bool} (hJ : JI X.K cd J) : DCall X (.builtin "isinstance") (dIsiK cd J) := callW call_errI fun vs H Q ⟨ds, m, d, r, s, e, q⟩ => by
  unfold dIsiK at e
  split at e
  · rename_i x c
    simp only [RepL] at r
    obtain ⟨v1, r', rfl, h1, v2, r2, rfl, h2, rfl⟩ := r
    split at e
    · rename_i hcd
      subst hcd
      split at e
      · rename_i C ns xs ex
        have cc := cont_of s h1
        rw [ex] at cc
        simp only [Cont, Rep] at cc
        obtain ⟨a, dd, fs, rfl, _, g1, _, g2, _, _⟩ := cc
        obtain ⟨b, eb, rfl⟩ := Option.map_eq_some_iff.mp e
        obtain ⟨T, ea⟩ := hJ C b eb
        unfold ansD at ea
        split at ea
        · rename_i cs
          obtain ⟨vals, e1, e2⟩ := Option.bind_eq_some_iff.mp ea
          simp only [Rep] at h2
          obtain ⟨p, ws, rfl, hp, rw'⟩ := h2
          exact ⟨a, C, dd, fs, _, b, rfl, g1, g2, T, .inr ⟨p, ws, rfl, tupAt_sq hp, fun us hu => by rw [clsAll_val e1 rw' us hu]; exact e2⟩, q _ _ Fr.refl s rep_bl⟩
        · obtain ⟨u, e1, e2⟩ := Option.bind_eq_some_iff.mp ea
          exact ⟨a, C, dd, fs, _, b, rfl, g1, g2, T, .inl ⟨_, cl_val e1 h2, e2⟩, q _ _ Fr.refl s rep_bl⟩
      · cases e
    · cases e
  · cases e
def jbT (tab : List (Addr × Bool)) : Addr → Option Bool := fun C => (tab.find? fun e => decide (e.1 = C)).map (·.2)
theorem ji_ok {K : PySem.W.Frag} {cd : D} {tab : List (Addr × Bool)} (h : ∀ e ∈ tab, ExcC K e.1 ∧ ansD K e.1 cd = some e.2) : JI K cd (jbT tab) := fun C b e => by
  obtain ⟨x, hx, rfl⟩ := Option.map_eq_some_iff.mp e
  have h1 := List.find?_some hx
  rw [decide_eq_true_eq] at h1
  subst h1
  exact h x (List.mem_of_find?_eq_some hx)
theorem kany_no {K : PySem.W.Frag} {t c : Value} {r : List Value} {b : Option Bool} (h : PySem.W.kitOne K t c = some false) (h2 : PySem.W.kitAny K t r = b) : PySem.W.kitAny K t (c :: r) = b := by
  unfold PySem.W.kitAny
  rw [h]
  exact h2
theorem kany_yes {K : PySem.W.Frag} {t c : Value} {r : List Value} (h : PySem.W.kitOne K t c = some true) : PySem.W.kitAny K t (c :: r) = some true := by
  unfold PySem.W.kitAny
  rw [h]
theorem kany_nil {K : PySem.W.Frag} {t : Value} : PySem.W.kitAny K t [] = some false := rfl
/-! isinstance(x, C) for instances: the answer by the instance's class, for the one class that is asked -/
def JS (u : Ty) (tab : List (Addr × Bool)) : Ty → Ty → Option Bool
  | .inr C, v => if v = u then jbT tab C else none
  | .inl _, _ => none
theorem js_ok {K : PySem.W.Frag} {u : Ty} {tab : List (Addr × Bool)} (h : ∀ e ∈ tab, PySem.W.kitOne K (.ref e.1) (valT u) = some e.2 ∧ InsT K e.1) : JOk K (JS u tab) := fun t v b e => by
  unfold JS at e
  split at e
  · split at e
    · rename_i hv
      subst hv
      obtain ⟨x, hx, rfl⟩ := Option.map_eq_some_iff.mp e
      have h1 := List.find?_some hx
      rw [decide_eq_true_eq] at h1
      subst h1
      obtain ⟨a1, a2⟩ := h x (List.mem_of_find?_eq_some hx)
      exact ⟨a1, fun C ec => by cases ec; exact a2⟩
    · cases e
  · cases e
section
variable {X : Cx} {W : WX} {e : Expr}
def tFrzX (te : DTEX) : DTEX := fun env m R F => te env m (fun d m1 => match d with
  | .ref p => ∃ c, m1 p = some c ∧ R c (delM m1 p)
  | d => R d m1) F
theorem dex_frz {te : DTEX} (h : DEX X W e te) : DEX X W e (tFrzX te) := ⟨PE.weak h.run fun σ H Q h => by
  obtain ⟨env, m, R, F, eo, s, h, k, k2⟩ := h
  refine ⟨env, m, _, F, eo, s, h, fun d m1 v H1 h1 f1 s1 r1 => ?_, k2⟩
  split at h1
  · obtain ⟨c, e, h1⟩ := h1
    simp only [Rep] at r1
    subst r1
    exact k c _ _ H1 h1 (f1.trans Fr.frozen) s1.frozen (rep_frozen s1 e)
  · exact k _ m1 v H1 h1 f1 s1 r1⟩
/-- a call that raises nothing here -/
def tNoX (te : DTEX) : DTE := fun env m R => te env m R fun _ _ _ _ _ => False
theorem de_nox {te : DTEX} (h : DEX X (fun _ _ _ _ => False) e te) : DE X e (tNoX te) := ⟨PE.weak h.run fun σ H Q ⟨env, m, R, eo, s, h, k⟩ => ⟨env, m, R, _, eo, s, h, k, fun _ _ _ _ _ _ _ _ _ z => z.elim⟩⟩
end
end DL
/-! ### DL43: sorted of texts and of tuples of texts, any length -/
namespace DL
open PySem PySem.Spec PyProof.Rows L2
section
variable {prog : Program} {w : World} {A : Around} {E : Value → Shared → Prop} {s : Shared}
/-- a list or a tuple with these items -/
def SeqAt (h : Heap) (l : Addr) (vs : List Value) : Prop := ∃ (o : Obj) (n : Nat), h.get? l = some o ∧ (o.cls = .type "list" ∨ o.cls = .type "tuple") ∧ o.data = .seq vs.toArray n
theorem collect_seq {l : Addr} {vs : List Value} {Q : List Value → Shared → Prop} (hl : SeqAt s.heap l vs) (hz : vs.length ≤ sizeLine)
    (h : Q vs { s with heap := (s.heap.push (seqObj "list" #[] 0)).update s.heap.objs.size (Obj.mapSeq (· ++ vs.toArray)) }) : wpAny (model prog w) A (collect (.ref l)) Q E s := by
  obtain ⟨o, n, g, hc, hd⟩ := hl
  have g' : (s.heap.push (seqObj "list" #[] 0)).get? l = some o := Heap.get?_push_of_some _ g
  have gN : (s.heap.push (seqObj "list" #[] 0)).get? s.heap.objs.size = some (seqObj "list" #[] 0) := Heap.get?_push_size _ rfl
  have hT : ∃ T : String, o.cls = .type T ∧ (Value.type T == Value.type "list" || Value.type T == Value.type "tuple") = true := by
    rcases hc with e | e
    · exact ⟨_, e, by decide⟩
    · exact ⟨_, e, by decide⟩
  obtain ⟨T, eT, hb⟩ := hT
  unfold collect
  refine wpAny_bind (wpAny_runValue (codeAny_builtin entry_proto_collect' ?_))
  show wpAny _ _ (do again (.builtin "list.__iadd__" ⟨[← newList [], .ref l], []⟩)) _ _ s
  refine wpAny_bind (wpAny_newList (wpAny_pure ⟨Code.quiet_builtin _ (by decide +kernel), codeAny_builtin entry_list_iadd' ?_⟩))
  show wpAny _ _ (Builtin.List.listExtendWith (.ref s.heap.objs.size) (.ref l) (.ref s.heap.objs.size)) _ _ { s with heap := s.heap.push (seqObj "list" #[] 0) }
  unfold Builtin.List.listExtendWith
  refine wpAny_bind (wpAny_typeOf (T := T) ⟨o, g', eT⟩ ?_)
  rw [if_pos (by rw [Bool.or_assoc, hb, Bool.or_true])]
  refine wpAny_bind (listItems_at g' hd (wpAny_bind (listItems_at (xs := #[]) (n := 0) gN rfl ?_)))
  rw [if_neg (by simp)]
  refine wpAny_bind (listUpdate_at (xs := #[]) (n := 0) gN rfl ?_ (Nat.zero_le _) (by show (#[] ++ vs.toArray).size ≤ sizeLine + 1; simp only [Array.size_append, List.size_toArray, List.length_nil]; omega))
  refine wpAny_pure ?_
  refine wpAny_bind (wpAny_load (get?_update_seq gN _) ?_)
  show wpAny _ _ (pure ((#[] : Array Value) ++ vs.toArray).toList) Q E _
  have eq : ((#[] : Array Value) ++ vs.toArray).toList = vs := by simp
  rw [eq]
  exact wpAny_pure h
open PySem.W in
theorem sorted_seq {l : Addr} {vs : List Value} {κ : KeyKind} {Q : Value → Shared → Prop} (hl : SeqAt s.heap l vs) (S : SortsAt prog w A.in1.in1 { s with heap := sortingHeap (copyHeap s.heap vs) (s.heap.objs.size + 1) vs } κ vs) (hz : vs.length ≤ sizeLine)
    (h : Q (.ref (s.heap.objs.size + 1)) { s with heap := sortedAll s.heap vs (sortVals κ false vs vs).toArray }) : wpAny (model prog w) A (call (.builtin "sorted") [.ref l]) Q E s := by
  refine Calls.call_function_entry kind_sorted plain_sorted entry_sorted (args_sorted1 _) ?_
  unfold Builtin.«sorted»
  refine wpAny_bind (m := checkCount "sorted" 1 1 _) (wpAny_pure (wpAny_bind (collect_seq hl hz ?_)))
  refine wpAny_bind (wpAny_newList ?_ hz)
  have sz : ((s.heap.push (seqObj "list" #[] 0)).update s.heap.objs.size (Obj.mapSeq (· ++ vs.toArray))).objs.size = s.heap.objs.size + 1 := by rw [Heap.size_update, size_push']
  show wpAny _ _ _ _ _ { s with heap := copyHeap s.heap vs }
  rw [sz]
  refine wpAny_bind (wpAny_holding (wpAny_call_entry slot_list_sort ⟨_, copyHeap_at s.heap vs, rfl⟩ entry_list_sort ?body (args_list_sort _)))
  case body =>
    refine wpAny_mono (list_sort_vals (P := fun f s' => f = .done (.ret .none) ∧ Q (.ref (s.heap.objs.size + 1)) s') (s := { s with heap := copyHeap s.heap vs }) (copyHeap_at s.heap vs) S hz ⟨rfl, h⟩) (fun f s' y => ?_) fun _ _ y => y
    obtain ⟨rfl, y⟩ := y
    exact ⟨_, rfl, wpAny_pure ⟨_, rfl, y⟩⟩
end
/-! what is sorted: texts, or tuples of texts none of which is empty -/
def encS : D → PyData
  | .str x => .str x
  | .tup ds => .tuple (ds.map fun d => match d with
    | .str x => .str x
    | _ => .none)
  | _ => .none
def isTx : D → Bool
  | .str _ => true
  | _ => false
def isRw : D → Bool
  | .tup (d :: ds) => isTx d && ds.all isTx
  | _ => false
def okSrt (ds : List D) : Bool := ds.all isTx || ds.all isRw
def srtD (ds : List D) : List D := ds.mergeSort (PySem.W.dataLe false encS)
theorem srtD_perm (ds : List D) : (srtD ds).Perm ds := List.mergeSort_perm _ _
open PySem.W in
section
theorem alikeAll_strs : ∀ xs ys : List Str, alikeAll (xs.map .str) (ys.map .str) = true
  | [], _ => by simp [alikeAll]
  | _ :: _, [] => by simp [alikeAll]
  | x :: xs, y :: ys => by
    simp only [List.map_cons, alikeAll, alikeAll_strs xs ys, alike, Bool.and_self]
theorem depth_strs : ∀ xs : List Str, PyData.depthAll (xs.map .str) = 0
  | [] => by simp [PyData.depthAll]
  | x :: xs => by simp [PyData.depthAll, PyData.depth, depth_strs xs]
theorem isS_str {d : D} (h : isTx d = true) : ∃ x, d = .str x := by
  cases d <;> first | exact ⟨_, rfl⟩ | cases h
theorem allS_strs : ∀ {ds : List D}, ds.all isTx = true → ∃ xs : List Str, ds = xs.map .str
  | [], _ => ⟨[], rfl⟩
  | d :: ds, h => by
    simp only [List.all_cons, Bool.and_eq_true] at h
    obtain ⟨x, rfl⟩ := isS_str h.1
    obtain ⟨xs, rfl⟩ := allS_strs h.2
    exact ⟨x :: xs, rfl⟩
theorem isRw_row {d : D} (h : isRw d = true) : ∃ x xs, d = .tup (.str x :: (xs : List Str).map .str) := by
  unfold isRw at h
  split at h
  · simp only [Bool.and_eq_true] at h
    obtain ⟨x, rfl⟩ := isS_str h.1
    obtain ⟨xs, rfl⟩ := allS_strs h.2
    exact ⟨x, xs, rfl⟩
  · cases h
theorem encS_row (x : Str) (xs : List Str) : encS (.tup (.str x :: xs.map .str)) = .tuple ((x :: xs).map .str) := by
  simp [encS, List.map_map, Function.comp_def]
theorem okSrt_alike {ds : List D} (h : okSrt ds = true) : AllAlike (ds.map encS) := by
  intro a ha b hb
  obtain ⟨d, hd, rfl⟩ := List.mem_map.mp ha
  obtain ⟨e, he, rfl⟩ := List.mem_map.mp hb
  rcases Bool.or_eq_true_iff.mp h with h | h
  · obtain ⟨x, rfl⟩ := isS_str (List.all_eq_true.mp h d hd)
    obtain ⟨y, rfl⟩ := isS_str (List.all_eq_true.mp h e he)
    rfl
  · obtain ⟨x, xs, rfl⟩ := isRw_row (List.all_eq_true.mp h d hd)
    obtain ⟨y, ys, rfl⟩ := isRw_row (List.all_eq_true.mp h e he)
    rw [encS_row, encS_row]
    exact alikeAll_strs _ _
theorem okSrt_sortable {ds : List D} (h : okSrt ds = true) : Sortable (ds.map encS) := by
  rcases Bool.or_eq_true_iff.mp h with h | h
  · refine .inr fun a ha => ?_
    obtain ⟨d, hd, rfl⟩ := List.mem_map.mp ha
    obtain ⟨x, rfl⟩ := isS_str (List.all_eq_true.mp h d hd)
    exact ⟨fun z => (nomatch (show PyData.str x = PyData.none from z)), fun xs z => (nomatch (show PyData.str x = PyData.tuple xs from z))⟩
  · refine .inl fun a ha => ?_
    obtain ⟨d, hd, rfl⟩ := List.mem_map.mp ha
    obtain ⟨x, xs, rfl⟩ := isRw_row (List.all_eq_true.mp h d hd)
    exact ⟨_, _, encS_row x xs⟩
theorem okSrt_depth {ds : List D} (h : okSrt ds = true) : ∀ d ∈ ds, (encS d).depth ≤ 1 := fun d hd => by
  rcases Bool.or_eq_true_iff.mp h with h | h
  · obtain ⟨x, rfl⟩ := isS_str (List.all_eq_true.mp h d hd)
    exact Nat.zero_le _
  · obtain ⟨x, xs, rfl⟩ := isRw_row (List.all_eq_true.mp h d hd)
    rw [encS_row]
    show PyData.depthAll _ + 1 ≤ 1
    rw [depth_strs]; exact Nat.le_refl _
theorem reads_strs {K : PySem.W.Frag} {m : M} {H : Hp} {h : Heap} : ∀ {xs : List Str} {ws : List V} {us : List Value}, RepL K m H (xs.map .str) ws → Vals ws us → ReadsAll h us (xs.map .str) []
  | [], ws, us, r, v => by
    simp only [List.map_nil, RepL] at r
    subst r
    cases v
    exact .nil
  | x :: xs, ws, us, r, v => by
    simp only [List.map_cons, RepL] at r
    obtain ⟨w, wr, rfl, r1, r2⟩ := r
    simp only [Rep] at r1
    subst r1
    cases v with
    | cons h1 h2 =>
      obtain ⟨t, rfl⟩ := h1
      exact ReadsAll.cons (.str x t) (reads_strs r2 h2)
theorem okSrt_reads {P : Program} {w : World} {K : PySem.W.Frag} {m : M} {H : Hp} {h : Heap} {ds : List D} (ok : okSrt ds = true) (hok : HOk P w H h) (kin : K.In h) {d : D} (hd : d ∈ ds) {v : V} {u : Value} (r : Rep K m H d v) (rv : RelV v u) : ∃ as, Reads h u (encS d) as := by
  rcases Bool.or_eq_true_iff.mp ok with ok | ok
  · obtain ⟨x, rfl⟩ := isS_str (List.all_eq_true.mp ok d hd)
    simp only [Rep] at r
    subst r
    obtain ⟨t, rfl⟩ := rv
    exact ⟨[], .str x t⟩
  · obtain ⟨x, xs, rfl⟩ := isRw_row (List.all_eq_true.mp ok d hd)
    simp only [Rep] at r
    obtain ⟨a, ws, rfl, ht, rw'⟩ := r
    obtain rfl : u = Value.ref a := rv
    obtain ⟨its, o, n, hv, g, g1, g2⟩ := sqT_at hok kin (tupAt_sq ht)
    rw [encS_row]
    exact ⟨[], .tuple g g1 g2 (by simpa using reads_strs (xs := x :: xs) rw' hv)⟩
end
def dSort : D → Option D
  | .lst ds => if okSrt ds = true ∧ ds.length ≤ sizeLine then some (.lst (srtD ds)) else none
  | .tup ds => if okSrt ds = true ∧ ds.length ≤ sizeLine then some (.lst (srtD ds)) else none
  | _ => none
/-- sorted(x) of a list or tuple of such -/
def rSortS (K : PySem.W.Frag) : List V → Hp → VK → Prop := fun xs H Q => ∃ (m : M) (a : Addr) (ws : List V) (ds : List D), xs = [.ref a] ∧ (SqT K H a ws ∨ SqL K H a ws) ∧ RepL K m H ds ws ∧ okSrt ds = true ∧ ds.length ≤ sizeLine ∧
  ∀ (p : Addr) (zs : List V), H p = none → RepL K m H (srtD ds) zs → zs.length ≤ sizeLine → Q (.ref p) (upd H p (.lst zs))
theorem each_rep {K : PySem.W.Frag} {m : M} {H : Hp} : ∀ {ds : List D} {ws : List V} {us : List Value}, RepL K m H ds ws → Vals ws us → PySem.W.EachIs (fun u d => ∃ v, RelV v u ∧ Rep K m H d v) us ds
  | [], ws, us, r, v => by
    simp only [RepL] at r
    subst r
    cases v
    exact .nil
  | d :: ds, ws, us, r, v => by
    simp only [RepL] at r
    obtain ⟨w, wr, rfl, r1, r2⟩ := r
    cases v with
    | cons h1 h2 => exact .cons ⟨w, h1, r1⟩ (each_rep r2 h2)
theorem rep_each {K : PySem.W.Frag} {m : M} {H : Hp} : ∀ {ds : List D} {us : List Value}, PySem.W.EachIs (fun u d => ∃ v, RelV v u ∧ Rep K m H d v) us ds → ∃ ws, RepL K m H ds ws ∧ Vals ws us
  | _, _, .nil => ⟨[], .nil, .nil⟩
  | _, _, .cons ⟨v, h1, h2⟩ t => by
    obtain ⟨ws, a, b⟩ := rep_each t
    exact ⟨v :: ws, .cons h2 a, .cons h1 b⟩
theorem each_withmem {α β : Type} {R : α → β → Prop} : ∀ {as : List α} {bs : List β}, PySem.W.EachIs R as bs → PySem.W.EachIs (fun a b => R a b ∧ b ∈ bs) as bs
  | _, _, .nil => .nil
  | _, _, .cons h t => .cons ⟨h, .head _⟩ ((each_withmem t).mono fun _ _ y => ⟨y.1, .tail _ y.2⟩)
theorem call_sortS {X : Cx} (hu : X.A.units + 65 < cLine) : CallR X (.builtin "sorted") (rSortS X.K) := by
  intro pins s σ H xs us Q I r h
  obtain ⟨m, a, ws, ds, rfl, hs, rr, ok, hz, q⟩ := h
  rw [Vals.ref1 r]
  have hseq : ∃ its : List Value, Vals ws its ∧ SeqAt s.heap a its := by
    rcases hs with hs | hs
    · obtain ⟨its, o, n, hv, g, g1, g2⟩ := sqT_at I.hok I.kIn hs
      exact ⟨its, hv, o, n, g, .inr g1, g2⟩
    · obtain ⟨its, o, n, hv, g, g1, g2⟩ := sqL_at I.hok I.kIn hs
      exact ⟨its, hv, o, n, g, .inl g1, g2⟩
  obtain ⟨its, hv, hq⟩ := hseq
  have lz : its.length ≤ sizeLine := by rw [← hv.length, ← rr.length]; exact hz
  have ea := each_rep rr hv
  have er : PySem.W.EachIs (fun u d => ∃ as, Reads (PySem.W.sortingHeap (PySem.W.copyHeap s.heap its) (s.heap.objs.size + 1) its) u (encS d) as) its ds := (each_withmem ea).mono fun u d ⟨⟨v, h1, h2⟩, hm⟩ => by
    obtain ⟨as, hr⟩ := okSrt_reads ok I.hok I.kIn hm h2 h1
    exact ⟨as, PyProof.Rows.Reads.keeps (fun _ _ => PySem.W.sorting_copy_old) hr⟩
  have hal := okSrt_alike ok
  have bound : ∀ d, d ∈ ds.map encS → X.A.in1.in1.units + d.depth < cLine := fun d hd => by
    obtain ⟨e, he, rfl⟩ := List.mem_map.mp hd
    have h1 := okSrt_depth ok e he
    show X.A.units + 1 + 1 + (encS e).depth < cLine
    omega
  refine sorted_seq hq (PySem.W.SortsAt.data (s := { s with heap := PySem.W.sortingHeap (PySem.W.copyHeap s.heap its) (s.heap.objs.size + 1) its }) (PySem.W.each_map (R := fun v d => ∃ as, Reads (PySem.W.sortingHeap (PySem.W.copyHeap s.heap its) (s.heap.objs.size + 1) its) v d as) encS er) hal (okSrt_sortable ok) bound) lz ?_
  have out := PySem.W.sortVals_data false ea er hal
  obtain ⟨zs, z1, z2⟩ := rep_each out
  have lzs : zs.length ≤ sizeLine := by
    rw [← z1.length]
    show (srtD ds).length ≤ sizeLine
    rw [(srtD_perm ds).length_eq]; exact hz
  obtain ⟨ep, he'⟩ := PyProof.Rows.sortedAll_at s.heap its (PySem.W.sortVals (PySem.W.dataKind (PySem.W.sortingHeap (PySem.W.copyHeap s.heap its) (s.heap.objs.size + 1) its) (ds.map encS)) false its its).toArray
  exact ⟨.ref _, upd H (s.heap.objs.size + 1) (.lst zs), I.laid (t' := s.toks) (fun _ _ => PyProof.Rows.sortedAll_old) (Nat.le_succ _) ⟨lzs, _, ep, z2, he'⟩, rfl, q _ zs (I.hok.fresh (Nat.le_succ _)) z1 lzs⟩
theorem dc_sort {X : Cx} (hu : X.A.units + 65 < cLine) : DCall X (.builtin "sorted") (d1 dSort) := callW (call_sortS hu) fun vs H Q ⟨ds, m, d, r, s, e, q⟩ => by
  match ds, e with
  | [x], e =>
    simp only [RepL] at r
    obtain ⟨v, r', rfl, h1, rfl⟩ := r
    have e : dSort (look m x) = some d := e
    have main : ∀ es : List D, (look m x = .tup es ∨ look m x = .lst es) → okSrt es = true → es.length ≤ sizeLine → d = .lst (srtD es) → rSortS X.K [v] H Q := fun es hl ok hz hd => by
      obtain ⟨a, ws, rfl, hq, rr⟩ := star_items (cont_of s h1) hl
      subst hd
      exact ⟨m, a, ws, es, rfl, hq, rr, ok, hz, fun p zs hp z1 _ => q _ _ (Fr.laid s hp) (s.laid hp) (new_lst s hp z1)⟩
    unfold dSort at e
    split at e
    · rename_i es hl
      split at e
      · rename_i hc
        exact main es (.inr hl) hc.1 hc.2 (Option.some.inj e).symm
      · cases e
    · rename_i es hl
      split at e
      · rename_i hc
        exact main es (.inl hl) hc.1 hc.2 (Option.some.inj e).symm
      · cases e
    · cases e
end DL
/-! ### DL44: comprehensions over a list that may be changed, and is not while it is walked -/
namespace DL
open PySem PySem.Spec PyProof.Rows L2
/-- p: the list that is walked; a: the new list -/
def lcDM (p : Addr) (all : List D) (a : Addr) (g : Tgt) (tt : DTT) (te : DTE) (env : Env) (Q : M → Prop) : List D → M → Prop
  | [], m => m p = some (.lst all) ∧ Q m
  | d :: ds, m => m p = some (.lst all) ∧ tgD g d env m fun env' m' => tt env' m' fun b m2 => if b = true then te env' m2 fun y m3 => ∃ acc, m3 a = some (.lst acc) ∧ acc.length < sizeLine ∧ lcDM p all a g tt te env Q ds (updM m3 a (.lst (acc ++ [y]))) else lcDM p all a g tt te env Q ds m2
def tLcMM (t0 : DTE) (g : Tgt) (tt : DTT) (te : DTE) (vs : List Nat) : DTE := fun env m Q => t0 env m fun o m1 => ∃ p ds, o = .ref p ∧ m1 p = some (.lst ds) ∧ ∀ a, m1 a = none → lcDM p ds a g tt te (wipeD env vs) (fun m2 => Q (.ref a) m2) ds (updM m1 a (.lst []))
theorem lcDM_at {p : Addr} {all : List D} {a : Addr} {g : Tgt} {tt : DTT} {te : DTE} {env : Env} {Q : M → Prop} {ds : List D} {m : M} (h : lcDM p all a g tt te env Q ds m) : m p = some (.lst all) := by
  cases ds with
  | nil => exact h.1
  | cons d ds => exact h.1
section
variable {X : Cx} {te : DTE}
theorem lcM_lift {g : Tgt} {tt : DTT} {t0 : DTE} {vs : List Nat} (hg : ∀ i ∈ g.ix, i ∈ vs) {σ : L2.St} {H : Hp} {Q : VK} (h : liftE X.K (tLcMM t0 g tt te vs) σ H Q) : L2.tLc (iList X.K (liftE X.K t0)) (tgR X.K g) (liftT X.K tt) (liftE X.K te) vs σ H Q := by
  obtain ⟨env, m, R, eo, s, h, k⟩ := h
  refine ⟨env, m, _, eo, s, h, fun o m1 v H1 h1 f1 s1 r1 => ?_⟩
  obtain ⟨p, ds, rfl, hm, h1⟩ := h1
  simp only [Rep] at r1
  subst r1
  obtain ⟨ws, hp, rr⟩ := s1 p _ hm
  refine ⟨p, rfl, ⟨ws, .of hp⟩, fun A hA => ?_⟩
  have mA : m1 A = none := s1.free hA
  have eo1 := eo.mono f1
  refine ⟨fun i n H => n = ds.length - i ∧ i ≤ ds.length ∧ ∃ m, Sim X.K m H ∧ Fr m1 H1 m H ∧ lcDM p ds A g tt te (wipeD env vs) (fun m2 => R (.ref A) m2) (ds.drop i) m,
    ⟨_, rfl, Nat.zero_le _, _, new_lstM s1 hA .nil, Fr.laidM s1 hA, h1 A mA⟩, ?_⟩
  rintro i n H2 ⟨rfl, hi, m2, s2, f2, h2⟩
  obtain ⟨go, stop⟩ := itl_at s2 (lcDM_at h2) i
  by_cases hlt : i < ds.length
  · obtain ⟨g1, g2⟩ := go ds[i] (by simp [hlt])
    have ed : ds.drop i = ds[i] :: ds.drop (i + 1) := List.drop_eq_getElem_cons hlt
    rw [ed] at h2
    refine .inr ⟨g1, fun H' => ∃ m, Sim X.K m H' ∧ Fr m1 H1 m H' ∧ lcDM p ds A g tt te (wipeD env vs) (fun m2 => R (.ref A) m2) (ds.drop (i + 1)) m,
      fun H' q => ⟨ds.length - (i + 1), by omega, rfl, hlt, q⟩, fun x H' y => ?_⟩
    obtain ⟨rfl, r3⟩ := g2 x H' y
    have h2 : tgD g ds[i] (wipeD env vs) m2 _ := h2.2
    refine tg_run r3 ((eo1.mono f2).wipe vs) s2 h2 fun env4 σ4 h4 eo4 wp => ?_
    refine ⟨by rw [wp vs hg]; exact wipe_sub fun i hi => hi, env4, m2, _, eo4, s2, h4, fun b m5 H5 h5 f5 s5 => ?_⟩
    cases b with
    | true =>
      simp only [if_true] at h5 ⊢
      refine ⟨env4, m5, _, eo4.mono f5, s5, h5, fun z m6 zv H6 h6 f6 s6 r6 => ?_⟩
      obtain ⟨acc, ea, hz, h6⟩ := h6
      obtain ⟨us, hD6, ra⟩ := s6 A _ ea
      have fw : Fr m6 H6 (updM m6 A (.lst (acc ++ [z]))) (upd H6 A (.lst (us ++ [zv]))) := Fr.write ea
      exact ⟨us, hD6, by rw [← ra.length]; exact hz, _, s6.write (d := .lst (acc ++ [z])) ea ⟨_, upd_same, RepL.mono fw _ _ (ra.snoc r6)⟩, (f2.trans (f5.trans f6)).trans fw, h6⟩
    | false =>
      simp only [Bool.false_eq_true, if_false] at h5 ⊢
      exact ⟨m5, s5, f2.trans f5, h5⟩
  · have e : i = ds.length := by omega
    subst e
    rw [List.drop_length] at h2
    exact .inl ⟨stop rfl, k (.ref A) m2 _ H2 h2.2 (f1.trans f2) s2 rep_ref⟩
variable {tg iter elt : Expr} {ifs : List Expr} {pos : Pos}
theorem de_lcM {scope : Scope} {own : List (Str × Nat)} {t0 : DTE} {g : Tgt} {tt : DTT} (hi : DE X iter t0) (ok : BlkOk X.N X.env.scope scope own) (hN : X.N.Nodup) (hc : X.calm = true)
    (hg : ∀ (s : Shared) (H : Hp) (C : Addr) (cl : List (Str × Addr)) (fp : List Addr), DGt (Blk X scope s H C cl fp) tg g) (ht : ∀ (s : Shared) (H : Hp) (C : Addr) (cl : List (Str × Addr)) (fp : List Addr), DTs (Blk X scope s H C cl fp) ifs tt)
    (he : ∀ (s : Shared) (H : Hp) (C : Addr) (cl : List (Str × Addr)) (fp : List Addr), DE (Blk X scope s H C cl fp) elt te) (hv : ∀ i ∈ g.ix, i ∈ own.map (·.2) := by decide) (hs : ∀ x, foldedSetIterable iter X.env x = pure x := by intro _; rfl) :
    DE X (.ListComp elt [⟨tg, iter, ifs, 0⟩] scope pos) (tLcMM t0 g tt te (own.map (·.2))) :=
  ⟨PE.weak (pe_lc hc hN (pi_list hi.run) ok (fun s H C cl fp => (hg s H C cl fp).run) (fun s H C cl fp => (ht s H C cl fp).run) (fun s H C cl fp => (he s H C cl fp).run) hs) fun σ H Q h => lcM_lift hv h⟩
end
theorem lcDM_inv {p a : Addr} {all : List D} {g : Tgt} {tt : DTT} {te : DTE} {env : Env} {Q : M → Prop} {m : M} (I : Nat → List D → M → Prop) (h0 : I 0 [] m) (hk : ∀ i acc m, I i acc m → m p = some (.lst all))
    (step : ∀ (i : Nat) (acc : List D) (d : D) (m : M) (N : M → Prop), all[i]? = some d → I i acc m → (∀ acc m, I (i + 1) acc m → N m) → tgD g d env m fun env' m' => tt env' m' fun b m2 => if b = true then te env' m2 fun y m3 => ∃ acc, m3 a = some (.lst acc) ∧ acc.length < sizeLine ∧ N (updM m3 a (.lst (acc ++ [y]))) else N m2)
    (done : ∀ acc m, I all.length acc m → Q m) : lcDM p all a g tt te env Q all m := by
  have main : ∀ (k i : Nat) (acc : List D) (m : M), all.length - i = k → i ≤ all.length → I i acc m → lcDM p all a g tt te env Q (all.drop i) m := by
    intro k
    induction k with
    | zero =>
      intro i acc m hk' hi h
      obtain rfl : i = all.length := by omega
      rw [List.drop_length]
      exact ⟨hk _ acc m h, done acc m h⟩
    | succ k ih =>
      intro i acc m hk' hi h
      have hlt : i < all.length := by omega
      rw [List.drop_eq_getElem_cons hlt]
      exact ⟨hk i acc m h, step i acc all[i] m _ (by simp [hlt]) h fun acc' m' h' => ih (i + 1) acc' m' (by omega) hlt h'⟩
  exact main _ 0 [] m rfl (Nat.zero_le _) h0
/-- .. that changes nothing, frozen -/
theorem lcM_pure {t0 : DTE} {g : Tgt} {tt : DTT} {te : DTE} {vs : List Nat} {env : Env} {m : M} {Q : DK} {ds : List D} {q : Addr} (F : D → Option D) (hi : ∀ R : DK, R (.ref q) m → t0 env m R) (hq : m q = some (.lst ds)) (hl : ds.length < sizeLine)
    (step : ∀ (d : D) (m1 : M) (R : Bool → DK), d ∈ ds → (∃ p acc, m p = none ∧ m1 = updM m p (.lst acc)) → (∀ y, F d = some y → R true y m1) → (F d = none → R false .non m1) →
      tgD g d (wipeD env vs) m1 fun env' m' => tt env' m' fun b m2 => if b = true then te env' m2 (R true) else R false .non m2)
    (hQ : Q (.lst (ds.filterMap F)) m) : tFrz (tLcMM t0 g tt te vs) env m Q := by
  refine hi _ ⟨q, ds, rfl, hq, fun p hp => ?_⟩
  have qp : q ≠ p := by rintro rfl; rw [hq] at hp; cases hp
  refine lcDM_inv (all := ds) (fun i acc m' => m' = updM m p (.lst acc) ∧ acc = (ds.take i).filterMap F) ⟨rfl, by simp⟩ (fun i acc m' h => by rw [h.1, updM_ne qp]; exact hq) (fun i acc d m' N hd ⟨hm, ha⟩ hN => ?_) fun acc m' h => ?_
  · subst hm
    have hmem : d ∈ ds := List.mem_of_getElem? hd
    have hlt : i < ds.length := by
      rcases Nat.lt_or_ge i ds.length with z | z
      · exact z
      · rw [List.getElem?_eq_none z] at hd; cases hd
    have hacc : acc.length ≤ i := by
      rw [ha]
      exact Nat.le_trans (List.length_filterMap_le _ _) (by rw [List.length_take]; omega)
    have et : ds.take (i + 1) = ds.take i ++ [d] := by
      rw [List.take_add_one, hd] <;> rfl
    have := step d _ (fun b y m3 => if b = true then ∃ acc, m3 p = some (.lst acc) ∧ acc.length < sizeLine ∧ N (updM m3 p (.lst (acc ++ [y]))) else N m3) hmem ⟨p, acc, hp, rfl⟩ (fun y e => ?_) fun e => ?_
    · simpa using this
    · simp only [if_true]
      refine ⟨acc, updM_same, by omega, hN (acc ++ [y]) _ ⟨by rw [updM_over], ?_⟩⟩
      rw [et, List.filterMap_append, ha]
      simp [e]
    · simp only [Bool.false_eq_true, if_false]
      refine hN acc _ ⟨rfl, ?_⟩
      rw [et, List.filterMap_append, ha]
      simp [e]
  · obtain ⟨rfl, rfl⟩ := h
    rw [List.take_length]
    refine ⟨_, updM_same, ?_⟩
    rw [delM_upd hp]
    exact hQ
end DL
namespace K58
open PySem PySem.Spec PyProof.Rows L2 DL
def top (i : Nat) : Stmt := PySem.Challenge.pw_whatleaves_k58_kinds_as_views.main.body.getD i (.Pass ⟨0, 0, 0, 0⟩)
def c_FIRST : List Str := ["error", "vacant"]
def c_RESERVED : List Str := ["pass", "raise", "from", "none", "again", "return", "returns", "break", "call", "handling", "else", "either", "or", "loop", "try", "except", "as", "finally", "with", "quiet", "class", "def"]
/-! TooMany.__init__ -/
abbrev s_X_TooMany : Stmt := inClass (top 16) 0
theorem sc_X_TooMany : FnScope ["self", "what", "most"] ["self", "what", "most"] (defScope s_X_TooMany) := ⟨rfl, rfl, rfl, by decide +kernel, rfl, by decide +kernel, by decide +kernel⟩
theorem x_TooMany {P : Program} {w : World} {K : PySem.W.Frag} {mg : Str → Option Value} {base : Heap} {C_TooMany : Addr} (T : OexC K C_TooMany) (hn0 : PySem.W.findIn K (.ref C_TooMany) "what" = some none) (hn1 : PySem.W.findIn K (.ref C_TooMany) "most" = some none) {f : Addr} {fd : FuncData} (F : Fun K "__init__" "TooMany.__init__" s_X_TooMany f fd) (h1 : PySem.W.findIn K (.ref C_TooMany) "__init__" = some (some (.ref f))) (h2 : PySem.W.typeIn K (.ref f) = some (.type "function")) : MkX P w K mg base C_TooMany 1 ["what", "most"] :=
  ⟨T, f, fd, ["self", "what", "most"], h1, h2, F.binds (ps := ["self", "what", "most"]) (fun _ _ _ _ _ _ us hl => match us, hl with | [_, _, _], _ => rfl), xinit2 F sc_X_TooMany rfl T hn0 hn1 (Or.inl rfl) (Or.inl rfl) (Or.inl rfl) (hb := rfl)⟩
/-! _law_pen -/
abbrev s_l_pen : Stmt := top 24
def N_l_pen : List Str := ["_law_script"]
theorem sc_l_pen : FnScope N_l_pen ["_law_script"] (defScope s_l_pen) := ⟨rfl, rfl, rfl, by decide +kernel, rfl, by decide +kernel, by decide +kernel⟩
def r_l_pen_1 : DTS := (tRt (tLstM (tAC (tFn (d1 dList) (tAC (tSlD (tV 0) tON (tOS (tK (.int 63)))) tA0)) (tAC (tK (.int 0)) (tAC (tK (.int 0)) tA0)))))
def ri_l_pen : DTS := (tRt (tLstM (tAC (tFn (d1 dList) (tAC (tSlD (tV 0) tON (tOS (tK (.int 63)))) tA0)) (tAC (tK (.int 0)) (tAC (tK (.int 0)) tA0)))))
def r_l_pen : DTS := r_l_pen_1
theorem rr_l_pen : ri_l_pen = r_l_pen := rfl
def sp_l_pen : DSp := spOf 1 1 (r_l_pen)
theorem b_l_pen {P : Program} {w : World} {K : PySem.W.Frag} {mg : Str → Option Value} {base : Heap} (z_list : mg "list" = none) {f : Addr} {cdv : Value} {A : Around} {outer : List PySem.Env} {s : Shared} {H : Hp} {E : XK} (hr : RoomG 0 (A.deeper (envOfC "_law_pen" (defScope s_l_pen) s.heap.objs.size f cdv))) :
    DSs (cxOf CX0 P w K mg base N_l_pen "_law_pen" (defScope s_l_pen) f cdv A outer s H E).nox (defBody s_l_pen) (ri_l_pen) := by
  have hu := hr.hu
  have hgd := hr.g
  have nd := sc_l_pen.nd
  exact (dss_one (ds_ret (de_lstM (da_cons (de_ty (dc_list rfl) z_list (by decide +kernel) (da_cons (de_slice (dv 0) do_none (do_some de_int)) da_nil)) (da_cons de_int (da_cons de_int da_nil))))))
theorem f_l_pen {P : Program} {w : World} {K : PySem.W.Frag} {mg : Str → Option Value} {base : Heap} (z_list : mg "list" = none) {f : Addr} {fd : FuncData} (F : Fun K "_law_pen" "_law_pen" s_l_pen f fd) : FnG P w K mg base CX0 1 f (liftSp K sp_l_pen) :=
  FnG.imp (sp := liftSp K (spOf0 1 1 (r_l_pen))) (fn_mk F sc_l_pen (F.binds (ps := ["_law_script"]) fun _ _ _ _ _ _ us hl => match us, hl with | [_], _ => rfl) (fun ds m R h => h.1) (fun cdv A outer s H E hr => b_l_pen z_list hr) fun ds m R h => h.2) lift_drop
/-! _law_draw -/
abbrev s_l_draw : Stmt := top 25
def N_l_draw : List Str := ["_law_pen_here", "_law_many", "_law_digit", "_law_begun", "_law_cell", "_law_great", "_law_mixed"]
theorem sc_l_draw : FnScope N_l_draw ["_law_pen_here", "_law_many"] (defScope s_l_draw) := ⟨rfl, rfl, rfl, by decide +kernel, rfl, by decide +kernel, by decide +kernel⟩
def r_l_draw_1 : DTS := (tRt (tV 2))
def r_l_draw_2 : DTS := (tSq (tAs (tBin dDiv (tFn (d1 dInt) (tAC (tBin dIx (tV 0) (tK (.int 2))) tA0)) (tV 1)) (gSb (tV 0) (tK (.int 2)))) r_l_draw_1)
def r_l_draw_3 : DTS := (tSq (tSet 2 (tBin dMod (tFn (d1 dInt) (tAC (tBin dIx (tV 0) (tK (.int 2))) tA0)) (tV 1))) r_l_draw_2)
def r_l_draw_4 : DTS := (tSet 4 (tBin dIx (tBin dIx (tV 0) (tK (.int 0))) (tBin dMod (tFn (d1 dInt) (tAC (tV 3) tA0)) (tFn (d1 dLen) (tAC (tBin dIx (tV 0) (tK (.int 0))) tA0)))))
def r_l_draw_5 : DTS := (tRt (tBin dMod (tFn (d1 dInt) (tAC (tV 5) tA0)) (tV 1)))
def r_l_draw_6 : DTS := (tSq (tAs (tBin dDiv (tFn (d1 dInt) (tAC (tV 5) tA0)) (tV 1)) (gSb (tV 0) (tK (.int 2)))) r_l_draw_5)
def r_l_draw_7 : DTS := (tSq (tSet 5 (tBin dAdd (tBin dMul (tK (.int 2)) (tBin dSub (tFn (d1 dAbs) (tAC (tV 4) tA0)) (tBin dPow (tK (.int 10)) (tK (.int 18))))) (tFn (d1 dInt) (tAC (tBin dLt (tV 4) (tK (.int 0))) tA0)))) r_l_draw_6)
def r_l_draw_8 : DTS := (tRt (tBin dMod (tBin dDiv (tFn (d1 dInt) (tAC (tV 6) tA0)) (tK (.int 64))) (tV 1)))
def r_l_draw_9 : DTS := (tSq (tSet 6 (tBin dMod (tFn (d1 dInt) (tAC (tBin dPow (tBin dAdd (tBin dAdd (tBin dMul (tV 6) (tBin dAdd (tBin dMul (tK (.int 2)) (tV 3)) (tK (.int 33)))) (tBin dMul (tBin dMul (tK (.int 50411)) (tV 3)) (tV 3))) (tK (.int 11))) (tK (.int 3))) tA0)) (tK (.int 2147483647)))) r_l_draw_8)
def r_l_draw_10 : DTS := (tSq (tSet 6 (tBin dMod (tFn (d1 dInt) (tAC (tBin dPow (tBin dAdd (tBin dAdd (tBin dMod (tFn (d1 dInt) (tAC (tV 4) tA0)) (tK (.int 2147483587))) (tBin dMul (tK (.int 70207)) (tV 3))) (tK (.int 811))) (tK (.int 5))) tA0)) (tK (.int 2147483629)))) r_l_draw_9)
def r_l_draw_11 : DTS := (tSq (tIfS (tAndT (tBinT dLt (tV 3) (tFn (d1 dLen) (tAC (tBin dIx (tV 0) (tK (.int 0))) tA0))) (tBinT dGe (tFn (d1 dAbs) (tAC (tV 4) tA0)) (tBin dPow (tK (.int 10)) (tK (.int 18))))) r_l_draw_7 tNx) r_l_draw_10)
def r_l_draw_12 : DTS := (tSq (tIfS (tBinT dNe (tBin dIx (tV 0) (tK (.int 0))) (tLstD tA0)) r_l_draw_4 tNx) r_l_draw_11)
def r_l_draw_13 : DTS := (tSq (tSet 4 (tBin dAdd (tBin dMul (tK (.int 61057)) (tV 3)) (tK (.int 811)))) r_l_draw_12)
def r_l_draw_14 : DTS := (tSq (tAs (tBin dAdd (tV 3) (tK (.int 1))) (gSb (tV 0) (tK (.int 1)))) r_l_draw_13)
def r_l_draw_15 : DTS := (tSq (tSet 3 (tBin dIx (tV 0) (tK (.int 1)))) r_l_draw_14)
def r_l_draw_16 : DTS := (tSq (tIfS (tBinT dGt (tBin dIx (tV 0) (tK (.int 2))) (tK (.int 0))) r_l_draw_3 tNx) r_l_draw_15)
def ri_l_draw : DTS := (tSq (tIfS (tBinT dGt (tBin dIx (tV 0) (tK (.int 2))) (tK (.int 0))) (tSq (tSet 2 (tBin dMod (tFn (d1 dInt) (tAC (tBin dIx (tV 0) (tK (.int 2))) tA0)) (tV 1))) (tSq (tAs (tBin dDiv (tFn (d1 dInt) (tAC (tBin dIx (tV 0) (tK (.int 2))) tA0)) (tV 1)) (gSb (tV 0) (tK (.int 2)))) (tRt (tV 2)))) tNx) (tSq (tSet 3 (tBin dIx (tV 0) (tK (.int 1)))) (tSq (tAs (tBin dAdd (tV 3) (tK (.int 1))) (gSb (tV 0) (tK (.int 1)))) (tSq (tSet 4 (tBin dAdd (tBin dMul (tK (.int 61057)) (tV 3)) (tK (.int 811)))) (tSq (tIfS (tBinT dNe (tBin dIx (tV 0) (tK (.int 0))) (tLstD tA0)) (tSet 4 (tBin dIx (tBin dIx (tV 0) (tK (.int 0))) (tBin dMod (tFn (d1 dInt) (tAC (tV 3) tA0)) (tFn (d1 dLen) (tAC (tBin dIx (tV 0) (tK (.int 0))) tA0))))) tNx) (tSq (tIfS (tAndT (tBinT dLt (tV 3) (tFn (d1 dLen) (tAC (tBin dIx (tV 0) (tK (.int 0))) tA0))) (tBinT dGe (tFn (d1 dAbs) (tAC (tV 4) tA0)) (tBin dPow (tK (.int 10)) (tK (.int 18))))) (tSq (tSet 5 (tBin dAdd (tBin dMul (tK (.int 2)) (tBin dSub (tFn (d1 dAbs) (tAC (tV 4) tA0)) (tBin dPow (tK (.int 10)) (tK (.int 18))))) (tFn (d1 dInt) (tAC (tBin dLt (tV 4) (tK (.int 0))) tA0)))) (tSq (tAs (tBin dDiv (tFn (d1 dInt) (tAC (tV 5) tA0)) (tV 1)) (gSb (tV 0) (tK (.int 2)))) (tRt (tBin dMod (tFn (d1 dInt) (tAC (tV 5) tA0)) (tV 1))))) tNx) (tSq (tSet 6 (tBin dMod (tFn (d1 dInt) (tAC (tBin dPow (tBin dAdd (tBin dAdd (tBin dMod (tFn (d1 dInt) (tAC (tV 4) tA0)) (tK (.int 2147483587))) (tBin dMul (tK (.int 70207)) (tV 3))) (tK (.int 811))) (tK (.int 5))) tA0)) (tK (.int 2147483629)))) (tSq (tSet 6 (tBin dMod (tFn (d1 dInt) (tAC (tBin dPow (tBin dAdd (tBin dAdd (tBin dMul (tV 6) (tBin dAdd (tBin dMul (tK (.int 2)) (tV 3)) (tK (.int 33)))) (tBin dMul (tBin dMul (tK (.int 50411)) (tV 3)) (tV 3))) (tK (.int 11))) (tK (.int 3))) tA0)) (tK (.int 2147483647)))) (tRt (tBin dMod (tBin dDiv (tFn (d1 dInt) (tAC (tV 6) tA0)) (tK (.int 64))) (tV 1)))))))))))
def r_l_draw : DTS := r_l_draw_16
theorem rr_l_draw : ri_l_draw = r_l_draw := rfl
def sp_l_draw : DSp := spOf 2 7 (r_l_draw)
theorem b_l_draw {P : Program} {w : World} {K : PySem.W.Frag} {mg : Str → Option Value} {base : Heap} (z_int : mg "int" = none) (z_len : mg "len" = none) (z_abs : mg "abs" = none) {f : Addr} {cdv : Value} {A : Around} {outer : List PySem.Env} {s : Shared} {H : Hp} {E : XK} (hr : RoomG 0 (A.deeper (envOfC "_law_draw" (defScope s_l_draw) s.heap.objs.size f cdv))) :
    DSs (cxOf CX0 P w K mg base N_l_draw "_law_draw" (defScope s_l_draw) f cdv A outer s H E).nox (defBody s_l_draw) (ri_l_draw) := by
  have hu := hr.hu
  have hgd := hr.g
  have nd := sc_l_draw.nd
  exact (dss_cons (ds_if (dt_cmp do_gt (de_ix hu (dv 0) de_int) de_int)
  (dss_cons (ds_set (i := 2) (de_op do_mod (de_ty dc_int z_int (by decide +kernel) (da_cons (de_ix hu (dv 0) de_int) da_nil)) (dv 1)) nd)
  (dss_cons (ds_asg (de_op do_div (de_ty dc_int z_int (by decide +kernel) (da_cons (de_ix hu (dv 0) de_int) da_nil)) (dv 1)) (dg_sub hu (dv 0) de_int))
  (dss_one (ds_ret (dv 2)))))
  dss_nil)
  (dss_cons (ds_set (i := 3) (de_ix hu (dv 0) de_int) nd)
  (dss_cons (ds_asg (de_op do_add (dv 3) de_int) (dg_sub hu (dv 0) de_int))
  (dss_cons (ds_set (i := 4) (de_op do_add (de_op do_mul de_int (dv 3)) de_int) nd)
  (dss_cons (ds_if (dt_cmp (do_ne hu) (de_ix hu (dv 0) de_int) (de_lst da_nil))
  (dss_one (ds_set (i := 4) (de_ix hu (de_ix hu (dv 0) de_int) (de_op do_mod (de_ty dc_int z_int (by decide +kernel) (da_cons (dv 3) da_nil)) (de_fn dc_len z_len (by decide +kernel) (da_cons (de_ix hu (dv 0) de_int) da_nil)))) nd))
  dss_nil)
  (dss_cons (ds_if (DW.dt (dw_and (dt_cmp do_lt (dv 3) (de_fn dc_len z_len (by decide +kernel) (da_cons (de_ix hu (dv 0) de_int) da_nil))) (dw_and1 (dt_cmp do_ge (de_fn dc_abs z_abs (by decide +kernel) (da_cons (dv 4) da_nil)) (de_op do_pow de_int de_int)))))
  (dss_cons (ds_set (i := 5) (de_op do_add (de_op do_mul de_int (de_op do_sub (de_fn dc_abs z_abs (by decide +kernel) (da_cons (dv 4) da_nil)) (de_op do_pow de_int de_int))) (de_ty dc_int z_int (by decide +kernel) (da_cons (de_cmp do_lt (dv 4) de_int) da_nil))) nd)
  (dss_cons (ds_asg (de_op do_div (de_ty dc_int z_int (by decide +kernel) (da_cons (dv 5) da_nil)) (dv 1)) (dg_sub hu (dv 0) de_int))
  (dss_one (ds_ret (de_op do_mod (de_ty dc_int z_int (by decide +kernel) (da_cons (dv 5) da_nil)) (dv 1))))))
  dss_nil)
  (dss_cons (ds_set (i := 6) (de_op do_mod (de_ty dc_int z_int (by decide +kernel) (da_cons (de_op do_pow (de_op do_add (de_op do_add (de_op do_mod (de_ty dc_int z_int (by decide +kernel) (da_cons (dv 4) da_nil)) de_int) (de_op do_mul de_int (dv 3))) de_int) de_int) da_nil)) de_int) nd)
  (dss_cons (ds_set (i := 6) (de_op do_mod (de_ty dc_int z_int (by decide +kernel) (da_cons (de_op do_pow (de_op do_add (de_op do_add (de_op do_mul (dv 6) (de_op do_add (de_op do_mul de_int (dv 3)) de_int)) (de_op do_mul (de_op do_mul de_int (dv 3)) (dv 3))) de_int) de_int) da_nil)) de_int) nd)
  (dss_one (ds_ret (de_op do_mod (de_op do_div (de_ty dc_int z_int (by decide +kernel) (da_cons (dv 6) da_nil)) de_int) (dv 1))))))))))))
theorem f_l_draw {P : Program} {w : World} {K : PySem.W.Frag} {mg : Str → Option Value} {base : Heap} (z_int : mg "int" = none) (z_len : mg "len" = none) (z_abs : mg "abs" = none) {f : Addr} {fd : FuncData} (F : Fun K "_law_draw" "_law_draw" s_l_draw f fd) : FnG P w K mg base CX0 1 f (liftSp K sp_l_draw) :=
  FnG.imp (sp := liftSp K (spOf0 2 7 (r_l_draw))) (fn_mk F sc_l_draw (F.binds (ps := ["_law_pen_here", "_law_many"]) fun _ _ _ _ _ _ us hl => match us, hl with | [_, _], _ => rfl) (fun ds m R h => h.1) (fun cdv A outer s H E hr => b_l_draw z_int z_len z_abs hr) fun ds m R h => h.2) lift_drop
/-! _law_pick -/
abbrev s_l_pick : Stmt := top 26
def N_l_pick : List Str := ["_law_pen_here", "_law_some"]
theorem sc_l_pick : FnScope N_l_pick ["_law_pen_here", "_law_some"] (defScope s_l_pick) := ⟨rfl, rfl, rfl, by decide +kernel, rfl, by decide +kernel, by decide +kernel⟩
def r_l_pick_1 : DTS := (tRt (tBin dIx (tV 1) (tCl sp_l_draw (tAC (tV 0) (tAC (tFn (d1 dLen) (tAC (tV 1) tA0)) tA0)))))
def ri_l_pick : DTS := (tRt (tBin dIx (tV 1) (tCl sp_l_draw (tAC (tV 0) (tAC (tFn (d1 dLen) (tAC (tV 1) tA0)) tA0)))))
def r_l_pick : DTS := r_l_pick_1
theorem rr_l_pick : ri_l_pick = r_l_pick := rfl
def sp_l_pick : DSp := spOf 2 2 (r_l_pick)
theorem b_l_pick {P : Program} {w : World} {K : PySem.W.Frag} {mg : Str → Option Value} {base : Heap} (c_l_draw : CalW P w K mg base "_law_draw" 1 sp_l_draw) (z_len : mg "len" = none) {f : Addr} {cdv : Value} {A : Around} {outer : List PySem.Env} {s : Shared} {H : Hp} {E : XK} (hr : RoomG 1 (A.deeper (envOfC "_law_pick" (defScope s_l_pick) s.heap.objs.size f cdv))) :
    DSs (cxOf CX0 P w K mg base N_l_pick "_law_pick" (defScope s_l_pick) f cdv A outer s H E).nox (defBody s_l_pick) (ri_l_pick) := by
  have hu := hr.hu
  have hgd := hr.g
  have nd := sc_l_pick.nd
  exact (dss_one (ds_ret (de_ix hu (dv 1) (de_call ⟨c_l_draw⟩ (hr.mono (by decide)) (da_cons (dv 0) (da_cons (de_fn dc_len z_len (by decide +kernel) (da_cons (dv 1) da_nil)) da_nil))))))
theorem f_l_pick {P : Program} {w : World} {K : PySem.W.Frag} {mg : Str → Option Value} {base : Heap} (c_l_draw : CalW P w K mg base "_law_draw" 1 sp_l_draw) (z_len : mg "len" = none) {f : Addr} {fd : FuncData} (F : Fun K "_law_pick" "_law_pick" s_l_pick f fd) : FnG P w K mg base CX0 2 f (liftSp K sp_l_pick) :=
  FnG.imp (sp := liftSp K (spOf0 2 2 (r_l_pick))) (fn_mk F sc_l_pick (F.binds (ps := ["_law_pen_here", "_law_some"]) fun _ _ _ _ _ _ us hl => match us, hl with | [_, _], _ => rfl) (fun ds m R h => h.1) (fun cdv A outer s H E hr => b_l_pick c_l_draw z_len hr) fun ds m R h => h.2) lift_drop
/-! _law_words -/
abbrev s_l_words : Stmt := top 27
def N_l_words : List Str := ["_law_pen_here", "_law_many", "_law_letters", "_law_barred", "_law_base", "_law_found", "_law_k", "_law_spot", "_law_word", "_law_some", "_law_letter", "_law_j", "_law_one"]
theorem sc_l_words : FnScope N_l_words ["_law_pen_here", "_law_many"] (defScope s_l_words) := ⟨rfl, rfl, rfl, by decide +kernel, rfl, by decide +kernel, by decide +kernel⟩
def r_l_words_1 : DTE := (tCl sp_l_pick (tAC (tV 0) (tAC (tV 2) tA0)))
def r_l_words_2 : DTS := (tSet 8 (tSlD (tV 4) tON (tOS (tBin dAdd (tK (.int 1)) (tCl sp_l_draw (tAC (tV 0) (tAC (tFn (d1 dLen) (tAC (tV 4) tA0)) tA0)))))))
def r_l_words_3 : DTE := (tCl sp_l_pick (tAC (tV 0) (tAC (tV 2) tA0)))
def r_l_words_4 : DTS := (tSet 8 (tJoin (tK (.str "")) (tFrz (tLcM (iRg (tAC (tBin dAdd (tK (.int 1)) (tCl sp_l_draw (tAC (tV 0) (tAC (tK (.int 8)) tA0)))) tA0)) (.one 11) tYe r_l_words_3 [11]))))
def r_l_words_5 : DTE := (tBin dAdd (tSlD (tV 8) tON (tOS (tK (.int 7)))) (tV 10))
def r_l_words_6 : DTT := (tAndT (tBinT dNotIn (tV 12) (tV 5)) (tBinT dNotIn (tV 12) (tV 3)))
def r_l_words_7 : DTE := (tV 12)
def r_l_words_8 : DTS := (tDr (tApp (tV 5) (tBin dIx (tFrz (tLcM (iSeq (tV 9)) (.one 12) r_l_words_6 r_l_words_7 [12])) (tK (.int 0)))))
def r_l_words_9 : DTS := (tSq (tSet 9 (tBin dAdd (tLstD (tAC (tSlD (tV 8) tON (tOS (tK (.int 8)))) tA0)) (tFrz (tLcM (iSeq (tV 2)) (.one 10) tYe r_l_words_5 [10])))) r_l_words_8)
def r_l_words_10 : DTS := (tSq (tIfS (tBinT dGt (tV 7) (tFn (d1 dLen) (tAC (tV 4) tA0))) r_l_words_4 tNx) r_l_words_9)
def r_l_words_11 : DTS := (tSq (tIfS (tBinT dEq (tV 7) (tFn (d1 dLen) (tAC (tV 4) tA0))) r_l_words_2 tNx) r_l_words_10)
def r_l_words_12 : DTS := (tSq (tSet 8 (tBin dAdd (tBin dAdd (tSlD (tV 4) tON (tOS (tV 7))) (tCl sp_l_pick (tAC (tV 0) (tAC (tV 2) tA0)))) (tSlD (tV 4) (tOS (tBin dAdd (tV 7) (tK (.int 1)))) tON))) r_l_words_11)
def r_l_words_13 : DTS := (tSq (tSet 7 (tCl sp_l_draw (tAC (tV 0) (tAC (tBin dAdd (tFn (d1 dLen) (tAC (tV 4) tA0)) (tK (.int 3))) tA0)))) r_l_words_12)
def r_l_words_14 : DTS := (tRt (tFrz (tV 5)))
def r_l_words_15 : DTS := (tSq (tFo (iRg (tAC (tV 1) tA0)) (.one 6) r_l_words_13) r_l_words_14)
def r_l_words_16 : DTS := (tSq (tSet 5 (tLstM tA0)) r_l_words_15)
def r_l_words_17 : DTS := (tSq (tSet 4 (tJoin (tK (.str "")) (tFrz (tLcM (iRg (tAC (tBin dAdd (tK (.int 1)) (tCl sp_l_draw (tAC (tV 0) (tAC (tK (.int 8)) tA0)))) tA0)) (.one 6) tYe r_l_words_1 [6])))) r_l_words_16)
def r_l_words_18 : DTS := (tSq (tSet 3 (tBin dAdd (tV 3) (tLstD (tAC (tK (.str "error")) (tAC (tK (.str "vacant")) tA0))))) r_l_words_17)
def r_l_words_19 : DTS := (tSq (tSet 3 (tBin dAdd (tV 3) (tLstD (tAC (tK (.str "either")) (tAC (tK (.str "or")) (tAC (tK (.str "loop")) (tAC (tK (.str "try")) (tAC (tK (.str "except")) (tAC (tK (.str "as")) (tAC (tK (.str "finally")) (tAC (tK (.str "with")) (tAC (tK (.str "quiet")) (tAC (tK (.str "class")) (tAC (tK (.str "def")) tA0)))))))))))))) r_l_words_18)
def r_l_words_20 : DTS := (tSq (tSet 3 (tLstD (tAC (tK (.str "pass")) (tAC (tK (.str "raise")) (tAC (tK (.str "from")) (tAC (tK (.str "none")) (tAC (tK (.str "again")) (tAC (tK (.str "return")) (tAC (tK (.str "returns")) (tAC (tK (.str "break")) (tAC (tK (.str "call")) (tAC (tK (.str "handling")) (tAC (tK (.str "else")) tA0))))))))))))) r_l_words_19)
def r_l_words_21 : DTS := (tSq (tSet 2 (tK (.str "abcdefghijklmnopqrstuvwxyz"))) r_l_words_20)
def ri_l_words : DTS := (tSq (tSet 2 (tK (.str "abcdefghijklmnopqrstuvwxyz"))) (tSq (tSet 3 (tLstD (tAC (tK (.str "pass")) (tAC (tK (.str "raise")) (tAC (tK (.str "from")) (tAC (tK (.str "none")) (tAC (tK (.str "again")) (tAC (tK (.str "return")) (tAC (tK (.str "returns")) (tAC (tK (.str "break")) (tAC (tK (.str "call")) (tAC (tK (.str "handling")) (tAC (tK (.str "else")) tA0))))))))))))) (tSq (tSet 3 (tBin dAdd (tV 3) (tLstD (tAC (tK (.str "either")) (tAC (tK (.str "or")) (tAC (tK (.str "loop")) (tAC (tK (.str "try")) (tAC (tK (.str "except")) (tAC (tK (.str "as")) (tAC (tK (.str "finally")) (tAC (tK (.str "with")) (tAC (tK (.str "quiet")) (tAC (tK (.str "class")) (tAC (tK (.str "def")) tA0)))))))))))))) (tSq (tSet 3 (tBin dAdd (tV 3) (tLstD (tAC (tK (.str "error")) (tAC (tK (.str "vacant")) tA0))))) (tSq (tSet 4 (tJoin (tK (.str "")) (tFrz (tLcM (iRg (tAC (tBin dAdd (tK (.int 1)) (tCl sp_l_draw (tAC (tV 0) (tAC (tK (.int 8)) tA0)))) tA0)) (.one 6) tYe (tCl sp_l_pick (tAC (tV 0) (tAC (tV 2) tA0))) [6])))) (tSq (tSet 5 (tLstM tA0)) (tSq (tFo (iRg (tAC (tV 1) tA0)) (.one 6) (tSq (tSet 7 (tCl sp_l_draw (tAC (tV 0) (tAC (tBin dAdd (tFn (d1 dLen) (tAC (tV 4) tA0)) (tK (.int 3))) tA0)))) (tSq (tSet 8 (tBin dAdd (tBin dAdd (tSlD (tV 4) tON (tOS (tV 7))) (tCl sp_l_pick (tAC (tV 0) (tAC (tV 2) tA0)))) (tSlD (tV 4) (tOS (tBin dAdd (tV 7) (tK (.int 1)))) tON))) (tSq (tIfS (tBinT dEq (tV 7) (tFn (d1 dLen) (tAC (tV 4) tA0))) (tSet 8 (tSlD (tV 4) tON (tOS (tBin dAdd (tK (.int 1)) (tCl sp_l_draw (tAC (tV 0) (tAC (tFn (d1 dLen) (tAC (tV 4) tA0)) tA0))))))) tNx) (tSq (tIfS (tBinT dGt (tV 7) (tFn (d1 dLen) (tAC (tV 4) tA0))) (tSet 8 (tJoin (tK (.str "")) (tFrz (tLcM (iRg (tAC (tBin dAdd (tK (.int 1)) (tCl sp_l_draw (tAC (tV 0) (tAC (tK (.int 8)) tA0)))) tA0)) (.one 11) tYe (tCl sp_l_pick (tAC (tV 0) (tAC (tV 2) tA0))) [11])))) tNx) (tSq (tSet 9 (tBin dAdd (tLstD (tAC (tSlD (tV 8) tON (tOS (tK (.int 8)))) tA0)) (tFrz (tLcM (iSeq (tV 2)) (.one 10) tYe (tBin dAdd (tSlD (tV 8) tON (tOS (tK (.int 7)))) (tV 10)) [10])))) (tDr (tApp (tV 5) (tBin dIx (tFrz (tLcM (iSeq (tV 9)) (.one 12) (tAndT (tBinT dNotIn (tV 12) (tV 5)) (tBinT dNotIn (tV 12) (tV 3))) (tV 12) [12])) (tK (.int 0))))))))))) (tRt (tFrz (tV 5))))))))))
def r_l_words : DTS := r_l_words_21
theorem rr_l_words : ri_l_words = r_l_words := rfl
def sp_l_words : DSp := spOf 2 13 (r_l_words)
theorem b_l_words {P : Program} {w : World} {K : PySem.W.Frag} {mg : Str → Option Value} {base : Heap} (c_l_draw : CalW P w K mg base "_law_draw" 1 sp_l_draw) (z_range : mg "range" = none) (c_l_pick : CalW P w K mg base "_law_pick" 2 sp_l_pick) (z_len : mg "len" = none) {f : Addr} {cdv : Value} {A : Around} {outer : List PySem.Env} {s : Shared} {H : Hp} {E : XK} (hr : RoomG 2 (A.deeper (envOfC "_law_words" (defScope s_l_words) s.heap.objs.size f cdv))) :
    DSs (cxOf CX0 P w K mg base N_l_words "_law_words" (defScope s_l_words) f cdv A outer s H E).nox (defBody s_l_words) (ri_l_words) := by
  have hu := hr.hu
  have hgd := hr.g
  have nd := sc_l_words.nd
  exact (dss_cons (ds_set (i := 2) de_str nd)
  (dss_cons (ds_set (i := 3) (de_lst (da_cons de_str (da_cons de_str (da_cons de_str (da_cons de_str (da_cons de_str (da_cons de_str (da_cons de_str (da_cons de_str (da_cons de_str (da_cons de_str (da_cons de_str da_nil)))))))))))) nd)
  (dss_cons (ds_set (i := 3) (de_op do_add (dv 3) (de_lst (da_cons de_str (da_cons de_str (da_cons de_str (da_cons de_str (da_cons de_str (da_cons de_str (da_cons de_str (da_cons de_str (da_cons de_str (da_cons de_str (da_cons de_str da_nil))))))))))))) nd)
  (dss_cons (ds_set (i := 3) (de_op do_add (dv 3) (de_lst (da_cons de_str (da_cons de_str da_nil)))) nd)
  (dss_cons (ds_set (i := 4) (de_join de_str (de_frz (de_lc (own := [("_law_k", 6)]) (di_range z_range (da_cons (de_op do_add de_int (de_call ⟨c_l_draw⟩ (hr.mono (by decide)) (da_cons (dv 0) (da_cons de_int da_nil)))) da_nil)) (blkOk_by (N := N_l_words) (sc := defScope s_l_words) (own := [("_law_k", 6)]) (by decide +kernel)) nd rfl (fun _ _ _ _ _ => (dgt_one (i := 6) nd)) (fun _ _ _ _ _ => dts_nil) (fun _ _ _ _ _ => (de_call ⟨c_l_pick⟩ (hr.mono (by decide)) (da_cons (dv 0) (da_cons (dv 2) da_nil))))))) nd)
  (dss_cons (ds_set (i := 5) (de_lstM da_nil) nd)
  (dss_cons (ds_for (di_range z_range (da_cons (dv 1) da_nil)) (dgt_one (i := 6) nd)
  (dss_cons (ds_set (i := 7) (de_call ⟨c_l_draw⟩ (hr.mono (by decide)) (da_cons (dv 0) (da_cons (de_op do_add (de_fn dc_len z_len (by decide +kernel) (da_cons (dv 4) da_nil)) de_int) da_nil))) nd)
  (dss_cons (ds_set (i := 8) (de_op do_add (de_op do_add (de_slice (dv 4) do_none (do_some (dv 7))) (de_call ⟨c_l_pick⟩ (hr.mono (by decide)) (da_cons (dv 0) (da_cons (dv 2) da_nil)))) (de_slice (dv 4) (do_some (de_op do_add (dv 7) de_int)) do_none)) nd)
  (dss_cons (ds_if (dt_cmp (do_eq hu) (dv 7) (de_fn dc_len z_len (by decide +kernel) (da_cons (dv 4) da_nil)))
  (dss_one (ds_set (i := 8) (de_slice (dv 4) do_none (do_some (de_op do_add de_int (de_call ⟨c_l_draw⟩ (hr.mono (by decide)) (da_cons (dv 0) (da_cons (de_fn dc_len z_len (by decide +kernel) (da_cons (dv 4) da_nil)) da_nil)))))) nd))
  dss_nil)
  (dss_cons (ds_if (dt_cmp do_gt (dv 7) (de_fn dc_len z_len (by decide +kernel) (da_cons (dv 4) da_nil)))
  (dss_one (ds_set (i := 8) (de_join de_str (de_frz (de_lc (own := [("_law_j", 11)]) (di_range z_range (da_cons (de_op do_add de_int (de_call ⟨c_l_draw⟩ (hr.mono (by decide)) (da_cons (dv 0) (da_cons de_int da_nil)))) da_nil)) (blkOk_by (N := N_l_words) (sc := defScope s_l_words) (own := [("_law_j", 11)]) (by decide +kernel)) nd rfl (fun _ _ _ _ _ => (dgt_one (i := 11) nd)) (fun _ _ _ _ _ => dts_nil) (fun _ _ _ _ _ => (de_call ⟨c_l_pick⟩ (hr.mono (by decide)) (da_cons (dv 0) (da_cons (dv 2) da_nil))))))) nd))
  dss_nil)
  (dss_cons (ds_set (i := 9) (de_op do_add (de_lst (da_cons (de_slice (dv 8) do_none (do_some de_int)) da_nil)) (de_frz (de_lc (own := [("_law_letter", 10)]) (di_seq (dv 2)) (blkOk_by (N := N_l_words) (sc := defScope s_l_words) (own := [("_law_letter", 10)]) (by decide +kernel)) nd rfl (fun _ _ _ _ _ => (dgt_one (i := 10) nd)) (fun _ _ _ _ _ => dts_nil) (fun _ _ _ _ _ => (de_op do_add (de_slice (dv 8) do_none (do_some de_int)) (dv 10)))))) nd)
  (dss_one (ds_expr (de_app (dv 5) (de_ix hu (de_frz (de_lc (own := [("_law_one", 12)]) (di_seq (dv 9)) (blkOk_by (N := N_l_words) (sc := defScope s_l_words) (own := [("_law_one", 12)]) (by decide +kernel)) nd rfl (fun _ _ _ _ _ => (dgt_one (i := 12) nd)) (fun _ _ _ _ _ => (dts_one (DW.dt (dw_and (dt_cmp (do_notin hu) (dv 12) (dv 5)) (dw_and1 (dt_cmp (do_notin hu) (dv 12) (dv 3))))))) (fun _ _ _ _ _ => (dv 12)))) de_int))))))))) rfl PassesOwn.never)
  (dss_one (ds_ret (de_frz (dv 5)))))))))))
theorem f_l_words {P : Program} {w : World} {K : PySem.W.Frag} {mg : Str → Option Value} {base : Heap} (c_l_draw : CalW P w K mg base "_law_draw" 1 sp_l_draw) (z_range : mg "range" = none) (c_l_pick : CalW P w K mg base "_law_pick" 2 sp_l_pick) (z_len : mg "len" = none) {f : Addr} {fd : FuncData} (F : Fun K "_law_words" "_law_words" s_l_words f fd) : FnG P w K mg base CX0 3 f (liftSp K sp_l_words) :=
  FnG.imp (sp := liftSp K (spOf0 2 13 (r_l_words))) (fn_mk F sc_l_words (F.binds (ps := ["_law_pen_here", "_law_many"]) fun _ _ _ _ _ _ us hl => match us, hl with | [_, _], _ => rfl) (fun ds m R h => h.1) (fun cdv A outer s H E hr => b_l_words c_l_draw z_range c_l_pick z_len hr) fun ds m R h => h.2) lift_drop
/-! _law_rows -/
abbrev s_l_rows : Stmt := top 28
def N_l_rows : List Str := ["_law_pen_here", "_law_words_here", "_law_rows_here", "_law_word", "_law_known", "_law_bases", "_law_other", "_law_row"]
theorem sc_l_rows : FnScope N_l_rows ["_law_pen_here", "_law_words_here"] (defScope s_l_rows) := ⟨rfl, rfl, rfl, by decide +kernel, rfl, by decide +kernel, by decide +kernel⟩
def r_l_rows_1 : DTE := (tBin dIx (tV 7) (tK (.int 0)))
def r_l_rows_2 : DTS := (tDr (tApp (tV 5) (tV 6)))
def r_l_rows_3 : DTS := (tDr (tApp (tV 2) (tBin dAdd (tTupD (tAC (tV 3) tA0)) (tFn (d1 dTuple) (tAC (tV 5) tA0)))))
def r_l_rows_4 : DTS := (tSq (tIfS (tAndT (tBinT dNotIn (tV 6) (tV 5)) (tBinT dEq (tCl sp_l_draw (tAC (tV 0) (tAC (tK (.int 2)) tA0))) (tK (.int 0)))) r_l_rows_2 tNx) r_l_rows_3)
def r_l_rows_5 : DTS := (tSq (tSet 6 (tCl sp_l_pick (tAC (tV 0) (tAC (tV 4) tA0)))) r_l_rows_4)
def r_l_rows_6 : DTS := (tSq (tSet 5 (tLstM (tAC (tCl sp_l_pick (tAC (tV 0) (tAC (tBin dAdd (tV 4) (tLstD (tAC (tK (.str "error")) tA0))) tA0))) tA0))) r_l_rows_5)
def r_l_rows_7 : DTS := (tSq (tSet 4 (tBin dAdd (tLstD (tAC (tK (.str "error")) (tAC (tK (.str "vacant")) tA0))) (tFrz (tLcMM (tV 2) (.one 7) tYe r_l_rows_1 [7])))) r_l_rows_6)
def r_l_rows_8 : DTS := (tRt (tFrz (tV 2)))
def r_l_rows_9 : DTS := (tSq (tFo (iSeq (tV 1)) (.one 3) r_l_rows_7) r_l_rows_8)
def r_l_rows_10 : DTS := (tSq (tSet 2 (tLstM tA0)) r_l_rows_9)
def ri_l_rows : DTS := (tSq (tSet 2 (tLstM tA0)) (tSq (tFo (iSeq (tV 1)) (.one 3) (tSq (tSet 4 (tBin dAdd (tLstD (tAC (tK (.str "error")) (tAC (tK (.str "vacant")) tA0))) (tFrz (tLcMM (tV 2) (.one 7) tYe (tBin dIx (tV 7) (tK (.int 0))) [7])))) (tSq (tSet 5 (tLstM (tAC (tCl sp_l_pick (tAC (tV 0) (tAC (tBin dAdd (tV 4) (tLstD (tAC (tK (.str "error")) tA0))) tA0))) tA0))) (tSq (tSet 6 (tCl sp_l_pick (tAC (tV 0) (tAC (tV 4) tA0)))) (tSq (tIfS (tAndT (tBinT dNotIn (tV 6) (tV 5)) (tBinT dEq (tCl sp_l_draw (tAC (tV 0) (tAC (tK (.int 2)) tA0))) (tK (.int 0)))) (tDr (tApp (tV 5) (tV 6))) tNx) (tDr (tApp (tV 2) (tBin dAdd (tTupD (tAC (tV 3) tA0)) (tFn (d1 dTuple) (tAC (tV 5) tA0)))))))))) (tRt (tFrz (tV 2)))))
def r_l_rows : DTS := r_l_rows_10
theorem rr_l_rows : ri_l_rows = r_l_rows := rfl
def sp_l_rows : DSp := spOf 2 8 (r_l_rows)
theorem b_l_rows {P : Program} {w : World} {K : PySem.W.Frag} {mg : Str → Option Value} {base : Heap} (c_l_pick : CalW P w K mg base "_law_pick" 2 sp_l_pick) (c_l_draw : CalW P w K mg base "_law_draw" 1 sp_l_draw) (z_tuple : mg "tuple" = none) {f : Addr} {cdv : Value} {A : Around} {outer : List PySem.Env} {s : Shared} {H : Hp} {E : XK} (hr : RoomG 2 (A.deeper (envOfC "_law_rows" (defScope s_l_rows) s.heap.objs.size f cdv))) :
    DSs (cxOf CX0 P w K mg base N_l_rows "_law_rows" (defScope s_l_rows) f cdv A outer s H E).nox (defBody s_l_rows) (ri_l_rows) := by
  have hu := hr.hu
  have hgd := hr.g
  have nd := sc_l_rows.nd
  exact (dss_cons (ds_set (i := 2) (de_lstM da_nil) nd)
  (dss_cons (ds_for (di_seq (dv 1)) (dgt_one (i := 3) nd)
  (dss_cons (ds_set (i := 4) (de_op do_add (de_lst (da_cons de_str (da_cons de_str da_nil))) (de_frz (de_lcM (own := [("_law_row", 7)]) (dv 2) (blkOk_by (N := N_l_rows) (sc := defScope s_l_rows) (own := [("_law_row", 7)]) (by decide +kernel)) nd rfl (fun _ _ _ _ _ => (dgt_one (i := 7) nd)) (fun _ _ _ _ _ => dts_nil) (fun _ _ _ _ _ => (de_ix hu (dv 7) de_int))))) nd)
  (dss_cons (ds_set (i := 5) (de_lstM (da_cons (de_call ⟨c_l_pick⟩ (hr.mono (by decide)) (da_cons (dv 0) (da_cons (de_op do_add (dv 4) (de_lst (da_cons de_str da_nil))) da_nil))) da_nil)) nd)
  (dss_cons (ds_set (i := 6) (de_call ⟨c_l_pick⟩ (hr.mono (by decide)) (da_cons (dv 0) (da_cons (dv 4) da_nil))) nd)
  (dss_cons (ds_if (DW.dt (dw_and (dt_cmp (do_notin hu) (dv 6) (dv 5)) (dw_and1 (dt_cmp (do_eq hu) (de_call ⟨c_l_draw⟩ (hr.mono (by decide)) (da_cons (dv 0) (da_cons de_int da_nil))) de_int))))
  (dss_one (ds_expr (de_app (dv 5) (dv 6))))
  dss_nil)
  (dss_one (ds_expr (de_app (dv 2) (de_op do_add (de_tup (da_cons (dv 3) da_nil)) (de_ty dc_tuple z_tuple (by decide +kernel) (da_cons (dv 5) da_nil)))))))))) rfl PassesOwn.never)
  (dss_one (ds_ret (de_frz (dv 2))))))
theorem f_l_rows {P : Program} {w : World} {K : PySem.W.Frag} {mg : Str → Option Value} {base : Heap} (c_l_pick : CalW P w K mg base "_law_pick" 2 sp_l_pick) (c_l_draw : CalW P w K mg base "_law_draw" 1 sp_l_draw) (z_tuple : mg "tuple" = none) {f : Addr} {fd : FuncData} (F : Fun K "_law_rows" "_law_rows" s_l_rows f fd) : FnG P w K mg base CX0 3 f (liftSp K sp_l_rows) :=
  FnG.imp (sp := liftSp K (spOf0 2 8 (r_l_rows))) (fn_mk F sc_l_rows (F.binds (ps := ["_law_pen_here", "_law_words_here"]) fun _ _ _ _ _ _ us hl => match us, hl with | [_, _], _ => rfl) (fun ds m R h => h.1) (fun cdv A outer s H E hr => b_l_rows c_l_pick c_l_draw z_tuple hr) fun ds m R h => h.2) lift_drop
/-! Level.__init__ -/
abbrev s_Level_init : Stmt := inClass (top 2) 1
def N_Level_init : List Str := ["self", "classes"]
theorem sc_Level_init : FnScope N_Level_init ["self", "classes"] (defScope s_Level_init) := ⟨rfl, rfl, rfl, by decide +kernel, rfl, by decide +kernel, by decide +kernel⟩
def r_Level_init_1 (C_ByKind : Addr) : DTS := (tFlS C_ByKind "classes" (tV 0) (tV 1))
def ri_Level_init (C_ByKind : Addr) : DTS := (tFlS C_ByKind "classes" (tV 0) (tV 1))
def r_Level_init (C_ByKind : Addr) : DTS := (r_Level_init_1 C_ByKind)
theorem rr_Level_init (C_ByKind : Addr) : ri_Level_init C_ByKind = r_Level_init C_ByKind := rfl
def sp_Level_init (C_ByKind : Addr) : DSp := spOf 2 2 (r_Level_init C_ByKind)
theorem b_Level_init {P : Program} {w : World} {K : PySem.W.Frag} {mg : Str → Option Value} {base : Heap} {C_ByKind : Addr} (cl_ByKind : Cls K C_ByKind) (n_ByKind_classes : NoAttr K C_ByKind "classes") {f : Addr} {cdv : Value} {A : Around} {outer : List PySem.Env} {s : Shared} {H : Hp} {E : XK} (hr : RoomG 0 (A.deeper (envOfC "Level.__init__" (defScope s_Level_init) s.heap.objs.size f cdv))) :
    DSs (cxOf CX0 P w K mg base N_Level_init "Level.__init__" (defScope s_Level_init) f cdv A outer s H E).nox (defBody s_Level_init) (ri_Level_init C_ByKind) := by
  have hu := hr.hu
  have hgd := hr.g
  have nd := sc_Level_init.nd
  exact (dss_one (ds_fld C_ByKind (dv 0) (dv 1) cl_ByKind n_ByKind_classes))
theorem f_Level_init {P : Program} {w : World} {K : PySem.W.Frag} {mg : Str → Option Value} {base : Heap} {C_ByKind : Addr} (cl_ByKind : Cls K C_ByKind) (n_ByKind_classes : NoAttr K C_ByKind "classes") {f : Addr} {fd : FuncData} (F : Fun K "__init__" "Level.__init__" s_Level_init f fd) : FnG P w K mg base CX0 1 f (liftSp K (sp_Level_init C_ByKind)) :=
  FnG.imp (sp := liftSp K (spOf0 2 2 (r_Level_init C_ByKind))) (fn_mk F sc_Level_init (F.binds (ps := ["self", "classes"]) fun _ _ _ _ _ _ us hl => match us, hl with | [_, _], _ => rfl) (fun ds m R h => h.1) (fun cdv A outer s H E hr => b_Level_init cl_ByKind n_ByKind_classes hr) fun ds m R h => h.2) lift_drop
/-! Classes.within -/
abbrev s_Classes_within : Stmt := inClass (top 22) 6
def N_Classes_within : List Str := ["self", "one", "other"]
theorem sc_Classes_within : FnScope N_Classes_within ["self", "one", "other"] (defScope s_Classes_within) := ⟨rfl, rfl, rfl, by decide +kernel, rfl, by decide +kernel, by decide +kernel⟩
def r_Classes_within_1 (C_Classes : Addr) : DTS := (tRt (tBin dIn (tV 2) (tBin dIx (tFl C_Classes "above" (tV 0)) (tV 1))))
def ri_Classes_within (C_Classes : Addr) : DTS := (tRt (tBin dIn (tV 2) (tBin dIx (tFl C_Classes "above" (tV 0)) (tV 1))))
def r_Classes_within (C_Classes : Addr) : DTS := (r_Classes_within_1 C_Classes)
theorem rr_Classes_within (C_Classes : Addr) : ri_Classes_within C_Classes = r_Classes_within C_Classes := rfl
def sp_Classes_within (C_Classes : Addr) : DSp := spOf 3 3 (r_Classes_within C_Classes)
theorem b_Classes_within {P : Program} {w : World} {K : PySem.W.Frag} {mg : Str → Option Value} {base : Heap} {C_Classes : Addr} (cl_Classes : Cls K C_Classes) (n_Classes_above : NoAttr K C_Classes "above") {f : Addr} {cdv : Value} {A : Around} {outer : List PySem.Env} {s : Shared} {H : Hp} {E : XK} (hr : RoomG 0 (A.deeper (envOfC "Classes.within" (defScope s_Classes_within) s.heap.objs.size f cdv))) :
    DSs (cxOf CX0 P w K mg base N_Classes_within "Classes.within" (defScope s_Classes_within) f cdv A outer s H E).nox (defBody s_Classes_within) (ri_Classes_within C_Classes) := by
  have hu := hr.hu
  have hgd := hr.g
  have nd := sc_Classes_within.nd
  exact (dss_one (ds_ret (de_cmp (do_in hu) (dv 2) (de_ix hu (de_fld C_Classes (dv 0) cl_Classes n_Classes_above) (dv 1)))))
theorem f_Classes_within {P : Program} {w : World} {K : PySem.W.Frag} {mg : Str → Option Value} {base : Heap} {C_Classes : Addr} (cl_Classes : Cls K C_Classes) (n_Classes_above : NoAttr K C_Classes "above") {f : Addr} {fd : FuncData} (F : Fun K "within" "Classes.within" s_Classes_within f fd) : FnG P w K mg base CX0 1 f (liftSp K (sp_Classes_within C_Classes)) :=
  FnG.imp (sp := liftSp K (spOf0 3 3 (r_Classes_within C_Classes))) (fn_mk F sc_Classes_within (F.binds (ps := ["self", "one", "other"]) fun _ _ _ _ _ _ us hl => match us, hl with | [_, _, _], _ => rfl) (fun ds m R h => h.1) (fun cdv A outer s H E hr => b_Classes_within cl_Classes n_Classes_above hr) fun ds m R h => h.2) lift_drop
/-! Classes.is_apart -/
abbrev s_Classes_is_apart : Stmt := inClass (top 22) 10
def N_Classes_is_apart : List Str := ["self", "name", "names", "other"]
theorem sc_Classes_is_apart : FnScope N_Classes_is_apart ["self", "name", "names"] (defScope s_Classes_is_apart) := ⟨rfl, rfl, rfl, by decide +kernel, rfl, by decide +kernel, by decide +kernel⟩
def r_Classes_is_apart_1 (C_Classes : Addr) : DTE := (tOrV (tMt C_Classes "within" (sp_Classes_within C_Classes) (tV 0) (tAC (tV 1) (tAC (tV 3) tA0))) (tMt C_Classes "within" (sp_Classes_within C_Classes) (tV 0) (tAC (tV 3) (tAC (tV 1) tA0))))
def r_Classes_is_apart_2 (C_Classes : Addr) : DTS := (tRt (tNotV (tFn (d1 dAny) (tAC (tFrz (tLcM (iSeq (tV 2)) (.one 3) tYe (r_Classes_is_apart_1 C_Classes) [3])) tA0))))
def ri_Classes_is_apart (C_Classes : Addr) : DTS := (tRt (tNotV (tFn (d1 dAny) (tAC (tFrz (tLcM (iSeq (tV 2)) (.one 3) tYe (tOrV (tMt C_Classes "within" (sp_Classes_within C_Classes) (tV 0) (tAC (tV 1) (tAC (tV 3) tA0))) (tMt C_Classes "within" (sp_Classes_within C_Classes) (tV 0) (tAC (tV 3) (tAC (tV 1) tA0)))) [3])) tA0))))
def r_Classes_is_apart (C_Classes : Addr) : DTS := (r_Classes_is_apart_2 C_Classes)
theorem rr_Classes_is_apart (C_Classes : Addr) : ri_Classes_is_apart C_Classes = r_Classes_is_apart C_Classes := rfl
def sp_Classes_is_apart (C_Classes : Addr) : DSp := spOf 3 4 (r_Classes_is_apart C_Classes)
theorem b_Classes_is_apart {P : Program} {w : World} {K : PySem.W.Frag} {mg : Str → Option Value} {base : Heap} {C_Classes : Addr} (cl_Classes : Cls K C_Classes) (m_Classes_within : CalMW P w K mg base C_Classes "within" 1 (sp_Classes_within C_Classes)) (z_any : mg "any" = none) {f : Addr} {cdv : Value} {A : Around} {outer : List PySem.Env} {s : Shared} {H : Hp} {E : XK} (hr : RoomG 1 (A.deeper (envOfC "Classes.is_apart" (defScope s_Classes_is_apart) s.heap.objs.size f cdv))) :
    DSs (cxOf CX0 P w K mg base N_Classes_is_apart "Classes.is_apart" (defScope s_Classes_is_apart) f cdv A outer s H E).nox (defBody s_Classes_is_apart) (ri_Classes_is_apart C_Classes) := by
  have hu := hr.hu
  have hgd := hr.g
  have nd := sc_Classes_is_apart.nd
  exact (dss_one (ds_ret (de_not (de_fn (dc_any rfl) z_any (by decide +kernel) (da_cons (de_frz (de_lc (own := [("other", 3)]) (di_seq (dv 2)) (blkOk_by (N := N_Classes_is_apart) (sc := defScope s_Classes_is_apart) (own := [("other", 3)]) (by decide +kernel)) nd rfl (fun _ _ _ _ _ => (dgt_one (i := 3) nd)) (fun _ _ _ _ _ => dts_nil) (fun _ _ _ _ _ => (de_or (de_meth ⟨m_Classes_within⟩ cl_Classes (hr.mono (by decide)) (dv 0) (da_cons (dv 1) (da_cons (dv 3) da_nil))) (de_one (de_meth ⟨m_Classes_within⟩ cl_Classes (hr.mono (by decide)) (dv 0) (da_cons (dv 3) (da_cons (dv 1) da_nil)))))))) da_nil)))))
theorem f_Classes_is_apart {P : Program} {w : World} {K : PySem.W.Frag} {mg : Str → Option Value} {base : Heap} {C_Classes : Addr} (cl_Classes : Cls K C_Classes) (m_Classes_within : CalMW P w K mg base C_Classes "within" 1 (sp_Classes_within C_Classes)) (z_any : mg "any" = none) {f : Addr} {fd : FuncData} (F : Fun K "is_apart" "Classes.is_apart" s_Classes_is_apart f fd) : FnG P w K mg base CX0 2 f (liftSp K (sp_Classes_is_apart C_Classes)) :=
  FnG.imp (sp := liftSp K (spOf0 3 4 (r_Classes_is_apart C_Classes))) (fn_mk F sc_Classes_is_apart (F.binds (ps := ["self", "name", "names"]) fun _ _ _ _ _ _ us hl => match us, hl with | [_, _, _], _ => rfl) (fun ds m R h => h.1) (fun cdv A outer s H E hr => b_Classes_is_apart cl_Classes m_Classes_within z_any hr) fun ds m R h => h.2) lift_drop
/-! Classes.kinds -/
abbrev s_Classes_kinds : Stmt := inClass (top 22) 9
def N_Classes_kinds : List Str := ["self", "found", "name", "one"]
theorem sc_Classes_kinds : FnScope N_Classes_kinds ["self"] (defScope s_Classes_kinds) := ⟨rfl, rfl, rfl, by decide +kernel, rfl, by decide +kernel, by decide +kernel⟩
def r_Classes_kinds_1 (C_TooMany : Addr) : DTS := (tRz C_TooMany ["what", "most"] (tAC (tK (.str "classes")) (tAC (tK (.int 6)) tA0)))
def r_Classes_kinds_2 (C_Classes : Addr) : DTT := (tTru (tMt C_Classes "is_apart" (sp_Classes_is_apart C_Classes) (tV 0) (tAC (tV 2) (tAC (tV 3) tA0))))
def r_Classes_kinds_3 : DTE := (tBin dAdd (tV 3) (tTupD (tAC (tV 2) tA0)))
def r_Classes_kinds_4 (C_Classes : Addr) : DTS := (tSet 1 (tBin dAdd (tV 1) (tFrz (tLcM (iSeq (tV 1)) (.one 3) (r_Classes_kinds_2 C_Classes) r_Classes_kinds_3 [3]))))
def r_Classes_kinds_5 : DTS := (tRt (tFn (d1 dTuple) (tAC (tFn (d1 dSort) (tAC (tSlD (tV 1) (tOS (tK (.int 1))) tON) tA0)) tA0)))
def r_Classes_kinds_6 (C_Classes : Addr) : DTS := (tSq (tFo (iSeq (tFn (d1 dSort) (tAC (tFl C_Classes "names" (tV 0)) tA0))) (.one 2) (r_Classes_kinds_4 C_Classes)) r_Classes_kinds_5)
def r_Classes_kinds_7 (C_Classes : Addr) : DTS := (tSq (tSet 1 (tLstD (tAC (tTupD tA0) tA0))) (r_Classes_kinds_6 C_Classes))
def r_Classes_kinds_8 (C_Classes : Addr) (C_TooMany : Addr) : DTS := (tSq (tIfS (tBinT dGt (tFn (d1 dLen) (tAC (tFl C_Classes "names" (tV 0)) tA0)) (tK (.int 6))) (r_Classes_kinds_1 C_TooMany) tNx) (r_Classes_kinds_7 C_Classes))
def ri_Classes_kinds (C_Classes : Addr) (C_TooMany : Addr) : DTS := (tSq (tIfS (tBinT dGt (tFn (d1 dLen) (tAC (tFl C_Classes "names" (tV 0)) tA0)) (tK (.int 6))) (tRz C_TooMany ["what", "most"] (tAC (tK (.str "classes")) (tAC (tK (.int 6)) tA0))) tNx) (tSq (tSet 1 (tLstD (tAC (tTupD tA0) tA0))) (tSq (tFo (iSeq (tFn (d1 dSort) (tAC (tFl C_Classes "names" (tV 0)) tA0))) (.one 2) (tSet 1 (tBin dAdd (tV 1) (tFrz (tLcM (iSeq (tV 1)) (.one 3) (tTru (tMt C_Classes "is_apart" (sp_Classes_is_apart C_Classes) (tV 0) (tAC (tV 2) (tAC (tV 3) tA0)))) (tBin dAdd (tV 3) (tTupD (tAC (tV 2) tA0))) [3]))))) (tRt (tFn (d1 dTuple) (tAC (tFn (d1 dSort) (tAC (tSlD (tV 1) (tOS (tK (.int 1))) tON) tA0)) tA0))))))
def r_Classes_kinds (C_Classes : Addr) (C_TooMany : Addr) : DTS := (r_Classes_kinds_8 C_Classes C_TooMany)
theorem rr_Classes_kinds (C_Classes : Addr) (C_TooMany : Addr) : ri_Classes_kinds C_Classes C_TooMany = r_Classes_kinds C_Classes C_TooMany := rfl
def sp_Classes_kinds (C_Classes : Addr) (C_TooMany : Addr) : DSpX := spOfX 1 4 (r_Classes_kinds C_Classes C_TooMany)
theorem b_Classes_kinds {P : Program} {w : World} {K : PySem.W.Frag} {mg : Str → Option Value} {base : Heap} {C_Classes : Addr} {C_TooMany : Addr} (cl_Classes : Cls K C_Classes) (n_Classes_names : NoAttr K C_Classes "names") (z_len : mg "len" = none) (g_MOST_FOR_KINDS : GV K mg "MOST_FOR_KINDS" (.int 6)) (xm_TooMany : MkX P w K mg base C_TooMany 1 ["what", "most"]) (mg_TooMany : mg "TooMany" = some (.ref C_TooMany)) (z_sorted : mg "sorted" = none) (m_Classes_is_apart : CalMW P w K mg base C_Classes "is_apart" 2 (sp_Classes_is_apart C_Classes)) (z_tuple : mg "tuple" = none) {f : Addr} {cdv : Value} {A : Around} {outer : List PySem.Env} {s : Shared} {H : Hp} {E : XK} (hr : RoomG 2 (A.deeper (envOfC "Classes.kinds" (defScope s_Classes_kinds) s.heap.objs.size f cdv))) :
    DXSs (cxOf (L2.CX P w) P w K mg base N_Classes_kinds "Classes.kinds" (defScope s_Classes_kinds) f cdv A outer s H E) (fun cls d _ H => E cls d H) (defBody s_Classes_kinds) (ri_Classes_kinds C_Classes C_TooMany) := by
  have hu := hr.hu
  have hgd := hr.g
  have nd := sc_Classes_kinds.nd
  exact (dxss_cons (dxs_if (dt_cmp do_gt (de_fn dc_len z_len (by decide +kernel) (da_cons (de_fld C_Classes (dv 0) cl_Classes n_Classes_names) da_nil)) (de_gv g_MOST_FOR_KINDS))
  (dxss_one (dxs_raise xm_TooMany (hr.mono (by decide)) mg_TooMany (da_cons de_str (da_cons (de_gv g_MOST_FOR_KINDS) da_nil)) rfl takesX))
  (dxss_of dss_nil))
  (dxss_of (dss_cons (ds_set (i := 1) (de_lst (da_cons (de_tup da_nil) da_nil)) nd)
  (dss_cons (ds_for (di_seq (de_fn (dc_sort hu) z_sorted (by decide +kernel) (da_cons (de_fld C_Classes (dv 0) cl_Classes n_Classes_names) da_nil))) (dgt_one (i := 2) nd)
  (dss_one (ds_set (i := 1) (de_op do_add (dv 1) (de_frz (de_lc (own := [("one", 3)]) (di_seq (dv 1)) (blkOk_by (N := N_Classes_kinds) (sc := defScope s_Classes_kinds) (own := [("one", 3)]) (by decide +kernel)) nd rfl (fun _ _ _ _ _ => (dgt_one (i := 3) nd)) (fun _ _ _ _ _ => (dts_one (dt_truth (de_meth ⟨m_Classes_is_apart⟩ cl_Classes (hr.mono (by decide)) (dv 0) (da_cons (dv 2) (da_cons (dv 3) da_nil)))))) (fun _ _ _ _ _ => (de_op do_add (dv 3) (de_tup (da_cons (dv 2) da_nil))))))) nd)) rfl ownX)
  (dss_one (ds_ret (de_ty dc_tuple z_tuple (by decide +kernel) (da_cons (de_fn (dc_sort hu) z_sorted (by decide +kernel) (da_cons (de_slice (dv 1) (do_some de_int) do_none) da_nil)) da_nil))))))))
theorem f_Classes_kinds {P : Program} {w : World} {K : PySem.W.Frag} {mg : Str → Option Value} {base : Heap} {C_Classes : Addr} {C_TooMany : Addr} (cl_Classes : Cls K C_Classes) (n_Classes_names : NoAttr K C_Classes "names") (z_len : mg "len" = none) (g_MOST_FOR_KINDS : GV K mg "MOST_FOR_KINDS" (.int 6)) (xm_TooMany : MkX P w K mg base C_TooMany 1 ["what", "most"]) (mg_TooMany : mg "TooMany" = some (.ref C_TooMany)) (z_sorted : mg "sorted" = none) (m_Classes_is_apart : CalMW P w K mg base C_Classes "is_apart" 2 (sp_Classes_is_apart C_Classes)) (z_tuple : mg "tuple" = none) {f : Addr} {fd : FuncData} (F : Fun K "kinds" "Classes.kinds" s_Classes_kinds f fd) : FnG P w K mg base (L2.CX P w) 3 f (liftSpX K (sp_Classes_kinds C_Classes C_TooMany)) :=
  fn_mkX F sc_Classes_kinds (F.binds (ps := ["self"]) fun _ _ _ _ _ _ us hl => match us, hl with | [_], _ => rfl) (fun ds m R G h => h.1) (fun cdv A outer s H E hr => b_Classes_kinds cl_Classes n_Classes_names z_len g_MOST_FOR_KINDS xm_TooMany mg_TooMany z_sorted m_Classes_is_apart z_tuple hr) fun ds m R G h => h.2
/-! ByKind.__init__ -/
abbrev s_ByKind_init : Stmt := inClass (top 11) 1
def N_ByKind_init : List Str := ["self", "classes"]
theorem ss_ByKind_init : SScope N_ByKind_init ["self", "classes"] (defScope s_ByKind_init) := ⟨rfl, rfl, rfl, by decide +kernel, rfl, by decide +kernel, by decide +kernel, by decide +kernel⟩
def r_ByKind_init_1 (C_ByKind : Addr) (C_Classes : Addr) (C_TooMany : Addr) : DTS := (tFlX C_ByKind "everything" (tV 0) (tTupX (tACX (fun env m R _ => (tK (.str "returns")) env m R) (tASX (tMtX C_Classes "kinds" (sp_Classes_kinds C_Classes C_TooMany) (tV 1) tA0) (fun env m R _ => tA0 env m R)))))
def r_ByKind_init (C_ByKind : Addr) (C_Classes : Addr) (C_TooMany : Addr) : DTS := tSup C_ByKind (sp_Level_init C_ByKind) (tAC (tV 1) tA0) (r_ByKind_init_1 C_ByKind C_Classes C_TooMany)
def sp_ByKind_init (C_ByKind : Addr) (C_Classes : Addr) (C_TooMany : Addr) : DSpX := spOfX 2 2 (r_ByKind_init C_ByKind C_Classes C_TooMany)
theorem f_ByKind_init {P : Program} {w : World} {K : PySem.W.Frag} {mg : Str → Option Value} {base : Heap} {C_ByKind : Addr} {C_Classes : Addr} {C_TooMany : Addr} (cl_ByKind : Cls K C_ByKind) (cl_Classes : Cls K C_Classes) (mx_Classes_kinds : CalMXW P w K mg base C_Classes "kinds" 3 (sp_Classes_kinds C_Classes C_TooMany)) (n_ByKind_everything : NoAttr K C_ByKind "everything") (su_ByKind_init : SupW P w K mg base C_ByKind 1 (sp_Level_init C_ByKind)) {f cc cda : Addr} {fd : FuncData} {file : Str} (F : FunS K "__init__" "ByKind.__init__" s_ByKind_init C_ByKind file f cc cda fd) (hfile : ((P.main.file : Str) == file) = true) (htop : (P.main.scope.names.lookup ("super" : Str)).isSome = false) : FnG P w K mg base (L2.CX P w) 4 f (liftSpX K (sp_ByKind_init C_ByKind C_Classes C_TooMany)) := by
  obtain ⟨g, U, G⟩ := su_ByKind_init
  exact fn_superX (k := 3) (ps := ["self", "classes"]) F ss_ByKind_init rfl rfl rfl rfl rfl rfl rfl hfile htop U (G.mono (by decide)) (fun A outer s H E => (da_cons (dv 1) da_nil)) (fun A outer s H E hr => by
      have hu := hr.hu
      have hgd := hr.g
      have nd := ss_ByKind_init.nd
      exact (dxss_one (dxs_fld (dv 0) (dex_tup (dax_cons (dex_of de_str) (dax_star (dex_meth0 ⟨mx_Classes_kinds⟩ cl_Classes (hr.mono (by decide)) takesS (dv 1)) (dax_of da_nil)))) cl_ByKind n_ByKind_everything))) (fun L => rfl) (fun L => rfl) (fun L => rfl) (fun L => rfl) (fun L => rfl) (fun ds m R G h => h.1) (fun ds m R G h => h.2) (fun kV doc pm an ct us hl => match us, hl with | [_, _], _ => rfl)
/-! _law_refused -/
abbrev s_l_refused : Stmt := top 31
def N_l_refused : List Str := ["_law_classes", "_law_caught", "error"]
theorem sc_l_refused : FnScope N_l_refused ["_law_classes"] (defScope s_l_refused) := ⟨rfl, rfl, rfl, by decide +kernel, rfl, by decide +kernel, by decide +kernel⟩
def r_l_refused_1 (C_ByKind : Addr) (C_Classes : Addr) (C_TooMany : Addr) : DTS := (tDrX (tNwX C_ByKind (sp_ByKind_init C_ByKind C_Classes C_TooMany) (tAC (tV 0) tA0)))
def r_l_refused_2 : DTS := (tSet 1 (tV 2))
def r_l_refused_3 : DTS := (tRt (tK (.bl false)))
def r_l_refused_4 (C_TooMany : Addr) : DTS := (tRt (tBin dEq (tFn (d1 dReprA) (tAC (tLstD (tAC (tXfl (xfT [(C_TooMany, "what"), (C_TooMany, "most")]) "what" (tV 1)) (tAC (tXfl (xfT [(C_TooMany, "what"), (C_TooMany, "most")]) "most" (tV 1)) tA0))) tA0)) (tFn (d1 dReprA) (tAC (tLstD (tAC (tK (.str "classes")) (tAC (tK (.int 6)) tA0))) tA0))))
def r_l_refused_5 (C_Barred : Addr) (C_NoClass : Addr) (C_TooMany : Addr) : DTS := (tSq (tIfS (tOrT (tNotT (tTru (tFn (dIsiK (.ref C_TooMany) (jbT [(C_TooMany, true)])) (tAC (tV 1) (tAC (tK (.ref C_TooMany)) tA0))))) (tOrT (tTru (tFn (dIsiK (.tup [(.ref C_NoClass), (.ref C_Barred)]) (jbT [(C_TooMany, false)])) (tAC (tV 1) (tAC (tTupD (tAC (tK (.ref C_NoClass)) (tAC (tK (.ref C_Barred)) tA0))) tA0)))) (tNotT (tTru (tFn (dIsiK (.ty "ValueError") (jbT [(C_TooMany, true)])) (tAC (tV 1) (tAC (tK (.ty "ValueError")) tA0))))))) r_l_refused_3 tNx) (r_l_refused_4 C_TooMany))
def r_l_refused_6 (C_Barred : Addr) (C_ByKind : Addr) (C_Classes : Addr) (C_NoClass : Addr) (C_TooMany : Addr) : DTS := (tSq (tErr0 (jxT [C_TooMany]) 2 (r_l_refused_1 C_ByKind C_Classes C_TooMany) r_l_refused_2) (r_l_refused_5 C_Barred C_NoClass C_TooMany))
def r_l_refused_7 (C_Barred : Addr) (C_ByKind : Addr) (C_Classes : Addr) (C_NoClass : Addr) (C_TooMany : Addr) : DTS := (tSq (tSet 1 (tK .non)) (r_l_refused_6 C_Barred C_ByKind C_Classes C_NoClass C_TooMany))
def ri_l_refused (C_Barred : Addr) (C_ByKind : Addr) (C_Classes : Addr) (C_LeaveError : Addr) (C_NoClass : Addr) (C_TooMany : Addr) : DTS := (tSq (tSet 1 (tK .non)) (tSq (tErr0 (jxT [C_TooMany]) 2 (tDrX (tNwX C_ByKind (sp_ByKind_init C_ByKind C_Classes C_TooMany) (tAC (tV 0) tA0))) (tSet 1 (tV 2))) (tSq (tIfS (tOrT (tNotT (tTru (tFn (dIsiK (.ref C_TooMany) (jbT [(C_TooMany, true)])) (tAC (tV 1) (tAC (tK (.ref C_TooMany)) tA0))))) (tOrT (tTru (tFn (dIsiK (.tup [(.ref C_NoClass), (.ref C_Barred)]) (jbT [(C_TooMany, false)])) (tAC (tV 1) (tAC (tTupD (tAC (tK (.ref C_NoClass)) (tAC (tK (.ref C_Barred)) tA0))) tA0)))) (tNotT (tTru (tFn (dIsiK (.ty "ValueError") (jbT [(C_TooMany, true)])) (tAC (tV 1) (tAC (tK (.ty "ValueError")) tA0))))))) (tRt (tK (.bl false))) tNx) (tRt (tBin dEq (tFn (d1 dReprA) (tAC (tLstD (tAC (tXfl (xfT [(C_TooMany, "what"), (C_TooMany, "most")]) "what" (tV 1)) (tAC (tXfl (xfT [(C_TooMany, "what"), (C_TooMany, "most")]) "most" (tV 1)) tA0))) tA0)) (tFn (d1 dReprA) (tAC (tLstD (tAC (tK (.str "classes")) (tAC (tK (.int 6)) tA0))) tA0)))))))
def r_l_refused (C_Barred : Addr) (C_ByKind : Addr) (C_Classes : Addr) (C_LeaveError : Addr) (C_NoClass : Addr) (C_TooMany : Addr) : DTS := (r_l_refused_7 C_Barred C_ByKind C_Classes C_NoClass C_TooMany)
theorem rr_l_refused (C_Barred : Addr) (C_ByKind : Addr) (C_Classes : Addr) (C_LeaveError : Addr) (C_NoClass : Addr) (C_TooMany : Addr) : ri_l_refused C_Barred C_ByKind C_Classes C_LeaveError C_NoClass C_TooMany = r_l_refused C_Barred C_ByKind C_Classes C_LeaveError C_NoClass C_TooMany := rfl
def sp_l_refused (C_Barred : Addr) (C_ByKind : Addr) (C_Classes : Addr) (C_LeaveError : Addr) (C_NoClass : Addr) (C_TooMany : Addr) : DSp := spOf 1 3 (r_l_refused C_Barred C_ByKind C_Classes C_LeaveError C_NoClass C_TooMany)
theorem b_l_refused {P : Program} {w : World} {K : PySem.W.Frag} {mg : Str → Option Value} {base : Heap} {C_Barred : Addr} {C_ByKind : Addr} {C_Classes : Addr} {C_LeaveError : Addr} {C_NoClass : Addr} {C_TooMany : Addr} (jx_LeaveError : JX K (.ref C_LeaveError) (jxT [C_TooMany])) (mg_LeaveError : mg "LeaveError" = some (.ref C_LeaveError)) (mkx_ByKind : CalCXW P w K mg base C_ByKind 4 (sp_ByKind_init C_ByKind C_Classes C_TooMany)) (mg_ByKind : mg "ByKind" = some (.ref C_ByKind)) (jq_TooMany : JI K (.ref C_TooMany) (jbT [(C_TooMany, true)])) (g_TooMany : GV K mg "TooMany" (.ref C_TooMany)) (z_isinstance : mg "isinstance" = none) (jq_t_NoClass_Barred : JI K (.tup [(.ref C_NoClass), (.ref C_Barred)]) (jbT [(C_TooMany, false)])) (g_NoClass : GV K mg "NoClass" (.ref C_NoClass)) (g_Barred : GV K mg "Barred" (.ref C_Barred)) (jq_ValueError : JI K (.ty "ValueError") (jbT [(C_TooMany, true)])) (z_ValueError : mg "ValueError" = none) (xq : XF K (xfT [(C_TooMany, "what"), (C_TooMany, "most")])) (z_repr : mg "repr" = none) {f : Addr} {cdv : Value} {A : Around} {outer : List PySem.Env} {s : Shared} {H : Hp} {E : XK} (hr : RoomG 5 (A.deeper (envOfC "_law_refused" (defScope s_l_refused) s.heap.objs.size f cdv))) :
    DSs (cxOf CX0 P w K mg base N_l_refused "_law_refused" (defScope s_l_refused) f cdv A outer s H E).nox (defBody s_l_refused) (ri_l_refused C_Barred C_ByKind C_Classes C_LeaveError C_NoClass C_TooMany) := by
  have hu := hr.hu
  have hgd := hr.g
  have nd := sc_l_refused.nd
  exact (dss_cons (ds_set (i := 1) de_non nd)
  (dss_cons (ds_try (i := 2) jx_LeaveError nd ⟨rfl, by decide, .inl mg_LeaveError⟩ (fun W pn xe tk po => (dxss_one (dxs_expr (dex_new ⟨mkx_ByKind⟩ (hr.mono (by decide)) tk mg_ByKind (da_cons (dv 0) da_nil))))) (fun a pn => (dss_one (ds_set (i := 1) (dv 2) nd))))
  (dss_cons (ds_if (DW.dt (dw_or (dt_not (dt_truth (de_fn (dc_isiK jq_TooMany) z_isinstance (by decide +kernel) (da_cons (dv 1) (da_cons (de_gv g_TooMany) da_nil))))) (dw_or (dt_truth (de_fn (dc_isiK jq_t_NoClass_Barred) z_isinstance (by decide +kernel) (da_cons (dv 1) (da_cons (de_tup (da_cons (de_gv g_NoClass) (da_cons (de_gv g_Barred) da_nil))) da_nil)))) (dw_or1 (dt_not (dt_truth (de_fn (dc_isiK jq_ValueError) z_isinstance (by decide +kernel) (da_cons (dv 1) (da_cons (de_bty z_ValueError (by decide +kernel)) da_nil)))))))))
  (dss_one (ds_ret de_bl))
  dss_nil)
  (dss_one (ds_ret (de_cmp (do_eq hu) (de_fn (dc_reprA hgd hu) z_repr (by decide +kernel) (da_cons (de_lst (da_cons (de_xfl xq (dv 1)) (da_cons (de_xfl xq (dv 1)) da_nil))) da_nil)) (de_fn (dc_reprA hgd hu) z_repr (by decide +kernel) (da_cons (de_lst (da_cons de_str (da_cons de_int da_nil))) da_nil))))))))
theorem f_l_refused {P : Program} {w : World} {K : PySem.W.Frag} {mg : Str → Option Value} {base : Heap} {C_Barred : Addr} {C_ByKind : Addr} {C_Classes : Addr} {C_LeaveError : Addr} {C_NoClass : Addr} {C_TooMany : Addr} (jx_LeaveError : JX K (.ref C_LeaveError) (jxT [C_TooMany])) (mg_LeaveError : mg "LeaveError" = some (.ref C_LeaveError)) (mkx_ByKind : CalCXW P w K mg base C_ByKind 4 (sp_ByKind_init C_ByKind C_Classes C_TooMany)) (mg_ByKind : mg "ByKind" = some (.ref C_ByKind)) (jq_TooMany : JI K (.ref C_TooMany) (jbT [(C_TooMany, true)])) (g_TooMany : GV K mg "TooMany" (.ref C_TooMany)) (z_isinstance : mg "isinstance" = none) (jq_t_NoClass_Barred : JI K (.tup [(.ref C_NoClass), (.ref C_Barred)]) (jbT [(C_TooMany, false)])) (g_NoClass : GV K mg "NoClass" (.ref C_NoClass)) (g_Barred : GV K mg "Barred" (.ref C_Barred)) (jq_ValueError : JI K (.ty "ValueError") (jbT [(C_TooMany, true)])) (z_ValueError : mg "ValueError" = none) (xq : XF K (xfT [(C_TooMany, "what"), (C_TooMany, "most")])) (z_repr : mg "repr" = none) {f : Addr} {fd : FuncData} (F : Fun K "_law_refused" "_law_refused" s_l_refused f fd) : FnG P w K mg base CX0 6 f (liftSp K (sp_l_refused C_Barred C_ByKind C_Classes C_LeaveError C_NoClass C_TooMany)) :=
  FnG.imp (sp := liftSp K (spOf0 1 3 (r_l_refused C_Barred C_ByKind C_Classes C_LeaveError C_NoClass C_TooMany))) (fn_mk F sc_l_refused (F.binds (ps := ["_law_classes"]) fun _ _ _ _ _ _ us hl => match us, hl with | [_], _ => rfl) (fun ds m R h => h.1) (fun cdv A outer s H E hr => b_l_refused jx_LeaveError mg_LeaveError mkx_ByKind mg_ByKind jq_TooMany g_TooMany z_isinstance jq_t_NoClass_Barred g_NoClass g_Barred jq_ValueError z_ValueError xq z_repr hr) fun ds m R h => h.2) lift_drop
/-! is_word -/
abbrev s_is_word : Stmt := top 8
def N_is_word : List Str := ["value", "letter"]
theorem sc_is_word : FnScope N_is_word ["value"] (defScope s_is_word) := ⟨rfl, rfl, rfl, by decide +kernel, rfl, by decide +kernel, by decide +kernel⟩
def r_is_word_1 : DTS := (tRt (tK (.bl false)))
def r_is_word_2 : DTE := (tBin dIn (tV 1) (tK (.str "abcdefghijklmnopqrstuvwxyz")))
def r_is_word_3 : DTS := (tRt (tFn (d1 dAll) (tAC (tFrz (tLcM (iSeq (tV 0)) (.one 1) tYe r_is_word_2 [1])) tA0)))
def r_is_word_4 : DTS := (tSq (tIfS (tOrT (tNotT (tTru (tFn (dIsi JB) (tAC (tV 0) (tAC (tK (.ty "str")) tA0))))) (tOrT (tNotT (tChainT dLe dLe (tK (.int 1)) (tFn (d1 dLen) (tAC (tV 0) tA0)) (tK (.int 8)))) (tBinT dIn (tV 0) (tK (.tup (c_RESERVED.map .str)))))) r_is_word_1 tNx) r_is_word_3)
def ri_is_word : DTS := (tSq (tIfS (tOrT (tNotT (tTru (tFn (dIsi JB) (tAC (tV 0) (tAC (tK (.ty "str")) tA0))))) (tOrT (tNotT (tChainT dLe dLe (tK (.int 1)) (tFn (d1 dLen) (tAC (tV 0) tA0)) (tK (.int 8)))) (tBinT dIn (tV 0) (tK (.tup (c_RESERVED.map .str)))))) (tRt (tK (.bl false))) tNx) (tRt (tFn (d1 dAll) (tAC (tFrz (tLcM (iSeq (tV 0)) (.one 1) tYe (tBin dIn (tV 1) (tK (.str "abcdefghijklmnopqrstuvwxyz"))) [1])) tA0))))
def r_is_word : DTS := r_is_word_4
theorem rr_is_word : ri_is_word = r_is_word := rfl
def sp_is_word : DSp := spOf 1 2 (r_is_word)
theorem b_is_word {P : Program} {w : World} {K : PySem.W.Frag} {mg : Str → Option Value} {base : Heap} (z_str : mg "str" = none) (z_isinstance : mg "isinstance" = none) (z_len : mg "len" = none) (g_LONGEST : GV K mg "LONGEST" (.int 8)) (g_RESERVED : GV K mg "RESERVED" (.tup (c_RESERVED.map .str))) (g_LETTERS : GV K mg "LETTERS" (.str "abcdefghijklmnopqrstuvwxyz")) (z_all : mg "all" = none) {f : Addr} {cdv : Value} {A : Around} {outer : List PySem.Env} {s : Shared} {H : Hp} {E : XK} (hr : RoomG 0 (A.deeper (envOfC "is_word" (defScope s_is_word) s.heap.objs.size f cdv))) :
    DSs (cxOf CX0 P w K mg base N_is_word "is_word" (defScope s_is_word) f cdv A outer s H E).nox (defBody s_is_word) (ri_is_word) := by
  have hu := hr.hu
  have hgd := hr.g
  have nd := sc_is_word.nd
  exact (dss_cons (ds_if (DW.dt (dw_or (dt_not (dt_truth (de_fn (dc_isi jb_ok) z_isinstance (by decide +kernel) (da_cons (dv 0) (da_cons (de_bty z_str (by decide +kernel)) da_nil))))) (dw_or (dt_not (dt_chain do_le do_le de_int (de_fn dc_len z_len (by decide +kernel) (da_cons (dv 0) da_nil)) (de_gv g_LONGEST))) (dw_or1 (dt_cmp (do_in hu) (dv 0) (de_gv g_RESERVED))))))
  (dss_one (ds_ret de_bl))
  dss_nil)
  (dss_one (ds_ret (de_fn (dc_all rfl) z_all (by decide +kernel) (da_cons (de_frz (de_lc (own := [("letter", 1)]) (di_seq (dv 0)) (blkOk_by (N := N_is_word) (sc := defScope s_is_word) (own := [("letter", 1)]) (by decide +kernel)) nd rfl (fun _ _ _ _ _ => (dgt_one (i := 1) nd)) (fun _ _ _ _ _ => dts_nil) (fun _ _ _ _ _ => (de_cmp (do_in hu) (dv 1) (de_gv g_LETTERS))))) da_nil)))))
theorem f_is_word {P : Program} {w : World} {K : PySem.W.Frag} {mg : Str → Option Value} {base : Heap} (z_str : mg "str" = none) (z_isinstance : mg "isinstance" = none) (z_len : mg "len" = none) (g_LONGEST : GV K mg "LONGEST" (.int 8)) (g_RESERVED : GV K mg "RESERVED" (.tup (c_RESERVED.map .str))) (g_LETTERS : GV K mg "LETTERS" (.str "abcdefghijklmnopqrstuvwxyz")) (z_all : mg "all" = none) {f : Addr} {fd : FuncData} (F : Fun K "is_word" "is_word" s_is_word f fd) : FnG P w K mg base CX0 1 f (liftSp K sp_is_word) :=
  FnG.imp (sp := liftSp K (spOf0 1 2 (r_is_word))) (fn_mk F sc_is_word (F.binds (ps := ["value"]) fun _ _ _ _ _ _ us hl => match us, hl with | [_], _ => rfl) (fun ds m R h => h.1) (fun cdv A outer s H E hr => b_is_word z_str z_isinstance z_len g_LONGEST g_RESERVED g_LETTERS z_all hr) fun ds m R h => h.2) lift_drop
/-! are_words -/
abbrev s_are_words : Stmt := top 9
def N_are_words : List Str := ["values", "value"]
theorem sc_are_words : FnScope N_are_words ["values"] (defScope s_are_words) := ⟨rfl, rfl, rfl, by decide +kernel, rfl, by decide +kernel, by decide +kernel⟩
def r_are_words_1 : DTE := (tCl sp_is_word (tAC (tV 1) tA0))
def r_are_words_2 : DTS := (tRt (tFn (d1 dAll) (tAC (tFrz (tLcM (iSeq (tV 0)) (.one 1) tYe r_are_words_1 [1])) tA0)))
def ri_are_words : DTS := (tRt (tFn (d1 dAll) (tAC (tFrz (tLcM (iSeq (tV 0)) (.one 1) tYe (tCl sp_is_word (tAC (tV 1) tA0)) [1])) tA0)))
def r_are_words : DTS := r_are_words_2
theorem rr_are_words : ri_are_words = r_are_words := rfl
def sp_are_words : DSp := spOf 1 2 (r_are_words)
theorem b_are_words {P : Program} {w : World} {K : PySem.W.Frag} {mg : Str → Option Value} {base : Heap} (c_is_word : CalW P w K mg base "is_word" 1 sp_is_word) (z_all : mg "all" = none) {f : Addr} {cdv : Value} {A : Around} {outer : List PySem.Env} {s : Shared} {H : Hp} {E : XK} (hr : RoomG 1 (A.deeper (envOfC "are_words" (defScope s_are_words) s.heap.objs.size f cdv))) :
    DSs (cxOf CX0 P w K mg base N_are_words "are_words" (defScope s_are_words) f cdv A outer s H E).nox (defBody s_are_words) (ri_are_words) := by
  have hu := hr.hu
  have hgd := hr.g
  have nd := sc_are_words.nd
  exact (dss_one (ds_ret (de_fn (dc_all rfl) z_all (by decide +kernel) (da_cons (de_frz (de_lc (own := [("value", 1)]) (di_seq (dv 0)) (blkOk_by (N := N_are_words) (sc := defScope s_are_words) (own := [("value", 1)]) (by decide +kernel)) nd rfl (fun _ _ _ _ _ => (dgt_one (i := 1) nd)) (fun _ _ _ _ _ => dts_nil) (fun _ _ _ _ _ => (de_call ⟨c_is_word⟩ (hr.mono (by decide)) (da_cons (dv 1) da_nil))))) da_nil))))
theorem f_are_words {P : Program} {w : World} {K : PySem.W.Frag} {mg : Str → Option Value} {base : Heap} (c_is_word : CalW P w K mg base "is_word" 1 sp_is_word) (z_all : mg "all" = none) {f : Addr} {fd : FuncData} (F : Fun K "are_words" "are_words" s_are_words f fd) : FnG P w K mg base CX0 2 f (liftSp K sp_are_words) :=
  FnG.imp (sp := liftSp K (spOf0 1 2 (r_are_words))) (fn_mk F sc_are_words (F.binds (ps := ["values"]) fun _ _ _ _ _ _ us hl => match us, hl with | [_], _ => rfl) (fun ds m R h => h.1) (fun cdv A outer s H E hr => b_are_words c_is_word z_all hr) fun ds m R h => h.2) lift_drop
/-! row_fault -/
abbrev s_row_fault : Stmt := top 21
def N_row_fault : List Str := ["row", "k", "known", "bases", "base"]
theorem sc_row_fault : FnScope N_row_fault ["row", "k", "known"] (defScope s_row_fault) := ⟨rfl, rfl, rfl, by decide +kernel, rfl, by decide +kernel, by decide +kernel⟩
def r_row_fault_1 : DTS := (tRt (tK (.str "many")))
def r_row_fault_2 : DTS := (tRt (tK (.str "row")))
def r_row_fault_3 : DTS := (tRt (tK (.str "name")))
def r_row_fault_4 : DTE := (tBin dIn (tV 4) (tV 2))
def r_row_fault_5 : DTS := (tRt (tK (.str "base")))
def r_row_fault_6 : DTS := (tRt (tK .non))
def r_row_fault_7 : DTS := (tSq (tIfS (tOrT (tNotT (tTru (tFn (d1 dAll) (tAC (tFrz (tLcM (iSeq (tV 3)) (.one 4) tYe r_row_fault_4 [4])) tA0)))) (tBinT dLt (tLenSet (tV 3)) (tFn (d1 dLen) (tAC (tV 3) tA0)))) r_row_fault_5 tNx) r_row_fault_6)
def r_row_fault_8 : DTS := (tSq (tSet 3 (tSlD (tV 0) (tOS (tK (.int 1))) tON)) r_row_fault_7)
def r_row_fault_9 : DTS := (tSq (tIfS (tBinT dIn (tBin dIx (tV 0) (tK (.int 0))) (tV 2)) r_row_fault_3 tNx) r_row_fault_8)
def r_row_fault_10 : DTS := (tSq (tIfS (tOrT (tNotT (tTru (tFn (dIsi JB) (tAC (tV 0) (tAC (tK (.ty "tuple")) tA0))))) (tOrT (tBinT dLt (tFn (d1 dLen) (tAC (tV 0) tA0)) (tK (.int 2))) (tNotT (tTru (tCl sp_are_words (tAC (tV 0) tA0)))))) r_row_fault_2 tNx) r_row_fault_9)
def r_row_fault_11 : DTS := (tSq (tIfS (tBinT dEq (tV 1) (tK (.int 30))) r_row_fault_1 tNx) r_row_fault_10)
def ri_row_fault : DTS := (tSq (tIfS (tBinT dEq (tV 1) (tK (.int 30))) (tRt (tK (.str "many"))) tNx) (tSq (tIfS (tOrT (tNotT (tTru (tFn (dIsi JB) (tAC (tV 0) (tAC (tK (.ty "tuple")) tA0))))) (tOrT (tBinT dLt (tFn (d1 dLen) (tAC (tV 0) tA0)) (tK (.int 2))) (tNotT (tTru (tCl sp_are_words (tAC (tV 0) tA0)))))) (tRt (tK (.str "row"))) tNx) (tSq (tIfS (tBinT dIn (tBin dIx (tV 0) (tK (.int 0))) (tV 2)) (tRt (tK (.str "name"))) tNx) (tSq (tSet 3 (tSlD (tV 0) (tOS (tK (.int 1))) tON)) (tSq (tIfS (tOrT (tNotT (tTru (tFn (d1 dAll) (tAC (tFrz (tLcM (iSeq (tV 3)) (.one 4) tYe (tBin dIn (tV 4) (tV 2)) [4])) tA0)))) (tBinT dLt (tLenSet (tV 3)) (tFn (d1 dLen) (tAC (tV 3) tA0)))) (tRt (tK (.str "base"))) tNx) (tRt (tK .non)))))))
def r_row_fault : DTS := r_row_fault_11
theorem rr_row_fault : ri_row_fault = r_row_fault := rfl
def sp_row_fault : DSp := spOf 3 5 (r_row_fault)
theorem b_row_fault {P : Program} {w : World} {K : PySem.W.Frag} {mg : Str → Option Value} {base : Heap} (g_MOST_ROWS : GV K mg "MOST_ROWS" (.int 30)) (z_tuple : mg "tuple" = none) (z_isinstance : mg "isinstance" = none) (z_len : mg "len" = none) (c_are_words : CalW P w K mg base "are_words" 2 sp_are_words) (z_all : mg "all" = none) (z_set : mg "set" = none) {f : Addr} {cdv : Value} {A : Around} {outer : List PySem.Env} {s : Shared} {H : Hp} {E : XK} (hr : RoomG 2 (A.deeper (envOfC "row_fault" (defScope s_row_fault) s.heap.objs.size f cdv))) :
    DSs (cxOf CX0 P w K mg base N_row_fault "row_fault" (defScope s_row_fault) f cdv A outer s H E).nox (defBody s_row_fault) (ri_row_fault) := by
  have hu := hr.hu
  have hgd := hr.g
  have nd := sc_row_fault.nd
  exact (dss_cons (ds_if (dt_cmp (do_eq hu) (dv 1) (de_gv g_MOST_ROWS))
  (dss_one (ds_ret de_str))
  dss_nil)
  (dss_cons (ds_if (DW.dt (dw_or (dt_not (dt_truth (de_fn (dc_isi jb_ok) z_isinstance (by decide +kernel) (da_cons (dv 0) (da_cons (de_bty z_tuple (by decide +kernel)) da_nil))))) (dw_or (dt_cmp do_lt (de_fn dc_len z_len (by decide +kernel) (da_cons (dv 0) da_nil)) de_int) (dw_or1 (dt_not (dt_truth (de_call ⟨c_are_words⟩ (hr.mono (by decide)) (da_cons (dv 0) da_nil))))))))
  (dss_one (ds_ret de_str))
  dss_nil)
  (dss_cons (ds_if (dt_cmp (do_in hu) (de_ix hu (dv 0) de_int) (dv 2))
  (dss_one (ds_ret de_str))
  dss_nil)
  (dss_cons (ds_set (i := 3) (de_slice (dv 0) (do_some de_int) do_none) nd)
  (dss_cons (ds_if (DW.dt (dw_or (dt_not (dt_truth (de_fn (dc_all rfl) z_all (by decide +kernel) (da_cons (de_frz (de_lc (own := [("base", 4)]) (di_seq (dv 3)) (blkOk_by (N := N_row_fault) (sc := defScope s_row_fault) (own := [("base", 4)]) (by decide +kernel)) nd rfl (fun _ _ _ _ _ => (dgt_one (i := 4) nd)) (fun _ _ _ _ _ => dts_nil) (fun _ _ _ _ _ => (de_cmp (do_in hu) (dv 4) (dv 2))))) da_nil)))) (dw_or1 (dt_cmp do_lt (de_lenSet rfl z_len z_set (dv 3)) (de_fn dc_len z_len (by decide +kernel) (da_cons (dv 3) da_nil))))))
  (dss_one (ds_ret de_str))
  dss_nil)
  (dss_one (ds_ret de_non)))))))
theorem f_row_fault {P : Program} {w : World} {K : PySem.W.Frag} {mg : Str → Option Value} {base : Heap} (g_MOST_ROWS : GV K mg "MOST_ROWS" (.int 30)) (z_tuple : mg "tuple" = none) (z_isinstance : mg "isinstance" = none) (z_len : mg "len" = none) (c_are_words : CalW P w K mg base "are_words" 2 sp_are_words) (z_all : mg "all" = none) (z_set : mg "set" = none) {f : Addr} {fd : FuncData} (F : Fun K "row_fault" "row_fault" s_row_fault f fd) : FnG P w K mg base CX0 3 f (liftSp K sp_row_fault) :=
  FnG.imp (sp := liftSp K (spOf0 3 5 (r_row_fault))) (fn_mk F sc_row_fault (F.binds (ps := ["row", "k", "known"]) fun _ _ _ _ _ _ us hl => match us, hl with | [_, _, _], _ => rfl) (fun ds m R h => h.1) (fun cdv A outer s H E hr => b_row_fault g_MOST_ROWS z_tuple z_isinstance z_len c_are_words z_all z_set hr) fun ds m R h => h.2) lift_drop
/-! Classes.__init__ -/
abbrev s_Classes_init : Stmt := inClass (top 22) 0
def N_Classes_init : List Str := ["self", "rows", "names", "above", "k", "row", "reason", "found", "base", "name"]
theorem sc_Classes_init : FnScope N_Classes_init ["self", "rows"] (defScope s_Classes_init) := ⟨rfl, rfl, rfl, by decide +kernel, rfl, by decide +kernel, by decide +kernel⟩
def r_Classes_init_1 : DTS := tNev
def r_Classes_init_2 : DTT := (tBinT dNotIn (tV 9) (tV 7))
def r_Classes_init_3 : DTE := (tV 9)
def r_Classes_init_4 : DTS := (tDr (tExt (tV 7) (tFrz (tLcM (iSeq (tBin dIx (tV 3) (tV 8))) (.one 9) r_Classes_init_2 r_Classes_init_3 [9]))))
def r_Classes_init_5 : DTS := (tDr (tApp (tV 2) (tBin dIx (tV 5) (tK (.int 0)))))
def r_Classes_init_6 : DTS := (tSq (tAs (tFrz (tV 7)) (gSb (tV 3) (tBin dIx (tV 5) (tK (.int 0))))) r_Classes_init_5)
def r_Classes_init_7 : DTS := (tSq (tFo (iSeq (tSlD (tV 5) (tOS (tK (.int 1))) tON)) (.one 8) r_Classes_init_4) r_Classes_init_6)
def r_Classes_init_8 : DTS := (tSq (tSet 7 (tLstM (tAC (tBin dIx (tV 5) (tK (.int 0))) tA0))) r_Classes_init_7)
def r_Classes_init_9 : DTS := (tSq (tIfS (tBinT dIsNot (tV 6) (tK .non)) r_Classes_init_1 tNx) r_Classes_init_8)
def r_Classes_init_10 : DTS := (tSq (tSet 6 (tCl sp_row_fault (tAC (tV 5) (tAC (tV 4) (tAC (tV 2) tA0))))) r_Classes_init_9)
def r_Classes_init_11 (C_Classes : Addr) : DTS := (tFlS C_Classes "above" (tV 0) (tFrz (tV 3)))
def r_Classes_init_12 (C_Classes : Addr) : DTS := (tSq (tFlS C_Classes "names" (tV 0) (tFn (d1 dTuple) (tAC (tV 2) tA0))) (r_Classes_init_11 C_Classes))
def r_Classes_init_13 (C_Classes : Addr) : DTS := (tSq (tFlS C_Classes "rows" (tV 0) (tV 1)) (r_Classes_init_12 C_Classes))
def r_Classes_init_14 (C_Classes : Addr) : DTS := (tSq (tFo (iEn (tV 1)) (.many [4, 5]) r_Classes_init_10) (r_Classes_init_13 C_Classes))
def r_Classes_init_15 (C_Classes : Addr) : DTS := (tSq (tSet 3 (tDicM [((tK (.str "error")), (tLstD (tAC (tK (.str "error")) tA0))), ((tK (.str "vacant")), (tLstD (tAC (tK (.str "vacant")) (tAC (tK (.str "error")) tA0))))])) (r_Classes_init_14 C_Classes))
def r_Classes_init_16 (C_Classes : Addr) : DTS := (tSq (tSet 2 (tListM (tAC (tK (.tup (c_FIRST.map .str))) tA0))) (r_Classes_init_15 C_Classes))
def ri_Classes_init (C_Classes : Addr) : DTS := (tSq (tSet 2 (tListM (tAC (tK (.tup (c_FIRST.map .str))) tA0))) (tSq (tSet 3 (tDicM [((tK (.str "error")), (tLstD (tAC (tK (.str "error")) tA0))), ((tK (.str "vacant")), (tLstD (tAC (tK (.str "vacant")) (tAC (tK (.str "error")) tA0))))])) (tSq (tFo (iEn (tV 1)) (.many [4, 5]) (tSq (tSet 6 (tCl sp_row_fault (tAC (tV 5) (tAC (tV 4) (tAC (tV 2) tA0))))) (tSq (tIfS (tBinT dIsNot (tV 6) (tK .non)) tNev tNx) (tSq (tSet 7 (tLstM (tAC (tBin dIx (tV 5) (tK (.int 0))) tA0))) (tSq (tFo (iSeq (tSlD (tV 5) (tOS (tK (.int 1))) tON)) (.one 8) (tDr (tExt (tV 7) (tFrz (tLcM (iSeq (tBin dIx (tV 3) (tV 8))) (.one 9) (tBinT dNotIn (tV 9) (tV 7)) (tV 9) [9]))))) (tSq (tAs (tFrz (tV 7)) (gSb (tV 3) (tBin dIx (tV 5) (tK (.int 0))))) (tDr (tApp (tV 2) (tBin dIx (tV 5) (tK (.int 0))))))))))) (tSq (tFlS C_Classes "rows" (tV 0) (tV 1)) (tSq (tFlS C_Classes "names" (tV 0) (tFn (d1 dTuple) (tAC (tV 2) tA0))) (tFlS C_Classes "above" (tV 0) (tFrz (tV 3))))))))
def r_Classes_init (C_Classes : Addr) : DTS := (r_Classes_init_16 C_Classes)
theorem rr_Classes_init (C_Classes : Addr) : ri_Classes_init C_Classes = r_Classes_init C_Classes := rfl
def sp_Classes_init (C_Classes : Addr) : DSp := dropSp (spRest 1 (spOf0 2 10 (r_Classes_init C_Classes)))
theorem b_Classes_init {P : Program} {w : World} {K : PySem.W.Frag} {mg : Str → Option Value} {base : Heap} {C_Classes : Addr} (g_FIRST : GV K mg "FIRST" (.tup (c_FIRST.map .str))) (z_list : mg "list" = none) (z_enumerate : mg "enumerate" = none) (c_row_fault : CalW P w K mg base "row_fault" 3 sp_row_fault) (cl_Classes : Cls K C_Classes) (n_Classes_rows : NoAttr K C_Classes "rows") (z_tuple : mg "tuple" = none) (n_Classes_names : NoAttr K C_Classes "names") (n_Classes_above : NoAttr K C_Classes "above") {f : Addr} {cdv : Value} {A : Around} {outer : List PySem.Env} {s : Shared} {H : Hp} {E : XK} (hr : RoomG 3 (A.deeper (envOfC "Classes.__init__" (defScope s_Classes_init) s.heap.objs.size f cdv))) :
    DSs (cxOf CX0 P w K mg base N_Classes_init "Classes.__init__" (defScope s_Classes_init) f cdv A outer s H E).nox (defBody s_Classes_init) (ri_Classes_init C_Classes) := by
  have hu := hr.hu
  have hgd := hr.g
  have nd := sc_Classes_init.nd
  exact (dss_cons (ds_set (i := 2) (de_listM rfl z_list (da_cons (de_gv g_FIRST) da_nil)) nd)
  (dss_cons (ds_set (i := 3) (de_dic (dps_cons de_str (de_lst (da_cons de_str da_nil)) (dps_cons de_str (de_lst (da_cons de_str (da_cons de_str da_nil))) dps_nil))) nd)
  (dss_cons (ds_for (di_enum z_enumerate (dv 1)) (dgt_many rfl (dgn_cons (i := 4) (dgn_cons (i := 5) dgn_nil nd) nd))
  (dss_cons (ds_set (i := 6) (de_call ⟨c_row_fault⟩ (hr.mono (by decide)) (da_cons (dv 5) (da_cons (dv 4) (da_cons (dv 2) da_nil)))) nd)
  (dss_cons (ds_if (dt_cmp do_isnot (dv 6) de_non)
  (dss_one ds_never)
  dss_nil)
  (dss_cons (ds_set (i := 7) (de_lstM (da_cons (de_ix hu (dv 5) de_int) da_nil)) nd)
  (dss_cons (ds_for (di_seq (de_slice (dv 5) (do_some de_int) do_none)) (dgt_one (i := 8) nd)
  (dss_one (ds_expr (de_ext (dv 7) (de_frz (de_lc (own := [("name", 9)]) (di_seq (de_ix hu (dv 3) (dv 8))) (blkOk_by (N := N_Classes_init) (sc := defScope s_Classes_init) (own := [("name", 9)]) (by decide +kernel)) nd rfl (fun _ _ _ _ _ => (dgt_one (i := 9) nd)) (fun _ _ _ _ _ => (dts_one (dt_cmp (do_notin hu) (dv 9) (dv 7)))) (fun _ _ _ _ _ => (dv 9))))))) rfl PassesOwn.never)
  (dss_cons (ds_asg (de_frz (dv 7)) (dg_sub hu (dv 3) (de_ix hu (dv 5) de_int)))
  (dss_one (ds_expr (de_app (dv 2) (de_ix hu (dv 5) de_int))))))))) rfl PassesOwn.never)
  (dss_cons (ds_fld C_Classes (dv 0) (dv 1) cl_Classes n_Classes_rows)
  (dss_cons (ds_fld C_Classes (dv 0) (de_ty dc_tuple z_tuple (by decide +kernel) (da_cons (dv 2) da_nil)) cl_Classes n_Classes_names)
  (dss_one (ds_fld C_Classes (dv 0) (de_frz (dv 3)) cl_Classes n_Classes_above)))))))
theorem f_Classes_init {P : Program} {w : World} {K : PySem.W.Frag} {mg : Str → Option Value} {base : Heap} {C_Classes : Addr} (g_FIRST : GV K mg "FIRST" (.tup (c_FIRST.map .str))) (z_list : mg "list" = none) (z_enumerate : mg "enumerate" = none) (c_row_fault : CalW P w K mg base "row_fault" 3 sp_row_fault) (cl_Classes : Cls K C_Classes) (n_Classes_rows : NoAttr K C_Classes "rows") (z_tuple : mg "tuple" = none) (n_Classes_names : NoAttr K C_Classes "names") (n_Classes_above : NoAttr K C_Classes "above") {f : Addr} {fd : FuncData} (F : Fun K "__init__" "Classes.__init__" s_Classes_init f fd) : FnG P w K mg base CX0 4 f (liftSp K (sp_Classes_init C_Classes)) :=
  FnG.imp (sp := liftSp K (spRest 1 (spOf0 2 10 (r_Classes_init C_Classes)))) (fn_mkS (ps := ["self"]) (pv := "rows") F sc_Classes_init (fun _ _ _ _ _ _ => StX.bind_star1 (B := fun vs => bindArgs _ ⟨vs, []⟩) (fun _ => rfl) (fun _ _ _ => rfl)) (fun cdv A outer s H E hr => b_Classes_init g_FIRST z_list z_enumerate c_row_fault cl_Classes n_Classes_rows z_tuple n_Classes_names n_Classes_above hr) fun ds m R h => h.2) lift_drop
/-! Classes.made -/
abbrev s_Classes_made : Stmt := inClass (top 22) 1
def N_Classes_made : List Str := ["cls", "rows"]
theorem sc_Classes_made : FnScope N_Classes_made ["cls", "rows"] (defScope s_Classes_made) := ⟨rfl, rfl, rfl, by decide +kernel, rfl, by decide +kernel, by decide +kernel⟩
def r_Classes_made_1 (C_Classes : Addr) : DTS := (tRt (tFrz (tNwF C_Classes (sp_Classes_init C_Classes) (tV 0) (tAS (tV 1) tA0))))
def ri_Classes_made (C_Classes : Addr) : DTS := (tRt (tFrz (tNwF C_Classes (sp_Classes_init C_Classes) (tV 0) (tAS (tV 1) tA0))))
def r_Classes_made (C_Classes : Addr) : DTS := (r_Classes_made_1 C_Classes)
theorem rr_Classes_made (C_Classes : Addr) : ri_Classes_made C_Classes = r_Classes_made C_Classes := rfl
def sp_Classes_made (C_Classes : Addr) : DSp := spOf 2 2 (r_Classes_made C_Classes)
theorem b_Classes_made {P : Program} {w : World} {K : PySem.W.Frag} {mg : Str → Option Value} {base : Heap} {C_Classes : Addr} (mk_Classes : CalCW P w K mg base C_Classes 4 (sp_Classes_init C_Classes)) {f : Addr} {cdv : Value} {A : Around} {outer : List PySem.Env} {s : Shared} {H : Hp} {E : XK} (hr : RoomG 5 (A.deeper (envOfC "Classes.made" (defScope s_Classes_made) s.heap.objs.size f cdv))) :
    DSs (cxOf CX0 P w K mg base N_Classes_made "Classes.made" (defScope s_Classes_made) f cdv A outer s H E).nox (defBody s_Classes_made) (ri_Classes_made C_Classes) := by
  have hu := hr.hu
  have hgd := hr.g
  have nd := sc_Classes_made.nd
  exact (dss_one (ds_ret (de_frz (de_newS ⟨mk_Classes⟩ (hr.mono (by decide)) (dv 0) (dv 1)))))
theorem f_Classes_made {P : Program} {w : World} {K : PySem.W.Frag} {mg : Str → Option Value} {base : Heap} {C_Classes : Addr} (mk_Classes : CalCW P w K mg base C_Classes 4 (sp_Classes_init C_Classes)) {f : Addr} {fd : FuncData} (F : Fun K "made" "Classes.made" s_Classes_made f fd) : FnG P w K mg base CX0 6 f (liftSp K (sp_Classes_made C_Classes)) :=
  FnG.imp (sp := liftSp K (spOf0 2 2 (r_Classes_made C_Classes))) (fn_mk F sc_Classes_made (F.binds (ps := ["cls", "rows"]) fun _ _ _ _ _ _ us hl => match us, hl with | [_, _], _ => rfl) (fun ds m R h => h.1) (fun cdv A outer s H E hr => b_Classes_made mk_Classes hr) fun ds m R h => h.2) lift_drop
/-! _law_above -/
abbrev s_l_above : Stmt := top 29
def N_l_above : List Str := ["_law_rows_here", "_law_above_here", "_law_row", "_law_found", "_law_base", "_law_one"]
theorem sc_l_above : FnScope N_l_above ["_law_rows_here"] (defScope s_l_above) := ⟨rfl, rfl, rfl, by decide +kernel, rfl, by decide +kernel, by decide +kernel⟩
def r_l_above_1 : DTT := (tBinT dNotIn (tV 5) (tV 3))
def r_l_above_2 : DTE := (tV 5)
def r_l_above_3 : DTS := (tSet 3 (tBin dAdd (tV 3) (tFrz (tLcM (iSeq (tBin dIx (tV 1) (tV 4))) (.one 5) r_l_above_1 r_l_above_2 [5]))))
def r_l_above_4 : DTS := (tAs (tV 3) (gSb (tV 1) (tBin dIx (tV 2) (tK (.int 0)))))
def r_l_above_5 : DTS := (tSq (tFo (iSeq (tSlD (tV 2) (tOS (tK (.int 1))) tON)) (.one 4) r_l_above_3) r_l_above_4)
def r_l_above_6 : DTS := (tSq (tSet 3 (tLstD (tAC (tBin dIx (tV 2) (tK (.int 0))) tA0))) r_l_above_5)
def r_l_above_7 : DTS := (tRt (tFrz (tV 1)))
def r_l_above_8 : DTS := (tSq (tFo (iSeq (tV 0)) (.one 2) r_l_above_6) r_l_above_7)
def r_l_above_9 : DTS := (tSq (tSet 1 (tDicM [((tK (.str "error")), (tLstD (tAC (tK (.str "error")) tA0))), ((tK (.str "vacant")), (tLstD (tAC (tK (.str "vacant")) (tAC (tK (.str "error")) tA0))))])) r_l_above_8)
def ri_l_above : DTS := (tSq (tSet 1 (tDicM [((tK (.str "error")), (tLstD (tAC (tK (.str "error")) tA0))), ((tK (.str "vacant")), (tLstD (tAC (tK (.str "vacant")) (tAC (tK (.str "error")) tA0))))])) (tSq (tFo (iSeq (tV 0)) (.one 2) (tSq (tSet 3 (tLstD (tAC (tBin dIx (tV 2) (tK (.int 0))) tA0))) (tSq (tFo (iSeq (tSlD (tV 2) (tOS (tK (.int 1))) tON)) (.one 4) (tSet 3 (tBin dAdd (tV 3) (tFrz (tLcM (iSeq (tBin dIx (tV 1) (tV 4))) (.one 5) (tBinT dNotIn (tV 5) (tV 3)) (tV 5) [5]))))) (tAs (tV 3) (gSb (tV 1) (tBin dIx (tV 2) (tK (.int 0)))))))) (tRt (tFrz (tV 1)))))
def r_l_above : DTS := r_l_above_9
theorem rr_l_above : ri_l_above = r_l_above := rfl
def sp_l_above : DSp := spOf 1 6 (r_l_above)
theorem b_l_above {P : Program} {w : World} {K : PySem.W.Frag} {mg : Str → Option Value} {base : Heap}  {f : Addr} {cdv : Value} {A : Around} {outer : List PySem.Env} {s : Shared} {H : Hp} {E : XK} (hr : RoomG 0 (A.deeper (envOfC "_law_above" (defScope s_l_above) s.heap.objs.size f cdv))) :
    DSs (cxOf CX0 P w K mg base N_l_above "_law_above" (defScope s_l_above) f cdv A outer s H E).nox (defBody s_l_above) (ri_l_above) := by
  have hu := hr.hu
  have hgd := hr.g
  have nd := sc_l_above.nd
  exact (dss_cons (ds_set (i := 1) (de_dic (dps_cons de_str (de_lst (da_cons de_str da_nil)) (dps_cons de_str (de_lst (da_cons de_str (da_cons de_str da_nil))) dps_nil))) nd)
  (dss_cons (ds_for (di_seq (dv 0)) (dgt_one (i := 2) nd)
  (dss_cons (ds_set (i := 3) (de_lst (da_cons (de_ix hu (dv 2) de_int) da_nil)) nd)
  (dss_cons (ds_for (di_seq (de_slice (dv 2) (do_some de_int) do_none)) (dgt_one (i := 4) nd)
  (dss_one (ds_set (i := 3) (de_op do_add (dv 3) (de_frz (de_lc (own := [("_law_one", 5)]) (di_seq (de_ix hu (dv 1) (dv 4))) (blkOk_by (N := N_l_above) (sc := defScope s_l_above) (own := [("_law_one", 5)]) (by decide +kernel)) nd rfl (fun _ _ _ _ _ => (dgt_one (i := 5) nd)) (fun _ _ _ _ _ => (dts_one (dt_cmp (do_notin hu) (dv 5) (dv 3)))) (fun _ _ _ _ _ => (dv 5))))) nd)) rfl PassesOwn.never)
  (dss_one (ds_asg (dv 3) (dg_sub hu (dv 1) (de_ix hu (dv 2) de_int)))))) rfl PassesOwn.never)
  (dss_one (ds_ret (de_frz (dv 1))))))
theorem f_l_above {P : Program} {w : World} {K : PySem.W.Frag} {mg : Str → Option Value} {base : Heap}  {f : Addr} {fd : FuncData} (F : Fun K "_law_above" "_law_above" s_l_above f fd) : FnG P w K mg base CX0 1 f (liftSp K sp_l_above) :=
  FnG.imp (sp := liftSp K (spOf0 1 6 (r_l_above))) (fn_mk F sc_l_above (F.binds (ps := ["_law_rows_here"]) fun _ _ _ _ _ _ us hl => match us, hl with | [_], _ => rfl) (fun ds m R h => h.1) (fun cdv A outer s H E hr => b_l_above  hr) fun ds m R h => h.2) lift_drop
/-! Classes.__eq__ -/
abbrev s_Classes_eq : Stmt := inClass (top 22) 5
def N_Classes_eq : List Str := ["self", "other"]
theorem sc_Classes_eq : FnScope N_Classes_eq ["self", "other"] (defScope s_Classes_eq) := ⟨rfl, rfl, rfl, by decide +kernel, rfl, by decide +kernel, by decide +kernel⟩
def r_Classes_eq_1 (C_Classes : Addr) : DTS := (tRt (tAndV (tFn (dIsiO (JS (.inr C_Classes) [(C_Classes, true)])) (tAC (tV 1) (tAC (tK (.ref C_Classes)) tA0))) (tBin dEq (tFl C_Classes "rows" (tV 0)) (tFl C_Classes "rows" (tV 1)))))
def ri_Classes_eq (C_Classes : Addr) : DTS := (tRt (tAndV (tFn (dIsiO (JS (.inr C_Classes) [(C_Classes, true)])) (tAC (tV 1) (tAC (tK (.ref C_Classes)) tA0))) (tBin dEq (tFl C_Classes "rows" (tV 0)) (tFl C_Classes "rows" (tV 1)))))
def r_Classes_eq (C_Classes : Addr) : DTS := (r_Classes_eq_1 C_Classes)
theorem rr_Classes_eq (C_Classes : Addr) : ri_Classes_eq C_Classes = r_Classes_eq C_Classes := rfl
def sp_Classes_eq (C_Classes : Addr) : DSp := spOf 2 2 (r_Classes_eq C_Classes)
theorem b_Classes_eq {P : Program} {w : World} {K : PySem.W.Frag} {mg : Str → Option Value} {base : Heap} {C_Classes : Addr} (js_Classes : JOk K (JS (.inr C_Classes) [(C_Classes, true)])) (g_Classes : GV K mg "Classes" (.ref C_Classes)) (z_isinstance : mg "isinstance" = none) (cl_Classes : Cls K C_Classes) (n_Classes_rows : NoAttr K C_Classes "rows") {f : Addr} {cdv : Value} {A : Around} {outer : List PySem.Env} {s : Shared} {H : Hp} {E : XK} (hr : RoomG 0 (A.deeper (envOfC "Classes.__eq__" (defScope s_Classes_eq) s.heap.objs.size f cdv))) :
    DSs (cxOf CX0 P w K mg base N_Classes_eq "Classes.__eq__" (defScope s_Classes_eq) f cdv A outer s H E).nox (defBody s_Classes_eq) (ri_Classes_eq C_Classes) := by
  have hu := hr.hu
  have hgd := hr.g
  have nd := sc_Classes_eq.nd
  exact (dss_one (ds_ret (de_and (de_fn (dc_isiO js_Classes) z_isinstance (by decide +kernel) (da_cons (dv 1) (da_cons (de_gv g_Classes) da_nil))) (de_one (de_cmp (do_eq hu) (de_fld C_Classes (dv 0) cl_Classes n_Classes_rows) (de_fld C_Classes (dv 1) cl_Classes n_Classes_rows))))))
theorem f_Classes_eq {P : Program} {w : World} {K : PySem.W.Frag} {mg : Str → Option Value} {base : Heap} {C_Classes : Addr} (js_Classes : JOk K (JS (.inr C_Classes) [(C_Classes, true)])) (g_Classes : GV K mg "Classes" (.ref C_Classes)) (z_isinstance : mg "isinstance" = none) (cl_Classes : Cls K C_Classes) (n_Classes_rows : NoAttr K C_Classes "rows") {f : Addr} {fd : FuncData} (F : Fun K "__eq__" "Classes.__eq__" s_Classes_eq f fd) : FnG P w K mg base CX0 1 f (liftSp K (sp_Classes_eq C_Classes)) :=
  FnG.imp (sp := liftSp K (spOf0 2 2 (r_Classes_eq C_Classes))) (fn_mk F sc_Classes_eq (F.binds (ps := ["self", "other"]) fun _ _ _ _ _ _ us hl => match us, hl with | [_, _], _ => rfl) (fun ds m R h => h.1) (fun cdv A outer s H E hr => b_Classes_eq js_Classes g_Classes z_isinstance cl_Classes n_Classes_rows hr) fun ds m R h => h.2) lift_drop
/-! ByKind.view -/
abbrev s_ByKind_view : Stmt := inClass (top 11) 2
def N_ByKind_view : List Str := ["self", "name", "cause"]
theorem sc_ByKind_view : FnScope N_ByKind_view ["self", "name", "cause"] (defScope s_ByKind_view) := ⟨rfl, rfl, rfl, by decide +kernel, rfl, by decide +kernel, by decide +kernel⟩
def r_ByKind_view_1 : DTS := (tRt (tTupD (tAC (tV 1) tA0)))
def ri_ByKind_view : DTS := (tRt (tTupD (tAC (tV 1) tA0)))
def r_ByKind_view : DTS := r_ByKind_view_1
theorem rr_ByKind_view : ri_ByKind_view = r_ByKind_view := rfl
def sp_ByKind_view : DSp := spOf 3 3 (r_ByKind_view)
theorem b_ByKind_view {P : Program} {w : World} {K : PySem.W.Frag} {mg : Str → Option Value} {base : Heap}  {f : Addr} {cdv : Value} {A : Around} {outer : List PySem.Env} {s : Shared} {H : Hp} {E : XK} (hr : RoomG 0 (A.deeper (envOfC "ByKind.view" (defScope s_ByKind_view) s.heap.objs.size f cdv))) :
    DSs (cxOf CX0 P w K mg base N_ByKind_view "ByKind.view" (defScope s_ByKind_view) f cdv A outer s H E).nox (defBody s_ByKind_view) (ri_ByKind_view) := by
  have hu := hr.hu
  have hgd := hr.g
  have nd := sc_ByKind_view.nd
  exact (dss_one (ds_ret (de_tup (da_cons (dv 1) da_nil))))
theorem f_ByKind_view {P : Program} {w : World} {K : PySem.W.Frag} {mg : Str → Option Value} {base : Heap}  {f : Addr} {fd : FuncData} (F : FunV K "view" "ByKind.view" s_ByKind_view [V.non] f fd) : FnG P w K mg base CX0 1 f (liftSp K sp_ByKind_view) :=
  FnG.imp (sp := liftSp K (spOf0 3 3 (r_ByKind_view))) (fn_mkV (n := 3) (j := 1) (ps := ["self", "name", "cause"]) (dds := [.non]) F sc_ByKind_view (fun m H => by simp [RepL, Rep]) (fun T kV doc pm an cdv ct us its hl hi => match us, hl, its, hi with | [_, _, _], _, [_], _ => ⟨_, rfl, rfl⟩) (fun ds m R h => h.1) rfl (fun cdv A outer s H E hr => b_ByKind_view  hr) fun ds m R h => (by rw [show ds ++ List.drop 1 ([.non] : List D) = ds from List.append_nil ds]; exact h.2)) (fun vs H Q E h => lift_drop (sp := spOf0 3 3 (r_ByKind_view)) vs H Q E h)
theorem fd2_ByKind_view {P : Program} {w : World} {K : PySem.W.Frag} {mg : Str → Option Value} {base : Heap}  {f : Addr} {fd : FuncData} (F : FunV K "view" "ByKind.view" s_ByKind_view [V.non] f fd) : FnG P w K mg base CX0 1 f (liftSp K (spDft 2 [.non] sp_ByKind_view)) :=
  FnG.imp (sp := liftSp K (spDft 2 [.non] (spOf0 3 3 (r_ByKind_view)))) (fn_mkV (n := 2) (j := 0) (ps := ["self", "name", "cause"]) (dds := [.non]) F sc_ByKind_view (fun m H => by simp [RepL, Rep]) (fun T kV doc pm an cdv ct us its hl hi => match us, hl, its, hi with | [_, _], _, [_], _ => ⟨_, rfl, rfl⟩) (fun ds m R h => h.1) rfl (fun cdv A outer s H E hr => b_ByKind_view  hr) fun ds m R h => h.2.2) (fun vs H Q E h => lift_drop (sp := spDft 2 [.non] (spOf0 3 3 (r_ByKind_view))) vs H Q E h)
/-! ByKind.does -/
abbrev s_ByKind_does : Stmt := inClass (top 11) 5
def N_ByKind_does : List Str := ["self", "callback", "handled"]
theorem sc_ByKind_does : FnScope N_ByKind_does ["self", "callback", "handled"] (defScope s_ByKind_does) := ⟨rfl, rfl, rfl, by decide +kernel, rfl, by decide +kernel, by decide +kernel⟩
def r_ByKind_does_1 (C_ByKind : Addr) : DTS := (tRt (tFl C_ByKind "everything" (tV 0)))
def ri_ByKind_does (C_ByKind : Addr) : DTS := (tRt (tFl C_ByKind "everything" (tV 0)))
def r_ByKind_does (C_ByKind : Addr) : DTS := (r_ByKind_does_1 C_ByKind)
theorem rr_ByKind_does (C_ByKind : Addr) : ri_ByKind_does C_ByKind = r_ByKind_does C_ByKind := rfl
def sp_ByKind_does (C_ByKind : Addr) : DSp := spOf 3 3 (r_ByKind_does C_ByKind)
theorem b_ByKind_does {P : Program} {w : World} {K : PySem.W.Frag} {mg : Str → Option Value} {base : Heap} {C_ByKind : Addr} (cl_ByKind : Cls K C_ByKind) (n_ByKind_everything : NoAttr K C_ByKind "everything") {f : Addr} {cdv : Value} {A : Around} {outer : List PySem.Env} {s : Shared} {H : Hp} {E : XK} (hr : RoomG 0 (A.deeper (envOfC "ByKind.does" (defScope s_ByKind_does) s.heap.objs.size f cdv))) :
    DSs (cxOf CX0 P w K mg base N_ByKind_does "ByKind.does" (defScope s_ByKind_does) f cdv A outer s H E).nox (defBody s_ByKind_does) (ri_ByKind_does C_ByKind) := by
  have hu := hr.hu
  have hgd := hr.g
  have nd := sc_ByKind_does.nd
  exact (dss_one (ds_ret (de_fld C_ByKind (dv 0) cl_ByKind n_ByKind_everything)))
theorem f_ByKind_does {P : Program} {w : World} {K : PySem.W.Frag} {mg : Str → Option Value} {base : Heap} {C_ByKind : Addr} (cl_ByKind : Cls K C_ByKind) (n_ByKind_everything : NoAttr K C_ByKind "everything") {f : Addr} {fd : FuncData} (F : Fun K "does" "ByKind.does" s_ByKind_does f fd) : FnG P w K mg base CX0 1 f (liftSp K (sp_ByKind_does C_ByKind)) :=
  FnG.imp (sp := liftSp K (spOf0 3 3 (r_ByKind_does C_ByKind))) (fn_mk F sc_ByKind_does (F.binds (ps := ["self", "callback", "handled"]) fun _ _ _ _ _ _ us hl => match us, hl with | [_, _, _], _ => rfl) (fun ds m R h => h.1) (fun cdv A outer s H E hr => b_ByKind_does cl_ByKind n_ByKind_everything hr) fun ds m R h => h.2) lift_drop
/-! Classes.meets -/
abbrev s_Classes_meets : Stmt := inClass (top 22) 12
def N_Classes_meets : List Str := ["self", "kind", "names", "mine", "name"]
theorem sc_Classes_meets : FnScope N_Classes_meets ["self", "kind", "names"] (defScope s_Classes_meets) := ⟨rfl, rfl, rfl, by decide +kernel, rfl, by decide +kernel, by decide +kernel⟩
def r_Classes_meets_1 (C_Classes : Addr) : DTE := (tMt C_Classes "within" (sp_Classes_within C_Classes) (tV 0) (tAC (tV 3) (tAC (tV 4) tA0)))
def r_Classes_meets_2 (C_Classes : Addr) : DTS := (tRt (tFn (d1 dAny) (tAC (tFrz (tLcM2 (iSeq (tV 1)) (.one 3) tYe (iSeq (tV 2)) (.one 4) tYe (r_Classes_meets_1 C_Classes) [3, 4] [4])) tA0)))
def ri_Classes_meets (C_Classes : Addr) : DTS := (tRt (tFn (d1 dAny) (tAC (tFrz (tLcM2 (iSeq (tV 1)) (.one 3) tYe (iSeq (tV 2)) (.one 4) tYe (tMt C_Classes "within" (sp_Classes_within C_Classes) (tV 0) (tAC (tV 3) (tAC (tV 4) tA0))) [3, 4] [4])) tA0)))
def r_Classes_meets (C_Classes : Addr) : DTS := (r_Classes_meets_2 C_Classes)
theorem rr_Classes_meets (C_Classes : Addr) : ri_Classes_meets C_Classes = r_Classes_meets C_Classes := rfl
def sp_Classes_meets (C_Classes : Addr) : DSp := spOf 3 5 (r_Classes_meets C_Classes)
theorem b_Classes_meets {P : Program} {w : World} {K : PySem.W.Frag} {mg : Str → Option Value} {base : Heap} {C_Classes : Addr} (cl_Classes : Cls K C_Classes) (m_Classes_within : CalMW P w K mg base C_Classes "within" 1 (sp_Classes_within C_Classes)) (z_any : mg "any" = none) {f : Addr} {cdv : Value} {A : Around} {outer : List PySem.Env} {s : Shared} {H : Hp} {E : XK} (hr : RoomG 1 (A.deeper (envOfC "Classes.meets" (defScope s_Classes_meets) s.heap.objs.size f cdv))) :
    DSs (cxOf CX0 P w K mg base N_Classes_meets "Classes.meets" (defScope s_Classes_meets) f cdv A outer s H E).nox (defBody s_Classes_meets) (ri_Classes_meets C_Classes) := by
  have hu := hr.hu
  have hgd := hr.g
  have nd := sc_Classes_meets.nd
  exact (dss_one (ds_ret (de_fn (dc_any rfl) z_any (by decide +kernel) (da_cons (de_frz (de_lc2 (own := [("mine", 3), ("name", 4)]) (vs1 := [4]) (di_seq (dv 1)) (blkOk_by (N := N_Classes_meets) (sc := defScope s_Classes_meets) (own := [("mine", 3), ("name", 4)]) (by decide +kernel)) nd rfl (fun _ _ _ _ _ => (dgt_one (i := 3) nd)) (fun _ _ _ _ _ => dts_nil) (fun _ _ _ _ _ => (di_seq (dv 2))) (fun _ _ _ _ _ => (dgt_one (i := 4) nd)) (fun _ _ _ _ _ => dts_nil) (fun _ _ _ _ _ => (de_meth ⟨m_Classes_within⟩ cl_Classes (hr.mono (by decide)) (dv 0) (da_cons (dv 3) (da_cons (dv 4) da_nil)))))) da_nil))))
theorem f_Classes_meets {P : Program} {w : World} {K : PySem.W.Frag} {mg : Str → Option Value} {base : Heap} {C_Classes : Addr} (cl_Classes : Cls K C_Classes) (m_Classes_within : CalMW P w K mg base C_Classes "within" 1 (sp_Classes_within C_Classes)) (z_any : mg "any" = none) {f : Addr} {fd : FuncData} (F : Fun K "meets" "Classes.meets" s_Classes_meets f fd) : FnG P w K mg base CX0 2 f (liftSp K (sp_Classes_meets C_Classes)) :=
  FnG.imp (sp := liftSp K (spOf0 3 5 (r_Classes_meets C_Classes))) (fn_mk F sc_Classes_meets (F.binds (ps := ["self", "kind", "names"]) fun _ _ _ _ _ _ us hl => match us, hl with | [_, _, _], _ => rfl) (fun ds m R h => h.1) (fun cdv A outer s H E hr => b_Classes_meets cl_Classes m_Classes_within z_any hr) fun ds m R h => h.2) lift_drop
/-! ByKind.taken -/
abbrev s_ByKind_taken : Stmt := inClass (top 11) 4
def N_ByKind_taken : List Str := ["self", "view", "names"]
theorem sc_ByKind_taken : FnScope N_ByKind_taken ["self", "view", "names"] (defScope s_ByKind_taken) := ⟨rfl, rfl, rfl, by decide +kernel, rfl, by decide +kernel, by decide +kernel⟩
def r_ByKind_taken_1 (C_ByKind : Addr) (C_Classes : Addr) : DTS := (tRt (tMt C_Classes "meets" (sp_Classes_meets C_Classes) (tFl C_ByKind "classes" (tV 0)) (tAC (tV 1) (tAC (tV 2) tA0))))
def ri_ByKind_taken (C_ByKind : Addr) (C_Classes : Addr) : DTS := (tRt (tMt C_Classes "meets" (sp_Classes_meets C_Classes) (tFl C_ByKind "classes" (tV 0)) (tAC (tV 1) (tAC (tV 2) tA0))))
def r_ByKind_taken (C_ByKind : Addr) (C_Classes : Addr) : DTS := (r_ByKind_taken_1 C_ByKind C_Classes)
theorem rr_ByKind_taken (C_ByKind : Addr) (C_Classes : Addr) : ri_ByKind_taken C_ByKind C_Classes = r_ByKind_taken C_ByKind C_Classes := rfl
def sp_ByKind_taken (C_ByKind : Addr) (C_Classes : Addr) : DSp := spOf 3 3 (r_ByKind_taken C_ByKind C_Classes)
theorem b_ByKind_taken {P : Program} {w : World} {K : PySem.W.Frag} {mg : Str → Option Value} {base : Heap} {C_ByKind : Addr} {C_Classes : Addr} (cl_Classes : Cls K C_Classes) (cl_ByKind : Cls K C_ByKind) (n_ByKind_classes : NoAttr K C_ByKind "classes") (m_Classes_meets : CalMW P w K mg base C_Classes "meets" 2 (sp_Classes_meets C_Classes)) {f : Addr} {cdv : Value} {A : Around} {outer : List PySem.Env} {s : Shared} {H : Hp} {E : XK} (hr : RoomG 2 (A.deeper (envOfC "ByKind.taken" (defScope s_ByKind_taken) s.heap.objs.size f cdv))) :
    DSs (cxOf CX0 P w K mg base N_ByKind_taken "ByKind.taken" (defScope s_ByKind_taken) f cdv A outer s H E).nox (defBody s_ByKind_taken) (ri_ByKind_taken C_ByKind C_Classes) := by
  have hu := hr.hu
  have hgd := hr.g
  have nd := sc_ByKind_taken.nd
  exact (dss_one (ds_ret (de_meth ⟨m_Classes_meets⟩ cl_Classes (hr.mono (by decide)) (de_fld C_ByKind (dv 0) cl_ByKind n_ByKind_classes) (da_cons (dv 1) (da_cons (dv 2) da_nil)))))
theorem f_ByKind_taken {P : Program} {w : World} {K : PySem.W.Frag} {mg : Str → Option Value} {base : Heap} {C_ByKind : Addr} {C_Classes : Addr} (cl_Classes : Cls K C_Classes) (cl_ByKind : Cls K C_ByKind) (n_ByKind_classes : NoAttr K C_ByKind "classes") (m_Classes_meets : CalMW P w K mg base C_Classes "meets" 2 (sp_Classes_meets C_Classes)) {f : Addr} {fd : FuncData} (F : Fun K "taken" "ByKind.taken" s_ByKind_taken f fd) : FnG P w K mg base CX0 3 f (liftSp K (sp_ByKind_taken C_ByKind C_Classes)) :=
  FnG.imp (sp := liftSp K (spOf0 3 3 (r_ByKind_taken C_ByKind C_Classes))) (fn_mk F sc_ByKind_taken (F.binds (ps := ["self", "view", "names"]) fun _ _ _ _ _ _ us hl => match us, hl with | [_, _, _], _ => rfl) (fun ds m R h => h.1) (fun cdv A outer s H E hr => b_ByKind_taken cl_Classes cl_ByKind n_ByKind_classes m_Classes_meets hr) fun ds m R h => h.2) lift_drop
/-! _law_taken -/
abbrev s_l_taken : Stmt := top 32
def N_l_taken : List Str := ["_law_above_here", "_law_kind", "_law_some", "_law_mine", "_law_one"]
theorem sc_l_taken : FnScope N_l_taken ["_law_above_here", "_law_kind", "_law_some"] (defScope s_l_taken) := ⟨rfl, rfl, rfl, by decide +kernel, rfl, by decide +kernel, by decide +kernel⟩
def r_l_taken_1 : DTT := (tBinT dIn (tV 4) (tBin dIx (tV 0) (tV 3)))
def r_l_taken_2 : DTE := (tV 4)
def r_l_taken_3 : DTS := (tRt (tK (.bl true)))
def r_l_taken_4 : DTS := (tIfS (tBinT dNe (tFrz (tLcM (iSeq (tV 2)) (.one 4) r_l_taken_1 r_l_taken_2 [4])) (tLstD tA0)) r_l_taken_3 tNx)
def r_l_taken_5 : DTS := (tRt (tK (.bl false)))
def r_l_taken_6 : DTS := (tSq (tFo (iSeq (tV 1)) (.one 3) r_l_taken_4) r_l_taken_5)
def ri_l_taken : DTS := (tSq (tFo (iSeq (tV 1)) (.one 3) (tIfS (tBinT dNe (tFrz (tLcM (iSeq (tV 2)) (.one 4) (tBinT dIn (tV 4) (tBin dIx (tV 0) (tV 3))) (tV 4) [4])) (tLstD tA0)) (tRt (tK (.bl true))) tNx)) (tRt (tK (.bl false))))
def r_l_taken : DTS := r_l_taken_6
theorem rr_l_taken : ri_l_taken = r_l_taken := rfl
def sp_l_taken : DSp := spOf 3 5 (r_l_taken)
theorem b_l_taken {P : Program} {w : World} {K : PySem.W.Frag} {mg : Str → Option Value} {base : Heap}  {f : Addr} {cdv : Value} {A : Around} {outer : List PySem.Env} {s : Shared} {H : Hp} {E : XK} (hr : RoomG 0 (A.deeper (envOfC "_law_taken" (defScope s_l_taken) s.heap.objs.size f cdv))) :
    DSs (cxOf CX0 P w K mg base N_l_taken "_law_taken" (defScope s_l_taken) f cdv A outer s H E).nox (defBody s_l_taken) (ri_l_taken) := by
  have hu := hr.hu
  have hgd := hr.g
  have nd := sc_l_taken.nd
  exact (dss_cons (ds_for (di_seq (dv 1)) (dgt_one (i := 3) nd)
  (dss_one (ds_if (dt_cmp (do_ne hu) (de_frz (de_lc (own := [("_law_one", 4)]) (di_seq (dv 2)) (blkOk_by (N := N_l_taken) (sc := defScope s_l_taken) (own := [("_law_one", 4)]) (by decide +kernel)) nd rfl (fun _ _ _ _ _ => (dgt_one (i := 4) nd)) (fun _ _ _ _ _ => (dts_one (dt_cmp (do_in hu) (dv 4) (de_ix hu (dv 0) (dv 3))))) (fun _ _ _ _ _ => (dv 4)))) (de_lst da_nil))
  (dss_one (ds_ret de_bl))
  dss_nil)) rfl PassesOwn.never)
  (dss_one (ds_ret de_bl)))
theorem f_l_taken {P : Program} {w : World} {K : PySem.W.Frag} {mg : Str → Option Value} {base : Heap}  {f : Addr} {fd : FuncData} (F : Fun K "_law_taken" "_law_taken" s_l_taken f fd) : FnG P w K mg base CX0 1 f (liftSp K sp_l_taken) :=
  FnG.imp (sp := liftSp K (spOf0 3 5 (r_l_taken))) (fn_mk F sc_l_taken (F.binds (ps := ["_law_above_here", "_law_kind", "_law_some"]) fun _ _ _ _ _ _ us hl => match us, hl with | [_, _, _], _ => rfl) (fun ds m R h => h.1) (fun cdv A outer s H E hr => b_l_taken  hr) fun ds m R h => h.2) lift_drop
/-! ByKind.name_of -/
abbrev s_ByKind_name_of : Stmt := inClass (top 11) 3
def N_ByKind_name_of : List Str := ["self", "view"]
theorem sc_ByKind_name_of : FnScope N_ByKind_name_of ["self", "view"] (defScope s_ByKind_name_of) := ⟨rfl, rfl, rfl, by decide +kernel, rfl, by decide +kernel, by decide +kernel⟩
def r_ByKind_name_of_1 : DTS := (tRt (tIfD (tBinT dEq (tFn (d1 dLen) (tAC (tV 1) tA0)) (tK (.int 1))) (tBin dIx (tV 1) (tK (.int 0))) (tK .non)))
def ri_ByKind_name_of : DTS := (tRt (tIfD (tBinT dEq (tFn (d1 dLen) (tAC (tV 1) tA0)) (tK (.int 1))) (tBin dIx (tV 1) (tK (.int 0))) (tK .non)))
def r_ByKind_name_of : DTS := r_ByKind_name_of_1
theorem rr_ByKind_name_of : ri_ByKind_name_of = r_ByKind_name_of := rfl
def sp_ByKind_name_of : DSp := spOf 2 2 (r_ByKind_name_of)
theorem b_ByKind_name_of {P : Program} {w : World} {K : PySem.W.Frag} {mg : Str → Option Value} {base : Heap} (z_len : mg "len" = none) {f : Addr} {cdv : Value} {A : Around} {outer : List PySem.Env} {s : Shared} {H : Hp} {E : XK} (hr : RoomG 0 (A.deeper (envOfC "ByKind.name_of" (defScope s_ByKind_name_of) s.heap.objs.size f cdv))) :
    DSs (cxOf CX0 P w K mg base N_ByKind_name_of "ByKind.name_of" (defScope s_ByKind_name_of) f cdv A outer s H E).nox (defBody s_ByKind_name_of) (ri_ByKind_name_of) := by
  have hu := hr.hu
  have hgd := hr.g
  have nd := sc_ByKind_name_of.nd
  exact (dss_one (ds_ret (de_if (dt_cmp (do_eq hu) (de_fn dc_len z_len (by decide +kernel) (da_cons (dv 1) da_nil)) de_int) (de_ix hu (dv 1) de_int) de_non)))
theorem f_ByKind_name_of {P : Program} {w : World} {K : PySem.W.Frag} {mg : Str → Option Value} {base : Heap} (z_len : mg "len" = none) {f : Addr} {fd : FuncData} (F : Fun K "name_of" "ByKind.name_of" s_ByKind_name_of f fd) : FnG P w K mg base CX0 1 f (liftSp K sp_ByKind_name_of) :=
  FnG.imp (sp := liftSp K (spOf0 2 2 (r_ByKind_name_of))) (fn_mk F sc_ByKind_name_of (F.binds (ps := ["self", "view"]) fun _ _ _ _ _ _ us hl => match us, hl with | [_, _], _ => rfl) (fun ds m R h => h.1) (fun cdv A outer s H E hr => b_ByKind_name_of z_len hr) fun ds m R h => h.2) lift_drop
/-! _law_seen -/
abbrev s_l_seen : Stmt := top 33
def N_l_seen : List Str := ["_law_pen_here", "_law_level", "_law_above_here", "_law_kinds_here", "_law_words_here", "_law_due", "_law_turn", "_law_kind", "_law_mine", "_law_first", "_law_latter", "_law_some", "_law_found", "_law_one"]
theorem sc_l_seen : FnScope N_l_seen ["_law_pen_here", "_law_level", "_law_above_here", "_law_kinds_here", "_law_words_here"] (defScope s_l_seen) := ⟨rfl, rfl, rfl, by decide +kernel, rfl, by decide +kernel, by decide +kernel⟩
def r_l_seen_1 : DTS := (tRt (tK (.bl false)))
def r_l_seen_2 : DTS := (tRt (tK (.bl false)))
def r_l_seen_3 : DTT := (tBinT dEq (tCl sp_l_draw (tAC (tV 0) (tAC (tK (.int 3)) tA0))) (tK (.int 0)))
def r_l_seen_4 : DTE := (tV 13)
def r_l_seen_5 : DTE := (tCl sp_l_taken (tAC (tV 2) (tAC (tV 13) (tAC (tV 11) tA0))))
def r_l_seen_6 : DTS := (tRt (tK (.bl false)))
def r_l_seen_7 : DTS := (tRt (tK (.bl false)))
def r_l_seen_8 (C_ByKind : Addr) : DTS := (tIfS (tBinT dNe (tFn (d1 dReprA) (tAC (tLstD (tAC (tMt C_ByKind "name_of" sp_ByKind_name_of (tV 1) (tAC (tV 7) tA0)) (tAC (tMt C_ByKind "name_of" sp_ByKind_name_of (tV 1) (tAC (tTupD (tAC (tV 8) tA0)) tA0)) tA0))) tA0)) (tFn (d1 dReprA) (tAC (tLstD (tAC (tIfD (tBinT dEq (tFn (d1 dLen) (tAC (tV 7) tA0)) (tK (.int 1))) (tBin dIx (tV 7) (tK (.int 0))) (tK .non)) (tAC (tV 8) tA0))) tA0))) r_l_seen_7 tNx)
def r_l_seen_9 (C_ByKind : Addr) : DTS := (tSq (tIfS (tBinT dNe (tFn (d1 dReprA) (tAC (tV 12) tA0)) (tFn (d1 dReprA) (tAC (tFrz (tLcM (iSeq (tTupD (tAC (tV 7) (tAC (tV 7) (tAC (tTupD (tAC (tV 8) tA0)) tA0))))) (.one 13) tYe r_l_seen_5 [13])) tA0))) r_l_seen_6 tNx) (r_l_seen_8 C_ByKind))
def r_l_seen_10 (C_ByKind : Addr) (C_Classes : Addr) : DTS := (tSq (tSet 12 (tLstD (tAC (tMt C_ByKind "taken" (sp_ByKind_taken C_ByKind C_Classes) (tV 1) (tAC (tV 7) (tAC (tFn (d1 dTuple) (tAC (tV 11) tA0)) tA0))) (tAC (tMt C_ByKind "taken" (sp_ByKind_taken C_ByKind C_Classes) (tV 1) (tAC (tV 7) (tAC (tV 11) tA0))) (tAC (tMt C_ByKind "taken" (sp_ByKind_taken C_ByKind C_Classes) (tV 1) (tAC (tTupD (tAC (tV 8) tA0)) (tAC (tV 11) tA0))) tA0))))) (r_l_seen_9 C_ByKind))
def r_l_seen_11 (C_ByKind : Addr) (C_Classes : Addr) : DTS := (tSq (tSet 11 (tFrz (tLcM (iSeq (tFn (d1 dList) (tAC (tV 2) tA0))) (.one 13) r_l_seen_3 r_l_seen_4 [13]))) (r_l_seen_10 C_ByKind C_Classes))
def r_l_seen_12 (C_ByKind : Addr) (C_Classes : Addr) : DTS := (tSq (tIfS (tOrT (tBinT dNe (tFn (d1 dReprA) (tAC (tV 9) tA0)) (tV 5)) (tBinT dNe (tFn (d1 dReprA) (tAC (tV 10) tA0)) (tV 5))) r_l_seen_2 tNx) (r_l_seen_11 C_ByKind C_Classes))
def r_l_seen_13 (C_ByKind : Addr) (C_Classes : Addr) : DTS := (tSq (tPr 9 10 (tAC (tMt C_ByKind "does" (sp_ByKind_does C_ByKind) (tV 1) (tAC (tCl sp_l_pick (tAC (tV 0) (tAC (tV 4) tA0))) (tAC (tK .non) tA0))) (tAC (tMt C_ByKind "does" (sp_ByKind_does C_ByKind) (tV 1) (tAC (tCl sp_l_pick (tAC (tV 0) (tAC (tV 4) tA0))) (tAC (tV 7) tA0))) tA0))) (r_l_seen_12 C_ByKind C_Classes))
def r_l_seen_14 (C_ByKind : Addr) (C_Classes : Addr) : DTS := (tSq (tIfS (tBinT dNe (tFn (d1 dReprA) (tAC (tLstD (tAC (tMt C_ByKind "view" (spDft 2 [.non] sp_ByKind_view) (tV 1) (tAC (tV 8) tA0)) (tAC (tMt C_ByKind "view" sp_ByKind_view (tV 1) (tAC (tV 8) (tAC (tV 7) tA0))) (tAC (tMt C_ByKind "view" sp_ByKind_view (tV 1) (tAC (tV 8) (tAC (tK .non) tA0))) tA0)))) tA0)) (tFn (d1 dReprA) (tAC (tBin dMul (tLstD (tAC (tTupD (tAC (tV 8) tA0)) tA0)) (tK (.int 3))) tA0))) r_l_seen_1 tNx) (r_l_seen_13 C_ByKind C_Classes))
def r_l_seen_15 (C_ByKind : Addr) (C_Classes : Addr) : DTS := (tSq (tPr 7 8 (tAC (tCl sp_l_pick (tAC (tV 0) (tAC (tV 3) tA0))) (tAC (tCl sp_l_pick (tAC (tV 0) (tAC (tFn (d1 dList) (tAC (tV 2) tA0)) tA0))) tA0))) (r_l_seen_14 C_ByKind C_Classes))
def r_l_seen_16 : DTS := (tRt (tK (.bl true)))
def r_l_seen_17 (C_ByKind : Addr) (C_Classes : Addr) : DTS := (tSq (tFo (iRg (tAC (tK (.int 4)) tA0)) (.one 6) (r_l_seen_15 C_ByKind C_Classes)) r_l_seen_16)
def r_l_seen_18 (C_ByKind : Addr) (C_Classes : Addr) : DTS := (tSq (tSet 5 (tFn (d1 dReprA) (tAC (tBin dAdd (tTupD (tAC (tK (.str "returns")) tA0)) (tFn (d1 dTuple) (tAC (tV 3) tA0))) tA0))) (r_l_seen_17 C_ByKind C_Classes))
def ri_l_seen (C_ByKind : Addr) (C_Classes : Addr) : DTS := (tSq (tSet 5 (tFn (d1 dReprA) (tAC (tBin dAdd (tTupD (tAC (tK (.str "returns")) tA0)) (tFn (d1 dTuple) (tAC (tV 3) tA0))) tA0))) (tSq (tFo (iRg (tAC (tK (.int 4)) tA0)) (.one 6) (tSq (tPr 7 8 (tAC (tCl sp_l_pick (tAC (tV 0) (tAC (tV 3) tA0))) (tAC (tCl sp_l_pick (tAC (tV 0) (tAC (tFn (d1 dList) (tAC (tV 2) tA0)) tA0))) tA0))) (tSq (tIfS (tBinT dNe (tFn (d1 dReprA) (tAC (tLstD (tAC (tMt C_ByKind "view" (spDft 2 [.non] sp_ByKind_view) (tV 1) (tAC (tV 8) tA0)) (tAC (tMt C_ByKind "view" sp_ByKind_view (tV 1) (tAC (tV 8) (tAC (tV 7) tA0))) (tAC (tMt C_ByKind "view" sp_ByKind_view (tV 1) (tAC (tV 8) (tAC (tK .non) tA0))) tA0)))) tA0)) (tFn (d1 dReprA) (tAC (tBin dMul (tLstD (tAC (tTupD (tAC (tV 8) tA0)) tA0)) (tK (.int 3))) tA0))) (tRt (tK (.bl false))) tNx) (tSq (tPr 9 10 (tAC (tMt C_ByKind "does" (sp_ByKind_does C_ByKind) (tV 1) (tAC (tCl sp_l_pick (tAC (tV 0) (tAC (tV 4) tA0))) (tAC (tK .non) tA0))) (tAC (tMt C_ByKind "does" (sp_ByKind_does C_ByKind) (tV 1) (tAC (tCl sp_l_pick (tAC (tV 0) (tAC (tV 4) tA0))) (tAC (tV 7) tA0))) tA0))) (tSq (tIfS (tOrT (tBinT dNe (tFn (d1 dReprA) (tAC (tV 9) tA0)) (tV 5)) (tBinT dNe (tFn (d1 dReprA) (tAC (tV 10) tA0)) (tV 5))) (tRt (tK (.bl false))) tNx) (tSq (tSet 11 (tFrz (tLcM (iSeq (tFn (d1 dList) (tAC (tV 2) tA0))) (.one 13) (tBinT dEq (tCl sp_l_draw (tAC (tV 0) (tAC (tK (.int 3)) tA0))) (tK (.int 0))) (tV 13) [13]))) (tSq (tSet 12 (tLstD (tAC (tMt C_ByKind "taken" (sp_ByKind_taken C_ByKind C_Classes) (tV 1) (tAC (tV 7) (tAC (tFn (d1 dTuple) (tAC (tV 11) tA0)) tA0))) (tAC (tMt C_ByKind "taken" (sp_ByKind_taken C_ByKind C_Classes) (tV 1) (tAC (tV 7) (tAC (tV 11) tA0))) (tAC (tMt C_ByKind "taken" (sp_ByKind_taken C_ByKind C_Classes) (tV 1) (tAC (tTupD (tAC (tV 8) tA0)) (tAC (tV 11) tA0))) tA0))))) (tSq (tIfS (tBinT dNe (tFn (d1 dReprA) (tAC (tV 12) tA0)) (tFn (d1 dReprA) (tAC (tFrz (tLcM (iSeq (tTupD (tAC (tV 7) (tAC (tV 7) (tAC (tTupD (tAC (tV 8) tA0)) tA0))))) (.one 13) tYe (tCl sp_l_taken (tAC (tV 2) (tAC (tV 13) (tAC (tV 11) tA0)))) [13])) tA0))) (tRt (tK (.bl false))) tNx) (tIfS (tBinT dNe (tFn (d1 dReprA) (tAC (tLstD (tAC (tMt C_ByKind "name_of" sp_ByKind_name_of (tV 1) (tAC (tV 7) tA0)) (tAC (tMt C_ByKind "name_of" sp_ByKind_name_of (tV 1) (tAC (tTupD (tAC (tV 8) tA0)) tA0)) tA0))) tA0)) (tFn (d1 dReprA) (tAC (tLstD (tAC (tIfD (tBinT dEq (tFn (d1 dLen) (tAC (tV 7) tA0)) (tK (.int 1))) (tBin dIx (tV 7) (tK (.int 0))) (tK .non)) (tAC (tV 8) tA0))) tA0))) (tRt (tK (.bl false))) tNx))))))))) (tRt (tK (.bl true)))))
def r_l_seen (C_ByKind : Addr) (C_Classes : Addr) : DTS := (r_l_seen_18 C_ByKind C_Classes)
theorem rr_l_seen (C_ByKind : Addr) (C_Classes : Addr) : ri_l_seen C_ByKind C_Classes = r_l_seen C_ByKind C_Classes := rfl
def sp_l_seen (C_ByKind : Addr) (C_Classes : Addr) : DSp := spOf 5 14 (r_l_seen C_ByKind C_Classes)
theorem b_l_seen {P : Program} {w : World} {K : PySem.W.Frag} {mg : Str → Option Value} {base : Heap} {C_ByKind : Addr} {C_Classes : Addr} (z_tuple : mg "tuple" = none) (z_repr : mg "repr" = none) (z_range : mg "range" = none) (c_l_pick : CalW P w K mg base "_law_pick" 2 sp_l_pick) (z_list : mg "list" = none) (cl_ByKind : Cls K C_ByKind) (md2_ByKind_view : CalMW P w K mg base C_ByKind "view" 1 (spDft 2 [.non] sp_ByKind_view)) (m_ByKind_view : CalMW P w K mg base C_ByKind "view" 1 sp_ByKind_view) (m_ByKind_does : CalMW P w K mg base C_ByKind "does" 1 (sp_ByKind_does C_ByKind)) (c_l_draw : CalW P w K mg base "_law_draw" 1 sp_l_draw) (m_ByKind_taken : CalMW P w K mg base C_ByKind "taken" 3 (sp_ByKind_taken C_ByKind C_Classes)) (c_l_taken : CalW P w K mg base "_law_taken" 1 sp_l_taken) (m_ByKind_name_of : CalMW P w K mg base C_ByKind "name_of" 1 sp_ByKind_name_of) (z_len : mg "len" = none) {f : Addr} {cdv : Value} {A : Around} {outer : List PySem.Env} {s : Shared} {H : Hp} {E : XK} (hr : RoomG 3 (A.deeper (envOfC "_law_seen" (defScope s_l_seen) s.heap.objs.size f cdv))) :
    DSs (cxOf CX0 P w K mg base N_l_seen "_law_seen" (defScope s_l_seen) f cdv A outer s H E).nox (defBody s_l_seen) (ri_l_seen C_ByKind C_Classes) := by
  have hu := hr.hu
  have hgd := hr.g
  have nd := sc_l_seen.nd
  exact (dss_cons (ds_set (i := 5) (de_fn (dc_reprA hgd hu) z_repr (by decide +kernel) (da_cons (de_op do_add (de_tup (da_cons de_str da_nil)) (de_ty dc_tuple z_tuple (by decide +kernel) (da_cons (dv 3) da_nil))) da_nil)) nd)
  (dss_cons (ds_for (di_range z_range (da_cons de_int da_nil)) (dgt_one (i := 6) nd)
  (dss_cons (ds_par (i := 7) (j := 8) (da_cons (de_call ⟨c_l_pick⟩ (hr.mono (by decide)) (da_cons (dv 0) (da_cons (dv 3) da_nil))) (da_cons (de_call ⟨c_l_pick⟩ (hr.mono (by decide)) (da_cons (dv 0) (da_cons (de_ty (dc_list rfl) z_list (by decide +kernel) (da_cons (dv 2) da_nil)) da_nil))) da_nil)) rfl nd)
  (dss_cons (ds_if (dt_cmp (do_ne hu) (de_fn (dc_reprA hgd hu) z_repr (by decide +kernel) (da_cons (de_lst (da_cons (de_meth ⟨md2_ByKind_view⟩ cl_ByKind (hr.mono (by decide)) (dv 1) (da_cons (dv 8) da_nil)) (da_cons (de_meth ⟨m_ByKind_view⟩ cl_ByKind (hr.mono (by decide)) (dv 1) (da_cons (dv 8) (da_cons (dv 7) da_nil))) (da_cons (de_meth ⟨m_ByKind_view⟩ cl_ByKind (hr.mono (by decide)) (dv 1) (da_cons (dv 8) (da_cons de_non da_nil))) da_nil)))) da_nil)) (de_fn (dc_reprA hgd hu) z_repr (by decide +kernel) (da_cons (de_op do_mul (de_lst (da_cons (de_tup (da_cons (dv 8) da_nil)) da_nil)) de_int) da_nil)))
  (dss_one (ds_ret de_bl))
  dss_nil)
  (dss_cons (ds_par (i := 9) (j := 10) (da_cons (de_meth ⟨m_ByKind_does⟩ cl_ByKind (hr.mono (by decide)) (dv 1) (da_cons (de_call ⟨c_l_pick⟩ (hr.mono (by decide)) (da_cons (dv 0) (da_cons (dv 4) da_nil))) (da_cons de_non da_nil))) (da_cons (de_meth ⟨m_ByKind_does⟩ cl_ByKind (hr.mono (by decide)) (dv 1) (da_cons (de_call ⟨c_l_pick⟩ (hr.mono (by decide)) (da_cons (dv 0) (da_cons (dv 4) da_nil))) (da_cons (dv 7) da_nil))) da_nil)) rfl nd)
  (dss_cons (ds_if (DW.dt (dw_or (dt_cmp (do_ne hu) (de_fn (dc_reprA hgd hu) z_repr (by decide +kernel) (da_cons (dv 9) da_nil)) (dv 5)) (dw_or1 (dt_cmp (do_ne hu) (de_fn (dc_reprA hgd hu) z_repr (by decide +kernel) (da_cons (dv 10) da_nil)) (dv 5)))))
  (dss_one (ds_ret de_bl))
  dss_nil)
  (dss_cons (ds_set (i := 11) (de_frz (de_lc (own := [("_law_one", 13)]) (di_seq (de_ty (dc_list rfl) z_list (by decide +kernel) (da_cons (dv 2) da_nil))) (blkOk_by (N := N_l_seen) (sc := defScope s_l_seen) (own := [("_law_one", 13)]) (by decide +kernel)) nd rfl (fun _ _ _ _ _ => (dgt_one (i := 13) nd)) (fun _ _ _ _ _ => (dts_one (dt_cmp (do_eq hu) (de_call ⟨c_l_draw⟩ (hr.mono (by decide)) (da_cons (dv 0) (da_cons de_int da_nil))) de_int))) (fun _ _ _ _ _ => (dv 13)))) nd)
  (dss_cons (ds_set (i := 12) (de_lst (da_cons (de_meth ⟨m_ByKind_taken⟩ cl_ByKind (hr.mono (by decide)) (dv 1) (da_cons (dv 7) (da_cons (de_ty dc_tuple z_tuple (by decide +kernel) (da_cons (dv 11) da_nil)) da_nil))) (da_cons (de_meth ⟨m_ByKind_taken⟩ cl_ByKind (hr.mono (by decide)) (dv 1) (da_cons (dv 7) (da_cons (dv 11) da_nil))) (da_cons (de_meth ⟨m_ByKind_taken⟩ cl_ByKind (hr.mono (by decide)) (dv 1) (da_cons (de_tup (da_cons (dv 8) da_nil)) (da_cons (dv 11) da_nil))) da_nil)))) nd)
  (dss_cons (ds_if (dt_cmp (do_ne hu) (de_fn (dc_reprA hgd hu) z_repr (by decide +kernel) (da_cons (dv 12) da_nil)) (de_fn (dc_reprA hgd hu) z_repr (by decide +kernel) (da_cons (de_frz (de_lc (own := [("_law_one", 13)]) (di_seq (de_tup (da_cons (dv 7) (da_cons (dv 7) (da_cons (de_tup (da_cons (dv 8) da_nil)) da_nil))))) (blkOk_by (N := N_l_seen) (sc := defScope s_l_seen) (own := [("_law_one", 13)]) (by decide +kernel)) nd rfl (fun _ _ _ _ _ => (dgt_one (i := 13) nd)) (fun _ _ _ _ _ => dts_nil) (fun _ _ _ _ _ => (de_call ⟨c_l_taken⟩ (hr.mono (by decide)) (da_cons (dv 2) (da_cons (dv 13) (da_cons (dv 11) da_nil))))))) da_nil)))
  (dss_one (ds_ret de_bl))
  dss_nil)
  (dss_one (ds_if (dt_cmp (do_ne hu) (de_fn (dc_reprA hgd hu) z_repr (by decide +kernel) (da_cons (de_lst (da_cons (de_meth ⟨m_ByKind_name_of⟩ cl_ByKind (hr.mono (by decide)) (dv 1) (da_cons (dv 7) da_nil)) (da_cons (de_meth ⟨m_ByKind_name_of⟩ cl_ByKind (hr.mono (by decide)) (dv 1) (da_cons (de_tup (da_cons (dv 8) da_nil)) da_nil)) da_nil))) da_nil)) (de_fn (dc_reprA hgd hu) z_repr (by decide +kernel) (da_cons (de_lst (da_cons (de_if (dt_cmp (do_eq hu) (de_fn dc_len z_len (by decide +kernel) (da_cons (dv 7) da_nil)) de_int) (de_ix hu (dv 7) de_int) de_non) (da_cons (dv 8) da_nil))) da_nil)))
  (dss_one (ds_ret de_bl))
  dss_nil))))))))) rfl PassesOwn.never)
  (dss_one (ds_ret de_bl))))
theorem f_l_seen {P : Program} {w : World} {K : PySem.W.Frag} {mg : Str → Option Value} {base : Heap} {C_ByKind : Addr} {C_Classes : Addr} (z_tuple : mg "tuple" = none) (z_repr : mg "repr" = none) (z_range : mg "range" = none) (c_l_pick : CalW P w K mg base "_law_pick" 2 sp_l_pick) (z_list : mg "list" = none) (cl_ByKind : Cls K C_ByKind) (md2_ByKind_view : CalMW P w K mg base C_ByKind "view" 1 (spDft 2 [.non] sp_ByKind_view)) (m_ByKind_view : CalMW P w K mg base C_ByKind "view" 1 sp_ByKind_view) (m_ByKind_does : CalMW P w K mg base C_ByKind "does" 1 (sp_ByKind_does C_ByKind)) (c_l_draw : CalW P w K mg base "_law_draw" 1 sp_l_draw) (m_ByKind_taken : CalMW P w K mg base C_ByKind "taken" 3 (sp_ByKind_taken C_ByKind C_Classes)) (c_l_taken : CalW P w K mg base "_law_taken" 1 sp_l_taken) (m_ByKind_name_of : CalMW P w K mg base C_ByKind "name_of" 1 sp_ByKind_name_of) (z_len : mg "len" = none) {f : Addr} {fd : FuncData} (F : Fun K "_law_seen" "_law_seen" s_l_seen f fd) : FnG P w K mg base CX0 4 f (liftSp K (sp_l_seen C_ByKind C_Classes)) :=
  FnG.imp (sp := liftSp K (spOf0 5 14 (r_l_seen C_ByKind C_Classes))) (fn_mk F sc_l_seen (F.binds (ps := ["_law_pen_here", "_law_level", "_law_above_here", "_law_kinds_here", "_law_words_here"]) fun _ _ _ _ _ _ us hl => match us, hl with | [_, _, _, _, _], _ => rfl) (fun ds m R h => h.1) (fun cdv A outer s H E hr => b_l_seen z_tuple z_repr z_range c_l_pick z_list cl_ByKind md2_ByKind_view m_ByKind_view m_ByKind_does c_l_draw m_ByKind_taken c_l_taken m_ByKind_name_of z_len hr) fun ds m R h => h.2) lift_drop
/-! _law_kinds -/
abbrev s_l_kinds : Stmt := top 30
def N_l_kinds : List Str := ["_law_above_here", "_law_found", "_law_word", "_law_more", "_law_kind", "_law_one"]
theorem sc_l_kinds : FnScope N_l_kinds ["_law_above_here"] (defScope s_l_kinds) := ⟨rfl, rfl, rfl, by decide +kernel, rfl, by decide +kernel, by decide +kernel⟩
def r_l_kinds_1 : DTT := (tOrT (tBinT dIn (tV 5) (tBin dIx (tV 0) (tV 2))) (tBinT dIn (tV 2) (tBin dIx (tV 0) (tV 5))))
def r_l_kinds_2 : DTE := (tV 5)
def r_l_kinds_3 : DTS := (tDr (tApp (tV 3) (tBin dAdd (tV 4) (tTupD (tAC (tV 2) tA0)))))
def r_l_kinds_4 : DTS := (tIfS (tBinT dEq (tFrz (tLcM (iSeq (tV 4)) (.one 5) r_l_kinds_1 r_l_kinds_2 [5])) (tLstD tA0)) r_l_kinds_3 tNx)
def r_l_kinds_5 : DTS := (tSet 1 (tBin dAdd (tV 1) (tV 3)))
def r_l_kinds_6 : DTS := (tSq (tFo (iSeq (tV 1)) (.one 4) r_l_kinds_4) r_l_kinds_5)
def r_l_kinds_7 : DTS := (tSq (tSet 3 (tLstM tA0)) r_l_kinds_6)
def r_l_kinds_8 : DTS := (tRt (tFn (d1 dSort) (tAC (tSlD (tV 1) (tOS (tK (.int 1))) tON) tA0)))
def r_l_kinds_9 : DTS := (tSq (tFo (iSeq (tFn (d1 dSort) (tAC (tFn (d1 dList) (tAC (tV 0) tA0)) tA0))) (.one 2) r_l_kinds_7) r_l_kinds_8)
def r_l_kinds_10 : DTS := (tSq (tSet 1 (tLstD (tAC (tTupD tA0) tA0))) r_l_kinds_9)
def ri_l_kinds : DTS := (tSq (tSet 1 (tLstD (tAC (tTupD tA0) tA0))) (tSq (tFo (iSeq (tFn (d1 dSort) (tAC (tFn (d1 dList) (tAC (tV 0) tA0)) tA0))) (.one 2) (tSq (tSet 3 (tLstM tA0)) (tSq (tFo (iSeq (tV 1)) (.one 4) (tIfS (tBinT dEq (tFrz (tLcM (iSeq (tV 4)) (.one 5) (tOrT (tBinT dIn (tV 5) (tBin dIx (tV 0) (tV 2))) (tBinT dIn (tV 2) (tBin dIx (tV 0) (tV 5)))) (tV 5) [5])) (tLstD tA0)) (tDr (tApp (tV 3) (tBin dAdd (tV 4) (tTupD (tAC (tV 2) tA0))))) tNx)) (tSet 1 (tBin dAdd (tV 1) (tV 3)))))) (tRt (tFn (d1 dSort) (tAC (tSlD (tV 1) (tOS (tK (.int 1))) tON) tA0)))))
def r_l_kinds : DTS := r_l_kinds_10
theorem rr_l_kinds : ri_l_kinds = r_l_kinds := rfl
def sp_l_kinds : DSp := spOf 1 6 (r_l_kinds)
theorem b_l_kinds {P : Program} {w : World} {K : PySem.W.Frag} {mg : Str → Option Value} {base : Heap} (z_list : mg "list" = none) (z_sorted : mg "sorted" = none) {f : Addr} {cdv : Value} {A : Around} {outer : List PySem.Env} {s : Shared} {H : Hp} {E : XK} (hr : RoomG 0 (A.deeper (envOfC "_law_kinds" (defScope s_l_kinds) s.heap.objs.size f cdv))) :
    DSs (cxOf CX0 P w K mg base N_l_kinds "_law_kinds" (defScope s_l_kinds) f cdv A outer s H E).nox (defBody s_l_kinds) (ri_l_kinds) := by
  have hu := hr.hu
  have hgd := hr.g
  have nd := sc_l_kinds.nd
  exact (dss_cons (ds_set (i := 1) (de_lst (da_cons (de_tup da_nil) da_nil)) nd)
  (dss_cons (ds_for (di_seq (de_fn (dc_sort hu) z_sorted (by decide +kernel) (da_cons (de_ty (dc_list rfl) z_list (by decide +kernel) (da_cons (dv 0) da_nil)) da_nil))) (dgt_one (i := 2) nd)
  (dss_cons (ds_set (i := 3) (de_lstM da_nil) nd)
  (dss_cons (ds_for (di_seq (dv 1)) (dgt_one (i := 4) nd)
  (dss_one (ds_if (dt_cmp (do_eq hu) (de_frz (de_lc (own := [("_law_one", 5)]) (di_seq (dv 4)) (blkOk_by (N := N_l_kinds) (sc := defScope s_l_kinds) (own := [("_law_one", 5)]) (by decide +kernel)) nd rfl (fun _ _ _ _ _ => (dgt_one (i := 5) nd)) (fun _ _ _ _ _ => (dts_one (DW.dt (dw_or (dt_cmp (do_in hu) (dv 5) (de_ix hu (dv 0) (dv 2))) (dw_or1 (dt_cmp (do_in hu) (dv 2) (de_ix hu (dv 0) (dv 5)))))))) (fun _ _ _ _ _ => (dv 5)))) (de_lst da_nil))
  (dss_one (ds_expr (de_app (dv 3) (de_op do_add (dv 4) (de_tup (da_cons (dv 2) da_nil))))))
  dss_nil)) rfl PassesOwn.never)
  (dss_one (ds_set (i := 1) (de_op do_add (dv 1) (dv 3)) nd)))) rfl PassesOwn.never)
  (dss_one (ds_ret (de_fn (dc_sort hu) z_sorted (by decide +kernel) (da_cons (de_slice (dv 1) (do_some de_int) do_none) da_nil))))))
theorem f_l_kinds {P : Program} {w : World} {K : PySem.W.Frag} {mg : Str → Option Value} {base : Heap} (z_list : mg "list" = none) (z_sorted : mg "sorted" = none) {f : Addr} {fd : FuncData} (F : Fun K "_law_kinds" "_law_kinds" s_l_kinds f fd) : FnG P w K mg base CX0 1 f (liftSp K sp_l_kinds) :=
  FnG.imp (sp := liftSp K (spOf0 1 6 (r_l_kinds))) (fn_mk F sc_l_kinds (F.binds (ps := ["_law_above_here"]) fun _ _ _ _ _ _ us hl => match us, hl with | [_], _ => rfl) (fun ds m R h => h.1) (fun cdv A outer s H E hr => b_l_kinds z_list z_sorted hr) fun ds m R h => h.2) lift_drop
/-! law -/
abbrev s_law : Stmt := top 34
def N_law : List Str := ["_law_script", "_law_pen_here", "_law_turn", "_law_words_here", "_law_rows_here", "_law_more", "_law_classes", "_law_above_here", "_law_level"]
theorem sc_law : FnScope N_law ["_law_script"] (defScope s_law) := ⟨rfl, rfl, rfl, by decide +kernel, rfl, by decide +kernel, by decide +kernel⟩
def r_law_1 : DTS := (tRt (tK (.bl false)))
def r_law_2 (C_Barred : Addr) (C_ByKind : Addr) (C_Classes : Addr) (C_LeaveError : Addr) (C_NoClass : Addr) (C_TooMany : Addr) : DTS := (tIfS (tNotT (tTru (tCl (sp_l_refused C_Barred C_ByKind C_Classes C_LeaveError C_NoClass C_TooMany) (tAC (tCm C_Classes (sp_Classes_made C_Classes) (tAC (tV 5) tA0)) tA0)))) r_law_1 tNx)
def r_law_3 (C_Barred : Addr) (C_ByKind : Addr) (C_Classes : Addr) (C_LeaveError : Addr) (C_NoClass : Addr) (C_TooMany : Addr) : DTS := (tSq (tSet 5 (tCl sp_l_rows (tAC (tV 1) (tAC (tSlD (tV 3) tON (tOS (tBin dAdd (tK (.int 5)) (tCl sp_l_draw (tAC (tV 1) (tAC (tK (.int 5)) tA0)))))) tA0)))) (r_law_2 C_Barred C_ByKind C_Classes C_LeaveError C_NoClass C_TooMany))
def r_law_4 : DTS := (tRt (tK (.bl false)))
def r_law_5 : DTS := (tRt (tK (.bl false)))
def r_law_6 : DTS := (tRt (tK (.bl false)))
def r_law_7 (C_ByKind : Addr) (C_Classes : Addr) : DTS := (tIfS (tNotT (tTru (tCl (sp_l_seen C_ByKind C_Classes) (tAC (tV 1) (tAC (tV 8) (tAC (tV 7) (tAC (tCl sp_l_kinds (tAC (tV 7) tA0)) (tAC (tV 3) tA0)))))))) r_law_6 tNx)
def r_law_8 (C_ByKind : Addr) (C_Classes : Addr) : DTS := (tSq (tIfS (tOrT (tBinT dNe (tKi C_ByKind "KIND" (.str "kind") (tV 8)) (tK (.str "kind"))) (tOrT (tBinT dNe (tKc (.str "kind")) (tK (.str "kind"))) (tBinT dNe (tKc (.str "class")) (tK (.str "class"))))) r_law_5 tNx) (r_law_7 C_ByKind C_Classes))
def r_law_9 (C_ByClass : Addr) (C_ByKind : Addr) (C_Classes : Addr) (C_Level : Addr) : DTS := (tSq (tIfS (tOrT (tNotT (tTru (tFn (dIsiO (JS (.inr C_Level) [(C_ByKind, true)])) (tAC (tV 8) (tAC (tK (.ref C_Level)) tA0))))) (tOrT (tTru (tFn (dIsiO (JS (.inr C_ByClass) [(C_ByKind, false)])) (tAC (tV 8) (tAC (tK (.ref C_ByClass)) tA0)))) (tOwnT C_Classes (sp_Classes_eq C_Classes) not (tFl C_ByKind "classes" (tV 8)) (tV 6)))) r_law_4 tNx) (r_law_8 C_ByKind C_Classes))
def r_law_10 (C_ByClass : Addr) (C_ByKind : Addr) (C_Classes : Addr) (C_Level : Addr) (C_TooMany : Addr) : DTS := (tSq (tSet 8 (tNoX (tFrzX (tNwX C_ByKind (sp_ByKind_init C_ByKind C_Classes C_TooMany) (tAC (tV 6) tA0))))) (r_law_9 C_ByClass C_ByKind C_Classes C_Level))
def r_law_11 (C_ByClass : Addr) (C_ByKind : Addr) (C_Classes : Addr) (C_Level : Addr) (C_TooMany : Addr) : DTS := (tSq (tSet 7 (tCl sp_l_above (tAC (tV 4) tA0))) (r_law_10 C_ByClass C_ByKind C_Classes C_Level C_TooMany))
def r_law_12 (C_ByClass : Addr) (C_ByKind : Addr) (C_Classes : Addr) (C_Level : Addr) (C_TooMany : Addr) : DTS := (tSq (tSet 6 (tCm C_Classes (sp_Classes_made C_Classes) (tAC (tV 4) tA0))) (r_law_11 C_ByClass C_ByKind C_Classes C_Level C_TooMany))
def r_law_13 (C_Barred : Addr) (C_ByClass : Addr) (C_ByKind : Addr) (C_Classes : Addr) (C_LeaveError : Addr) (C_Level : Addr) (C_NoClass : Addr) (C_TooMany : Addr) : DTS := (tSq (tIfS (tBinT dEq (tCl sp_l_draw (tAC (tV 1) (tAC (tK (.int 6)) tA0))) (tK (.int 0))) (r_law_3 C_Barred C_ByKind C_Classes C_LeaveError C_NoClass C_TooMany) tNx) (r_law_12 C_ByClass C_ByKind C_Classes C_Level C_TooMany))
def r_law_14 (C_Barred : Addr) (C_ByClass : Addr) (C_ByKind : Addr) (C_Classes : Addr) (C_LeaveError : Addr) (C_Level : Addr) (C_NoClass : Addr) (C_TooMany : Addr) : DTS := (tSq (tSet 4 (tCl sp_l_rows (tAC (tV 1) (tAC (tSlD (tV 3) tON (tOS (tCl sp_l_draw (tAC (tV 1) (tAC (tK (.int 5)) tA0))))) tA0)))) (r_law_13 C_Barred C_ByClass C_ByKind C_Classes C_LeaveError C_Level C_NoClass C_TooMany))
def r_law_15 (C_Barred : Addr) (C_ByClass : Addr) (C_ByKind : Addr) (C_Classes : Addr) (C_LeaveError : Addr) (C_Level : Addr) (C_NoClass : Addr) (C_TooMany : Addr) : DTS := (tSq (tSet 3 (tCl sp_l_words (tAC (tV 1) (tAC (tK (.int 9)) tA0)))) (r_law_14 C_Barred C_ByClass C_ByKind C_Classes C_LeaveError C_Level C_NoClass C_TooMany))
def r_law_16 : DTS := (tRt (tK (.bl true)))
def r_law_17 (C_Barred : Addr) (C_ByClass : Addr) (C_ByKind : Addr) (C_Classes : Addr) (C_LeaveError : Addr) (C_Level : Addr) (C_NoClass : Addr) (C_TooMany : Addr) : DTS := (tSq (tFo (iRg (tAC (tK (.int 5)) tA0)) (.one 2) (r_law_15 C_Barred C_ByClass C_ByKind C_Classes C_LeaveError C_Level C_NoClass C_TooMany)) r_law_16)
def r_law_18 (C_Barred : Addr) (C_ByClass : Addr) (C_ByKind : Addr) (C_Classes : Addr) (C_LeaveError : Addr) (C_Level : Addr) (C_NoClass : Addr) (C_TooMany : Addr) : DTS := (tSq (tSet 1 (tCl sp_l_pen (tAC (tV 0) tA0))) (r_law_17 C_Barred C_ByClass C_ByKind C_Classes C_LeaveError C_Level C_NoClass C_TooMany))
def ri_law (C_Barred : Addr) (C_ByClass : Addr) (C_ByKind : Addr) (C_Classes : Addr) (C_LeaveError : Addr) (C_Level : Addr) (C_NoClass : Addr) (C_TooMany : Addr) : DTS := (tSq (tSet 1 (tCl sp_l_pen (tAC (tV 0) tA0))) (tSq (tFo (iRg (tAC (tK (.int 5)) tA0)) (.one 2) (tSq (tSet 3 (tCl sp_l_words (tAC (tV 1) (tAC (tK (.int 9)) tA0)))) (tSq (tSet 4 (tCl sp_l_rows (tAC (tV 1) (tAC (tSlD (tV 3) tON (tOS (tCl sp_l_draw (tAC (tV 1) (tAC (tK (.int 5)) tA0))))) tA0)))) (tSq (tIfS (tBinT dEq (tCl sp_l_draw (tAC (tV 1) (tAC (tK (.int 6)) tA0))) (tK (.int 0))) (tSq (tSet 5 (tCl sp_l_rows (tAC (tV 1) (tAC (tSlD (tV 3) tON (tOS (tBin dAdd (tK (.int 5)) (tCl sp_l_draw (tAC (tV 1) (tAC (tK (.int 5)) tA0)))))) tA0)))) (tIfS (tNotT (tTru (tCl (sp_l_refused C_Barred C_ByKind C_Classes C_LeaveError C_NoClass C_TooMany) (tAC (tCm C_Classes (sp_Classes_made C_Classes) (tAC (tV 5) tA0)) tA0)))) (tRt (tK (.bl false))) tNx)) tNx) (tSq (tSet 6 (tCm C_Classes (sp_Classes_made C_Classes) (tAC (tV 4) tA0))) (tSq (tSet 7 (tCl sp_l_above (tAC (tV 4) tA0))) (tSq (tSet 8 (tNoX (tFrzX (tNwX C_ByKind (sp_ByKind_init C_ByKind C_Classes C_TooMany) (tAC (tV 6) tA0))))) (tSq (tIfS (tOrT (tNotT (tTru (tFn (dIsiO (JS (.inr C_Level) [(C_ByKind, true)])) (tAC (tV 8) (tAC (tK (.ref C_Level)) tA0))))) (tOrT (tTru (tFn (dIsiO (JS (.inr C_ByClass) [(C_ByKind, false)])) (tAC (tV 8) (tAC (tK (.ref C_ByClass)) tA0)))) (tOwnT C_Classes (sp_Classes_eq C_Classes) not (tFl C_ByKind "classes" (tV 8)) (tV 6)))) (tRt (tK (.bl false))) tNx) (tSq (tIfS (tOrT (tBinT dNe (tKi C_ByKind "KIND" (.str "kind") (tV 8)) (tK (.str "kind"))) (tOrT (tBinT dNe (tKc (.str "kind")) (tK (.str "kind"))) (tBinT dNe (tKc (.str "class")) (tK (.str "class"))))) (tRt (tK (.bl false))) tNx) (tIfS (tNotT (tTru (tCl (sp_l_seen C_ByKind C_Classes) (tAC (tV 1) (tAC (tV 8) (tAC (tV 7) (tAC (tCl sp_l_kinds (tAC (tV 7) tA0)) (tAC (tV 3) tA0)))))))) (tRt (tK (.bl false))) tNx)))))))))) (tRt (tK (.bl true)))))
def r_law (C_Barred : Addr) (C_ByClass : Addr) (C_ByKind : Addr) (C_Classes : Addr) (C_LeaveError : Addr) (C_Level : Addr) (C_NoClass : Addr) (C_TooMany : Addr) : DTS := (r_law_18 C_Barred C_ByClass C_ByKind C_Classes C_LeaveError C_Level C_NoClass C_TooMany)
theorem rr_law (C_Barred : Addr) (C_ByClass : Addr) (C_ByKind : Addr) (C_Classes : Addr) (C_LeaveError : Addr) (C_Level : Addr) (C_NoClass : Addr) (C_TooMany : Addr) : ri_law C_Barred C_ByClass C_ByKind C_Classes C_LeaveError C_Level C_NoClass C_TooMany = r_law C_Barred C_ByClass C_ByKind C_Classes C_LeaveError C_Level C_NoClass C_TooMany := rfl
def sp_law (C_Barred : Addr) (C_ByClass : Addr) (C_ByKind : Addr) (C_Classes : Addr) (C_LeaveError : Addr) (C_Level : Addr) (C_NoClass : Addr) (C_TooMany : Addr) : DSp := spOf 1 9 (r_law C_Barred C_ByClass C_ByKind C_Classes C_LeaveError C_Level C_NoClass C_TooMany)
theorem b_law {P : Program} {w : World} {K : PySem.W.Frag} {mg : Str → Option Value} {base : Heap} {C_Barred : Addr} {C_ByClass : Addr} {C_ByKind : Addr} {C_Classes : Addr} {C_LeaveError : Addr} {C_Level : Addr} {C_NoClass : Addr} {C_TooMany : Addr} (c_l_pen : CalW P w K mg base "_law_pen" 1 sp_l_pen) (z_range : mg "range" = none) (c_l_words : CalW P w K mg base "_law_words" 3 sp_l_words) (c_l_rows : CalW P w K mg base "_law_rows" 3 sp_l_rows) (c_l_draw : CalW P w K mg base "_law_draw" 1 sp_l_draw) (c_l_refused : CalW P w K mg base "_law_refused" 6 (sp_l_refused C_Barred C_ByKind C_Classes C_LeaveError C_NoClass C_TooMany)) (k_Classes_made : CalKW P w K mg base C_Classes "made" 6 (sp_Classes_made C_Classes)) (mg_Classes : mg "Classes" = some (.ref C_Classes)) (c_l_above : CalW P w K mg base "_law_above" 1 sp_l_above) (mkx_ByKind : CalCXW P w K mg base C_ByKind 4 (sp_ByKind_init C_ByKind C_Classes C_TooMany)) (mg_ByKind : mg "ByKind" = some (.ref C_ByKind)) (js_Level : JOk K (JS (.inr C_Level) [(C_ByKind, true)])) (g_Level : GV K mg "Level" (.ref C_Level)) (z_isinstance : mg "isinstance" = none) (js_ByClass : JOk K (JS (.inr C_ByClass) [(C_ByKind, false)])) (g_ByClass : GV K mg "ByClass" (.ref C_ByClass)) (m_Classes___eq__ : CalMW P w K mg base C_Classes "__eq__" 1 (sp_Classes_eq C_Classes)) (nf_Classes : NF K C_Classes) (cl_ByKind : Cls K C_ByKind) (n_ByKind_classes : NoAttr K C_ByKind "classes") (mo_Classes : PySem.W.mroIn K C_Classes (.type "object") = some true) (ne_Classes : PySem.W.findIn K (.ref C_Classes) "__ne__" = some (some (.builtin "object.__ne__"))) (ki_ByKind_KIND : KonD K C_ByKind "KIND" (.str "kind")) (kc_ByKind_KIND : CvlD K C_ByKind "KIND" (.str "kind")) (kc_Level_KIND : CvlD K C_Level "KIND" (.str "class")) (mg_Level : mg "Level" = some (.ref C_Level)) (c_l_seen : CalW P w K mg base "_law_seen" 4 (sp_l_seen C_ByKind C_Classes)) (c_l_kinds : CalW P w K mg base "_law_kinds" 1 sp_l_kinds) {f : Addr} {cdv : Value} {A : Around} {outer : List PySem.Env} {s : Shared} {H : Hp} {E : XK} (hr : RoomG 6 (A.deeper (envOfC "law" (defScope s_law) s.heap.objs.size f cdv))) :
    DSs (cxOf CX0 P w K mg base N_law "law" (defScope s_law) f cdv A outer s H E).nox (defBody s_law) (ri_law C_Barred C_ByClass C_ByKind C_Classes C_LeaveError C_Level C_NoClass C_TooMany) := by
  have hu := hr.hu
  have hgd := hr.g
  have nd := sc_law.nd
  exact (dss_cons (ds_set (i := 1) (de_call ⟨c_l_pen⟩ (hr.mono (by decide)) (da_cons (dv 0) da_nil)) nd)
  (dss_cons (ds_for (di_range z_range (da_cons de_int da_nil)) (dgt_one (i := 2) nd)
  (dss_cons (ds_set (i := 3) (de_call ⟨c_l_words⟩ (hr.mono (by decide)) (da_cons (dv 1) (da_cons de_int da_nil))) nd)
  (dss_cons (ds_set (i := 4) (de_call ⟨c_l_rows⟩ (hr.mono (by decide)) (da_cons (dv 1) (da_cons (de_slice (dv 3) do_none (do_some (de_call ⟨c_l_draw⟩ (hr.mono (by decide)) (da_cons (dv 1) (da_cons de_int da_nil))))) da_nil))) nd)
  (dss_cons (ds_if (dt_cmp (do_eq hu) (de_call ⟨c_l_draw⟩ (hr.mono (by decide)) (da_cons (dv 1) (da_cons de_int da_nil))) de_int)
  (dss_cons (ds_set (i := 5) (de_call ⟨c_l_rows⟩ (hr.mono (by decide)) (da_cons (dv 1) (da_cons (de_slice (dv 3) do_none (do_some (de_op do_add de_int (de_call ⟨c_l_draw⟩ (hr.mono (by decide)) (da_cons (dv 1) (da_cons de_int da_nil)))))) da_nil))) nd)
  (dss_one (ds_if (dt_not (dt_truth (de_call ⟨c_l_refused⟩ (hr.mono (by decide)) (da_cons (de_cmeth ⟨k_Classes_made⟩ (hr.mono (by decide)) mg_Classes (da_cons (dv 5) da_nil)) da_nil))))
  (dss_one (ds_ret de_bl))
  dss_nil)))
  dss_nil)
  (dss_cons (ds_set (i := 6) (de_cmeth ⟨k_Classes_made⟩ (hr.mono (by decide)) mg_Classes (da_cons (dv 4) da_nil)) nd)
  (dss_cons (ds_set (i := 7) (de_call ⟨c_l_above⟩ (hr.mono (by decide)) (da_cons (dv 4) da_nil)) nd)
  (dss_cons (ds_set (i := 8) (de_nox (dex_frz (dex_new ⟨mkx_ByKind⟩ (hr.mono (by decide)) takes0 mg_ByKind (da_cons (dv 6) da_nil)))) nd)
  (dss_cons (ds_if (DW.dt (dw_or (dt_not (dt_truth (de_fn (dc_isiO js_Level) z_isinstance (by decide +kernel) (da_cons (dv 8) (da_cons (de_gv g_Level) da_nil))))) (dw_or (dt_truth (de_fn (dc_isiO js_ByClass) z_isinstance (by decide +kernel) (da_cons (dv 8) (da_cons (de_gv g_ByClass) da_nil)))) (dw_or1 (dt_ownNe ⟨m_Classes___eq__⟩ nf_Classes mo_Classes ne_Classes (hr.mono (by decide)) (de_fld C_ByKind (dv 8) cl_ByKind n_ByKind_classes) (dv 6))))))
  (dss_one (ds_ret de_bl))
  dss_nil)
  (dss_cons (ds_if (DW.dt (dw_or (dt_cmp (do_ne hu) (de_con cl_ByKind ki_ByKind_KIND (dv 8)) de_str) (dw_or (dt_cmp (do_ne hu) (de_cval kc_ByKind_KIND mg_ByKind) de_str) (dw_or1 (dt_cmp (do_ne hu) (de_cval kc_Level_KIND mg_Level) de_str)))))
  (dss_one (ds_ret de_bl))
  dss_nil)
  (dss_one (ds_if (dt_not (dt_truth (de_call ⟨c_l_seen⟩ (hr.mono (by decide)) (da_cons (dv 1) (da_cons (dv 8) (da_cons (dv 7) (da_cons (de_call ⟨c_l_kinds⟩ (hr.mono (by decide)) (da_cons (dv 7) da_nil)) (da_cons (dv 3) da_nil))))))))
  (dss_one (ds_ret de_bl))
  dss_nil)))))))))) rfl PassesOwn.never)
  (dss_one (ds_ret de_bl))))
theorem f_law {P : Program} {w : World} {K : PySem.W.Frag} {mg : Str → Option Value} {base : Heap} {C_Barred : Addr} {C_ByClass : Addr} {C_ByKind : Addr} {C_Classes : Addr} {C_LeaveError : Addr} {C_Level : Addr} {C_NoClass : Addr} {C_TooMany : Addr} (c_l_pen : CalW P w K mg base "_law_pen" 1 sp_l_pen) (z_range : mg "range" = none) (c_l_words : CalW P w K mg base "_law_words" 3 sp_l_words) (c_l_rows : CalW P w K mg base "_law_rows" 3 sp_l_rows) (c_l_draw : CalW P w K mg base "_law_draw" 1 sp_l_draw) (c_l_refused : CalW P w K mg base "_law_refused" 6 (sp_l_refused C_Barred C_ByKind C_Classes C_LeaveError C_NoClass C_TooMany)) (k_Classes_made : CalKW P w K mg base C_Classes "made" 6 (sp_Classes_made C_Classes)) (mg_Classes : mg "Classes" = some (.ref C_Classes)) (c_l_above : CalW P w K mg base "_law_above" 1 sp_l_above) (mkx_ByKind : CalCXW P w K mg base C_ByKind 4 (sp_ByKind_init C_ByKind C_Classes C_TooMany)) (mg_ByKind : mg "ByKind" = some (.ref C_ByKind)) (js_Level : JOk K (JS (.inr C_Level) [(C_ByKind, true)])) (g_Level : GV K mg "Level" (.ref C_Level)) (z_isinstance : mg "isinstance" = none) (js_ByClass : JOk K (JS (.inr C_ByClass) [(C_ByKind, false)])) (g_ByClass : GV K mg "ByClass" (.ref C_ByClass)) (m_Classes___eq__ : CalMW P w K mg base C_Classes "__eq__" 1 (sp_Classes_eq C_Classes)) (nf_Classes : NF K C_Classes) (cl_ByKind : Cls K C_ByKind) (n_ByKind_classes : NoAttr K C_ByKind "classes") (mo_Classes : PySem.W.mroIn K C_Classes (.type "object") = some true) (ne_Classes : PySem.W.findIn K (.ref C_Classes) "__ne__" = some (some (.builtin "object.__ne__"))) (ki_ByKind_KIND : KonD K C_ByKind "KIND" (.str "kind")) (kc_ByKind_KIND : CvlD K C_ByKind "KIND" (.str "kind")) (kc_Level_KIND : CvlD K C_Level "KIND" (.str "class")) (mg_Level : mg "Level" = some (.ref C_Level)) (c_l_seen : CalW P w K mg base "_law_seen" 4 (sp_l_seen C_ByKind C_Classes)) (c_l_kinds : CalW P w K mg base "_law_kinds" 1 sp_l_kinds) {f : Addr} {fd : FuncData} (F : Fun K "law" "law" s_law f fd) : FnG P w K mg base CX0 7 f (liftSp K (sp_law C_Barred C_ByClass C_ByKind C_Classes C_LeaveError C_Level C_NoClass C_TooMany)) :=
  FnG.imp (sp := liftSp K (spOf0 1 9 (r_law C_Barred C_ByClass C_ByKind C_Classes C_LeaveError C_Level C_NoClass C_TooMany))) (fn_mk F sc_law (F.binds (ps := ["_law_script"]) fun _ _ _ _ _ _ us hl => match us, hl with | [_], _ => rfl) (fun ds m R h => h.1) (fun cdv A outer s H E hr => b_law c_l_pen z_range c_l_words c_l_rows c_l_draw c_l_refused k_Classes_made mg_Classes c_l_above mkx_ByKind mg_ByKind js_Level g_Level z_isinstance js_ByClass g_ByClass m_Classes___eq__ nf_Classes cl_ByKind n_ByKind_classes mo_Classes ne_Classes ki_ByKind_KIND kc_ByKind_KIND kc_Level_KIND mg_Level c_l_seen c_l_kinds hr) fun ds m R h => h.2) lift_drop
end K58
namespace K58
open PySem PySem.Spec PyProof.Rows DL
def PenD (l : D) (a : Int) : Prop := ∃ (cells : List Int) (at_ rest : Int), l = .lst [.lst (cells.map .int), .int at_, .int rest] ∧ 0 ≤ at_ ∧ at_ ≤ a ∧ 0 ≤ rest
theorem bnd1 {c at_ a : Int} (h1 : 0 ≤ at_) (h2 : at_ ≤ a) (ha : a < 1048576) : (c % 2147483587 + 70207 * at_ + 811).natAbs < 18446744073709551616 := by
  have := Int.emod_nonneg c (show (2147483587 : Int) ≠ 0 by decide)
  have := Int.emod_lt_of_pos c (show (0 : Int) < 2147483587 by decide)
  omega
theorem bnd2 {q at_ a : Int} (h1 : 0 ≤ at_) (h2 : at_ ≤ a) (ha : a < 1048576) (hq : 0 ≤ q) (hq2 : q < 2147483629) : (q * (2 * at_ + 33) + 50411 * at_ * at_ + 11).natAbs < 18446744073709551616 := by
  have a1 : q * (2 * at_ + 33) ≤ 2147483629 * 2098000 := Int.mul_le_mul (by omega) (by omega) (by omega) (by omega)
  have a2 : 50411 * at_ * at_ ≤ (50411 * 1048576) * 1048576 := Int.mul_le_mul (by omega) (by omega) h1 (by omega)
  have a3 : 0 ≤ q * (2 * at_ + 33) := Int.mul_nonneg hq (by omega)
  have a4 : 0 ≤ 50411 * at_ * at_ := Int.mul_nonneg (by omega) h1
  omega
theorem draw_tail {m : M} {a at_ n c : Int} {e0 e2 e5 : Option D} {Q : DK} (h1 : 0 ≤ at_) (h2 : at_ ≤ a) (ha : a < 1048576) (hn : 0 < n) (hn2 : n < 1073741824)
    (k : ∀ v, 0 ≤ v → v < n → Q (.int v) m) : r_l_draw_10 [e0, some (.int n), e2, some (.int at_), some (.int c), e5, none] m { nx := fun _ m => Q .non m, rt := Q } := by
  simp [r_l_draw_10, tSq, DL.tIfS, tBinT, tBin, tV, tK, DL.tSet, tRt, tRtN, tAs, gSb, tFn, tAC, tA0, tDr, tApp, tExt, tPopA, tLstD, tTupD, tLstM, tCl, tMt, tPr, tNx, tSlD, tON, tOS, tIfD, DL.tAndT, DL.tOrT, DL.tNotT, tTru, tChainT, tNeg, tListM, List.map_cons, List.map_nil, List.length_cons, List.length_nil, List.replicate, List.cons_append, List.nil_append, List.getElem?_cons_zero, List.getElem?_cons_succ, List.set_cons_zero, List.set_cons_succ, Option.some.injEq, exists_eq_left', exists_eq_left, D.bl.injEq, D.int.injEq, D.str.injEq, D.lst.injEq, D.ref.injEq, if_true, if_false, Bool.true_eq_false, Bool.false_eq_true, startD, bodyEnds, Nat.reduceSub, Nat.reduceAdd, true_and, and_true, d1, dInt, look, dMod, d2I, dMul, dAdd, dPow, bnd1 (c := c) h1 h2 ha]
  have q1 := Int.emod_nonneg ((c % 2147483587 + 70207 * at_ + 811) ^ 5) (show (2147483629 : Int) ≠ 0 by decide)
  have q2 := Int.emod_lt_of_pos ((c % 2147483587 + 70207 * at_ + 811) ^ 5) (show (0 : Int) < 2147483629 by decide)
  generalize (c % 2147483587 + 70207 * at_ + 811) ^ 5 % 2147483629 = q at *
  have z1 : q.natAbs < 18446744073709551616 := by omega
  have z2 : at_.natAbs < 18446744073709551616 := by omega
  simp [r_l_draw_9, tSq, DL.tIfS, tBinT, tBin, tV, tK, DL.tSet, tRt, tRtN, tAs, gSb, tFn, tAC, tA0, tDr, tApp, tExt, tPopA, tLstD, tTupD, tLstM, tCl, tMt, tPr, tNx, tSlD, tON, tOS, tIfD, DL.tAndT, DL.tOrT, DL.tNotT, tTru, tChainT, tNeg, tListM, List.map_cons, List.map_nil, List.length_cons, List.length_nil, List.replicate, List.cons_append, List.nil_append, List.getElem?_cons_zero, List.getElem?_cons_succ, List.set_cons_zero, List.set_cons_succ, Option.some.injEq, exists_eq_left', exists_eq_left, D.bl.injEq, D.int.injEq, D.str.injEq, D.lst.injEq, D.ref.injEq, if_true, if_false, Bool.true_eq_false, Bool.false_eq_true, startD, bodyEnds, Nat.reduceSub, Nat.reduceAdd, true_and, and_true, d1, dInt, look, dMod, d2I, dMul, dAdd, dPow, bnd2 h1 h2 ha q1 q2, z1, z2]
  simp [r_l_draw_8, tSq, DL.tIfS, tBinT, tBin, tV, tK, DL.tSet, tRt, tRtN, tAs, gSb, tFn, tAC, tA0, tDr, tApp, tExt, tPopA, tLstD, tTupD, tLstM, tCl, tMt, tPr, tNx, tSlD, tON, tOS, tIfD, DL.tAndT, DL.tOrT, DL.tNotT, tTru, tChainT, tNeg, tListM, List.map_cons, List.map_nil, List.length_cons, List.length_nil, List.replicate, List.cons_append, List.nil_append, List.getElem?_cons_zero, List.getElem?_cons_succ, List.set_cons_zero, List.set_cons_succ, Option.some.injEq, exists_eq_left', exists_eq_left, D.bl.injEq, D.int.injEq, D.str.injEq, D.lst.injEq, D.ref.injEq, if_true, if_false, Bool.true_eq_false, Bool.false_eq_true, startD, bodyEnds, Nat.reduceSub, Nat.reduceAdd, true_and, and_true, d1, dInt, look, dMod, d2I, dDiv, hn]
  exact k _ (Int.emod_nonneg _ (by omega)) (Int.emod_lt_of_pos _ hn)
theorem draw_r {m : M} {p : Addr} {l : D} {a n : Int} {Q : DK} (hp : m p = some l) (h : PenD l a) (ha : a < 1048576) (hn : 0 < n) (hn2 : n < 1073741824)
    (k : ∀ v l', 0 ≤ v → v < n → PenD l' (a + 1) → Q (.int v) (updM m p l')) : r_l_draw (startD 7 [.ref p, .int n]) m (bodyEnds Q) := by
  obtain ⟨cells, at_, rest, rfl, h1, h2, h3⟩ := h
  show r_l_draw_16 _ _ _
  simp [r_l_draw_16, tSq, DL.tIfS, tBinT, tBin, tV, tK, DL.tSet, tRt, tRtN, tAs, gSb, tFn, tAC, tA0, tDr, tApp, tExt, tPopA, tLstD, tTupD, tLstM, tCl, tMt, tPr, tNx, tSlD, tON, tOS, tIfD, DL.tAndT, DL.tOrT, DL.tNotT, tTru, tChainT, tNeg, tListM, List.map_cons, List.map_nil, List.length_cons, List.length_nil, List.replicate, List.cons_append, List.nil_append, List.getElem?_cons_zero, List.getElem?_cons_succ, List.set_cons_zero, List.set_cons_succ, Option.some.injEq, exists_eq_left', exists_eq_left, D.bl.injEq, D.int.injEq, D.str.injEq, D.lst.injEq, D.ref.injEq, if_true, if_false, Bool.true_eq_false, Bool.false_eq_true, startD, bodyEnds, Nat.reduceSub, Nat.reduceAdd, true_and, and_true, dIx, look, hp, L2.atI, L2.ixN, dGt, d2IB, r_l_draw_3, r_l_draw_2, r_l_draw_1, d1, dInt, dMod, dDiv, d2I, hn, hn2, dStore]
  by_cases hr : 0 < rest
  · refine .inr ⟨hr, ?_⟩
    exact k _ _ (Int.emod_nonneg _ (by omega)) (Int.emod_lt_of_pos _ hn) ⟨cells, at_, rest / n, rfl, h1, by omega, Int.ediv_nonneg h3 (by omega)⟩
  · refine .inl ⟨by omega, ?_⟩
    simp [r_l_draw_15, r_l_draw_14,  tSq, DL.tIfS, tBinT, tBin, tV, tK, DL.tSet, tRt, tRtN, tAs, gSb, tFn, tAC, tA0, tDr, tApp, tExt, tPopA, tLstD, tTupD, tLstM, tCl, tMt, tPr, tNx, tSlD, tON, tOS, tIfD, DL.tAndT, DL.tOrT, DL.tNotT, tTru, tChainT, tNeg, tListM, List.map_cons, List.map_nil, List.length_cons, List.length_nil, List.replicate, List.cons_append, List.nil_append, List.getElem?_cons_zero, List.getElem?_cons_succ, List.set_cons_zero, List.set_cons_succ, Option.some.injEq, exists_eq_left', exists_eq_left, D.bl.injEq, D.int.injEq, D.str.injEq, D.lst.injEq, D.ref.injEq, if_true, if_false, Bool.true_eq_false, Bool.false_eq_true, startD, bodyEnds, Nat.reduceSub, Nat.reduceAdd, true_and, and_true, dIx, look, hp, L2.atI, L2.ixN, d1, dInt, dMod, dDiv, d2I, dStore, dAdd, r_l_draw_13, dMul]
    simp [r_l_draw_12, tSq, DL.tIfS, tBinT, tBin, tV, tK, DL.tSet, tRt, tRtN, tAs, gSb, tFn, tAC, tA0, tDr, tApp, tExt, tPopA, tLstD, tTupD, tLstM, tCl, tMt, tPr, tNx, tSlD, tON, tOS, tIfD, DL.tAndT, DL.tOrT, DL.tNotT, tTru, tChainT, tNeg, tListM, List.map_cons, List.map_nil, List.length_cons, List.length_nil, List.replicate, List.cons_append, List.nil_append, List.getElem?_cons_zero, List.getElem?_cons_succ, List.set_cons_zero, List.set_cons_succ, Option.some.injEq, exists_eq_left', exists_eq_left, D.bl.injEq, D.int.injEq, D.str.injEq, D.lst.injEq, D.ref.injEq, if_true, if_false, Bool.true_eq_false, Bool.false_eq_true, startD, bodyEnds, Nat.reduceSub, Nat.reduceAdd, true_and, and_true, dIx, look, updM, L2.atI, L2.ixN, dNe, dEqB_nil (datL_ints 59 cells)]
    have pd : ∀ r, 0 ≤ r → PenD (.lst [.lst (cells.map .int), .int (at_ + 1), .int r]) (a + 1) := fun r hr => ⟨cells, at_ + 1, r, rfl, by omega, by omega, hr⟩
    have fin : ∀ c : Int, r_l_draw_11 [some (.ref p), some (.int n), none, some (.int at_), some (.int c), none, none] (updM m p (.lst [.lst (cells.map .int), .int (at_ + 1), .int rest])) { nx := fun _ m => Q .non m, rt := Q } := by
      intro c
      simp [r_l_draw_11, tSq, DL.tIfS, tBinT, tBin, tV, tK, DL.tSet, tRt, tRtN, tAs, gSb, tFn, tAC, tA0, tDr, tApp, tExt, tPopA, tLstD, tTupD, tLstM, tCl, tMt, tPr, tNx, tSlD, tON, tOS, tIfD, DL.tAndT, DL.tOrT, DL.tNotT, tTru, tChainT, tNeg, tListM, List.map_cons, List.map_nil, List.length_cons, List.length_nil, List.replicate, List.cons_append, List.nil_append, List.getElem?_cons_zero, List.getElem?_cons_succ, List.set_cons_zero, List.set_cons_succ, Option.some.injEq, exists_eq_left', exists_eq_left, D.bl.injEq, D.int.injEq, D.str.injEq, D.lst.injEq, D.ref.injEq, if_true, if_false, Bool.true_eq_false, Bool.false_eq_true, startD, bodyEnds, Nat.reduceSub, Nat.reduceAdd, true_and, and_true, dIx, look, updM_same, L2.atI, L2.ixN, d1, dLen, dLt, d2IB, dAbs, dPow, d2I, dGe]
      have go := draw_tail (m := updM m p (.lst [.lst (cells.map .int), .int (at_ + 1), .int rest])) (c := c) (e0 := some (.ref p)) (e2 := none) (e5 := none) (Q := Q) h1 h2 ha hn hn2 fun v b1 b2 => k v _ b1 b2 (pd rest h3)
      by_cases g1 : at_ < cells.length
      · refine .inr ⟨g1, ?_⟩
        by_cases g2 : (if c < 0 then -c else c) < 1000000000000000000
        · exact .inl ⟨g2, go⟩
        · refine .inr ⟨by omega, ?_⟩
          simp [r_l_draw_7, r_l_draw_6, r_l_draw_5, tSq, DL.tIfS, tBinT, tBin, tV, tK, DL.tSet, tRt, tRtN, tAs, gSb, tFn, tAC, tA0, tDr, tApp, tExt, tPopA, tLstD, tTupD, tLstM, tCl, tMt, tPr, tNx, tSlD, tON, tOS, tIfD, DL.tAndT, DL.tOrT, DL.tNotT, tTru, tChainT, tNeg, tListM, List.map_cons, List.map_nil, List.length_cons, List.length_nil, List.replicate, List.cons_append, List.nil_append, List.getElem?_cons_zero, List.getElem?_cons_succ, List.set_cons_zero, List.set_cons_succ, Option.some.injEq, exists_eq_left', exists_eq_left, D.bl.injEq, D.int.injEq, D.str.injEq, D.lst.injEq, D.ref.injEq, if_true, if_false, Bool.true_eq_false, Bool.false_eq_true, startD, bodyEnds, Nat.reduceSub, Nat.reduceAdd, true_and, and_true, dIx, look, updM_same, updM_over, L2.atI, L2.ixN, d1, dInt, dLt, d2IB, dAbs, dPow, d2I, dMul, dSub, dAdd, dDiv, dMod, dStore, hn, hn2]
          exact k _ _ (Int.emod_nonneg _ (by omega)) (Int.emod_lt_of_pos _ hn) (pd _ (Int.ediv_nonneg (by split <;> omega) (by omega)))
      · exact .inl ⟨by omega, go⟩
    by_cases hc : cells = []
    · exact .inl ⟨hc, fin _⟩
    · refine .inr ⟨hc, ?_⟩
      have hl : 0 < cells.length := List.length_pos_iff.mpr hc
      have i0 := Int.emod_nonneg at_ (show (cells.length : Int) ≠ 0 by omega)
      have i1 := Int.emod_lt_of_pos at_ (show (0 : Int) < cells.length by omega)
      have i2 : (at_ % (cells.length : Int)).toNat < cells.length := by omega
      simp [r_l_draw_4, tSq, DL.tIfS, tBinT, tBin, tV, tK, DL.tSet, tRt, tRtN, tAs, gSb, tFn, tAC, tA0, tDr, tApp, tExt, tPopA, tLstD, tTupD, tLstM, tCl, tMt, tPr, tNx, tSlD, tON, tOS, tIfD, DL.tAndT, DL.tOrT, DL.tNotT, tTru, tChainT, tNeg, tListM, List.map_cons, List.map_nil, List.length_cons, List.length_nil, List.replicate, List.cons_append, List.nil_append, List.getElem?_cons_zero, List.getElem?_cons_succ, List.set_cons_zero, List.set_cons_succ, Option.some.injEq, exists_eq_left', exists_eq_left, D.bl.injEq, D.int.injEq, D.str.injEq, D.lst.injEq, D.ref.injEq, if_true, if_false, Bool.true_eq_false, Bool.false_eq_true, startD, bodyEnds, Nat.reduceSub, Nat.reduceAdd, true_and, and_true, dIx, look, updM_same, L2.atI, L2.ixN, d1, dInt, dLen, dMod, d2I, hl, i0, i1, i2]
      exact fin _
theorem draw_ok {m : M} {p : Addr} {l : D} {a n : Int} {Q : DK} (hp : m p = some l) (h : PenD l a) (ha : a < 1048576) (hn : 0 < n) (hn2 : n < 1073741824)
    (k : ∀ v l', 0 ≤ v → v < n → PenD l' (a + 1) → Q (.int v) (updM m p l')) : sp_l_draw [.ref p, .int n] m Q :=
  ⟨rfl, draw_r hp h ha hn hn2 fun v l' h1 h2 h3 => DL.dropR.self (k v l' h1 h2 h3)⟩
theorem PenD.mono {l : D} {a b : Int} (h : PenD l a) (hb : a ≤ b) : PenD l b := by
  obtain ⟨c, t, r, e, h1, h2, h3⟩ := h
  exact ⟨c, t, r, e, h1, by omega, h3⟩
end K58
namespace K58
open PySem PySem.Spec PyProof.Rows DL
open SX (S S_len S_cat S_inj S_tl)
theorem pen_ok {m : M} {ns : List Int} {Q : DK} (k : ∀ p l, m p = none → PenD l 0 → Q (.ref p) (updM m p l)) : sp_l_pen [.scr ns] m Q := by
  refine ⟨rfl, ?_⟩
  show r_l_pen_1 _ _ _
  simp [r_l_pen_1, tSq, DL.tIfS, tBinT, tBin, tV, tK, DL.tSet, tRt, tRtN, tAs, gSb, tFn, tAC, tA0, tDr, tApp, tExt, tPopA, tLstD, tTupD, tLstM, tCl, tMt, tPr, tNx, tSlD, tON, tOS, tIfD, DL.tAndT, DL.tOrT, DL.tNotT, tTru, tChainT, tNeg, tListM, List.map_cons, List.map_nil, List.length_cons, List.length_nil, List.replicate, List.cons_append, List.nil_append, List.getElem?_cons_zero, List.getElem?_cons_succ, List.set_cons_zero, List.set_cons_succ, Option.some.injEq, exists_eq_left', exists_eq_left, D.bl.injEq, D.int.injEq, D.str.injEq, D.lst.injEq, D.ref.injEq, if_true, if_false, Bool.true_eq_false, Bool.false_eq_true, startD, bodyEnds, Nat.reduceSub, Nat.reduceAdd, true_and, and_true, dSl, look, d1, dList]
  refine ⟨by decide, fun p hp => dropR.self (k p _ hp ⟨_, 0, 0, rfl, by decide, by decide, by decide⟩)⟩
theorem pick_lst {m : M} {p : Addr} {l : D} {a : Int} {x : D} {ds : List D} {Q : DK} (hp : m p = some l) (h : PenD l a) (ha : a < 1048576) (hx : look m x = .lst ds) (hx2 : ∀ l', look (updM m p l') x = .lst ds) (hne : ds ≠ []) (hl : ds.length < 1000000)
    (k : ∀ d l', d ∈ ds → PenD l' (a + 1) → Q d (updM m p l')) : sp_l_pick [.ref p, x] m Q := by
  have hpos : 0 < ds.length := List.length_pos_iff.mpr hne
  refine ⟨rfl, ?_⟩
  show r_l_pick_1 _ _ _
  simp only [r_l_pick_1, tSq, DL.tIfS, tBinT, tBin, tV, tK, DL.tSet, tRt, tRtN, tAs, gSb, tFn, tAC, tA0, tDr, tApp, tExt, tPopA, tLstD, tTupD, tLstM, tCl, tMt, tPr, tNx, tSlD, tON, tOS, tIfD, DL.tAndT, DL.tOrT, DL.tNotT, tTru, tChainT, tNeg, tListM, List.map_cons, List.map_nil, List.length_cons, List.length_nil, List.replicate, List.cons_append, List.nil_append, List.getElem?_cons_zero, List.getElem?_cons_succ, List.set_cons_zero, List.set_cons_succ, Option.some.injEq, exists_eq_left', exists_eq_left, D.bl.injEq, D.int.injEq, D.str.injEq, D.lst.injEq, D.ref.injEq, if_true, if_false, Bool.true_eq_false, Bool.false_eq_true, startD, bodyEnds, Nat.reduceSub, Nat.reduceAdd, true_and, and_true]
  refine ⟨.int ds.length, by simp only [d1, hx, dLen], ?_⟩
  refine draw_ok hp h ha (by omega) (by omega) fun v l' h1 h2 h3 => ?_
  obtain ⟨d, e, hd⟩ := mem_getElem? h1 h2
  exact ⟨d, dIx_lst (hx2 l') rfl (atI_pos h1 e), dropR.self (k d l' hd h3)⟩
theorem pick_S {m : M} {p : Addr} {l : D} {a : Int} {cs : List Nat} {Q : DK} (hp : m p = some l) (h : PenD l a) (ha : a < 1048576) (hne : cs ≠ []) (hl : cs.length < 1000)
    (k : ∀ c l', c ∈ cs → PenD l' (a + 1) → Q (.str (S [c])) (updM m p l')) : sp_l_pick [.ref p, .str (S cs)] m Q := by
  have hpos : 0 < cs.length := List.length_pos_iff.mpr hne
  have hz : cs.length ≤ sizeLine := Nat.le_trans (Nat.le_of_lt hl) (by decide)
  refine ⟨rfl, ?_⟩
  show r_l_pick_1 _ _ _
  simp only [r_l_pick_1, tSq, DL.tIfS, tBinT, tBin, tV, tK, DL.tSet, tRt, tRtN, tAs, gSb, tFn, tAC, tA0, tDr, tApp, tExt, tPopA, tLstD, tTupD, tLstM, tCl, tMt, tPr, tNx, tSlD, tON, tOS, tIfD, DL.tAndT, DL.tOrT, DL.tNotT, tTru, tChainT, tNeg, tListM, List.map_cons, List.map_nil, List.length_cons, List.length_nil, List.replicate, List.cons_append, List.nil_append, List.getElem?_cons_zero, List.getElem?_cons_succ, List.set_cons_zero, List.set_cons_succ, Option.some.injEq, exists_eq_left', exists_eq_left, D.bl.injEq, D.int.injEq, D.str.injEq, D.lst.injEq, D.ref.injEq, if_true, if_false, Bool.true_eq_false, Bool.false_eq_true, startD, bodyEnds, Nat.reduceSub, Nat.reduceAdd, true_and, and_true]
  refine ⟨.int cs.length, by simp only [d1, look, dLen, S_len, if_pos hz], ?_⟩
  refine draw_ok hp h ha (by omega) (by omega) fun v l' h1 h2 h3 => ?_
  obtain ⟨c, e, hc⟩ := mem_getElem? h1 h2
  exact ⟨_, dIx_S rfl rfl hz (atI_pos h1 e), dropR.self (k c l' hc h3)⟩
theorem pick_strs {m : M} {p : Addr} {l : D} {a : Int} {xs : List Str} {Q : DK} (hp : m p = some l) (h : PenD l a) (ha : a < 1048576) (hne : xs ≠ []) (hl : xs.length < 1000)
    (k : ∀ x l', x ∈ xs → PenD l' (a + 1) → Q (.str x) (updM m p l')) : sp_l_pick [.ref p, .lst (xs.map .str)] m Q :=
  pick_lst (ds := xs.map .str) hp h ha rfl (fun _ => rfl) (fun e => hne (List.map_eq_nil_iff.mp e)) (by rw [List.length_map]; omega) fun d l' hd h' => by
    obtain ⟨x, hx, rfl⟩ := List.mem_map.mp hd
    exact k x l' hx h'
abbrev Row := Str × List Str
def rowD (r : Row) : D := .tup (.str r.1 :: r.2.map .str)
def Word (w : Str) : Prop := 1 ≤ w.length ∧ w.length ≤ 8 ∧ w ∉ c_RESERVED ∧ ∀ c ∈ w.cps.toList, c ∈ (Str.ofString "abcdefghijklmnopqrstuvwxyz").cps.toList
def RowOk (known : List Str) (r : Row) : Prop := r.1 ∉ known ∧ Word r.1 ∧ r.2 ≠ [] ∧ r.2.Nodup ∧ ∀ b ∈ r.2, b ∈ known
def knownOf (rows : List Row) : List Str := ([("error" : Str), ("vacant" : Str)] : List Str) ++ rows.map (·.1)
def RowsOk (rows : List Row) : Prop := ∀ (i : Nat) (r : Row), rows[i]? = some r → RowOk (knownOf (rows.take i)) r
theorem RowsOk.nil : RowsOk [] := fun i r h => by simp at h
theorem RowsOk.snoc {rows : List Row} {r : Row} (h : RowsOk rows) (h1 : RowOk (knownOf rows) r) : RowsOk (rows ++ [r]) := fun i x hx => by
  rcases Nat.lt_trichotomy i rows.length with z | z | z
  · rw [List.getElem?_append_left z] at hx
    rw [List.take_append_of_le_length (Nat.le_of_lt z)]
    exact h i x hx
  · subst z
    rw [List.getElem?_append_right (Nat.le_refl _), Nat.sub_self] at hx
    cases hx
    rw [List.take_left]
    exact h1
  · rw [List.getElem?_eq_none (by rw [List.length_append]; simp; omega)] at hx
    cases hx
theorem knownOf_snoc (rows : List Row) (r : Row) : knownOf (rows ++ [r]) = knownOf rows ++ [r.1] := by unfold knownOf; simp
theorem knownOf_len (rows : List Row) : (knownOf rows).length = rows.length + 2 := by unfold knownOf; simp
def Lt : List Nat := [97, 98, 99, 100, 101, 102, 103, 104, 105, 106, 107, 108, 109, 110, 111, 112, 113, 114, 115, 116, 117, 118, 119, 120, 121, 122]
theorem lt_eq : Str.ofString "abcdefghijklmnopqrstuvwxyz" = S Lt := by decide +kernel
theorem lt_nd : Lt.Nodup := by decide
theorem lt_len : Lt.length = 26 := rfl
theorem s_nil : Str.ofString "" = S [] := by decide +kernel
theorem small {n : Nat} (h : n ≤ 1000) : n ≤ sizeLine := Nat.le_trans h (by decide)
theorem smallLt {n : Nat} (h : n ≤ 1000) : n < sizeLine := Nat.lt_of_le_of_lt h (by decide)
theorem strs_one (cs : List Nat) : strsOf (cs.map fun c => D.str (S [c])) = some (cs.map fun c => S [c]) := by
  have : (cs.map fun c => D.str (S [c])) = (cs.map fun c => S [c]).map D.str := by rw [List.map_map]; rfl
  rw [this, strsOf_map]
theorem sum_one : ∀ cs : List Nat, ((cs.map fun c => S [c]).map (·.length)).sum = cs.length
  | [] => rfl
  | c :: cs => by
    simp only [List.map_cons, List.sum_cons, List.length_cons, sum_one cs]
    show 1 + _ = _
    omega
def bar : List Str := ([("pass" : Str), ("raise" : Str), ("from" : Str), ("none" : Str), ("again" : Str), ("return" : Str), ("returns" : Str), ("break" : Str), ("call" : Str), ("handling" : Str), ("else" : Str)] ++ [("either" : Str), ("or" : Str), ("loop" : Str), ("try" : Str), ("except" : Str), ("as" : Str), ("finally" : Str), ("with" : Str), ("quiet" : Str), ("class" : Str), ("def" : Str)]) ++ [("error" : Str), ("vacant" : Str)]
structure Wd (w : Str) (cs : List Nat) : Prop where
  e : w = S cs
  l1 : 1 ≤ cs.length
  l8 : cs.length ≤ 8
  lt : ∀ c ∈ cs, c ∈ Lt
def WordK (w : Str) : Prop := (∃ cs, Wd w cs) ∧ w ∉ bar
structure WordsOk (n : Nat) (ws : List Str) : Prop where
  len : ws.length = n
  nd : ws.Nodup
  wd : ∀ w ∈ ws, WordK w
theorem nd_len : ∀ (l k : List Str), l.Nodup → (∀ x ∈ l, x ∈ k) → l.length ≤ k.length
  | [], k, _, _ => Nat.zero_le _
  | a :: l, k, h, s => by
    rw [List.nodup_cons] at h
    have ha := s a List.mem_cons_self
    have := nd_len l (k.erase a) h.2 fun x hx => (List.mem_erase_of_ne (fun e => h.1 (by rw [← e]; exact hx))).mpr (s x (List.mem_cons_of_mem _ hx))
    rw [List.length_erase_of_mem ha] at this
    have := List.length_pos_of_mem ha
    rw [List.length_cons]; omega
def cand (cs : List Nat) : List Str := S cs :: Lt.map fun c => S (cs.take 7 ++ [c])
def tailC (cs : List Nat) : List Str := Lt.map fun c => S (cs.take 7 ++ [c])
theorem bar_last : (bar.map fun b => b.cps.toList.dropLast).Nodup := by decide +kernel
theorem one_of {α β : Type} [DecidableEq β] (f : α → β) (b : β) : ∀ xs : List α, (xs.map f).Nodup → (xs.filter fun x => decide (f x = b)).length ≤ 1
  | [], _ => by simp
  | x :: xs, h => by
    rw [List.map_cons, List.nodup_cons] at h
    have ih := one_of f b xs h.2
    by_cases e : f x = b
    · rw [List.filter_cons_of_pos (by simpa using e)]
      have : xs.filter (fun x => decide (f x = b)) = [] := by
        rw [List.filter_eq_nil_iff]
        intro y hy hb
        have hb := of_decide_eq_true hb
        exact h.1 (List.mem_map.mpr ⟨y, hy, hb.trans e.symm⟩)
      rw [this]; simp
    · rw [List.filter_cons_of_neg (by simpa using e)]
      exact ih
theorem some_good {cs : List Nat} {found : List Str} (h : found.length ≤ 8) : ∃ w ∈ cand cs, w ∉ found ∧ w ∉ bar := by
  refine Classical.byContradiction fun g => ?_
  have hall : ∀ w ∈ tailC cs, w ∈ found ++ bar.filter fun b => decide (b.cps.toList.dropLast = cs.take 7) := by
    intro w hw
    by_cases hf : w ∈ found
    · exact List.mem_append_left _ hf
    · have hb : w ∈ bar := Classical.byContradiction fun z => g ⟨w, List.mem_cons_of_mem _ hw, hf, z⟩
      refine List.mem_append_right _ (List.mem_filter.mpr ⟨hb, decide_eq_true ?_⟩)
      obtain ⟨c, _, rfl⟩ := List.mem_map.mp hw
      show (cs.take 7 ++ [c]).dropLast = cs.take 7
      rw [List.dropLast_concat]
  have hnd : (tailC cs).Nodup := by
    unfold tailC
    rw [List.nodup_iff_pairwise_ne, List.pairwise_map]
    refine lt_nd.imp fun {a b} hab e => hab ?_
    have := List.append_cancel_left (S_inj e)
    simpa using this
  have h1 := nd_len _ _ hnd hall
  have h2 := one_of (fun b : Str => b.cps.toList.dropLast) (cs.take 7) bar bar_last
  rw [List.length_append] at h1
  have h3 : (tailC cs).length = 26 := by unfold tailC; rw [List.length_map, lt_len]
  omega
theorem cand_wd {cs : List Nat} (h1 : 1 ≤ cs.length) (h8 : cs.length ≤ 8) (hl : ∀ c ∈ cs, c ∈ Lt) : ∀ w ∈ cand cs, ∃ ds, Wd w ds := by
  intro w hw
  rcases List.mem_cons.mp hw with rfl | hw
  · exact ⟨cs, rfl, h1, h8, hl⟩
  · obtain ⟨c, hc, rfl⟩ := List.mem_map.mp hw
    refine ⟨cs.take 7 ++ [c], rfl, by simp, by rw [List.length_append, List.length_take]; simp; omega, fun x hx => ?_⟩
    rcases List.mem_append.mp hx with hx | hx
    · exact hl x (List.mem_of_mem_take hx)
    · rw [List.mem_singleton] at hx; subst hx; exact hc
/-- one letter drawn -/
theorem letter_ok {m : M} {p : Addr} {l : D} {a : Int} {Q : DK} (hp : m p = some l) (h : PenD l a) (ha : a < 1048576) (k : ∀ c l', c ∈ Lt → PenD l' (a + 1) → Q (.str (S [c])) (updM m p l')) :
    sp_l_pick [.ref p, .str (S Lt)] m Q := pick_S hp h ha (by decide) (by rw [lt_len]; decide) k
def tRand (i : Nat) : DTE := tJoin (tK (.str "")) (tFrz (tLcM (iRg (tAC (tBin dAdd (tK (.int 1)) (tCl sp_l_draw (tAC (tV 0) (tAC (tK (.int 8)) tA0)))) tA0)) (.one i) tYe (tCl sp_l_pick (tAC (tV 0) (tAC (tV 2) tA0))) [i]))
theorem rand_ok {m : M} {p : Addr} {l : D} {a : Int} {env : DL.Env} {i : Nat} {Q : DK} (hp : m p = some l) (h : PenD l a) (ha : a + 20 < 1048576) (he : env[0]? = some (some (.ref p))) (e0 : ∀ d, ((wipeD env [i]).set i d)[0]? = some (some (.ref p))) (e2 : ∀ d, ((wipeD env [i]).set i d)[2]? = some (some (.str (S Lt))))
    (k : ∀ cs l', 1 ≤ cs.length → cs.length ≤ 8 → (∀ c ∈ cs, c ∈ Lt) → PenD l' (a + 9) → Q (.str (S cs)) (updM m p l')) : tRand i env m Q := by
  unfold tRand
  simp only [tSq, DL.tIfS, tBinT, tBin, tV, tK, DL.tSet, tRt, tRtN, tAs, gSb, tFn, tAC, tA0, tDr, tApp, tExt, tPopA, tLstD, tTupD, tLstM, tCl, tMt, tPr, tNx, tSlD, tON, tOS, tIfD, DL.tAndT, DL.tOrT, DL.tNotT, tTru, tChainT, tNeg, tListM, List.map_cons, List.map_nil, List.length_cons, List.length_nil, List.replicate, List.cons_append, List.nil_append, List.getElem?_cons_zero, List.getElem?_cons_succ, List.set_cons_zero, List.set_cons_succ, Option.some.injEq, exists_eq_left', exists_eq_left, D.bl.injEq, D.int.injEq, D.str.injEq, D.lst.injEq, D.ref.injEq, if_true, if_false, Bool.true_eq_false, Bool.false_eq_true, startD, bodyEnds, Nat.reduceSub, Nat.reduceAdd, true_and, and_true, tJoin, tFrz, tLcM, iRg]
  refine ⟨.ref p, he, ?_⟩
  refine draw_ok hp h (by omega) (by decide) (by decide) fun v l1 v1 v2 h1 => ?_
  obtain ⟨vn, rfl⟩ := Int.eq_ofNat_of_zero_le v1
  refine ⟨.int (1 + vn), by simp only [dAdd, look], ?_⟩
  refine ⟨1 + vn, rfl, by omega, by omega, fun r hr => ?_⟩
  have pr : p ≠ r := by rintro rfl; rw [updM_same] at hr; cases hr
  have hr0 : m r = none := by rw [updM_ne pr.symm] at hr; exact hr
  have tn : (1 + (vn : Int)).toNat = vn + 1 := by omega
  rw [tn]
  refine lcD_inv (fun j acc m' => ∃ l' cs, m' = updM (updM m p l') r (.lst acc) ∧ acc = cs.map (fun c => D.str (S [c])) ∧ (∀ c ∈ cs, c ∈ Lt) ∧ cs.length = j ∧ PenD l' (a + 1 + j)) ⟨l1, [], rfl, rfl, by simp, rfl, h1.mono (by omega)⟩ ?_ ?_
  · rintro j acc d m' N hd ⟨l', cs, rfl, rfl, hc, hcl, hl'⟩ hN
    have hj : j < vn + 1 := by
      have := List.getElem?_eq_some_iff.mp hd
      obtain ⟨z, _⟩ := this
      simpa [rngD] using z
    simp only [tgD, gN, tYe, tSq, DL.tIfS, tBinT, tBin, tV, tK, DL.tSet, tRt, tRtN, tAs, gSb, tFn, tAC, tA0, tDr, tApp, tExt, tPopA, tLstD, tTupD, tLstM, tCl, tMt, tPr, tNx, tSlD, tON, tOS, tIfD, DL.tAndT, DL.tOrT, DL.tNotT, tTru, tChainT, tNeg, tListM, List.map_cons, List.map_nil, List.length_cons, List.length_nil, List.replicate, List.cons_append, List.nil_append, List.getElem?_cons_zero, List.getElem?_cons_succ, List.set_cons_zero, List.set_cons_succ, Option.some.injEq, exists_eq_left', exists_eq_left, D.bl.injEq, D.int.injEq, D.str.injEq, D.lst.injEq, D.ref.injEq, if_true, if_false, Bool.true_eq_false, Bool.false_eq_true, startD, bodyEnds, Nat.reduceSub, Nat.reduceAdd, true_and, and_true]
    refine ⟨.ref p, e0 _, .str (S Lt), e2 _, ?_⟩
    refine letter_ok (l := l') (by rw [updM_ne pr, updM_same]) hl' (by omega) fun c l2 hcm h2 => ?_
    rw [updM_comm pr.symm, updM_over]
    refine ⟨_, updM_same, by rw [List.length_map]; exact smallLt (by omega), hN _ _ ⟨l2, cs ++ [c], by rw [updM_over], by rw [List.map_append]; rfl, ?_, by simp [hcl], h2.mono (by omega)⟩⟩
    intro x hx
    rcases List.mem_append.mp hx with hx | hx
    · exact hc x hx
    · rw [List.mem_singleton] at hx; subst hx; exact hcm
  · rintro acc m' ⟨l', cs, rfl, rfl, hc, hcl, hl'⟩
    have hz : (rngD 0 (vn + 1)).length = vn + 1 := by simp [rngD]
    rw [hz] at hcl hl'
    refine ⟨_, updM_same, _, _, rfl, strs_one cs, ?_, ?_⟩
    · rw [sum_one, s_nil]
      show _ + _ * 0 ≤ _
      have : cs.length ≤ 9 := by omega
      exact Nat.le_trans (by omega : cs.length + _ * 0 ≤ 100) (by decide)
    · have hr2 : updM m p l' r = none := by rw [updM_ne pr.symm]; exact hr0
      rw [delM_upd hr2, s_nil, DL.join_one]
      exact k cs l' (by omega) (by omega) hc (hl'.mono (by omega))
def addF (cs : List Nat) : D → Option D
  | .str x => some (.str (S (cs.take 7) ++ x))
  | _ => none
theorem addF_eq (cs : List Nat) : (Lt.map fun c => D.str (S [c])).filterMap (addF cs) = (tailC cs).map .str := by
  unfold tailC
  rw [List.filterMap_map, List.map_map, ← List.filterMap_eq_map]
  congr 1
  funext c
  show some (D.str (S (cs.take 7) ++ S [c])) = _
  rw [S_cat]; rfl
def goodF (found : List Str) : D → Option D
  | .str x => if x ∉ found ∧ x ∉ bar then some (.str x) else none
  | _ => none
theorem goodF_eq (found xs : List Str) : (xs.map D.str).filterMap (goodF found) = (xs.filter fun x => decide (x ∉ found ∧ x ∉ bar)).map .str := by
  induction xs with
  | nil => rfl
  | cons u us ih =>
    rw [List.map_cons, List.filterMap_cons, ih]
    by_cases h : u ∉ found ∧ u ∉ bar
    · have e : goodF found (.str u) = some (.str u) := if_pos h
      rw [e, List.filter_cons_of_pos (by simpa using h)]; rfl
    · have e : goodF found (.str u) = none := if_neg h
      rw [e, List.filter_cons_of_neg (by simpa using h)]
theorem words_turn {m : M} {q : Addr} {found : List Str} {cs : List Nat} {e0 e1 e4 e6 e7 e9 e10 e11 e12 : Option D} {E : DEnds} (hq : m q = some (.lst (found.map .str))) (hf : found.length ≤ 8) (h1 : 1 ≤ cs.length) (h8 : cs.length ≤ 8) (hl : ∀ c ∈ cs, c ∈ Lt)
    (k : ∀ w e9 e10 e11 e12, w ∉ found → WordK w → E.nx [e0, e1, some (.str (S Lt)), some (.lst (bar.map .str)), e4, some (.ref q), e6, e7, some (.str (S cs)), e9, e10, e11, e12] (updM m q (.lst ((found ++ [w]).map .str)))) :
    r_l_words_9 [e0, e1, some (.str (S Lt)), some (.lst (bar.map .str)), e4, some (.ref q), e6, e7, some (.str (S cs)), e9, e10, e11, e12] m E := by
  simp only [r_l_words_9, tSq, DL.tIfS, tBinT, tBin, tV, tK, DL.tSet, tRt, tRtN, tAs, gSb, tFn, tAC, tA0, tDr, tApp, tExt, tPopA, tLstD, tTupD, tLstM, tCl, tMt, tPr, tNx, tSlD, tON, tOS, tIfD, DL.tAndT, DL.tOrT, DL.tNotT, tTru, tChainT, tNeg, tListM, List.map_cons, List.map_nil, List.length_cons, List.length_nil, List.replicate, List.cons_append, List.nil_append, List.getElem?_cons_zero, List.getElem?_cons_succ, List.set_cons_zero, List.set_cons_succ, Option.some.injEq, exists_eq_left', exists_eq_left, D.bl.injEq, D.int.injEq, D.str.injEq, D.lst.injEq, D.ref.injEq, if_true, if_false, Bool.true_eq_false, Bool.false_eq_true, startD, bodyEnds, Nat.reduceSub, Nat.reduceAdd, true_and, and_true]
  refine ⟨8, rfl, .str (S cs), ?_, by decide, ?_⟩
  · simp only [dSl, look, S_len]
    rw [if_pos (small (by omega)), cutS_to (by decide)]
    show some (D.str (S (cs.take 8))) = _
    rw [List.take_of_length_le h8]
  refine lc_pure (ds := Lt.map fun c => D.str (S [c])) (addF cs) (fun R hR => ?_) (by rw [List.length_map, lt_len]; exact smallLt (by decide)) (fun d m1 R hd hm hy hno => ?_) ?_
  · simp only [iSeq, dSeq, tSq, DL.tIfS, tBinT, tBin, tV, tK, DL.tSet, tRt, tRtN, tAs, gSb, tFn, tAC, tA0, tDr, tApp, tExt, tPopA, tLstD, tTupD, tLstM, tCl, tMt, tPr, tNx, tSlD, tON, tOS, tIfD, DL.tAndT, DL.tOrT, DL.tNotT, tTru, tChainT, tNeg, tListM, List.map_cons, List.map_nil, List.length_cons, List.length_nil, List.replicate, List.cons_append, List.nil_append, List.getElem?_cons_zero, List.getElem?_cons_succ, List.set_cons_zero, List.set_cons_succ, Option.some.injEq, exists_eq_left', exists_eq_left, D.bl.injEq, D.int.injEq, D.str.injEq, D.lst.injEq, D.ref.injEq, if_true, if_false, Bool.true_eq_false, Bool.false_eq_true, startD, bodyEnds, Nat.reduceSub, Nat.reduceAdd, true_and, and_true]
    exact hR
  · obtain ⟨c, hc, rfl⟩ := List.mem_map.mp hd
    simp only [tgD, gN, wipeD, tYe, r_l_words_5, tSq, DL.tIfS, tBinT, tBin, tV, tK, DL.tSet, tRt, tRtN, tAs, gSb, tFn, tAC, tA0, tDr, tApp, tExt, tPopA, tLstD, tTupD, tLstM, tCl, tMt, tPr, tNx, tSlD, tON, tOS, tIfD, DL.tAndT, DL.tOrT, DL.tNotT, tTru, tChainT, tNeg, tListM, List.map_cons, List.map_nil, List.length_cons, List.length_nil, List.replicate, List.cons_append, List.nil_append, List.getElem?_cons_zero, List.getElem?_cons_succ, List.set_cons_zero, List.set_cons_succ, Option.some.injEq, exists_eq_left', exists_eq_left, D.bl.injEq, D.int.injEq, D.str.injEq, D.lst.injEq, D.ref.injEq, if_true, if_false, Bool.true_eq_false, Bool.false_eq_true, startD, bodyEnds, Nat.reduceSub, Nat.reduceAdd, true_and, and_true]
    refine ⟨7, rfl, .str (S (cs.take 7)), ?_, .str (S (cs.take 7) ++ S [c]), ?_, hy _ rfl⟩
    · simp only [dSl, look, S_len]
      rw [if_pos (small (by omega)), cutS_to (by decide)]; rfl
    · simp only [dAdd, look, S_len]
      rw [if_pos (small (by rw [List.length_take]; simp; omega))]
  · rw [addF_eq]
    refine ⟨.lst ((cand cs).map .str), ?_, ?_⟩
    · simp only [dAdd, look, List.length_map, List.length_cons, List.length_nil]
      have : (tailC cs).length = 26 := by unfold tailC; rw [List.length_map, lt_len]
      rw [if_pos (small (by rw [this]; decide))]; rfl
    simp only [r_l_words_8, tSq, DL.tIfS, tBinT, tBin, tV, tK, DL.tSet, tRt, tRtN, tAs, gSb, tFn, tAC, tA0, tDr, tApp, tExt, tPopA, tLstD, tTupD, tLstM, tCl, tMt, tPr, tNx, tSlD, tON, tOS, tIfD, DL.tAndT, DL.tOrT, DL.tNotT, tTru, tChainT, tNeg, tListM, List.map_cons, List.map_nil, List.length_cons, List.length_nil, List.replicate, List.cons_append, List.nil_append, List.getElem?_cons_zero, List.getElem?_cons_succ, List.set_cons_zero, List.set_cons_succ, Option.some.injEq, exists_eq_left', exists_eq_left, D.bl.injEq, D.int.injEq, D.str.injEq, D.lst.injEq, D.ref.injEq, if_true, if_false, Bool.true_eq_false, Bool.false_eq_true, startD, bodyEnds, Nat.reduceSub, Nat.reduceAdd, true_and, and_true]
    refine ⟨q, _, rfl, hq, ?_⟩
    have hlc : (cand cs).length = 27 := by unfold cand; rw [List.length_cons, List.length_map, lt_len]
    refine lc_pure (ds := (cand cs).map .str) (goodF found) (fun R hR => ?_) (by rw [List.length_map, hlc]; exact smallLt (by decide)) (fun d m1 R hd hm hy hno => ?_) ?_
    · simp only [iSeq, dSeq, tSq, DL.tIfS, tBinT, tBin, tV, tK, DL.tSet, tRt, tRtN, tAs, gSb, tFn, tAC, tA0, tDr, tApp, tExt, tPopA, tLstD, tTupD, tLstM, tCl, tMt, tPr, tNx, tSlD, tON, tOS, tIfD, DL.tAndT, DL.tOrT, DL.tNotT, tTru, tChainT, tNeg, tListM, List.map_cons, List.map_nil, List.length_cons, List.length_nil, List.replicate, List.cons_append, List.nil_append, List.getElem?_cons_zero, List.getElem?_cons_succ, List.set_cons_zero, List.set_cons_succ, Option.some.injEq, exists_eq_left', exists_eq_left, D.bl.injEq, D.int.injEq, D.str.injEq, D.lst.injEq, D.ref.injEq, if_true, if_false, Bool.true_eq_false, Bool.false_eq_true, startD, bodyEnds, Nat.reduceSub, Nat.reduceAdd, true_and, and_true]
      exact hR
    · obtain ⟨x, hx, rfl⟩ := List.mem_map.mp hd
      obtain ⟨pp, acc, hpp, rfl⟩ := hm
      have qp : q ≠ pp := by rintro rfl; rw [hq] at hpp; cases hpp
      have lq : look (updM m pp (.lst acc)) (.ref q) = .lst (found.map .str) := by simp only [look, updM_ne qp, hq, Option.getD_some]
      simp only [tgD, gN, wipeD, r_l_words_6, r_l_words_7, tSq, DL.tIfS, tBinT, tBin, tV, tK, DL.tSet, tRt, tRtN, tAs, gSb, tFn, tAC, tA0, tDr, tApp, tExt, tPopA, tLstD, tTupD, tLstM, tCl, tMt, tPr, tNx, tSlD, tON, tOS, tIfD, DL.tAndT, DL.tOrT, DL.tNotT, tTru, tChainT, tNeg, tListM, List.map_cons, List.map_nil, List.length_cons, List.length_nil, List.replicate, List.cons_append, List.nil_append, List.getElem?_cons_zero, List.getElem?_cons_succ, List.set_cons_zero, List.set_cons_succ, Option.some.injEq, exists_eq_left', exists_eq_left, D.bl.injEq, D.int.injEq, D.str.injEq, D.lst.injEq, D.ref.injEq, if_true, if_false, Bool.true_eq_false, Bool.false_eq_true, startD, bodyEnds, Nat.reduceSub, Nat.reduceAdd, true_and, and_true]
      simp only [dNotIn, dInB_strs (m := updM m pp (.lst acc)) (y := .ref q) (x := x) (xs := found) (.inl lq), dInB_strs (m := updM m pp (.lst acc)) (y := .lst (bar.map .str)) (x := x) (xs := bar) (.inl rfl), Option.map_some, Option.some.injEq, exists_eq_left', D.bl.injEq]
      by_cases hxf : x ∈ found
      · simp only [hxf, decide_true, Bool.not_true, Bool.false_eq_true, if_false]
        exact hno (if_neg fun z => z.1 hxf)
      · by_cases hxb : x ∈ bar
        · simp only [hxf, hxb, decide_true, decide_false, Bool.not_true, Bool.not_false, Bool.false_eq_true, if_false, if_true]
          exact hno (if_neg fun z => z.2 hxb)
        · simp only [hxf, hxb, decide_false, Bool.not_false, if_true]
          exact hy _ (if_pos ⟨hxf, hxb⟩)
    · rw [goodF_eq]
      obtain ⟨w0, hw0, hg⟩ := some_good (cs := cs) hf
      have hw1 : w0 ∈ (cand cs).filter fun x => decide (x ∉ found ∧ x ∉ bar) := List.mem_filter.mpr ⟨hw0, decide_eq_true hg⟩
      obtain ⟨w, r, hfl⟩ : ∃ w r, ((cand cs).filter fun x => decide (x ∉ found ∧ x ∉ bar)) = w :: r := by
        cases e : (cand cs).filter fun x => decide (x ∉ found ∧ x ∉ bar) with
        | nil => rw [e] at hw1; cases hw1
        | cons w r => exact ⟨w, r, rfl⟩
      have hw2 : w ∈ (cand cs).filter fun x => decide (x ∉ found ∧ x ∉ bar) := by rw [hfl]; exact List.mem_cons_self
      obtain ⟨hc, hd⟩ := List.mem_filter.mp hw2
      have hd := of_decide_eq_true hd
      rw [hfl]
      refine ⟨.str w, dIx_lst rfl rfl (atI_pos (by decide) rfl), found.map .str, hq, by rw [List.length_map]; exact smallLt (by omega), ?_⟩
      have := k w (some (.lst ((cand cs).map .str))) e10 e11 e12 hd.1 ⟨cand_wd h1 h8 hl w hc, hd.2⟩
      rw [List.map_append] at this
      exact this
theorem words_tail {m : M} {p : Addr} {l : D} {a : Int} {n : Nat} {bs : List Nat} {Q : DK} {e6 : Option D} (hp : m p = some l) (hl : PenD l a) (ha : a + 150 < 1048576) (hn : n ≤ 9) (hb1 : 1 ≤ bs.length) (hb8 : bs.length ≤ 8) (hb : ∀ c ∈ bs, c ∈ Lt)
    (k : ∀ ws l', WordsOk n ws → PenD l' (a + 12 * n) → Q (.lst (ws.map .str)) (updM m p l')) :
    r_l_words_16 [some (.ref p), some (.int n), some (.str (S Lt)), some (.lst (bar.map .str)), some (.str (S bs)), none, e6, none, none, none, none, none, none] m { nx := fun _ m => dropR Q .non m, rt := dropR Q } := by
  simp only [r_l_words_16, r_l_words_15, tSq, DL.tIfS, tBinT, tBin, tV, tK, DL.tSet, tRt, tRtN, tAs, gSb, tFn, tAC, tA0, tDr, tApp, tExt, tPopA, tLstD, tTupD, tLstM, tCl, tMt, tPr, tNx, tSlD, tON, tOS, tIfD, DL.tAndT, DL.tOrT, DL.tNotT, tTru, tChainT, tNeg, tListM, List.map_cons, List.map_nil, List.length_cons, List.length_nil, List.replicate, List.cons_append, List.nil_append, List.getElem?_cons_zero, List.getElem?_cons_succ, List.set_cons_zero, List.set_cons_succ, Option.some.injEq, exists_eq_left', exists_eq_left, D.bl.injEq, D.int.injEq, D.str.injEq, D.lst.injEq, D.ref.injEq, if_true, if_false, Bool.true_eq_false, Bool.false_eq_true, startD, bodyEnds, Nat.reduceSub, Nat.reduceAdd, true_and, and_true, tFo, iRg]
  refine ⟨by decide, fun q hq => ⟨n, rfl, by omega, by omega, ?_⟩⟩
  have pq : p ≠ q := by rintro rfl; rw [hp] at hq; cases hq
  refine forD_inv (fun i env m' => ∃ l' ws e6 e7 e8 e9 e10 e11 e12, env = [some (.ref p), some (.int n), some (.str (S Lt)), some (.lst (bar.map .str)), some (.str (S bs)), some (.ref q), e6, e7, e8, e9, e10, e11, e12] ∧ m' = updM (updM m p l') q (.lst (ws.map .str)) ∧ WordsOk i ws ∧ PenD l' (a + 12 * i))
    ⟨l, [], _, _, _, _, _, _, _, rfl, by rw [updM_self hp]; rfl, ⟨rfl, List.nodup_nil, fun w h => by cases h⟩, hl.mono (by omega)⟩ ?_ ?_
  · rintro i d env m' N hd ⟨l', ws, e6, e7, e8, e9, e10, e11, e12, rfl, rfl, hw, hl'⟩ hN
    have hi : i < n := by
      have := List.getElem?_eq_some_iff.mp hd
      obtain ⟨z, _⟩ := this
      simpa [rngD] using z
    have lw := hw.len
    have m_p : ∀ z b, updM (updM m p z) q b p = some z := fun z b => by rw [updM_ne pq, updM_same]
    have sw : ∀ z b z', updM (updM (updM m p z) q b) p z' = updM (updM m p z') q b := fun z b z' => by rw [updM_comm pq.symm, updM_over]
    simp only [tgD, gN, r_l_words_13, tSq, DL.tIfS, tBinT, tBin, tV, tK, DL.tSet, tRt, tRtN, tAs, gSb, tFn, tAC, tA0, tDr, tApp, tExt, tPopA, tLstD, tTupD, tLstM, tCl, tMt, tPr, tNx, tSlD, tON, tOS, tIfD, DL.tAndT, DL.tOrT, DL.tNotT, tTru, tChainT, tNeg, tListM, List.map_cons, List.map_nil, List.length_cons, List.length_nil, List.replicate, List.cons_append, List.nil_append, List.getElem?_cons_zero, List.getElem?_cons_succ, List.set_cons_zero, List.set_cons_succ, Option.some.injEq, exists_eq_left', exists_eq_left, D.bl.injEq, D.int.injEq, D.str.injEq, D.lst.injEq, D.ref.injEq, if_true, if_false, Bool.true_eq_false, Bool.false_eq_true, startD, bodyEnds, Nat.reduceSub, Nat.reduceAdd, true_and, and_true]
    refine ⟨.int bs.length, by simp only [d1, look, dLen, S_len]; rw [if_pos (small (by omega))], .int (bs.length + 3), by simp only [dAdd, look], ?_⟩
    refine draw_ok (m_p _ _) hl' (by omega) (by omega) (by omega) fun v l2 v1 v2 h2 => ?_
    rw [sw]
    obtain ⟨vn, rfl⟩ := Int.eq_ofNat_of_zero_le v1
    have fin : ∀ (cs : List Nat) (l3 : D) (e9 e10 e11 e12 : Option D) (E : DEnds), E.nx = N → 1 ≤ cs.length → cs.length ≤ 8 → (∀ c ∈ cs, c ∈ Lt) → PenD l3 (a + 12 * (i + 1)) → r_l_words_9 [some (.ref p), some (.int n), some (.str (S Lt)), some (.lst (bar.map .str)), some (.str (S bs)), some (.ref q), some d, some (.int vn), some (.str (S cs)), e9, e10, e11, e12] (updM (updM m p l3) q (.lst (ws.map .str))) E := by
      intro cs l3 e9 e10 e11 e12 E hE c1 c8 cl h3
      refine words_turn (found := ws) updM_same (by omega) c1 c8 cl fun w e9 e10 e11 e12 hwf hww => ?_
      rw [updM_over, hE]
      refine hN _ _ ⟨l3, ws ++ [w], _, _, _, _, _, _, _, rfl, rfl, ⟨by simp [lw], ?_, fun x hx => ?_⟩, h3.mono (by omega)⟩
      · rw [List.nodup_append]
        exact ⟨hw.nd, by simp, fun x hx y hy e => hwf (by rw [List.mem_singleton] at hy; subst hy; subst e; exact hx)⟩
      · rcases List.mem_append.mp hx with hx | hx
        · exact hw.wd x hx
        · rw [List.mem_singleton] at hx; subst hx; exact hww
    simp only [r_l_words_12, tSq, DL.tIfS, tBinT, tBin, tV, tK, DL.tSet, tRt, tRtN, tAs, gSb, tFn, tAC, tA0, tDr, tApp, tExt, tPopA, tLstD, tTupD, tLstM, tCl, tMt, tPr, tNx, tSlD, tON, tOS, tIfD, DL.tAndT, DL.tOrT, DL.tNotT, tTru, tChainT, tNeg, tListM, List.map_cons, List.map_nil, List.length_cons, List.length_nil, List.replicate, List.cons_append, List.nil_append, List.getElem?_cons_zero, List.getElem?_cons_succ, List.set_cons_zero, List.set_cons_succ, Option.some.injEq, exists_eq_left', exists_eq_left, D.bl.injEq, D.int.injEq, D.str.injEq, D.lst.injEq, D.ref.injEq, if_true, if_false, Bool.true_eq_false, Bool.false_eq_true, startD, bodyEnds, Nat.reduceSub, Nat.reduceAdd, true_and, and_true]
    refine ⟨vn, rfl, .str (S (bs.take vn)), ?_, ?_⟩
    · simp only [dSl, look, S_len]
      rw [if_pos (small (by omega)), cutS_to (by omega), Int.toNat_natCast]
    refine letter_ok (m_p _ _) h2 (by omega) fun c l3 hc h3 => ?_
    rw [sw]
    refine ⟨.str (S (bs.take vn ++ [c])), ?_, .int (vn + 1), by simp only [dAdd, look], vn + 1, rfl, .str (S (bs.drop (vn + 1))), ?_, .str (S (bs.take vn ++ [c] ++ bs.drop (vn + 1))), ?_, ?_⟩
    · simp only [dAdd, look, S_len]
      rw [if_pos (small (by rw [List.length_take]; simp; omega)), S_cat]
    · simp only [dSl, look, S_len]
      rw [if_pos (small (by omega)), cutS_from (by omega)]
      rfl
    · simp only [dAdd, look, S_len]
      rw [if_pos (small (by rw [List.length_append, List.length_take, List.length_drop]; simp; omega)), S_cat]
    have len8 : .int bs.length = D.int bs.length := rfl
    simp only [r_l_words_11, tSq, DL.tIfS, tBinT, tBin, tV, tK, DL.tSet, tRt, tRtN, tAs, gSb, tFn, tAC, tA0, tDr, tApp, tExt, tPopA, tLstD, tTupD, tLstM, tCl, tMt, tPr, tNx, tSlD, tON, tOS, tIfD, DL.tAndT, DL.tOrT, DL.tNotT, tTru, tChainT, tNeg, tListM, List.map_cons, List.map_nil, List.length_cons, List.length_nil, List.replicate, List.cons_append, List.nil_append, List.getElem?_cons_zero, List.getElem?_cons_succ, List.set_cons_zero, List.set_cons_succ, Option.some.injEq, exists_eq_left', exists_eq_left, D.bl.injEq, D.int.injEq, D.str.injEq, D.lst.injEq, D.ref.injEq, if_true, if_false, Bool.true_eq_false, Bool.false_eq_true, startD, bodyEnds, Nat.reduceSub, Nat.reduceAdd, true_and, and_true]
    refine ⟨.int bs.length, by simp only [d1, look, dLen, S_len]; rw [if_pos (small (by omega))], decide ((vn : Int) = bs.length), rfl, ?_⟩
    by_cases g1 : (vn : Int) = bs.length
    · simp only [g1, decide_true, if_true]
      rw [← g1]
      simp only [r_l_words_2, tSq, DL.tIfS, tBinT, tBin, tV, tK, DL.tSet, tRt, tRtN, tAs, gSb, tFn, tAC, tA0, tDr, tApp, tExt, tPopA, tLstD, tTupD, tLstM, tCl, tMt, tPr, tNx, tSlD, tON, tOS, tIfD, DL.tAndT, DL.tOrT, DL.tNotT, tTru, tChainT, tNeg, tListM, List.map_cons, List.map_nil, List.length_cons, List.length_nil, List.replicate, List.cons_append, List.nil_append, List.getElem?_cons_zero, List.getElem?_cons_succ, List.set_cons_zero, List.set_cons_succ, Option.some.injEq, exists_eq_left', exists_eq_left, D.bl.injEq, D.int.injEq, D.str.injEq, D.lst.injEq, D.ref.injEq, if_true, if_false, Bool.true_eq_false, Bool.false_eq_true, startD, bodyEnds, Nat.reduceSub, Nat.reduceAdd, true_and, and_true]
      refine ⟨.int bs.length, by simp only [d1, look, dLen, S_len]; rw [if_pos (small (by omega))], ?_⟩
      refine draw_ok (m_p _ _) h3 (by omega) (by omega) (by omega) fun u l4 u1 u2 h4 => ?_
      rw [sw]
      refine ⟨.int (1 + u), by simp only [dAdd, look], 1 + u, rfl, .str (S (bs.take (1 + u).toNat)), ?_, ?_⟩
      · simp only [dSl, look, S_len]
        rw [if_pos (small (by omega)), cutS_to (by omega)]
      simp only [r_l_words_10, tSq, DL.tIfS, tBinT, tBin, tV, tK, DL.tSet, tRt, tRtN, tAs, gSb, tFn, tAC, tA0, tDr, tApp, tExt, tPopA, tLstD, tTupD, tLstM, tCl, tMt, tPr, tNx, tSlD, tON, tOS, tIfD, DL.tAndT, DL.tOrT, DL.tNotT, tTru, tChainT, tNeg, tListM, List.map_cons, List.map_nil, List.length_cons, List.length_nil, List.replicate, List.cons_append, List.nil_append, List.getElem?_cons_zero, List.getElem?_cons_succ, List.set_cons_zero, List.set_cons_succ, Option.some.injEq, exists_eq_left', exists_eq_left, D.bl.injEq, D.int.injEq, D.str.injEq, D.lst.injEq, D.ref.injEq, if_true, if_false, Bool.true_eq_false, Bool.false_eq_true, startD, bodyEnds, Nat.reduceSub, Nat.reduceAdd, true_and, and_true]
      refine ⟨.int bs.length, by simp only [d1, look, dLen, S_len]; rw [if_pos (small (by omega))], decide ((bs.length : Int) < vn), rfl, ?_⟩
      have g2 : ¬ (bs.length : Int) < vn := by omega
      simp only [g2, decide_false, Bool.false_eq_true, if_false]
      exact fin _ l4 _ _ _ _ _ rfl (by rw [List.length_take]; omega) (by rw [List.length_take]; omega) (fun c hc => hb c (List.mem_of_mem_take hc)) (h4.mono (by omega))
    · simp only [g1, decide_false, Bool.false_eq_true, if_false]
      simp only [r_l_words_10, tSq, DL.tIfS, tBinT, tBin, tV, tK, DL.tSet, tRt, tRtN, tAs, gSb, tFn, tAC, tA0, tDr, tApp, tExt, tPopA, tLstD, tTupD, tLstM, tCl, tMt, tPr, tNx, tSlD, tON, tOS, tIfD, DL.tAndT, DL.tOrT, DL.tNotT, tTru, tChainT, tNeg, tListM, List.map_cons, List.map_nil, List.length_cons, List.length_nil, List.replicate, List.cons_append, List.nil_append, List.getElem?_cons_zero, List.getElem?_cons_succ, List.set_cons_zero, List.set_cons_succ, Option.some.injEq, exists_eq_left', exists_eq_left, D.bl.injEq, D.int.injEq, D.str.injEq, D.lst.injEq, D.ref.injEq, if_true, if_false, Bool.true_eq_false, Bool.false_eq_true, startD, bodyEnds, Nat.reduceSub, Nat.reduceAdd, true_and, and_true]
      refine ⟨.int bs.length, by simp only [d1, look, dLen, S_len]; rw [if_pos (small (by omega))], decide ((bs.length : Int) < vn), rfl, ?_⟩
      by_cases g2 : (bs.length : Int) < vn
      · simp only [g2, decide_true, if_true]
        refine rand_ok (i := 11) (l := l3) (m_p _ _) h3 (by omega) rfl (fun _ => rfl) (fun _ => rfl) fun cs l4 c1 c8 cl h4 => ?_
        rw [sw]
        exact fin _ l4 _ _ _ _ _ rfl c1 c8 cl (h4.mono (by omega))
      · simp only [g2, decide_false, Bool.false_eq_true, if_false]
        refine fin _ l3 _ _ _ _ _ rfl ?_ ?_ (fun x hx => ?_) (h3.mono (by omega))
        · simp; omega
        · rw [List.length_append, List.length_append, List.length_take, List.length_drop]; simp; omega
        · rw [List.mem_append, List.mem_append, List.mem_singleton] at hx
          rcases hx with (hx | hx) | hx
          · exact hb x (List.mem_of_mem_take hx)
          · subst hx; exact hc
          · exact hb x (List.mem_of_mem_drop hx)
  · rintro env m' ⟨l', ws, e6, e7, e8, e9, e10, e11, e12, rfl, rfl, hw, hl'⟩
    have hz : (rngD 0 (Int.toNat n)).length = n := by simp [rngD]
    rw [hz] at hw hl'
    simp only [r_l_words_14, tSq, DL.tIfS, tBinT, tBin, tV, tK, DL.tSet, tRt, tRtN, tAs, gSb, tFn, tAC, tA0, tDr, tApp, tExt, tPopA, tLstD, tTupD, tLstM, tCl, tMt, tPr, tNx, tSlD, tON, tOS, tIfD, DL.tAndT, DL.tOrT, DL.tNotT, tTru, tChainT, tNeg, tListM, List.map_cons, List.map_nil, List.length_cons, List.length_nil, List.replicate, List.cons_append, List.nil_append, List.getElem?_cons_zero, List.getElem?_cons_succ, List.set_cons_zero, List.set_cons_succ, Option.some.injEq, exists_eq_left', exists_eq_left, D.bl.injEq, D.int.injEq, D.str.injEq, D.lst.injEq, D.ref.injEq, if_true, if_false, Bool.true_eq_false, Bool.false_eq_true, startD, bodyEnds, Nat.reduceSub, Nat.reduceAdd, true_and, and_true, tFrz]
    refine ⟨_, updM_same, updM m p l', fun b => ?_, k ws l' hw (hl'.mono (by omega))⟩
    unfold delM updM
    by_cases b2 : b = q
    · right; subst b2; simp [pq.symm, hq]
    · left; simp [b2]
theorem words_ok {m : M} {p : Addr} {l : D} {a : Int} {n : Nat} {Q : DK} (hp : m p = some l) (hl : PenD l a) (ha : a + 200 < 1048576) (hn : n ≤ 9)
    (k : ∀ ws l', WordsOk n ws → PenD l' (a + 150) → Q (.lst (ws.map .str)) (updM m p l')) : sp_l_words [.ref p, .int n] m Q := by
  refine ⟨rfl, ?_⟩
  show r_l_words_21 _ _ _
  simp only [r_l_words_21, r_l_words_20, r_l_words_19, r_l_words_18, tSq, DL.tIfS, tBinT, tBin, tV, tK, DL.tSet, tRt, tRtN, tAs, gSb, tFn, tAC, tA0, tDr, tApp, tExt, tPopA, tLstD, tTupD, tLstM, tCl, tMt, tPr, tNx, tSlD, tON, tOS, tIfD, DL.tAndT, DL.tOrT, DL.tNotT, tTru, tChainT, tNeg, tListM, List.map_cons, List.map_nil, List.length_cons, List.length_nil, List.replicate, List.cons_append, List.nil_append, List.getElem?_cons_zero, List.getElem?_cons_succ, List.set_cons_zero, List.set_cons_succ, Option.some.injEq, exists_eq_left', exists_eq_left, D.bl.injEq, D.int.injEq, D.str.injEq, D.lst.injEq, D.ref.injEq, if_true, if_false, Bool.true_eq_false, Bool.false_eq_true, startD, bodyEnds, Nat.reduceSub, Nat.reduceAdd, true_and, and_true]
  rw [lt_eq]
  refine ⟨by decide, by decide, _, by simp only [dAdd, look]; exact if_pos (by decide), by decide, _, by simp only [dAdd, look]; exact if_pos (by decide), ?_⟩
  simp only [r_l_words_17, tSq, DL.tSet]
  refine rand_ok (i := 6) (p := p) (l := l) hp hl (by omega) rfl (fun _ => rfl) (fun _ => rfl) fun cs l2 c1 c8 cl h2 => ?_
  refine words_tail (e6 := none) (l := l2) updM_same h2 (by omega) hn c1 c8 cl fun ws l3 hw h3 => ?_
  rw [updM_over]
  exact k ws l3 hw (h3.mono (by omega))
end K58
namespace K58
open PySem PySem.Spec PyProof.Rows DL
open SX (S S_len S_cat S_inj S_tl)
theorem ev_ne : ¬ ("error" : Str) = ("vacant" : Str) := by decide +kernel
theorem two_nd : [(Sum.inr ("error" : Str) : L2.Key), .inr ("vacant" : Str)].Nodup := by
  rw [List.nodup_cons]
  refine ⟨fun h => ?_, by simp⟩
  exact ev_ne (Sum.inr.inj (List.mem_singleton.mp h))
abbrev Al := List (Str × List Str)
def ulk : Al → Str → Option (List Str)
  | [], _ => none
  | e :: r, x => if e.1 = x then some e.2 else ulk r x
def lD (us : List Str) : D := .lst (us.map .str)
def alD (al : Al) : List (Str × D) := al.map fun e => (e.1, lD e.2)
def keysA (al : Al) : List Str := al.map (·.1)
theorem alD_keys (al : Al) : (alD al).map (·.1) = keysA al := by unfold alD keysA; rw [List.map_map]; rfl
theorem alook_alD : ∀ (al : Al) (x : Str), alook (alD al) x = (ulk al x).map lD
  | [], x => rfl
  | e :: r, x => by
    show (if e.1 = x then some (lD e.2) else alook (alD r) x) = (if e.1 = x then some e.2 else ulk r x).map lD
    rw [alook_alD r x]
    split <;> rfl
theorem ulk_some : ∀ {al : Al} {x : Str}, x ∈ keysA al → ∃ (i : Nat) (us : List Str), ulk al x = some us ∧ al[i]? = some (x, us)
  | e :: r, x, h => by
    by_cases hx : e.1 = x
    · exact ⟨0, e.2, if_pos hx, by rw [← hx]; rfl⟩
    · have h : x ∈ e.1 :: keysA r := h
      rw [List.mem_cons] at h
      obtain ⟨i, us, h1, h2⟩ := ulk_some (h.resolve_left fun z => hx z.symm)
      exact ⟨i + 1, us, (if_neg hx).trans h1, by simpa using h2⟩
structure Entry (before : List Str) (x : Str) (us : List Str) : Prop where
  nd : us.Nodup
  me : x ∈ us
  er : ("error" : Str) ∈ us
  sub : ∀ y ∈ us, y = x ∨ y ∈ before
def UpOk (al : Al) : Prop := ∀ (i : Nat) (x : Str) (us : List Str), al[i]? = some (x, us) → Entry (keysA (al.take i)) x us
def base0 : Al := [(("error" : Str), [("error" : Str)]), (("vacant" : Str), [("vacant" : Str), ("error" : Str)])]
theorem base0_ok : UpOk base0 := fun i x us h => by
  match i, h with
  | 0, h =>
    simp only [base0, List.getElem?_cons_zero, Option.some.injEq, Prod.mk.injEq] at h
    obtain ⟨rfl, rfl⟩ := h
    exact ⟨by simp, by simp, by simp, fun y hy => .inl (by simpa using hy)⟩
  | 1, h =>
    simp only [base0, List.getElem?_cons_succ, List.getElem?_cons_zero, Option.some.injEq, Prod.mk.injEq] at h
    obtain ⟨rfl, rfl⟩ := h
    refine ⟨by decide +kernel, by simp, by simp, fun y hy => ?_⟩
    simp only [List.mem_cons, List.not_mem_nil, or_false] at hy
    rcases hy with rfl | rfl
    · exact .inl rfl
    · exact .inr (by simp [keysA, base0])
  | i + 2, h => simp [base0] at h
def addB (al : Al) (acc : List Str) (b : Str) : List Str := acc ++ ((ulk al b).getD []).filter fun x => decide (x ∉ acc)
def mine (al : Al) (w : Str) (bs : List Str) : List Str := bs.foldl (addB al) [w]
structure Acc (al : Al) (w : Str) (acc : List Str) : Prop where
  nd : acc.Nodup
  me : w ∈ acc
  sub : ∀ y ∈ acc, y = w ∨ y ∈ keysA al
theorem Acc.start (al : Al) (w : Str) : Acc al w [w] := ⟨by simp, by simp, fun y hy => .inl (by simpa using hy)⟩
theorem Acc.add {al : Al} {w b : Str} {acc : List Str} (h : Acc al w acc) (ok : UpOk al) (hb : b ∈ keysA al) : Acc al w (addB al acc b) ∧ ("error" : Str) ∈ addB al acc b := by
  obtain ⟨i, us, h1, h2⟩ := ulk_some hb
  have e := ok i b us h2
  unfold addB
  rw [h1, Option.getD_some]
  refine ⟨⟨?_, List.mem_append_left _ h.me, fun y hy => ?_⟩, ?_⟩
  · rw [List.nodup_append]
    refine ⟨h.nd, e.nd.sublist List.filter_sublist, fun x hx y hy hxy => ?_⟩
    subst hxy
    have := (List.mem_filter.mp hy).2
    simp [hx] at this
  · rcases List.mem_append.mp hy with hy | hy
    · exact h.sub y hy
    · have := e.sub y (List.mem_filter.mp hy).1
      rcases this with rfl | z
      · exact .inr hb
      · exact .inr ((List.take_sublist i al).map (·.1) |>.subset z)
  · by_cases z : ("error" : Str) ∈ acc
    · exact List.mem_append_left _ z
    · exact List.mem_append_right _ (List.mem_filter.mpr ⟨e.er, by simp [z]⟩)
theorem Acc.fold {al : Al} {w : Str} (ok : UpOk al) : ∀ (bs : List Str) (acc : List Str), Acc al w acc → (∀ b ∈ bs, b ∈ keysA al) → Acc al w (bs.foldl (addB al) acc)
  | [], acc, h, _ => h
  | b :: bs, acc, h, hb => Acc.fold ok bs _ (h.add ok (hb b List.mem_cons_self)).1 fun x hx => hb x (List.mem_cons_of_mem _ hx)
theorem addB_mono {al : Al} {x : Str} : ∀ (bs : List Str) (acc : List Str), x ∈ acc → x ∈ bs.foldl (addB al) acc
  | [], acc, h => h
  | b :: bs, acc, h => addB_mono bs _ (List.mem_append_left _ h)
theorem mine_entry {al : Al} {w : Str} {bs : List Str} (ok : UpOk al) (hb : ∀ b ∈ bs, b ∈ keysA al) (hne : bs ≠ []) : Entry (keysA al) w (mine al w bs) := by
  have h := Acc.fold ok bs [w] (.start al w) hb
  refine ⟨h.nd, h.me, ?_, h.sub⟩
  cases bs with
  | nil => exact absurd rfl hne
  | cons b bs =>
    have := ((Acc.start al w).add ok (hb b List.mem_cons_self)).2
    exact addB_mono bs _ this
theorem UpOk.snoc {al : Al} {w : Str} {us : List Str} (ok : UpOk al) (e : Entry (keysA al) w us) : UpOk (al ++ [(w, us)]) := fun i x vs h => by
  rcases Nat.lt_trichotomy i al.length with z | z | z
  · rw [List.getElem?_append_left z] at h
    rw [List.take_append_of_le_length (Nat.le_of_lt z)]
    exact ok i x vs h
  · subst z
    rw [List.getElem?_append_right (Nat.le_refl _), Nat.sub_self] at h
    cases h
    rw [List.take_left]
    exact e
  · rw [List.getElem?_eq_none (by rw [List.length_append]; simp; omega)] at h
    cases h
def upStep (al : Al) (r : Row) : Al := al ++ [(r.1, mine al r.1 r.2)]
def upsL (rows : List Row) : Al := rows.foldl upStep base0
theorem upsL_snoc (rows : List Row) (r : Row) : upsL (rows ++ [r]) = upStep (upsL rows) r := by unfold upsL; rw [List.foldl_append]; rfl
theorem upsL_keys_aux : ∀ (rows : List Row) (al : Al), keysA (rows.foldl upStep al) = keysA al ++ rows.map (·.1)
  | [], al => by simp
  | r :: rows, al => by
    rw [List.foldl_cons, upsL_keys_aux rows, List.map_cons]
    unfold upStep keysA
    simp
theorem upsL_keys (rows : List Row) : keysA (upsL rows) = knownOf rows := upsL_keys_aux rows base0
theorem acc_len {al : Al} {w : Str} {acc : List Str} (h : Acc al w acc) : acc.length ≤ al.length + 1 := by
  have := nd_len acc (w :: keysA al) h.nd fun x hx => by
    rcases h.sub x hx with e | e
    · rw [e]; exact List.mem_cons_self
    · exact List.mem_cons_of_mem _ e
  rw [List.length_cons] at this
  unfold keysA at this
  rwa [List.length_map] at this
theorem entry_len {al : Al} {i : Nat} {x : Str} {us : List Str} (ok : UpOk al) (h : al[i]? = some (x, us)) : us.length ≤ al.length := by
  have e := ok i x us h
  have hi : i < al.length := by
    rcases Nat.lt_or_ge i al.length with z | z
    · exact z
    · rw [List.getElem?_eq_none z] at h; cases h
  have := nd_len us (x :: keysA (al.take i)) e.nd fun y hy => by
    rcases e.sub y hy with z | z
    · rw [z]; exact List.mem_cons_self
    · exact List.mem_cons_of_mem _ z
  rw [List.length_cons] at this
  unfold keysA at this
  rw [List.length_map, List.length_take] at this
  omega
/-- what is not there yet, of a walk -/
def newF (acc : List Str) : D → Option D
  | .str x => if x ∈ acc then none else some (.str x)
  | _ => none
theorem newF_eq (acc us : List Str) : (us.map D.str).filterMap (newF acc) = (us.filter fun x => decide (x ∉ acc)).map .str := by
  induction us with
  | nil => rfl
  | cons u us ih =>
    rw [List.map_cons, List.filterMap_cons, ih]
    by_cases h : u ∈ acc
    · have e : newF acc (.str u) = none := if_pos h
      rw [e, List.filter_cons_of_neg (by simp [h])]
    · have e : newF acc (.str u) = some (.str u) := if_neg h
      rw [e, List.filter_cons_of_pos (by simp [h])]; rfl
theorem dAll_true {α : Type} (xs : List α) : dAll (.lst (xs.map fun _ => D.bl true)) = some (.bl true) := by
  have h : boolsOf (xs.map fun _ => D.bl true) = some (xs.map fun _ => true) := by
    induction xs with
    | nil => rfl
    | cons x xs ih => simp only [List.map_cons, boolsOf, ih, Option.map_some]
  show (boolsOf (xs.map fun _ => D.bl true)).map (fun bs => D.bl (bs.all id)) = _
  rw [h]
  show some (D.bl ((xs.map fun _ => true).all id)) = _
  congr 2
  rw [List.all_eq_true]
  intro b hb
  obtain ⟨_, _, rfl⟩ := List.mem_map.mp hb
  rfl
theorem fm_true {α : Type} (xs : List α) (f : α → D) : (xs.map f).filterMap (fun _ => some (D.bl true)) = xs.map fun _ => D.bl true := by
  induction xs with
  | nil => rfl
  | cons x xs ih => rw [List.map_cons, List.filterMap_cons, ih]; rfl
theorem is_word_ok {m : M} {w : Str} {Q : DK} (hw : Word w) (k : Q (.bl true) m) : sp_is_word [.str w] m Q := by
  obtain ⟨h1, h2, h3, h4⟩ := hw
  refine ⟨rfl, ?_⟩
  show r_is_word_4 _ _ _
  simp only [r_is_word_4, tSq, DL.tIfS, tBinT, tBin, tV, tK, DL.tSet, tRt, tRtN, tAs, gSb, tFn, tAC, tA0, tDr, tApp, tExt, tPopA, tLstD, tTupD, tLstM, tCl, tMt, tPr, tNx, tSlD, tON, tOS, tIfD, DL.tAndT, DL.tOrT, DL.tNotT, tTru, tChainT, tNeg, tListM, List.map_cons, List.map_nil, List.length_cons, List.length_nil, List.replicate, List.cons_append, List.nil_append, List.getElem?_cons_zero, List.getElem?_cons_succ, List.set_cons_zero, List.set_cons_succ, Option.some.injEq, exists_eq_left', exists_eq_left, D.bl.injEq, D.int.injEq, D.str.injEq, D.lst.injEq, D.ref.injEq, if_true, if_false, Bool.true_eq_false, Bool.false_eq_true, startD, bodyEnds, Nat.reduceSub, Nat.reduceAdd, true_and, and_true]
  simp only [dIsi, tyD, clD, look, JB, kb_str_str, Option.map_some, Option.some.injEq, exists_eq_left', dTru, Bool.not_true, Bool.false_eq_true, if_false]
  simp only [d1, dLen, look, if_pos (small (by omega : w.length ≤ 1000)), Option.some.injEq, exists_eq_left', dLe, d2IB, D.bl.injEq, dIn, dInB_strs (m := m) (y := .tup (c_RESERVED.map .str)) (x := w) (xs := c_RESERVED) (.inr rfl), Option.map_some, h3, decide_false]
  have e1 : decide ((1 : Int) ≤ (w.length : Int)) = true := decide_eq_true (by omega)
  have e2 : decide ((w.length : Int) ≤ 8) = true := decide_eq_true (by omega)
  simp only [e1, e2, if_true, Bool.not_true, Bool.false_eq_true, if_false]
  simp only [r_is_word_3, tSq, DL.tIfS, tBinT, tBin, tV, tK, DL.tSet, tRt, tRtN, tAs, gSb, tFn, tAC, tA0, tDr, tApp, tExt, tPopA, tLstD, tTupD, tLstM, tCl, tMt, tPr, tNx, tSlD, tON, tOS, tIfD, DL.tAndT, DL.tOrT, DL.tNotT, tTru, tChainT, tNeg, tListM, List.map_cons, List.map_nil, List.length_cons, List.length_nil, List.replicate, List.cons_append, List.nil_append, List.getElem?_cons_zero, List.getElem?_cons_succ, List.set_cons_zero, List.set_cons_succ, Option.some.injEq, exists_eq_left', exists_eq_left, D.bl.injEq, D.int.injEq, D.str.injEq, D.lst.injEq, D.ref.injEq, if_true, if_false, Bool.true_eq_false, Bool.false_eq_true, startD, bodyEnds, Nat.reduceSub, Nat.reduceAdd, true_and, and_true]
  refine lc_pure (ds := w.cps.toList.map fun c => .str (S [c])) (fun _ => some (.bl true)) (fun R hR => ?_) (by rw [List.length_map, Array.length_toList]; exact smallLt (Nat.le_trans h2 (by decide))) (fun d m1 R hd _ hy _ => ?_) ?_
  · simp only [iSeq, dSeq, tSq, DL.tIfS, tBinT, tBin, tV, tK, DL.tSet, tRt, tRtN, tAs, gSb, tFn, tAC, tA0, tDr, tApp, tExt, tPopA, tLstD, tTupD, tLstM, tCl, tMt, tPr, tNx, tSlD, tON, tOS, tIfD, DL.tAndT, DL.tOrT, DL.tNotT, tTru, tChainT, tNeg, tListM, List.map_cons, List.map_nil, List.length_cons, List.length_nil, List.replicate, List.cons_append, List.nil_append, List.getElem?_cons_zero, List.getElem?_cons_succ, List.set_cons_zero, List.set_cons_succ, Option.some.injEq, exists_eq_left', exists_eq_left, D.bl.injEq, D.int.injEq, D.str.injEq, D.lst.injEq, D.ref.injEq, if_true, if_false, Bool.true_eq_false, Bool.false_eq_true, startD, bodyEnds, Nat.reduceSub, Nat.reduceAdd, true_and, and_true]
    exact hR
  · obtain ⟨c, hc, rfl⟩ := List.mem_map.mp hd
    simp only [tgD, gN, wipeD, tYe, r_is_word_2, tSq, DL.tIfS, tBinT, tBin, tV, tK, DL.tSet, tRt, tRtN, tAs, gSb, tFn, tAC, tA0, tDr, tApp, tExt, tPopA, tLstD, tTupD, tLstM, tCl, tMt, tPr, tNx, tSlD, tON, tOS, tIfD, DL.tAndT, DL.tOrT, DL.tNotT, tTru, tChainT, tNeg, tListM, List.map_cons, List.map_nil, List.length_cons, List.length_nil, List.replicate, List.cons_append, List.nil_append, List.getElem?_cons_zero, List.getElem?_cons_succ, List.set_cons_zero, List.set_cons_succ, Option.some.injEq, exists_eq_left', exists_eq_left, D.bl.injEq, D.int.injEq, D.str.injEq, D.lst.injEq, D.ref.injEq, if_true, if_false, Bool.true_eq_false, Bool.false_eq_true, startD, bodyEnds, Nat.reduceSub, Nat.reduceAdd, true_and, and_true]
    have hcl := h4 c hc
    rw [lt_eq] at hcl ⊢
    have hcl : c ∈ Lt := hcl
    simp only [dIn, dInB, look, in_one_S, Option.map_some, Option.some.injEq, exists_eq_left', hcl, decide_true]
    exact hy _ rfl
  · rw [fm_true]
    exact ⟨_, by simp only [d1, look]; exact dAll_true _, dropR.self k⟩
theorem are_words_ok {m : M} {ws : List Str} {Q : DK} (hn : ws.length ≤ 1000) (hw : ∀ w ∈ ws, Word w) (k : Q (.bl true) m) : sp_are_words [.tup (ws.map .str)] m Q := by
  refine ⟨rfl, ?_⟩
  show r_are_words_2 _ _ _
  simp only [r_are_words_2, tSq, DL.tIfS, tBinT, tBin, tV, tK, DL.tSet, tRt, tRtN, tAs, gSb, tFn, tAC, tA0, tDr, tApp, tExt, tPopA, tLstD, tTupD, tLstM, tCl, tMt, tPr, tNx, tSlD, tON, tOS, tIfD, DL.tAndT, DL.tOrT, DL.tNotT, tTru, tChainT, tNeg, tListM, List.map_cons, List.map_nil, List.length_cons, List.length_nil, List.replicate, List.cons_append, List.nil_append, List.getElem?_cons_zero, List.getElem?_cons_succ, List.set_cons_zero, List.set_cons_succ, Option.some.injEq, exists_eq_left', exists_eq_left, D.bl.injEq, D.int.injEq, D.str.injEq, D.lst.injEq, D.ref.injEq, if_true, if_false, Bool.true_eq_false, Bool.false_eq_true, startD, bodyEnds, Nat.reduceSub, Nat.reduceAdd, true_and, and_true]
  refine lc_pure (ds := ws.map .str) (fun _ => some (.bl true)) (fun R hR => ?_) (by rw [List.length_map]; exact smallLt hn) (fun d m1 R hd _ hy _ => ?_) ?_
  · simp only [iSeq, dSeq, tSq, DL.tIfS, tBinT, tBin, tV, tK, DL.tSet, tRt, tRtN, tAs, gSb, tFn, tAC, tA0, tDr, tApp, tExt, tPopA, tLstD, tTupD, tLstM, tCl, tMt, tPr, tNx, tSlD, tON, tOS, tIfD, DL.tAndT, DL.tOrT, DL.tNotT, tTru, tChainT, tNeg, tListM, List.map_cons, List.map_nil, List.length_cons, List.length_nil, List.replicate, List.cons_append, List.nil_append, List.getElem?_cons_zero, List.getElem?_cons_succ, List.set_cons_zero, List.set_cons_succ, Option.some.injEq, exists_eq_left', exists_eq_left, D.bl.injEq, D.int.injEq, D.str.injEq, D.lst.injEq, D.ref.injEq, if_true, if_false, Bool.true_eq_false, Bool.false_eq_true, startD, bodyEnds, Nat.reduceSub, Nat.reduceAdd, true_and, and_true]
    exact hR
  · obtain ⟨c, hc, rfl⟩ := List.mem_map.mp hd
    simp only [tgD, gN, wipeD, tYe, r_are_words_1, tSq, DL.tIfS, tBinT, tBin, tV, tK, DL.tSet, tRt, tRtN, tAs, gSb, tFn, tAC, tA0, tDr, tApp, tExt, tPopA, tLstD, tTupD, tLstM, tCl, tMt, tPr, tNx, tSlD, tON, tOS, tIfD, DL.tAndT, DL.tOrT, DL.tNotT, tTru, tChainT, tNeg, tListM, List.map_cons, List.map_nil, List.length_cons, List.length_nil, List.replicate, List.cons_append, List.nil_append, List.getElem?_cons_zero, List.getElem?_cons_succ, List.set_cons_zero, List.set_cons_succ, Option.some.injEq, exists_eq_left', exists_eq_left, D.bl.injEq, D.int.injEq, D.str.injEq, D.lst.injEq, D.ref.injEq, if_true, if_false, Bool.true_eq_false, Bool.false_eq_true, startD, bodyEnds, Nat.reduceSub, Nat.reduceAdd, true_and, and_true]
    exact is_word_ok (hw c hc) (hy _ rfl)
  · rw [fm_true]
    exact ⟨_, by simp only [d1, look]; exact dAll_true _, dropR.self k⟩
theorem keysOf_strs : ∀ xs : List Str, keysOf (xs.map D.str) = some (xs.map Sum.inr)
  | [] => rfl
  | x :: xs => by simp only [List.map_cons, keysOf, keyOf, Option.bind_some, keysOf_strs xs, Option.map_some]
theorem fault_none {m : M} {q : Addr} {row : Row} {kn : Int} {known : List Str} {Q : DK} (hq : m q = some (.lst (known.map .str))) (hok : RowOk known row) (hkw : ∀ x ∈ known, x = "error" ∨ x = "vacant" ∨ Word x) (hkn : kn ≠ 30) (hl : known.length ≤ 100) (k : Q .non m) : sp_row_fault [rowD row, .int kn, .ref q] m Q := by
  obtain ⟨w, bs⟩ := row
  obtain ⟨w1, w2, w3, w4, w5⟩ := hok
  have lq : look m (.ref q) = .lst (known.map .str) := by simp only [look, hq, Option.getD_some]
  have wE : Word ("error" : Str) := by
    refine ⟨by decide +kernel, by decide +kernel, by decide +kernel, by decide +kernel⟩
  have wV : Word ("vacant" : Str) := by
    refine ⟨by decide +kernel, by decide +kernel, by decide +kernel, by decide +kernel⟩
  have hall : ∀ x ∈ w :: bs, Word x := by
    intro x hx
    rcases List.mem_cons.mp hx with rfl | hx
    · exact w2
    · rcases hkw x (w5 x hx) with rfl | rfl | h
      · exact wE
      · exact wV
      · exact h
  have hbl : bs.length ≤ 100 := Nat.le_trans (nd_len bs known w4 w5) hl
  have hpos : 0 < bs.length := List.length_pos_iff.mpr w3
  refine ⟨rfl, ?_⟩
  show r_row_fault_11 _ _ _
  simp only [r_row_fault_11, tSq, DL.tIfS, tBinT, tBin, tV, tK, DL.tSet, tRt, tRtN, tAs, gSb, tFn, tAC, tA0, tDr, tApp, tExt, tPopA, tLstD, tTupD, tLstM, tCl, tMt, tPr, tNx, tSlD, tON, tOS, tIfD, DL.tAndT, DL.tOrT, DL.tNotT, tTru, tChainT, tNeg, tListM, List.map_cons, List.map_nil, List.length_cons, List.length_nil, List.replicate, List.cons_append, List.nil_append, List.getElem?_cons_zero, List.getElem?_cons_succ, List.set_cons_zero, List.set_cons_succ, Option.some.injEq, exists_eq_left', exists_eq_left, D.bl.injEq, D.int.injEq, D.str.injEq, D.lst.injEq, D.ref.injEq, if_true, if_false, Bool.true_eq_false, Bool.false_eq_true, startD, bodyEnds, Nat.reduceSub, Nat.reduceAdd, true_and, and_true]
  simp only [dEq, dEqB, look, Option.map_some, Option.some.injEq, exists_eq_left', D.bl.injEq, hkn, decide_false, Bool.false_eq_true, if_false]
  simp only [r_row_fault_10, tSq, DL.tIfS, tBinT, tBin, tV, tK, DL.tSet, tRt, tRtN, tAs, gSb, tFn, tAC, tA0, tDr, tApp, tExt, tPopA, tLstD, tTupD, tLstM, tCl, tMt, tPr, tNx, tSlD, tON, tOS, tIfD, DL.tAndT, DL.tOrT, DL.tNotT, tTru, tChainT, tNeg, tListM, List.map_cons, List.map_nil, List.length_cons, List.length_nil, List.replicate, List.cons_append, List.nil_append, List.getElem?_cons_zero, List.getElem?_cons_succ, List.set_cons_zero, List.set_cons_succ, Option.some.injEq, exists_eq_left', exists_eq_left, D.bl.injEq, D.int.injEq, D.str.injEq, D.lst.injEq, D.ref.injEq, if_true, if_false, Bool.true_eq_false, Bool.false_eq_true, startD, bodyEnds, Nat.reduceSub, Nat.reduceAdd, true_and, and_true]
  simp only [dIsi, tyD, clD, look, rowD, JB, kb_tup_tup, Option.map_some, Option.some.injEq, exists_eq_left', dTru, Bool.not_true, Bool.false_eq_true, if_false]
  have e1 : decide (((bs.length + 1 : Nat) : Int) < 2) = false := decide_eq_false (by omega)
  simp only [d1, dLen, look, List.length_cons, List.length_map, Option.some.injEq, exists_eq_left', dLt, d2IB, D.bl.injEq, e1, Bool.false_eq_true, if_false]
  refine are_words_ok (ws := w :: bs) (by rw [List.length_cons]; omega) hall ?_
  simp only [look, dTru, Option.some.injEq, exists_eq_left', Bool.not_true, Bool.false_eq_true, if_false]
  simp only [r_row_fault_9, tSq, DL.tIfS, tBinT, tBin, tV, tK, DL.tSet, tRt, tRtN, tAs, gSb, tFn, tAC, tA0, tDr, tApp, tExt, tPopA, tLstD, tTupD, tLstM, tCl, tMt, tPr, tNx, tSlD, tON, tOS, tIfD, DL.tAndT, DL.tOrT, DL.tNotT, tTru, tChainT, tNeg, tListM, List.map_cons, List.map_nil, List.length_cons, List.length_nil, List.replicate, List.cons_append, List.nil_append, List.getElem?_cons_zero, List.getElem?_cons_succ, List.set_cons_zero, List.set_cons_succ, Option.some.injEq, exists_eq_left', exists_eq_left, D.bl.injEq, D.int.injEq, D.str.injEq, D.lst.injEq, D.ref.injEq, if_true, if_false, Bool.true_eq_false, Bool.false_eq_true, startD, bodyEnds, Nat.reduceSub, Nat.reduceAdd, true_and, and_true]
  have i1 : dInB m (.str w) (.ref q) = some false := by rw [dInB_strs (.inl lq)]; simp only [w1, decide_false]
  refine ⟨.str w, dIx_tup rfl rfl (atI_pos (by decide) rfl), false, by unfold dIn; rw [i1]; rfl, ?_⟩
  simp only [Bool.false_eq_true, if_false]
  simp only [r_row_fault_8, tSq, DL.tIfS, tBinT, tBin, tV, tK, DL.tSet, tRt, tRtN, tAs, gSb, tFn, tAC, tA0, tDr, tApp, tExt, tPopA, tLstD, tTupD, tLstM, tCl, tMt, tPr, tNx, tSlD, tON, tOS, tIfD, DL.tAndT, DL.tOrT, DL.tNotT, tTru, tChainT, tNeg, tListM, List.map_cons, List.map_nil, List.length_cons, List.length_nil, List.replicate, List.cons_append, List.nil_append, List.getElem?_cons_zero, List.getElem?_cons_succ, List.set_cons_zero, List.set_cons_succ, Option.some.injEq, exists_eq_left', exists_eq_left, D.bl.injEq, D.int.injEq, D.str.injEq, D.lst.injEq, D.ref.injEq, if_true, if_false, Bool.true_eq_false, Bool.false_eq_true, startD, bodyEnds, Nat.reduceSub, Nat.reduceAdd, true_and, and_true]
  refine ⟨1, rfl, .tup (bs.map .str), ?_, ?_⟩
  · simp only [dSl, look]; rw [cut_from (by decide)]; rfl
  simp only [r_row_fault_7, tSq, DL.tIfS, tBinT, tBin, tV, tK, DL.tSet, tRt, tRtN, tAs, gSb, tFn, tAC, tA0, tDr, tApp, tExt, tPopA, tLstD, tTupD, tLstM, tCl, tMt, tPr, tNx, tSlD, tON, tOS, tIfD, DL.tAndT, DL.tOrT, DL.tNotT, tTru, tChainT, tNeg, tListM, List.map_cons, List.map_nil, List.length_cons, List.length_nil, List.replicate, List.cons_append, List.nil_append, List.getElem?_cons_zero, List.getElem?_cons_succ, List.set_cons_zero, List.set_cons_succ, Option.some.injEq, exists_eq_left', exists_eq_left, D.bl.injEq, D.int.injEq, D.str.injEq, D.lst.injEq, D.ref.injEq, if_true, if_false, Bool.true_eq_false, Bool.false_eq_true, startD, bodyEnds, Nat.reduceSub, Nat.reduceAdd, true_and, and_true]
  refine lc_pure (ds := bs.map .str) (fun _ => some (.bl true)) (fun R hR => ?_) (by rw [List.length_map]; exact smallLt (by omega)) (fun d m1 R hd hm hy _ => ?_) ?_
  · simp only [iSeq, dSeq, tSq, DL.tIfS, tBinT, tBin, tV, tK, DL.tSet, tRt, tRtN, tAs, gSb, tFn, tAC, tA0, tDr, tApp, tExt, tPopA, tLstD, tTupD, tLstM, tCl, tMt, tPr, tNx, tSlD, tON, tOS, tIfD, DL.tAndT, DL.tOrT, DL.tNotT, tTru, tChainT, tNeg, tListM, List.map_cons, List.map_nil, List.length_cons, List.length_nil, List.replicate, List.cons_append, List.nil_append, List.getElem?_cons_zero, List.getElem?_cons_succ, List.set_cons_zero, List.set_cons_succ, Option.some.injEq, exists_eq_left', exists_eq_left, D.bl.injEq, D.int.injEq, D.str.injEq, D.lst.injEq, D.ref.injEq, if_true, if_false, Bool.true_eq_false, Bool.false_eq_true, startD, bodyEnds, Nat.reduceSub, Nat.reduceAdd, true_and, and_true]
    exact hR
  · obtain ⟨c, hc, rfl⟩ := List.mem_map.mp hd
    obtain ⟨pp, acc, hpp, rfl⟩ := hm
    have qp : q ≠ pp := by rintro rfl; rw [hq] at hpp; cases hpp
    have lq1 : look (updM m pp (.lst acc)) (.ref q) = .lst (known.map .str) := by simp only [look, updM_ne qp, hq, Option.getD_some]
    simp only [tgD, gN, wipeD, tYe, r_row_fault_4, tSq, DL.tIfS, tBinT, tBin, tV, tK, DL.tSet, tRt, tRtN, tAs, gSb, tFn, tAC, tA0, tDr, tApp, tExt, tPopA, tLstD, tTupD, tLstM, tCl, tMt, tPr, tNx, tSlD, tON, tOS, tIfD, DL.tAndT, DL.tOrT, DL.tNotT, tTru, tChainT, tNeg, tListM, List.map_cons, List.map_nil, List.length_cons, List.length_nil, List.replicate, List.cons_append, List.nil_append, List.getElem?_cons_zero, List.getElem?_cons_succ, List.set_cons_zero, List.set_cons_succ, Option.some.injEq, exists_eq_left', exists_eq_left, D.bl.injEq, D.int.injEq, D.str.injEq, D.lst.injEq, D.ref.injEq, if_true, if_false, Bool.true_eq_false, Bool.false_eq_true, startD, bodyEnds, Nat.reduceSub, Nat.reduceAdd, true_and, and_true]
    have i2 : dInB (updM m pp (.lst acc)) (.str c) (.ref q) = some true := by
      rw [dInB_strs (.inl lq1)]
      have := w5 c hc
      simp only [this, decide_true]
    exact ⟨.bl true, by unfold dIn; rw [i2]; rfl, hy _ rfl⟩
  · rw [fm_true]
    refine ⟨.bl true, by simp only [d1, look]; exact dAll_true _, true, rfl, ?_⟩
    simp only [Bool.not_true, tLenSet, tSq, DL.tIfS, tBinT, tBin, tV, tK, DL.tSet, tRt, tRtN, tAs, gSb, tFn, tAC, tA0, tDr, tApp, tExt, tPopA, tLstD, tTupD, tLstM, tCl, tMt, tPr, tNx, tSlD, tON, tOS, tIfD, DL.tAndT, DL.tOrT, DL.tNotT, tTru, tChainT, tNeg, tListM, List.map_cons, List.map_nil, List.length_cons, List.length_nil, List.replicate, List.cons_append, List.nil_append, List.getElem?_cons_zero, List.getElem?_cons_succ, List.set_cons_zero, List.set_cons_succ, Option.some.injEq, exists_eq_left', exists_eq_left, D.bl.injEq, D.int.injEq, D.str.injEq, D.lst.injEq, D.ref.injEq, if_true, if_false, Bool.true_eq_false, Bool.false_eq_true, startD, bodyEnds, Nat.reduceSub, Nat.reduceAdd, true_and, and_true]
    have ek : keysOf (bs.map D.str) = some (bs.map Sum.inr) := keysOf_strs bs
    have nd2 : (bs.map (Sum.inr : Str → L2.Key)).Nodup := by
      rw [List.nodup_iff_pairwise_ne, List.pairwise_map]
      exact List.Pairwise.imp (fun h e => h (Sum.inr.inj e)) w4
    refine ⟨bs.map .str, bs.map Sum.inr, rfl, ek, by rw [List.length_map]; omega, ?_⟩
    rw [ndK_nodup nd2 _ (Nat.le_refl _), List.length_map]
    simp only [d1, dLen, look, List.length_map, Option.some.injEq, exists_eq_left', dLt, d2IB, D.bl.injEq]
    have e2 : decide ((bs.length : Int) < (bs.length : Int)) = false := decide_eq_false (by omega)
    simp only [e2, Bool.false_eq_true, if_false]
    simp only [r_row_fault_6, tSq, DL.tIfS, tBinT, tBin, tV, tK, DL.tSet, tRt, tRtN, tAs, gSb, tFn, tAC, tA0, tDr, tApp, tExt, tPopA, tLstD, tTupD, tLstM, tCl, tMt, tPr, tNx, tSlD, tON, tOS, tIfD, DL.tAndT, DL.tOrT, DL.tNotT, tTru, tChainT, tNeg, tListM, List.map_cons, List.map_nil, List.length_cons, List.length_nil, List.replicate, List.cons_append, List.nil_append, List.getElem?_cons_zero, List.getElem?_cons_succ, List.set_cons_zero, List.set_cons_succ, Option.some.injEq, exists_eq_left', exists_eq_left, D.bl.injEq, D.int.injEq, D.str.injEq, D.lst.injEq, D.ref.injEq, if_true, if_false, Bool.true_eq_false, Bool.false_eq_true, startD, bodyEnds, Nat.reduceSub, Nat.reduceAdd, true_and, and_true]
    exact dropR.self k
def nsC : List Str := [("rows" : Str), ("names" : Str), ("above" : Str)]
def vsC (rows : List Row) : List D := [.tup (rows.map rowD), .tup ((knownOf rows).map .str), dicA (alD (upsL rows))]
def clsD (C : Addr) (rows : List Row) : D := .ins C nsC (vsC rows)
theorem put1 (d : D) : fputN ("rows" : Str) [] = [("rows" : Str)] ∧ fputV ("rows" : Str) d [] [] = [d] := ⟨rfl, rfl⟩
theorem ne_rn : ¬ ("rows" : Str) = ("names" : Str) := by decide +kernel
theorem ne_ra : ¬ ("rows" : Str) = ("above" : Str) := by decide +kernel
theorem ne_na : ¬ ("names" : Str) = ("above" : Str) := by decide +kernel
theorem put2N : fputN ("names" : Str) [("rows" : Str)] = [("rows" : Str), ("names" : Str)] := by simp only [fputN, if_neg ne_rn]
theorem put2V (d e : D) : fputV ("names" : Str) e [("rows" : Str)] [d] = [d, e] := by simp only [fputV, if_neg ne_rn]
theorem put3N : fputN ("above" : Str) [("rows" : Str), ("names" : Str)] = nsC := by simp only [fputN, if_neg ne_ra, if_neg ne_na]; rfl
theorem put3V (d e f : D) : fputV ("above" : Str) f [("rows" : Str), ("names" : Str)] [d, e] = [d, e, f] := by simp only [fputV, if_neg ne_ra, if_neg ne_na]
theorem first_eq : (c_FIRST.map D.str) = ((knownOf []).map .str) := rfl
theorem init_ok {m : M} {C x : Addr} {rows : List Row} {Q : DK} (hx : m x = some (.ins C [] [])) (hn : rows.length ≤ 30) (hr : RowsOk rows) (k : Q .non (updM m x (clsD C rows))) : sp_Classes_init C (.ref x :: rows.map rowD) m Q := by
  refine ⟨by simp, by simp; exact small (by omega), rfl, ?_⟩
  show r_Classes_init_16 C _ _ _
  simp only [r_Classes_init_16, tSq, DL.tIfS, tBinT, tBin, tV, tK, DL.tSet, tRt, tRtN, tAs, gSb, tFn, tAC, tA0, tDr, tApp, tExt, tPopA, tLstD, tTupD, tLstM, tCl, tMt, tPr, tNx, tSlD, tON, tOS, tIfD, DL.tAndT, DL.tOrT, DL.tNotT, tTru, tChainT, tNeg, tListM, List.map_cons, List.map_nil, List.length_cons, List.length_nil, List.replicate, List.cons_append, List.nil_append, List.getElem?_cons_zero, List.getElem?_cons_succ, List.set_cons_zero, List.set_cons_succ, Option.some.injEq, exists_eq_left', exists_eq_left, D.bl.injEq, D.int.injEq, D.str.injEq, D.lst.injEq, D.ref.injEq, if_true, if_false, Bool.true_eq_false, Bool.false_eq_true, startD, bodyEnds, Nat.reduceSub, Nat.reduceAdd, true_and, and_true, List.take_succ_cons, List.take_zero, List.drop_succ_cons, List.drop_zero]
  refine ⟨.tup (c_FIRST.map .str), c_FIRST.map .str, rfl, rfl, fun n hnn => ?_⟩
  have xn : x ≠ n := by rintro rfl; rw [hx] at hnn; cases hnn
  simp only [r_Classes_init_15, tSq, DL.tIfS, tBinT, tBin, tV, tK, DL.tSet, tRt, tRtN, tAs, gSb, tFn, tAC, tA0, tDr, tApp, tExt, tPopA, tLstD, tTupD, tLstM, tCl, tMt, tPr, tNx, tSlD, tON, tOS, tIfD, DL.tAndT, DL.tOrT, DL.tNotT, tTru, tChainT, tNeg, tListM, List.map_cons, List.map_nil, List.length_cons, List.length_nil, List.replicate, List.cons_append, List.nil_append, List.getElem?_cons_zero, List.getElem?_cons_succ, List.set_cons_zero, List.set_cons_succ, Option.some.injEq, exists_eq_left', exists_eq_left, D.bl.injEq, D.int.injEq, D.str.injEq, D.lst.injEq, D.ref.injEq, if_true, if_false, Bool.true_eq_false, Bool.false_eq_true, startD, bodyEnds, Nat.reduceSub, Nat.reduceAdd, true_and, and_true, tDicM, tPrs]
  intro b hb
  have nb : n ≠ b := by rintro rfl; rw [updM_same] at hb; cases hb
  have hb0 : m b = none := by rw [updM_ne nb.symm] at hb; exact hb
  have xb : x ≠ b := by rintro rfl; rw [hx] at hb0; cases hb0
  refine ⟨by decide, by decide, updM_same, [.inr ("error" : Str), .inr ("vacant" : Str)], rfl, two_nd, by decide, ?_⟩
  rw [updM_over]
  simp only [r_Classes_init_14, tSq, DL.tIfS, tBinT, tBin, tV, tK, DL.tSet, tRt, tRtN, tAs, gSb, tFn, tAC, tA0, tDr, tApp, tExt, tPopA, tLstD, tTupD, tLstM, tCl, tMt, tPr, tNx, tSlD, tON, tOS, tIfD, DL.tAndT, DL.tOrT, DL.tNotT, tTru, tChainT, tNeg, tListM, List.map_cons, List.map_nil, List.length_cons, List.length_nil, List.replicate, List.cons_append, List.nil_append, List.getElem?_cons_zero, List.getElem?_cons_succ, List.set_cons_zero, List.set_cons_succ, Option.some.injEq, exists_eq_left', exists_eq_left, D.bl.injEq, D.int.injEq, D.str.injEq, D.lst.injEq, D.ref.injEq, if_true, if_false, Bool.true_eq_false, Bool.false_eq_true, startD, bodyEnds, Nat.reduceSub, Nat.reduceAdd, true_and, and_true, tFo, iEn]
  refine ⟨rows.map rowD, .inr rfl, ?_⟩
  have eL : (enumD (rows.map rowD)).length = rows.length := by rw [enumD_length, List.length_map]
  refine forD_inv (fun i env m' => ∃ e4 e5 e6 e7 e8 e9, env = [some (.ref x), some (.tup (rows.map rowD)), some (.ref n), some (.ref b), e4, e5, e6, e7, e8, e9] ∧ m' = updM (updM m n (.lst ((knownOf (rows.take i)).map .str))) b (dicA (alD (upsL (rows.take i)))) ∧ UpOk (upsL (rows.take i)))
    ⟨none, none, none, none, none, none, rfl, rfl, base0_ok⟩ ?_ ?_
  · rintro i d env m' N hd ⟨e4, e5, e6, e7, e8, e9, rfl, rfl, hok⟩ hN
    obtain ⟨rd, hrd, rfl⟩ := enumD_get hd
    rw [List.getElem?_map] at hrd
    obtain ⟨row, hri, rfl⟩ := Option.map_eq_some_iff.mp hrd
    have hi : i < rows.length := by
      rcases Nat.lt_or_ge i rows.length with z | z
      · exact z
      · rw [List.getElem?_eq_none z] at hri; cases hri
    have hrow := hr i row hri
    obtain ⟨w, bs⟩ := row
    obtain ⟨w1, w2, w3, w4, w5⟩ := id hrow
    have hkeys := upsL_keys (rows.take i)
    have htk : rows.take (i + 1) = rows.take i ++ [(w, bs)] := by
      rw [List.take_add_one, hri] <;> rfl
    have hkn : knownOf (rows.take (i + 1)) = knownOf (rows.take i) ++ [w] := by rw [htk, knownOf_snoc]
    have klen : (knownOf (rows.take i)).length ≤ 32 := by rw [knownOf_len, List.length_take]; omega
    have hkw : ∀ y ∈ knownOf (rows.take i), y = "error" ∨ y = "vacant" ∨ Word y := by
      intro y hy
      unfold knownOf at hy
      rcases List.mem_append.mp hy with hy | hy
      · simp only [List.mem_cons, List.not_mem_nil, or_false] at hy
        rcases hy with h | h
        · exact .inl h
        · exact .inr (.inl h)
      · obtain ⟨r, hr2, rfl⟩ := List.mem_map.mp hy
        obtain ⟨j, hj⟩ := List.mem_iff_getElem?.mp (List.mem_of_mem_take hr2)
        exact .inr (.inr (hr j r hj).2.1)
    rw [← hkeys] at w1 w5
    have alen : (upsL (rows.take i)).length ≤ 32 := by
      have := congrArg List.length hkeys
      unfold keysA at this
      rw [List.length_map] at this
      omega
    have hup : upsL (rows.take (i + 1)) = upsL (rows.take i) ++ [(w, mine (upsL (rows.take i)) w bs)] := by rw [htk, upsL_snoc]; rfl
    generalize hkk : knownOf (rows.take i) = known at *
    generalize upsL (rows.take i) = al at *
    have m_n : ∀ a c, updM (updM m n a) b c n = some a := fun a c => by rw [updM_ne nb, updM_same]
    have m_b : ∀ a c, updM (updM m n a) b c b = some c := fun a c => updM_same
    refine ⟨[.int i, rowD (w, bs)], rfl, rfl, ?_⟩
    simp only [setL, r_Classes_init_10, tSq, DL.tIfS, tBinT, tBin, tV, tK, DL.tSet, tRt, tRtN, tAs, gSb, tFn, tAC, tA0, tDr, tApp, tExt, tPopA, tLstD, tTupD, tLstM, tCl, tMt, tPr, tNx, tSlD, tON, tOS, tIfD, DL.tAndT, DL.tOrT, DL.tNotT, tTru, tChainT, tNeg, tListM, List.map_cons, List.map_nil, List.length_cons, List.length_nil, List.replicate, List.cons_append, List.nil_append, List.getElem?_cons_zero, List.getElem?_cons_succ, List.set_cons_zero, List.set_cons_succ, Option.some.injEq, exists_eq_left', exists_eq_left, D.bl.injEq, D.int.injEq, D.str.injEq, D.lst.injEq, D.ref.injEq, if_true, if_false, Bool.true_eq_false, Bool.false_eq_true, startD, bodyEnds, Nat.reduceSub, Nat.reduceAdd, true_and, and_true]
    refine fault_none (known := known) (m_n _ _) hrow hkw (by omega) (by omega) ?_
    simp only [r_Classes_init_9, tSq, DL.tIfS, tBinT, tBin, tV, tK, DL.tSet, tRt, tRtN, tAs, gSb, tFn, tAC, tA0, tDr, tApp, tExt, tPopA, tLstD, tTupD, tLstM, tCl, tMt, tPr, tNx, tSlD, tON, tOS, tIfD, DL.tAndT, DL.tOrT, DL.tNotT, tTru, tChainT, tNeg, tListM, List.map_cons, List.map_nil, List.length_cons, List.length_nil, List.replicate, List.cons_append, List.nil_append, List.getElem?_cons_zero, List.getElem?_cons_succ, List.set_cons_zero, List.set_cons_succ, Option.some.injEq, exists_eq_left', exists_eq_left, D.bl.injEq, D.int.injEq, D.str.injEq, D.lst.injEq, D.ref.injEq, if_true, if_false, Bool.true_eq_false, Bool.false_eq_true, startD, bodyEnds, Nat.reduceSub, Nat.reduceAdd, true_and, and_true]
    simp only [dIsNot, Option.some.injEq, exists_eq_left', D.bl.injEq, Bool.false_eq_true, if_false]
    simp only [r_Classes_init_8, tSq, DL.tIfS, tBinT, tBin, tV, tK, DL.tSet, tRt, tRtN, tAs, gSb, tFn, tAC, tA0, tDr, tApp, tExt, tPopA, tLstD, tTupD, tLstM, tCl, tMt, tPr, tNx, tSlD, tON, tOS, tIfD, DL.tAndT, DL.tOrT, DL.tNotT, tTru, tChainT, tNeg, tListM, List.map_cons, List.map_nil, List.length_cons, List.length_nil, List.replicate, List.cons_append, List.nil_append, List.getElem?_cons_zero, List.getElem?_cons_succ, List.set_cons_zero, List.set_cons_succ, Option.some.injEq, exists_eq_left', exists_eq_left, D.bl.injEq, D.int.injEq, D.str.injEq, D.lst.injEq, D.ref.injEq, if_true, if_false, Bool.true_eq_false, Bool.false_eq_true, startD, bodyEnds, Nat.reduceSub, Nat.reduceAdd, true_and, and_true]
    refine ⟨.str w, dIx_tup rfl rfl (atI_pos (by decide) rfl), by decide, fun f hf => ?_⟩
    have bf : b ≠ f := by rintro rfl; rw [updM_same] at hf; cases hf
    have nf : n ≠ f := by rintro rfl; rw [m_n] at hf; cases hf
    simp only [r_Classes_init_7, tSq, DL.tIfS, tBinT, tBin, tV, tK, DL.tSet, tRt, tRtN, tAs, gSb, tFn, tAC, tA0, tDr, tApp, tExt, tPopA, tLstD, tTupD, tLstM, tCl, tMt, tPr, tNx, tSlD, tON, tOS, tIfD, DL.tAndT, DL.tOrT, DL.tNotT, tTru, tChainT, tNeg, tListM, List.map_cons, List.map_nil, List.length_cons, List.length_nil, List.replicate, List.cons_append, List.nil_append, List.getElem?_cons_zero, List.getElem?_cons_succ, List.set_cons_zero, List.set_cons_succ, Option.some.injEq, exists_eq_left', exists_eq_left, D.bl.injEq, D.int.injEq, D.str.injEq, D.lst.injEq, D.ref.injEq, if_true, if_false, Bool.true_eq_false, Bool.false_eq_true, startD, bodyEnds, Nat.reduceSub, Nat.reduceAdd, true_and, and_true, tFo, iSeq]
    refine ⟨1, rfl, .tup (bs.map .str), ?_, bs.map .str, rfl, ?_⟩
    · simp only [dSl, look, rowD]; rw [cut_from (by decide)]; rfl
    refine forD_inv (ds := bs.map .str) (fun j env m' => ∃ e8 e9, env = [some (.ref x), some (.tup (rows.map rowD)), some (.ref n), some (.ref b), some (.int i), some (rowD (w, bs)), some .non, some (.ref f), e8, e9] ∧ m' = updM (updM (updM m n (.lst (known.map .str))) b (dicA (alD al))) f (lD ((bs.take j).foldl (addB al) [w])))
      ⟨e8, e9, rfl, rfl⟩ ?_ ?_
    · rintro j d env m' N2 hd ⟨e8, e9, rfl, rfl⟩ hN2
      rw [List.getElem?_map] at hd
      obtain ⟨bb, hbj, rfl⟩ := Option.map_eq_some_iff.mp hd
      have hbm := w5 bb (List.mem_of_getElem? hbj)
      obtain ⟨bi, us, hus, hix⟩ := ulk_some hbm
      have hacc := Acc.fold hok (bs.take j) [w] (.start al w) fun x hx => w5 x (List.mem_of_mem_take hx)
      have hbt : bs.take (j + 1) = bs.take j ++ [bb] := by
        rw [List.take_add_one, hbj] <;> rfl
      have hadd : (bs.take (j + 1)).foldl (addB al) [w] = addB al ((bs.take j).foldl (addB al) [w]) bb := by rw [hbt, List.foldl_append]; rfl
      generalize (bs.take j).foldl (addB al) [w] = acc at *
      have lus := entry_len hok hix
      have lacc := acc_len hacc
      have hd1 : dIx (updM (updM (updM m n (.lst (known.map .str))) b (dicA (alD al))) f (lD acc)) (.ref b) (.str bb) = some (lD us) := dIx_al (al := alD al) (by simp only [look, updM_ne bf, updM_same, Option.getD_some]) rfl (by rw [alook_alD, hus]; rfl)
      simp only [tgD, gN, r_Classes_init_4, tSq, DL.tIfS, tBinT, tBin, tV, tK, DL.tSet, tRt, tRtN, tAs, gSb, tFn, tAC, tA0, tDr, tApp, tExt, tPopA, tLstD, tTupD, tLstM, tCl, tMt, tPr, tNx, tSlD, tON, tOS, tIfD, DL.tAndT, DL.tOrT, DL.tNotT, tTru, tChainT, tNeg, tListM, List.map_cons, List.map_nil, List.length_cons, List.length_nil, List.replicate, List.cons_append, List.nil_append, List.getElem?_cons_zero, List.getElem?_cons_succ, List.set_cons_zero, List.set_cons_succ, Option.some.injEq, exists_eq_left', exists_eq_left, D.bl.injEq, D.int.injEq, D.str.injEq, D.lst.injEq, D.ref.injEq, if_true, if_false, Bool.true_eq_false, Bool.false_eq_true, startD, bodyEnds, Nat.reduceSub, Nat.reduceAdd, true_and, and_true]
      refine ⟨f, _, rfl, updM_same, ?_⟩
      refine lc_pure (ds := us.map .str) (newF acc) (fun R hR => ?_) (by rw [List.length_map]; exact smallLt (by omega)) (fun d m1 R hd hm hy hno => ?_) ?_
      · simp only [iSeq, tSq, DL.tIfS, tBinT, tBin, tV, tK, DL.tSet, tRt, tRtN, tAs, gSb, tFn, tAC, tA0, tDr, tApp, tExt, tPopA, tLstD, tTupD, tLstM, tCl, tMt, tPr, tNx, tSlD, tON, tOS, tIfD, DL.tAndT, DL.tOrT, DL.tNotT, tTru, tChainT, tNeg, tListM, List.map_cons, List.map_nil, List.length_cons, List.length_nil, List.replicate, List.cons_append, List.nil_append, List.getElem?_cons_zero, List.getElem?_cons_succ, List.set_cons_zero, List.set_cons_succ, Option.some.injEq, exists_eq_left', exists_eq_left, D.bl.injEq, D.int.injEq, D.str.injEq, D.lst.injEq, D.ref.injEq, if_true, if_false, Bool.true_eq_false, Bool.false_eq_true, startD, bodyEnds, Nat.reduceSub, Nat.reduceAdd, true_and, and_true, hd1]
        exact ⟨_, rfl, hR⟩
      · obtain ⟨z, hz, rfl⟩ := List.mem_map.mp hd
        obtain ⟨pp, ac, hpp, rfl⟩ := hm
        have fp : f ≠ pp := by rintro rfl; rw [updM_same] at hpp; cases hpp
        have lf : look (updM (updM (updM (updM m n (.lst (known.map .str))) b (dicA (alD al))) f (lD acc)) pp (.lst ac)) (.ref f) = lD acc := by simp only [look, updM_ne fp, updM_same, Option.getD_some]
        simp only [tgD, gN, wipeD, r_Classes_init_2, r_Classes_init_3, tSq, DL.tIfS, tBinT, tBin, tV, tK, DL.tSet, tRt, tRtN, tAs, gSb, tFn, tAC, tA0, tDr, tApp, tExt, tPopA, tLstD, tTupD, tLstM, tCl, tMt, tPr, tNx, tSlD, tON, tOS, tIfD, DL.tAndT, DL.tOrT, DL.tNotT, tTru, tChainT, tNeg, tListM, List.map_cons, List.map_nil, List.length_cons, List.length_nil, List.replicate, List.cons_append, List.nil_append, List.getElem?_cons_zero, List.getElem?_cons_succ, List.set_cons_zero, List.set_cons_succ, Option.some.injEq, exists_eq_left', exists_eq_left, D.bl.injEq, D.int.injEq, D.str.injEq, D.lst.injEq, D.ref.injEq, if_true, if_false, Bool.true_eq_false, Bool.false_eq_true, startD, bodyEnds, Nat.reduceSub, Nat.reduceAdd, true_and, and_true]
        have i2 := dInB_strs (m := updM (updM (updM (updM m n (.lst (known.map .str))) b (dicA (alD al))) f (lD acc)) pp (.lst ac)) (y := .ref f) (x := z) (xs := acc) (.inl lf)
        simp only [dNotIn, i2, Option.map_some, Option.some.injEq, exists_eq_left', D.bl.injEq]
        by_cases hxa : z ∈ acc
        · simp only [hxa, decide_true, Bool.not_true, Bool.false_eq_true, if_false]
          exact hno (if_pos hxa)
        · simp only [hxa, decide_false, Bool.not_false, if_true]
          exact hy _ (if_neg hxa)
      · rw [newF_eq]
        have hz : acc.length + (us.filter fun x => decide (x ∉ acc)).length ≤ 1000 := by
          have := List.length_filter_le (fun x => decide (x ∉ acc)) us
          omega
        refine ⟨acc.map .str, _, updM_same, rfl, by rw [List.length_map, List.length_map]; exact small hz, hN2 _ _ ⟨some (.str bb), e9, rfl, ?_⟩⟩
        rw [updM_over, hadd, ← List.map_append]
        unfold addB
        rw [hus, Option.getD_some]; rfl
    · rintro env m' ⟨e8, e9, rfl, rfl⟩
      rw [List.length_map, List.take_length]
      simp only [r_Classes_init_6, tSq, DL.tIfS, tBinT, tBin, tV, tK, DL.tSet, tRt, tRtN, tAs, gSb, tFn, tAC, tA0, tDr, tApp, tExt, tPopA, tLstD, tTupD, tLstM, tCl, tMt, tPr, tNx, tSlD, tON, tOS, tIfD, DL.tAndT, DL.tOrT, DL.tNotT, tTru, tChainT, tNeg, tListM, List.map_cons, List.map_nil, List.length_cons, List.length_nil, List.replicate, List.cons_append, List.nil_append, List.getElem?_cons_zero, List.getElem?_cons_succ, List.set_cons_zero, List.set_cons_succ, Option.some.injEq, exists_eq_left', exists_eq_left, D.bl.injEq, D.int.injEq, D.str.injEq, D.lst.injEq, D.ref.injEq, if_true, if_false, Bool.true_eq_false, Bool.false_eq_true, startD, bodyEnds, Nat.reduceSub, Nat.reduceAdd, true_and, and_true, tFrz]
      refine ⟨lD (mine al w bs), updM_same, ?_⟩
      rw [delM_upd hf]
      refine ⟨.str w, dIx_tup rfl rfl (atI_pos (by decide) rfl), ?_⟩
      simp only [dStore, updM_same, dicA]
      refine ⟨.inr w, rfl, by rw [List.length_map]; unfold alD; rw [List.length_map]; exact smallLt (by omega), ?_⟩
      rw [dput_new (by rw [alD_keys]; exact w1)]
      have hme := mine_entry (w := w) hok w5 w3
      simp only [r_Classes_init_5, tSq, DL.tIfS, tBinT, tBin, tV, tK, DL.tSet, tRt, tRtN, tAs, gSb, tFn, tAC, tA0, tDr, tApp, tExt, tPopA, tLstD, tTupD, tLstM, tCl, tMt, tPr, tNx, tSlD, tON, tOS, tIfD, DL.tAndT, DL.tOrT, DL.tNotT, tTru, tChainT, tNeg, tListM, List.map_cons, List.map_nil, List.length_cons, List.length_nil, List.replicate, List.cons_append, List.nil_append, List.getElem?_cons_zero, List.getElem?_cons_succ, List.set_cons_zero, List.set_cons_succ, Option.some.injEq, exists_eq_left', exists_eq_left, D.bl.injEq, D.int.injEq, D.str.injEq, D.lst.injEq, D.ref.injEq, if_true, if_false, Bool.true_eq_false, Bool.false_eq_true, startD, bodyEnds, Nat.reduceSub, Nat.reduceAdd, true_and, and_true]
      refine ⟨n, _, rfl, by rw [updM_ne nb, updM_ne nb, updM_same], .str w, dIx_tup rfl rfl (atI_pos (by decide) rfl), known.map .str, by rw [updM_ne nb, updM_ne nb, updM_same], by rw [List.length_map]; exact smallLt (by omega), ?_⟩
      refine hN _ _ ⟨_, _, _, _, _, _, rfl, ?_, ?_⟩
      · show updM (updM (updM (updM m n (.lst (known.map .str))) b (dicA (alD al))) b _) n _ = _
        rw [updM_over, updM_comm nb.symm, updM_over, hup, hkn]
        unfold alD
        rw [List.map_append, List.map_append]; rfl
      · rw [hup]; exact hok.snoc hme
  · rintro env m' ⟨e4, e5, e6, e7, e8, e9, rfl, rfl, hok⟩
    rw [eL, List.take_length]
    have m_x : ∀ a c, updM (updM m n a) b c x = some (.ins C [] []) := fun a c => by rw [updM_ne xb, updM_ne xn, hx]
    simp only [r_Classes_init_13, r_Classes_init_12, r_Classes_init_11, tSq, DL.tIfS, tBinT, tBin, tV, tK, DL.tSet, tRt, tRtN, tAs, gSb, tFn, tAC, tA0, tDr, tApp, tExt, tPopA, tLstD, tTupD, tLstM, tCl, tMt, tPr, tNx, tSlD, tON, tOS, tIfD, DL.tAndT, DL.tOrT, DL.tNotT, tTru, tChainT, tNeg, tListM, List.map_cons, List.map_nil, List.length_cons, List.length_nil, List.replicate, List.cons_append, List.nil_append, List.getElem?_cons_zero, List.getElem?_cons_succ, List.set_cons_zero, List.set_cons_succ, Option.some.injEq, exists_eq_left', exists_eq_left, D.bl.injEq, D.int.injEq, D.str.injEq, D.lst.injEq, D.ref.injEq, if_true, if_false, Bool.true_eq_false, Bool.false_eq_true, startD, bodyEnds, Nat.reduceSub, Nat.reduceAdd, true_and, and_true, tFlS, tFrz]
    refine ⟨x, [], [], rfl, m_x _ _, by decide, ?_⟩
    have l1 : ∀ d, look (updM (updM (updM m n (.lst ((knownOf rows).map .str))) b (dicA (alD (upsL rows)))) x d) (.ref n) = .lst ((knownOf rows).map .str) := fun d => by simp only [look, updM_ne xn.symm, updM_ne nb, updM_same, Option.getD_some]
    refine ⟨.tup ((knownOf rows).map .str), by simp only [d1, l1, dTuple], x, [("rows" : Str)], [.tup (rows.map rowD)], rfl, updM_same, by simp, ?_⟩
    rw [updM_over]
    refine ⟨dicA (alD (upsL rows)), by rw [updM_ne xb.symm, updM_same], x, [("rows" : Str), ("names" : Str)], [.tup (rows.map rowD), .tup ((knownOf rows).map .str)], rfl, ?_, by simp, ?_⟩
    · unfold delM
      rw [if_neg xb, updM_same, put2N, put2V]
    · rw [put3N, put3V]
      refine ⟨updM m x (clsD C rows), fun z => ?_, k⟩
      unfold updM delM
      by_cases z1 : z = x
      · left; subst z1; simp [clsD, vsC]
      · by_cases z2 : z = b
        · right; subst z2; simp [z1, hb0]
        · by_cases z3 : z = n
          · right; subst z3; simp [z1, hnn]
          · left; simp [z1, z2, z3]
theorem made_ok {m : M} {C : Addr} {rows : List Row} {Q : DK} (hn : rows.length ≤ 30) (hr : RowsOk rows) (k : Q (clsD C rows) m) : sp_Classes_made C [.ref C, .lst (rows.map rowD)] m Q := by
  refine ⟨rfl, ?_⟩
  show r_Classes_made_1 C _ _ _
  simp only [r_Classes_made_1, tSq, DL.tIfS, tBinT, tBin, tV, tK, DL.tSet, tRt, tRtN, tAs, gSb, tFn, tAC, tA0, tDr, tApp, tExt, tPopA, tLstD, tTupD, tLstM, tCl, tMt, tPr, tNx, tSlD, tON, tOS, tIfD, DL.tAndT, DL.tOrT, DL.tNotT, tTru, tChainT, tNeg, tListM, List.map_cons, List.map_nil, List.length_cons, List.length_nil, List.replicate, List.cons_append, List.nil_append, List.getElem?_cons_zero, List.getElem?_cons_succ, List.set_cons_zero, List.set_cons_succ, Option.some.injEq, exists_eq_left', exists_eq_left, D.bl.injEq, D.int.injEq, D.str.injEq, D.lst.injEq, D.ref.injEq, if_true, if_false, Bool.true_eq_false, Bool.false_eq_true, startD, bodyEnds, Nat.reduceSub, Nat.reduceAdd, true_and, and_true, tFrz, tNwF, tNw, tAS]
  refine ⟨rows.map rowD, .inr rfl, fun x hx => ?_⟩
  rw [List.append_nil]
  refine init_ok updM_same hn hr ?_
  rw [updM_over]
  refine ⟨rfl, clsD C rows, updM_same, ?_⟩
  rw [delM_upd hx]
  exact dropR.self k
theorem get_above (C : Addr) (rows : List Row) : fget ("above" : Str) nsC (vsC rows) = some (dicA (alD (upsL rows))) := by
  simp only [nsC, vsC, fget, if_neg ne_ra, if_neg ne_na, if_true]
theorem within_ok {m : M} {C : Addr} {rows : List Row} {one other : Str} {us : List Str} {Q : DK} (hus : ulk (upsL rows) one = some us) (k : Q (.bl (decide (other ∈ us))) m) : sp_Classes_within C [clsD C rows, .str one, .str other] m Q := by
  refine ⟨rfl, ?_⟩
  show r_Classes_within_1 C _ _ _
  simp only [r_Classes_within_1, tSq, DL.tIfS, tBinT, tBin, tV, tK, DL.tSet, tRt, tRtN, tAs, gSb, tFn, tAC, tA0, tDr, tApp, tExt, tPopA, tLstD, tTupD, tLstM, tCl, tMt, tPr, tNx, tSlD, tON, tOS, tIfD, DL.tAndT, DL.tOrT, DL.tNotT, tTru, tChainT, tNeg, tListM, List.map_cons, List.map_nil, List.length_cons, List.length_nil, List.replicate, List.cons_append, List.nil_append, List.getElem?_cons_zero, List.getElem?_cons_succ, List.set_cons_zero, List.set_cons_succ, Option.some.injEq, exists_eq_left', exists_eq_left, D.bl.injEq, D.int.injEq, D.str.injEq, D.lst.injEq, D.ref.injEq, if_true, if_false, Bool.true_eq_false, Bool.false_eq_true, startD, bodyEnds, Nat.reduceSub, Nat.reduceAdd, true_and, and_true, tFl]
  refine ⟨nsC, vsC rows, _, rfl, get_above C rows, lD us, dIx_al (al := alD (upsL rows)) rfl rfl (by rw [alook_alD, hus]; rfl), .bl (decide (other ∈ us)), ?_, dropR.self k⟩
  unfold dIn
  rw [dInB_strs (.inl rfl)]; rfl
/-! words and rows as data -/
theorem word_okS {w : Str} (h : Word w) : okS w := by
  obtain ⟨h1, h2, h3, h4⟩ := h
  refine ⟨?_, h2⟩
  unfold PyData.strOk
  rw [← Array.all_toList, List.all_eq_true]
  intro c hc
  have hc := h4 c hc
  rw [lt_eq] at hc
  have : ∀ c ∈ Lt, decide (c < 0x110000) = true := by decide
  exact this c hc
theorem RowsOk.take {rows : List Row} (h : RowsOk rows) (n : Nat) : RowsOk (rows.take n) := fun i r e => by
  have hi : i < (rows.take n).length := by
    rcases Nat.lt_or_ge i (rows.take n).length with z | z
    · exact z
    · rw [List.getElem?_eq_none z] at e; cases e
  rw [List.length_take] at hi
  rw [List.getElem?_take_of_lt (by omega)] at e
  rw [List.take_take, Nat.min_eq_left (by omega)]
  exact h i r e
theorem known_okS {rows : List Row} (h : RowsOk rows) {x : Str} (hx : x ∈ knownOf rows) : okS x := by
  unfold knownOf at hx
  rcases List.mem_append.mp hx with hx | hx
  · simp only [List.mem_cons, List.not_mem_nil, or_false] at hx
    rcases hx with rfl | rfl <;> exact ⟨by decide +kernel, by decide +kernel⟩
  · obtain ⟨r, hr, rfl⟩ := List.mem_map.mp hx
    obtain ⟨j, hj⟩ := List.mem_iff_getElem?.mp hr
    exact word_okS (h j r hj).2.1
theorem known_take {rows : List Row} {i : Nat} {x : Str} (hx : x ∈ knownOf (rows.take i)) : x ∈ knownOf rows := by
  unfold knownOf at hx ⊢
  rcases List.mem_append.mp hx with hx | hx
  · exact List.mem_append_left _ hx
  · refine List.mem_append_right _ ?_
    obtain ⟨r, hr, rfl⟩ := List.mem_map.mp hx
    exact List.mem_map_of_mem (List.mem_of_mem_take hr)
structure OkRow (r : Row) : Prop where
  w : okS r.1
  b : ∀ b ∈ r.2, okS b
  l : r.2.length ≤ 32
theorem okRows {rows : List Row} (hn : rows.length ≤ 30) (h : RowsOk rows) : ∀ r ∈ rows, OkRow r := fun r hr => by
  obtain ⟨j, hj⟩ := List.mem_iff_getElem?.mp hr
  obtain ⟨h1, h2, h3, h4, h5⟩ := h j r hj
  refine ⟨word_okS h2, fun b hb => known_okS h (known_take (h5 b hb)), ?_⟩
  have := nd_len r.2 _ h4 h5
  rw [knownOf_len, List.length_take] at this
  omega
theorem fit_row {r : Row} {n : Nat} (h : OkRow r) : Fit (rowD r) (n + 1) 710 := by
  have g := FitL.tup (FitL.cons (fit_str (n := n) h.w) (FitL.all (f := D.str) r.2 fun s hs => fit_str (n := n) (h.b s hs)))
  exact g.le (by have := h.l; omega)
theorem fit_rows {rows : List Row} (hn : rows.length ≤ 31) (h : ∀ r ∈ rows, OkRow r) {n : Nat} : Fit (.tup (rows.map rowD)) (n + 2) 25000 :=
  (FitL.tup (FitL.all rows fun r hr => fit_row (n := n) (h r hr))).le (by omega)
theorem fit_names {names : List Str} (hn : names.length ≤ 40) (h : ∀ s ∈ names, okS s) {n : Nat} : Fit (.tup (names.map .str)) (n + 1) 1000 :=
  (FitL.tup (FitL.all (f := D.str) names fun s hs => fit_str (n := n) (h s hs))).le (by omega)
/-! == of rows -/
theorem eqv_strs : ∀ xs ys : List Str, PyData.eqvAll (toPdL (xs.map D.str)) (toPdL (ys.map D.str)) = decide (xs = ys)
  | [], [] => rfl
  | [], _ :: _ => rfl
  | _ :: _, [] => rfl
  | x :: xs, y :: ys => by
    simp only [List.map_cons, toPdL, toPd, PyData.eqvAll, PyData.eqv, eqv_strs xs ys, List.cons.injEq]
    by_cases h : x = y <;> simp [h]
theorem eqv_row (r q : Row) : PyData.eqv (toPd (rowD r)) (toPd (rowD q)) = decide (r = q) := by
  obtain ⟨a, as⟩ := r
  obtain ⟨b, bs⟩ := q
  have := eqv_strs (a :: as) (b :: bs)
  simp only [rowD, toPd, PyData.eqv]
  rw [show (D.str a :: as.map D.str) = (a :: as).map D.str from rfl, show (D.str b :: bs.map D.str) = (b :: bs).map D.str from rfl, this]
  simp [Prod.ext_iff]
theorem eqv_rows : ∀ xs ys : List Row, PyData.eqvAll (toPdL (xs.map rowD)) (toPdL (ys.map rowD)) = decide (xs = ys)
  | [], [] => rfl
  | [], _ :: _ => rfl
  | _ :: _, [] => rfl
  | x :: xs, y :: ys => by
    simp only [List.map_cons, toPdL, PyData.eqvAll, eqv_row, eqv_rows xs ys, List.cons.injEq]
    by_cases h : x = y <;> simp [h]
theorem eq_rows {xs ys : List Row} (hx : xs.length ≤ 31) (hy : ys.length ≤ 31) (ox : ∀ r ∈ xs, OkRow r) (oy : ∀ r ∈ ys, OkRow r) : dEqB (.tup (xs.map rowD)) (.tup (ys.map rowD)) = some (decide (xs = ys)) := by
  unfold dEqB
  simp only
  rw [if_pos ⟨(fit_rows (n := 58) hx ox).dat, (fit_rows (n := 58) hy oy).dat⟩]
  exact congrArg some (eqv_rows xs ys)
/-! the methods -/
theorem get_rowsC (C : Addr) (rows : List Row) : fget ("rows" : Str) nsC (vsC rows) = some (.tup (rows.map rowD)) := by simp only [nsC, vsC, fget, if_true]
theorem get_namesC (C : Addr) (rows : List Row) : fget ("names" : Str) nsC (vsC rows) = some (.tup ((knownOf rows).map .str)) := by simp only [nsC, vsC, fget, if_neg ne_rn, if_true]
theorem isi_cls {m : M} {CC : Addr} {rows : List Row} : dIsiO (JS (.inr CC) [(CC, true)]) m [clsD CC rows, .ref CC] = some (.bl true) := by
  have h1 : tyD (look m (clsD CC rows)) = some (.inr CC) := rfl
  have h2 : clD (.ref CC) = some (.inr CC) := rfl
  unfold dIsiO
  simp only [h1, h2]
  have : JS (.inr CC) [(CC, true)] (.inr CC) (.inr CC) = some true := by simp [JS, jbT]
  rw [this]; rfl
theorem eq_cls {m : M} {C : Addr} {a b : List Row} {Q : DK} (ha : a.length ≤ 30) (hb : b.length ≤ 30) (ra : RowsOk a) (rb : RowsOk b) (k : Q (.bl (decide (a = b))) m) : sp_Classes_eq C [clsD C a, clsD C b] m Q := by
  refine ⟨rfl, ?_⟩
  show r_Classes_eq_1 C _ _ _
  simp only [r_Classes_eq_1, tSq, DL.tIfS, tBinT, tBin, tV, tK, DL.tSet, tRt, tRtN, tAs, gSb, tFn, tAC, tA0, tDr, tApp, tExt, tPopA, tLstD, tTupD, tLstM, tCl, tMt, tPr, tNx, tSlD, tON, tOS, tIfD, DL.tAndT, DL.tOrT, DL.tNotT, tTru, tChainT, tNeg, tListM, List.map_cons, List.map_nil, List.length_cons, List.length_nil, List.replicate, List.cons_append, List.nil_append, List.getElem?_cons_zero, List.getElem?_cons_succ, List.set_cons_zero, List.set_cons_succ, Option.some.injEq, exists_eq_left', exists_eq_left, D.bl.injEq, D.int.injEq, D.str.injEq, D.lst.injEq, D.ref.injEq, if_true, if_false, Bool.true_eq_false, Bool.false_eq_true, startD, bodyEnds, Nat.reduceSub, Nat.reduceAdd, true_and, and_true, tFl, tAndV]
  refine ⟨_, isi_cls, true, rfl, ?_⟩
  simp only [if_true]
  refine ⟨_, _, _, rfl, get_rowsC C a, _, _, _, rfl, get_rowsC C b, .bl (decide (a = b)), ?_, dropR.self k⟩
  show (dEqB (.tup (a.map rowD)) (.tup (b.map rowD))).map D.bl = _
  rw [eq_rows (by omega) (by omega) (okRows ha ra) (okRows hb rb)]; rfl
theorem ins_of (m : M) (C : Addr) (rows : List Row) : ∃ ns vs, look m (clsD C rows) = .ins C ns vs := ⟨_, _, rfl⟩
theorem right_cls (m : M) (C : Addr) (rows : List Row) : rightOk C (look m (clsD C rows)) := ⟨_, rfl, fun C' e => by cases e; rfl⟩
end K58
namespace K58
open PySem PySem.Spec PyProof.Rows DL
open SX (S S_len S_cat S_inj S_tl)
/-! what stands above a name, purely -/
def up (rows : List Row) (x : Str) : List Str := (ulk (upsL rows) x).getD []
theorem ulk_app : ∀ {al : Al} {e : Str × List Str} {x : Str}, x ∈ keysA al → ulk (al ++ [e]) x = ulk al x
  | [], e, x, h => by cases h
  | a :: al, e, x, h => by
    show (if a.1 = x then some a.2 else ulk (al ++ [e]) x) = if a.1 = x then some a.2 else ulk al x
    by_cases g : a.1 = x
    · rw [if_pos g, if_pos g]
    · rw [if_neg g, if_neg g]
      refine ulk_app ?_
      rcases List.mem_cons.mp h with z | z
      · exact absurd z.symm g
      · exact z
theorem ulk_last : ∀ {al : Al} {w : Str} {us : List Str}, w ∉ keysA al → ulk (al ++ [(w, us)]) w = some us
  | [], w, us, _ => if_pos rfl
  | a :: al, w, us, h => by
    show (if a.1 = w then some a.2 else ulk (al ++ [(w, us)]) w) = some us
    rw [if_neg fun z => h (by rw [← z]; exact List.mem_cons_self)]
    exact ulk_last fun z => h (List.mem_cons_of_mem _ z)
theorem up_more (rows : List Row) {x : Str} (hx : x ∈ knownOf rows) : ∀ more : List Row, up (rows ++ more) x = up rows x := by
  intro more
  have main : ∀ (n : Nat), up (rows ++ more.take n) x = up rows x := by
    intro n
    induction n with
    | zero => simp
    | succ n ih =>
      cases e : more[n]? with
      | none =>
        rw [List.take_of_length_le (by have := List.getElem?_eq_none_iff.mp e; omega)]
        rw [List.take_of_length_le (by have := List.getElem?_eq_none_iff.mp e; omega)] at ih
        exact ih
      | some r =>
        have et : more.take (n + 1) = more.take n ++ [r] := by rw [List.take_add_one, e]; rfl
        rw [et, ← List.append_assoc]
        unfold up at ih ⊢
        rw [upsL_snoc]
        unfold upStep
        rw [ulk_app (by rw [upsL_keys]; unfold knownOf at hx ⊢; rw [List.map_append]; rcases List.mem_append.mp hx with z | z
                        · exact List.mem_append_left _ z
                        · exact List.mem_append_right _ (List.mem_append_left _ z))]
        exact ih
  have := main more.length
  rwa [List.take_length] at this
theorem fold_mem {al : Al} {y : Str} : ∀ (bs acc : List Str), y ∈ bs.foldl (addB al) acc ↔ y ∈ acc ∨ ∃ b ∈ bs, y ∈ (ulk al b).getD []
  | [], acc => by simp
  | b :: bs, acc => by
    rw [List.foldl_cons, fold_mem bs]
    unfold addB
    rw [List.mem_append, List.mem_filter, decide_eq_true_eq]
    constructor
    · rintro ((h | ⟨h, _⟩) | ⟨c, hc, h⟩)
      · exact .inl h
      · exact .inr ⟨b, List.mem_cons_self, h⟩
      · exact .inr ⟨c, List.mem_cons_of_mem _ hc, h⟩
    · rintro (h | ⟨c, hc, h⟩)
      · exact .inl (.inl h)
      · rcases List.mem_cons.mp hc with rfl | hc
        · by_cases g : y ∈ acc
          · exact .inl (.inl g)
          · exact .inl (.inr ⟨h, g⟩)
        · exact .inr ⟨c, hc, h⟩
theorem mem_known {rows : List Row} {r : Row} (h : r ∈ rows) : r.1 ∈ knownOf rows := List.mem_append_right _ (List.mem_map_of_mem h)
theorem up_row {rows : List Row} (hr : RowsOk rows) {w : Str} {bs : List Str} (h : (w, bs) ∈ rows) (y : Str) : y ∈ up rows w ↔ y = w ∨ ∃ b ∈ bs, y ∈ up rows b := by
  obtain ⟨i, hi⟩ := List.mem_iff_getElem?.mp h
  obtain ⟨hl, he⟩ := List.getElem?_eq_some_iff.mp hi
  have ok := hr i _ hi
  have e1 : rows = rows.take i ++ ((w, bs) :: rows.drop (i + 1)) := by
    rw [← he, ← List.drop_eq_getElem_cons hl, List.take_append_drop]
  have e2 : rows = (rows.take i ++ [(w, bs)]) ++ rows.drop (i + 1) := by rw [List.append_assoc]; exact e1
  have uw : up rows w = mine (upsL (rows.take i)) w bs := by
    have hk : w ∈ knownOf (rows.take i ++ [(w, bs)]) := by
      rw [knownOf_snoc]
      exact List.mem_append_right _ (List.mem_singleton.mpr rfl)
    have z := up_more (rows.take i ++ [(w, bs)]) hk (rows.drop (i + 1))
    rw [← e2] at z
    rw [z]
    unfold up
    rw [upsL_snoc]
    unfold upStep
    rw [ulk_last (by rw [upsL_keys]; exact ok.1)]
    rfl
  have ub : ∀ b ∈ bs, up rows b = (ulk (upsL (rows.take i)) b).getD [] := fun b hb => by
    have hk := ok.2.2.2.2 b hb
    have z := up_more (rows.take i) hk (rows.drop i)
    rw [List.take_append_drop] at z
    exact z
  rw [uw]
  unfold mine
  rw [fold_mem]
  constructor
  · rintro (h | ⟨b, hb, h⟩)
    · exact .inl (by simpa using h)
    · exact .inr ⟨b, hb, by rw [ub b hb]; exact h⟩
  · rintro (h | ⟨b, hb, h⟩)
    · exact .inl (by simpa using h)
    · exact .inr ⟨b, hb, by rw [← ub b hb]; exact h⟩
theorem up_base {x : Str} (hx : x ∈ knownOf []) (rows : List Row) : up rows x = up [] x := by
  have := up_more [] hx rows
  simpa using this
theorem k_error (rows : List Row) : ("error" : Str) ∈ knownOf rows := by unfold knownOf; simp
theorem k_vacant (rows : List Row) : ("vacant" : Str) ∈ knownOf rows := by unfold knownOf; simp
theorem up_error (rows : List Row) : up rows ("error" : Str) = [("error" : Str)] := by rw [up_base (k_error [])]; rfl
theorem up_vacant (rows : List Row) : up rows ("vacant" : Str) = [("vacant" : Str), ("error" : Str)] := by
  rw [up_base (k_vacant [])]
  show (ulk base0 ("vacant" : Str)).getD [] = _
  unfold base0
  simp only [ulk, if_neg ev_ne, if_true, Option.getD_some]
theorem known_ind {rows : List Row} (hr : RowsOk rows) {P : Str → Prop} (h1 : P "error") (h2 : P "vacant") (h3 : ∀ w bs, (w, bs) ∈ rows → (∀ b ∈ bs, P b) → P w) : ∀ x ∈ knownOf rows, P x := by
  have main : ∀ i, i ≤ rows.length → ∀ x ∈ knownOf (rows.take i), P x := by
    intro i
    induction i with
    | zero =>
      intro _ x hx
      simp only [List.take_zero, knownOf, List.map_nil, List.append_nil, List.mem_cons, List.not_mem_nil, or_false] at hx
      rcases hx with rfl | rfl
      · exact h1
      · exact h2
    | succ i ih =>
      intro hi x hx
      have hi2 : rows[i]? = some rows[i] := by simp
      have et : rows.take (i + 1) = rows.take i ++ [rows[i]] := by rw [List.take_add_one, hi2]; rfl
      rw [et, knownOf_snoc] at hx
      rcases List.mem_append.mp hx with hx | hx
      · exact ih (by omega) x hx
      · rw [List.mem_singleton] at hx
        subst hx
        have ok := hr i _ hi2
        exact h3 rows[i].1 rows[i].2 (List.mem_of_getElem? hi2) fun b hb => ih (by omega) b (ok.2.2.2.2 b hb)
  intro x hx
  have := main rows.length (Nat.le_refl _)
  rw [List.take_length] at this
  exact this x hx
theorem not_head {rows : List Row} (hnd : (knownOf rows).Nodup) {w : Str} {bs : List Str} (h : (w, bs) ∈ rows) : w ≠ "error" ∧ w ≠ "vacant" := by
  have hm : w ∈ rows.map (·.1) := List.mem_map.mpr ⟨_, h, rfl⟩
  have hd := (List.nodup_append.mp hnd).2.2
  exact ⟨fun e => hd "error" (by simp) w hm e.symm, fun e => hd "vacant" (by simp) w hm e.symm⟩
theorem head_uniq {rows : List Row} (hnd : (knownOf rows).Nodup) {w : Str} {bs cs : List Str} (h : (w, bs) ∈ rows) (g : (w, cs) ∈ rows) : bs = cs := by
  obtain ⟨i, hi⟩ := List.mem_iff_getElem?.mp h
  obtain ⟨j, hj⟩ := List.mem_iff_getElem?.mp g
  have nd := (List.nodup_append.mp hnd).2.1
  have a1 : (rows.map (·.1))[i]? = some w := by rw [List.getElem?_map, hi]; rfl
  have a2 : (rows.map (·.1))[j]? = some w := by rw [List.getElem?_map, hj]; rfl
  have : i = j := L2.nodup_ix nd a1 a2
  subst this
  rw [hi] at hj
  cases hj
  rfl
theorem up_me {rows : List Row} (hr : RowsOk rows) : ∀ x ∈ knownOf rows, x ∈ up rows x ∧ ("error" : Str) ∈ up rows x := by
  refine known_ind hr (by rw [up_error]; simp) (by rw [up_vacant]; simp) fun w bs h ih => ?_
  refine ⟨(up_row hr h w).mpr (.inl rfl), (up_row hr h _).mpr (.inr ?_)⟩
  obtain ⟨i, hi⟩ := List.mem_iff_getElem?.mp h
  have ok := hr i _ hi
  obtain ⟨b, hb⟩ := List.exists_mem_of_ne_nil _ ok.2.2.1
  exact ⟨b, hb, (ih b hb).2⟩
theorem base_known {rows : List Row} (hr : RowsOk rows) {w b : Str} {bs : List Str} (h : (w, bs) ∈ rows) (hb : b ∈ bs) : b ∈ knownOf rows := by
  obtain ⟨i, hi⟩ := List.mem_iff_getElem?.mp h
  have z := (hr i _ hi).2.2.2.2 b hb
  unfold knownOf at z ⊢
  rcases List.mem_append.mp z with z | z
  · exact List.mem_append_left _ z
  · exact List.mem_append_right _ (((List.take_sublist i rows).map _).subset z)
theorem up_known {rows : List Row} (hr : RowsOk rows) : ∀ x ∈ knownOf rows, ∀ y ∈ up rows x, y ∈ knownOf rows := by
  refine known_ind hr (by rw [up_error]; intro y hy; rw [List.mem_singleton] at hy; subst hy; exact k_error rows) (fun y hy => ?_) fun w bs h ih y hy => ?_
  · rw [up_vacant] at hy
    simp only [List.mem_cons, List.not_mem_nil, or_false] at hy
    rcases hy with rfl | rfl
    · exact k_vacant rows
    · exact k_error rows
  · rcases (up_row hr h y).mp hy with rfl | ⟨b, hb, hy⟩
    · exact mem_known h
    · exact ih b hb y hy
theorem up_trans {rows : List Row} (hr : RowsOk rows) (hnd : (knownOf rows).Nodup) {y b : Str} {bs : List Str} (h : (y, bs) ∈ rows) (hb : b ∈ bs) : ∀ x ∈ knownOf rows, y ∈ up rows x → b ∈ up rows x := by
  have nh := not_head hnd h
  refine known_ind hr (fun hy => ?_) (fun hy => ?_) fun w cs hw ih hy => ?_
  · rw [up_error, List.mem_singleton] at hy
    exact absurd hy nh.1
  · rw [up_vacant] at hy
    simp only [List.mem_cons, List.not_mem_nil, or_false] at hy
    rcases hy with rfl | rfl
    · exact absurd rfl nh.2
    · exact absurd rfl nh.1
  · rcases (up_row hr hw y).mp hy with rfl | ⟨c, hc, hy⟩
    · have := head_uniq hnd h hw
      subst this
      exact (up_row hr hw b).mpr (.inr ⟨b, hb, (up_me hr b (base_known hr h hb)).1⟩)
    · exact (up_row hr hw b).mpr (.inr ⟨c, hc, ih c hc hy⟩)
theorem up_least {rows : List Row} (hr : RowsOk rows) {T : List Str} (he : ("error" : Str) ∈ T) (hc : ∀ w bs, (w, bs) ∈ rows → w ∈ T → ∀ b ∈ bs, b ∈ T) : ∀ x ∈ knownOf rows, x ∈ T → ∀ y ∈ up rows x, y ∈ T := by
  refine known_ind hr (fun _ y hy => ?_) (fun hv y hy => ?_) fun w bs h ih hw y hy => ?_
  · rw [up_error, List.mem_singleton] at hy
    subst hy; exact he
  · rw [up_vacant] at hy
    simp only [List.mem_cons, List.not_mem_nil, or_false] at hy
    rcases hy with rfl | rfl
    · exact hv
    · exact he
  · rcases (up_row hr h y).mp hy with rfl | ⟨b, hb, hy⟩
    · exact hw
    · exact ih b hb (hc w bs h hw b hb) y hy
/-- what a word's row puts behind those that wait -/
def basesOf (rows : List Row) (w : Str) : List Str := (rows.filter fun r => decide (r.1 = w)).flatMap (·.2)
theorem bases_mem {rows : List Row} {w b : Str} : b ∈ basesOf rows w ↔ ∃ bs, (w, bs) ∈ rows ∧ b ∈ bs := by
  unfold basesOf
  rw [List.mem_flatMap]
  constructor
  · rintro ⟨r, hr, hb⟩
    obtain ⟨h1, h2⟩ := List.mem_filter.mp hr
    have h2 := of_decide_eq_true h2
    exact ⟨r.2, by rw [← h2]; exact h1, hb⟩
  · rintro ⟨bs, h, hb⟩
    exact ⟨(w, bs), List.mem_filter.mpr ⟨h, decide_eq_true rfl⟩, hb⟩
theorem bases_len {rows : List Row} (hnd : (rows.map (·.1)).Nodup) (h2 : ∀ r ∈ rows, r.2.length ≤ 2) (w : Str) : (basesOf rows w).length ≤ 2 := by
  induction rows with
  | nil => exact Nat.zero_le _
  | cons r rows ih =>
    rw [List.map_cons, List.nodup_cons] at hnd
    have ih := ih hnd.2 fun x hx => h2 x (List.mem_cons_of_mem _ hx)
    by_cases g : r.1 = w
    · have e : rows.filter (fun r => decide (r.1 = w)) = [] := by
        rw [List.filter_eq_nil_iff]
        intro x hx hd
        have hd := of_decide_eq_true hd
        exact hnd.1 (List.mem_map.mpr ⟨x, hx, hd.trans g.symm⟩)
      unfold basesOf
      rw [List.filter_cons_of_pos (by simpa using g), e]
      simpa using h2 r List.mem_cons_self
    · unfold basesOf at ih ⊢
      rw [List.filter_cons_of_neg (by simpa using g)]
      exact ih
theorem bases_take {rows : List Row} {w : Str} {i : Nat} {r : Row} (h : rows[i]? = some r) : basesOf (rows.take (i + 1)) w = basesOf (rows.take i) w ++ (if r.1 = w then r.2 else []) := by
  have et : rows.take (i + 1) = rows.take i ++ [r] := by rw [List.take_add_one, h]; rfl
  rw [et]
  unfold basesOf
  rw [List.filter_append, List.flatMap_append]
  congr 1
  by_cases g : r.1 = w
  · rw [List.filter_cons_of_pos (by simpa using g), if_pos g]; simp
  · rw [List.filter_cons_of_neg (by simpa using g), if_neg g]; simp
/-- those that are not met -/
def left_ (rows : List Row) (Mt : List Str) : Nat := ((knownOf rows).filter fun x => decide (x ∉ Mt)).length
theorem left_less {rows : List Row} {Mt : List Str} {w : Str} (hw : w ∈ knownOf rows) (hn : w ∉ Mt) : left_ rows (Mt ++ [w]) + 1 ≤ left_ rows Mt := by
  unfold left_
  have e : (knownOf rows).filter (fun x => decide (x ∉ Mt ++ [w])) = ((knownOf rows).filter fun x => decide (x ∉ Mt)).filter fun x => decide (x ≠ w) := by
    rw [List.filter_filter]
    refine List.filter_congr fun x _ => ?_
    by_cases a : x ∈ Mt <;> by_cases b : x = w <;> simp [a, b]
  rw [e]
  refine List.length_filter_lt_length_iff_exists.mpr ⟨w, List.mem_filter.mpr ⟨hw, decide_eq_true hn⟩, by simp⟩
end K58
namespace K58
open PySem PySem.Spec PyProof.Rows DL
open SX (S S_len S_cat S_inj S_tl)
/-! the law's rows -/
theorem bar_eq : bar = c_RESERVED ++ [("error" : Str), ("vacant" : Str)] := by decide +kernel
theorem wordK_word {w : Str} (h : WordK w) : Word w := by
  obtain ⟨⟨cs, rfl, h1, h2, h3⟩, hb⟩ := h
  refine ⟨by rw [S_len]; exact h1, by rw [S_len]; exact h2, fun z => hb (by rw [bar_eq]; exact List.mem_append_left _ z), fun c hc => ?_⟩
  rw [lt_eq]
  exact h3 c hc
def headF : D → Option D
  | .tup (x :: _) => some x
  | _ => none
theorem headF_eq (rows : List Row) : (rows.map rowD).filterMap headF = (rows.map (·.1)).map .str := by
  rw [List.filterMap_map, List.map_map, ← List.filterMap_eq_map]
  rfl
theorem known_D (rows : List Row) : [D.str "error", D.str "vacant"] ++ (rows.map (·.1)).map .str = (knownOf rows).map .str := by unfold knownOf; simp
theorem rows_ok {m : M} {p : Addr} {l : D} {a : Int} {ws : List Str} {Q : DK} (hp : m p = some l) (h : PenD l a) (ha : a + 100 < 1048576) (hl : ws.length ≤ 9) (hnd : ws.Nodup) (hw : ∀ w ∈ ws, WordK w)
    (k : ∀ rows l', rows.map (·.1) = ws → RowsOk rows → (knownOf rows).Nodup → (∀ r ∈ rows, r.2.length ≤ 2) → PenD l' (a + 100) → Q (.lst (rows.map rowD)) (updM m p l')) : sp_l_rows [.ref p, .lst (ws.map .str)] m Q := by
  have allN : (knownOf (ws.map fun w => (w, ([] : List Str)))).Nodup := by
    unfold knownOf
    rw [List.map_map, show ((fun x : Row => x.1) ∘ fun w => (w, ([] : List Str))) = id from rfl, List.map_id]
    rw [List.nodup_append]
    refine ⟨by decide, hnd, fun x hx y hy e => ?_⟩
    subst e
    refine (hw x hy).2 ?_
    rw [bar_eq]
    exact List.mem_append_right _ hx
  refine ⟨rfl, ?_⟩
  show r_l_rows_10 _ _ _
  simp only [r_l_rows_10, tSq, DL.tIfS, tBinT, tBin, tV, tK, DL.tSet, tRt, tRtN, tAs, gSb, tFn, tAC, tA0, tDr, tApp, tExt, tPopA, tLstD, tTupD, tLstM, tCl, tMt, tPr, tNx, tSlD, tON, tOS, tIfD, DL.tAndT, DL.tOrT, DL.tNotT, tTru, tChainT, tNeg, tListM, List.map_cons, List.map_nil, List.length_cons, List.length_nil, List.replicate, List.cons_append, List.nil_append, List.getElem?_cons_zero, List.getElem?_cons_succ, List.set_cons_zero, List.set_cons_succ, Option.some.injEq, exists_eq_left', exists_eq_left, D.bl.injEq, D.int.injEq, D.str.injEq, D.lst.injEq, D.ref.injEq, if_true, if_false, Bool.true_eq_false, Bool.false_eq_true, startD, bodyEnds, Nat.reduceSub, Nat.reduceAdd, true_and, and_true]
  refine ⟨by decide, fun q hq => ?_⟩
  have pq : p ≠ q := by rintro rfl; rw [hp] at hq; cases hq
  simp only [r_l_rows_9, tSq, DL.tIfS, tBinT, tBin, tV, tK, DL.tSet, tRt, tRtN, tAs, gSb, tFn, tAC, tA0, tDr, tApp, tExt, tPopA, tLstD, tTupD, tLstM, tCl, tMt, tPr, tNx, tSlD, tON, tOS, tIfD, DL.tAndT, DL.tOrT, DL.tNotT, tTru, tChainT, tNeg, tListM, List.map_cons, List.map_nil, List.length_cons, List.length_nil, List.replicate, List.cons_append, List.nil_append, List.getElem?_cons_zero, List.getElem?_cons_succ, List.set_cons_zero, List.set_cons_succ, Option.some.injEq, exists_eq_left', exists_eq_left, D.bl.injEq, D.int.injEq, D.str.injEq, D.lst.injEq, D.ref.injEq, if_true, if_false, Bool.true_eq_false, Bool.false_eq_true, startD, bodyEnds, Nat.reduceSub, Nat.reduceAdd, true_and, and_true, tFo, iSeq, dSeq]
  refine forD_inv (fun i env m' => ∃ l' rows e3 e4 e5 e6 e7, env = [some (.ref p), some (.lst (ws.map .str)), some (.ref q), e3, e4, e5, e6, e7] ∧ m' p = some l' ∧ m' q = some (.lst (rows.map rowD)) ∧ (∀ b, b ≠ p → m b ≠ none → m' b = m b) ∧ PenD l' (a + 3 * i) ∧ rows.map (·.1) = ws.take i ∧ RowsOk rows ∧ (∀ x ∈ rows, x.2.length ≤ 2))
    ⟨l, [], none, none, none, none, none, rfl, by rw [updM_ne pq]; exact hp, updM_same, fun b _ hb => updM_ne (fun e => hb (by rw [e]; exact hq)), h.mono (by omega), by simp, RowsOk.nil, by simp⟩ ?_ ?_
  · rintro i d env m' N hd ⟨l', rows, e3, e4, e5, e6, e7, rfl, mp, mq, mo, hl', hrw, hok, h22⟩ hN
    rw [List.getElem?_map] at hd
    obtain ⟨w, hwi, rfl⟩ := Option.map_eq_some_iff.mp hd
    have hi : i < ws.length := by
      rcases Nat.lt_or_ge i ws.length with z | z
      · exact z
      · rw [List.getElem?_eq_none z] at hwi; cases hwi
    have hlr : rows.length = i := by
      have := congrArg List.length hrw
      rw [List.length_map, List.length_take] at this
      omega
    have klen := knownOf_len rows
    have hkw : ws.take (i + 1) = ws.take i ++ [w] := by
      rw [List.take_add_one, hwi] <;> rfl
    have kE : knownOf rows = knownOf ((ws.take i).map fun w => (w, [])) := by
      unfold knownOf
      rw [hrw, List.map_map]
      congr 1
      exact (List.map_id _).symm
    have ndk : (knownOf rows ++ [w]).Nodup := by
      have e2 : knownOf rows ++ [w] = knownOf ((ws.take (i + 1)).map fun w => (w, [])) := by
        rw [kE, hkw, List.map_append]
        exact (knownOf_snoc _ (w, [])).symm
      rw [e2]
      refine allN.sublist ?_
      unfold knownOf
      exact List.Sublist.append (.refl _) (((List.take_sublist _ _).map _).map _)
    have hwn : w ∉ knownOf rows := fun hm => (List.nodup_append.mp ndk).2.2 w hm w (List.mem_singleton.mpr rfl) rfl
    simp only [tgD, gN, r_l_rows_7, tSq, DL.tIfS, tBinT, tBin, tV, tK, DL.tSet, tRt, tRtN, tAs, gSb, tFn, tAC, tA0, tDr, tApp, tExt, tPopA, tLstD, tTupD, tLstM, tCl, tMt, tPr, tNx, tSlD, tON, tOS, tIfD, DL.tAndT, DL.tOrT, DL.tNotT, tTru, tChainT, tNeg, tListM, List.map_cons, List.map_nil, List.length_cons, List.length_nil, List.replicate, List.cons_append, List.nil_append, List.getElem?_cons_zero, List.getElem?_cons_succ, List.set_cons_zero, List.set_cons_succ, Option.some.injEq, exists_eq_left', exists_eq_left, D.bl.injEq, D.int.injEq, D.str.injEq, D.lst.injEq, D.ref.injEq, if_true, if_false, Bool.true_eq_false, Bool.false_eq_true, startD, bodyEnds, Nat.reduceSub, Nat.reduceAdd, true_and, and_true]
    refine ⟨by decide, ?_⟩
    refine lcM_pure (q := q) (ds := rows.map rowD) headF (fun R hR => ?_) mq (by rw [List.length_map]; exact smallLt (by omega)) (fun d m1 R hd hm hy hno => ?_) ?_
    · simp only [tSq, DL.tIfS, tBinT, tBin, tV, tK, DL.tSet, tRt, tRtN, tAs, gSb, tFn, tAC, tA0, tDr, tApp, tExt, tPopA, tLstD, tTupD, tLstM, tCl, tMt, tPr, tNx, tSlD, tON, tOS, tIfD, DL.tAndT, DL.tOrT, DL.tNotT, tTru, tChainT, tNeg, tListM, List.map_cons, List.map_nil, List.length_cons, List.length_nil, List.replicate, List.cons_append, List.nil_append, List.getElem?_cons_zero, List.getElem?_cons_succ, List.set_cons_zero, List.set_cons_succ, Option.some.injEq, exists_eq_left', exists_eq_left, D.bl.injEq, D.int.injEq, D.str.injEq, D.lst.injEq, D.ref.injEq, if_true, if_false, Bool.true_eq_false, Bool.false_eq_true, startD, bodyEnds, Nat.reduceSub, Nat.reduceAdd, true_and, and_true]
      exact hR
    · obtain ⟨x, hx, rfl⟩ := List.mem_map.mp hd
      simp only [tgD, gN, wipeD, tYe, r_l_rows_1, tSq, DL.tIfS, tBinT, tBin, tV, tK, DL.tSet, tRt, tRtN, tAs, gSb, tFn, tAC, tA0, tDr, tApp, tExt, tPopA, tLstD, tTupD, tLstM, tCl, tMt, tPr, tNx, tSlD, tON, tOS, tIfD, DL.tAndT, DL.tOrT, DL.tNotT, tTru, tChainT, tNeg, tListM, List.map_cons, List.map_nil, List.length_cons, List.length_nil, List.replicate, List.cons_append, List.nil_append, List.getElem?_cons_zero, List.getElem?_cons_succ, List.set_cons_zero, List.set_cons_succ, Option.some.injEq, exists_eq_left', exists_eq_left, D.bl.injEq, D.int.injEq, D.str.injEq, D.lst.injEq, D.ref.injEq, if_true, if_false, Bool.true_eq_false, Bool.false_eq_true, startD, bodyEnds, Nat.reduceSub, Nat.reduceAdd, true_and, and_true]
      exact ⟨.str x.1, dIx_tup rfl rfl (atI_pos (by decide) rfl), hy _ rfl⟩
    rw [headF_eq]
    refine ⟨.lst ((knownOf rows).map .str), ?_, ?_⟩
    · simp only [dAdd, look, List.length_map, List.length_cons, List.length_nil]
      rw [if_pos (small (by omega)), known_D]
    simp only [r_l_rows_6, tSq, DL.tIfS, tBinT, tBin, tV, tK, DL.tSet, tRt, tRtN, tAs, gSb, tFn, tAC, tA0, tDr, tApp, tExt, tPopA, tLstD, tTupD, tLstM, tCl, tMt, tPr, tNx, tSlD, tON, tOS, tIfD, DL.tAndT, DL.tOrT, DL.tNotT, tTru, tChainT, tNeg, tListM, List.map_cons, List.map_nil, List.length_cons, List.length_nil, List.replicate, List.cons_append, List.nil_append, List.getElem?_cons_zero, List.getElem?_cons_succ, List.set_cons_zero, List.set_cons_succ, Option.some.injEq, exists_eq_left', exists_eq_left, D.bl.injEq, D.int.injEq, D.str.injEq, D.lst.injEq, D.ref.injEq, if_true, if_false, Bool.true_eq_false, Bool.false_eq_true, startD, bodyEnds, Nat.reduceSub, Nat.reduceAdd, true_and, and_true]
    refine ⟨by decide, .lst ((knownOf rows ++ [("error" : Str)]).map .str), ?_, ?_⟩
    · simp only [dAdd, look, List.length_map, List.length_cons, List.length_nil]
      rw [if_pos (small (by omega)), List.map_append]; rfl
    refine pick_strs mp hl' (by omega) (by simp) (by simp; omega) fun x l1 hx h1 => ?_
    have hxk : x ∈ knownOf rows := by
      rcases List.mem_append.mp hx with hx | hx
      · exact hx
      · rw [List.mem_singleton] at hx; subst hx; exact k_error rows
    refine ⟨by decide, fun r hr => ?_⟩
    have pr : p ≠ r := by rintro rfl; rw [updM_same] at hr; cases hr
    have hr0 : m' r = none := by rw [updM_ne pr.symm] at hr; exact hr
    have qr : q ≠ r := by rintro rfl; rw [mq] at hr0; cases hr0
    simp only [r_l_rows_5, tSq, DL.tIfS, tBinT, tBin, tV, tK, DL.tSet, tRt, tRtN, tAs, gSb, tFn, tAC, tA0, tDr, tApp, tExt, tPopA, tLstD, tTupD, tLstM, tCl, tMt, tPr, tNx, tSlD, tON, tOS, tIfD, DL.tAndT, DL.tOrT, DL.tNotT, tTru, tChainT, tNeg, tListM, List.map_cons, List.map_nil, List.length_cons, List.length_nil, List.replicate, List.cons_append, List.nil_append, List.getElem?_cons_zero, List.getElem?_cons_succ, List.set_cons_zero, List.set_cons_succ, Option.some.injEq, exists_eq_left', exists_eq_left, D.bl.injEq, D.int.injEq, D.str.injEq, D.lst.injEq, D.ref.injEq, if_true, if_false, Bool.true_eq_false, Bool.false_eq_true, startD, bodyEnds, Nat.reduceSub, Nat.reduceAdd, true_and, and_true]
    refine pick_strs (l := l1) (by rw [updM_ne pr, updM_same]) h1 (by omega) (by intro z; rw [z] at klen; simp at klen) (by omega) fun y l2 hy h2 => ?_
    simp only [r_l_rows_4, tSq, DL.tIfS, tBinT, tBin, tV, tK, DL.tSet, tRt, tRtN, tAs, gSb, tFn, tAC, tA0, tDr, tApp, tExt, tPopA, tLstD, tTupD, tLstM, tCl, tMt, tPr, tNx, tSlD, tON, tOS, tIfD, DL.tAndT, DL.tOrT, DL.tNotT, tTru, tChainT, tNeg, tListM, List.map_cons, List.map_nil, List.length_cons, List.length_nil, List.replicate, List.cons_append, List.nil_append, List.getElem?_cons_zero, List.getElem?_cons_succ, List.set_cons_zero, List.set_cons_succ, Option.some.injEq, exists_eq_left', exists_eq_left, D.bl.injEq, D.int.injEq, D.str.injEq, D.lst.injEq, D.ref.injEq, if_true, if_false, Bool.true_eq_false, Bool.false_eq_true, startD, bodyEnds, Nat.reduceSub, Nat.reduceAdd, true_and, and_true]
    have lr : look (updM (updM (updM m' p l1) r (.lst [.str x])) p l2) (.ref r) = .lst ([x].map .str) := by
      simp only [look, updM_ne pr.symm, updM_same, Option.getD_some]; rfl
    simp only [dNotIn, dInB_strs (xs := [x]) (.inl lr), Option.map_some, Option.some.injEq, exists_eq_left', D.bl.injEq]
    -- what stands behind the choice
    have fin : ∀ (bs : List Str) (l3 : D) (m3 : M) (E : DEnds), E.nx = N → bs ≠ [] → bs.Nodup → (∀ b ∈ bs, b ∈ knownOf rows) → bs.length ≤ 2 → PenD l3 (a + 3 * (i + 1)) → m3 p = some l3 → m3 q = some (.lst (rows.map rowD)) → m3 r = some (.lst (bs.map .str)) → (∀ b, b ≠ p → m b ≠ none → m3 b = m b) →
        r_l_rows_3 [some (.ref p), some (.lst (ws.map .str)), some (.ref q), some (.str w), some (.lst ((knownOf rows).map .str)), some (.ref r), some (.str y), e7] m3 E := by
      intro bs l3 m3 E hE b1 b2 b3 b4 h3 g1 g2 g3 g4
      simp only [r_l_rows_3, tSq, DL.tIfS, tBinT, tBin, tV, tK, DL.tSet, tRt, tRtN, tAs, gSb, tFn, tAC, tA0, tDr, tApp, tExt, tPopA, tLstD, tTupD, tLstM, tCl, tMt, tPr, tNx, tSlD, tON, tOS, tIfD, DL.tAndT, DL.tOrT, DL.tNotT, tTru, tChainT, tNeg, tListM, List.map_cons, List.map_nil, List.length_cons, List.length_nil, List.replicate, List.cons_append, List.nil_append, List.getElem?_cons_zero, List.getElem?_cons_succ, List.set_cons_zero, List.set_cons_succ, Option.some.injEq, exists_eq_left', exists_eq_left, D.bl.injEq, D.int.injEq, D.str.injEq, D.lst.injEq, D.ref.injEq, if_true, if_false, Bool.true_eq_false, Bool.false_eq_true, startD, bodyEnds, Nat.reduceSub, Nat.reduceAdd, true_and, and_true]
      refine ⟨q, _, rfl, g2, by decide, .tup (bs.map .str), by simp only [d1, look, g3, Option.getD_some, dTuple], .tup (.str w :: bs.map .str), ?_, rows.map rowD, g2, by rw [List.length_map]; exact smallLt (by omega), ?_⟩
      · simp only [dAdd, look, List.length_map, List.length_cons, List.length_nil]
        rw [if_pos (small (by omega))]; rfl
      rw [hE]
      refine hN _ _ ⟨l3, rows ++ [(w, bs)], _, _, _, _, _, rfl, by rw [updM_ne pq]; exact g1, by rw [updM_same, List.map_append]; rfl, fun b hb hm => ?_, h3.mono (by omega), by rw [List.map_append, hrw, hkw]; rfl, hok.snoc ⟨hwn, wordK_word (hw w (List.mem_of_getElem? hwi)), b1, b2, b3⟩, fun x hx => ?_⟩
      · rw [updM_ne (fun e => hm (by rw [e]; exact hq))]
        exact g4 b hb hm
      · rcases List.mem_append.mp hx with hx | hx
        · exact h22 x hx
        · rw [List.mem_singleton] at hx; subst hx; exact b4
    have off1 : ∀ b, b ≠ p → m b ≠ none → updM (updM (updM m' p l1) r (.lst [.str x])) p l2 b = m b := fun b hb hm => by
      have br : b ≠ r := fun e => by
        have := mo b hb hm
        rw [e, hr0] at this
        exact hm (by rw [e]; exact this.symm)
      rw [updM_ne hb, updM_ne br, updM_ne hb]
      exact mo b hb hm
    have q1 : updM (updM (updM m' p l1) r (.lst [.str x])) p l2 q = some (.lst (rows.map rowD)) := by rw [updM_ne pq.symm, updM_ne qr, updM_ne pq.symm]; exact mq
    have r1 : updM (updM (updM m' p l1) r (.lst [.str x])) p l2 r = some (.lst ([x].map .str)) := by rw [updM_ne pr.symm, updM_same]; rfl
    by_cases exy : y = x
    · subst exy
      simp only [List.mem_singleton, decide_true, Bool.not_true, Bool.false_eq_true, if_false]
      exact fin [y] l2 _ _ rfl (by simp) (by simp) (by simpa using hxk) (by simp) (h2.mono (by omega)) updM_same q1 r1 off1
    · simp only [List.mem_singleton, exy, decide_false, Bool.not_false, if_true]
      refine draw_ok updM_same h2 (by omega) (by decide) (by decide) fun v l3 v1 v2 h3 => ?_
      have off2 : ∀ b, b ≠ p → m b ≠ none → updM (updM (updM (updM m' p l1) r (.lst [.str x])) p l2) p l3 b = m b := fun b hb hm => by rw [updM_ne hb]; exact off1 b hb hm
      have q2 : updM (updM (updM (updM m' p l1) r (.lst [.str x])) p l2) p l3 q = some (.lst (rows.map rowD)) := by rw [updM_ne pq.symm]; exact q1
      have r2 : updM (updM (updM (updM m' p l1) r (.lst [.str x])) p l2) p l3 r = some (.lst ([x].map .str)) := by rw [updM_ne pr.symm]; exact r1
      refine ⟨decide (v = 0), rfl, ?_⟩
      by_cases g : v = 0
      · simp only [g, decide_true, if_true]
        simp only [r_l_rows_2, tSq, DL.tIfS, tBinT, tBin, tV, tK, DL.tSet, tRt, tRtN, tAs, gSb, tFn, tAC, tA0, tDr, tApp, tExt, tPopA, tLstD, tTupD, tLstM, tCl, tMt, tPr, tNx, tSlD, tON, tOS, tIfD, DL.tAndT, DL.tOrT, DL.tNotT, tTru, tChainT, tNeg, tListM, List.map_cons, List.map_nil, List.length_cons, List.length_nil, List.replicate, List.cons_append, List.nil_append, List.getElem?_cons_zero, List.getElem?_cons_succ, List.set_cons_zero, List.set_cons_succ, Option.some.injEq, exists_eq_left', exists_eq_left, D.bl.injEq, D.int.injEq, D.str.injEq, D.lst.injEq, D.ref.injEq, if_true, if_false, Bool.true_eq_false, Bool.false_eq_true, startD, bodyEnds, Nat.reduceSub, Nat.reduceAdd, true_and, and_true]
        refine ⟨r, _, rfl, r2, _, r2, by rw [List.length_map]; exact smallLt (by simp), ?_⟩
        refine fin [x, y] l3 _ _ rfl (by simp) (by simp; exact fun e => exy e.symm) ?_ (by simp) (h3.mono (by omega)) (by rw [updM_ne pr, updM_same]) (by rw [updM_ne qr]; exact q2) (by rw [updM_same]; rfl) (fun b hb hm => ?_)
        · intro b hb
          simp only [List.mem_cons, List.not_mem_nil, or_false] at hb
          rcases hb with rfl | rfl
          · exact hxk
          · exact hy
        · have br : b ≠ r := fun e => by
            have := mo b hb hm
            rw [e, hr0] at this
            exact hm (by rw [e]; exact this.symm)
          rw [updM_ne br]
          exact off2 b hb hm
      · simp only [g, decide_false, Bool.false_eq_true, if_false]
        exact fin [x] l3 _ _ rfl (by simp) (by simp) (by simpa using hxk) (by simp) (h3.mono (by omega)) updM_same q2 r2 off2
  · rintro env m' ⟨l', rows, e3, e4, e5, e6, e7, rfl, mp, mq, mo, hl', hrw, hok, h22⟩
    rw [List.length_map] at hl' hrw
    rw [List.take_length] at hrw
    have hndR : (knownOf rows).Nodup := by
      have e : knownOf rows = knownOf (ws.map fun w => (w, [])) := by
        unfold knownOf
        rw [hrw, List.map_map]
        congr 1
        exact (List.map_id _).symm
      rw [e]; exact allN
    simp only [r_l_rows_8, tSq, DL.tIfS, tBinT, tBin, tV, tK, DL.tSet, tRt, tRtN, tAs, gSb, tFn, tAC, tA0, tDr, tApp, tExt, tPopA, tLstD, tTupD, tLstM, tCl, tMt, tPr, tNx, tSlD, tON, tOS, tIfD, DL.tAndT, DL.tOrT, DL.tNotT, tTru, tChainT, tNeg, tListM, List.map_cons, List.map_nil, List.length_cons, List.length_nil, List.replicate, List.cons_append, List.nil_append, List.getElem?_cons_zero, List.getElem?_cons_succ, List.set_cons_zero, List.set_cons_succ, Option.some.injEq, exists_eq_left', exists_eq_left, D.bl.injEq, D.int.injEq, D.str.injEq, D.lst.injEq, D.ref.injEq, if_true, if_false, Bool.true_eq_false, Bool.false_eq_true, startD, bodyEnds, Nat.reduceSub, Nat.reduceAdd, true_and, and_true, tFrz]
    refine ⟨_, mq, updM m p l', fun b => ?_, k rows l' hrw hok hndR h22 (hl'.mono (by omega))⟩
    by_cases b1 : b = p
    · left
      subst b1
      rw [updM_same, delM_ne pq, mp]
    · rw [updM_ne b1]
      cases e : m b with
      | none => exact .inr rfl
      | some d0 =>
        left
        have bq : b ≠ q := fun z => by rw [z, hq] at e; cases e
        rw [delM_ne bq, mo b b1 (by rw [e]; exact fun z => nomatch z), e]
end K58
namespace K58
open PySem PySem.Spec PyProof.Rows DL
open SX (S S_len S_cat S_inj S_tl)
/-! what the law finds above the names: the same as the program -/
theorem above_ok {m : M} {rows : List Row} {Q : DK} (hn : rows.length ≤ 30) (hr : RowsOk rows) (k : Q (dicA (alD (upsL rows))) m) : sp_l_above [.lst (rows.map rowD)] m Q := by
  refine ⟨rfl, ?_⟩
  show r_l_above_9 _ _ _
  simp only [r_l_above_9, tSq, DL.tIfS, tBinT, tBin, tV, tK, DL.tSet, tRt, tRtN, tAs, gSb, tFn, tAC, tA0, tDr, tApp, tExt, tPopA, tLstD, tTupD, tLstM, tCl, tMt, tPr, tNx, tSlD, tON, tOS, tIfD, DL.tAndT, DL.tOrT, DL.tNotT, tTru, tChainT, tNeg, tListM, List.map_cons, List.map_nil, List.length_cons, List.length_nil, List.replicate, List.cons_append, List.nil_append, List.getElem?_cons_zero, List.getElem?_cons_succ, List.set_cons_zero, List.set_cons_succ, Option.some.injEq, exists_eq_left', exists_eq_left, D.bl.injEq, D.int.injEq, D.str.injEq, D.lst.injEq, D.ref.injEq, if_true, if_false, Bool.true_eq_false, Bool.false_eq_true, startD, bodyEnds, Nat.reduceSub, Nat.reduceAdd, true_and, and_true, tDicM, tPrs]
  intro b hb
  refine ⟨by decide, by decide, updM_same, [.inr ("error" : Str), .inr ("vacant" : Str)], rfl, two_nd, by decide, ?_⟩
  rw [updM_over]
  simp only [r_l_above_8, tSq, DL.tIfS, tBinT, tBin, tV, tK, DL.tSet, tRt, tRtN, tAs, gSb, tFn, tAC, tA0, tDr, tApp, tExt, tPopA, tLstD, tTupD, tLstM, tCl, tMt, tPr, tNx, tSlD, tON, tOS, tIfD, DL.tAndT, DL.tOrT, DL.tNotT, tTru, tChainT, tNeg, tListM, List.map_cons, List.map_nil, List.length_cons, List.length_nil, List.replicate, List.cons_append, List.nil_append, List.getElem?_cons_zero, List.getElem?_cons_succ, List.set_cons_zero, List.set_cons_succ, Option.some.injEq, exists_eq_left', exists_eq_left, D.bl.injEq, D.int.injEq, D.str.injEq, D.lst.injEq, D.ref.injEq, if_true, if_false, Bool.true_eq_false, Bool.false_eq_true, startD, bodyEnds, Nat.reduceSub, Nat.reduceAdd, true_and, and_true, tFo, iSeq, dSeq]
  refine forD_inv (fun i env m' => ∃ e2 e3 e4 e5, env = [some (.lst (rows.map rowD)), some (.ref b), e2, e3, e4, e5] ∧ m' = updM m b (dicA (alD (upsL (rows.take i)))) ∧ UpOk (upsL (rows.take i)))
    ⟨none, none, none, none, rfl, rfl, base0_ok⟩ ?_ ?_
  · rintro i d env m' N hd ⟨e2, e3, e4, e5, rfl, rfl, hok⟩ hN
    rw [List.getElem?_map] at hd
    obtain ⟨row, hri, rfl⟩ := Option.map_eq_some_iff.mp hd
    have hi : i < rows.length := by
      rcases Nat.lt_or_ge i rows.length with z | z
      · exact z
      · rw [List.getElem?_eq_none z] at hri; cases hri
    obtain ⟨w, bs⟩ := row
    obtain ⟨w1, w2, w3, w4, w5⟩ := hr i (w, bs) hri
    have hkeys := upsL_keys (rows.take i)
    have htk : rows.take (i + 1) = rows.take i ++ [(w, bs)] := by
      rw [List.take_add_one, hri] <;> rfl
    have klen : (knownOf (rows.take i)).length ≤ 32 := by rw [knownOf_len, List.length_take]; omega
    rw [← hkeys] at w1 w5
    have alen : (upsL (rows.take i)).length ≤ 32 := by
      have := congrArg List.length hkeys
      unfold keysA at this
      rw [List.length_map] at this
      omega
    have hup : upsL (rows.take (i + 1)) = upsL (rows.take i) ++ [(w, mine (upsL (rows.take i)) w bs)] := by rw [htk, upsL_snoc]; rfl
    generalize upsL (rows.take i) = al at *
    simp only [tgD, gN, r_l_above_6, tSq, DL.tIfS, tBinT, tBin, tV, tK, DL.tSet, tRt, tRtN, tAs, gSb, tFn, tAC, tA0, tDr, tApp, tExt, tPopA, tLstD, tTupD, tLstM, tCl, tMt, tPr, tNx, tSlD, tON, tOS, tIfD, DL.tAndT, DL.tOrT, DL.tNotT, tTru, tChainT, tNeg, tListM, List.map_cons, List.map_nil, List.length_cons, List.length_nil, List.replicate, List.cons_append, List.nil_append, List.getElem?_cons_zero, List.getElem?_cons_succ, List.set_cons_zero, List.set_cons_succ, Option.some.injEq, exists_eq_left', exists_eq_left, D.bl.injEq, D.int.injEq, D.str.injEq, D.lst.injEq, D.ref.injEq, if_true, if_false, Bool.true_eq_false, Bool.false_eq_true, startD, bodyEnds, Nat.reduceSub, Nat.reduceAdd, true_and, and_true]
    refine ⟨.str w, dIx_tup rfl rfl (atI_pos (by decide) rfl), by decide, ?_⟩
    simp only [r_l_above_5, tSq, DL.tIfS, tBinT, tBin, tV, tK, DL.tSet, tRt, tRtN, tAs, gSb, tFn, tAC, tA0, tDr, tApp, tExt, tPopA, tLstD, tTupD, tLstM, tCl, tMt, tPr, tNx, tSlD, tON, tOS, tIfD, DL.tAndT, DL.tOrT, DL.tNotT, tTru, tChainT, tNeg, tListM, List.map_cons, List.map_nil, List.length_cons, List.length_nil, List.replicate, List.cons_append, List.nil_append, List.getElem?_cons_zero, List.getElem?_cons_succ, List.set_cons_zero, List.set_cons_succ, Option.some.injEq, exists_eq_left', exists_eq_left, D.bl.injEq, D.int.injEq, D.str.injEq, D.lst.injEq, D.ref.injEq, if_true, if_false, Bool.true_eq_false, Bool.false_eq_true, startD, bodyEnds, Nat.reduceSub, Nat.reduceAdd, true_and, and_true, tFo, iSeq]
    refine ⟨1, rfl, .tup (bs.map .str), ?_, bs.map .str, rfl, ?_⟩
    · simp only [dSl, look, rowD]; rw [cut_from (by decide)]; rfl
    refine forD_inv (ds := bs.map .str) (fun j env m' => ∃ e4 e5, env = [some (.lst (rows.map rowD)), some (.ref b), some (rowD (w, bs)), some (lD ((bs.take j).foldl (addB al) [w])), e4, e5] ∧ m' = updM m b (dicA (alD al)))
      ⟨e4, e5, rfl, rfl⟩ ?_ ?_
    · rintro j d env m' N2 hd ⟨e4, e5, rfl, rfl⟩ hN2
      rw [List.getElem?_map] at hd
      obtain ⟨bb, hbj, rfl⟩ := Option.map_eq_some_iff.mp hd
      have hbm := w5 bb (List.mem_of_getElem? hbj)
      obtain ⟨bi, us, hus, hix⟩ := ulk_some hbm
      have hacc := Acc.fold hok (bs.take j) [w] (.start al w) fun x hx => w5 x (List.mem_of_mem_take hx)
      have hbt : bs.take (j + 1) = bs.take j ++ [bb] := by
        rw [List.take_add_one, hbj] <;> rfl
      have hadd : (bs.take (j + 1)).foldl (addB al) [w] = addB al ((bs.take j).foldl (addB al) [w]) bb := by rw [hbt, List.foldl_append]; rfl
      generalize (bs.take j).foldl (addB al) [w] = acc at *
      have lus := entry_len hok hix
      have lacc := acc_len hacc
      have hd1 : dIx (updM m b (dicA (alD al))) (.ref b) (.str bb) = some (lD us) := dIx_al (al := alD al) (by simp only [look, updM_same, Option.getD_some]) rfl (by rw [alook_alD, hus]; rfl)
      simp only [tgD, gN, r_l_above_3, tSq, DL.tIfS, tBinT, tBin, tV, tK, DL.tSet, tRt, tRtN, tAs, gSb, tFn, tAC, tA0, tDr, tApp, tExt, tPopA, tLstD, tTupD, tLstM, tCl, tMt, tPr, tNx, tSlD, tON, tOS, tIfD, DL.tAndT, DL.tOrT, DL.tNotT, tTru, tChainT, tNeg, tListM, List.map_cons, List.map_nil, List.length_cons, List.length_nil, List.replicate, List.cons_append, List.nil_append, List.getElem?_cons_zero, List.getElem?_cons_succ, List.set_cons_zero, List.set_cons_succ, Option.some.injEq, exists_eq_left', exists_eq_left, D.bl.injEq, D.int.injEq, D.str.injEq, D.lst.injEq, D.ref.injEq, if_true, if_false, Bool.true_eq_false, Bool.false_eq_true, startD, bodyEnds, Nat.reduceSub, Nat.reduceAdd, true_and, and_true]
      refine lc_pure (ds := us.map .str) (newF acc) (fun R hR => ?_) (by rw [List.length_map]; exact smallLt (by omega)) (fun d m1 R hd hm hy hno => ?_) ?_
      · simp only [iSeq, tSq, DL.tIfS, tBinT, tBin, tV, tK, DL.tSet, tRt, tRtN, tAs, gSb, tFn, tAC, tA0, tDr, tApp, tExt, tPopA, tLstD, tTupD, tLstM, tCl, tMt, tPr, tNx, tSlD, tON, tOS, tIfD, DL.tAndT, DL.tOrT, DL.tNotT, tTru, tChainT, tNeg, tListM, List.map_cons, List.map_nil, List.length_cons, List.length_nil, List.replicate, List.cons_append, List.nil_append, List.getElem?_cons_zero, List.getElem?_cons_succ, List.set_cons_zero, List.set_cons_succ, Option.some.injEq, exists_eq_left', exists_eq_left, D.bl.injEq, D.int.injEq, D.str.injEq, D.lst.injEq, D.ref.injEq, if_true, if_false, Bool.true_eq_false, Bool.false_eq_true, startD, bodyEnds, Nat.reduceSub, Nat.reduceAdd, true_and, and_true, hd1]
        exact ⟨_, rfl, hR⟩
      · obtain ⟨z, hz, rfl⟩ := List.mem_map.mp hd
        simp only [tgD, gN, wipeD, r_l_above_1, r_l_above_2, tSq, DL.tIfS, tBinT, tBin, tV, tK, DL.tSet, tRt, tRtN, tAs, gSb, tFn, tAC, tA0, tDr, tApp, tExt, tPopA, tLstD, tTupD, tLstM, tCl, tMt, tPr, tNx, tSlD, tON, tOS, tIfD, DL.tAndT, DL.tOrT, DL.tNotT, tTru, tChainT, tNeg, tListM, List.map_cons, List.map_nil, List.length_cons, List.length_nil, List.replicate, List.cons_append, List.nil_append, List.getElem?_cons_zero, List.getElem?_cons_succ, List.set_cons_zero, List.set_cons_succ, Option.some.injEq, exists_eq_left', exists_eq_left, D.bl.injEq, D.int.injEq, D.str.injEq, D.lst.injEq, D.ref.injEq, if_true, if_false, Bool.true_eq_false, Bool.false_eq_true, startD, bodyEnds, Nat.reduceSub, Nat.reduceAdd, true_and, and_true]
        have i2 := dInB_strs (m := m1) (y := lD acc) (x := z) (xs := acc) (.inl rfl)
        simp only [dNotIn, i2, Option.map_some, Option.some.injEq, exists_eq_left', D.bl.injEq]
        by_cases hxa : z ∈ acc
        · simp only [hxa, decide_true, Bool.not_true, Bool.false_eq_true, if_false]
          exact hno (if_pos hxa)
        · simp only [hxa, decide_false, Bool.not_false, if_true]
          exact hy _ (if_neg hxa)
      · rw [newF_eq]
        have hz : acc.length + (us.filter fun x => decide (x ∉ acc)).length ≤ 1000 := by
          have := List.length_filter_le (fun x => decide (x ∉ acc)) us
          omega
        refine ⟨lD (addB al acc bb), ?_, hN2 _ _ ⟨some (.str bb), e5, ?_, rfl⟩⟩
        · simp only [dAdd, look, lD, List.length_map]
          rw [if_pos (small hz), ← List.map_append]
          unfold addB
          rw [hus, Option.getD_some]
        · rw [hadd]
    · rintro env m' ⟨e4, e5, rfl, rfl⟩
      rw [List.length_map, List.take_length]
      simp only [r_l_above_4, tSq, DL.tIfS, tBinT, tBin, tV, tK, DL.tSet, tRt, tRtN, tAs, gSb, tFn, tAC, tA0, tDr, tApp, tExt, tPopA, tLstD, tTupD, tLstM, tCl, tMt, tPr, tNx, tSlD, tON, tOS, tIfD, DL.tAndT, DL.tOrT, DL.tNotT, tTru, tChainT, tNeg, tListM, List.map_cons, List.map_nil, List.length_cons, List.length_nil, List.replicate, List.cons_append, List.nil_append, List.getElem?_cons_zero, List.getElem?_cons_succ, List.set_cons_zero, List.set_cons_succ, Option.some.injEq, exists_eq_left', exists_eq_left, D.bl.injEq, D.int.injEq, D.str.injEq, D.lst.injEq, D.ref.injEq, if_true, if_false, Bool.true_eq_false, Bool.false_eq_true, startD, bodyEnds, Nat.reduceSub, Nat.reduceAdd, true_and, and_true]
      refine ⟨.str w, dIx_tup rfl rfl (atI_pos (by decide) rfl), ?_⟩
      simp only [dStore, updM_same, dicA]
      refine ⟨.inr w, rfl, by rw [List.length_map]; unfold alD; rw [List.length_map]; exact smallLt (by omega), ?_⟩
      rw [dput_new (by rw [alD_keys]; exact w1)]
      have hme := mine_entry (w := w) hok w5 w3
      refine hN _ _ ⟨_, _, _, _, rfl, ?_, ?_⟩
      · rw [updM_over, hup]
        unfold alD
        rw [List.map_append]; rfl
      · rw [hup]; exact hok.snoc hme
  · rintro env m' ⟨e2, e3, e4, e5, rfl, rfl, hok⟩
    rw [List.length_map, List.take_length]
    simp only [r_l_above_7, tSq, DL.tIfS, tBinT, tBin, tV, tK, DL.tSet, tRt, tRtN, tAs, gSb, tFn, tAC, tA0, tDr, tApp, tExt, tPopA, tLstD, tTupD, tLstM, tCl, tMt, tPr, tNx, tSlD, tON, tOS, tIfD, DL.tAndT, DL.tOrT, DL.tNotT, tTru, tChainT, tNeg, tListM, List.map_cons, List.map_nil, List.length_cons, List.length_nil, List.replicate, List.cons_append, List.nil_append, List.getElem?_cons_zero, List.getElem?_cons_succ, List.set_cons_zero, List.set_cons_succ, Option.some.injEq, exists_eq_left', exists_eq_left, D.bl.injEq, D.int.injEq, D.str.injEq, D.lst.injEq, D.ref.injEq, if_true, if_false, Bool.true_eq_false, Bool.false_eq_true, startD, bodyEnds, Nat.reduceSub, Nat.reduceAdd, true_and, and_true, tFrz]
    refine ⟨_, updM_same, ?_⟩
    rw [delM_upd hb]
    exact dropR.self k
end K58
namespace K58
open PySem PySem.Spec PyProof.Rows DL
open SX (S S_len S_cat S_inj S_tl)
/-! the kinds -/
def tS (xs : List Str) : D := .tup (xs.map .str)
def clash (rows : List Row) (x y : Str) : Bool := decide (y ∈ up rows x) || decide (x ∈ up rows y)
def apart (rows : List Row) (x : Str) (k : List Str) : Bool := !(k.any (clash rows x))
def stepK (rows : List Row) (fs : List (List Str)) (x : Str) : List (List Str) := fs ++ (fs.filter (apart rows x)).map (· ++ [x])
def foundK (rows : List Row) (xs : List Str) : List (List Str) := xs.foldl (stepK rows) [[]]
structure FK (rows : List Row) (n : Nat) (fs : List (List Str)) : Prop where
  hd : ∃ r, fs = [] :: r ∧ ∀ k ∈ r, k ≠ []
  kn : ∀ k ∈ fs, ∀ x ∈ k, x ∈ knownOf rows
  ln : fs.length ≤ 2 ^ n
  le : ∀ k ∈ fs, k.length ≤ n
theorem FK.start (rows : List Row) : FK rows 0 [[]] := ⟨⟨[], rfl, by simp⟩, by simp, by simp, by simp⟩
theorem FK.step {rows : List Row} {n : Nat} {fs : List (List Str)} {x : Str} (h : FK rows n fs) (hx : x ∈ knownOf rows) : FK rows (n + 1) (stepK rows fs x) := by
  obtain ⟨⟨r, rfl, h1⟩, h2, h3, h4⟩ := h
  refine ⟨⟨r ++ ((([] : List Str) :: r).filter (apart rows x)).map (· ++ [x]), rfl, fun k hk => ?_⟩, fun k hk y hy => ?_, ?_, fun k hk => ?_⟩
  · rcases List.mem_append.mp hk with hk | hk
    · exact h1 k hk
    · obtain ⟨k0, _, rfl⟩ := List.mem_map.mp hk
      simp
  · rcases List.mem_append.mp hk with hk | hk
    · exact h2 k hk y hy
    · obtain ⟨k0, hk0, rfl⟩ := List.mem_map.mp hk
      rcases List.mem_append.mp hy with hy | hy
      · exact h2 k0 ((List.mem_filter.mp hk0).1) y hy
      · rw [List.mem_singleton] at hy; subst hy; exact hx
  · unfold stepK
    rw [List.length_append, List.length_map]
    have := List.length_filter_le (apart rows x) ([] :: r)
    rw [Nat.pow_succ]
    omega
  · rcases List.mem_append.mp hk with hk | hk
    · exact Nat.le_succ_of_le (h4 k hk)
    · obtain ⟨k0, hk0, rfl⟩ := List.mem_map.mp hk
      have := h4 k0 ((List.mem_filter.mp hk0).1)
      rw [List.length_append]; simp; omega
theorem foundK_snoc (rows : List Row) (xs : List Str) (x : Str) : foundK rows (xs ++ [x]) = stepK rows (foundK rows xs) x := by unfold foundK; rw [List.foldl_append]; rfl
theorem FK.all {rows : List Row} : ∀ {xs : List Str}, (∀ x ∈ xs, x ∈ knownOf rows) → FK rows xs.length (foundK rows xs) := by
  intro xs
  suffices h : ∀ ys zs : List Str, FK rows zs.length (foundK rows zs) → (∀ x ∈ ys, x ∈ knownOf rows) → FK rows (zs ++ ys).length (foundK rows (zs ++ ys)) by
    intro hx
    simpa using h xs [] (FK.start rows) hx
  intro ys
  induction ys with
  | nil => intro zs h _; simpa using h
  | cons y ys ih =>
    intro zs h hx
    have e : zs ++ y :: ys = (zs ++ [y]) ++ ys := by simp
    rw [e]
    refine ih (zs ++ [y]) ?_ fun x hx' => hx x (List.mem_cons_of_mem _ hx')
    rw [foundK_snoc, List.length_append]
    exact h.step (hx y List.mem_cons_self)
/-- the sorted names -/
theorem strs_of_perm {xs : List Str} {ds : List D} (h : ds.Perm (xs.map .str)) : ∃ ys : List Str, ds = ys.map .str ∧ ys.Perm xs := by
  have hall : ds.all isTx = true := by
    rw [List.all_eq_true]
    intro d hd
    obtain ⟨x, _, rfl⟩ := List.mem_map.mp (h.subset hd)
    rfl
  obtain ⟨ys, rfl⟩ := allS_strs hall
  refine ⟨ys, rfl, ?_⟩
  have h2 := h.filterMap fun d : D => match d with
    | .str x => some x
    | _ => none
  have e : ∀ zs : List Str, (zs.map D.str).filterMap (fun d : D => match d with
    | .str x => some x
    | _ => none) = zs := fun zs => by
    rw [List.filterMap_map, show ((fun d : D => match d with
      | .str x => some x
      | _ => none) ∘ D.str) = some from rfl, List.filterMap_some]
  rwa [e, e] at h2
theorem okSrt_strs (xs : List Str) : okSrt (xs.map .str) = true := by
  unfold okSrt
  rw [Bool.or_eq_true]
  left
  rw [List.all_map, List.all_eq_true]
  intro x _
  rfl
theorem okSrt_rows {fs : List (List Str)} (h : ∀ k ∈ fs, k ≠ []) : okSrt (fs.map tS) = true := by
  unfold okSrt
  rw [Bool.or_eq_true]
  right
  rw [List.all_map, List.all_eq_true]
  intro k hk
  obtain ⟨x, r, rfl⟩ := List.exists_cons_of_ne_nil (h k hk)
  show (isTx (.str x) && (r.map D.str).all isTx) = true
  rw [List.all_map]
  have : r.all (isTx ∘ D.str) = true := List.all_eq_true.mpr fun _ _ => rfl
  rw [this]; rfl
noncomputable def sortN (rows : List Row) : List Str := (strs_of_perm (srtD_perm ((knownOf rows).map .str))).choose
theorem sortN_eq (rows : List Row) : srtD ((knownOf rows).map .str) = (sortN rows).map .str := (strs_of_perm (srtD_perm ((knownOf rows).map .str))).choose_spec.1
theorem sortN_perm (rows : List Row) : (sortN rows).Perm (knownOf rows) := (strs_of_perm (srtD_perm ((knownOf rows).map .str))).choose_spec.2
theorem sortN_kn (rows : List Row) : ∀ x ∈ sortN rows, x ∈ knownOf rows := fun x hx => (sortN_perm rows).subset hx
noncomputable def rawK (rows : List Row) : List (List Str) := (foundK rows (sortN rows)).drop 1
noncomputable def kindsD (rows : List Row) : List D := srtD ((rawK rows).map tS)
theorem up_ulk {rows : List Row} {x : Str} (h : x ∈ knownOf rows) : ulk (upsL rows) x = some (up rows x) := by
  obtain ⟨i, us, e, _⟩ := ulk_some (by rw [upsL_keys]; exact h)
  unfold up; rw [e]; rfl
theorem no_within : ("within" : Str) ∉ nsC := by decide +kernel
theorem no_apart : ("is_apart" : Str) ∉ nsC := by decide +kernel
theorem no_kinds : ("kinds" : Str) ∉ nsC := by decide +kernel
theorem no_meets : ("meets" : Str) ∉ nsC := by decide +kernel
theorem boolsOf_map (bs : List Bool) : boolsOf (bs.map D.bl) = some bs := by
  induction bs with
  | nil => rfl
  | cons b bs ih => simp only [List.map_cons, boolsOf, ih, Option.map_some]
theorem dAny_map {α : Type} (xs : List α) (f : α → Bool) : dAny (.lst (xs.map fun x => D.bl (f x))) = some (.bl (xs.any f)) := by
  have e : (xs.map fun x => D.bl (f x)) = (xs.map f).map .bl := by rw [List.map_map]; rfl
  rw [e]
  show (boolsOf _).map (fun bs => D.bl (bs.any id)) = _
  rw [boolsOf_map]
  show some (D.bl ((xs.map f).any id)) = _
  rw [List.any_map]; rfl
def clF (rows : List Row) (x : Str) : D → Option D
  | .str y => some (.bl (clash rows x y))
  | _ => none
theorem clF_eq (rows : List Row) (x : Str) (k : List Str) : (k.map D.str).filterMap (clF rows x) = k.map fun y => D.bl (clash rows x y) := by
  induction k with
  | nil => rfl
  | cons y k ih => rw [List.map_cons, List.filterMap_cons, ih]; rfl
theorem apart_ok {m : M} {C : Addr} {rows : List Row} {x : Str} {k : List Str} {Q : DK} (hx : x ∈ knownOf rows) (hk : ∀ y ∈ k, y ∈ knownOf rows) (hl : k.length ≤ 100) (h : Q (.bl (apart rows x k)) m) : sp_Classes_is_apart C [clsD C rows, .str x, tS k] m Q := by
  refine ⟨rfl, ?_⟩
  show r_Classes_is_apart_2 C _ _ _
  simp only [r_Classes_is_apart_2, tSq, DL.tIfS, tBinT, tBin, tV, tK, DL.tSet, tRt, tRtN, tAs, gSb, tFn, tAC, tA0, tDr, tApp, tExt, tPopA, tLstD, tTupD, tLstM, tCl, tMt, tPr, tNx, tSlD, tON, tOS, tIfD, DL.tAndT, DL.tOrT, DL.tNotT, tTru, tChainT, tNeg, tListM, List.map_cons, List.map_nil, List.length_cons, List.length_nil, List.replicate, List.cons_append, List.nil_append, List.getElem?_cons_zero, List.getElem?_cons_succ, List.set_cons_zero, List.set_cons_succ, Option.some.injEq, exists_eq_left', exists_eq_left, D.bl.injEq, D.int.injEq, D.str.injEq, D.lst.injEq, D.ref.injEq, if_true, if_false, Bool.true_eq_false, Bool.false_eq_true, startD, bodyEnds, Nat.reduceSub, Nat.reduceAdd, true_and, and_true, tNotV]
  refine lc_pure (ds := k.map .str) (clF rows x) (fun R hR => ?_) (by rw [List.length_map]; exact smallLt (by omega)) (fun d m1 R hd hm hy hno => ?_) ?_
  · simp only [iSeq, dSeq, tSq, DL.tIfS, tBinT, tBin, tV, tK, DL.tSet, tRt, tRtN, tAs, gSb, tFn, tAC, tA0, tDr, tApp, tExt, tPopA, tLstD, tTupD, tLstM, tCl, tMt, tPr, tNx, tSlD, tON, tOS, tIfD, DL.tAndT, DL.tOrT, DL.tNotT, tTru, tChainT, tNeg, tListM, List.map_cons, List.map_nil, List.length_cons, List.length_nil, List.replicate, List.cons_append, List.nil_append, List.getElem?_cons_zero, List.getElem?_cons_succ, List.set_cons_zero, List.set_cons_succ, Option.some.injEq, exists_eq_left', exists_eq_left, D.bl.injEq, D.int.injEq, D.str.injEq, D.lst.injEq, D.ref.injEq, if_true, if_false, Bool.true_eq_false, Bool.false_eq_true, startD, bodyEnds, Nat.reduceSub, Nat.reduceAdd, true_and, and_true, tS]
    exact hR
  · obtain ⟨y, hym, rfl⟩ := List.mem_map.mp hd
    simp only [tgD, gN, wipeD, tYe, r_Classes_is_apart_1, tSq, DL.tIfS, tBinT, tBin, tV, tK, DL.tSet, tRt, tRtN, tAs, gSb, tFn, tAC, tA0, tDr, tApp, tExt, tPopA, tLstD, tTupD, tLstM, tCl, tMt, tPr, tNx, tSlD, tON, tOS, tIfD, DL.tAndT, DL.tOrT, DL.tNotT, tTru, tChainT, tNeg, tListM, List.map_cons, List.map_nil, List.length_cons, List.length_nil, List.replicate, List.cons_append, List.nil_append, List.getElem?_cons_zero, List.getElem?_cons_succ, List.set_cons_zero, List.set_cons_succ, Option.some.injEq, exists_eq_left', exists_eq_left, D.bl.injEq, D.int.injEq, D.str.injEq, D.lst.injEq, D.ref.injEq, if_true, if_false, Bool.true_eq_false, Bool.false_eq_true, startD, bodyEnds, Nat.reduceSub, Nat.reduceAdd, true_and, and_true, tOrV]
    refine ⟨_, _, rfl, no_within, within_ok (up_ulk hx) ⟨decide (y ∈ up rows x), rfl, ?_⟩⟩
    by_cases g : y ∈ up rows x
    · simp only [g, decide_true, if_true]
      refine hy _ ?_
      show some (D.bl (clash rows x y)) = _
      unfold clash; simp [g]
    · simp only [g, decide_false, Bool.false_eq_true, if_false]
      refine ⟨_, _, rfl, no_within, within_ok (up_ulk (hk y hym)) (hy _ ?_)⟩
      show some (D.bl (clash rows x y)) = _
      unfold clash; simp [g]
  · rw [clF_eq]
    simp only [d1, look, dAny_map, Option.some.injEq, exists_eq_left']
    exact ⟨_, rfl, dropR.self h⟩
def extF (rows : List Row) (x : Str) : D → Option D
  | .tup ds => if apart rows x (ds.filterMap fun d => match d with
      | .str y => some y
      | _ => none) then some (.tup (ds ++ [.str x])) else none
  | _ => none
theorem unstr (k : List Str) : (k.map D.str).filterMap (fun d : D => match d with
      | .str y => some y
      | _ => none) = k := by
  induction k with
  | nil => rfl
  | cons y k ih => rw [List.map_cons, List.filterMap_cons, ih]
theorem extF_tS (rows : List Row) (x : Str) (k : List Str) : extF rows x (tS k) = if apart rows x k then some (tS (k ++ [x])) else none := by
  unfold extF tS
  simp only [unstr]
  rw [List.map_append]; rfl
theorem extF_eq (rows : List Row) (x : Str) (fs : List (List Str)) : (fs.map tS).filterMap (extF rows x) = ((fs.filter (apart rows x)).map (· ++ [x])).map tS := by
  induction fs with
  | nil => rfl
  | cons k fs ih =>
    rw [List.map_cons, List.filterMap_cons, extF_tS, ih]
    by_cases g : apart rows x k = true
    · rw [if_pos g, List.filter_cons_of_pos g]; rfl
    · rw [if_neg g, List.filter_cons_of_neg g]
theorem pow6 {n : Nat} (h : n ≤ 6) : 2 ^ n ≤ 64 := Nat.pow_le_pow_right (by decide) h
theorem dSort_names {rows : List Row} (hn : rows.length ≤ 30) : dSort (.tup ((knownOf rows).map .str)) = some (.lst ((sortN rows).map .str)) ∧ dSort (.lst ((knownOf rows).map .str)) = some (.lst ((sortN rows).map .str)) := by
  have kl := knownOf_len rows
  have hc : okSrt ((knownOf rows).map .str) = true ∧ ((knownOf rows).map D.str).length ≤ sizeLine := ⟨okSrt_strs _, by rw [List.length_map]; exact small (by omega)⟩
  unfold dSort
  simp only [if_pos hc, sortN_eq, and_self]
theorem raw_ne {rows : List Row} : ∀ k ∈ rawK rows, k ≠ [] := by
  obtain ⟨r, e, h⟩ := (FK.all (sortN_kn rows)).hd
  unfold rawK
  rw [e]
  exact h
theorem raw_len {rows : List Row} (h6 : (knownOf rows).length ≤ 6) : (rawK rows).length ≤ 64 ∧ ∀ k ∈ rawK rows, k.length ≤ 6 ∧ ∀ x ∈ k, x ∈ knownOf rows := by
  have f := FK.all (sortN_kn rows)
  have hl : (sortN rows).length ≤ 6 := by rw [(sortN_perm rows).length_eq]; exact h6
  refine ⟨?_, fun k hk => ?_⟩
  · unfold rawK
    rw [List.length_drop]
    have := f.ln
    have := pow6 hl
    omega
  · have hk' := List.mem_of_mem_drop hk
    exact ⟨Nat.le_trans (f.le k hk') hl, f.kn k hk'⟩
theorem dSort_raw {rows : List Row} (h6 : (knownOf rows).length ≤ 6) : dSort (.lst ((rawK rows).map tS)) = some (.lst (kindsD rows)) := by
  have hc : okSrt ((rawK rows).map tS) = true ∧ ((rawK rows).map tS).length ≤ sizeLine := ⟨okSrt_rows raw_ne, by rw [List.length_map]; exact small (by have := (raw_len h6).1; omega)⟩
  unfold dSort
  simp only [if_pos hc]; rfl
theorem drop_tS (rows : List Row) : ((foundK rows (sortN rows)).map tS).drop 1 = (rawK rows).map tS := by unfold rawK; rw [List.map_drop]
/-- the program's kinds of few names -/
theorem kinds_ok {m : M} {C CT : Addr} {rows : List Row} {R : DK} {F : Addr → List Str → List D → M → Prop} (h6 : (knownOf rows).length ≤ 6) (k : R (.tup (kindsD rows)) m) : sp_Classes_kinds C CT [clsD C rows] m R F := by
  have hn : rows.length ≤ 30 := by have := knownOf_len rows; omega
  refine ⟨rfl, ?_⟩
  show r_Classes_kinds_8 C CT _ _ _
  simp only [r_Classes_kinds_8, tSq, DL.tIfS, tBinT, tBin, tV, tK, DL.tSet, tRt, tRtN, tAs, gSb, tFn, tAC, tA0, tDr, tApp, tExt, tPopA, tLstD, tTupD, tLstM, tCl, tMt, tPr, tNx, tSlD, tON, tOS, tIfD, DL.tAndT, DL.tOrT, DL.tNotT, tTru, tChainT, tNeg, tListM, List.map_cons, List.map_nil, List.length_cons, List.length_nil, List.replicate, List.cons_append, List.nil_append, List.getElem?_cons_zero, List.getElem?_cons_succ, List.set_cons_zero, List.set_cons_succ, Option.some.injEq, exists_eq_left', exists_eq_left, D.bl.injEq, D.int.injEq, D.str.injEq, D.lst.injEq, D.ref.injEq, if_true, if_false, Bool.true_eq_false, Bool.false_eq_true, startD, bodyEnds, Nat.reduceSub, Nat.reduceAdd, true_and, and_true, tFl, bodyEndsX]
  refine ⟨nsC, vsC rows, _, rfl, get_namesC C rows, .int (knownOf rows).length, by simp only [d1, look, dLen, List.length_map], false, by simp only [dGt, look, d2IB, Option.map_some, Option.some.injEq, D.bl.injEq, decide_eq_false_iff_not]; omega, ?_⟩
  simp only [Bool.false_eq_true, if_false]
  simp only [r_Classes_kinds_7, tSq, DL.tIfS, tBinT, tBin, tV, tK, DL.tSet, tRt, tRtN, tAs, gSb, tFn, tAC, tA0, tDr, tApp, tExt, tPopA, tLstD, tTupD, tLstM, tCl, tMt, tPr, tNx, tSlD, tON, tOS, tIfD, DL.tAndT, DL.tOrT, DL.tNotT, tTru, tChainT, tNeg, tListM, List.map_cons, List.map_nil, List.length_cons, List.length_nil, List.replicate, List.cons_append, List.nil_append, List.getElem?_cons_zero, List.getElem?_cons_succ, List.set_cons_zero, List.set_cons_succ, Option.some.injEq, exists_eq_left', exists_eq_left, D.bl.injEq, D.int.injEq, D.str.injEq, D.lst.injEq, D.ref.injEq, if_true, if_false, Bool.true_eq_false, Bool.false_eq_true, startD, bodyEnds, Nat.reduceSub, Nat.reduceAdd, true_and, and_true]
  refine ⟨by decide, by decide, ?_⟩
  simp only [r_Classes_kinds_6, tSq, DL.tIfS, tBinT, tBin, tV, tK, DL.tSet, tRt, tRtN, tAs, gSb, tFn, tAC, tA0, tDr, tApp, tExt, tPopA, tLstD, tTupD, tLstM, tCl, tMt, tPr, tNx, tSlD, tON, tOS, tIfD, DL.tAndT, DL.tOrT, DL.tNotT, tTru, tChainT, tNeg, tListM, List.map_cons, List.map_nil, List.length_cons, List.length_nil, List.replicate, List.cons_append, List.nil_append, List.getElem?_cons_zero, List.getElem?_cons_succ, List.set_cons_zero, List.set_cons_succ, Option.some.injEq, exists_eq_left', exists_eq_left, D.bl.injEq, D.int.injEq, D.str.injEq, D.lst.injEq, D.ref.injEq, if_true, if_false, Bool.true_eq_false, Bool.false_eq_true, startD, bodyEnds, Nat.reduceSub, Nat.reduceAdd, true_and, and_true, tFo, iSeq, dSeq, tFl]
  refine ⟨nsC, vsC rows, _, rfl, get_namesC C rows, .lst ((sortN rows).map .str), by simp only [d1, look]; exact (dSort_names hn).1, (sortN rows).map .str, rfl, ?_⟩
  have hl6 : (sortN rows).length ≤ 6 := by rw [(sortN_perm rows).length_eq]; exact h6
  refine forD_inv (fun i env m' => ∃ e2 e3, env = [some (clsD C rows), some (.lst ((foundK rows ((sortN rows).take i)).map tS)), e2, e3] ∧ m' = m ∧ FK rows i (foundK rows ((sortN rows).take i)))
    ⟨none, none, rfl, rfl, FK.start rows⟩ ?_ ?_
  · rintro i d env m' N hd ⟨e2, e3, rfl, rfl, fk⟩ hN
    rw [List.getElem?_map] at hd
    obtain ⟨x, hxi, rfl⟩ := Option.map_eq_some_iff.mp hd
    have hx := sortN_kn rows x (List.mem_of_getElem? hxi)
    have hi : i < (sortN rows).length := by
      rcases Nat.lt_or_ge i (sortN rows).length with z | z
      · exact z
      · rw [List.getElem?_eq_none z] at hxi; cases hxi
    have ht : (sortN rows).take (i + 1) = (sortN rows).take i ++ [x] := by
      rw [List.take_add_one, hxi] <;> rfl
    have hs : foundK rows ((sortN rows).take (i + 1)) = stepK rows (foundK rows ((sortN rows).take i)) x := by rw [ht, foundK_snoc]
    have fk2 := fk.step hx
    have p6 := pow6 (show i ≤ 6 by omega)
    have p62 := pow6 (show i + 1 ≤ 6 by omega)
    have ln := fk.ln
    have ln2 := fk2.ln
    rw [hs] at hN
    generalize foundK rows ((sortN rows).take i) = fs at *
    simp only [tgD, gN, r_Classes_kinds_4, tSq, DL.tIfS, tBinT, tBin, tV, tK, DL.tSet, tRt, tRtN, tAs, gSb, tFn, tAC, tA0, tDr, tApp, tExt, tPopA, tLstD, tTupD, tLstM, tCl, tMt, tPr, tNx, tSlD, tON, tOS, tIfD, DL.tAndT, DL.tOrT, DL.tNotT, tTru, tChainT, tNeg, tListM, List.map_cons, List.map_nil, List.length_cons, List.length_nil, List.replicate, List.cons_append, List.nil_append, List.getElem?_cons_zero, List.getElem?_cons_succ, List.set_cons_zero, List.set_cons_succ, Option.some.injEq, exists_eq_left', exists_eq_left, D.bl.injEq, D.int.injEq, D.str.injEq, D.lst.injEq, D.ref.injEq, if_true, if_false, Bool.true_eq_false, Bool.false_eq_true, startD, bodyEnds, Nat.reduceSub, Nat.reduceAdd, true_and, and_true]
    refine lc_pure (ds := fs.map tS) (extF rows x) (fun R hR => ?_) (by rw [List.length_map]; exact smallLt (by omega)) (fun d m1 R hd hm hy hno => ?_) ?_
    · simp only [iSeq, dSeq, tSq, DL.tIfS, tBinT, tBin, tV, tK, DL.tSet, tRt, tRtN, tAs, gSb, tFn, tAC, tA0, tDr, tApp, tExt, tPopA, tLstD, tTupD, tLstM, tCl, tMt, tPr, tNx, tSlD, tON, tOS, tIfD, DL.tAndT, DL.tOrT, DL.tNotT, tTru, tChainT, tNeg, tListM, List.map_cons, List.map_nil, List.length_cons, List.length_nil, List.replicate, List.cons_append, List.nil_append, List.getElem?_cons_zero, List.getElem?_cons_succ, List.set_cons_zero, List.set_cons_succ, Option.some.injEq, exists_eq_left', exists_eq_left, D.bl.injEq, D.int.injEq, D.str.injEq, D.lst.injEq, D.ref.injEq, if_true, if_false, Bool.true_eq_false, Bool.false_eq_true, startD, bodyEnds, Nat.reduceSub, Nat.reduceAdd, true_and, and_true]
      exact hR
    · obtain ⟨kd, hkd, rfl⟩ := List.mem_map.mp hd
      simp only [tgD, gN, wipeD, r_Classes_kinds_2, r_Classes_kinds_3, tSq, DL.tIfS, tBinT, tBin, tV, tK, DL.tSet, tRt, tRtN, tAs, gSb, tFn, tAC, tA0, tDr, tApp, tExt, tPopA, tLstD, tTupD, tLstM, tCl, tMt, tPr, tNx, tSlD, tON, tOS, tIfD, DL.tAndT, DL.tOrT, DL.tNotT, tTru, tChainT, tNeg, tListM, List.map_cons, List.map_nil, List.length_cons, List.length_nil, List.replicate, List.cons_append, List.nil_append, List.getElem?_cons_zero, List.getElem?_cons_succ, List.set_cons_zero, List.set_cons_succ, Option.some.injEq, exists_eq_left', exists_eq_left, D.bl.injEq, D.int.injEq, D.str.injEq, D.lst.injEq, D.ref.injEq, if_true, if_false, Bool.true_eq_false, Bool.false_eq_true, startD, bodyEnds, Nat.reduceSub, Nat.reduceAdd, true_and, and_true]
      refine ⟨_, _, rfl, no_apart, apart_ok hx (fk.kn kd hkd) (by have := fk.le kd hkd; omega) ⟨apart rows x kd, rfl, ?_⟩⟩
      by_cases g : apart rows x kd = true
      · simp only [g, if_true]
        refine ⟨by decide, tS (kd ++ [x]), ?_, hy _ (by rw [extF_tS, if_pos g])⟩
        simp only [dAdd, look, tS, List.length_map, List.length_cons, List.length_nil]
        rw [if_pos (small (by have := fk.le kd hkd; omega)), List.map_append]; rfl
      · have g' : apart rows x kd = false := by simpa using g
        simp only [g', Bool.false_eq_true, if_false]
        exact hno (by rw [extF_tS, if_neg g])
    · rw [extF_eq]
      refine ⟨.lst ((stepK rows fs x).map tS), ?_, hN _ _ ⟨_, e3, rfl, rfl, fk2⟩⟩
      have := List.length_filter_le (apart rows x) fs
      simp only [dAdd, look, List.length_map]
      rw [if_pos (small (by omega)), ← List.map_append]; rfl
  · rintro env m' ⟨e2, e3, rfl, rfl, fk⟩
    rw [List.length_map, List.take_length]
    simp only [r_Classes_kinds_5, tSq, DL.tIfS, tBinT, tBin, tV, tK, DL.tSet, tRt, tRtN, tAs, gSb, tFn, tAC, tA0, tDr, tApp, tExt, tPopA, tLstD, tTupD, tLstM, tCl, tMt, tPr, tNx, tSlD, tON, tOS, tIfD, DL.tAndT, DL.tOrT, DL.tNotT, tTru, tChainT, tNeg, tListM, List.map_cons, List.map_nil, List.length_cons, List.length_nil, List.replicate, List.cons_append, List.nil_append, List.getElem?_cons_zero, List.getElem?_cons_succ, List.set_cons_zero, List.set_cons_succ, Option.some.injEq, exists_eq_left', exists_eq_left, D.bl.injEq, D.int.injEq, D.str.injEq, D.lst.injEq, D.ref.injEq, if_true, if_false, Bool.true_eq_false, Bool.false_eq_true, startD, bodyEnds, Nat.reduceSub, Nat.reduceAdd, true_and, and_true]
    refine ⟨1, rfl, .lst ((rawK rows).map tS), ?_, .lst (kindsD rows), by simp only [d1, look]; exact dSort_raw h6, .tup (kindsD rows), rfl, k⟩
    simp only [dSl, look]
    rw [cut_from (by decide)]
    show some (D.lst (((foundK rows (sortN rows)).map tS).drop 1)) = _
    rw [drop_tS]
/-- .. of many -/
theorem kinds_many {m : M} {C CT : Addr} {rows : List Row} {R : DK} {F : Addr → List Str → List D → M → Prop} (h6 : 6 < (knownOf rows).length) (k : F CT [("most" : Str), ("what" : Str)] [.int 6, .str "classes"] m) : sp_Classes_kinds C CT [clsD C rows] m R F := by
  refine ⟨rfl, ?_⟩
  show r_Classes_kinds_8 C CT _ _ _
  simp only [r_Classes_kinds_8, tSq, DL.tIfS, tBinT, tBin, tV, tK, DL.tSet, tRt, tRtN, tAs, gSb, tFn, tAC, tA0, tDr, tApp, tExt, tPopA, tLstD, tTupD, tLstM, tCl, tMt, tPr, tNx, tSlD, tON, tOS, tIfD, DL.tAndT, DL.tOrT, DL.tNotT, tTru, tChainT, tNeg, tListM, List.map_cons, List.map_nil, List.length_cons, List.length_nil, List.replicate, List.cons_append, List.nil_append, List.getElem?_cons_zero, List.getElem?_cons_succ, List.set_cons_zero, List.set_cons_succ, Option.some.injEq, exists_eq_left', exists_eq_left, D.bl.injEq, D.int.injEq, D.str.injEq, D.lst.injEq, D.ref.injEq, if_true, if_false, Bool.true_eq_false, Bool.false_eq_true, startD, bodyEnds, Nat.reduceSub, Nat.reduceAdd, true_and, and_true, tFl, bodyEndsX]
  refine ⟨nsC, vsC rows, _, rfl, get_namesC C rows, .int (knownOf rows).length, by simp only [d1, look, dLen, List.length_map], true, by simp only [dGt, look, d2IB, Option.map_some, Option.some.injEq, D.bl.injEq, decide_eq_true_iff]; omega, ?_⟩
  simp only [if_true]
  simp only [r_Classes_kinds_1, tSq, DL.tIfS, tBinT, tBin, tV, tK, DL.tSet, tRt, tRtN, tAs, gSb, tFn, tAC, tA0, tDr, tApp, tExt, tPopA, tLstD, tTupD, tLstM, tCl, tMt, tPr, tNx, tSlD, tON, tOS, tIfD, DL.tAndT, DL.tOrT, DL.tNotT, tTru, tChainT, tNeg, tListM, List.map_cons, List.map_nil, List.length_cons, List.length_nil, List.replicate, List.cons_append, List.nil_append, List.getElem?_cons_zero, List.getElem?_cons_succ, List.set_cons_zero, List.set_cons_succ, Option.some.injEq, exists_eq_left', exists_eq_left, D.bl.injEq, D.int.injEq, D.str.injEq, D.lst.injEq, D.ref.injEq, if_true, if_false, Bool.true_eq_false, Bool.false_eq_true, startD, bodyEnds, Nat.reduceSub, Nat.reduceAdd, true_and, and_true, tRz]
  exact k
end K58
namespace K58
open PySem PySem.Spec PyProof.Rows DL
open SX (S S_len S_cat S_inj S_tl)
/-! the law's kinds -/
def abD (rows : List Row) : D := dicA (alD (upsL rows))
theorem ab_ix {m : M} {rows : List Row} {x : Str} (hx : x ∈ knownOf rows) : dIx m (abD rows) (.str x) = some (lD (up rows x)) := dIx_al (al := alD (upsL rows)) rfl rfl (by rw [alook_alD, up_ulk hx]; rfl)
theorem ab_list (rows : List Row) : dList (abD rows) = some (.lst ((knownOf rows).map .str)) := by
  unfold abD dicA dList
  have e : (alD (upsL rows)).map (fun e => D.str e.1) = ((alD (upsL rows)).map (·.1)).map .str := by rw [List.map_map]; rfl
  rw [e, alD_keys, upsL_keys]
def clsF (rows : List Row) (x : Str) : D → Option D
  | .str y => if clash rows x y then some (.str y) else none
  | _ => none
theorem clsF_eq (rows : List Row) (x : Str) (k : List Str) : (k.map D.str).filterMap (clsF rows x) = (k.filter (clash rows x)).map .str := by
  induction k with
  | nil => rfl
  | cons y k ih =>
    rw [List.map_cons, List.filterMap_cons, ih]
    by_cases g : clash rows x y = true
    · have e : clsF rows x (.str y) = some (.str y) := if_pos g
      rw [e, List.filter_cons_of_pos g]; rfl
    · have e : clsF rows x (.str y) = none := if_neg g
      rw [e, List.filter_cons_of_neg g]
theorem clash_nil (rows : List Row) (x : Str) (k : List Str) : decide ((k.filter (clash rows x)).map D.str = []) = apart rows x k := by
  unfold apart
  rw [Bool.eq_iff_iff, decide_eq_true_eq, List.map_eq_nil_iff, List.filter_eq_nil_iff, Bool.not_eq_true', Bool.eq_false_iff, ne_eq, List.any_eq_true]
  exact ⟨fun h ⟨y, h1, h2⟩ => h y h1 h2, fun h y h1 h2 => h ⟨y, h1, h2⟩⟩
theorem datL_strs {xs : List Str} (h : ∀ x ∈ xs, PyData.strOk x = true) (n : Nat) : datL n (xs.map .str) = true := by
  rw [datL_all, List.all_map, List.all_eq_true]
  intro x hx
  show dat n (.str x) = true
  cases n <;> exact h x hx
structure WInv (rows : List Row) (one : Str) (W Mt : List Str) : Prop where
  er : ("error" : Str) ∈ Mt
  at_ : one ∈ W ∨ one ∈ Mt
  w : ∀ x ∈ W, x ∈ up rows one
  mt : ∀ x ∈ Mt, x ∈ up rows one
  cl : ∀ w bs, (w, bs) ∈ rows → w ∈ Mt → ∀ b ∈ bs, b ∈ W ∨ b ∈ Mt
  nd : Mt.Nodup
theorem lkinds_ok {m : M} {rows : List Row} {Q : DK} (hro : RowsOk rows) (h6 : (knownOf rows).length ≤ 6) (k : Q (.lst (kindsD rows)) m) : sp_l_kinds [abD rows] m Q := by
  have hn : rows.length ≤ 30 := by have := knownOf_len rows; omega
  have hl6 : (sortN rows).length ≤ 6 := by rw [(sortN_perm rows).length_eq]; exact h6
  refine ⟨rfl, ?_⟩
  show r_l_kinds_10 _ _ _
  simp only [r_l_kinds_10, tSq, DL.tIfS, tBinT, tBin, tV, tK, DL.tSet, tRt, tRtN, tAs, gSb, tFn, tAC, tA0, tDr, tApp, tExt, tPopA, tLstD, tTupD, tLstM, tCl, tMt, tPr, tNx, tSlD, tON, tOS, tIfD, DL.tAndT, DL.tOrT, DL.tNotT, tTru, tChainT, tNeg, tListM, List.map_cons, List.map_nil, List.length_cons, List.length_nil, List.replicate, List.cons_append, List.nil_append, List.getElem?_cons_zero, List.getElem?_cons_succ, List.set_cons_zero, List.set_cons_succ, Option.some.injEq, exists_eq_left', exists_eq_left, D.bl.injEq, D.int.injEq, D.str.injEq, D.lst.injEq, D.ref.injEq, if_true, if_false, Bool.true_eq_false, Bool.false_eq_true, startD, bodyEnds, Nat.reduceSub, Nat.reduceAdd, true_and, and_true]
  refine ⟨by decide, by decide, ?_⟩
  simp only [r_l_kinds_9, tSq, DL.tIfS, tBinT, tBin, tV, tK, DL.tSet, tRt, tRtN, tAs, gSb, tFn, tAC, tA0, tDr, tApp, tExt, tPopA, tLstD, tTupD, tLstM, tCl, tMt, tPr, tNx, tSlD, tON, tOS, tIfD, DL.tAndT, DL.tOrT, DL.tNotT, tTru, tChainT, tNeg, tListM, List.map_cons, List.map_nil, List.length_cons, List.length_nil, List.replicate, List.cons_append, List.nil_append, List.getElem?_cons_zero, List.getElem?_cons_succ, List.set_cons_zero, List.set_cons_succ, Option.some.injEq, exists_eq_left', exists_eq_left, D.bl.injEq, D.int.injEq, D.str.injEq, D.lst.injEq, D.ref.injEq, if_true, if_false, Bool.true_eq_false, Bool.false_eq_true, startD, bodyEnds, Nat.reduceSub, Nat.reduceAdd, true_and, and_true, tFo, iSeq]
  refine ⟨.lst ((knownOf rows).map .str), by simp only [d1]; exact ab_list rows, .lst ((sortN rows).map .str), by simp only [d1, look]; exact (dSort_names hn).2, (sortN rows).map .str, rfl, ?_⟩
  refine forD_inv (fun i env m' => ∃ e2 e3 e4 e5, env = [some (abD rows), some (.lst ((foundK rows ((sortN rows).take i)).map tS)), e2, e3, e4, e5] ∧ (∀ b, m b ≠ none → m' b = m b) ∧ FK rows i (foundK rows ((sortN rows).take i)))
    ⟨none, none, none, none, rfl, fun _ _ => rfl, FK.start rows⟩ ?_ ?_
  · rintro i d env m' N hd ⟨e2, e3, e4, e5, rfl, mo, fk⟩ hN
    rw [List.getElem?_map] at hd
    obtain ⟨x, hxi, rfl⟩ := Option.map_eq_some_iff.mp hd
    have hx := sortN_kn rows x (List.mem_of_getElem? hxi)
    have hi : i < (sortN rows).length := by
      rcases Nat.lt_or_ge i (sortN rows).length with z | z
      · exact z
      · rw [List.getElem?_eq_none z] at hxi; cases hxi
    have ht : (sortN rows).take (i + 1) = (sortN rows).take i ++ [x] := by
      rw [List.take_add_one, hxi] <;> rfl
    have hs : foundK rows ((sortN rows).take (i + 1)) = stepK rows (foundK rows ((sortN rows).take i)) x := by rw [ht, foundK_snoc]
    have fk2 := fk.step hx
    have p6 := pow6 (show i ≤ 6 by omega)
    have ln := fk.ln
    rw [hs] at hN
    generalize foundK rows ((sortN rows).take i) = fs at *
    simp only [tgD, gN, r_l_kinds_7, tSq, DL.tIfS, tBinT, tBin, tV, tK, DL.tSet, tRt, tRtN, tAs, gSb, tFn, tAC, tA0, tDr, tApp, tExt, tPopA, tLstD, tTupD, tLstM, tCl, tMt, tPr, tNx, tSlD, tON, tOS, tIfD, DL.tAndT, DL.tOrT, DL.tNotT, tTru, tChainT, tNeg, tListM, List.map_cons, List.map_nil, List.length_cons, List.length_nil, List.replicate, List.cons_append, List.nil_append, List.getElem?_cons_zero, List.getElem?_cons_succ, List.set_cons_zero, List.set_cons_succ, Option.some.injEq, exists_eq_left', exists_eq_left, D.bl.injEq, D.int.injEq, D.str.injEq, D.lst.injEq, D.ref.injEq, if_true, if_false, Bool.true_eq_false, Bool.false_eq_true, startD, bodyEnds, Nat.reduceSub, Nat.reduceAdd, true_and, and_true]
    refine ⟨by decide, fun r hr => ?_⟩
    have mor : ∀ b d, m b ≠ none → updM m' r d b = m b := fun b d hb => by
      have : b ≠ r := fun e => by
        have z := mo b hb
        rw [e, hr] at z
        exact hb (by rw [e]; exact z.symm)
      rw [updM_ne this]; exact mo b hb
    simp only [r_l_kinds_6, tSq, DL.tIfS, tBinT, tBin, tV, tK, DL.tSet, tRt, tRtN, tAs, gSb, tFn, tAC, tA0, tDr, tApp, tExt, tPopA, tLstD, tTupD, tLstM, tCl, tMt, tPr, tNx, tSlD, tON, tOS, tIfD, DL.tAndT, DL.tOrT, DL.tNotT, tTru, tChainT, tNeg, tListM, List.map_cons, List.map_nil, List.length_cons, List.length_nil, List.replicate, List.cons_append, List.nil_append, List.getElem?_cons_zero, List.getElem?_cons_succ, List.set_cons_zero, List.set_cons_succ, Option.some.injEq, exists_eq_left', exists_eq_left, D.bl.injEq, D.int.injEq, D.str.injEq, D.lst.injEq, D.ref.injEq, if_true, if_false, Bool.true_eq_false, Bool.false_eq_true, startD, bodyEnds, Nat.reduceSub, Nat.reduceAdd, true_and, and_true, tFo, iSeq, dSeq]
    refine forD_inv (ds := fs.map tS) (fun j env m2 => ∃ e4 e5, env = [some (abD rows), some (.lst (fs.map tS)), some (.str x), some (.ref r), e4, e5] ∧ m2 = updM m' r (.lst ((((fs.take j).filter (apart rows x)).map (· ++ [x])).map tS)))
      ⟨e4, e5, rfl, rfl⟩ ?_ ?_
    · rintro j d env m2 N2 hd ⟨e4, e5, rfl, rfl⟩ hN2
      rw [List.getElem?_map] at hd
      obtain ⟨kd, hkj, rfl⟩ := Option.map_eq_some_iff.mp hd
      have hkd := List.mem_of_getElem? hkj
      have hj : j < fs.length := by
        rcases Nat.lt_or_ge j fs.length with z | z
        · exact z
        · rw [List.getElem?_eq_none z] at hkj; cases hkj
      have htk : fs.take (j + 1) = fs.take j ++ [kd] := by
        rw [List.take_add_one, hkj] <;> rfl
      have lk := fk.le kd hkd
      simp only [tgD, gN, r_l_kinds_4, tSq, DL.tIfS, tBinT, tBin, tV, tK, DL.tSet, tRt, tRtN, tAs, gSb, tFn, tAC, tA0, tDr, tApp, tExt, tPopA, tLstD, tTupD, tLstM, tCl, tMt, tPr, tNx, tSlD, tON, tOS, tIfD, DL.tAndT, DL.tOrT, DL.tNotT, tTru, tChainT, tNeg, tListM, List.map_cons, List.map_nil, List.length_cons, List.length_nil, List.replicate, List.cons_append, List.nil_append, List.getElem?_cons_zero, List.getElem?_cons_succ, List.set_cons_zero, List.set_cons_succ, Option.some.injEq, exists_eq_left', exists_eq_left, D.bl.injEq, D.int.injEq, D.str.injEq, D.lst.injEq, D.ref.injEq, if_true, if_false, Bool.true_eq_false, Bool.false_eq_true, startD, bodyEnds, Nat.reduceSub, Nat.reduceAdd, true_and, and_true]
      refine lc_pure (ds := kd.map .str) (clsF rows x) (fun R hR => ?_) (by rw [List.length_map]; exact smallLt (by omega)) (fun d m1 R hd hm hy hno => ?_) ?_
      · simp only [iSeq, dSeq, tSq, DL.tIfS, tBinT, tBin, tV, tK, DL.tSet, tRt, tRtN, tAs, gSb, tFn, tAC, tA0, tDr, tApp, tExt, tPopA, tLstD, tTupD, tLstM, tCl, tMt, tPr, tNx, tSlD, tON, tOS, tIfD, DL.tAndT, DL.tOrT, DL.tNotT, tTru, tChainT, tNeg, tListM, List.map_cons, List.map_nil, List.length_cons, List.length_nil, List.replicate, List.cons_append, List.nil_append, List.getElem?_cons_zero, List.getElem?_cons_succ, List.set_cons_zero, List.set_cons_succ, Option.some.injEq, exists_eq_left', exists_eq_left, D.bl.injEq, D.int.injEq, D.str.injEq, D.lst.injEq, D.ref.injEq, if_true, if_false, Bool.true_eq_false, Bool.false_eq_true, startD, bodyEnds, Nat.reduceSub, Nat.reduceAdd, true_and, and_true, tS]
        exact hR
      · obtain ⟨y, hym, rfl⟩ := List.mem_map.mp hd
        have hyk := fk.kn kd hkd y hym
        simp only [tgD, gN, wipeD, r_l_kinds_1, r_l_kinds_2, tSq, DL.tIfS, tBinT, tBin, tV, tK, DL.tSet, tRt, tRtN, tAs, gSb, tFn, tAC, tA0, tDr, tApp, tExt, tPopA, tLstD, tTupD, tLstM, tCl, tMt, tPr, tNx, tSlD, tON, tOS, tIfD, DL.tAndT, DL.tOrT, DL.tNotT, tTru, tChainT, tNeg, tListM, List.map_cons, List.map_nil, List.length_cons, List.length_nil, List.replicate, List.cons_append, List.nil_append, List.getElem?_cons_zero, List.getElem?_cons_succ, List.set_cons_zero, List.set_cons_succ, Option.some.injEq, exists_eq_left', exists_eq_left, D.bl.injEq, D.int.injEq, D.str.injEq, D.lst.injEq, D.ref.injEq, if_true, if_false, Bool.true_eq_false, Bool.false_eq_true, startD, bodyEnds, Nat.reduceSub, Nat.reduceAdd, true_and, and_true, ab_ix hx, ab_ix hyk]
        have i1 := dInB_strs (m := m1) (y := lD (up rows x)) (x := y) (xs := up rows x) (.inl rfl)
        have i2 := dInB_strs (m := m1) (y := lD (up rows y)) (x := x) (xs := up rows y) (.inl rfl)
        simp only [dIn, i1, i2, Option.map_some, Option.some.injEq, exists_eq_left', D.bl.injEq]
        by_cases g : y ∈ up rows x
        · simp only [g, decide_true, if_true]
          exact hy _ (if_pos (by unfold clash; simp [g]))
        · simp only [g, decide_false, Bool.false_eq_true, if_false]
          by_cases g2 : x ∈ up rows y
          · simp only [g2, decide_true, if_true]
            exact hy _ (if_pos (by unfold clash; simp [g2]))
          · simp only [g2, decide_false, Bool.false_eq_true, if_false]
            exact hno (if_neg (by unfold clash; simp [g, g2]))
      · rw [clsF_eq]
        refine ⟨by decide, apart rows x kd, ?_, ?_⟩
        · simp only [dEq, look]
          rw [dEqB_nil (datL_strs (fun z hz => (known_okS hro (fk.kn kd hkd z (List.mem_filter.mp hz).1)).1) 59), clash_nil]; rfl
        by_cases g : apart rows x kd = true
        · simp only [g, if_true]
          simp only [r_l_kinds_3, tSq, DL.tIfS, tBinT, tBin, tV, tK, DL.tSet, tRt, tRtN, tAs, gSb, tFn, tAC, tA0, tDr, tApp, tExt, tPopA, tLstD, tTupD, tLstM, tCl, tMt, tPr, tNx, tSlD, tON, tOS, tIfD, DL.tAndT, DL.tOrT, DL.tNotT, tTru, tChainT, tNeg, tListM, List.map_cons, List.map_nil, List.length_cons, List.length_nil, List.replicate, List.cons_append, List.nil_append, List.getElem?_cons_zero, List.getElem?_cons_succ, List.set_cons_zero, List.set_cons_succ, Option.some.injEq, exists_eq_left', exists_eq_left, D.bl.injEq, D.int.injEq, D.str.injEq, D.lst.injEq, D.ref.injEq, if_true, if_false, Bool.true_eq_false, Bool.false_eq_true, startD, bodyEnds, Nat.reduceSub, Nat.reduceAdd, true_and, and_true]
          refine ⟨r, _, rfl, updM_same, by decide, tS (kd ++ [x]), ?_, _, updM_same, ?_, ?_⟩
          · simp only [dAdd, look, tS, List.length_map, List.length_cons, List.length_nil]
            rw [if_pos (small (by omega)), List.map_append]; rfl
          · rw [List.length_map, List.length_map]
            have := List.length_filter_le (apart rows x) (fs.take j)
            rw [List.length_take] at this
            exact smallLt (by omega)
          · refine hN2 _ _ ⟨_, e5, rfl, ?_⟩
            rw [updM_over, htk, List.filter_append, List.map_append, List.map_append, List.filter_cons_of_pos g]; rfl
        · have g' : apart rows x kd = false := by simpa using g
          simp only [g', Bool.false_eq_true, if_false]
          refine hN2 _ _ ⟨_, e5, rfl, ?_⟩
          rw [htk, List.filter_append, List.filter_cons_of_neg g]; simp
    · rintro env m2 ⟨e4, e5, rfl, rfl⟩
      rw [List.length_map, List.take_length]
      simp only [r_l_kinds_5, tSq, DL.tIfS, tBinT, tBin, tV, tK, DL.tSet, tRt, tRtN, tAs, gSb, tFn, tAC, tA0, tDr, tApp, tExt, tPopA, tLstD, tTupD, tLstM, tCl, tMt, tPr, tNx, tSlD, tON, tOS, tIfD, DL.tAndT, DL.tOrT, DL.tNotT, tTru, tChainT, tNeg, tListM, List.map_cons, List.map_nil, List.length_cons, List.length_nil, List.replicate, List.cons_append, List.nil_append, List.getElem?_cons_zero, List.getElem?_cons_succ, List.set_cons_zero, List.set_cons_succ, Option.some.injEq, exists_eq_left', exists_eq_left, D.bl.injEq, D.int.injEq, D.str.injEq, D.lst.injEq, D.ref.injEq, if_true, if_false, Bool.true_eq_false, Bool.false_eq_true, startD, bodyEnds, Nat.reduceSub, Nat.reduceAdd, true_and, and_true]
      refine ⟨.lst ((stepK rows fs x).map tS), ?_, hN _ _ ⟨_, _, _, _, rfl, fun b hb => mor b _ hb, fk2⟩⟩
      have := List.length_filter_le (apart rows x) fs
      simp only [dAdd, look, updM_same, Option.getD_some, List.length_map]
      rw [if_pos (small (by omega)), ← List.map_append]; rfl
  · rintro env m' ⟨e2, e3, e4, e5, rfl, mo, fk⟩
    rw [List.length_map, List.take_length]
    simp only [r_l_kinds_8, tSq, DL.tIfS, tBinT, tBin, tV, tK, DL.tSet, tRt, tRtN, tAs, gSb, tFn, tAC, tA0, tDr, tApp, tExt, tPopA, tLstD, tTupD, tLstM, tCl, tMt, tPr, tNx, tSlD, tON, tOS, tIfD, DL.tAndT, DL.tOrT, DL.tNotT, tTru, tChainT, tNeg, tListM, List.map_cons, List.map_nil, List.length_cons, List.length_nil, List.replicate, List.cons_append, List.nil_append, List.getElem?_cons_zero, List.getElem?_cons_succ, List.set_cons_zero, List.set_cons_succ, Option.some.injEq, exists_eq_left', exists_eq_left, D.bl.injEq, D.int.injEq, D.str.injEq, D.lst.injEq, D.ref.injEq, if_true, if_false, Bool.true_eq_false, Bool.false_eq_true, startD, bodyEnds, Nat.reduceSub, Nat.reduceAdd, true_and, and_true]
    refine ⟨1, rfl, .lst ((rawK rows).map tS), ?_, .lst (kindsD rows), by simp only [d1, look]; exact dSort_raw h6, m, fun b => ?_, k⟩
    · simp only [dSl, look]
      rw [cut_from (by decide)]
      show some (D.lst (((foundK rows (sortN rows)).map tS).drop 1)) = _
      rw [drop_tS]
    · cases e : m b with
      | none => exact .inr rfl
      | some d0 => exact .inl (by rw [mo b (by rw [e]; exact fun z => nomatch z), e])
end K58
namespace K58
open PySem PySem.Spec PyProof.Rows DL
open SX (S S_len S_cat S_inj S_tl)
/-! the level by kinds -/
noncomputable def evD (rows : List Row) : D := .tup (.str "returns" :: kindsD rows)
def nsL : List Str := [("classes" : Str), ("everything" : Str)]
noncomputable def levD (CB CC : Addr) (rows : List Row) : D := .ins CB nsL [clsD CC rows, evD rows]
theorem ne_ce : ¬ ("classes" : Str) = ("everything" : Str) := by decide +kernel
theorem get_cls (CC : Addr) (rows : List Row) : fget ("classes" : Str) nsL [clsD CC rows, evD rows] = some (clsD CC rows) := by simp only [nsL, fget, if_true]
theorem get_ev (CC : Addr) (rows : List Row) : fget ("everything" : Str) nsL [clsD CC rows, evD rows] = some (evD rows) := by simp only [nsL, fget, if_neg ne_ce, if_true]
theorem no_view : ("view" : Str) ∉ nsL := by decide +kernel
theorem no_name : ("name_of" : Str) ∉ nsL := by decide +kernel
theorem no_taken : ("taken" : Str) ∉ nsL := by decide +kernel
theorem no_does : ("does" : Str) ∉ nsL := by decide +kernel
theorem no_kind : ("KIND" : Str) ∉ nsL := by decide +kernel
theorem perm_len (rows : List Row) : (kindsD rows).length = (rawK rows).length := by unfold kindsD; rw [(srtD_perm _).length_eq, List.length_map]
theorem ke_eq : fputN ("everything" : Str) (fputN ("classes" : Str) []) = nsL := by
  show fputN ("everything" : Str) [("classes" : Str)] = _
  simp only [fputN, if_neg ne_ce, nsL]
theorem ve_eq (c e : D) : fputV ("everything" : Str) e (fputN ("classes" : Str) []) (fputV ("classes" : Str) c [] []) = [c, e] := by
  show fputV ("everything" : Str) e [("classes" : Str)] [c] = _
  simp only [fputV, if_neg ne_ce]
theorem linit_ok {m : M} {CB CC CT x : Addr} {rows : List Row} {R : DK} {F : Addr → List Str → List D → M → Prop} (h6 : (knownOf rows).length ≤ 6) (hx : m x = some (.ins CB [] [])) (k : R .non (updM m x (levD CB CC rows))) : sp_ByKind_init CB CC CT [.ref x, clsD CC rows] m R F := by
  refine ⟨rfl, x, [], [], rfl, hx, ?_⟩
  simp only [tSq, DL.tIfS, tBinT, tBin, tV, tK, DL.tSet, tRt, tRtN, tAs, gSb, tFn, tAC, tA0, tDr, tApp, tExt, tPopA, tLstD, tTupD, tLstM, tCl, tMt, tPr, tNx, tSlD, tON, tOS, tIfD, DL.tAndT, DL.tOrT, DL.tNotT, tTru, tChainT, tNeg, tListM, List.map_cons, List.map_nil, List.length_cons, List.length_nil, List.replicate, List.cons_append, List.nil_append, List.getElem?_cons_zero, List.getElem?_cons_succ, List.set_cons_zero, List.set_cons_succ, Option.some.injEq, exists_eq_left', exists_eq_left, D.bl.injEq, D.int.injEq, D.str.injEq, D.lst.injEq, D.ref.injEq, if_true, if_false, Bool.true_eq_false, Bool.false_eq_true, startD, bodyEnds, Nat.reduceSub, Nat.reduceAdd, true_and, and_true]
  refine ⟨rfl, ?_⟩
  show r_Level_init_1 CB _ _ _
  simp only [r_Level_init_1, tSq, DL.tIfS, tBinT, tBin, tV, tK, DL.tSet, tRt, tRtN, tAs, gSb, tFn, tAC, tA0, tDr, tApp, tExt, tPopA, tLstD, tTupD, tLstM, tCl, tMt, tPr, tNx, tSlD, tON, tOS, tIfD, DL.tAndT, DL.tOrT, DL.tNotT, tTru, tChainT, tNeg, tListM, List.map_cons, List.map_nil, List.length_cons, List.length_nil, List.replicate, List.cons_append, List.nil_append, List.getElem?_cons_zero, List.getElem?_cons_succ, List.set_cons_zero, List.set_cons_succ, Option.some.injEq, exists_eq_left', exists_eq_left, D.bl.injEq, D.int.injEq, D.str.injEq, D.lst.injEq, D.ref.injEq, if_true, if_false, Bool.true_eq_false, Bool.false_eq_true, startD, bodyEnds, Nat.reduceSub, Nat.reduceAdd, true_and, and_true, tFlS]
  refine ⟨x, _, _, rfl, hx, show 0 < 1000 by decide, dropR.self ?_⟩
  simp only [r_ByKind_init_1, tSq, DL.tIfS, tBinT, tBin, tV, tK, DL.tSet, tRt, tRtN, tAs, gSb, tFn, tAC, tA0, tDr, tApp, tExt, tPopA, tLstD, tTupD, tLstM, tCl, tMt, tPr, tNx, tSlD, tON, tOS, tIfD, DL.tAndT, DL.tOrT, DL.tNotT, tTru, tChainT, tNeg, tListM, List.map_cons, List.map_nil, List.length_cons, List.length_nil, List.replicate, List.cons_append, List.nil_append, List.getElem?_cons_zero, List.getElem?_cons_succ, List.set_cons_zero, List.set_cons_succ, Option.some.injEq, exists_eq_left', exists_eq_left, D.bl.injEq, D.int.injEq, D.str.injEq, D.lst.injEq, D.ref.injEq, if_true, if_false, Bool.true_eq_false, Bool.false_eq_true, startD, bodyEnds, Nat.reduceSub, Nat.reduceAdd, true_and, and_true, tFlX, tTupX, tACX, tASX, tMtX]
  refine ⟨nsC, vsC rows, rfl, no_kinds, kinds_ok h6 ⟨kindsD rows, .inl rfl, ?_, ?_⟩⟩
  · have := perm_len rows
    have := (raw_len h6).1
    refine small ?_
    simp; omega
  · refine ⟨x, _, _, rfl, updM_same, show 1 < 1000 by decide, ?_⟩
    rw [updM_over]
    have e1 : D.tup ([.str "returns"] ++ (kindsD rows ++ [])) = evD rows := by rw [List.append_nil]; rfl
    simp only [List.append_nil]
    rw [ke_eq, ve_eq]
    exact k
theorem linit_many {m : M} {CB CC CT x : Addr} {rows : List Row} {R : DK} {F : Addr → List Str → List D → M → Prop} (h6 : 6 < (knownOf rows).length) (hx : m x = some (.ins CB [] [])) (k : ∀ d, F CT [("most" : Str), ("what" : Str)] [.int 6, .str "classes"] (updM m x d)) : sp_ByKind_init CB CC CT [.ref x, clsD CC rows] m R F := by
  refine ⟨rfl, x, [], [], rfl, hx, ?_⟩
  simp only [tSq, DL.tIfS, tBinT, tBin, tV, tK, DL.tSet, tRt, tRtN, tAs, gSb, tFn, tAC, tA0, tDr, tApp, tExt, tPopA, tLstD, tTupD, tLstM, tCl, tMt, tPr, tNx, tSlD, tON, tOS, tIfD, DL.tAndT, DL.tOrT, DL.tNotT, tTru, tChainT, tNeg, tListM, List.map_cons, List.map_nil, List.length_cons, List.length_nil, List.replicate, List.cons_append, List.nil_append, List.getElem?_cons_zero, List.getElem?_cons_succ, List.set_cons_zero, List.set_cons_succ, Option.some.injEq, exists_eq_left', exists_eq_left, D.bl.injEq, D.int.injEq, D.str.injEq, D.lst.injEq, D.ref.injEq, if_true, if_false, Bool.true_eq_false, Bool.false_eq_true, startD, bodyEnds, Nat.reduceSub, Nat.reduceAdd, true_and, and_true]
  refine ⟨rfl, ?_⟩
  show r_Level_init_1 CB _ _ _
  simp only [r_Level_init_1, tSq, DL.tIfS, tBinT, tBin, tV, tK, DL.tSet, tRt, tRtN, tAs, gSb, tFn, tAC, tA0, tDr, tApp, tExt, tPopA, tLstD, tTupD, tLstM, tCl, tMt, tPr, tNx, tSlD, tON, tOS, tIfD, DL.tAndT, DL.tOrT, DL.tNotT, tTru, tChainT, tNeg, tListM, List.map_cons, List.map_nil, List.length_cons, List.length_nil, List.replicate, List.cons_append, List.nil_append, List.getElem?_cons_zero, List.getElem?_cons_succ, List.set_cons_zero, List.set_cons_succ, Option.some.injEq, exists_eq_left', exists_eq_left, D.bl.injEq, D.int.injEq, D.str.injEq, D.lst.injEq, D.ref.injEq, if_true, if_false, Bool.true_eq_false, Bool.false_eq_true, startD, bodyEnds, Nat.reduceSub, Nat.reduceAdd, true_and, and_true, tFlS]
  refine ⟨x, _, _, rfl, hx, show 0 < 1000 by decide, dropR.self ?_⟩
  simp only [r_ByKind_init_1, tSq, DL.tIfS, tBinT, tBin, tV, tK, DL.tSet, tRt, tRtN, tAs, gSb, tFn, tAC, tA0, tDr, tApp, tExt, tPopA, tLstD, tTupD, tLstM, tCl, tMt, tPr, tNx, tSlD, tON, tOS, tIfD, DL.tAndT, DL.tOrT, DL.tNotT, tTru, tChainT, tNeg, tListM, List.map_cons, List.map_nil, List.length_cons, List.length_nil, List.replicate, List.cons_append, List.nil_append, List.getElem?_cons_zero, List.getElem?_cons_succ, List.set_cons_zero, List.set_cons_succ, Option.some.injEq, exists_eq_left', exists_eq_left, D.bl.injEq, D.int.injEq, D.str.injEq, D.lst.injEq, D.ref.injEq, if_true, if_false, Bool.true_eq_false, Bool.false_eq_true, startD, bodyEnds, Nat.reduceSub, Nat.reduceAdd, true_and, and_true, tFlX, tTupX, tACX, tASX, tMtX]
  exact ⟨nsC, vsC rows, rfl, no_kinds, kinds_many h6 (k _)⟩
theorem view_ok {m : M} {lev c : D} {name : Str} {Q : DK} (k : Q (tS [name]) m) : sp_ByKind_view [lev, .str name, c] m Q := by
  refine ⟨rfl, ?_⟩
  show r_ByKind_view_1 _ _ _
  simp only [r_ByKind_view_1, tSq, DL.tIfS, tBinT, tBin, tV, tK, DL.tSet, tRt, tRtN, tAs, gSb, tFn, tAC, tA0, tDr, tApp, tExt, tPopA, tLstD, tTupD, tLstM, tCl, tMt, tPr, tNx, tSlD, tON, tOS, tIfD, DL.tAndT, DL.tOrT, DL.tNotT, tTru, tChainT, tNeg, tListM, List.map_cons, List.map_nil, List.length_cons, List.length_nil, List.replicate, List.cons_append, List.nil_append, List.getElem?_cons_zero, List.getElem?_cons_succ, List.set_cons_zero, List.set_cons_succ, Option.some.injEq, exists_eq_left', exists_eq_left, D.bl.injEq, D.int.injEq, D.str.injEq, D.lst.injEq, D.ref.injEq, if_true, if_false, Bool.true_eq_false, Bool.false_eq_true, startD, bodyEnds, Nat.reduceSub, Nat.reduceAdd, true_and, and_true]
  exact ⟨by decide, dropR.self k⟩
theorem view2_ok {m : M} {lev : D} {name : Str} {Q : DK} (k : Q (tS [name]) m) : spDft 2 [.non] sp_ByKind_view [lev, .str name] m Q := ⟨rfl, view_ok k⟩
theorem does_ok {m : M} {CB CC : Addr} {rows : List Row} {x y : D} {Q : DK} (k : Q (evD rows) m) : sp_ByKind_does CB [levD CB CC rows, x, y] m Q := by
  refine ⟨rfl, ?_⟩
  show r_ByKind_does_1 CB _ _ _
  simp only [r_ByKind_does_1, tSq, DL.tIfS, tBinT, tBin, tV, tK, DL.tSet, tRt, tRtN, tAs, gSb, tFn, tAC, tA0, tDr, tApp, tExt, tPopA, tLstD, tTupD, tLstM, tCl, tMt, tPr, tNx, tSlD, tON, tOS, tIfD, DL.tAndT, DL.tOrT, DL.tNotT, tTru, tChainT, tNeg, tListM, List.map_cons, List.map_nil, List.length_cons, List.length_nil, List.replicate, List.cons_append, List.nil_append, List.getElem?_cons_zero, List.getElem?_cons_succ, List.set_cons_zero, List.set_cons_succ, Option.some.injEq, exists_eq_left', exists_eq_left, D.bl.injEq, D.int.injEq, D.str.injEq, D.lst.injEq, D.ref.injEq, if_true, if_false, Bool.true_eq_false, Bool.false_eq_true, startD, bodyEnds, Nat.reduceSub, Nat.reduceAdd, true_and, and_true, tFl]
  exact ⟨_, _, _, rfl, get_ev CC rows, dropR.self k⟩
def nameD : List Str → D
  | [x] => .str x
  | _ => .non
theorem nameof_ok {m : M} {lev : D} {kd : List Str} {Q : DK} (k : Q (nameD kd) m) : sp_ByKind_name_of [lev, tS kd] m Q := by
  refine ⟨rfl, ?_⟩
  show r_ByKind_name_of_1 _ _ _
  simp only [r_ByKind_name_of_1, tSq, DL.tIfS, tBinT, tBin, tV, tK, DL.tSet, tRt, tRtN, tAs, gSb, tFn, tAC, tA0, tDr, tApp, tExt, tPopA, tLstD, tTupD, tLstM, tCl, tMt, tPr, tNx, tSlD, tON, tOS, tIfD, DL.tAndT, DL.tOrT, DL.tNotT, tTru, tChainT, tNeg, tListM, List.map_cons, List.map_nil, List.length_cons, List.length_nil, List.replicate, List.cons_append, List.nil_append, List.getElem?_cons_zero, List.getElem?_cons_succ, List.set_cons_zero, List.set_cons_succ, Option.some.injEq, exists_eq_left', exists_eq_left, D.bl.injEq, D.int.injEq, D.str.injEq, D.lst.injEq, D.ref.injEq, if_true, if_false, Bool.true_eq_false, Bool.false_eq_true, startD, bodyEnds, Nat.reduceSub, Nat.reduceAdd, true_and, and_true]
  refine ⟨.int kd.length, by simp only [d1, look, tS, dLen, List.length_map], decide ((kd.length : Int) = 1), rfl, ?_⟩
  match kd, k with
  | [], k => exact dropR.self k
  | [x], k =>
    show ∃ d, dIx m (tS [x]) (.int 0) = some d ∧ _
    exact ⟨.str x, dIx_tup rfl rfl (atI_pos (by decide) rfl), dropR.self k⟩
  | x :: y :: r, k =>
    have g : ¬ (((x :: y :: r).length : Nat) : Int) = 1 := by simp only [List.length_cons]; omega
    simp only [g, decide_false, Bool.false_eq_true, if_false]
    exact dropR.self k
def anyB (rows : List Row) (kd names : List Str) : Bool := kd.any fun x => names.any fun n => decide (n ∈ up rows x)
theorem any_flat {rows : List Row} {kd names : List Str} : dAny (.lst ((kd.map D.str).flatMap fun d => (names.map D.str).map fun e => match d, e with | .str x, .str n => D.bl (decide (n ∈ up rows x)) | _, _ => .non)) = some (.bl (anyB rows kd names)) := by
  have e : ((kd.map D.str).flatMap fun d => (names.map D.str).map fun e => match d, e with | .str x, .str n => D.bl (decide (n ∈ up rows x)) | _, _ => .non) = (kd.flatMap fun x => names.map fun n => decide (n ∈ up rows x)).map .bl := by
    induction kd with
    | nil => rfl
    | cons x kd ih =>
      rw [List.map_cons, List.flatMap_cons, ih, List.flatMap_cons, List.map_append, List.map_map, List.map_map]
      rfl
  rw [e]
  show (boolsOf _).map (fun bs => D.bl (bs.any id)) = _
  rw [boolsOf_map]
  show some (D.bl ((kd.flatMap fun x => names.map fun n => decide (n ∈ up rows x)).any id)) = _
  congr 2
  unfold anyB
  rw [List.any_flatMap]
  congr 1
  funext x
  rw [List.any_map]; rfl
theorem meets_ok {m : M} {C : Addr} {rows : List Row} {nv : D} {kd names : List Str} {Q : DK} (hn : nv = .lst (names.map .str) ∨ nv = .tup (names.map .str)) (hkk : ∀ x ∈ kd, x ∈ knownOf rows) (hlk : kd.length ≤ 10) (hln : names.length ≤ 40)
    (k : Q (.bl (anyB rows kd names)) m) : sp_Classes_meets C [clsD C rows, tS kd, nv] m Q := by
  refine ⟨rfl, ?_⟩
  show r_Classes_meets_2 C _ _ _
  simp only [r_Classes_meets_2, tSq, DL.tIfS, tBinT, tBin, tV, tK, DL.tSet, tRt, tRtN, tAs, gSb, tFn, tAC, tA0, tDr, tApp, tExt, tPopA, tLstD, tTupD, tLstM, tCl, tMt, tPr, tNx, tSlD, tON, tOS, tIfD, DL.tAndT, DL.tOrT, DL.tNotT, tTru, tChainT, tNeg, tListM, List.map_cons, List.map_nil, List.length_cons, List.length_nil, List.replicate, List.cons_append, List.nil_append, List.getElem?_cons_zero, List.getElem?_cons_succ, List.set_cons_zero, List.set_cons_succ, Option.some.injEq, exists_eq_left', exists_eq_left, D.bl.injEq, D.int.injEq, D.str.injEq, D.lst.injEq, D.ref.injEq, if_true, if_false, Bool.true_eq_false, Bool.false_eq_true, startD, bodyEnds, Nat.reduceSub, Nat.reduceAdd, true_and, and_true, tS]
  refine lc2_pure (ds := kd.map .str) (fun d e => match d, e with | .str x, .str n => D.bl (decide (n ∈ up rows x)) | _, _ => .non) (fun _ => names.map .str) (fun R hR => ?_) ?_ (fun d hd m1 R _ hR => ?_) (fun d hd e he m1 R _ hR => ?_) ?_
  · simp only [iSeq, dSeq, tSq, DL.tIfS, tBinT, tBin, tV, tK, DL.tSet, tRt, tRtN, tAs, gSb, tFn, tAC, tA0, tDr, tApp, tExt, tPopA, tLstD, tTupD, tLstM, tCl, tMt, tPr, tNx, tSlD, tON, tOS, tIfD, DL.tAndT, DL.tOrT, DL.tNotT, tTru, tChainT, tNeg, tListM, List.map_cons, List.map_nil, List.length_cons, List.length_nil, List.replicate, List.cons_append, List.nil_append, List.getElem?_cons_zero, List.getElem?_cons_succ, List.set_cons_zero, List.set_cons_succ, Option.some.injEq, exists_eq_left', exists_eq_left, D.bl.injEq, D.int.injEq, D.str.injEq, D.lst.injEq, D.ref.injEq, if_true, if_false, Bool.true_eq_false, Bool.false_eq_true, startD, bodyEnds, Nat.reduceSub, Nat.reduceAdd, true_and, and_true]
    exact hR
  · refine smallLt ?_
    rw [List.length_flatMap]
    have : ((kd.map D.str).map fun d => ((names.map D.str).map fun e => (match d, e with | .str x, .str n => D.bl (decide (n ∈ up rows x)) | _, _ => D.non)).length) = (kd.map D.str).map fun _ => names.length := by
      congr 1; funext d; rw [List.length_map, List.length_map]
    rw [this, List.map_const', List.sum_replicate_nat, List.length_map]
    exact Nat.le_trans (Nat.mul_le_mul hlk hln) (by decide)
  · simp only [iSeq, tSq, DL.tIfS, tBinT, tBin, tV, tK, DL.tSet, tRt, tRtN, tAs, gSb, tFn, tAC, tA0, tDr, tApp, tExt, tPopA, tLstD, tTupD, tLstM, tCl, tMt, tPr, tNx, tSlD, tON, tOS, tIfD, DL.tAndT, DL.tOrT, DL.tNotT, tTru, tChainT, tNeg, tListM, List.map_cons, List.map_nil, List.length_cons, List.length_nil, List.replicate, List.cons_append, List.nil_append, List.getElem?_cons_zero, List.getElem?_cons_succ, List.set_cons_zero, List.set_cons_succ, Option.some.injEq, exists_eq_left', exists_eq_left, D.bl.injEq, D.int.injEq, D.str.injEq, D.lst.injEq, D.ref.injEq, if_true, if_false, Bool.true_eq_false, Bool.false_eq_true, startD, bodyEnds, Nat.reduceSub, Nat.reduceAdd, true_and, and_true, wipeD]
    rcases hn with rfl | rfl <;> exact ⟨_, rfl, hR⟩
  · obtain ⟨x, hx, rfl⟩ := List.mem_map.mp hd
    obtain ⟨n, hn', rfl⟩ := List.mem_map.mp he
    simp only [r_Classes_meets_1, tSq, DL.tIfS, tBinT, tBin, tV, tK, DL.tSet, tRt, tRtN, tAs, gSb, tFn, tAC, tA0, tDr, tApp, tExt, tPopA, tLstD, tTupD, tLstM, tCl, tMt, tPr, tNx, tSlD, tON, tOS, tIfD, DL.tAndT, DL.tOrT, DL.tNotT, tTru, tChainT, tNeg, tListM, List.map_cons, List.map_nil, List.length_cons, List.length_nil, List.replicate, List.cons_append, List.nil_append, List.getElem?_cons_zero, List.getElem?_cons_succ, List.set_cons_zero, List.set_cons_succ, Option.some.injEq, exists_eq_left', exists_eq_left, D.bl.injEq, D.int.injEq, D.str.injEq, D.lst.injEq, D.ref.injEq, if_true, if_false, Bool.true_eq_false, Bool.false_eq_true, startD, bodyEnds, Nat.reduceSub, Nat.reduceAdd, true_and, and_true, wipeD]
    exact ⟨nsC, _, rfl, no_within, within_ok (up_ulk (hkk x hx)) hR⟩
  · exact ⟨_, by simp only [d1, look]; exact any_flat, dropR.self k⟩
theorem taken_ok {m : M} {CB CC : Addr} {rows : List Row} {nv : D} {kd names : List Str} {Q : DK} (hn : nv = .lst (names.map .str) ∨ nv = .tup (names.map .str)) (hkk : ∀ x ∈ kd, x ∈ knownOf rows) (hlk : kd.length ≤ 10) (hln : names.length ≤ 40)
    (k : Q (.bl (anyB rows kd names)) m) : sp_ByKind_taken CB CC [levD CB CC rows, tS kd, nv] m Q := by
  refine ⟨rfl, ?_⟩
  show r_ByKind_taken_1 CB CC _ _ _
  simp only [r_ByKind_taken_1, tSq, DL.tIfS, tBinT, tBin, tV, tK, DL.tSet, tRt, tRtN, tAs, gSb, tFn, tAC, tA0, tDr, tApp, tExt, tPopA, tLstD, tTupD, tLstM, tCl, tMt, tPr, tNx, tSlD, tON, tOS, tIfD, DL.tAndT, DL.tOrT, DL.tNotT, tTru, tChainT, tNeg, tListM, List.map_cons, List.map_nil, List.length_cons, List.length_nil, List.replicate, List.cons_append, List.nil_append, List.getElem?_cons_zero, List.getElem?_cons_succ, List.set_cons_zero, List.set_cons_succ, Option.some.injEq, exists_eq_left', exists_eq_left, D.bl.injEq, D.int.injEq, D.str.injEq, D.lst.injEq, D.ref.injEq, if_true, if_false, Bool.true_eq_false, Bool.false_eq_true, startD, bodyEnds, Nat.reduceSub, Nat.reduceAdd, true_and, and_true, tFl]
  exact ⟨_, _, _, rfl, get_cls CC rows, _, _, rfl, no_meets, meets_ok hn hkk hlk hln (dropR.self k)⟩
def hitF (us : List Str) : D → Option D
  | .str y => if y ∈ us then some (.str y) else none
  | _ => none
theorem hitF_eq (us xs : List Str) : (xs.map D.str).filterMap (hitF us) = (xs.filter fun y => decide (y ∈ us)).map .str := by
  induction xs with
  | nil => rfl
  | cons y xs ih =>
    rw [List.map_cons, List.filterMap_cons, ih]
    by_cases g : y ∈ us
    · have e : hitF us (.str y) = some (.str y) := if_pos g
      rw [e, List.filter_cons_of_pos (by simpa using g)]; rfl
    · have e : hitF us (.str y) = none := if_neg g
      rw [e, List.filter_cons_of_neg (by simpa using g)]
theorem hit_nil (us xs : List Str) : decide ((xs.filter fun y => decide (y ∈ us)).map D.str = []) = !(xs.any fun n => decide (n ∈ us)) := by
  rw [Bool.eq_iff_iff, decide_eq_true_eq, List.map_eq_nil_iff, List.filter_eq_nil_iff, Bool.not_eq_true', Bool.eq_false_iff, ne_eq, List.any_eq_true]
  exact ⟨fun h ⟨y, h1, h2⟩ => h y h1 h2, fun h y h1 h2 => h ⟨y, h1, h2⟩⟩
/-- the law's own -/
theorem ltaken_ok {m : M} {rows : List Row} {kd names : List Str} {Q : DK} (hro : RowsOk rows) (hkk : ∀ x ∈ kd, x ∈ knownOf rows) (hnk : ∀ x ∈ names, x ∈ knownOf rows) (hln : names.length ≤ 40)
    (k : Q (.bl (anyB rows kd names)) m) : sp_l_taken [abD rows, tS kd, .lst (names.map .str)] m Q := by
  refine ⟨rfl, ?_⟩
  show r_l_taken_6 _ _ _
  simp only [r_l_taken_6, tSq, DL.tIfS, tBinT, tBin, tV, tK, DL.tSet, tRt, tRtN, tAs, gSb, tFn, tAC, tA0, tDr, tApp, tExt, tPopA, tLstD, tTupD, tLstM, tCl, tMt, tPr, tNx, tSlD, tON, tOS, tIfD, DL.tAndT, DL.tOrT, DL.tNotT, tTru, tChainT, tNeg, tListM, List.map_cons, List.map_nil, List.length_cons, List.length_nil, List.replicate, List.cons_append, List.nil_append, List.getElem?_cons_zero, List.getElem?_cons_succ, List.set_cons_zero, List.set_cons_succ, Option.some.injEq, exists_eq_left', exists_eq_left, D.bl.injEq, D.int.injEq, D.str.injEq, D.lst.injEq, D.ref.injEq, if_true, if_false, Bool.true_eq_false, Bool.false_eq_true, startD, bodyEnds, Nat.reduceSub, Nat.reduceAdd, true_and, and_true, tFo, iSeq, dSeq, tS]
  refine forD_inv (ds := kd.map .str) (fun i env m' => ∃ e3 e4, env = [some (abD rows), some (.tup (kd.map .str)), some (.lst (names.map .str)), e3, e4] ∧ m' = m ∧ anyB rows (kd.take i) names = false)
    ⟨none, none, rfl, rfl, rfl⟩ ?_ ?_
  · rintro i d env m' N hd ⟨e3, e4, rfl, rfl, hf⟩ hN
    rw [List.getElem?_map] at hd
    obtain ⟨x, hxi, rfl⟩ := Option.map_eq_some_iff.mp hd
    have hxm := List.mem_of_getElem? hxi
    have hx := hkk x hxm
    have htk : kd.take (i + 1) = kd.take i ++ [x] := by
      rw [List.take_add_one, hxi] <;> rfl
    simp only [tgD, gN, r_l_taken_4, tSq, DL.tIfS, tBinT, tBin, tV, tK, DL.tSet, tRt, tRtN, tAs, gSb, tFn, tAC, tA0, tDr, tApp, tExt, tPopA, tLstD, tTupD, tLstM, tCl, tMt, tPr, tNx, tSlD, tON, tOS, tIfD, DL.tAndT, DL.tOrT, DL.tNotT, tTru, tChainT, tNeg, tListM, List.map_cons, List.map_nil, List.length_cons, List.length_nil, List.replicate, List.cons_append, List.nil_append, List.getElem?_cons_zero, List.getElem?_cons_succ, List.set_cons_zero, List.set_cons_succ, Option.some.injEq, exists_eq_left', exists_eq_left, D.bl.injEq, D.int.injEq, D.str.injEq, D.lst.injEq, D.ref.injEq, if_true, if_false, Bool.true_eq_false, Bool.false_eq_true, startD, bodyEnds, Nat.reduceSub, Nat.reduceAdd, true_and, and_true]
    refine lc_pure (ds := names.map .str) (hitF (up rows x)) (fun R hR => ?_) (by rw [List.length_map]; exact smallLt (by omega)) (fun d m1 R hd hm hy hno => ?_) ?_
    · simp only [iSeq, dSeq, tSq, DL.tIfS, tBinT, tBin, tV, tK, DL.tSet, tRt, tRtN, tAs, gSb, tFn, tAC, tA0, tDr, tApp, tExt, tPopA, tLstD, tTupD, tLstM, tCl, tMt, tPr, tNx, tSlD, tON, tOS, tIfD, DL.tAndT, DL.tOrT, DL.tNotT, tTru, tChainT, tNeg, tListM, List.map_cons, List.map_nil, List.length_cons, List.length_nil, List.replicate, List.cons_append, List.nil_append, List.getElem?_cons_zero, List.getElem?_cons_succ, List.set_cons_zero, List.set_cons_succ, Option.some.injEq, exists_eq_left', exists_eq_left, D.bl.injEq, D.int.injEq, D.str.injEq, D.lst.injEq, D.ref.injEq, if_true, if_false, Bool.true_eq_false, Bool.false_eq_true, startD, bodyEnds, Nat.reduceSub, Nat.reduceAdd, true_and, and_true]
      exact hR
    · obtain ⟨y, hym, rfl⟩ := List.mem_map.mp hd
      simp only [tgD, gN, wipeD, r_l_taken_1, r_l_taken_2, tSq, DL.tIfS, tBinT, tBin, tV, tK, DL.tSet, tRt, tRtN, tAs, gSb, tFn, tAC, tA0, tDr, tApp, tExt, tPopA, tLstD, tTupD, tLstM, tCl, tMt, tPr, tNx, tSlD, tON, tOS, tIfD, DL.tAndT, DL.tOrT, DL.tNotT, tTru, tChainT, tNeg, tListM, List.map_cons, List.map_nil, List.length_cons, List.length_nil, List.replicate, List.cons_append, List.nil_append, List.getElem?_cons_zero, List.getElem?_cons_succ, List.set_cons_zero, List.set_cons_succ, Option.some.injEq, exists_eq_left', exists_eq_left, D.bl.injEq, D.int.injEq, D.str.injEq, D.lst.injEq, D.ref.injEq, if_true, if_false, Bool.true_eq_false, Bool.false_eq_true, startD, bodyEnds, Nat.reduceSub, Nat.reduceAdd, true_and, and_true, ab_ix hx]
      have i1 := dInB_strs (m := m1) (y := lD (up rows x)) (x := y) (xs := up rows x) (.inl rfl)
      simp only [dIn, i1, Option.map_some, Option.some.injEq, exists_eq_left', D.bl.injEq]
      by_cases g : y ∈ up rows x
      · simp only [g, decide_true, if_true]
        exact hy _ (if_pos g)
      · simp only [g, decide_false, Bool.false_eq_true, if_false]
        exact hno (if_neg g)
    · rw [hitF_eq]
      refine ⟨by decide, names.any fun n => decide (n ∈ up rows x), ?_, ?_⟩
      · simp only [dNe, look]
        rw [dEqB_nil (datL_strs (fun z hz => (known_okS hro (hnk z (List.mem_filter.mp hz).1)).1) 59), hit_nil]
        simp
      by_cases g : (names.any fun n => decide (n ∈ up rows x)) = true
      · simp only [g, if_true]
        simp only [r_l_taken_3, tSq, DL.tIfS, tBinT, tBin, tV, tK, DL.tSet, tRt, tRtN, tAs, gSb, tFn, tAC, tA0, tDr, tApp, tExt, tPopA, tLstD, tTupD, tLstM, tCl, tMt, tPr, tNx, tSlD, tON, tOS, tIfD, DL.tAndT, DL.tOrT, DL.tNotT, tTru, tChainT, tNeg, tListM, List.map_cons, List.map_nil, List.length_cons, List.length_nil, List.replicate, List.cons_append, List.nil_append, List.getElem?_cons_zero, List.getElem?_cons_succ, List.set_cons_zero, List.set_cons_succ, Option.some.injEq, exists_eq_left', exists_eq_left, D.bl.injEq, D.int.injEq, D.str.injEq, D.lst.injEq, D.ref.injEq, if_true, if_false, Bool.true_eq_false, Bool.false_eq_true, startD, bodyEnds, Nat.reduceSub, Nat.reduceAdd, true_and, and_true]
        have e : anyB rows kd names = true := List.any_eq_true.mpr ⟨x, hxm, g⟩
        rw [e] at k
        exact dropR.self k
      · have g' : (names.any fun n => decide (n ∈ up rows x)) = false := by simpa using g
        simp only [g', Bool.false_eq_true, if_false]
        refine hN _ _ ⟨_, e4, rfl, rfl, ?_⟩
        unfold anyB at hf ⊢
        rw [htk, List.any_append, hf]
        simp only [List.any_cons, List.any_nil, g', Bool.or_false]
  · rintro env m' ⟨e3, e4, rfl, rfl, hf⟩
    rw [List.length_map, List.take_length] at hf
    simp only [r_l_taken_5, tSq, DL.tIfS, tBinT, tBin, tV, tK, DL.tSet, tRt, tRtN, tAs, gSb, tFn, tAC, tA0, tDr, tApp, tExt, tPopA, tLstD, tTupD, tLstM, tCl, tMt, tPr, tNx, tSlD, tON, tOS, tIfD, DL.tAndT, DL.tOrT, DL.tNotT, tTru, tChainT, tNeg, tListM, List.map_cons, List.map_nil, List.length_cons, List.length_nil, List.replicate, List.cons_append, List.nil_append, List.getElem?_cons_zero, List.getElem?_cons_succ, List.set_cons_zero, List.set_cons_succ, Option.some.injEq, exists_eq_left', exists_eq_left, D.bl.injEq, D.int.injEq, D.str.injEq, D.lst.injEq, D.ref.injEq, if_true, if_false, Bool.true_eq_false, Bool.false_eq_true, startD, bodyEnds, Nat.reduceSub, Nat.reduceAdd, true_and, and_true]
    rw [hf] at k
    exact dropR.self k
end K58
namespace K58
open PySem PySem.Spec PyProof.Rows DL
open SX (S S_len S_cat S_inj S_tl)
/-! more than six classes are refused -/
def excD (CT : Addr) : D := .exc CT [("most" : Str), ("what" : Str)] [.int 6, .str "classes"]
theorem isK {m : M} {CT : Addr} {cd : D} {b : Bool} : dIsiK cd (jbT [(CT, b)]) m [excD CT, cd] = some (.bl b) := by
  simp [dIsiK, look, excD, jbT]
theorem ne_mw : ¬ ("most" : Str) = ("what" : Str) := by decide +kernel
theorem xf_what (CT : Addr) : xfT [(CT, "what"), (CT, "most")] CT "what" = true := by simp [xfT]
theorem xf_most (CT : Addr) : xfT [(CT, "what"), (CT, "most")] CT "most" = true := by simp [xfT]
theorem okS_classes : okS ("classes" : Str) := ⟨by decide +kernel, by decide +kernel⟩
theorem okS_returns : okS ("returns" : Str) := ⟨by decide +kernel, by decide +kernel⟩
theorem reprE {ds : List D} {w : Nat} (h : Fit (.lst ds) 60 w) (hw : w ≤ 1000000) : ∃ s, dReprA (.lst ds) = some (.str s) := ⟨_, repr_lst h hw⟩
theorem refused_ok {m : M} {CBar CB CC CLE CNo CT : Addr} {rows : List Row} {Q : DK} (h6 : 6 < (knownOf rows).length) (k : Q (.bl true) m) : sp_l_refused CBar CB CC CLE CNo CT [clsD CC rows] m Q := by
  refine ⟨rfl, ?_⟩
  show r_l_refused_7 CBar CB CC CNo CT _ _ _
  simp only [r_l_refused_7, tSq, DL.tIfS, tBinT, tBin, tV, tK, DL.tSet, tRt, tRtN, tAs, gSb, tFn, tAC, tA0, tDr, tApp, tExt, tPopA, tLstD, tTupD, tLstM, tCl, tMt, tPr, tNx, tSlD, tON, tOS, tIfD, DL.tAndT, DL.tOrT, DL.tNotT, tTru, tChainT, tNeg, tListM, List.map_cons, List.map_nil, List.length_cons, List.length_nil, List.replicate, List.cons_append, List.nil_append, List.getElem?_cons_zero, List.getElem?_cons_succ, List.set_cons_zero, List.set_cons_succ, Option.some.injEq, exists_eq_left', exists_eq_left, D.bl.injEq, D.int.injEq, D.str.injEq, D.lst.injEq, D.ref.injEq, if_true, if_false, Bool.true_eq_false, Bool.false_eq_true, startD, bodyEnds, Nat.reduceSub, Nat.reduceAdd, true_and, and_true]
  simp only [r_l_refused_6, tSq, DL.tIfS, tBinT, tBin, tV, tK, DL.tSet, tRt, tRtN, tAs, gSb, tFn, tAC, tA0, tDr, tApp, tExt, tPopA, tLstD, tTupD, tLstM, tCl, tMt, tPr, tNx, tSlD, tON, tOS, tIfD, DL.tAndT, DL.tOrT, DL.tNotT, tTru, tChainT, tNeg, tListM, List.map_cons, List.map_nil, List.length_cons, List.length_nil, List.replicate, List.cons_append, List.nil_append, List.getElem?_cons_zero, List.getElem?_cons_succ, List.set_cons_zero, List.set_cons_succ, Option.some.injEq, exists_eq_left', exists_eq_left, D.bl.injEq, D.int.injEq, D.str.injEq, D.lst.injEq, D.ref.injEq, if_true, if_false, Bool.true_eq_false, Bool.false_eq_true, startD, bodyEnds, Nat.reduceSub, Nat.reduceAdd, true_and, and_true, tErr0, tErr, r_l_refused_1, tDrX, tNwX]
  intro x hx
  refine linit_many h6 updM_same fun d => ⟨true, by simp [jxT], fun z => (nomatch z), fun _ => ?_⟩
  rw [updM_over]
  simp only [r_l_refused_2, tSq, DL.tIfS, tBinT, tBin, tV, tK, DL.tSet, tRt, tRtN, tAs, gSb, tFn, tAC, tA0, tDr, tApp, tExt, tPopA, tLstD, tTupD, tLstM, tCl, tMt, tPr, tNx, tSlD, tON, tOS, tIfD, DL.tAndT, DL.tOrT, DL.tNotT, tTru, tChainT, tNeg, tListM, List.map_cons, List.map_nil, List.length_cons, List.length_nil, List.replicate, List.cons_append, List.nil_append, List.getElem?_cons_zero, List.getElem?_cons_succ, List.set_cons_zero, List.set_cons_succ, Option.some.injEq, exists_eq_left', exists_eq_left, D.bl.injEq, D.int.injEq, D.str.injEq, D.lst.injEq, D.ref.injEq, if_true, if_false, Bool.true_eq_false, Bool.false_eq_true, startD, bodyEnds, Nat.reduceSub, Nat.reduceAdd, true_and, and_true]
  simp only [r_l_refused_5, tSq, DL.tIfS, tBinT, tBin, tV, tK, DL.tSet, tRt, tRtN, tAs, gSb, tFn, tAC, tA0, tDr, tApp, tExt, tPopA, tLstD, tTupD, tLstM, tCl, tMt, tPr, tNx, tSlD, tON, tOS, tIfD, DL.tAndT, DL.tOrT, DL.tNotT, tTru, tChainT, tNeg, tListM, List.map_cons, List.map_nil, List.length_cons, List.length_nil, List.replicate, List.cons_append, List.nil_append, List.getElem?_cons_zero, List.getElem?_cons_succ, List.set_cons_zero, List.set_cons_succ, Option.some.injEq, exists_eq_left', exists_eq_left, D.bl.injEq, D.int.injEq, D.str.injEq, D.lst.injEq, D.ref.injEq, if_true, if_false, Bool.true_eq_false, Bool.false_eq_true, startD, bodyEnds, Nat.reduceSub, Nat.reduceAdd, true_and, and_true]
  refine ⟨_, isK, true, rfl, ?_⟩
  simp only [Bool.not_true, Bool.false_eq_true, if_false]
  refine ⟨by decide, _, isK, false, rfl, ?_⟩
  simp only [Bool.false_eq_true, if_false]
  refine ⟨_, isK, true, rfl, ?_⟩
  simp only [Bool.not_true, Bool.false_eq_true, if_false]
  simp only [r_l_refused_4, tSq, DL.tIfS, tBinT, tBin, tV, tK, DL.tSet, tRt, tRtN, tAs, gSb, tFn, tAC, tA0, tDr, tApp, tExt, tPopA, tLstD, tTupD, tLstM, tCl, tMt, tPr, tNx, tSlD, tON, tOS, tIfD, DL.tAndT, DL.tOrT, DL.tNotT, tTru, tChainT, tNeg, tListM, List.map_cons, List.map_nil, List.length_cons, List.length_nil, List.replicate, List.cons_append, List.nil_append, List.getElem?_cons_zero, List.getElem?_cons_succ, List.set_cons_zero, List.set_cons_succ, Option.some.injEq, exists_eq_left', exists_eq_left, D.bl.injEq, D.int.injEq, D.str.injEq, D.lst.injEq, D.ref.injEq, if_true, if_false, Bool.true_eq_false, Bool.false_eq_true, startD, bodyEnds, Nat.reduceSub, Nat.reduceAdd, true_and, and_true, tXfl]
  refine ⟨CT, _, _, .str "classes", rfl, xf_what CT, by simp only [fget, if_neg ne_mw, if_true], CT, _, _, .int 6, rfl, xf_most CT, by simp only [fget, if_true], by decide, ?_⟩
  obtain ⟨s, hs⟩ := reprE (ds := [.str "classes", .int 6]) (FitL.lst (n := 59) (FitL.cons (fit_str okS_classes) (FitL.cons (fit_int (by decide)) FitL.nil))) (by decide)
  refine ⟨.str s, hs, by decide, .str s, hs, .bl true, by simp [dEq, look, dEqB], m, fun b => ?_, k⟩
  by_cases e : b = x
  · right; rw [e]; exact hx
  · left; rw [updM_ne e]
/-! the kinds as data -/
def unTS : D → Option (List Str)
  | .tup ds => some (ds.filterMap fun d => match d with
    | .str y => some y
    | _ => none)
  | _ => none
theorem rows_of_perm {fs : List (List Str)} {ds : List D} (h : ds.Perm (fs.map tS)) : ∃ ks : List (List Str), ds = ks.map tS ∧ ks.Perm fs := by
  have h2 := h.filterMap unTS
  have e : ∀ gs : List (List Str), (gs.map tS).filterMap unTS = gs := fun gs => by
    rw [List.filterMap_map, show (unTS ∘ tS) = some from funext fun k => congrArg some (unstr k), List.filterMap_some]
  rw [e] at h2
  refine ⟨ds.filterMap unTS, ?_, h2⟩
  have hall : ∀ d ∈ ds, ∃ k : List Str, d = tS k := fun d hd => by
    obtain ⟨k, _, rfl⟩ := List.mem_map.mp (h.subset hd)
    exact ⟨k, rfl⟩
  clear h h2
  induction ds with
  | nil => rfl
  | cons d ds ih =>
    obtain ⟨k, rfl⟩ := hall d List.mem_cons_self
    rw [List.filterMap_cons, show unTS (tS k) = some k from congrArg some (unstr k)]
    show tS k :: ds = tS k :: (ds.filterMap unTS).map tS
    rw [← ih fun d hd => hall d (List.mem_cons_of_mem _ hd)]
noncomputable def kindsL (rows : List Row) : List (List Str) := (rows_of_perm (srtD_perm ((rawK rows).map tS))).choose
theorem kindsL_eq (rows : List Row) : kindsD rows = (kindsL rows).map tS := (rows_of_perm (srtD_perm ((rawK rows).map tS))).choose_spec.1
theorem kindsL_perm (rows : List Row) : (kindsL rows).Perm (rawK rows) := (rows_of_perm (srtD_perm ((rawK rows).map tS))).choose_spec.2
theorem stepK_len (rows : List Row) (fs : List (List Str)) (x : Str) : fs.length ≤ (stepK rows fs x).length := by unfold stepK; rw [List.length_append]; omega
theorem fold_len (rows : List Row) : ∀ (xs : List Str) (fs : List (List Str)), fs.length ≤ (xs.foldl (stepK rows) fs).length
  | [], _ => Nat.le_refl _
  | x :: xs, fs => Nat.le_trans (stepK_len rows fs x) (fold_len rows xs _)
theorem raw_pos (rows : List Row) : 1 ≤ (rawK rows).length := by
  have hl : 1 ≤ (sortN rows).length := by
    rw [(sortN_perm rows).length_eq, knownOf_len]; omega
  unfold rawK
  rw [List.length_drop]
  cases e : sortN rows with
  | nil => rw [e] at hl; simp at hl
  | cons x xs =>
    have h2 : (stepK rows [[]] x).length = 2 := rfl
    have := fold_len rows xs (stepK rows [[]] x)
    have e2 : foundK rows (x :: xs) = xs.foldl (stepK rows) (stepK rows [[]] x) := rfl
    rw [e2]
    omega
theorem kindsL_all {rows : List Row} (h6 : (knownOf rows).length ≤ 6) : (kindsL rows).length ≤ 64 ∧ 1 ≤ (kindsL rows).length ∧ ∀ kd ∈ kindsL rows, kd.length ≤ 6 ∧ ∀ x ∈ kd, x ∈ knownOf rows := by
  obtain ⟨a, b⟩ := raw_len h6
  have p := kindsL_perm rows
  exact ⟨by rw [p.length_eq]; exact a, by rw [p.length_eq]; exact raw_pos rows, fun kd hk => b kd (p.subset hk)⟩
theorem fit_tS {xs : List Str} {n : Nat} (hl : xs.length ≤ 50) (h : ∀ s ∈ xs, okS s) : Fit (tS xs) (n + 1) 1100 :=
  (FitL.tup (FitL.all (f := D.str) xs fun s hs => fit_str (n := n) (h s hs))).le (by omega)
theorem fit_ev {rows : List Row} (hro : RowsOk rows) (h6 : (knownOf rows).length ≤ 6) : Fit (evD rows) 60 100000 := by
  obtain ⟨a, _, c⟩ := kindsL_all h6
  unfold evD
  rw [kindsL_eq]
  exact (FitL.tup (n := 59) (FitL.cons (fit_str okS_returns) (FitL.all (f := tS) (kindsL rows) fun kd hk => fit_tS (n := 58) (by have := (c kd hk).1; omega) fun s hs => known_okS hro ((c kd hk).2 s hs)))).le (by omega)
theorem fit_name {rows : List Row} (hro : RowsOk rows) {kd : List Str} (hk : ∀ x ∈ kd, x ∈ knownOf rows) {n : Nat} : Fit (nameD kd) n 20 := by
  match kd, hk with
  | [], _ => exact fit_non
  | [x], hk => exact fit_str (known_okS hro (hk x (by simp)))
  | x :: y :: r, _ => exact fit_non
end K58
namespace K58
open PySem PySem.Spec PyProof.Rows DL
open SX (S S_len S_cat S_inj S_tl)
/-! what is seen at the level -/
theorem some_ok {m : M} {p : Addr} {l : D} {a : Int} {rows : List Row} {e1 e3 e4 e5 e6 e7 e8 e9 e10 e11 e12 e13 : Option D} {Q : DK} (hp : m p = some l) (h : PenD l a) (ha : a + 50 < 1048576) (h6 : (knownOf rows).length ≤ 6)
    (k : ∀ (xs : List Str) l', (∀ x ∈ xs, x ∈ knownOf rows) → xs.length ≤ 6 → PenD l' (a + 6) → Q (.lst (xs.map .str)) (updM m p l')) :
    tFrz (tLcM (iSeq (tFn (d1 dList) (tAC (tV 2) tA0))) (.one 13) r_l_seen_3 r_l_seen_4 [13]) [some (.ref p), e1, some (abD rows), e3, e4, e5, e6, e7, e8, e9, e10, e11, e12, e13] m Q := by
  simp only [tSq, DL.tIfS, tBinT, tBin, tV, tK, DL.tSet, tRt, tRtN, tAs, gSb, tFn, tAC, tA0, tDr, tApp, tExt, tPopA, tLstD, tTupD, tLstM, tCl, tMt, tPr, tNx, tSlD, tON, tOS, tIfD, DL.tAndT, DL.tOrT, DL.tNotT, tTru, tChainT, tNeg, tListM, List.map_cons, List.map_nil, List.length_cons, List.length_nil, List.replicate, List.cons_append, List.nil_append, List.getElem?_cons_zero, List.getElem?_cons_succ, List.set_cons_zero, List.set_cons_succ, Option.some.injEq, exists_eq_left', exists_eq_left, D.bl.injEq, D.int.injEq, D.str.injEq, D.lst.injEq, D.ref.injEq, if_true, if_false, Bool.true_eq_false, Bool.false_eq_true, startD, bodyEnds, Nat.reduceSub, Nat.reduceAdd, true_and, and_true, tFrz, tLcM, iSeq]
  refine ⟨.lst ((knownOf rows).map .str), by simp only [d1]; exact ab_list rows, (knownOf rows).map .str, rfl, fun r hr => ?_⟩
  have pr : p ≠ r := by rintro rfl; rw [hp] at hr; cases hr
  refine lcD_inv (ds := (knownOf rows).map .str) (fun j acc m' => ∃ l' xs, m' = updM (updM m p l') r (.lst acc) ∧ acc = xs.map .str ∧ (∀ x ∈ xs, x ∈ knownOf rows) ∧ xs.length ≤ j ∧ PenD l' (a + j)) ⟨l, [], by rw [updM_self hp], rfl, by simp, by simp, h.mono (by omega)⟩ ?_ ?_
  · rintro j acc d m' N hd ⟨l', xs, rfl, rfl, hx, hxl, hl'⟩ hN
    rw [List.getElem?_map] at hd
    obtain ⟨x, hxi, rfl⟩ := Option.map_eq_some_iff.mp hd
    have hj : j < (knownOf rows).length := by
      rcases Nat.lt_or_ge j (knownOf rows).length with z | z
      · exact z
      · rw [List.getElem?_eq_none z] at hxi; cases hxi
    simp only [tgD, gN, wipeD, r_l_seen_3, r_l_seen_4, tSq, DL.tIfS, tBinT, tBin, tV, tK, DL.tSet, tRt, tRtN, tAs, gSb, tFn, tAC, tA0, tDr, tApp, tExt, tPopA, tLstD, tTupD, tLstM, tCl, tMt, tPr, tNx, tSlD, tON, tOS, tIfD, DL.tAndT, DL.tOrT, DL.tNotT, tTru, tChainT, tNeg, tListM, List.map_cons, List.map_nil, List.length_cons, List.length_nil, List.replicate, List.cons_append, List.nil_append, List.getElem?_cons_zero, List.getElem?_cons_succ, List.set_cons_zero, List.set_cons_succ, Option.some.injEq, exists_eq_left', exists_eq_left, D.bl.injEq, D.int.injEq, D.str.injEq, D.lst.injEq, D.ref.injEq, if_true, if_false, Bool.true_eq_false, Bool.false_eq_true, startD, bodyEnds, Nat.reduceSub, Nat.reduceAdd, true_and, and_true]
    refine draw_ok (l := l') (by rw [updM_ne pr, updM_same]) hl' (by omega) (by decide) (by decide) fun v l2 v1 v2 h2 => ?_
    rw [updM_comm pr.symm, updM_over]
    refine ⟨decide (v = 0), rfl, ?_⟩
    by_cases g : v = 0
    · simp only [g, decide_true, if_true]
      refine ⟨_, updM_same, by rw [List.length_map]; exact smallLt (by omega), hN _ _ ⟨l2, xs ++ [x], by rw [updM_over], by rw [List.map_append]; rfl, fun y hy => ?_, by rw [List.length_append]; simp; omega, h2.mono (by omega)⟩⟩
      rcases List.mem_append.mp hy with hy | hy
      · exact hx y hy
      · rw [List.mem_singleton] at hy; subst hy; exact List.mem_of_getElem? hxi
    · simp only [g, decide_false, Bool.false_eq_true, if_false]
      exact hN _ _ ⟨l2, xs, rfl, rfl, hx, by omega, h2.mono (by omega)⟩
  · rintro acc m' ⟨l', xs, rfl, rfl, hx, hxl, hl'⟩
    rw [List.length_map] at hxl hl'
    refine ⟨_, updM_same, ?_⟩
    rw [delM_upd (by rw [updM_ne pr.symm]; exact hr)]
    exact k xs l' hx (by omega) (hl'.mono (by omega))
def bF (rows : List Row) (xs : List Str) : D → Option D
  | .tup ds => some (.bl (anyB rows (ds.filterMap fun d => match d with
      | .str y => some y
      | _ => none) xs))
  | _ => none
theorem bF_tS (rows : List Row) (xs kd : List Str) : bF rows xs (tS kd) = some (.bl (anyB rows kd xs)) := by
  exact congrArg (fun z => some (D.bl (anyB rows z xs))) (unstr kd)
theorem same_repr {m : M} {s : Str} : dNe m (.str s) (.str s) = some (.bl false) := by simp [dNe, look, dEqB]
theorem nameD_if {m : M} {env : DL.Env} {kd : List Str} {Q : DK} (h7 : env[7]? = some (some (tS kd))) (k : Q (nameD kd) m) : tIfD (tBinT dEq (tFn (d1 dLen) (tAC (tV 7) tA0)) (tK (.int 1))) (tBin dIx (tV 7) (tK (.int 0))) (tK .non) env m Q := by
  simp only [tSq, DL.tIfS, tBinT, tBin, tV, tK, DL.tSet, tRt, tRtN, tAs, gSb, tFn, tAC, tA0, tDr, tApp, tExt, tPopA, tLstD, tTupD, tLstM, tCl, tMt, tPr, tNx, tSlD, tON, tOS, tIfD, DL.tAndT, DL.tOrT, DL.tNotT, tTru, tChainT, tNeg, tListM, List.map_cons, List.map_nil, List.length_cons, List.length_nil, List.replicate, List.cons_append, List.nil_append, List.getElem?_cons_zero, List.getElem?_cons_succ, List.set_cons_zero, List.set_cons_succ, Option.some.injEq, exists_eq_left', exists_eq_left, D.bl.injEq, D.int.injEq, D.str.injEq, D.lst.injEq, D.ref.injEq, if_true, if_false, Bool.true_eq_false, Bool.false_eq_true, startD, bodyEnds, Nat.reduceSub, Nat.reduceAdd, true_and, and_true]
  refine ⟨tS kd, h7, .int kd.length, by simp only [d1, look, tS, dLen, List.length_map], decide ((kd.length : Int) = 1), rfl, ?_⟩
  match kd, h7, k with
  | [], _, k => exact k
  | [x], h7, k =>
    show ∃ d, env[7]? = some (some d) ∧ ∃ z, dIx m d (.int 0) = some z ∧ Q z m
    exact ⟨_, h7, .str x, dIx_tup rfl rfl (atI_pos (by decide) rfl), k⟩
  | x :: y :: r, _, k =>
    have g : ¬ (((x :: y :: r).length : Nat) : Int) = 1 := by simp only [List.length_cons]; omega
    simp only [g, decide_false, Bool.false_eq_true, if_false]
    exact k
theorem turn_ok {m : M} {p : Addr} {l : D} {a : Int} {CB CC : Addr} {rows : List Row} {ws : List Str} {due : Str} {e6 e7 e8 e9 e10 e11 e12 e13 : Option D} {E : DEnds} (hp : m p = some l) (h : PenD l a) (ha : a + 100 < 1048576) (hro : RowsOk rows) (h6 : (knownOf rows).length ≤ 6) (hw : ws ≠ []) (hwl : ws.length ≤ 20)
    (hdue : dReprA (evD rows) = some (.str due))
    (k : ∀ l' e7 e8 e9 e10 e11 e12 e13, PenD l' (a + 20) → E.nx [some (.ref p), some (levD CB CC rows), some (abD rows), some (.lst (kindsD rows)), some (.lst (ws.map .str)), some (.str due), e6, e7, e8, e9, e10, e11, e12, e13] (updM m p l')) :
    r_l_seen_15 CB CC [some (.ref p), some (levD CB CC rows), some (abD rows), some (.lst (kindsD rows)), some (.lst (ws.map .str)), some (.str due), e6, e7, e8, e9, e10, e11, e12, e13] m E := by
  obtain ⟨kl, kp, kk⟩ := kindsL_all h6
  simp only [r_l_seen_15, tSq, DL.tIfS, tBinT, tBin, tV, tK, DL.tSet, tRt, tRtN, tAs, gSb, tFn, tAC, tA0, tDr, tApp, tExt, tPopA, tLstD, tTupD, tLstM, tCl, tMt, tPr, tNx, tSlD, tON, tOS, tIfD, DL.tAndT, DL.tOrT, DL.tNotT, tTru, tChainT, tNeg, tListM, List.map_cons, List.map_nil, List.length_cons, List.length_nil, List.replicate, List.cons_append, List.nil_append, List.getElem?_cons_zero, List.getElem?_cons_succ, List.set_cons_zero, List.set_cons_succ, Option.some.injEq, exists_eq_left', exists_eq_left, D.bl.injEq, D.int.injEq, D.str.injEq, D.lst.injEq, D.ref.injEq, if_true, if_false, Bool.true_eq_false, Bool.false_eq_true, startD, bodyEnds, Nat.reduceSub, Nat.reduceAdd, true_and, and_true]
  have lkK : ∀ mm : M, look mm (.lst (kindsD rows)) = .lst ((kindsL rows).map tS) := fun mm => by rw [kindsL_eq]; rfl
  refine pick_lst (ds := (kindsL rows).map tS) hp h (by omega) (lkK _) (fun _ => lkK _) (fun e => by rw [List.map_eq_nil_iff] at e; rw [e] at kp; simp at kp) (by rw [List.length_map]; omega) fun d l1 hd h1 => ?_
  obtain ⟨kd, hkd, rfl⟩ := List.mem_map.mp hd
  obtain ⟨kdl, kdk⟩ := kk kd hkd
  have kn0 : knownOf rows ≠ [] := by intro z; have := knownOf_len rows; rw [z] at this; simp at this
  refine ⟨.lst ((knownOf rows).map .str), by simp only [d1]; exact ab_list rows, ?_⟩
  refine pick_strs updM_same h1 (by omega) kn0 (by omega) fun mine l2 hmine h2 => ?_
  rw [updM_over]
  have okM := known_okS hro hmine
  refine ⟨tS kd, .str mine, rfl, ?_⟩
  simp only [r_l_seen_14, tSq, DL.tIfS, tBinT, tBin, tV, tK, DL.tSet, tRt, tRtN, tAs, gSb, tFn, tAC, tA0, tDr, tApp, tExt, tPopA, tLstD, tTupD, tLstM, tCl, tMt, tPr, tNx, tSlD, tON, tOS, tIfD, DL.tAndT, DL.tOrT, DL.tNotT, tTru, tChainT, tNeg, tListM, List.map_cons, List.map_nil, List.length_cons, List.length_nil, List.replicate, List.cons_append, List.nil_append, List.getElem?_cons_zero, List.getElem?_cons_succ, List.set_cons_zero, List.set_cons_succ, Option.some.injEq, exists_eq_left', exists_eq_left, D.bl.injEq, D.int.injEq, D.str.injEq, D.lst.injEq, D.ref.injEq, if_true, if_false, Bool.true_eq_false, Bool.false_eq_true, startD, bodyEnds, Nat.reduceSub, Nat.reduceAdd, true_and, and_true]
  have f1 : FitL [tS [mine], tS [mine], tS [mine]] 59 5000 := (FitL.all (f := tS) [[mine], [mine], [mine]] fun x hx => fit_tS (n := 58) (xs := x) (by simp at hx; subst hx; simp) (fun s hs => by simp at hx; subst hx; simp at hs; subst hs; exact okM)).le (by simp)
  obtain ⟨s1, hs1⟩ := reprE f1.lst (by decide)
  refine ⟨nsL, _, rfl, no_view, view2_ok ⟨nsL, _, rfl, no_view, view_ok ⟨nsL, _, rfl, no_view, view_ok ⟨small (by decide), .str s1, hs1, small (by simp), small (by simp), .lst [tS [mine], tS [mine], tS [mine]], ?_, .str s1, hs1, false, same_repr, ?_⟩⟩⟩⟩
  · rfl
  simp only [Bool.false_eq_true, if_false]
  simp only [r_l_seen_13, tSq, DL.tIfS, tBinT, tBin, tV, tK, DL.tSet, tRt, tRtN, tAs, gSb, tFn, tAC, tA0, tDr, tApp, tExt, tPopA, tLstD, tTupD, tLstM, tCl, tMt, tPr, tNx, tSlD, tON, tOS, tIfD, DL.tAndT, DL.tOrT, DL.tNotT, tTru, tChainT, tNeg, tListM, List.map_cons, List.map_nil, List.length_cons, List.length_nil, List.replicate, List.cons_append, List.nil_append, List.getElem?_cons_zero, List.getElem?_cons_succ, List.set_cons_zero, List.set_cons_succ, Option.some.injEq, exists_eq_left', exists_eq_left, D.bl.injEq, D.int.injEq, D.str.injEq, D.lst.injEq, D.ref.injEq, if_true, if_false, Bool.true_eq_false, Bool.false_eq_true, startD, bodyEnds, Nat.reduceSub, Nat.reduceAdd, true_and, and_true]
  refine ⟨nsL, _, rfl, no_does, pick_strs (l := l2) updM_same h2 (by omega) hw (by omega) fun w1 l3 _ h3 => ?_⟩
  rw [updM_over]
  refine does_ok ⟨nsL, _, rfl, no_does, pick_strs (l := l3) updM_same h3 (by omega) hw (by omega) fun w2 l4 _ h4 => ?_⟩
  rw [updM_over]
  refine does_ok ⟨evD rows, evD rows, rfl, ?_⟩
  simp only [r_l_seen_12, tSq, DL.tIfS, tBinT, tBin, tV, tK, DL.tSet, tRt, tRtN, tAs, gSb, tFn, tAC, tA0, tDr, tApp, tExt, tPopA, tLstD, tTupD, tLstM, tCl, tMt, tPr, tNx, tSlD, tON, tOS, tIfD, DL.tAndT, DL.tOrT, DL.tNotT, tTru, tChainT, tNeg, tListM, List.map_cons, List.map_nil, List.length_cons, List.length_nil, List.replicate, List.cons_append, List.nil_append, List.getElem?_cons_zero, List.getElem?_cons_succ, List.set_cons_zero, List.set_cons_succ, Option.some.injEq, exists_eq_left', exists_eq_left, D.bl.injEq, D.int.injEq, D.str.injEq, D.lst.injEq, D.ref.injEq, if_true, if_false, Bool.true_eq_false, Bool.false_eq_true, startD, bodyEnds, Nat.reduceSub, Nat.reduceAdd, true_and, and_true]
  have hd1 : ∀ mm : M, d1 dReprA mm [evD rows] = some (.str due) := fun mm => hdue
  refine ⟨.str due, hd1 _, false, same_repr, ?_⟩
  simp only [Bool.false_eq_true, if_false]
  refine ⟨.str due, hd1 _, false, same_repr, ?_⟩
  simp only [Bool.false_eq_true, if_false]
  simp only [r_l_seen_11, tSq, DL.tSet]
  refine some_ok (l := l4) updM_same h4 (by omega) h6 fun xs l5 hxs hxl h5 => ?_
  rw [updM_over]
  simp only [r_l_seen_10, tSq, DL.tIfS, tBinT, tBin, tV, tK, DL.tSet, tRt, tRtN, tAs, gSb, tFn, tAC, tA0, tDr, tApp, tExt, tPopA, tLstD, tTupD, tLstM, tCl, tMt, tPr, tNx, tSlD, tON, tOS, tIfD, DL.tAndT, DL.tOrT, DL.tNotT, tTru, tChainT, tNeg, tListM, List.map_cons, List.map_nil, List.length_cons, List.length_nil, List.replicate, List.cons_append, List.nil_append, List.getElem?_cons_zero, List.getElem?_cons_succ, List.set_cons_zero, List.set_cons_succ, Option.some.injEq, exists_eq_left', exists_eq_left, D.bl.injEq, D.int.injEq, D.str.injEq, D.lst.injEq, D.ref.injEq, if_true, if_false, Bool.true_eq_false, Bool.false_eq_true, startD, bodyEnds, Nat.reduceSub, Nat.reduceAdd, true_and, and_true]
  have b1 : [mine] = [mine] := rfl
  refine ⟨nsL, _, rfl, no_taken, .tup (xs.map .str), rfl, taken_ok (.inr rfl) kdk (by omega) (by omega) ⟨nsL, _, rfl, no_taken, taken_ok (.inl rfl) kdk (by omega) (by omega) ⟨nsL, _, rfl, no_taken, small (by decide), taken_ok (kd := [mine]) (.inl rfl) (fun x hx => by simp at hx; subst hx; exact hmine) (by simp) (by omega) ⟨small (by simp), ?_⟩⟩⟩⟩
  simp only [r_l_seen_9, tSq, DL.tIfS, tBinT, tBin, tV, tK, DL.tSet, tRt, tRtN, tAs, gSb, tFn, tAC, tA0, tDr, tApp, tExt, tPopA, tLstD, tTupD, tLstM, tCl, tMt, tPr, tNx, tSlD, tON, tOS, tIfD, DL.tAndT, DL.tOrT, DL.tNotT, tTru, tChainT, tNeg, tListM, List.map_cons, List.map_nil, List.length_cons, List.length_nil, List.replicate, List.cons_append, List.nil_append, List.getElem?_cons_zero, List.getElem?_cons_succ, List.set_cons_zero, List.set_cons_succ, Option.some.injEq, exists_eq_left', exists_eq_left, D.bl.injEq, D.int.injEq, D.str.injEq, D.lst.injEq, D.ref.injEq, if_true, if_false, Bool.true_eq_false, Bool.false_eq_true, startD, bodyEnds, Nat.reduceSub, Nat.reduceAdd, true_and, and_true]
  have f2 : FitL [.bl (anyB rows kd xs), .bl (anyB rows kd xs), .bl (anyB rows [mine] xs)] 59 1000 := (FitL.cons fit_bl (FitL.cons fit_bl (FitL.cons fit_bl FitL.nil))).le (by decide)
  obtain ⟨s2, hs2⟩ := reprE f2.lst (by decide)
  refine ⟨.str s2, hs2, ?_⟩
  refine lc_pure (ds := [tS kd, tS kd, tS [mine]]) (bF rows xs) (fun R hR => ?_) (smallLt (by simp)) (fun d m1 R hd hm hy hno => ?_) ?_
  · simp only [iSeq, dSeq, tSq, DL.tIfS, tBinT, tBin, tV, tK, DL.tSet, tRt, tRtN, tAs, gSb, tFn, tAC, tA0, tDr, tApp, tExt, tPopA, tLstD, tTupD, tLstM, tCl, tMt, tPr, tNx, tSlD, tON, tOS, tIfD, DL.tAndT, DL.tOrT, DL.tNotT, tTru, tChainT, tNeg, tListM, List.map_cons, List.map_nil, List.length_cons, List.length_nil, List.replicate, List.cons_append, List.nil_append, List.getElem?_cons_zero, List.getElem?_cons_succ, List.set_cons_zero, List.set_cons_succ, Option.some.injEq, exists_eq_left', exists_eq_left, D.bl.injEq, D.int.injEq, D.str.injEq, D.lst.injEq, D.ref.injEq, if_true, if_false, Bool.true_eq_false, Bool.false_eq_true, startD, bodyEnds, Nat.reduceSub, Nat.reduceAdd, true_and, and_true]
    exact ⟨small (by simp), small (by simp), hR⟩
  · obtain ⟨kx, hkx, rfl⟩ : ∃ kx : List Str, (∀ x ∈ kx, x ∈ knownOf rows) ∧ d = tS kx := by
      simp only [List.mem_cons, List.not_mem_nil, or_false] at hd
      rcases hd with rfl | rfl | rfl
      · exact ⟨kd, kdk, rfl⟩
      · exact ⟨kd, kdk, rfl⟩
      · exact ⟨[mine], fun x hx => by simp at hx; subst hx; exact hmine, rfl⟩
    simp only [tgD, gN, wipeD, tYe, r_l_seen_5, tSq, DL.tIfS, tBinT, tBin, tV, tK, DL.tSet, tRt, tRtN, tAs, gSb, tFn, tAC, tA0, tDr, tApp, tExt, tPopA, tLstD, tTupD, tLstM, tCl, tMt, tPr, tNx, tSlD, tON, tOS, tIfD, DL.tAndT, DL.tOrT, DL.tNotT, tTru, tChainT, tNeg, tListM, List.map_cons, List.map_nil, List.length_cons, List.length_nil, List.replicate, List.cons_append, List.nil_append, List.getElem?_cons_zero, List.getElem?_cons_succ, List.set_cons_zero, List.set_cons_succ, Option.some.injEq, exists_eq_left', exists_eq_left, D.bl.injEq, D.int.injEq, D.str.injEq, D.lst.injEq, D.ref.injEq, if_true, if_false, Bool.true_eq_false, Bool.false_eq_true, startD, bodyEnds, Nat.reduceSub, Nat.reduceAdd, true_and, and_true]
    exact ltaken_ok hro hkx hxs (by omega) (hy _ (bF_tS rows xs kx))
  have eF : ([tS kd, tS kd, tS [mine]] : List D).filterMap (bF rows xs) = [.bl (anyB rows kd xs), .bl (anyB rows kd xs), .bl (anyB rows [mine] xs)] := by
    simp only [List.filterMap_cons, bF_tS, List.filterMap_nil]
  rw [eF]
  refine ⟨.str s2, hs2, false, same_repr, ?_⟩
  simp only [Bool.false_eq_true, if_false]
  have f3 : FitL [nameD kd, .str mine] 59 1000 := (FitL.cons (fit_name hro kdk) (FitL.cons (fit_str okM) FitL.nil)).le (by decide)
  obtain ⟨s3, hs3⟩ := reprE f3.lst (by decide)
  simp only [r_l_seen_8, tSq, DL.tIfS, tBinT, tBin, tV, tK, DL.tSet, tRt, tRtN, tAs, gSb, tFn, tAC, tA0, tDr, tApp, tExt, tPopA, tLstD, tTupD, tLstM, tCl, tMt, tPr, tNx, tSlD, tON, tOS, DL.tAndT, DL.tOrT, DL.tNotT, tTru, tChainT, tNeg, tListM, List.map_cons, List.map_nil, List.length_cons, List.length_nil, List.replicate, List.cons_append, List.nil_append, List.getElem?_cons_zero, List.getElem?_cons_succ, List.set_cons_zero, List.set_cons_succ, Option.some.injEq, exists_eq_left', exists_eq_left, D.bl.injEq, D.int.injEq, D.str.injEq, D.lst.injEq, D.ref.injEq, if_true, if_false, Bool.true_eq_false, Bool.false_eq_true, startD, bodyEnds, Nat.reduceSub, Nat.reduceAdd, true_and, and_true]
  refine ⟨nsL, _, rfl, no_name, nameof_ok ⟨nsL, _, rfl, no_name, small (by simp), nameof_ok (kd := [mine]) ⟨small (by simp), .str s3, hs3, nameD_if rfl ⟨small (by simp), .str s3, hs3, false, same_repr, ?_⟩⟩⟩⟩
  simp only [Bool.false_eq_true, if_false]
  exact k _ _ _ _ _ _ _ _ (h5.mono (by omega))
theorem seen_ok {m : M} {p : Addr} {l : D} {a : Int} {CB CC : Addr} {rows : List Row} {ws : List Str} {Q : DK} (hp : m p = some l) (h : PenD l a) (ha : a + 300 < 1048576) (hro : RowsOk rows) (h6 : (knownOf rows).length ≤ 6) (hw : ws ≠ []) (hwl : ws.length ≤ 20)
    (k : ∀ l', PenD l' (a + 80) → Q (.bl true) (updM m p l')) : sp_l_seen CB CC [.ref p, levD CB CC rows, abD rows, .lst (kindsD rows), .lst (ws.map .str)] m Q := by
  refine ⟨rfl, ?_⟩
  show r_l_seen_18 CB CC _ _ _
  simp only [r_l_seen_18, tSq, DL.tIfS, tBinT, tBin, tV, tK, DL.tSet, tRt, tRtN, tAs, gSb, tFn, tAC, tA0, tDr, tApp, tExt, tPopA, tLstD, tTupD, tLstM, tCl, tMt, tPr, tNx, tSlD, tON, tOS, tIfD, DL.tAndT, DL.tOrT, DL.tNotT, tTru, tChainT, tNeg, tListM, List.map_cons, List.map_nil, List.length_cons, List.length_nil, List.replicate, List.cons_append, List.nil_append, List.getElem?_cons_zero, List.getElem?_cons_succ, List.set_cons_zero, List.set_cons_succ, Option.some.injEq, exists_eq_left', exists_eq_left, D.bl.injEq, D.int.injEq, D.str.injEq, D.lst.injEq, D.ref.injEq, if_true, if_false, Bool.true_eq_false, Bool.false_eq_true, startD, bodyEnds, Nat.reduceSub, Nat.reduceAdd, true_and, and_true]
  have hdue : dReprA (evD rows) = some (.str (toPd (evD rows)).shown) := repr_tup (fit_ev hro h6) (by decide)
  have kl := (kindsL_all h6).1
  have kl2 : (kindsD rows).length = (kindsL rows).length := by rw [kindsL_eq, List.length_map]
  refine ⟨small (by simp), .tup (kindsD rows), rfl, evD rows, ?_, .str _, hdue, ?_⟩
  · simp only [dAdd, look, List.length_cons, List.length_nil]
    rw [if_pos (small (by omega))]; rfl
  generalize (toPd (evD rows)).shown = due at *
  simp only [r_l_seen_17, tSq, DL.tIfS, tBinT, tBin, tV, tK, DL.tSet, tRt, tRtN, tAs, gSb, tFn, tAC, tA0, tDr, tApp, tExt, tPopA, tLstD, tTupD, tLstM, tCl, tMt, tPr, tNx, tSlD, tON, tOS, tIfD, DL.tAndT, DL.tOrT, DL.tNotT, tTru, tChainT, tNeg, tListM, List.map_cons, List.map_nil, List.length_cons, List.length_nil, List.replicate, List.cons_append, List.nil_append, List.getElem?_cons_zero, List.getElem?_cons_succ, List.set_cons_zero, List.set_cons_succ, Option.some.injEq, exists_eq_left', exists_eq_left, D.bl.injEq, D.int.injEq, D.str.injEq, D.lst.injEq, D.ref.injEq, if_true, if_false, Bool.true_eq_false, Bool.false_eq_true, startD, bodyEnds, Nat.reduceSub, Nat.reduceAdd, true_and, and_true, tFo, iRg]
  refine ⟨4, rfl, by decide, by decide, ?_⟩
  refine forD_inv (fun i env m' => ∃ l' e6 e7 e8 e9 e10 e11 e12 e13, env = [some (.ref p), some (levD CB CC rows), some (abD rows), some (.lst (kindsD rows)), some (.lst (ws.map .str)), some (.str due), e6, e7, e8, e9, e10, e11, e12, e13] ∧ m' = updM m p l' ∧ PenD l' (a + 20 * i))
    ⟨l, none, none, none, none, none, none, none, none, rfl, (updM_self hp).symm, h.mono (by omega)⟩ ?_ ?_
  · rintro i d env m' N hd ⟨l', e6, e7, e8, e9, e10, e11, e12, e13, rfl, rfl, hl'⟩ hN
    have hi : i < 4 := by
      have := List.getElem?_eq_some_iff.mp hd
      obtain ⟨z, _⟩ := this
      simpa [rngD] using z
    simp only [tgD, gN, List.set_cons_succ, List.set_cons_zero]
    refine turn_ok updM_same hl' (by omega) hro h6 hw hwl hdue fun l2 e7 e8 e9 e10 e11 e12 e13 h2 => ?_
    rw [updM_over]
    exact hN _ _ ⟨l2, _, e7, e8, e9, e10, e11, e12, e13, rfl, rfl, h2.mono (by omega)⟩
  · rintro env m' ⟨l', e6, e7, e8, e9, e10, e11, e12, e13, rfl, rfl, hl'⟩
    simp only [r_l_seen_16, tSq, DL.tIfS, tBinT, tBin, tV, tK, DL.tSet, tRt, tRtN, tAs, gSb, tFn, tAC, tA0, tDr, tApp, tExt, tPopA, tLstD, tTupD, tLstM, tCl, tMt, tPr, tNx, tSlD, tON, tOS, tIfD, DL.tAndT, DL.tOrT, DL.tNotT, tTru, tChainT, tNeg, tListM, List.map_cons, List.map_nil, List.length_cons, List.length_nil, List.replicate, List.cons_append, List.nil_append, List.getElem?_cons_zero, List.getElem?_cons_succ, List.set_cons_zero, List.set_cons_succ, Option.some.injEq, exists_eq_left', exists_eq_left, D.bl.injEq, D.int.injEq, D.str.injEq, D.lst.injEq, D.ref.injEq, if_true, if_false, Bool.true_eq_false, Bool.false_eq_true, startD, bodyEnds, Nat.reduceSub, Nat.reduceAdd, true_and, and_true]
    refine dropR.self (k l' (hl'.mono ?_))
    simp [rngD]
end K58
namespace K58
open PySem PySem.Spec PyProof.Rows DL
open SX (S S_len S_cat S_inj S_tl)
/-! the law -/
theorem isi_lev {m : M} {CB CC CL : Addr} {b : Bool} {rows : List Row} : dIsiO (JS (.inr CL) [(CB, b)]) m [levD CB CC rows, .ref CL] = some (.bl b) := by
  have h1 : tyD (look m (levD CB CC rows)) = some (.inr CB) := rfl
  have h2 : clD (.ref CL) = some (.inr CL) := rfl
  unfold dIsiO
  simp only [h1, h2]
  have : JS (.inr CL) [(CB, b)] (.inr CB) (.inr CL) = some b := by simp [JS, jbT]
  rw [this]; rfl
theorem str_ne {m : M} {x : Str} : dNe m (.str x) (.str x) = some (.bl false) := by simp [dNe, look, dEqB]
theorem rest_ok {m : M} {p : Addr} {l : D} {a : Int} {CBar CByC CB CC CLE CLv CNo CT : Addr} {rows : List Row} {ws : List Str} {sc i : D} {e5 e6 e7 e8 : Option D} {E : DEnds} (hp : m p = some l) (h : PenD l a) (ha : a + 300 < 1048576) (hro : RowsOk rows) (h6 : (knownOf rows).length ≤ 6) (hw : ws ≠ []) (hwl : ws.length ≤ 20)
    (k : ∀ l' e6 e7 e8, PenD l' (a + 80) → E.nx [some sc, some (.ref p), some i, some (.lst (ws.map .str)), some (.lst (rows.map rowD)), e5, e6, e7, e8] (updM m p l')) :
    r_law_12 CByC CB CC CLv CT [some sc, some (.ref p), some i, some (.lst (ws.map .str)), some (.lst (rows.map rowD)), e5, e6, e7, e8] m E := by
  have hn : rows.length ≤ 30 := by have := knownOf_len rows; omega
  simp only [r_law_12, tSq, DL.tIfS, tBinT, tBin, tV, tK, DL.tSet, tRt, tRtN, tAs, gSb, tFn, tAC, tA0, tDr, tApp, tExt, tPopA, tLstD, tTupD, tLstM, tCl, tMt, tPr, tNx, tSlD, tON, tOS, tIfD, DL.tAndT, DL.tOrT, DL.tNotT, tTru, tChainT, tNeg, tListM, List.map_cons, List.map_nil, List.length_cons, List.length_nil, List.replicate, List.cons_append, List.nil_append, List.getElem?_cons_zero, List.getElem?_cons_succ, List.set_cons_zero, List.set_cons_succ, Option.some.injEq, exists_eq_left', exists_eq_left, D.bl.injEq, D.int.injEq, D.str.injEq, D.lst.injEq, D.ref.injEq, if_true, if_false, Bool.true_eq_false, Bool.false_eq_true, startD, bodyEnds, Nat.reduceSub, Nat.reduceAdd, true_and, and_true, tCm]
  refine made_ok hn hro ?_
  simp only [r_law_11, tSq, DL.tIfS, tBinT, tBin, tV, tK, DL.tSet, tRt, tRtN, tAs, gSb, tFn, tAC, tA0, tDr, tApp, tExt, tPopA, tLstD, tTupD, tLstM, tCl, tMt, tPr, tNx, tSlD, tON, tOS, tIfD, DL.tAndT, DL.tOrT, DL.tNotT, tTru, tChainT, tNeg, tListM, List.map_cons, List.map_nil, List.length_cons, List.length_nil, List.replicate, List.cons_append, List.nil_append, List.getElem?_cons_zero, List.getElem?_cons_succ, List.set_cons_zero, List.set_cons_succ, Option.some.injEq, exists_eq_left', exists_eq_left, D.bl.injEq, D.int.injEq, D.str.injEq, D.lst.injEq, D.ref.injEq, if_true, if_false, Bool.true_eq_false, Bool.false_eq_true, startD, bodyEnds, Nat.reduceSub, Nat.reduceAdd, true_and, and_true]
  refine above_ok hn hro ?_
  simp only [r_law_10, tSq, DL.tIfS, tBinT, tBin, tV, tK, DL.tSet, tRt, tRtN, tAs, gSb, tFn, tAC, tA0, tDr, tApp, tExt, tPopA, tLstD, tTupD, tLstM, tCl, tMt, tPr, tNx, tSlD, tON, tOS, tIfD, DL.tAndT, DL.tOrT, DL.tNotT, tTru, tChainT, tNeg, tListM, List.map_cons, List.map_nil, List.length_cons, List.length_nil, List.replicate, List.cons_append, List.nil_append, List.getElem?_cons_zero, List.getElem?_cons_succ, List.set_cons_zero, List.set_cons_succ, Option.some.injEq, exists_eq_left', exists_eq_left, D.bl.injEq, D.int.injEq, D.str.injEq, D.lst.injEq, D.ref.injEq, if_true, if_false, Bool.true_eq_false, Bool.false_eq_true, startD, bodyEnds, Nat.reduceSub, Nat.reduceAdd, true_and, and_true, tNoX, tFrzX, tNwX]
  intro x hx
  refine linit_ok h6 updM_same ⟨rfl, ?_⟩
  rw [updM_over]
  refine ⟨_, updM_same, ?_⟩
  rw [delM_upd hx]
  simp only [r_law_9, tSq, DL.tIfS, tBinT, tBin, tV, tK, DL.tSet, tRt, tRtN, tAs, gSb, tFn, tAC, tA0, tDr, tApp, tExt, tPopA, tLstD, tTupD, tLstM, tCl, tMt, tPr, tNx, tSlD, tON, tOS, tIfD, DL.tAndT, DL.tOrT, DL.tNotT, tTru, tChainT, tNeg, tListM, List.map_cons, List.map_nil, List.length_cons, List.length_nil, List.replicate, List.cons_append, List.nil_append, List.getElem?_cons_zero, List.getElem?_cons_succ, List.set_cons_zero, List.set_cons_succ, Option.some.injEq, exists_eq_left', exists_eq_left, D.bl.injEq, D.int.injEq, D.str.injEq, D.lst.injEq, D.ref.injEq, if_true, if_false, Bool.true_eq_false, Bool.false_eq_true, startD, bodyEnds, Nat.reduceSub, Nat.reduceAdd, true_and, and_true, tOwnT, tFl]
  refine ⟨_, isi_lev, true, rfl, ?_⟩
  simp only [Bool.not_true, Bool.false_eq_true, if_false]
  refine ⟨_, isi_lev, false, rfl, ?_⟩
  simp only [Bool.false_eq_true, if_false]
  refine ⟨_, _, _, rfl, get_cls CC rows, ins_of _ CC rows, right_cls _ CC rows, eq_cls hn hn hro hro ⟨_, rfl, ?_⟩⟩
  simp only [decide_true, Bool.not_true, Bool.false_eq_true, if_false]
  simp only [r_law_8, tSq, DL.tIfS, tBinT, tBin, tV, tK, DL.tSet, tRt, tRtN, tAs, gSb, tFn, tAC, tA0, tDr, tApp, tExt, tPopA, tLstD, tTupD, tLstM, tCl, tMt, tPr, tNx, tSlD, tON, tOS, tIfD, DL.tAndT, DL.tOrT, DL.tNotT, tTru, tChainT, tNeg, tListM, List.map_cons, List.map_nil, List.length_cons, List.length_nil, List.replicate, List.cons_append, List.nil_append, List.getElem?_cons_zero, List.getElem?_cons_succ, List.set_cons_zero, List.set_cons_succ, Option.some.injEq, exists_eq_left', exists_eq_left, D.bl.injEq, D.int.injEq, D.str.injEq, D.lst.injEq, D.ref.injEq, if_true, if_false, Bool.true_eq_false, Bool.false_eq_true, startD, bodyEnds, Nat.reduceSub, Nat.reduceAdd, true_and, and_true, tKi, tKc]
  refine ⟨_, _, rfl, no_kind, false, str_ne, ?_⟩
  simp only [Bool.false_eq_true, if_false]
  refine ⟨false, str_ne, ?_⟩
  simp only [Bool.false_eq_true, if_false]
  refine ⟨false, str_ne, ?_⟩
  simp only [Bool.false_eq_true, if_false]
  simp only [r_law_7, tSq, DL.tIfS, tBinT, tBin, tV, tK, DL.tSet, tRt, tRtN, tAs, gSb, tFn, tAC, tA0, tDr, tApp, tExt, tPopA, tLstD, tTupD, tLstM, tCl, tMt, tPr, tNx, tSlD, tON, tOS, tIfD, DL.tAndT, DL.tOrT, DL.tNotT, tTru, tChainT, tNeg, tListM, List.map_cons, List.map_nil, List.length_cons, List.length_nil, List.replicate, List.cons_append, List.nil_append, List.getElem?_cons_zero, List.getElem?_cons_succ, List.set_cons_zero, List.set_cons_succ, Option.some.injEq, exists_eq_left', exists_eq_left, D.bl.injEq, D.int.injEq, D.str.injEq, D.lst.injEq, D.ref.injEq, if_true, if_false, Bool.true_eq_false, Bool.false_eq_true, startD, bodyEnds, Nat.reduceSub, Nat.reduceAdd, true_and, and_true]
  refine lkinds_ok hro h6 ?_
  refine seen_ok hp h ha hro h6 hw hwl fun l' hl' => ⟨true, rfl, ?_⟩
  simp only [Bool.not_true, Bool.false_eq_true, if_false]
  exact k l' _ _ _ hl'
theorem turn2_ok {m : M} {p : Addr} {l : D} {a : Int} {CBar CByC CB CC CLE CLv CNo CT : Addr} {sc i : D} {e3 e4 e5 e6 e7 e8 : Option D} {E : DEnds} (hp : m p = some l) (h : PenD l a) (ha : a + 2000 < 1048576)
    (k : ∀ l' e3 e4 e5 e6 e7 e8, PenD l' (a + 1000) → E.nx [some sc, some (.ref p), some i, e3, e4, e5, e6, e7, e8] (updM m p l')) :
    r_law_15 CBar CByC CB CC CLE CLv CNo CT [some sc, some (.ref p), some i, e3, e4, e5, e6, e7, e8] m E := by
  simp only [r_law_15, tSq, DL.tIfS, tBinT, tBin, tV, tK, DL.tSet, tRt, tRtN, tAs, gSb, tFn, tAC, tA0, tDr, tApp, tExt, tPopA, tLstD, tTupD, tLstM, tCl, tMt, tPr, tNx, tSlD, tON, tOS, tIfD, DL.tAndT, DL.tOrT, DL.tNotT, tTru, tChainT, tNeg, tListM, List.map_cons, List.map_nil, List.length_cons, List.length_nil, List.replicate, List.cons_append, List.nil_append, List.getElem?_cons_zero, List.getElem?_cons_succ, List.set_cons_zero, List.set_cons_succ, Option.some.injEq, exists_eq_left', exists_eq_left, D.bl.injEq, D.int.injEq, D.str.injEq, D.lst.injEq, D.ref.injEq, if_true, if_false, Bool.true_eq_false, Bool.false_eq_true, startD, bodyEnds, Nat.reduceSub, Nat.reduceAdd, true_and, and_true]
  refine words_ok hp h (by omega) (by decide) fun ws l1 hws h1 => ?_
  have hl9 : ws.length = 9 := hws.len
  have hwn : ws ≠ [] := by intro z; rw [z] at hl9; simp at hl9
  simp only [r_law_14, tSq, DL.tIfS, tBinT, tBin, tV, tK, DL.tSet, tRt, tRtN, tAs, gSb, tFn, tAC, tA0, tDr, tApp, tExt, tPopA, tLstD, tTupD, tLstM, tCl, tMt, tPr, tNx, tSlD, tON, tOS, tIfD, DL.tAndT, DL.tOrT, DL.tNotT, tTru, tChainT, tNeg, tListM, List.map_cons, List.map_nil, List.length_cons, List.length_nil, List.replicate, List.cons_append, List.nil_append, List.getElem?_cons_zero, List.getElem?_cons_succ, List.set_cons_zero, List.set_cons_succ, Option.some.injEq, exists_eq_left', exists_eq_left, D.bl.injEq, D.int.injEq, D.str.injEq, D.lst.injEq, D.ref.injEq, if_true, if_false, Bool.true_eq_false, Bool.false_eq_true, startD, bodyEnds, Nat.reduceSub, Nat.reduceAdd, true_and, and_true]
  refine draw_ok updM_same h1 (by omega) (by decide) (by decide) fun v l2 v1 v2 h2 => ?_
  rw [updM_over]
  obtain ⟨vn, rfl⟩ := Int.eq_ofNat_of_zero_le v1
  refine ⟨vn, rfl, .lst ((ws.take vn).map .str), ?_, ?_⟩
  · simp only [dSl, look]
    rw [cut_to (by omega)]
    rw [List.map_take]; rfl
  refine rows_ok (l := l2) updM_same h2 (by omega) (by rw [List.length_take]; omega) (hws.nd.sublist (List.take_sublist _ _)) (fun w hw => hws.wd w (List.mem_of_mem_take hw)) fun rows l3 hrw hro hnd h22 h3 => ?_
  rw [updM_over]
  have h6 : (knownOf rows).length ≤ 6 := by
    have e := congrArg List.length hrw
    rw [List.length_map, List.length_take] at e
    rw [knownOf_len]; omega
  simp only [r_law_13, tSq, DL.tIfS, tBinT, tBin, tV, tK, DL.tSet, tRt, tRtN, tAs, gSb, tFn, tAC, tA0, tDr, tApp, tExt, tPopA, tLstD, tTupD, tLstM, tCl, tMt, tPr, tNx, tSlD, tON, tOS, tIfD, DL.tAndT, DL.tOrT, DL.tNotT, tTru, tChainT, tNeg, tListM, List.map_cons, List.map_nil, List.length_cons, List.length_nil, List.replicate, List.cons_append, List.nil_append, List.getElem?_cons_zero, List.getElem?_cons_succ, List.set_cons_zero, List.set_cons_succ, Option.some.injEq, exists_eq_left', exists_eq_left, D.bl.injEq, D.int.injEq, D.str.injEq, D.lst.injEq, D.ref.injEq, if_true, if_false, Bool.true_eq_false, Bool.false_eq_true, startD, bodyEnds, Nat.reduceSub, Nat.reduceAdd, true_and, and_true]
  refine draw_ok updM_same h3 (by omega) (by decide) (by decide) fun u l4 u1 u2 h4 => ?_
  rw [updM_over]
  refine ⟨decide (u = 0), rfl, ?_⟩
  by_cases g : u = 0
  · simp only [g, decide_true, if_true]
    simp only [r_law_3, tSq, DL.tIfS, tBinT, tBin, tV, tK, DL.tSet, tRt, tRtN, tAs, gSb, tFn, tAC, tA0, tDr, tApp, tExt, tPopA, tLstD, tTupD, tLstM, tCl, tMt, tPr, tNx, tSlD, tON, tOS, tIfD, DL.tAndT, DL.tOrT, DL.tNotT, tTru, tChainT, tNeg, tListM, List.map_cons, List.map_nil, List.length_cons, List.length_nil, List.replicate, List.cons_append, List.nil_append, List.getElem?_cons_zero, List.getElem?_cons_succ, List.set_cons_zero, List.set_cons_succ, Option.some.injEq, exists_eq_left', exists_eq_left, D.bl.injEq, D.int.injEq, D.str.injEq, D.lst.injEq, D.ref.injEq, if_true, if_false, Bool.true_eq_false, Bool.false_eq_true, startD, bodyEnds, Nat.reduceSub, Nat.reduceAdd, true_and, and_true]
    refine draw_ok updM_same h4 (by omega) (by decide) (by decide) fun x l5 x1 x2 h5 => ?_
    rw [updM_over]
    obtain ⟨xn, rfl⟩ := Int.eq_ofNat_of_zero_le x1
    refine ⟨.int (5 + xn), by simp only [dAdd, look], 5 + xn, rfl, .lst ((ws.take (5 + xn)).map .str), ?_, ?_⟩
    · simp only [dSl, look]
      rw [cut_to (by omega)]
      have e : ((5 : Int) + xn).toNat = 5 + xn := by omega
      rw [e, List.map_take]
    refine rows_ok (l := l5) updM_same h5 (by omega) (by rw [List.length_take]; omega) (hws.nd.sublist (List.take_sublist _ _)) (fun w hw => hws.wd w (List.mem_of_mem_take hw)) fun rows2 l6 hrw2 hro2 hnd2 h222 h7 => ?_
    rw [updM_over]
    have hk : 6 < (knownOf rows2).length ∧ rows2.length ≤ 30 := by
      have e := congrArg List.length hrw2
      rw [List.length_map, List.length_take] at e
      rw [knownOf_len]; omega
    simp only [r_law_2, tSq, DL.tIfS, tBinT, tBin, tV, tK, DL.tSet, tRt, tRtN, tAs, gSb, tFn, tAC, tA0, tDr, tApp, tExt, tPopA, tLstD, tTupD, tLstM, tCl, tMt, tPr, tNx, tSlD, tON, tOS, tIfD, DL.tAndT, DL.tOrT, DL.tNotT, tTru, tChainT, tNeg, tListM, List.map_cons, List.map_nil, List.length_cons, List.length_nil, List.replicate, List.cons_append, List.nil_append, List.getElem?_cons_zero, List.getElem?_cons_succ, List.set_cons_zero, List.set_cons_succ, Option.some.injEq, exists_eq_left', exists_eq_left, D.bl.injEq, D.int.injEq, D.str.injEq, D.lst.injEq, D.ref.injEq, if_true, if_false, Bool.true_eq_false, Bool.false_eq_true, startD, bodyEnds, Nat.reduceSub, Nat.reduceAdd, true_and, and_true, tCm]
    refine made_ok hk.2 hro2 ?_
    refine refused_ok hk.1 ⟨true, rfl, ?_⟩
    simp only [Bool.not_true, Bool.false_eq_true, if_false]
    refine rest_ok (CBar := CBar) (CLE := CLE) (CNo := CNo) (l := l6) updM_same h7 (by omega) hro h6 hwn (by omega) fun l8 e6 e7 e8 h8 => ?_
    rw [updM_over]
    exact k _ _ _ _ _ _ _ (h8.mono (by omega))
  · simp only [g, decide_false, Bool.false_eq_true, if_false]
    refine rest_ok (CBar := CBar) (CLE := CLE) (CNo := CNo) (l := l4) updM_same h4 (by omega) hro h6 hwn (by omega) fun l8 e6 e7 e8 h8 => ?_
    rw [updM_over]
    exact k _ _ _ _ _ _ _ (h8.mono (by omega))
theorem law_ok {m : M} {CBar CByC CB CC CLE CLv CNo CT : Addr} {ns : List Int} : sp_law CBar CByC CB CC CLE CLv CNo CT [.scr ns] m fun d _ => d = .bl true := by
  refine ⟨rfl, ?_⟩
  show r_law_18 CBar CByC CB CC CLE CLv CNo CT _ _ _
  simp only [r_law_18, tSq, DL.tIfS, tBinT, tBin, tV, tK, DL.tSet, tRt, tRtN, tAs, gSb, tFn, tAC, tA0, tDr, tApp, tExt, tPopA, tLstD, tTupD, tLstM, tCl, tMt, tPr, tNx, tSlD, tON, tOS, tIfD, DL.tAndT, DL.tOrT, DL.tNotT, tTru, tChainT, tNeg, tListM, List.map_cons, List.map_nil, List.length_cons, List.length_nil, List.replicate, List.cons_append, List.nil_append, List.getElem?_cons_zero, List.getElem?_cons_succ, List.set_cons_zero, List.set_cons_succ, Option.some.injEq, exists_eq_left', exists_eq_left, D.bl.injEq, D.int.injEq, D.str.injEq, D.lst.injEq, D.ref.injEq, if_true, if_false, Bool.true_eq_false, Bool.false_eq_true, startD, bodyEnds, Nat.reduceSub, Nat.reduceAdd, true_and, and_true]
  refine pen_ok fun p l hp0 hl0 => ?_
  simp only [r_law_17, tSq, DL.tIfS, tBinT, tBin, tV, tK, DL.tSet, tRt, tRtN, tAs, gSb, tFn, tAC, tA0, tDr, tApp, tExt, tPopA, tLstD, tTupD, tLstM, tCl, tMt, tPr, tNx, tSlD, tON, tOS, tIfD, DL.tAndT, DL.tOrT, DL.tNotT, tTru, tChainT, tNeg, tListM, List.map_cons, List.map_nil, List.length_cons, List.length_nil, List.replicate, List.cons_append, List.nil_append, List.getElem?_cons_zero, List.getElem?_cons_succ, List.set_cons_zero, List.set_cons_succ, Option.some.injEq, exists_eq_left', exists_eq_left, D.bl.injEq, D.int.injEq, D.str.injEq, D.lst.injEq, D.ref.injEq, if_true, if_false, Bool.true_eq_false, Bool.false_eq_true, startD, bodyEnds, Nat.reduceSub, Nat.reduceAdd, true_and, and_true, tFo, iRg]
  refine ⟨5, rfl, by decide, by decide, ?_⟩
  refine forD_inv (fun i env m' => ∃ l' f2 f3 f4 f5 f6 f7 f8, env = [some (.scr ns), some (.ref p), f2, f3, f4, f5, f6, f7, f8] ∧ m' = updM m p l' ∧ PenD l' (1000 * i)) ⟨l, none, none, none, none, none, none, none, rfl, rfl, hl0.mono (by omega)⟩ ?_ ?_
  · rintro i d env m' N hd ⟨l', f2, f3, f4, f5, f6, f7, f8, rfl, rfl, hl'⟩ hN
    have hi2 : i < 5 := by
      obtain ⟨z, _⟩ := List.getElem?_eq_some_iff.mp hd
      simpa [rngD] using z
    simp only [tgD, gN, List.set_cons_succ, List.set_cons_zero]
    refine turn2_ok updM_same hl' (by omega) fun l2 e3 e4 e5 e6 e7 e8 h2 => ?_
    rw [updM_over]
    exact hN _ _ ⟨l2, _, e3, e4, e5, e6, e7, e8, rfl, rfl, h2.mono (by omega)⟩
  · rintro env m' ⟨l', f2, f3, f4, f5, f6, f7, f8, rfl, rfl, hl'⟩
    simp only [r_law_16, tSq, DL.tIfS, tBinT, tBin, tV, tK, DL.tSet, tRt, tRtN, tAs, gSb, tFn, tAC, tA0, tDr, tApp, tExt, tPopA, tLstD, tTupD, tLstM, tCl, tMt, tPr, tNx, tSlD, tON, tOS, tIfD, DL.tAndT, DL.tOrT, DL.tNotT, tTru, tChainT, tNeg, tListM, List.map_cons, List.map_nil, List.length_cons, List.length_nil, List.replicate, List.cons_append, List.nil_append, List.getElem?_cons_zero, List.getElem?_cons_succ, List.set_cons_zero, List.set_cons_succ, Option.some.injEq, exists_eq_left', exists_eq_left, D.bl.injEq, D.int.injEq, D.str.injEq, D.lst.injEq, D.ref.injEq, if_true, if_false, Bool.true_eq_false, Bool.false_eq_true, startD, bodyEnds, Nat.reduceSub, Nat.reduceAdd, true_and, and_true]
    exact dropR.self rfl
end K58
namespace K58
open PySem PySem.Spec PyProof.Rows L2 DL
/-! ### the facts of the top that the walk asks for -/
set_option maxHeartbeats 4000000 in
theorem all_mk {l : PySem.W.OpenLaw} {w : World} {K : PySem.W.Frag} {h : Heap} {mg : Str → Option Value} {fa C_Barred C_ByClass C_ByKind C_Classes C_LeaveError C_Level C_NoClass C_TooMany : Addr} (X : K.In h) (G : h.Ns mainGlobals mg) (hfa : mg "law" = some (.ref fa))
    {f_X_TooMany : Addr} {od_X_TooMany an_X_TooMany : Option Addr} {sl_X_TooMany : Array (Option Value)} {oc_X_TooMany kV_X_TooMany dc_X_TooMany pm_X_TooMany cd_X_TooMany ct_X_TooMany : Value}
    {t_MOST_FOR_KINDS : Tok}
    {t_LONGEST : Tok}
    {r_RESERVED : Addr} {dd_RESERVED : Option Addr} {it_RESERVED : Array Value} {n_RESERVED : Nat} {sl_RESERVED : Array (Option Value)}
    {t_LETTERS : Tok}
    {t_MOST_ROWS : Tok}
    {r_FIRST : Addr} {dd_FIRST : Option Addr} {it_FIRST : Array Value} {n_FIRST : Nat} {sl_FIRST : Array (Option Value)}
    {tk_ki_ByKind_KIND : Tok}
    {tk_kc_ByKind_KIND : Tok}
    {tk_kc_Level_KIND : Tok}
    {f_l_pen : Addr} {od_l_pen an_l_pen : Option Addr} {sl_l_pen : Array (Option Value)} {oc_l_pen kV_l_pen dc_l_pen pm_l_pen cd_l_pen ct_l_pen : Value}
    {f_l_draw : Addr} {od_l_draw an_l_draw : Option Addr} {sl_l_draw : Array (Option Value)} {oc_l_draw kV_l_draw dc_l_draw pm_l_draw cd_l_draw ct_l_draw : Value}
    {f_l_pick : Addr} {od_l_pick an_l_pick : Option Addr} {sl_l_pick : Array (Option Value)} {oc_l_pick kV_l_pick dc_l_pick pm_l_pick cd_l_pick ct_l_pick : Value}
    {f_l_words : Addr} {od_l_words an_l_words : Option Addr} {sl_l_words : Array (Option Value)} {oc_l_words kV_l_words dc_l_words pm_l_words cd_l_words ct_l_words : Value}
    {f_l_rows : Addr} {od_l_rows an_l_rows : Option Addr} {sl_l_rows : Array (Option Value)} {oc_l_rows kV_l_rows dc_l_rows pm_l_rows cd_l_rows ct_l_rows : Value}
    {f_Level_init : Addr} {od_Level_init an_Level_init : Option Addr} {sl_Level_init : Array (Option Value)} {oc_Level_init kV_Level_init dc_Level_init pm_Level_init cd_Level_init ct_Level_init : Value}
    {f_Classes_within : Addr} {od_Classes_within an_Classes_within : Option Addr} {sl_Classes_within : Array (Option Value)} {oc_Classes_within kV_Classes_within dc_Classes_within pm_Classes_within cd_Classes_within ct_Classes_within : Value}
    {f_Classes_is_apart : Addr} {od_Classes_is_apart an_Classes_is_apart : Option Addr} {sl_Classes_is_apart : Array (Option Value)} {oc_Classes_is_apart kV_Classes_is_apart dc_Classes_is_apart pm_Classes_is_apart cd_Classes_is_apart ct_Classes_is_apart : Value}
    {f_Classes_kinds : Addr} {od_Classes_kinds an_Classes_kinds : Option Addr} {sl_Classes_kinds : Array (Option Value)} {oc_Classes_kinds kV_Classes_kinds dc_Classes_kinds pm_Classes_kinds cd_Classes_kinds ct_Classes_kinds : Value}
    {f_ByKind_init : Addr} {od_ByKind_init an_ByKind_init : Option Addr} {sl_ByKind_init : Array (Option Value)} {oc_ByKind_init kV_ByKind_init dc_ByKind_init pm_ByKind_init ct_ByKind_init : Value}
    {cc_ByKind_init cda_ByKind_init : Addr} {vcl_ByKind_init ccl_ByKind_init : Value} {vcd_ByKind_init ccd_ByKind_init : Option Addr} {vvs_ByKind_init : Array Value} {vsl_ByKind_init csl_ByKind_init : Array (Option Value)} {file_ByKind_init : Str} {tf_ByKind_init : Tok}
    {f_l_refused : Addr} {od_l_refused an_l_refused : Option Addr} {sl_l_refused : Array (Option Value)} {oc_l_refused kV_l_refused dc_l_refused pm_l_refused cd_l_refused ct_l_refused : Value}
    {f_is_word : Addr} {od_is_word an_is_word : Option Addr} {sl_is_word : Array (Option Value)} {oc_is_word kV_is_word dc_is_word pm_is_word cd_is_word ct_is_word : Value}
    {f_are_words : Addr} {od_are_words an_are_words : Option Addr} {sl_are_words : Array (Option Value)} {oc_are_words kV_are_words dc_are_words pm_are_words cd_are_words ct_are_words : Value}
    {f_row_fault : Addr} {od_row_fault an_row_fault : Option Addr} {sl_row_fault : Array (Option Value)} {oc_row_fault kV_row_fault dc_row_fault pm_row_fault cd_row_fault ct_row_fault : Value}
    {f_Classes_init : Addr} {od_Classes_init an_Classes_init : Option Addr} {sl_Classes_init : Array (Option Value)} {oc_Classes_init kV_Classes_init dc_Classes_init pm_Classes_init cd_Classes_init ct_Classes_init : Value}
    {f_Classes_made : Addr} {od_Classes_made an_Classes_made : Option Addr} {sl_Classes_made : Array (Option Value)} {oc_Classes_made kV_Classes_made dc_Classes_made pm_Classes_made cd_Classes_made ct_Classes_made : Value}
    {p_Classes_made : Addr} {rest_Classes_made : List Value}
    {f_l_above : Addr} {od_l_above an_l_above : Option Addr} {sl_l_above : Array (Option Value)} {oc_l_above kV_l_above dc_l_above pm_l_above cd_l_above ct_l_above : Value}
    {f_Classes_eq : Addr} {od_Classes_eq an_Classes_eq : Option Addr} {sl_Classes_eq : Array (Option Value)} {oc_Classes_eq kV_Classes_eq dc_Classes_eq pm_Classes_eq cd_Classes_eq ct_Classes_eq : Value}
    {f_ByKind_view : Addr} {od_ByKind_view an_ByKind_view : Option Addr} {sl_ByKind_view : Array (Option Value)} {oc_ByKind_view kV_ByKind_view dc_ByKind_view pm_ByKind_view cd_ByKind_view ct_ByKind_view : Value}
    {T_ByKind_view : Addr} {tcl_ByKind_view : Value} {tcd_ByKind_view : Option Addr} {tit_ByKind_view : Array Value} {tn_ByKind_view : Nat} {tsl_ByKind_view : Array (Option Value)}
    {f_ByKind_does : Addr} {od_ByKind_does an_ByKind_does : Option Addr} {sl_ByKind_does : Array (Option Value)} {oc_ByKind_does kV_ByKind_does dc_ByKind_does pm_ByKind_does cd_ByKind_does ct_ByKind_does : Value}
    {f_Classes_meets : Addr} {od_Classes_meets an_Classes_meets : Option Addr} {sl_Classes_meets : Array (Option Value)} {oc_Classes_meets kV_Classes_meets dc_Classes_meets pm_Classes_meets cd_Classes_meets ct_Classes_meets : Value}
    {f_ByKind_taken : Addr} {od_ByKind_taken an_ByKind_taken : Option Addr} {sl_ByKind_taken : Array (Option Value)} {oc_ByKind_taken kV_ByKind_taken dc_ByKind_taken pm_ByKind_taken cd_ByKind_taken ct_ByKind_taken : Value}
    {f_l_taken : Addr} {od_l_taken an_l_taken : Option Addr} {sl_l_taken : Array (Option Value)} {oc_l_taken kV_l_taken dc_l_taken pm_l_taken cd_l_taken ct_l_taken : Value}
    {f_ByKind_name_of : Addr} {od_ByKind_name_of an_ByKind_name_of : Option Addr} {sl_ByKind_name_of : Array (Option Value)} {oc_ByKind_name_of kV_ByKind_name_of dc_ByKind_name_of pm_ByKind_name_of cd_ByKind_name_of ct_ByKind_name_of : Value}
    {f_l_seen : Addr} {od_l_seen an_l_seen : Option Addr} {sl_l_seen : Array (Option Value)} {oc_l_seen kV_l_seen dc_l_seen pm_l_seen cd_l_seen ct_l_seen : Value}
    {f_l_kinds : Addr} {od_l_kinds an_l_kinds : Option Addr} {sl_l_kinds : Array (Option Value)} {oc_l_kinds kV_l_kinds dc_l_kinds pm_l_kinds cd_l_kinds ct_l_kinds : Value}
    {f_law : Addr} {od_law an_law : Option Addr} {sl_law : Array (Option Value)} {oc_law kV_law dc_law pm_law cd_law ct_law : Value}
    (zz_list : PySem.W.nsIn K mainGlobals "list" = some none)
    (zz_int : PySem.W.nsIn K mainGlobals "int" = some none)
    (zz_len : PySem.W.nsIn K mainGlobals "len" = some none)
    (zz_abs : PySem.W.nsIn K mainGlobals "abs" = some none)
    (zz_range : PySem.W.nsIn K mainGlobals "range" = some none)
    (zz_tuple : PySem.W.nsIn K mainGlobals "tuple" = some none)
    (zz_any : PySem.W.nsIn K mainGlobals "any" = some none)
    (zz_sorted : PySem.W.nsIn K mainGlobals "sorted" = some none)
    (zz_super : PySem.W.nsIn K mainGlobals "super" = some none)
    (zz_isinstance : PySem.W.nsIn K mainGlobals "isinstance" = some none)
    (zz_ValueError : PySem.W.nsIn K mainGlobals "ValueError" = some none)
    (zz_repr : PySem.W.nsIn K mainGlobals "repr" = some none)
    (zz_str : PySem.W.nsIn K mainGlobals "str" = some none)
    (zz_all : PySem.W.nsIn K mainGlobals "all" = some none)
    (zz_set : PySem.W.nsIn K mainGlobals "set" = some none)
    (zz_enumerate : PySem.W.nsIn K mainGlobals "enumerate" = some none)
    (aC_Barred : PySem.W.nsIn K mainGlobals "Barred" = some (some (.ref C_Barred)))
    (aC_ByClass : PySem.W.nsIn K mainGlobals "ByClass" = some (some (.ref C_ByClass)))
    (pg_ByClass : PySem.W.plainGet K C_ByClass Str.empty = true)
    (hd_ByClass : PySem.W.hasDictIn K C_ByClass = true)
    (po_ByClass : PySem.W.plainOver K C_ByClass = true)
    (sa_ByClass : PySem.W.findIn K (.ref C_ByClass) "__setattr__" = some (some (.builtin "object.__setattr__")))
    (aC_ByKind : PySem.W.nsIn K mainGlobals "ByKind" = some (some (.ref C_ByKind)))
    (pg_ByKind : PySem.W.plainGet K C_ByKind Str.empty = true)
    (hd_ByKind : PySem.W.hasDictIn K C_ByKind = true)
    (po_ByKind : PySem.W.plainOver K C_ByKind = true)
    (sa_ByKind : PySem.W.findIn K (.ref C_ByKind) "__setattr__" = some (some (.builtin "object.__setattr__")))
    (aC_Classes : PySem.W.nsIn K mainGlobals "Classes" = some (some (.ref C_Classes)))
    (pg_Classes : PySem.W.plainGet K C_Classes Str.empty = true)
    (hd_Classes : PySem.W.hasDictIn K C_Classes = true)
    (po_Classes : PySem.W.plainOver K C_Classes = true)
    (sa_Classes : PySem.W.findIn K (.ref C_Classes) "__setattr__" = some (some (.builtin "object.__setattr__")))
    (aC_LeaveError : PySem.W.nsIn K mainGlobals "LeaveError" = some (some (.ref C_LeaveError)))
    (aC_Level : PySem.W.nsIn K mainGlobals "Level" = some (some (.ref C_Level)))
    (pg_Level : PySem.W.plainGet K C_Level Str.empty = true)
    (hd_Level : PySem.W.hasDictIn K C_Level = true)
    (po_Level : PySem.W.plainOver K C_Level = true)
    (sa_Level : PySem.W.findIn K (.ref C_Level) "__setattr__" = some (some (.builtin "object.__setattr__")))
    (aC_NoClass : PySem.W.nsIn K mainGlobals "NoClass" = some (some (.ref C_NoClass)))
    (aC_TooMany : PySem.W.nsIn K mainGlobals "TooMany" = some (some (.ref C_TooMany)))
    (ha_Classes : PySem.W.findIn K (.ref C_Classes) "__class__" = some (some (.builtin "object.__class__")))
    (hn_ob : PySem.W.specialIn K (.builtin "object.__class__") "__get__" = some (some (.builtin "getset_descriptor.__get__")))
    (ht_ob : PySem.W.takesIn K (.builtin "object.__class__") = some true)
    (hm_Classes : PySem.W.mroIn K C_Classes (.type "object") = some true)
    (ha_ByKind : PySem.W.findIn K (.ref C_ByKind) "__class__" = some (some (.builtin "object.__class__")))
    (hm_ByKind : PySem.W.mroIn K C_ByKind (.type "object") = some true)
    (jn_ByKind_Level : (Value.ref C_ByKind == Value.ref C_Level) = false)
    (ki_Level : PySem.W.isClsIn K C_Level = true)
    (kt_Level : PySem.W.typeIn K (.ref C_Level) = some (.type "type"))
    (jb_ByKind_Level : PySem.W.subIn K (.ref C_ByKind) (.ref C_Level) = some true)
    (jn_ByKind_ByClass : (Value.ref C_ByKind == Value.ref C_ByClass) = false)
    (ki_ByClass : PySem.W.isClsIn K C_ByClass = true)
    (kt_ByClass : PySem.W.typeIn K (.ref C_ByClass) = some (.type "type"))
    (jb_ByKind_ByClass : PySem.W.subIn K (.ref C_ByKind) (.ref C_ByClass) = some false)
    (nf_Classes_NoneType : PySem.W.subIn K (.type "NoneType") (.ref C_Classes) = some false)
    (nf_Classes_bool : PySem.W.subIn K (.type "bool") (.ref C_Classes) = some false)
    (nf_Classes_int : PySem.W.subIn K (.type "int") (.ref C_Classes) = some false)
    (nf_Classes_str : PySem.W.subIn K (.type "str") (.ref C_Classes) = some false)
    (nf_Classes_tuple : PySem.W.subIn K (.type "tuple") (.ref C_Classes) = some false)
    (nf_Classes_list : PySem.W.subIn K (.type "list") (.ref C_Classes) = some false)
    (nf_Classes_dict : PySem.W.subIn K (.type "dict") (.ref C_Classes) = some false)
    (mo_Classes : PySem.W.mroIn K C_Classes (.type "object") = some true)
    (ne_Classes : PySem.W.findIn K (.ref C_Classes) "__ne__" = some (some (.builtin "object.__ne__")))
    (xb_TooMany : oexB K C_TooMany = true)
    (xf_TooMany_setattr : PySem.W.findIn K (.ref C_TooMany) "__setattr__" = some (some (.builtin "object.__setattr__")))
    (xc_TooMany : PySem.W.keepIn K (.ref C_TooMany) = true)
    (xf_TooMany_init : PySem.W.findIn K (.ref C_TooMany) "__init__" = some (some (.ref f_X_TooMany)))
    (fty_X_TooMany : PySem.W.typeIn K (.ref f_X_TooMany) = some (.type "function"))
    (lk_X_TooMany : K.lookup f_X_TooMany = some ⟨oc_X_TooMany, od_X_TooMany, .func (PySem.W.fnOf "__init__" "TooMany.__init__" (defArgs s_X_TooMany) (defBody s_X_TooMany) (defScope s_X_TooMany) .none kV_X_TooMany dc_X_TooMany pm_X_TooMany an_X_TooMany cd_X_TooMany ct_X_TooMany), sl_X_TooMany⟩)
    (cd2_X_TooMany : PySem.W.codeIn K cd_X_TooMany "TooMany.__init__" = true)
    (kp_X_TooMany : PySem.W.keepIn K (.ref f_X_TooMany) = true)
    (xf_TooMany_what : PySem.W.findIn K (.ref C_TooMany) "what" = some none)
    (xf_TooMany_most : PySem.W.findIn K (.ref C_TooMany) "most" = some none)
    (xs_TooMany_BaseException : PySem.W.subIn K (.ref C_TooMany) (.type "BaseException") = some true)
    (xt_TooMany : PySem.W.typeIn K (.ref C_TooMany) = some (.type "type"))
    (xs_LeaveError_BaseException : PySem.W.subIn K (.ref C_LeaveError) (.type "BaseException") = some true)
    (xh_LeaveError : PySem.W.hasDictIn K C_LeaveError = true)
    (xt_LeaveError : PySem.W.typeIn K (.ref C_LeaveError) = some (.type "type"))
    (xs_TooMany_LeaveError : PySem.W.subIn K (.ref C_TooMany) (.ref C_LeaveError) = some true)
    (xn_ob : PySem.W.specialIn K (.builtin "object.__class__") "__get__" = some (some (.builtin "getset_descriptor.__get__")))
    (xk_ob : PySem.W.takesIn K (.builtin "object.__class__") = some true)
    (xm_TooMany_object : PySem.W.mroIn K C_TooMany (.type "object") = some true)
    (xf_TooMany_getattribute : PySem.W.findIn K (.ref C_TooMany) "__getattribute__" = some (some (.builtin "BaseException.__getattribute__")))
    (xf_TooMany_getattr : PySem.W.findIn K (.ref C_TooMany) "__getattr__" = some none)
    (xh_TooMany : PySem.W.hasDictIn K C_TooMany = true)
    (xf_TooMany_class : PySem.W.findIn K (.ref C_TooMany) "__class__" = some (some (.builtin "object.__class__")))
    (xs_TooMany_NoClass : PySem.W.subIn K (.ref C_TooMany) (.ref C_NoClass) = some false)
    (xj_TooMany_NoClass : (Value.ref C_TooMany == Value.ref C_NoClass) = false)
    (xi_NoClass : PySem.W.isClsIn K C_NoClass = true)
    (xt_NoClass : PySem.W.typeIn K (.ref C_NoClass) = some (.type "type"))
    (xs_TooMany_Barred : PySem.W.subIn K (.ref C_TooMany) (.ref C_Barred) = some false)
    (xj_TooMany_Barred : (Value.ref C_TooMany == Value.ref C_Barred) = false)
    (xi_Barred : PySem.W.isClsIn K C_Barred = true)
    (xt_Barred : PySem.W.typeIn K (.ref C_Barred) = some (.type "type"))
    (xs_TooMany_ValueError : PySem.W.subIn K (.ref C_TooMany) (.type "ValueError") = some true)
    (fn_ByKind_classes : PySem.W.findIn K (.ref C_ByKind) "classes" = some none)
    (fn_Classes_above : PySem.W.findIn K (.ref C_Classes) "above" = some none)
    (fn_Classes_names : PySem.W.findIn K (.ref C_Classes) "names" = some none)
    (a_MOST_FOR_KINDS : PySem.W.nsIn K mainGlobals "MOST_FOR_KINDS" = some (some (.int 6 t_MOST_FOR_KINDS)))
    (fn_ByKind_everything : PySem.W.findIn K (.ref C_ByKind) "everything" = some none)
    (a_LONGEST : PySem.W.nsIn K mainGlobals "LONGEST" = some (some (.int 8 t_LONGEST)))
    (a_RESERVED : PySem.W.nsIn K mainGlobals "RESERVED" = some (some (.ref r_RESERVED)))
    (l_RESERVED : K.lookup r_RESERVED = some ⟨.type "tuple", dd_RESERVED, .seq it_RESERVED n_RESERVED, sl_RESERVED⟩)
    (hz_RESERVED : it_RESERVED.size ≤ sizeLine) (hv_RESERVED : StrVals c_RESERVED it_RESERVED.toList)
    (a_LETTERS : PySem.W.nsIn K mainGlobals "LETTERS" = some (some (.str "abcdefghijklmnopqrstuvwxyz" t_LETTERS)))
    (a_MOST_ROWS : PySem.W.nsIn K mainGlobals "MOST_ROWS" = some (some (.int 30 t_MOST_ROWS)))
    (a_FIRST : PySem.W.nsIn K mainGlobals "FIRST" = some (some (.ref r_FIRST)))
    (l_FIRST : K.lookup r_FIRST = some ⟨.type "tuple", dd_FIRST, .seq it_FIRST n_FIRST, sl_FIRST⟩)
    (hz_FIRST : it_FIRST.size ≤ sizeLine) (hv_FIRST : StrVals c_FIRST it_FIRST.toList)
    (fn_Classes_rows : PySem.W.findIn K (.ref C_Classes) "rows" = some none)
    (ka_ki_ByKind_KIND : PySem.W.findIn K (.ref C_ByKind) "KIND" = some (some (.str "kind" tk_ki_ByKind_KIND)))
    (kg_ki_ByKind_KIND : PySem.W.specialIn K (.str "kind" tk_ki_ByKind_KIND) "__get__" = some none)
    (rd_ByKind : PySem.W.readsIn K C_ByKind (.type "type") = true)
    (ga_ByKind : PySem.W.specialIn K (.ref C_ByKind) "__getattribute__" = some (some (.builtin "type.__getattribute__")))
    (ka_kc_ByKind_KIND : PySem.W.findCls K (.ref C_ByKind) (.type "type") "KIND" = some (.val (.str "kind" tk_kc_ByKind_KIND)))
    (rd_Level : PySem.W.readsIn K C_Level (.type "type") = true)
    (ga_Level : PySem.W.specialIn K (.ref C_Level) "__getattribute__" = some (some (.builtin "type.__getattribute__")))
    (ka_kc_Level_KIND : PySem.W.findCls K (.ref C_Level) (.type "type") "KIND" = some (.val (.str "class" tk_kc_Level_KIND)))
    (at_l_pen : PySem.W.nsIn K mainGlobals "_law_pen" = some (some (.ref f_l_pen)))
    (lk_l_pen : K.lookup f_l_pen = some ⟨oc_l_pen, od_l_pen, .func (PySem.W.fnOf "_law_pen" "_law_pen" (defArgs s_l_pen) (defBody s_l_pen) (defScope s_l_pen) .none kV_l_pen dc_l_pen pm_l_pen an_l_pen cd_l_pen ct_l_pen), sl_l_pen⟩)
    (cd2_l_pen : PySem.W.codeIn K cd_l_pen "_law_pen" = true)
    (kp_l_pen : PySem.W.keepIn K (.ref f_l_pen) = true)
    (at_l_draw : PySem.W.nsIn K mainGlobals "_law_draw" = some (some (.ref f_l_draw)))
    (lk_l_draw : K.lookup f_l_draw = some ⟨oc_l_draw, od_l_draw, .func (PySem.W.fnOf "_law_draw" "_law_draw" (defArgs s_l_draw) (defBody s_l_draw) (defScope s_l_draw) .none kV_l_draw dc_l_draw pm_l_draw an_l_draw cd_l_draw ct_l_draw), sl_l_draw⟩)
    (cd2_l_draw : PySem.W.codeIn K cd_l_draw "_law_draw" = true)
    (kp_l_draw : PySem.W.keepIn K (.ref f_l_draw) = true)
    (at_l_pick : PySem.W.nsIn K mainGlobals "_law_pick" = some (some (.ref f_l_pick)))
    (lk_l_pick : K.lookup f_l_pick = some ⟨oc_l_pick, od_l_pick, .func (PySem.W.fnOf "_law_pick" "_law_pick" (defArgs s_l_pick) (defBody s_l_pick) (defScope s_l_pick) .none kV_l_pick dc_l_pick pm_l_pick an_l_pick cd_l_pick ct_l_pick), sl_l_pick⟩)
    (cd2_l_pick : PySem.W.codeIn K cd_l_pick "_law_pick" = true)
    (kp_l_pick : PySem.W.keepIn K (.ref f_l_pick) = true)
    (at_l_words : PySem.W.nsIn K mainGlobals "_law_words" = some (some (.ref f_l_words)))
    (lk_l_words : K.lookup f_l_words = some ⟨oc_l_words, od_l_words, .func (PySem.W.fnOf "_law_words" "_law_words" (defArgs s_l_words) (defBody s_l_words) (defScope s_l_words) .none kV_l_words dc_l_words pm_l_words an_l_words cd_l_words ct_l_words), sl_l_words⟩)
    (cd2_l_words : PySem.W.codeIn K cd_l_words "_law_words" = true)
    (kp_l_words : PySem.W.keepIn K (.ref f_l_words) = true)
    (at_l_rows : PySem.W.nsIn K mainGlobals "_law_rows" = some (some (.ref f_l_rows)))
    (lk_l_rows : K.lookup f_l_rows = some ⟨oc_l_rows, od_l_rows, .func (PySem.W.fnOf "_law_rows" "_law_rows" (defArgs s_l_rows) (defBody s_l_rows) (defScope s_l_rows) .none kV_l_rows dc_l_rows pm_l_rows an_l_rows cd_l_rows ct_l_rows), sl_l_rows⟩)
    (cd2_l_rows : PySem.W.codeIn K cd_l_rows "_law_rows" = true)
    (kp_l_rows : PySem.W.keepIn K (.ref f_l_rows) = true)
    (at_Level_init : PySem.W.findIn K (.ref C_Level) "__init__" = some (some (.ref f_Level_init)))
    (fi_Level_init : PySem.W.isFn K (.ref f_Level_init) = true)
    (lk_Level_init : K.lookup f_Level_init = some ⟨oc_Level_init, od_Level_init, .func (PySem.W.fnOf "__init__" "Level.__init__" (defArgs s_Level_init) (defBody s_Level_init) (defScope s_Level_init) .none kV_Level_init dc_Level_init pm_Level_init an_Level_init cd_Level_init ct_Level_init), sl_Level_init⟩)
    (cd2_Level_init : PySem.W.codeIn K cd_Level_init "Level.__init__" = true)
    (kp_Level_init : PySem.W.keepIn K (.ref f_Level_init) = true)
    (mk2_Level : PySem.W.makesIn K C_Level = true)
    (kc_Level : PySem.W.keepIn K (.ref C_Level) = true)
    (at_Classes_within : PySem.W.findIn K (.ref C_Classes) "within" = some (some (.ref f_Classes_within)))
    (fi_Classes_within : PySem.W.isFn K (.ref f_Classes_within) = true)
    (lk_Classes_within : K.lookup f_Classes_within = some ⟨oc_Classes_within, od_Classes_within, .func (PySem.W.fnOf "within" "Classes.within" (defArgs s_Classes_within) (defBody s_Classes_within) (defScope s_Classes_within) .none kV_Classes_within dc_Classes_within pm_Classes_within an_Classes_within cd_Classes_within ct_Classes_within), sl_Classes_within⟩)
    (cd2_Classes_within : PySem.W.codeIn K cd_Classes_within "Classes.within" = true)
    (kp_Classes_within : PySem.W.keepIn K (.ref f_Classes_within) = true)
    (at_Classes_is_apart : PySem.W.findIn K (.ref C_Classes) "is_apart" = some (some (.ref f_Classes_is_apart)))
    (fi_Classes_is_apart : PySem.W.isFn K (.ref f_Classes_is_apart) = true)
    (lk_Classes_is_apart : K.lookup f_Classes_is_apart = some ⟨oc_Classes_is_apart, od_Classes_is_apart, .func (PySem.W.fnOf "is_apart" "Classes.is_apart" (defArgs s_Classes_is_apart) (defBody s_Classes_is_apart) (defScope s_Classes_is_apart) .none kV_Classes_is_apart dc_Classes_is_apart pm_Classes_is_apart an_Classes_is_apart cd_Classes_is_apart ct_Classes_is_apart), sl_Classes_is_apart⟩)
    (cd2_Classes_is_apart : PySem.W.codeIn K cd_Classes_is_apart "Classes.is_apart" = true)
    (kp_Classes_is_apart : PySem.W.keepIn K (.ref f_Classes_is_apart) = true)
    (at_Classes_kinds : PySem.W.findIn K (.ref C_Classes) "kinds" = some (some (.ref f_Classes_kinds)))
    (fi_Classes_kinds : PySem.W.isFn K (.ref f_Classes_kinds) = true)
    (lk_Classes_kinds : K.lookup f_Classes_kinds = some ⟨oc_Classes_kinds, od_Classes_kinds, .func (PySem.W.fnOf "kinds" "Classes.kinds" (defArgs s_Classes_kinds) (defBody s_Classes_kinds) (defScope s_Classes_kinds) .none kV_Classes_kinds dc_Classes_kinds pm_Classes_kinds an_Classes_kinds cd_Classes_kinds ct_Classes_kinds), sl_Classes_kinds⟩)
    (cd2_Classes_kinds : PySem.W.codeIn K cd_Classes_kinds "Classes.kinds" = true)
    (kp_Classes_kinds : PySem.W.keepIn K (.ref f_Classes_kinds) = true)
    (at_ByKind_init : PySem.W.findIn K (.ref C_ByKind) "__init__" = some (some (.ref f_ByKind_init)))
    (fi_ByKind_init : PySem.W.isFn K (.ref f_ByKind_init) = true)
    (lk_ByKind_init : K.lookup f_ByKind_init = some ⟨oc_ByKind_init, od_ByKind_init, .func (PySem.W.ksFn "__init__" "ByKind.__init__" (defArgs s_ByKind_init) (defBody s_ByKind_init) (defScope s_ByKind_init) .none kV_ByKind_init dc_ByKind_init pm_ByKind_init an_ByKind_init (.ref cda_ByKind_init) ct_ByKind_init cc_ByKind_init), sl_ByKind_init⟩)
    (cd2_ByKind_init : PySem.W.codeIn K (.ref cda_ByKind_init) "ByKind.__init__" = true)
    (vl_ByKind_init : K.lookup cda_ByKind_init = some ⟨vcl_ByKind_init, vcd_ByKind_init, .fields vvs_ByKind_init, vsl_ByKind_init⟩)
    (v2_ByKind_init : vvs_ByKind_init[2]? = some (.str file_ByKind_init tf_ByKind_init))
    (cl2_ByKind_init : K.lookup cc_ByKind_init = some ⟨ccl_ByKind_init, ccd_ByKind_init, .cell (some (.ref C_ByKind)), csl_ByKind_init⟩)
    (fl_ByKind_init : ((l.prog.main.file : Str) == file_ByKind_init) = true)
    (tp_ByKind_init : (l.prog.main.scope.names.lookup ("super" : Str)).isSome = false)
    (ic_ByKind_init : PySem.W.isClsIn K C_ByKind = true)
    (ms_ByKind_init : PySem.W.mroIn K C_ByKind (.ref C_ByKind) = some true)
    (ks_ByKind_init : PySem.W.ks_superIn K C_ByKind C_ByKind "__init__" = some (some (.ref f_Level_init)))
    (fn_ByKind_init : PySem.W.fnIn K f_Level_init = true)
    (oq_ByKind_init : PySem.W.nsIn K cStatics "thirdparty.any" = some none)
    (kp_ByKind_init : PySem.W.keepIn K (.ref f_ByKind_init) = true)
    (mk2_ByKind : PySem.W.makesIn K C_ByKind = true)
    (kc_ByKind : PySem.W.keepIn K (.ref C_ByKind) = true)
    (at_l_refused : PySem.W.nsIn K mainGlobals "_law_refused" = some (some (.ref f_l_refused)))
    (lk_l_refused : K.lookup f_l_refused = some ⟨oc_l_refused, od_l_refused, .func (PySem.W.fnOf "_law_refused" "_law_refused" (defArgs s_l_refused) (defBody s_l_refused) (defScope s_l_refused) .none kV_l_refused dc_l_refused pm_l_refused an_l_refused cd_l_refused ct_l_refused), sl_l_refused⟩)
    (cd2_l_refused : PySem.W.codeIn K cd_l_refused "_law_refused" = true)
    (kp_l_refused : PySem.W.keepIn K (.ref f_l_refused) = true)
    (at_is_word : PySem.W.nsIn K mainGlobals "is_word" = some (some (.ref f_is_word)))
    (lk_is_word : K.lookup f_is_word = some ⟨oc_is_word, od_is_word, .func (PySem.W.fnOf "is_word" "is_word" (defArgs s_is_word) (defBody s_is_word) (defScope s_is_word) .none kV_is_word dc_is_word pm_is_word an_is_word cd_is_word ct_is_word), sl_is_word⟩)
    (cd2_is_word : PySem.W.codeIn K cd_is_word "is_word" = true)
    (kp_is_word : PySem.W.keepIn K (.ref f_is_word) = true)
    (at_are_words : PySem.W.nsIn K mainGlobals "are_words" = some (some (.ref f_are_words)))
    (lk_are_words : K.lookup f_are_words = some ⟨oc_are_words, od_are_words, .func (PySem.W.fnOf "are_words" "are_words" (defArgs s_are_words) (defBody s_are_words) (defScope s_are_words) .none kV_are_words dc_are_words pm_are_words an_are_words cd_are_words ct_are_words), sl_are_words⟩)
    (cd2_are_words : PySem.W.codeIn K cd_are_words "are_words" = true)
    (kp_are_words : PySem.W.keepIn K (.ref f_are_words) = true)
    (at_row_fault : PySem.W.nsIn K mainGlobals "row_fault" = some (some (.ref f_row_fault)))
    (lk_row_fault : K.lookup f_row_fault = some ⟨oc_row_fault, od_row_fault, .func (PySem.W.fnOf "row_fault" "row_fault" (defArgs s_row_fault) (defBody s_row_fault) (defScope s_row_fault) .none kV_row_fault dc_row_fault pm_row_fault an_row_fault cd_row_fault ct_row_fault), sl_row_fault⟩)
    (cd2_row_fault : PySem.W.codeIn K cd_row_fault "row_fault" = true)
    (kp_row_fault : PySem.W.keepIn K (.ref f_row_fault) = true)
    (at_Classes_init : PySem.W.findIn K (.ref C_Classes) "__init__" = some (some (.ref f_Classes_init)))
    (fi_Classes_init : PySem.W.isFn K (.ref f_Classes_init) = true)
    (lk_Classes_init : K.lookup f_Classes_init = some ⟨oc_Classes_init, od_Classes_init, .func (PySem.W.fnOf "__init__" "Classes.__init__" (defArgs s_Classes_init) (defBody s_Classes_init) (defScope s_Classes_init) .none kV_Classes_init dc_Classes_init pm_Classes_init an_Classes_init cd_Classes_init ct_Classes_init), sl_Classes_init⟩)
    (cd2_Classes_init : PySem.W.codeIn K cd_Classes_init "Classes.__init__" = true)
    (kp_Classes_init : PySem.W.keepIn K (.ref f_Classes_init) = true)
    (mk2_Classes : PySem.W.makesIn K C_Classes = true)
    (kc_Classes : PySem.W.keepIn K (.ref C_Classes) = true)
    (rd_Classes : PySem.W.readsIn K C_Classes (.type "type") = true)
    (ga_Classes : PySem.W.specialIn K (.ref C_Classes) "__getattribute__" = some (some (.builtin "type.__getattribute__")))
    (at_Classes_made : PySem.W.findCls K (.ref C_Classes) (.type "type") "made" = some (.get (.builtin "classmethod.__get__") (.ref p_Classes_made) .none (.ref C_Classes)))
    (rc_Classes_made : PySem.W.recIn K p_Classes_made "classmethod" = some (.ref f_Classes_made :: rest_Classes_made))
    (fi_Classes_made : PySem.W.fnIn K f_Classes_made = true)
    (lk_Classes_made : K.lookup f_Classes_made = some ⟨oc_Classes_made, od_Classes_made, .func (PySem.W.fnOf "made" "Classes.made" (defArgs s_Classes_made) (defBody s_Classes_made) (defScope s_Classes_made) .none kV_Classes_made dc_Classes_made pm_Classes_made an_Classes_made cd_Classes_made ct_Classes_made), sl_Classes_made⟩)
    (cd2_Classes_made : PySem.W.codeIn K cd_Classes_made "Classes.made" = true)
    (kp_Classes_made : PySem.W.keepIn K (.ref f_Classes_made) = true)
    (at_l_above : PySem.W.nsIn K mainGlobals "_law_above" = some (some (.ref f_l_above)))
    (lk_l_above : K.lookup f_l_above = some ⟨oc_l_above, od_l_above, .func (PySem.W.fnOf "_law_above" "_law_above" (defArgs s_l_above) (defBody s_l_above) (defScope s_l_above) .none kV_l_above dc_l_above pm_l_above an_l_above cd_l_above ct_l_above), sl_l_above⟩)
    (cd2_l_above : PySem.W.codeIn K cd_l_above "_law_above" = true)
    (kp_l_above : PySem.W.keepIn K (.ref f_l_above) = true)
    (at_Classes_eq : PySem.W.findIn K (.ref C_Classes) "__eq__" = some (some (.ref f_Classes_eq)))
    (fi_Classes_eq : PySem.W.isFn K (.ref f_Classes_eq) = true)
    (lk_Classes_eq : K.lookup f_Classes_eq = some ⟨oc_Classes_eq, od_Classes_eq, .func (PySem.W.fnOf "__eq__" "Classes.__eq__" (defArgs s_Classes_eq) (defBody s_Classes_eq) (defScope s_Classes_eq) .none kV_Classes_eq dc_Classes_eq pm_Classes_eq an_Classes_eq cd_Classes_eq ct_Classes_eq), sl_Classes_eq⟩)
    (cd2_Classes_eq : PySem.W.codeIn K cd_Classes_eq "Classes.__eq__" = true)
    (kp_Classes_eq : PySem.W.keepIn K (.ref f_Classes_eq) = true)
    (at_ByKind_view : PySem.W.findIn K (.ref C_ByKind) "view" = some (some (.ref f_ByKind_view)))
    (fi_ByKind_view : PySem.W.isFn K (.ref f_ByKind_view) = true)
    (lk_ByKind_view : K.lookup f_ByKind_view = some ⟨oc_ByKind_view, od_ByKind_view, .func (PySem.W.fnOf "view" "ByKind.view" (defArgs s_ByKind_view) (defBody s_ByKind_view) (defScope s_ByKind_view) (.ref T_ByKind_view) kV_ByKind_view dc_ByKind_view pm_ByKind_view an_ByKind_view cd_ByKind_view ct_ByKind_view), sl_ByKind_view⟩)
    (cd2_ByKind_view : PySem.W.codeIn K cd_ByKind_view "ByKind.view" = true)
    (kp_ByKind_view : PySem.W.keepIn K (.ref f_ByKind_view) = true)
    (lt_ByKind_view : K.lookup T_ByKind_view = some ⟨tcl_ByKind_view, tcd_ByKind_view, .seq tit_ByKind_view tn_ByKind_view, tsl_ByKind_view⟩)
    (tv_ByKind_view : Vals [V.non] tit_ByKind_view.toList)
    (at_ByKind_does : PySem.W.findIn K (.ref C_ByKind) "does" = some (some (.ref f_ByKind_does)))
    (fi_ByKind_does : PySem.W.isFn K (.ref f_ByKind_does) = true)
    (lk_ByKind_does : K.lookup f_ByKind_does = some ⟨oc_ByKind_does, od_ByKind_does, .func (PySem.W.fnOf "does" "ByKind.does" (defArgs s_ByKind_does) (defBody s_ByKind_does) (defScope s_ByKind_does) .none kV_ByKind_does dc_ByKind_does pm_ByKind_does an_ByKind_does cd_ByKind_does ct_ByKind_does), sl_ByKind_does⟩)
    (cd2_ByKind_does : PySem.W.codeIn K cd_ByKind_does "ByKind.does" = true)
    (kp_ByKind_does : PySem.W.keepIn K (.ref f_ByKind_does) = true)
    (at_Classes_meets : PySem.W.findIn K (.ref C_Classes) "meets" = some (some (.ref f_Classes_meets)))
    (fi_Classes_meets : PySem.W.isFn K (.ref f_Classes_meets) = true)
    (lk_Classes_meets : K.lookup f_Classes_meets = some ⟨oc_Classes_meets, od_Classes_meets, .func (PySem.W.fnOf "meets" "Classes.meets" (defArgs s_Classes_meets) (defBody s_Classes_meets) (defScope s_Classes_meets) .none kV_Classes_meets dc_Classes_meets pm_Classes_meets an_Classes_meets cd_Classes_meets ct_Classes_meets), sl_Classes_meets⟩)
    (cd2_Classes_meets : PySem.W.codeIn K cd_Classes_meets "Classes.meets" = true)
    (kp_Classes_meets : PySem.W.keepIn K (.ref f_Classes_meets) = true)
    (at_ByKind_taken : PySem.W.findIn K (.ref C_ByKind) "taken" = some (some (.ref f_ByKind_taken)))
    (fi_ByKind_taken : PySem.W.isFn K (.ref f_ByKind_taken) = true)
    (lk_ByKind_taken : K.lookup f_ByKind_taken = some ⟨oc_ByKind_taken, od_ByKind_taken, .func (PySem.W.fnOf "taken" "ByKind.taken" (defArgs s_ByKind_taken) (defBody s_ByKind_taken) (defScope s_ByKind_taken) .none kV_ByKind_taken dc_ByKind_taken pm_ByKind_taken an_ByKind_taken cd_ByKind_taken ct_ByKind_taken), sl_ByKind_taken⟩)
    (cd2_ByKind_taken : PySem.W.codeIn K cd_ByKind_taken "ByKind.taken" = true)
    (kp_ByKind_taken : PySem.W.keepIn K (.ref f_ByKind_taken) = true)
    (at_l_taken : PySem.W.nsIn K mainGlobals "_law_taken" = some (some (.ref f_l_taken)))
    (lk_l_taken : K.lookup f_l_taken = some ⟨oc_l_taken, od_l_taken, .func (PySem.W.fnOf "_law_taken" "_law_taken" (defArgs s_l_taken) (defBody s_l_taken) (defScope s_l_taken) .none kV_l_taken dc_l_taken pm_l_taken an_l_taken cd_l_taken ct_l_taken), sl_l_taken⟩)
    (cd2_l_taken : PySem.W.codeIn K cd_l_taken "_law_taken" = true)
    (kp_l_taken : PySem.W.keepIn K (.ref f_l_taken) = true)
    (at_ByKind_name_of : PySem.W.findIn K (.ref C_ByKind) "name_of" = some (some (.ref f_ByKind_name_of)))
    (fi_ByKind_name_of : PySem.W.isFn K (.ref f_ByKind_name_of) = true)
    (lk_ByKind_name_of : K.lookup f_ByKind_name_of = some ⟨oc_ByKind_name_of, od_ByKind_name_of, .func (PySem.W.fnOf "name_of" "ByKind.name_of" (defArgs s_ByKind_name_of) (defBody s_ByKind_name_of) (defScope s_ByKind_name_of) .none kV_ByKind_name_of dc_ByKind_name_of pm_ByKind_name_of an_ByKind_name_of cd_ByKind_name_of ct_ByKind_name_of), sl_ByKind_name_of⟩)
    (cd2_ByKind_name_of : PySem.W.codeIn K cd_ByKind_name_of "ByKind.name_of" = true)
    (kp_ByKind_name_of : PySem.W.keepIn K (.ref f_ByKind_name_of) = true)
    (at_l_seen : PySem.W.nsIn K mainGlobals "_law_seen" = some (some (.ref f_l_seen)))
    (lk_l_seen : K.lookup f_l_seen = some ⟨oc_l_seen, od_l_seen, .func (PySem.W.fnOf "_law_seen" "_law_seen" (defArgs s_l_seen) (defBody s_l_seen) (defScope s_l_seen) .none kV_l_seen dc_l_seen pm_l_seen an_l_seen cd_l_seen ct_l_seen), sl_l_seen⟩)
    (cd2_l_seen : PySem.W.codeIn K cd_l_seen "_law_seen" = true)
    (kp_l_seen : PySem.W.keepIn K (.ref f_l_seen) = true)
    (at_l_kinds : PySem.W.nsIn K mainGlobals "_law_kinds" = some (some (.ref f_l_kinds)))
    (lk_l_kinds : K.lookup f_l_kinds = some ⟨oc_l_kinds, od_l_kinds, .func (PySem.W.fnOf "_law_kinds" "_law_kinds" (defArgs s_l_kinds) (defBody s_l_kinds) (defScope s_l_kinds) .none kV_l_kinds dc_l_kinds pm_l_kinds an_l_kinds cd_l_kinds ct_l_kinds), sl_l_kinds⟩)
    (cd2_l_kinds : PySem.W.codeIn K cd_l_kinds "_law_kinds" = true)
    (kp_l_kinds : PySem.W.keepIn K (.ref f_l_kinds) = true)
    (at_law : PySem.W.nsIn K mainGlobals "law" = some (some (.ref f_law)))
    (lk_law : K.lookup f_law = some ⟨oc_law, od_law, .func (PySem.W.fnOf "law" "law" (defArgs s_law) (defBody s_law) (defScope s_law) .none kV_law dc_law pm_law an_law cd_law ct_law), sl_law⟩)
    (cd2_law : PySem.W.codeIn K cd_law "law" = true)
    (kp_law : PySem.W.keepIn K (.ref f_law) = true)
    : ∀ base : Heap, K.In base → base.Ns mainGlobals mg → FnG l.prog w K mg base CX0 7 fa (liftSp K (fun ds m R => ∀ C_Barred : Addr, ∀ C_ByClass : Addr, ∀ C_ByKind : Addr, ∀ C_Classes : Addr, ∀ C_LeaveError : Addr, ∀ C_Level : Addr, ∀ C_NoClass : Addr, ∀ C_TooMany : Addr, (sp_law C_Barred C_ByClass C_ByKind C_Classes C_LeaveError C_Level C_NoClass C_TooMany) ds m R)) := by
  intro base _ _
  have z_list := PySem.W.mg_none_of X G zz_list
  have z_int := PySem.W.mg_none_of X G zz_int
  have z_len := PySem.W.mg_none_of X G zz_len
  have z_abs := PySem.W.mg_none_of X G zz_abs
  have z_range := PySem.W.mg_none_of X G zz_range
  have z_tuple := PySem.W.mg_none_of X G zz_tuple
  have z_any := PySem.W.mg_none_of X G zz_any
  have z_sorted := PySem.W.mg_none_of X G zz_sorted
  have z_super := PySem.W.mg_none_of X G zz_super
  have z_isinstance := PySem.W.mg_none_of X G zz_isinstance
  have z_ValueError := PySem.W.mg_none_of X G zz_ValueError
  have z_repr := PySem.W.mg_none_of X G zz_repr
  have z_str := PySem.W.mg_none_of X G zz_str
  have z_all := PySem.W.mg_none_of X G zz_all
  have z_set := PySem.W.mg_none_of X G zz_set
  have z_enumerate := PySem.W.mg_none_of X G zz_enumerate
  have mg_Barred := PySem.W.mg_of X G aC_Barred
  have g_Barred : GV K mg "Barred" (.ref C_Barred) := gv_ref mg_Barred
  have mg_ByClass := PySem.W.mg_of X G aC_ByClass
  have g_ByClass : GV K mg "ByClass" (.ref C_ByClass) := gv_ref mg_ByClass
  have cl_ByClass : Cls K C_ByClass := ⟨pg_ByClass, hd_ByClass, po_ByClass, sa_ByClass⟩
  have mg_ByKind := PySem.W.mg_of X G aC_ByKind
  have cl_ByKind : Cls K C_ByKind := ⟨pg_ByKind, hd_ByKind, po_ByKind, sa_ByKind⟩
  have mg_Classes := PySem.W.mg_of X G aC_Classes
  have g_Classes : GV K mg "Classes" (.ref C_Classes) := gv_ref mg_Classes
  have cl_Classes : Cls K C_Classes := ⟨pg_Classes, hd_Classes, po_Classes, sa_Classes⟩
  have mg_LeaveError := PySem.W.mg_of X G aC_LeaveError
  have mg_Level := PySem.W.mg_of X G aC_Level
  have g_Level : GV K mg "Level" (.ref C_Level) := gv_ref mg_Level
  have cl_Level : Cls K C_Level := ⟨pg_Level, hd_Level, po_Level, sa_Level⟩
  have mg_NoClass := PySem.W.mg_of X G aC_NoClass
  have g_NoClass : GV K mg "NoClass" (.ref C_NoClass) := gv_ref mg_NoClass
  have mg_TooMany := PySem.W.mg_of X G aC_TooMany
  have g_TooMany : GV K mg "TooMany" (.ref C_TooMany) := gv_ref mg_TooMany
  have nf_Classes : NF K C_Classes := by
    intro T hT
    simp only [List.mem_cons, List.not_mem_nil, or_false] at hT
    rcases hT with rfl | rfl | rfl | rfl | rfl | rfl | rfl
    · exact nf_Classes_NoneType
    · exact nf_Classes_bool
    · exact nf_Classes_int
    · exact nf_Classes_str
    · exact nf_Classes_tuple
    · exact nf_Classes_list
    · exact nf_Classes_dict
  have js_Classes : JOk K (JS (.inr C_Classes) [(C_Classes, true)]) := js_ok (by
    intro e he
    simp only [List.mem_cons, List.not_mem_nil, or_false] at he
    rcases he with rfl
    · exact ⟨kit_self, ⟨cl_Classes, ha_Classes, hn_ob, ht_ob, hm_Classes⟩⟩)
  have js_Level : JOk K (JS (.inr C_Level) [(C_ByKind, true)]) := js_ok (by
    intro e he
    simp only [List.mem_cons, List.not_mem_nil, or_false] at he
    rcases he with rfl
    · exact ⟨(kit_own jn_ByKind_Level ki_Level kt_Level jb_ByKind_Level), ⟨cl_ByKind, ha_ByKind, hn_ob, ht_ob, hm_ByKind⟩⟩)
  have js_ByClass : JOk K (JS (.inr C_ByClass) [(C_ByKind, false)]) := js_ok (by
    intro e he
    simp only [List.mem_cons, List.not_mem_nil, or_false] at he
    rcases he with rfl
    · exact ⟨(kit_own jn_ByKind_ByClass ki_ByClass kt_ByClass jb_ByKind_ByClass), ⟨cl_ByKind, ha_ByKind, hn_ob, ht_ob, hm_ByKind⟩⟩)
  have xm_TooMany : MkX l.prog w K mg base C_TooMany 1 ["what", "most"] := K58.x_TooMany (oexC_of xb_TooMany xf_TooMany_setattr xs_TooMany_BaseException xt_TooMany xc_TooMany) xf_TooMany_what xf_TooMany_most (fun_mk (st := s_X_TooMany) lk_X_TooMany cd2_X_TooMany kp_X_TooMany) xf_TooMany_init fty_X_TooMany
  have jx_LeaveError : JX K (.ref C_LeaveError) (jxT [C_TooMany]) := jx_ok (by
    intro C hC
    simp only [List.mem_cons, List.not_mem_nil, or_false] at hC
    rcases hC with rfl
    · exact PySem.W.exm_ref xs_LeaveError_BaseException xh_LeaveError xt_LeaveError xs_TooMany_LeaveError)
  have jq_TooMany : JI K (.ref C_TooMany) (jbT [(C_TooMany, true)]) := ji_ok (by
    intro e he
    simp only [List.mem_cons, List.not_mem_nil, or_false] at he
    rcases he with rfl
    · exact ⟨⟨xf_TooMany_getattribute, xf_TooMany_getattr, xs_TooMany_BaseException, xh_TooMany, xf_TooMany_class, xn_ob, xk_ob, xm_TooMany_object⟩, kit_self⟩)
  have jq_t_NoClass_Barred : JI K (.tup [(.ref C_NoClass), (.ref C_Barred)]) (jbT [(C_TooMany, false)]) := ji_ok (by
    intro e he
    simp only [List.mem_cons, List.not_mem_nil, or_false] at he
    rcases he with rfl
    · exact ⟨⟨xf_TooMany_getattribute, xf_TooMany_getattr, xs_TooMany_BaseException, xh_TooMany, xf_TooMany_class, xn_ob, xk_ob, xm_TooMany_object⟩, (kany_no (kit_own xj_TooMany_NoClass xi_NoClass xt_NoClass xs_TooMany_NoClass) (kany_no (kit_own xj_TooMany_Barred xi_Barred xt_Barred xs_TooMany_Barred) kany_nil))⟩)
  have jq_ValueError : JI K (.ty "ValueError") (jbT [(C_TooMany, true)]) := ji_ok (by
    intro e he
    simp only [List.mem_cons, List.not_mem_nil, or_false] at he
    rcases he with rfl
    · exact ⟨⟨xf_TooMany_getattribute, xf_TooMany_getattr, xs_TooMany_BaseException, xh_TooMany, xf_TooMany_class, xn_ob, xk_ob, xm_TooMany_object⟩, (kit_bty rfl (by decide +kernel) xs_TooMany_ValueError)⟩)
  have xq : XF K (xfT [(C_TooMany, "what"), (C_TooMany, "most")]) := xf_ok (by
    intro e he
    simp only [List.mem_cons, List.not_mem_nil, or_false] at he
    rcases he with rfl | rfl
    · exact ⟨⟨xf_TooMany_getattribute, xf_TooMany_getattr, xs_TooMany_BaseException, xh_TooMany⟩, xf_TooMany_what⟩
    · exact ⟨⟨xf_TooMany_getattribute, xf_TooMany_getattr, xs_TooMany_BaseException, xh_TooMany⟩, xf_TooMany_most⟩)
  have n_ByKind_classes : NoAttr K C_ByKind "classes" := fn_ByKind_classes
  have n_Classes_above : NoAttr K C_Classes "above" := fn_Classes_above
  have n_Classes_names : NoAttr K C_Classes "names" := fn_Classes_names
  have g_MOST_FOR_KINDS : GV K mg "MOST_FOR_KINDS" (.int 6) := gv_int (PySem.W.mg_of X G a_MOST_FOR_KINDS)
  have n_ByKind_everything : NoAttr K C_ByKind "everything" := fn_ByKind_everything
  have g_LONGEST : GV K mg "LONGEST" (.int 8) := gv_int (PySem.W.mg_of X G a_LONGEST)
  have g_RESERVED : GV K mg "RESERVED" (.tup (c_RESERVED.map .str)) := gv_strs (PySem.W.mg_of X G a_RESERVED) l_RESERVED hz_RESERVED hv_RESERVED
  have g_LETTERS : GV K mg "LETTERS" (.str "abcdefghijklmnopqrstuvwxyz") := gv_str (PySem.W.mg_of X G a_LETTERS)
  have g_MOST_ROWS : GV K mg "MOST_ROWS" (.int 30) := gv_int (PySem.W.mg_of X G a_MOST_ROWS)
  have g_FIRST : GV K mg "FIRST" (.tup (c_FIRST.map .str)) := gv_strs (PySem.W.mg_of X G a_FIRST) l_FIRST hz_FIRST hv_FIRST
  have n_Classes_rows : NoAttr K C_Classes "rows" := fn_Classes_rows
  have ki_ByKind_KIND : KonD K C_ByKind "KIND" (.str "kind") := ⟨.str "kind", _, ⟨ka_ki_ByKind_KIND, ⟨_, rfl⟩, kg_ki_ByKind_KIND, by decide +kernel⟩, fun m H => by simp only [Rep]⟩
  have kc_ByKind_KIND : CvlD K C_ByKind "KIND" (.str "kind") := ⟨_, .str "kind", _, ⟨rd_ByKind, ga_ByKind⟩, ⟨ka_kc_ByKind_KIND, ⟨_, rfl⟩⟩, fun m H => by simp only [Rep]⟩
  have kc_Level_KIND : CvlD K C_Level "KIND" (.str "class") := ⟨_, .str "class", _, ⟨rd_Level, ga_Level⟩, ⟨ka_kc_Level_KIND, ⟨_, rfl⟩⟩, fun m H => by simp only [Rep]⟩
  have F_l_pen := fun_mk (st := s_l_pen) lk_l_pen cd2_l_pen kp_l_pen
  have c_l_pen : CalW l.prog w K mg base "_law_pen" 1 sp_l_pen := ⟨_, PySem.W.mg_of X G at_l_pen, kp_l_pen, K58.f_l_pen (P := l.prog) (w := w) (base := base) z_list F_l_pen⟩
  have F_l_draw := fun_mk (st := s_l_draw) lk_l_draw cd2_l_draw kp_l_draw
  have c_l_draw : CalW l.prog w K mg base "_law_draw" 1 sp_l_draw := ⟨_, PySem.W.mg_of X G at_l_draw, kp_l_draw, K58.f_l_draw (P := l.prog) (w := w) (base := base) z_int z_len z_abs F_l_draw⟩
  have F_l_pick := fun_mk (st := s_l_pick) lk_l_pick cd2_l_pick kp_l_pick
  have c_l_pick : CalW l.prog w K mg base "_law_pick" 2 sp_l_pick := ⟨_, PySem.W.mg_of X G at_l_pick, kp_l_pick, K58.f_l_pick (P := l.prog) (w := w) (base := base) c_l_draw z_len F_l_pick⟩
  have F_l_words := fun_mk (st := s_l_words) lk_l_words cd2_l_words kp_l_words
  have c_l_words : CalW l.prog w K mg base "_law_words" 3 sp_l_words := ⟨_, PySem.W.mg_of X G at_l_words, kp_l_words, K58.f_l_words (P := l.prog) (w := w) (base := base) c_l_draw z_range c_l_pick z_len F_l_words⟩
  have F_l_rows := fun_mk (st := s_l_rows) lk_l_rows cd2_l_rows kp_l_rows
  have c_l_rows : CalW l.prog w K mg base "_law_rows" 3 sp_l_rows := ⟨_, PySem.W.mg_of X G at_l_rows, kp_l_rows, K58.f_l_rows (P := l.prog) (w := w) (base := base) c_l_pick c_l_draw z_tuple F_l_rows⟩
  have F_Level_init := fun_mk (st := s_Level_init) lk_Level_init cd2_Level_init kp_Level_init
  have mk_Level : CalCW l.prog w K mg base C_Level 1 (sp_Level_init C_ByKind) := ⟨_, ⟨mk2_Level, at_Level_init, fi_Level_init, kc_Level⟩, K58.f_Level_init (P := l.prog) (w := w) (base := base) cl_ByKind n_ByKind_classes F_Level_init⟩
  have F_Classes_within := fun_mk (st := s_Classes_within) lk_Classes_within cd2_Classes_within kp_Classes_within
  have m_Classes_within : CalMW l.prog w K mg base C_Classes "within" 1 (sp_Classes_within C_Classes) := ⟨_, ⟨at_Classes_within, fi_Classes_within, kp_Classes_within⟩, K58.f_Classes_within (P := l.prog) (w := w) (base := base) cl_Classes n_Classes_above F_Classes_within⟩
  have F_Classes_is_apart := fun_mk (st := s_Classes_is_apart) lk_Classes_is_apart cd2_Classes_is_apart kp_Classes_is_apart
  have m_Classes_is_apart : CalMW l.prog w K mg base C_Classes "is_apart" 2 (sp_Classes_is_apart C_Classes) := ⟨_, ⟨at_Classes_is_apart, fi_Classes_is_apart, kp_Classes_is_apart⟩, K58.f_Classes_is_apart (P := l.prog) (w := w) (base := base) cl_Classes m_Classes_within z_any F_Classes_is_apart⟩
  have F_Classes_kinds := fun_mk (st := s_Classes_kinds) lk_Classes_kinds cd2_Classes_kinds kp_Classes_kinds
  have mx_Classes_kinds : CalMXW l.prog w K mg base C_Classes "kinds" 3 (sp_Classes_kinds C_Classes C_TooMany) := ⟨_, ⟨at_Classes_kinds, fi_Classes_kinds, kp_Classes_kinds⟩, K58.f_Classes_kinds (P := l.prog) (w := w) (base := base) cl_Classes n_Classes_names z_len g_MOST_FOR_KINDS xm_TooMany mg_TooMany z_sorted m_Classes_is_apart z_tuple F_Classes_kinds⟩
  have F_ByKind_init : FunS K "__init__" "ByKind.__init__" s_ByKind_init C_ByKind file_ByKind_init f_ByKind_init cc_ByKind_init cda_ByKind_init _ := ⟨⟨_, _, _, _, _, _, _, _, rfl, lk_ByKind_init⟩, cd2_ByKind_init, ⟨_, _, _, _, _, vl_ByKind_init, v2_ByKind_init⟩, ⟨_, _, _, cl2_ByKind_init⟩⟩
  have su_ByKind_init : SupW l.prog w K mg base C_ByKind 1 (sp_Level_init C_ByKind) := ⟨_, ⟨Option.isSome_iff_exists.mp ic_ByKind_init, ms_ByKind_init, ks_ByKind_init, beq_iff_eq.mp fi_Level_init, fn_ByKind_init, oq_ByKind_init, z_super⟩, K58.f_Level_init (P := l.prog) (w := w) (base := base) cl_ByKind n_ByKind_classes F_Level_init⟩
  have mkx_ByKind : CalCXW l.prog w K mg base C_ByKind 4 (sp_ByKind_init C_ByKind C_Classes C_TooMany) := ⟨_, ⟨mk2_ByKind, at_ByKind_init, fi_ByKind_init, kc_ByKind⟩, K58.f_ByKind_init (P := l.prog) (w := w) (base := base) cl_ByKind cl_Classes mx_Classes_kinds n_ByKind_everything su_ByKind_init F_ByKind_init fl_ByKind_init tp_ByKind_init⟩
  have F_l_refused := fun_mk (st := s_l_refused) lk_l_refused cd2_l_refused kp_l_refused
  have c_l_refused : CalW l.prog w K mg base "_law_refused" 6 (sp_l_refused C_Barred C_ByKind C_Classes C_LeaveError C_NoClass C_TooMany) := ⟨_, PySem.W.mg_of X G at_l_refused, kp_l_refused, K58.f_l_refused (P := l.prog) (w := w) (base := base) jx_LeaveError mg_LeaveError mkx_ByKind mg_ByKind jq_TooMany g_TooMany z_isinstance jq_t_NoClass_Barred g_NoClass g_Barred jq_ValueError z_ValueError xq z_repr F_l_refused⟩
  have F_is_word := fun_mk (st := s_is_word) lk_is_word cd2_is_word kp_is_word
  have c_is_word : CalW l.prog w K mg base "is_word" 1 sp_is_word := ⟨_, PySem.W.mg_of X G at_is_word, kp_is_word, K58.f_is_word (P := l.prog) (w := w) (base := base) z_str z_isinstance z_len g_LONGEST g_RESERVED g_LETTERS z_all F_is_word⟩
  have F_are_words := fun_mk (st := s_are_words) lk_are_words cd2_are_words kp_are_words
  have c_are_words : CalW l.prog w K mg base "are_words" 2 sp_are_words := ⟨_, PySem.W.mg_of X G at_are_words, kp_are_words, K58.f_are_words (P := l.prog) (w := w) (base := base) c_is_word z_all F_are_words⟩
  have F_row_fault := fun_mk (st := s_row_fault) lk_row_fault cd2_row_fault kp_row_fault
  have c_row_fault : CalW l.prog w K mg base "row_fault" 3 sp_row_fault := ⟨_, PySem.W.mg_of X G at_row_fault, kp_row_fault, K58.f_row_fault (P := l.prog) (w := w) (base := base) g_MOST_ROWS z_tuple z_isinstance z_len c_are_words z_all z_set F_row_fault⟩
  have F_Classes_init := fun_mk (st := s_Classes_init) lk_Classes_init cd2_Classes_init kp_Classes_init
  have mk_Classes : CalCW l.prog w K mg base C_Classes 4 (sp_Classes_init C_Classes) := ⟨_, ⟨mk2_Classes, at_Classes_init, fi_Classes_init, kc_Classes⟩, K58.f_Classes_init (P := l.prog) (w := w) (base := base) g_FIRST z_list z_enumerate c_row_fault cl_Classes n_Classes_rows z_tuple n_Classes_names n_Classes_above F_Classes_init⟩
  have F_Classes_made := fun_mk (st := s_Classes_made) lk_Classes_made cd2_Classes_made kp_Classes_made
  have k_Classes_made : CalKW l.prog w K mg base C_Classes "made" 6 (sp_Classes_made C_Classes) := ⟨_, _, _, ⟨rd_Classes, ga_Classes⟩, ⟨at_Classes_made, ⟨_, rc_Classes_made⟩, fi_Classes_made⟩, K58.f_Classes_made (P := l.prog) (w := w) (base := base) mk_Classes F_Classes_made⟩
  have F_l_above := fun_mk (st := s_l_above) lk_l_above cd2_l_above kp_l_above
  have c_l_above : CalW l.prog w K mg base "_law_above" 1 sp_l_above := ⟨_, PySem.W.mg_of X G at_l_above, kp_l_above, K58.f_l_above (P := l.prog) (w := w) (base := base)  F_l_above⟩
  have F_Classes_eq := fun_mk (st := s_Classes_eq) lk_Classes_eq cd2_Classes_eq kp_Classes_eq
  have m_Classes___eq__ : CalMW l.prog w K mg base C_Classes "__eq__" 1 (sp_Classes_eq C_Classes) := ⟨_, ⟨at_Classes_eq, fi_Classes_eq, kp_Classes_eq⟩, K58.f_Classes_eq (P := l.prog) (w := w) (base := base) js_Classes g_Classes z_isinstance cl_Classes n_Classes_rows F_Classes_eq⟩
  have F_ByKind_view : FunV K "view" "ByKind.view" s_ByKind_view [V.non] f_ByKind_view _ := ⟨_, _, _, _, _, _, _, _, _, _, _, _, tn_ByKind_view, rfl, lk_ByKind_view, cd2_ByKind_view, lt_ByKind_view, by simp, tv_ByKind_view⟩
  have m_ByKind_view : CalMW l.prog w K mg base C_ByKind "view" 1 sp_ByKind_view := ⟨_, ⟨at_ByKind_view, fi_ByKind_view, kp_ByKind_view⟩, K58.f_ByKind_view (P := l.prog) (w := w) (base := base)  F_ByKind_view⟩
  have md2_ByKind_view : CalMW l.prog w K mg base C_ByKind "view" 1 (spDft 2 [.non] sp_ByKind_view) := ⟨_, ⟨at_ByKind_view, fi_ByKind_view, kp_ByKind_view⟩, K58.fd2_ByKind_view (P := l.prog) (w := w) (base := base)  F_ByKind_view⟩
  have F_ByKind_does := fun_mk (st := s_ByKind_does) lk_ByKind_does cd2_ByKind_does kp_ByKind_does
  have m_ByKind_does : CalMW l.prog w K mg base C_ByKind "does" 1 (sp_ByKind_does C_ByKind) := ⟨_, ⟨at_ByKind_does, fi_ByKind_does, kp_ByKind_does⟩, K58.f_ByKind_does (P := l.prog) (w := w) (base := base) cl_ByKind n_ByKind_everything F_ByKind_does⟩
  have F_Classes_meets := fun_mk (st := s_Classes_meets) lk_Classes_meets cd2_Classes_meets kp_Classes_meets
  have m_Classes_meets : CalMW l.prog w K mg base C_Classes "meets" 2 (sp_Classes_meets C_Classes) := ⟨_, ⟨at_Classes_meets, fi_Classes_meets, kp_Classes_meets⟩, K58.f_Classes_meets (P := l.prog) (w := w) (base := base) cl_Classes m_Classes_within z_any F_Classes_meets⟩
  have F_ByKind_taken := fun_mk (st := s_ByKind_taken) lk_ByKind_taken cd2_ByKind_taken kp_ByKind_taken
  have m_ByKind_taken : CalMW l.prog w K mg base C_ByKind "taken" 3 (sp_ByKind_taken C_ByKind C_Classes) := ⟨_, ⟨at_ByKind_taken, fi_ByKind_taken, kp_ByKind_taken⟩, K58.f_ByKind_taken (P := l.prog) (w := w) (base := base) cl_Classes cl_ByKind n_ByKind_classes m_Classes_meets F_ByKind_taken⟩
  have F_l_taken := fun_mk (st := s_l_taken) lk_l_taken cd2_l_taken kp_l_taken
  have c_l_taken : CalW l.prog w K mg base "_law_taken" 1 sp_l_taken := ⟨_, PySem.W.mg_of X G at_l_taken, kp_l_taken, K58.f_l_taken (P := l.prog) (w := w) (base := base)  F_l_taken⟩
  have F_ByKind_name_of := fun_mk (st := s_ByKind_name_of) lk_ByKind_name_of cd2_ByKind_name_of kp_ByKind_name_of
  have m_ByKind_name_of : CalMW l.prog w K mg base C_ByKind "name_of" 1 sp_ByKind_name_of := ⟨_, ⟨at_ByKind_name_of, fi_ByKind_name_of, kp_ByKind_name_of⟩, K58.f_ByKind_name_of (P := l.prog) (w := w) (base := base) z_len F_ByKind_name_of⟩
  have F_l_seen := fun_mk (st := s_l_seen) lk_l_seen cd2_l_seen kp_l_seen
  have c_l_seen : CalW l.prog w K mg base "_law_seen" 4 (sp_l_seen C_ByKind C_Classes) := ⟨_, PySem.W.mg_of X G at_l_seen, kp_l_seen, K58.f_l_seen (P := l.prog) (w := w) (base := base) z_tuple z_repr z_range c_l_pick z_list cl_ByKind md2_ByKind_view m_ByKind_view m_ByKind_does c_l_draw m_ByKind_taken c_l_taken m_ByKind_name_of z_len F_l_seen⟩
  have F_l_kinds := fun_mk (st := s_l_kinds) lk_l_kinds cd2_l_kinds kp_l_kinds
  have c_l_kinds : CalW l.prog w K mg base "_law_kinds" 1 sp_l_kinds := ⟨_, PySem.W.mg_of X G at_l_kinds, kp_l_kinds, K58.f_l_kinds (P := l.prog) (w := w) (base := base) z_list z_sorted F_l_kinds⟩
  have F_law := fun_mk (st := s_law) lk_law cd2_law kp_law
  have e := hfa.symm.trans (PySem.W.mg_of X G at_law)
  cases e
  exact FnG.imp (K58.f_law (P := l.prog) (w := w) (base := base) c_l_pen z_range c_l_words c_l_rows c_l_draw c_l_refused k_Classes_made mg_Classes c_l_above mkx_ByKind mg_ByKind js_Level g_Level z_isinstance js_ByClass g_ByClass m_Classes___eq__ nf_Classes cl_ByKind n_ByKind_classes mo_Classes ne_Classes ki_ByKind_KIND kc_ByKind_KIND kc_Level_KIND mg_Level c_l_seen c_l_kinds F_law) (liftSp_imp fun ds m R q => q _ _ _ _ _ _ _ _)
end K58
open PySem PySem.W PyProof.Rows
set_option maxRecDepth 100000 in
set_option maxHeartbeats 0 in
theorem PySem.Challenge.cw_whatleaves_k58_kinds_as_views_holds : PySem.Challenge.rw_whatleaves_k58_kinds_as_views.Holds := by
  w_on; o_law; k_head; (case hw => w_witness2)
  k_fill
  refine DL.walk_ofG (l := PySem.Challenge.rw_whatleaves_k58_kinds_as_views) (n := 63) (k := 7) (sp := (fun ds m R => ∀ C_Barred : Addr, ∀ C_ByClass : Addr, ∀ C_ByKind : Addr, ∀ C_Classes : Addr, ∀ C_LeaveError : Addr, ∀ C_Level : Addr, ∀ C_NoClass : Addr, ∀ C_TooMany : Addr, K58.sp_law C_Barred C_ByClass C_ByKind C_Classes C_LeaveError C_Level C_NoClass C_TooMany ds m R)) rfl (by decide) rfl ⟨rfl, by decide, by decide⟩ (fun w h Y => PySem.W.kIn_of Y) ?F (fun ns _ _ _ _ _ _ _ _ _ => K58.law_ok)
  case F =>
    intro w mg fa h KX G hmg
    refine' K58.all_mk KX G hmg ?zz_list ?zz_int ?zz_len ?zz_abs ?zz_range ?zz_tuple ?zz_any ?zz_sorted ?zz_super ?zz_isinstance ?zz_ValueError ?zz_repr ?zz_str ?zz_all ?zz_set ?zz_enumerate ?aC_Barred ?aC_ByClass ?pg_ByClass ?hd_ByClass ?po_ByClass ?sa_ByClass ?aC_ByKind ?pg_ByKind ?hd_ByKind ?po_ByKind ?sa_ByKind ?aC_Classes ?pg_Classes ?hd_Classes ?po_Classes ?sa_Classes ?aC_LeaveError ?aC_Level ?pg_Level ?hd_Level ?po_Level ?sa_Level ?aC_NoClass ?aC_TooMany ?ha_Classes ?hn_ob ?ht_ob ?hm_Classes ?ha_ByKind ?hm_ByKind ?jn_ByKind_Level ?ki_Level ?kt_Level ?jb_ByKind_Level ?jn_ByKind_ByClass ?ki_ByClass ?kt_ByClass ?jb_ByKind_ByClass ?nf_Classes_NoneType ?nf_Classes_bool ?nf_Classes_int ?nf_Classes_str ?nf_Classes_tuple ?nf_Classes_list ?nf_Classes_dict ?mo_Classes ?ne_Classes ?xb_TooMany ?xf_TooMany_setattr ?xc_TooMany ?xf_TooMany_init ?fty_X_TooMany ?lk_X_TooMany ?cd2_X_TooMany ?kp_X_TooMany ?xf_TooMany_what ?xf_TooMany_most ?xs_TooMany_BaseException ?xt_TooMany ?xs_LeaveError_BaseException ?xh_LeaveError ?xt_LeaveError ?xs_TooMany_LeaveError ?xn_ob ?xk_ob ?xm_TooMany_object ?xf_TooMany_getattribute ?xf_TooMany_getattr ?xh_TooMany ?xf_TooMany_class ?xs_TooMany_NoClass ?xj_TooMany_NoClass ?xi_NoClass ?xt_NoClass ?xs_TooMany_Barred ?xj_TooMany_Barred ?xi_Barred ?xt_Barred ?xs_TooMany_ValueError ?fn_ByKind_classes ?fn_Classes_above ?fn_Classes_names ?a_MOST_FOR_KINDS ?fn_ByKind_everything ?a_LONGEST ?a_RESERVED ?l_RESERVED ?hz_RESERVED ?hv_RESERVED ?a_LETTERS ?a_MOST_ROWS ?a_FIRST ?l_FIRST ?hz_FIRST ?hv_FIRST ?fn_Classes_rows ?ka_ki_ByKind_KIND ?kg_ki_ByKind_KIND ?rd_ByKind ?ga_ByKind ?ka_kc_ByKind_KIND ?rd_Level ?ga_Level ?ka_kc_Level_KIND ?at_l_pen ?lk_l_pen ?cd2_l_pen ?kp_l_pen ?at_l_draw ?lk_l_draw ?cd2_l_draw ?kp_l_draw ?at_l_pick ?lk_l_pick ?cd2_l_pick ?kp_l_pick ?at_l_words ?lk_l_words ?cd2_l_words ?kp_l_words ?at_l_rows ?lk_l_rows ?cd2_l_rows ?kp_l_rows ?at_Level_init ?fi_Level_init ?lk_Level_init ?cd2_Level_init ?kp_Level_init ?mk2_Level ?kc_Level ?at_Classes_within ?fi_Classes_within ?lk_Classes_within ?cd2_Classes_within ?kp_Classes_within ?at_Classes_is_apart ?fi_Classes_is_apart ?lk_Classes_is_apart ?cd2_Classes_is_apart ?kp_Classes_is_apart ?at_Classes_kinds ?fi_Classes_kinds ?lk_Classes_kinds ?cd2_Classes_kinds ?kp_Classes_kinds ?at_ByKind_init ?fi_ByKind_init ?lk_ByKind_init ?cd2_ByKind_init ?vl_ByKind_init ?v2_ByKind_init ?cl2_ByKind_init ?fl_ByKind_init ?tp_ByKind_init ?ic_ByKind_init ?ms_ByKind_init ?ks_ByKind_init ?fn_ByKind_init ?oq_ByKind_init ?kp_ByKind_init ?mk2_ByKind ?kc_ByKind ?at_l_refused ?lk_l_refused ?cd2_l_refused ?kp_l_refused ?at_is_word ?lk_is_word ?cd2_is_word ?kp_is_word ?at_are_words ?lk_are_words ?cd2_are_words ?kp_are_words ?at_row_fault ?lk_row_fault ?cd2_row_fault ?kp_row_fault ?at_Classes_init ?fi_Classes_init ?lk_Classes_init ?cd2_Classes_init ?kp_Classes_init ?mk2_Classes ?kc_Classes ?rd_Classes ?ga_Classes ?at_Classes_made ?rc_Classes_made ?fi_Classes_made ?lk_Classes_made ?cd2_Classes_made ?kp_Classes_made ?at_l_above ?lk_l_above ?cd2_l_above ?kp_l_above ?at_Classes_eq ?fi_Classes_eq ?lk_Classes_eq ?cd2_Classes_eq ?kp_Classes_eq ?at_ByKind_view ?fi_ByKind_view ?lk_ByKind_view ?cd2_ByKind_view ?kp_ByKind_view ?lt_ByKind_view ?tv_ByKind_view ?at_ByKind_does ?fi_ByKind_does ?lk_ByKind_does ?cd2_ByKind_does ?kp_ByKind_does ?at_Classes_meets ?fi_Classes_meets ?lk_Classes_meets ?cd2_Classes_meets ?kp_Classes_meets ?at_ByKind_taken ?fi_ByKind_taken ?lk_ByKind_taken ?cd2_ByKind_taken ?kp_ByKind_taken ?at_l_taken ?lk_l_taken ?cd2_l_taken ?kp_l_taken ?at_ByKind_name_of ?fi_ByKind_name_of ?lk_ByKind_name_of ?cd2_ByKind_name_of ?kp_ByKind_name_of ?at_l_seen ?lk_l_seen ?cd2_l_seen ?kp_l_seen ?at_l_kinds ?lk_l_kinds ?cd2_l_kinds ?kp_l_kinds ?at_law ?lk_law ?cd2_law ?kp_law
    (case zz_list => k_is)
    (case zz_int => k_is)
    (case zz_len => k_is)
    (case zz_abs => k_is)
    (case zz_range => k_is)
    (case zz_tuple => k_is)
    (case zz_any => k_is)
    (case zz_sorted => k_is)
    (case zz_super => k_is)
    (case zz_isinstance => k_is)
    (case zz_ValueError => k_is)
    (case zz_repr => k_is)
    (case zz_str => k_is)
    (case zz_all => k_is)
    (case zz_set => k_is)
    (case zz_enumerate => k_is)
    (case aC_Barred => k_is)
    (case aC_ByClass => k_is)
    (case pg_ByClass => k_is)
    (case hd_ByClass => k_is)
    (case po_ByClass => k_is)
    (case sa_ByClass => k_is)
    (case aC_ByKind => k_is)
    (case pg_ByKind => k_is)
    (case hd_ByKind => k_is)
    (case po_ByKind => k_is)
    (case sa_ByKind => k_is)
    (case aC_Classes => k_is)
    (case pg_Classes => k_is)
    (case hd_Classes => k_is)
    (case po_Classes => k_is)
    (case sa_Classes => k_is)
    (case aC_LeaveError => k_is)
    (case aC_Level => k_is)
    (case pg_Level => k_is)
    (case hd_Level => k_is)
    (case po_Level => k_is)
    (case sa_Level => k_is)
    (case aC_NoClass => k_is)
    (case aC_TooMany => k_is)
    (case ha_Classes => k_is)
    (case hn_ob => k_is)
    (case ht_ob => k_is)
    (case hm_Classes => k_is)
    (case ha_ByKind => k_is)
    (case hm_ByKind => k_is)
    (case ki_Level => k_is)
    (case kt_Level => k_is)
    (case jb_ByKind_Level => k_is)
    (case ki_ByClass => k_is)
    (case kt_ByClass => k_is)
    (case jb_ByKind_ByClass => k_is)
    (case nf_Classes_NoneType => k_is)
    (case nf_Classes_bool => k_is)
    (case nf_Classes_int => k_is)
    (case nf_Classes_str => k_is)
    (case nf_Classes_tuple => k_is)
    (case nf_Classes_list => k_is)
    (case nf_Classes_dict => k_is)
    (case mo_Classes => k_is)
    (case ne_Classes => k_is)
    (case xf_TooMany_setattr => k_is)
    (case xc_TooMany => k_is)
    (case xf_TooMany_init => k_is)
    (case fty_X_TooMany => k_is)
    (case lk_X_TooMany => k_is)
    (case cd2_X_TooMany => k_is)
    (case kp_X_TooMany => k_is)
    (case xf_TooMany_what => k_is)
    (case xf_TooMany_most => k_is)
    (case xs_TooMany_BaseException => k_is)
    (case xt_TooMany => k_is)
    (case xs_LeaveError_BaseException => k_is)
    (case xh_LeaveError => k_is)
    (case xt_LeaveError => k_is)
    (case xs_TooMany_LeaveError => k_is)
    (case xn_ob => k_is)
    (case xk_ob => k_is)
    (case xm_TooMany_object => k_is)
    (case xf_TooMany_getattribute => k_is)
    (case xf_TooMany_getattr => k_is)
    (case xh_TooMany => k_is)
    (case xf_TooMany_class => k_is)
    (case xs_TooMany_NoClass => k_is)
    (case xi_NoClass => k_is)
    (case xt_NoClass => k_is)
    (case xs_TooMany_Barred => k_is)
    (case xi_Barred => k_is)
    (case xt_Barred => k_is)
    (case xs_TooMany_ValueError => k_is)
    (case fn_ByKind_classes => k_is)
    (case fn_Classes_above => k_is)
    (case fn_Classes_names => k_is)
    (case a_MOST_FOR_KINDS => k_is)
    (case fn_ByKind_everything => k_is)
    (case a_LONGEST => k_is)
    (case a_RESERVED => k_is)
    (case l_RESERVED => k_is)
    (case a_LETTERS => k_is)
    (case a_MOST_ROWS => k_is)
    (case a_FIRST => k_is)
    (case l_FIRST => k_is)
    (case fn_Classes_rows => k_is)
    (case ka_ki_ByKind_KIND => k_is)
    (case kg_ki_ByKind_KIND => k_is)
    (case rd_ByKind => k_is)
    (case ga_ByKind => k_is)
    (case ka_kc_ByKind_KIND => k_is)
    (case rd_Level => k_is)
    (case ga_Level => k_is)
    (case ka_kc_Level_KIND => k_is)
    (case at_l_pen => k_is)
    (case lk_l_pen => k_is)
    (case cd2_l_pen => k_is)
    (case kp_l_pen => k_is)
    (case at_l_draw => k_is)
    (case lk_l_draw => k_is)
    (case cd2_l_draw => k_is)
    (case kp_l_draw => k_is)
    (case at_l_pick => k_is)
    (case lk_l_pick => k_is)
    (case cd2_l_pick => k_is)
    (case kp_l_pick => k_is)
    (case at_l_words => k_is)
    (case lk_l_words => k_is)
    (case cd2_l_words => k_is)
    (case kp_l_words => k_is)
    (case at_l_rows => k_is)
    (case lk_l_rows => k_is)
    (case cd2_l_rows => k_is)
    (case kp_l_rows => k_is)
    (case at_Level_init => k_is)
    (case fi_Level_init => k_is)
    (case lk_Level_init => k_is)
    (case cd2_Level_init => k_is)
    (case kp_Level_init => k_is)
    (case mk2_Level => k_is)
    (case kc_Level => k_is)
    (case at_Classes_within => k_is)
    (case fi_Classes_within => k_is)
    (case lk_Classes_within => k_is)
    (case cd2_Classes_within => k_is)
    (case kp_Classes_within => k_is)
    (case at_Classes_is_apart => k_is)
    (case fi_Classes_is_apart => k_is)
    (case lk_Classes_is_apart => k_is)
    (case cd2_Classes_is_apart => k_is)
    (case kp_Classes_is_apart => k_is)
    (case at_Classes_kinds => k_is)
    (case fi_Classes_kinds => k_is)
    (case lk_Classes_kinds => k_is)
    (case cd2_Classes_kinds => k_is)
    (case kp_Classes_kinds => k_is)
    (case at_ByKind_init => k_is)
    (case fi_ByKind_init => k_is)
    (case lk_ByKind_init => k_is)
    (case cd2_ByKind_init => k_is)
    (case vl_ByKind_init => k_is)
    (case cl2_ByKind_init => k_is)
    (case ic_ByKind_init => k_is)
    (case ms_ByKind_init => k_is)
    (case fn_ByKind_init => k_is)
    (case oq_ByKind_init => k_is)
    (case kp_ByKind_init => k_is)
    (case mk2_ByKind => k_is)
    (case kc_ByKind => k_is)
    (case at_l_refused => k_is)
    (case lk_l_refused => k_is)
    (case cd2_l_refused => k_is)
    (case kp_l_refused => k_is)
    (case at_is_word => k_is)
    (case lk_is_word => k_is)
    (case cd2_is_word => k_is)
    (case kp_is_word => k_is)
    (case at_are_words => k_is)
    (case lk_are_words => k_is)
    (case cd2_are_words => k_is)
    (case kp_are_words => k_is)
    (case at_row_fault => k_is)
    (case lk_row_fault => k_is)
    (case cd2_row_fault => k_is)
    (case kp_row_fault => k_is)
    (case at_Classes_init => k_is)
    (case fi_Classes_init => k_is)
    (case lk_Classes_init => k_is)
    (case cd2_Classes_init => k_is)
    (case kp_Classes_init => k_is)
    (case mk2_Classes => k_is)
    (case kc_Classes => k_is)
    (case rd_Classes => k_is)
    (case ga_Classes => k_is)
    (case at_Classes_made => k_is)
    (case rc_Classes_made => k_is)
    (case fi_Classes_made => k_is)
    (case lk_Classes_made => k_is)
    (case cd2_Classes_made => k_is)
    (case kp_Classes_made => k_is)
    (case at_l_above => k_is)
    (case lk_l_above => k_is)
    (case cd2_l_above => k_is)
    (case kp_l_above => k_is)
    (case at_Classes_eq => k_is)
    (case fi_Classes_eq => k_is)
    (case lk_Classes_eq => k_is)
    (case cd2_Classes_eq => k_is)
    (case kp_Classes_eq => k_is)
    (case at_ByKind_view => k_is)
    (case fi_ByKind_view => k_is)
    (case lk_ByKind_view => k_is)
    (case cd2_ByKind_view => k_is)
    (case kp_ByKind_view => k_is)
    (case lt_ByKind_view => k_is)
    (case at_ByKind_does => k_is)
    (case fi_ByKind_does => k_is)
    (case lk_ByKind_does => k_is)
    (case cd2_ByKind_does => k_is)
    (case kp_ByKind_does => k_is)
    (case at_Classes_meets => k_is)
    (case fi_Classes_meets => k_is)
    (case lk_Classes_meets => k_is)
    (case cd2_Classes_meets => k_is)
    (case kp_Classes_meets => k_is)
    (case at_ByKind_taken => k_is)
    (case fi_ByKind_taken => k_is)
    (case lk_ByKind_taken => k_is)
    (case cd2_ByKind_taken => k_is)
    (case kp_ByKind_taken => k_is)
    (case at_l_taken => k_is)
    (case lk_l_taken => k_is)
    (case cd2_l_taken => k_is)
    (case kp_l_taken => k_is)
    (case at_ByKind_name_of => k_is)
    (case fi_ByKind_name_of => k_is)
    (case lk_ByKind_name_of => k_is)
    (case cd2_ByKind_name_of => k_is)
    (case kp_ByKind_name_of => k_is)
    (case at_l_seen => k_is)
    (case lk_l_seen => k_is)
    (case cd2_l_seen => k_is)
    (case kp_l_seen => k_is)
    (case at_l_kinds => k_is)
    (case lk_l_kinds => k_is)
    (case cd2_l_kinds => k_is)
    (case kp_l_kinds => k_is)
    (case at_law => k_is)
    (case lk_law => k_is)
    (case cd2_law => k_is)
    (case kp_law => k_is)
    (case jn_ByKind_Level => rfl)
    (case jn_ByKind_ByClass => rfl)
    (case xb_TooMany => first | rfl | decide +kernel)
    (case xj_TooMany_NoClass => rfl)
    (case xj_TooMany_Barred => rfl)
    (case hz_RESERVED => decide); (case hv_RESERVED => repeat constructor)
    (case hz_FIRST => decide); (case hv_FIRST => repeat constructor)
    (case v2_ByKind_init => rfl)
    (case fl_ByKind_init => first | rfl | decide +kernel)
    (case tp_ByKind_init => first | rfl | decide +kernel)
    (case ks_ByKind_init => ks_is)
    (case tv_ByKind_view => repeat constructor)
