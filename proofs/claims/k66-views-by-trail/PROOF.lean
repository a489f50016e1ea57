import PyProof.Rows.All
import Wide.All
import OpenK.AllK
import Wide.FinOn
import HandS.ForMost
import HandS.Deep
import HandS.TupAny
import HandS.Style
import HandS.TupLe
import HandS.TupMul
import HandS.Strs
import HandS.StrMore
import HandS.IsInst
import HandS.Flow
import HandS.More
import HandS.Star
import HandS.ClsMeth
import KE.GoesMore
import HandS.SetFor
import HandS.Codes
import HandS.SetTxt0
import HandS.Set
import HandS.SortRule
import HandS.WideBits
import HandS.Iter
import HandS.Defaults
import KE.KSuper
import KE.RegKSuper
import PySem.Challenge.RW_whatleaves_k66_views_by_trail
set_option Elab.async false
set_option linter.all false
set_option maxRecDepth 100000
set_option autoImplicit false
/-! ### DL1: data as trees over the abstract heap -/
namespace DL
open PySem PySem.Spec PyProof.Rows L2

inductive D where
  | non | bl (b : Bool) | int (i : Int) | str (x : Str)
  | tup (xs : List D) | lst (xs : List D) | dic (ks vs : List D)
  | ins (C : Addr) (ns : List Str) (vs : List D)
  | ref (a : Addr) | ty (n : String) | scr (ns : List Int)

abbrev M := Addr → Option D
def updM (m : M) (a : Addr) (d : D) : M := fun b => if b = a then some d else m b
def delM (m : M) (a : Addr) : M := fun b => if b = a then none else m b
theorem updM_same {m : M} {a : Addr} {d : D} : updM m a d a = some d := by simp [updM]
theorem updM_ne {m : M} {a b : Addr} {d : D} (h : b ≠ a) : updM m a d b = m b := by simp [updM, h]
theorem updM_upd {m : M} {a : Addr} {d d' : D} : updM (updM m a d) a d' = updM m a d' := by
  funext b; simp only [updM]; split <;> rfl
theorem delM_same {m : M} {a : Addr} : delM m a a = none := by simp [delM]
theorem delM_ne {m : M} {a b : Addr} (h : b ≠ a) : delM m a b = m b := by simp [delM, h]

/-- a written tuple, list -/
def TupK (K : PySem.W.Frag) (a : Addr) (xs : List V) : Prop :=
  ∃ (o : Obj) (its : Array Value) (n : Nat), K.lookup a = some o ∧ o.cls = .type "tuple" ∧ o.data = .seq its n ∧ its.size ≤ sizeLine ∧ Vals xs its.toList
def TupAt (K : PySem.W.Frag) (m : M) (H : Hp) (a : Addr) (vs : List V) : Prop := (m a = none ∧ H a = some (.tup vs)) ∨ TupK K a vs
def LstAt (m : M) (H : Hp) (a : Addr) (vs : List V) : Prop := m a = none ∧ H a = some (.lst vs)
/-- the script -/
def ScrAt (K : PySem.W.Frag) (m : M) (H : Hp) (a : Addr) (vs : List V) : Prop := (m a = none ∧ Rd H a (.lst vs)) ∨
  ∃ (o : Obj) (its : Array Value) (n : Nat), K.lookup a = some o ∧ o.cls = .type "list" ∧ o.dict = none ∧ o.data = .seq its n ∧ its.size ≤ sizeLine ∧ Vals vs its.toList
theorem ScrAt.sq {K : PySem.W.Frag} {m : M} {H : Hp} {a : Addr} {vs : List V} (h : ScrAt K m H a vs) : SqL K H a vs := by
  rcases h with ⟨_, h⟩ | h
  · exact .inl h
  · exact .inr h
theorem ScrAt.of {K : PySem.W.Frag} {m : M} {H : Hp} {a : Addr} {vs : List V} (n : m a = none) (h : SqL K H a vs) : ScrAt K m H a vs := by
  rcases h with h | h
  · exact .inl ⟨n, h⟩
  · exact .inr h
def kD : Key → D
  | .inl i => .int i
  | .inr x => .str x
def DicAt (H : Hp) (a : Addr) (ks : List D) (vs : List V) : Prop :=
  ∃ kvs : List (Key × V), Rd H a (.dK kvs) ∧ ks = kvs.map (fun kv => kD kv.1) ∧ vs = kvs.map (·.2)

mutual
def Rep (K : PySem.W.Frag) (m : M) (H : Hp) : D → V → Prop
  | .non, v => v = .non
  | .bl b, v => v = .bl b
  | .int i, v => v = .int i
  | .str x, v => v = .str x
  | .ty n, v => v = .ty n
  | .ref a, v => v = .ref a
  | .scr ns, v => ∃ a, v = .ref a ∧ ScrAt K m H a (ns.map V.int)
  | .tup ds, v => ∃ a vs, v = .ref a ∧ TupAt K m H a vs ∧ RepL K m H ds vs
  | .lst ds, v => ∃ a vs, v = .ref a ∧ LstAt m H a vs ∧ RepL K m H ds vs
  | .dic ks ds, v => ∃ a vs, v = .ref a ∧ m a = none ∧ DicAt H a ks vs ∧ RepL K m H ds vs
  | .ins C ns ds, v => ∃ a dx fs, v = .ref a ∧ m a = none ∧ H a = some (.ins C dx fs) ∧ fs.map (·.1) = ns ∧ RepL K m H ds (fs.map (·.2))
def RepL (K : PySem.W.Frag) (m : M) (H : Hp) : List D → List V → Prop
  | [], vs => vs = []
  | d :: ds, vs => ∃ v r, vs = v :: r ∧ Rep K m H d v ∧ RepL K m H ds r
end

/-- what stands at a mutable place -/
def MRep (K : PySem.W.Frag) (m : M) (H : Hp) (a : Addr) : D → Prop
  | .lst ds => ∃ vs, H a = some (.lst vs) ∧ RepL K m H ds vs
  | .dic ks ds => ∃ kvs : List (Key × V), H a = some (.dK kvs) ∧ ks = kvs.map (fun kv => kD kv.1) ∧ RepL K m H ds (kvs.map (·.2))
  | .ins C ns ds => ∃ dx fs, H a = some (.ins C dx fs) ∧ fs.map (·.1) = ns ∧ RepL K m H ds (fs.map (·.2))
  | _ => False
def Sim (K : PySem.W.Frag) (m : M) (H : Hp) : Prop := ∀ a d, m a = some d → MRep K m H a d

def strip : HO → HO
  | .frz _ (.dK k) => .dK k
  | .frz _ (.dT k) => .dT k
  | u => u
theorem strip_lst {u : HO} {vs : List V} (h : strip u = .lst vs) : u = .lst vs := by
  unfold strip at h; split at h <;> first | exact h | cases h
theorem strip_tup {u : HO} {vs : List V} (h : strip u = .tup vs) : u = .tup vs := by
  unfold strip at h; split at h <;> first | exact h | cases h
theorem strip_ins {u : HO} {C dx fs} (h : strip u = .ins C dx fs) : u = .ins C dx fs := by
  unfold strip at h; split at h <;> first | exact h | cases h
theorem strip_frzl {u : HO} {o : Obj} {vs : List V} (h : strip u = .frz o (.lst vs)) : u = .frz o (.lst vs) := by
  unfold strip at h; split at h <;> first | exact h | cases h
theorem strip_dK {u : HO} {k} (h : strip u = .dK k) : u = .dK k ∨ ∃ o, u = .frz o (.dK k) := by
  unfold strip at h; split at h <;> first | (cases h; exact .inr ⟨_, rfl⟩) | exact .inl h | cases h
theorem strip_dT {u : HO} {k} (h : strip u = .dT k) : u = .dT k ∨ ∃ o, u = .frz o (.dT k) := by
  unfold strip at h; split at h <;> first | (cases h; exact .inr ⟨_, rfl⟩) | exact .inl h | cases h

/-- what is not mutable stays -/
def Lk (u u' : HO) : Prop := u' = u ∨ ∃ o k, u = .dK k ∧ u' = .frz o (.dK k)
theorem Lk.trans {u v w : HO} (a : Lk u v) (b : Lk v w) : Lk u w := by
  rcases a with rfl | ⟨o, k, rfl, rfl⟩
  · exact b
  · rcases b with rfl | ⟨o', k', e, _⟩
    · exact .inr ⟨o, k, rfl, rfl⟩
    · cases e
theorem Lk.strip {u v : HO} (a : Lk u v) : strip v = strip u := by
  rcases a with rfl | ⟨o, k, rfl, rfl⟩ <;> rfl
theorem Lk.lst {vs : List V} {v : HO} (a : Lk (.lst vs) v) : v = .lst vs := by
  rcases a with rfl | ⟨o, k, e, _⟩
  · rfl
  · cases e
theorem Lk.tup {vs : List V} {v : HO} (a : Lk (.tup vs) v) : v = .tup vs := by
  rcases a with rfl | ⟨o, k, e, _⟩
  · rfl
  · cases e
theorem Lk.frz {o : Obj} {u v : HO} (a : Lk (.frz o u) v) : v = .frz o u := by
  rcases a with rfl | ⟨o, k, e, _⟩
  · rfl
  · cases e
def Fr (m : M) (H : Hp) (m' : M) (H' : Hp) : Prop := ∀ a u, m a = none → H a = some u → m' a = none ∧ ∃ u', H' a = some u' ∧ Lk u u'
theorem Fr.refl {m : M} {H : Hp} : Fr m H m H := fun _ u n h => ⟨n, u, h, .inl rfl⟩
theorem Fr.trans {m m1 m2 : M} {H H1 H2 : Hp} (a : Fr m H m1 H1) (b : Fr m1 H1 m2 H2) : Fr m H m2 H2 := fun c u n h => by
  obtain ⟨n1, u1, h1, e1⟩ := a c u n h
  obtain ⟨n2, u2, h2, e2⟩ := b c u1 n1 h1
  exact ⟨n2, u2, h2, e1.trans e2⟩
theorem Fr.lst {m m1 : M} {H H1 : Hp} (f : Fr m H m1 H1) {a : Addr} {vs : List V} (n : m a = none) (h : H a = some (.lst vs)) : m1 a = none ∧ H1 a = some (.lst vs) := by
  obtain ⟨n1, u1, h1, e1⟩ := f a _ n h
  exact ⟨n1, by rw [h1, e1.lst]⟩
theorem Fr.tup {m m1 : M} {H H1 : Hp} (f : Fr m H m1 H1) {a : Addr} {vs : List V} (n : m a = none) (h : H a = some (.tup vs)) : m1 a = none ∧ H1 a = some (.tup vs) := by
  obtain ⟨n1, u1, h1, e1⟩ := f a _ n h
  exact ⟨n1, by rw [h1, e1.tup]⟩
theorem Fr.frz {m m1 : M} {H H1 : Hp} (f : Fr m H m1 H1) {a : Addr} {o : Obj} {u : HO} (n : m a = none) (h : H a = some (.frz o u)) : m1 a = none ∧ H1 a = some (.frz o u) := by
  obtain ⟨n1, u1, h1, e1⟩ := f a _ n h
  exact ⟨n1, by rw [h1, e1.frz]⟩
theorem rd_dK_strip {H : Hp} {a : Addr} {k} : Rd H a (.dK k) ↔ ∃ u, H a = some u ∧ strip u = .dK k := by
  constructor
  · rintro (h | ⟨o, h⟩)
    · exact ⟨_, h, rfl⟩
    · exact ⟨_, h, rfl⟩
  · rintro ⟨u, h, e⟩
    rcases strip_dK e with rfl | ⟨o, rfl⟩
    · exact .inl h
    · exact .inr ⟨o, h⟩
theorem dicAt_of {H H' : Hp} {a : Addr} {ks : List D} {vs : List V} (k : ∀ u, H a = some u → ∃ u', H' a = some u' ∧ strip u' = strip u) (h : DicAt H a ks vs) : DicAt H' a ks vs := by
  obtain ⟨kvs, h, e⟩ := h
  obtain ⟨u, h, e1⟩ := rd_dK_strip.mp h
  obtain ⟨u', h', e2⟩ := k u h
  exact ⟨kvs, rd_dK_strip.mpr ⟨u', h', e2.trans e1⟩, e⟩
/-- .. up to locks -/
def FrL (m : M) (H : Hp) (m' : M) (H' : Hp) : Prop := ∀ a u, m a = none → H a = some u → m' a = none ∧ ∃ u', H' a = some u' ∧ strip u' = strip u
theorem Fr.l {m m' : M} {H H' : Hp} (f : Fr m H m' H') : FrL m H m' H' := fun a u n h => let ⟨n1, u', h', e⟩ := f a u n h; ⟨n1, u', h', e.strip⟩

mutual
theorem Rep.monoL {K : PySem.W.Frag} {m m' : M} {H H' : Hp} (f : FrL m H m' H') : ∀ (d : D) (v : V), Rep K m H d v → Rep K m' H' d v
  | .non, v, h => h
  | .bl b, v, h => h
  | .int i, v, h => h
  | .str x, v, h => h
  | .ty n, v, h => h
  | .ref a, v, h => h
  | .scr ns, v, h => by
    simp only [Rep] at h ⊢
    obtain ⟨a, e, h1⟩ := h
    refine ⟨a, e, ?_⟩
    rcases h1 with ⟨n, (h1 | ⟨o, h1⟩)⟩ | h1
    · obtain ⟨n', u, h', e'⟩ := f a _ n h1
      exact .inl ⟨n', .inl (by rw [h', strip_lst (e'.trans rfl)])⟩
    · obtain ⟨n', u, h', e'⟩ := f a _ n h1
      exact .inl ⟨n', .inr ⟨o, by rw [h', strip_frzl (e'.trans rfl)]⟩⟩
    · exact .inr h1
  | .tup ds, v, h => by
    simp only [Rep] at h ⊢
    obtain ⟨a, vs, e, h1, h2⟩ := h
    refine ⟨a, vs, e, ?_, RepL.monoL f ds vs h2⟩
    rcases h1 with ⟨n, h1⟩ | h1
    · obtain ⟨n', u, h', e'⟩ := f a _ n h1
      exact .inl ⟨n', by rw [h', strip_tup (e'.trans rfl)]⟩
    · exact .inr h1
  | .lst ds, v, h => by
    simp only [Rep] at h ⊢
    obtain ⟨a, vs, e, h1, h2⟩ := h
    obtain ⟨n', u, h', e'⟩ := f a _ h1.1 h1.2
    exact ⟨a, vs, e, ⟨n', by rw [h', strip_lst (e'.trans rfl)]⟩, RepL.monoL f ds vs h2⟩
  | .dic ks ds, v, h => by
    simp only [Rep] at h ⊢
    obtain ⟨a, vs, e, n, h1, h2⟩ := h
    refine ⟨a, vs, e, ?_, dicAt_of (fun u h => (f a u n h).2) h1, RepL.monoL f ds vs h2⟩
    obtain ⟨kvs, (q | ⟨o, q⟩), _⟩ := h1 <;> exact (f a _ n q).1
  | .ins C ns ds, v, h => by
    simp only [Rep] at h ⊢
    obtain ⟨a, dx, fs, e, n, h1, h2, h3⟩ := h
    obtain ⟨n', u, h', e'⟩ := f a _ n h1
    exact ⟨a, dx, fs, e, n', by rw [h', strip_ins (e'.trans rfl)], h2, RepL.monoL f ds _ h3⟩
theorem RepL.monoL {K : PySem.W.Frag} {m m' : M} {H H' : Hp} (f : FrL m H m' H') : ∀ (ds : List D) (vs : List V), RepL K m H ds vs → RepL K m' H' ds vs
  | [], vs, h => h
  | d :: ds, vs, h => by
    simp only [RepL] at h ⊢
    obtain ⟨v, r, e, h1, h2⟩ := h
    exact ⟨v, r, e, Rep.monoL f d v h1, RepL.monoL f ds r h2⟩
end

theorem Rep.mono {K : PySem.W.Frag} {m m' : M} {H H' : Hp} (f : Fr m H m' H') (d : D) (v : V) (h : Rep K m H d v) : Rep K m' H' d v := Rep.monoL f.l d v h
theorem RepL.mono {K : PySem.W.Frag} {m m' : M} {H H' : Hp} (f : Fr m H m' H') (d : List D) (v : List V) (h : RepL K m H d v) : RepL K m' H' d v := RepL.monoL f.l d v h

section
variable {K : PySem.W.Frag} {m m' : M} {H H' : Hp}
theorem RepL.length : ∀ {ds : List D} {vs : List V}, RepL K m H ds vs → ds.length = vs.length
  | [], vs, h => by simp only [RepL] at h; subst h; rfl
  | d :: ds, vs, h => by
    simp only [RepL] at h
    obtain ⟨v, r, rfl, _, h2⟩ := h
    simp [RepL.length h2]
theorem RepL.nil : RepL K m H [] [] := by simp only [RepL]
theorem RepL.cons {d : D} {ds : List D} {v : V} {vs : List V} (h1 : Rep K m H d v) (h2 : RepL K m H ds vs) : RepL K m H (d :: ds) (v :: vs) := by
  simp only [RepL]; exact ⟨v, vs, rfl, h1, h2⟩
theorem RepL.get : ∀ {ds : List D} {vs : List V} {i : Nat} {d : D}, RepL K m H ds vs → ds[i]? = some d → ∃ v, vs[i]? = some v ∧ Rep K m H d v
  | [], vs, i, d, h, e => by simp at e
  | d0 :: ds, vs, 0, d, h, e => by
    simp only [RepL] at h
    obtain ⟨v, r, rfl, h1, h2⟩ := h
    simp at e; subst e
    exact ⟨v, rfl, h1⟩
  | d0 :: ds, vs, i + 1, d, h, e => by
    simp only [RepL] at h
    obtain ⟨v, r, rfl, h1, h2⟩ := h
    simp at e
    obtain ⟨v', e', h'⟩ := RepL.get h2 e
    exact ⟨v', by simpa using e', h'⟩
theorem RepL.get' : ∀ {ds : List D} {vs : List V} {i : Nat} {v : V}, RepL K m H ds vs → vs[i]? = some v → ∃ d, ds[i]? = some d ∧ Rep K m H d v
  | [], vs, i, v, h, e => by simp only [RepL] at h; subst h; simp at e
  | d0 :: ds, vs, 0, v, h, e => by
    simp only [RepL] at h
    obtain ⟨v0, r, rfl, h1, h2⟩ := h
    simp at e; subst e
    exact ⟨d0, rfl, h1⟩
  | d0 :: ds, vs, i + 1, v, h, e => by
    simp only [RepL] at h
    obtain ⟨v0, r, rfl, h1, h2⟩ := h
    simp at e
    obtain ⟨v', e', h'⟩ := RepL.get' h2 e
    exact ⟨v', by simpa using e', h'⟩
theorem RepL.append : ∀ {ds es : List D} {vs ws : List V}, RepL K m H ds vs → RepL K m H es ws → RepL K m H (ds ++ es) (vs ++ ws)
  | [], es, vs, ws, h, g => by simp only [RepL] at h; subst h; exact g
  | d :: ds, es, vs, ws, h, g => by
    simp only [RepL] at h
    obtain ⟨v, r, rfl, h1, h2⟩ := h
    exact .cons h1 (RepL.append h2 g)
theorem RepL.take : ∀ {ds : List D} {vs : List V} (n : Nat), RepL K m H ds vs → RepL K m H (ds.take n) (vs.take n)
  | ds, vs, 0, h => by simp [RepL]
  | [], vs, n + 1, h => by simp only [RepL] at h; subst h; simp [RepL]
  | d :: ds, vs, n + 1, h => by
    simp only [RepL] at h
    obtain ⟨v, r, rfl, h1, h2⟩ := h
    exact .cons h1 (RepL.take n h2)
theorem RepL.drop : ∀ {ds : List D} {vs : List V} (n : Nat), RepL K m H ds vs → RepL K m H (ds.drop n) (vs.drop n)
  | ds, vs, 0, h => h
  | [], vs, n + 1, h => by simp only [RepL] at h; subst h; simp [RepL]
  | d :: ds, vs, n + 1, h => by
    simp only [RepL] at h
    obtain ⟨v, r, rfl, h1, h2⟩ := h
    exact RepL.drop n h2
theorem RepL.set : ∀ {ds : List D} {vs : List V} (i : Nat) {d : D} {v : V}, RepL K m H ds vs → Rep K m H d v → RepL K m H (ds.set i d) (vs.set i v)
  | [], vs, i, d, v, h, g => by simp only [RepL] at h; subst h; simp [RepL]
  | d0 :: ds, vs, 0, d, v, h, g => by
    simp only [RepL] at h
    obtain ⟨v0, r, rfl, h1, h2⟩ := h
    exact .cons g h2
  | d0 :: ds, vs, i + 1, d, v, h, g => by
    simp only [RepL] at h
    obtain ⟨v0, r, rfl, h1, h2⟩ := h
    exact .cons h1 (RepL.set i h2 g)
theorem RepL.reverse {ds : List D} {vs : List V} (h : RepL K m H ds vs) : RepL K m H ds.reverse vs.reverse := by
  induction ds generalizing vs with
  | nil => simp only [RepL] at h; subst h; simp [RepL]
  | cons d ds ih =>
    simp only [RepL] at h
    obtain ⟨v, r, rfl, h1, h2⟩ := h
    rw [List.reverse_cons, List.reverse_cons]
    exact RepL.append (ih h2) (.cons h1 .nil)
theorem RepL.snoc {ds : List D} {vs : List V} {d : D} {v : V} (h : RepL K m H ds vs) (g : Rep K m H d v) : RepL K m H (ds ++ [d]) (vs ++ [v]) := h.append (.cons g .nil)
theorem RepL.map_int : ∀ (ns : List Int), RepL K m H (ns.map D.int) (ns.map V.int)
  | [] => by simp [RepL]
  | n :: ns => .cons (by simp only [Rep]) (RepL.map_int ns)
theorem RepL.map_str : ∀ (ns : List Str), RepL K m H (ns.map D.str) (ns.map V.str)
  | [] => by simp [RepL]
  | n :: ns => .cons (by simp only [Rep]) (RepL.map_str ns)

theorem MRep.monoL {a : Addr} {d : D} (f : FrL m H m' H') (h : MRep K m H a d) (k : ∀ u, H a = some u → H' a = some u) : MRep K m' H' a d := by
  cases d with
  | lst ds =>
    obtain ⟨vs, h1, h2⟩ := h
    exact ⟨vs, k _ h1, RepL.monoL f _ _ h2⟩
  | dic ks ds =>
    obtain ⟨kvs, h1, h2, h3⟩ := h
    exact ⟨kvs, k _ h1, h2, RepL.monoL f _ _ h3⟩
  | ins C ns ds =>
    obtain ⟨dx, fs, h1, h2, h3⟩ := h
    exact ⟨dx, fs, k _ h1, h2, RepL.monoL f _ _ h3⟩
  | _ => exact h.elim
theorem MRep.mono {a : Addr} {d : D} (f : Fr m H m' H') (h : MRep K m H a d) (k : ∀ u, H a = some u → H' a = some u) : MRep K m' H' a d := h.monoL f.l k
theorem Sim.monoL (s : Sim K m H) (f : FrL m H m H') (k : ∀ a u, m a ≠ none → H a = some u → H' a = some u) : Sim K m H' := fun a d e => (s a d e).monoL f (k a · (by rw [e]; exact fun z => nomatch z))
theorem Sim.free (s : Sim K m H) {a : Addr} (h : H a = none) : m a = none := by
  cases e : m a with
  | none => rfl
  | some d =>
    have q := s a d e
    cases d with
    | lst ds => obtain ⟨vs, h1, _⟩ := q; rw [h] at h1; cases h1
    | dic ks ds =>
      obtain ⟨kvs, h1, _⟩ := q; rw [h] at h1; cases h1
    | ins C ns ds => obtain ⟨dx, fs, h1, _⟩ := q; rw [h] at h1; cases h1
    | _ => exact q.elim
/-- a new object, laid: the store as it is -/
theorem Fr.laid (s : Sim K m H) {p : Addr} {o : HO} (hp : H p = none) : Fr m H m (upd H p o) := fun a u n h =>
  ⟨n, u, by rw [upd_ne (ne_of_none h hp)]; exact h, .inl rfl⟩
theorem Sim.laid (s : Sim K m H) {p : Addr} {o : HO} (hp : H p = none) : Sim K m (upd H p o) := fun a d e => by
  refine (s a d e).mono (Fr.laid s hp) fun u hu => ?_
  rw [upd_ne (ne_of_none hu hp)]; exact hu
/-- .. as a mutable one -/
theorem Fr.laidM (s : Sim K m H) {p : Addr} {o : HO} {d : D} (hp : H p = none) : Fr m H (updM m p d) (upd H p o) := fun a u n h => by
  have ne := ne_of_none h hp
  exact ⟨by rw [updM_ne ne]; exact n, u, by rw [upd_ne ne]; exact h, .inl rfl⟩
theorem Sim.laidM (s : Sim K m H) {p : Addr} {o : HO} {d : D} (hp : H p = none) (r : MRep K (updM m p d) (upd H p o) p d) : Sim K (updM m p d) (upd H p o) := fun a d' e => by
  by_cases ha : a = p
  · subst ha
    rw [updM_same] at e; cases e; exact r
  · rw [updM_ne ha] at e
    exact (s a d' e).mono (Fr.laidM s hp) fun u hu => by rw [upd_ne ha]; exact hu
/-- a mutable object changed -/
theorem Fr.write {p : Addr} {o : HO} {d d0 : D} (hp : m p = some d0) : Fr m H (updM m p d) (upd H p o) := fun a u n h => by
  have ne : a ≠ p := by rintro rfl; rw [hp] at n; cases n
  exact ⟨by rw [updM_ne ne]; exact n, u, by rw [upd_ne ne]; exact h, .inl rfl⟩
theorem Sim.write (s : Sim K m H) {p : Addr} {o : HO} {d d0 : D} (hp : m p = some d0) (r : MRep K (updM m p d) (upd H p o) p d) : Sim K (updM m p d) (upd H p o) := fun a d' e => by
  by_cases ha : a = p
  · subst ha
    rw [updM_same] at e; cases e; exact r
  · rw [updM_ne ha] at e
    exact (s a d' e).mono (Fr.write hp) fun u hu => by rw [upd_ne ha]; exact hu
/-- a mutable object is from now on a tree -/
theorem Fr.frozen {p : Addr} : Fr m H (delM m p) H := fun a u n h => by
  refine ⟨?_, u, h, .inl rfl⟩
  unfold delM; split
  · rfl
  · exact n
theorem Sim.frozen (s : Sim K m H) {p : Addr} : Sim K (delM m p) H := fun a d e => by
  by_cases ha : a = p
  · subst ha; rw [delM_same] at e; cases e
  · rw [delM_ne ha] at e
    exact (s a d e).mono Fr.frozen fun u hu => hu
theorem rep_frozen (s : Sim K m H) {p : Addr} {d : D} (hp : m p = some d) : Rep K (delM m p) H d (.ref p) := by
  have q := s p d hp
  have q := q.mono (Fr.frozen (p := p)) fun u hu => hu
  cases d with
  | lst ds => obtain ⟨vs, h1, h2⟩ := q; simp only [Rep]; exact ⟨p, vs, rfl, ⟨delM_same, h1⟩, h2⟩
  | dic ks ds => obtain ⟨kvs, h1, h2, h3⟩ := q; simp only [Rep]; exact ⟨p, _, rfl, delM_same, ⟨kvs, .inl h1, h2, rfl⟩, h3⟩
  | ins C ns ds => obtain ⟨dx, fs, h1, h2, h3⟩ := q; simp only [Rep]; exact ⟨p, dx, fs, rfl, delM_same, h1, h2, h3⟩
  | _ => exact q.elim
end

/-! ### the state and the readings -/
abbrev Env := List (Option D)
structure EnvOk (K : PySem.W.Frag) (m : M) (H : Hp) (σ : L2.St) (env : Env) : Prop where
  len : σ.length = env.length
  get : ∀ (i : Nat) (d : D), env[i]? = some (some d) → ∃ v, σ[i]? = some (some v) ∧ Rep K m H d v
section
variable {K : PySem.W.Frag} {m m' : M} {H H' : Hp} {σ : L2.St} {env : Env}
theorem EnvOk.mono (h : EnvOk K m H σ env) (f : Fr m H m' H') : EnvOk K m' H' σ env :=
  ⟨h.len, fun i d e => let ⟨v, e1, r⟩ := h.get i d e; ⟨v, e1, Rep.mono f d v r⟩⟩
theorem EnvOk.set (h : EnvOk K m H σ env) (i : Nat) {d : D} {v : V} (r : Rep K m H d v) : EnvOk K m H (σ.set i (some v)) (env.set i (some d)) := by
  refine ⟨by simp [h.len], fun j d' e => ?_⟩
  by_cases hj : j = i
  · subst hj
    have hl : j < env.length := by
      rcases Nat.lt_or_ge j env.length with q | q
      · exact q
      · rw [List.getElem?_eq_none (by simpa using q)] at e; cases e
    rw [List.getElem?_set_self hl] at e
    cases e
    exact ⟨v, by rw [List.getElem?_set_self (by rw [h.len]; exact hl)], r⟩
  · rw [List.getElem?_set_ne (Ne.symm hj)] at e
    obtain ⟨v', e1, r'⟩ := h.get j d' e
    exact ⟨v', by rw [List.getElem?_set_ne (Ne.symm hj)]; exact e1, r'⟩
theorem EnvOk.unset (h : EnvOk K m H σ env) (i : Nat) : EnvOk K m H (σ.set i none) (env.set i none) := by
  refine ⟨by simp [h.len], fun j d' e => ?_⟩
  by_cases hj : j = i
  · subst hj
    rcases Nat.lt_or_ge j env.length with q | q
    · rw [List.getElem?_set_self q] at e; cases e
    · rw [List.getElem?_eq_none (by simpa using q)] at e; cases e
  · rw [List.getElem?_set_ne (Ne.symm hj)] at e
    obtain ⟨v', e1, r'⟩ := h.get j d' e
    exact ⟨v', by rw [List.getElem?_set_ne (Ne.symm hj)]; exact e1, r'⟩
def wipeD (env : Env) : List Nat → Env
  | [] => env
  | v :: vs => (wipeD env vs).set v none
theorem EnvOk.wipe (h : EnvOk K m H σ env) : ∀ vs : List Nat, EnvOk K m H (L2.wipe σ vs) (wipeD env vs)
  | [] => h
  | v :: vs => (EnvOk.wipe h vs).unset v
def startD (n : Nat) (ds : List D) : Env := ds.map some ++ List.replicate (n - ds.length) none
theorem EnvOk.start {N : List Str} {ds : List D} {vs : List V} (r : RepL K m H ds vs) : EnvOk K m H (L2.start N vs) (startD N.length ds) := by
  have l := r.length
  unfold L2.start startD
  refine ⟨by simp [l], fun i d e => ?_⟩
  by_cases hi : i < ds.length
  · rw [List.getElem?_append_left (by simpa using hi), List.getElem?_map] at e
    cases q : ds[i]? with
    | none => rw [q] at e; cases e
    | some d' =>
      rw [q] at e; cases e
      obtain ⟨v, e1, r1⟩ := r.get q
      exact ⟨v, by rw [List.getElem?_append_left (by simp; omega), List.getElem?_map, e1]; rfl, r1⟩
  · rw [List.getElem?_append_right (by simpa using hi), List.getElem?_replicate] at e
    split at e <;> cases e
end

abbrev DK := D → M → Prop
abbrev DTE := Env → M → DK → Prop
abbrev DTT := Env → M → (Bool → M → Prop) → Prop
abbrev DTA := Env → M → (List D → M → Prop) → Prop
structure DEnds where
  nx : Env → M → Prop
  rt : DK
  bk : Env → M → Prop := fun _ _ => False
  ct : Env → M → Prop := fun _ _ => False
abbrev DTS := Env → M → DEnds → Prop
abbrev DTG := D → Env → M → (Env → M → Prop) → Prop
/-- what a def promises -/
abbrev DSp := List D → M → DK → Prop

def liftE (K : PySem.W.Frag) (t : DTE) : TE := fun σ H Q => ∃ env m R, EnvOk K m H σ env ∧ Sim K m H ∧ t env m R ∧
  ∀ d m' v H', R d m' → Fr m H m' H' → Sim K m' H' → Rep K m' H' d v → Q v H'
def liftT (K : PySem.W.Frag) (t : DTT) : TT := fun σ H Q => ∃ env m R, EnvOk K m H σ env ∧ Sim K m H ∧ t env m R ∧
  ∀ b m' H', R b m' → Fr m H m' H' → Sim K m' H' → Q b H'
def liftA (K : PySem.W.Frag) (t : DTA) : TA := fun σ H Q => ∃ env m R, EnvOk K m H σ env ∧ Sim K m H ∧ t env m R ∧
  ∀ ds m' vs H', R ds m' → Fr m H m' H' → Sim K m' H' → RepL K m' H' ds vs → Q vs H'
def liftS (K : PySem.W.Frag) (t : DTS) : TS := fun D σ H => ∃ env m E, EnvOk K m H σ env ∧ Sim K m H ∧ t env m E ∧
  (∀ env' m' σ' H', E.nx env' m' → EnvOk K m' H' σ' env' → Sim K m' H' → Fr m H m' H' → D.nx σ' H') ∧
  (∀ d m' v H', E.rt d m' → Fr m H m' H' → Sim K m' H' → Rep K m' H' d v → D.rt v H') ∧
  (∀ env' m' σ' H', E.bk env' m' → EnvOk K m' H' σ' env' → Sim K m' H' → Fr m H m' H' → D.bk σ' H') ∧
  (∀ env' m' σ' H', E.ct env' m' → EnvOk K m' H' σ' env' → Sim K m' H' → Fr m H m' H' → D.ct σ' H')
def liftG (K : PySem.W.Frag) (t : DTG) : TG := fun v σ H Q => ∃ d env m R, Rep K m H d v ∧ EnvOk K m H σ env ∧ Sim K m H ∧ t d env m R ∧
  ∀ env' m' σ' H', R env' m' → EnvOk K m' H' σ' env' → Sim K m' H' → Fr m H m' H' → Q σ' H'
def liftSp (K : PySem.W.Frag) (sp : DSp) : Sp := fun vs H Q _ => ∃ ds m R, RepL K m H ds vs ∧ Sim K m H ∧ sp ds m R ∧
  ∀ d m' v H', R d m' → Fr m H m' H' → Sim K m' H' → Rep K m' H' d v → Q v H'

structure DE (X : Cx) (e : Expr) (t : DTE) : Prop where run : PE X e (liftE X.K t)
structure DT (X : Cx) (e : Expr) (t : DTT) : Prop where run : PT X e (liftT X.K t)
structure DA (X : Cx) (es : List Expr) (t : DTA) : Prop where run : PA X es (liftA X.K t)
structure DS (X : Cx) (st : Stmt) (t : DTS) : Prop where run : PS X st (liftS X.K t)
structure DSs (X : Cx) (st : List Stmt) (t : DTS) : Prop where run : PSs X st (liftS X.K t)
structure DG (X : Cx) (e : Expr) (t : DTG) : Prop where run : PG X e (liftG X.K t)

theorem PE.weak {X : Cx} {e : Expr} {t t' : TE} (h : PE X e t) (k : ∀ σ H Q, t' σ H Q → t σ H Q) : PE X e t' := ⟨fun pins s σ H Q I q => h.run pins s σ H Q I (k σ H Q q)⟩
theorem PT.weak {X : Cx} {e : Expr} {t t' : TT} (h : PT X e t) (k : ∀ σ H Q, t' σ H Q → t σ H Q) : PT X e t' := ⟨fun pins s σ H Q I q => h.run pins s σ H Q I (k σ H Q q)⟩
theorem PA.weak {X : Cx} {e : List Expr} {t t' : TA} (h : PA X e t) (k : ∀ σ H Q, t' σ H Q → t σ H Q) : PA X e t' := ⟨fun pos pins s σ H Q I q => h.run pos pins s σ H Q I (k σ H Q q)⟩
theorem PS.weak {X : Cx} {e : Stmt} {t t' : TS} (h : PS X e t) (k : ∀ D σ H, t' D σ H → t D σ H) : PS X e t' := ⟨fun pins s σ H D I q => h.run pins s σ H D I (k D σ H q)⟩
theorem PSs.weak {X : Cx} {e : List Stmt} {t t' : TS} (h : PSs X e t) (k : ∀ D σ H, t' D σ H → t D σ H) : PSs X e t' := ⟨fun pins s σ H D I q => h.run pins s σ H D I (k D σ H q)⟩
theorem PG.weak {X : Cx} {e : Expr} {t t' : TG} (h : PG X e t) (k : ∀ v σ H Q, t' v σ H Q → t v σ H Q) : PG X e t' := ⟨fun pins s σ H v u Q I r q => h.run pins s σ H v u Q I r (k v σ H Q q)⟩
end DL
/-! ### DL2: rules of expressions over trees -/
namespace DL
open PySem PySem.Spec PyProof.Rows L2

def look (m : M) : D → D
  | .ref p => (m p).getD (.ref p)
  | d => d
/-- the content of a value -/
def Cont (K : PySem.W.Frag) (m : M) (H : Hp) : D → V → Prop
  | .lst ds, v => ∃ a vs, v = .ref a ∧ H a = some (.lst vs) ∧ RepL K m H ds vs
  | .dic ks ds, v => ∃ a vs, v = .ref a ∧ DicAt H a ks vs ∧ RepL K m H ds vs
  | .ins C ns ds, v => ∃ a dx fs, v = .ref a ∧ H a = some (.ins C dx fs) ∧ fs.map (·.1) = ns ∧ RepL K m H ds (fs.map (·.2))
  | d, v => Rep K m H d v
section
variable {K : PySem.W.Frag} {m m' : M} {H H' : Hp}
theorem cont_of (s : Sim K m H) {x : D} {v : V} (r : Rep K m H x v) : Cont K m H (look m x) v := by
  cases x with
  | ref p =>
    simp only [Rep] at r
    subst r
    cases e : m p with
    | none => simp only [look, e, Option.getD_none, Cont, Rep]
    | some d =>
      simp only [look, e, Option.getD_some]
      have q := s p d e
      cases d with
      | lst ds => obtain ⟨vs, h1, h2⟩ := q; exact ⟨p, vs, rfl, h1, h2⟩
      | dic ks ds => obtain ⟨kvs, h1, h2, h3⟩ := q; exact ⟨p, _, rfl, ⟨kvs, .inl h1, h2, rfl⟩, h3⟩
      | ins C ns ds => obtain ⟨dx, fs, h1, h2, h3⟩ := q; exact ⟨p, dx, fs, rfl, h1, h2, h3⟩
      | _ => exact q.elim
  | lst ds => simp only [Rep] at r; obtain ⟨a, vs, e, h1, h2⟩ := r; exact ⟨a, vs, e, h1.2, h2⟩
  | dic ks ds => simp only [Rep] at r; obtain ⟨a, vs, e, h0, h1, h2⟩ := r; exact ⟨a, vs, e, h1, h2⟩
  | ins C ns ds => simp only [Rep] at r; obtain ⟨a, dx, fs, e, h0, h1, h2, h3⟩ := r; exact ⟨a, dx, fs, e, h1, h2, h3⟩
  | tup ds => exact r
  | _ => exact r
theorem cont_int {i : Int} {v : V} (c : Cont K m H (.int i) v) : v = .int i := by simpa only [Cont, Rep] using c
theorem cont_bl {i : Bool} {v : V} (c : Cont K m H (.bl i) v) : v = .bl i := by simpa only [Cont, Rep] using c
theorem cont_str {i : Str} {v : V} (c : Cont K m H (.str i) v) : v = .str i := by simpa only [Cont, Rep] using c
theorem cont_non {v : V} (c : Cont K m H .non v) : v = .non := by simpa only [Cont, Rep] using c
theorem tupAt_sq {a : Addr} {vs : List V} (h : TupAt K m H a vs) : SqT K H a vs := by
  rcases h with ⟨_, h⟩ | h
  · exact .inl (.inl h)
  · exact .inr h
theorem cont_tup {ds : List D} {v : V} (c : Cont K m H (.tup ds) v) : ∃ a vs, v = .ref a ∧ TupAt K m H a vs ∧ RepL K m H ds vs := by simpa only [Cont, Rep] using c
theorem cont_lst {ds : List D} {v : V} (c : Cont K m H (.lst ds) v) : ∃ a vs, v = .ref a ∧ H a = some (.lst vs) ∧ RepL K m H ds vs := c
theorem cont_dic {ks ds : List D} {v : V} (c : Cont K m H (.dic ks ds) v) : ∃ a vs, v = .ref a ∧ DicAt H a ks vs ∧ RepL K m H ds vs := c
theorem cont_scr {ns : List Int} {v : V} (c : Cont K m H (.scr ns) v) : ∃ a, v = .ref a ∧ SqL K H a (ns.map V.int) := by
  simp only [Cont, Rep] at c
  obtain ⟨a, e, h⟩ := c
  exact ⟨a, e, h.sq⟩

theorem rep_int {i : Int} : Rep K m H (.int i) (.int i) := by simp only [Rep]
theorem rep_bl {i : Bool} : Rep K m H (.bl i) (.bl i) := by simp only [Rep]
theorem rep_str {i : Str} : Rep K m H (.str i) (.str i) := by simp only [Rep]
theorem rep_non : Rep K m H .non .non := by simp only [Rep]
theorem rep_ref {a : Addr} : Rep K m H (.ref a) (.ref a) := by simp only [Rep]
theorem rep_ty {a : String} : Rep K m H (.ty a) (.ty a) := by simp only [Rep]
/-- new ones -/
theorem new_tup (s : Sim K m H) {p : Addr} {ds : List D} {vs : List V} (hp : H p = none) (r : RepL K m H ds vs) : Rep K m (upd H p (.tup vs)) (.tup ds) (.ref p) := by
  simp only [Rep]; exact ⟨p, vs, rfl, .inl ⟨s.free hp, upd_same⟩, RepL.mono (Fr.laid s hp) _ _ r⟩
theorem new_lst (s : Sim K m H) {p : Addr} {ds : List D} {vs : List V} (hp : H p = none) (r : RepL K m H ds vs) : Rep K m (upd H p (.lst vs)) (.lst ds) (.ref p) := by
  simp only [Rep]; exact ⟨p, vs, rfl, ⟨s.free hp, upd_same⟩, RepL.mono (Fr.laid s hp) _ _ r⟩
theorem new_lstM (s : Sim K m H) {p : Addr} {ds : List D} {vs : List V} (hp : H p = none) (r : RepL K m H ds vs) : Sim K (updM m p (.lst ds)) (upd H p (.lst vs)) :=
  Sim.laidM s hp ⟨vs, upd_same, RepL.mono (Fr.laidM s hp) _ _ r⟩
end

/-! ### names, constants -/
def tV (i : Nat) : DTE := fun env m Q => ∃ d, env[i]? = some (some d) ∧ Q d m
def tK (d : D) : DTE := fun _ m Q => Q d m
section
variable {X : Cx} {e a b : Expr} {ta tb : DTE} {pos : Pos}
theorem dv (i : Nat) {x : Str} {pos : Pos} (hN : X.N[i]? = some x := by rfl) (hv : Vis X.env.scope x := by first | exact Or.inl rfl | exact Or.inr (Or.inl rfl) | exact Or.inr (Or.inr rfl)) (hd : (x == ("__debug__" : Str)) = false := by decide)
    (hcd : (x == ("__classdict__" : Str)) = false := by decide) : DE X (.Name x pos) (tV i) := ⟨PE.weak (pe_var hN hv hd hcd) fun σ H Q h => by
  obtain ⟨env, m, R, eo, s, ⟨d, e, r⟩, k⟩ := h
  obtain ⟨v, e1, rp⟩ := eo.get i d e
  exact ⟨v, e1, k d m v H r Fr.refl s rp⟩⟩
theorem de_c {d : D} {v : V} (h : PE X e (tC v)) (r : ∀ m H, Rep X.K m H d v) : DE X e (tK d) := ⟨PE.weak h fun σ H Q h => by
  obtain ⟨env, m, R, eo, s, r', k⟩ := h
  exact k d m v H r' Fr.refl s (r m H)⟩
theorem de_int {i : Int} {j pos} : DE X (.Constant (.int i) j pos) (tK (.int i)) := de_c pe_int fun _ _ => rep_int
theorem de_bl {b j pos} : DE X (.Constant (.bool b) j pos) (tK (.bl b)) := de_c pe_bl fun _ _ => rep_bl
theorem de_non {j pos} : DE X (.Constant .none j pos) (tK .non) := de_c pe_non fun _ _ => rep_non
theorem de_str {x j pos} : DE X (.Constant (.str x) j pos) (tK (.str x)) := de_c pe_str fun _ _ => rep_str
theorem de_glob {x : Str} {d : D} {v : V} {u : Value} {pos : Pos} (hm : X.mg x = some u) (r : RelV v u) (rd : ∀ m H, Rep X.K m H d v) (hg : Gl X x := by rfl) (hd : (x == ("__debug__" : Str)) = false := by decide) : DE X (.Name x pos) (tK d) :=
  de_c (pe_glob hg hm r hd) rd

/-! ### operators by values -/
def liftOp (K : PySem.W.Frag) (f : M → D → D → Option D) : R2 := fun v u H Q => ∃ x y m d, Rep K m H x v ∧ Rep K m H y u ∧ Sim K m H ∧ f m x y = some d ∧
  ∀ w H', Fr m H m H' → Sim K m H' → Rep K m H' d w → Q w H'
theorem opW {g : Value → Value → Sem Value} {r r' : R2} (h : OpR X g r) (k : ∀ x y H Q, r' x y H Q → r x y H Q) : OpR X g r' := fun pins s σ H x y v u Q I rx ry q => h pins s σ H x y v u Q I rx ry (k _ _ _ _ q)
def DOp (X : Cx) (g : Value → Value → Sem Value) (f : M → D → D → Option D) : Prop := OpR X g (liftOp X.K f)
def tBin (f : M → D → D → Option D) (ta tb : DTE) : DTE := fun env m Q => ta env m fun x m1 => tb env m1 fun y m2 => ∃ d, f m2 x y = some d ∧ Q d m2
def tBinT (f : M → D → D → Option D) (ta tb : DTE) : DTT := fun env m Q => ta env m fun x m1 => tb env m1 fun y m2 => ∃ b, f m2 x y = some (.bl b) ∧ Q b m2
theorem bin_lift {f : M → D → D → Option D} {σ : L2.St} {H : Hp} {Q : VK} (h : liftE X.K (tBin f ta tb) σ H Q) : tOp (liftOp X.K f) (liftE X.K ta) (liftE X.K tb) σ H Q := by
  obtain ⟨env, m, R, eo, s, h, k⟩ := h
  refine ⟨env, m, _, eo, s, h, fun x m1 v H1 h1 f1 s1 r1 => ?_⟩
  refine ⟨env, m1, _, eo.mono f1, s1, h1, fun y m2 u H2 h2 f2 s2 r2 => ?_⟩
  obtain ⟨d, e, h2⟩ := h2
  exact ⟨x, y, m2, d, Rep.mono f2 _ _ r1, r2, s2, e, fun w H' f3 s3 r3 => k d m2 w H' h2 ((f1.trans f2).trans f3) s3 r3⟩
theorem de_op {op : Operator} {f : M → D → D → Option D} (ho : DOp X (binaryOp op) f) (ha : DE X a ta) (hb : DE X b tb) : DE X (.BinOp a op b pos) (tBin f ta tb) :=
  ⟨PE.weak (pe_op ho ha.run hb.run) fun _ _ _ h => bin_lift h⟩
theorem de_cmp {op : CmpOp} {f : M → D → D → Option D} (ho : DOp X (compareOp op) f) (ha : DE X a ta) (hb : DE X b tb) (hm : behindInMarks op b = false := by first | exact nomark _ | rfl) : DE X (.Compare a [op] [b] pos) (tBin f ta tb) :=
  ⟨PE.weak (pe_cmpR ho ha.run hb.run hm) fun _ _ _ h => bin_lift h⟩
theorem dt_cmp {op : CmpOp} {f : M → D → D → Option D} (ho : DOp X (compareOp op) f) (ha : DE X a ta) (hb : DE X b tb) (hm : behindInMarks op b = false := by first | exact nomark _ | rfl) : DT X (.Compare a [op] [b] pos) (tBinT f ta tb) :=
  ⟨PT.weak (pt_cmpR ho ha.run hb.run hm) fun σ H Q h => by
    obtain ⟨env, m, R, eo, s, h, k⟩ := h
    refine ⟨env, m, _, eo, s, h, fun x m1 v H1 h1 f1 s1 r1 => ?_⟩
    refine ⟨env, m1, _, eo.mono f1, s1, h1, fun y m2 u H2 h2 f2 s2 r2 => ?_⟩
    obtain ⟨b, e, h2⟩ := h2
    refine ⟨x, y, m2, .bl b, Rep.mono f2 _ _ r1, r2, s2, e, fun w H' f3 s3 r3 => ⟨b, ?_, k b m2 H' h2 ((f1.trans f2).trans f3) s3⟩⟩
    simpa only [Rep] using r3⟩
/-- a < b < c -/
def tChainT (f g : M → D → D → Option D) (ta tb tc : DTE) : DTT := fun env m Q => ta env m fun x m1 => tb env m1 fun y m2 => ∃ b, f m2 x y = some (.bl b) ∧
  if b = true then tc env m2 fun z m3 => ∃ c, g m3 y z = some (.bl c) ∧ Q c m3 else Q false m2
theorem dt_chain {op op' : CmpOp} {f g : M → D → D → Option D} {c : Expr} {tc : DTE} (ho : DOp X (compareOp op) f) (ho' : DOp X (compareOp op') g) (ha : DE X a ta) (hb : DE X b tb) (hc : DE X c tc)
    (hm : lastMarks [op, op'] [b, c] = false := by with_unfolding_all rfl) :
    DT X (.Compare a [op, op'] [b, c] pos) (tChainT f g ta tb tc) :=
  ⟨PT.weak (pt_chain ho ho' ha.run hb.run hc.run hm) fun σ H Q h => by
    obtain ⟨env, m, R, eo, s, h, k⟩ := h
    refine ⟨env, m, _, eo, s, h, fun x m1 v H1 h1 f1 s1 r1 => ?_⟩
    refine ⟨env, m1, _, eo.mono f1, s1, h1, fun y m2 u H2 h2 f2 s2 r2 => ?_⟩
    obtain ⟨b, e, h2⟩ := h2
    refine ⟨x, y, m2, .bl b, Rep.mono f2 _ _ r1, r2, s2, e, fun w H' f3 s3 r3 => ?_⟩
    have e3 : w = .bl b := by simpa only [Rep] using r3
    subst e3
    refine ⟨b, rfl, ?_⟩
    have f13 := (f1.trans f2).trans f3
    cases b with
    | false =>
      simp only [Bool.false_eq_true, if_false] at h2 ⊢
      exact ⟨false, rfl, k false m2 H' h2 f13 s3⟩
    | true =>
      simp only [if_true] at h2 ⊢
      refine ⟨env, m2, _, eo.mono f13, s3, h2, fun z m4 u4 H4 h4 f4 s4 r4 => ?_⟩
      obtain ⟨c, e4, h4⟩ := h4
      refine ⟨y, z, m4, .bl c, Rep.mono (f3.trans f4) _ _ r2, r4, s4, e4, fun w5 H5 f5 s5 r5 => ⟨c, ?_, k c m4 H5 h4 ((f13.trans f4).trans f5) s5⟩⟩
      simpa only [Rep] using r5⟩
theorem DOp.of {g : Value → Value → Sem Value} {f : M → D → D → Option D} {r : R2} (h : OpR X g r)
    (k : ∀ x y m d v u H Q, Cont X.K m H (look m x) v → Cont X.K m H (look m y) u → Rep X.K m H x v → Rep X.K m H y u → Sim X.K m H → f m x y = some d → (∀ w H', Fr m H m H' → Sim X.K m H' → Rep X.K m H' d w → Q w H') → r v u H Q) : DOp X g f :=
  opW h fun v u H Q ⟨x, y, m, d, rx, ry, s, e, q⟩ => k x y m d v u H Q (cont_of s rx) (cont_of s ry) rx ry s e q

/-! ### + - * // % ** -/
def dAdd (m : M) (x y : D) : Option D := match look m x, look m y with
  | .int i, .int j => some (.int (i + j))
  | .str i, .str j => if i.length + j.length ≤ sizeLine then some (.str (i ++ j)) else none
  | .lst i, .lst j => if i.length + j.length ≤ sizeLine then some (.lst (i ++ j)) else none
  | .tup i, .tup j => if i.length + j.length ≤ sizeLine then some (.tup (i ++ j)) else none
  | _, _ => none
theorem do_add : DOp X (binaryOp .Add) dAdd := by
  refine DOp.of (op_add.or (op_add_str.or (op_cat.or op_catA))) fun x y m d v u H Q cx cy rx ry s e q => ?_
  unfold dAdd at e
  generalize look m x = cX at cx e
  generalize look m y = cY at cy e
  split at e
  · cases e
    rw [cont_int cx, cont_int cy]
    exact .inl ⟨_, _, rfl, rfl, q _ _ Fr.refl s rep_int⟩
  · split at e
    · rename_i hl; cases e
      rw [cont_str cx, cont_str cy]
      exact .inr (.inl ⟨_, _, rfl, rfl, hl, q _ _ Fr.refl s rep_str⟩)
    · cases e
  · split at e
    · rename_i hl; cases e
      obtain ⟨a, vs, rfl, ha, r1⟩ := cont_lst cx
      obtain ⟨b, us, rfl, hb, r2⟩ := cont_lst cy
      exact .inr (.inr (.inl ⟨a, b, vs, us, rfl, rfl, ha, hb, by rw [← r1.length, ← r2.length]; exact hl, fun p hp => q _ _ (Fr.laid s hp) (s.laid hp) (new_lst s hp (r1.append r2))⟩))
    · cases e
  · split at e
    · rename_i hl; cases e
      obtain ⟨a, vs, rfl, ha, r1⟩ := cont_tup cx
      obtain ⟨b, us, rfl, hb, r2⟩ := cont_tup cy
      refine .inr (.inr (.inr ⟨a, b, vs, us, rfl, rfl, tupAt_sq ha, tupAt_sq hb, by rw [← r1.length, ← r2.length]; exact hl, fun hv => ?_, fun hv hu => ?_, fun hv hu p hp => q _ _ (Fr.laid s hp) (s.laid hp) (new_tup s hp (r1.append r2))⟩))
      · subst hv
        have z := r1.length
        rw [List.length_nil, List.length_eq_zero_iff] at z
        subst z
        exact q _ _ Fr.refl s (by simp only [List.nil_append, Rep]; exact ⟨b, us, rfl, hb, r2⟩)
      · subst hu
        have z := r2.length
        rw [List.length_nil, List.length_eq_zero_iff] at z
        subst z
        exact q _ _ Fr.refl s (by simp only [List.append_nil, Rep]; exact ⟨a, vs, rfl, ha, r1⟩)
    · cases e
  · cases e
def d2I (f : Int → Int → Option D) (m : M) (x y : D) : Option D := match look m x, look m y with
  | .int i, .int j => f i j
  | _, _ => none
theorem do_2I {g : Value → Value → Sem Value} {f : Int → Int → Option D} {C : Int → Int → Prop} {h : Int → Int → V} (ho : OpR X g (rI C h)) (k : ∀ i j d, f i j = some d → C i j ∧ ∀ m H, Rep X.K m H d (h i j)) : DOp X g (d2I f) := by
  refine DOp.of ho fun x y m d v u H Q cx cy rx ry s e q => ?_
  unfold d2I at e
  generalize look m x = cX at cx e
  generalize look m y = cY at cy e
  split at e
  · obtain ⟨c, r⟩ := k _ _ _ e
    rw [cont_int cx, cont_int cy]
    exact ⟨_, _, rfl, rfl, c, q _ _ Fr.refl s (r m H)⟩
  · cases e
theorem do_2I0 {g : Value → Value → Sem Value} {f : Int → Int → Option D} {h : Int → Int → V} (ho : OpR X g (rI0 h)) (k : ∀ i j d, f i j = some d → ∀ m H, Rep X.K m H d (h i j)) : DOp X g (d2I f) := by
  refine DOp.of ho fun x y m d v u H Q cx cy rx ry s e q => ?_
  unfold d2I at e
  generalize look m x = cX at cx e
  generalize look m y = cY at cy e
  split at e
  · rw [cont_int cx, cont_int cy]
    exact ⟨_, _, rfl, rfl, q _ _ Fr.refl s (k _ _ _ e m H)⟩
  · cases e
abbrev dSub := d2I fun i j => some (.int (i - j))
theorem do_sub : DOp X (binaryOp .Sub) dSub := do_2I0 op_sub fun i j d e m H => by cases e; exact rep_int
abbrev dMod := d2I fun i j => if 0 < j then some (.int (i % j)) else none
theorem do_mod : DOp X (binaryOp .Mod) dMod := do_2I op_mod fun i j d e => by
  split at e
  · cases e; exact ⟨by assumption, fun _ _ => rep_int⟩
  · cases e
abbrev dDiv := d2I fun i j => if 0 < j ∧ j < 1073741824 then some (.int (i / j)) else none
theorem do_div : DOp X (binaryOp .FloorDiv) dDiv := do_2I op_fdiv fun i j d e => by
  split at e
  · cases e; exact ⟨by assumption, fun _ _ => rep_int⟩
  · cases e
abbrev dPow := d2I fun i j => if 0 ≤ j ∧ j ≤ 1000000 ∧ i.natAbs < 2 ^ 64 then some (.int (i ^ j.toNat)) else none
theorem do_pow : DOp X (binaryOp .Pow) dPow := do_2I op_pow fun i j d e => by
  split at e
  · cases e; exact ⟨by assumption, fun _ _ => rep_int⟩
  · cases e
abbrev dShl := d2I fun i j => if 0 ≤ j ∧ j ≤ 1000000 ∧ i.natAbs < 2 ^ 64 then some (.int (i * 2 ^ j.toNat)) else none
theorem do_shl : DOp X (binaryOp .LShift) dShl := do_2I op_shl fun i j d e => by
  split at e
  · cases e; exact ⟨by assumption, fun _ _ => rep_int⟩
  · cases e
abbrev dShr := d2I fun i j => if 0 ≤ j then some (.int (i / 2 ^ j.toNat)) else none
theorem do_shr : DOp X (binaryOp .RShift) dShr := do_2I op_shr fun i j d e => by
  split at e
  · cases e; exact ⟨by assumption, fun _ _ => rep_int⟩
  · cases e
abbrev dAnd := d2I fun i j => some (.int (Builtin.bitAnd i j))
theorem do_and : DOp X (binaryOp .BitAnd) dAnd := do_2I0 op_and fun i j d e m H => by cases e; exact rep_int
abbrev dOr := d2I fun i j => some (.int (Builtin.bitOr i j))
theorem do_or : DOp X (binaryOp .BitOr) dOr := do_2I0 op_or fun i j d e m H => by cases e; exact rep_int
abbrev dXor := d2I fun i j => some (.int (Builtin.bitXor i j))
theorem do_xor : DOp X (binaryOp .BitXor) dXor := do_2I0 op_xor fun i j d e m H => by cases e; exact rep_int
end
end DL
/-! ### DL3: equality, membership, items, slices, conversions -/
namespace DL
open PySem PySem.Spec PyProof.Rows L2

mutual
def toPd : D → PyData
  | .non => .none
  | .bl b => .bool b
  | .int i => .int i
  | .str x => .str x
  | .tup xs => .tuple (toPdL xs)
  | .lst xs => .list (toPdL xs)
  | .dic _ _ => .none
  | .ins _ _ _ => .none
  | .ref _ => .none
  | .ty _ => .none
  | .scr _ => .none
def toPdL : List D → List PyData
  | [] => []
  | d :: ds => toPd d :: toPdL ds
end
mutual
/-- data of at most this depth -/
def dat : Nat → D → Bool
  | _, .non => true
  | _, .bl _ => true
  | _, .int _ => true
  | _, .str x => PySem.PyData.strOk x
  | n + 1, .tup xs => datL n xs
  | n + 1, .lst xs => datL n xs
  | _, _ => false
def datL : Nat → List D → Bool
  | _, [] => true
  | n, d :: ds => dat n d && datL n ds
end
theorem toPdL_map (xs : List D) : toPdL xs = xs.map toPd := by
  induction xs with
  | nil => rfl
  | cons d ds ih => rw [List.map_cons, ← ih]; rfl
theorem datL_all (n : Nat) (xs : List D) : datL n xs = xs.all (dat n) := by
  induction xs with
  | nil => rfl
  | cons d ds ih => rw [List.all_cons, ← ih]; rfl
mutual
theorem dat_lay : ∀ (n : Nat) (d : D), dat n d = true → (toPd d).canLay0 = true ∧ (toPd d).depth ≤ n
  | n, .non, h => by simp [toPd, PyData.canLay0, PyData.depth]
  | n, .bl _, h => by simp [toPd, PyData.canLay0, PyData.depth]
  | n, .int _, h => by simp [toPd, PyData.canLay0, PyData.depth]
  | n, .str _, h => by simp only [dat] at h; simp [toPd, PyData.canLay0, PyData.depth, h]
  | n + 1, .tup xs, h => by
    simp only [dat] at h
    obtain ⟨h1, h2⟩ := dat_layL n xs h
    simp only [toPd, PyData.canLay0, PyData.depth]
    exact ⟨h1, by omega⟩
  | n + 1, .lst xs, h => by
    simp only [dat] at h
    obtain ⟨h1, h2⟩ := dat_layL n xs h
    simp only [toPd, PyData.canLay0, PyData.depth]
    exact ⟨h1, by omega⟩
  | 0, .tup xs, h => by simp only [dat] at h; cases h
  | 0, .lst xs, h => by simp only [dat] at h; cases h
  | n, .dic _ _, h => by cases n <;> simp only [dat] at h <;> cases h
  | n, .ins _ _ _, h => by cases n <;> simp only [dat] at h <;> cases h
  | n, .ref _, h => by cases n <;> simp only [dat] at h <;> cases h
  | n, .ty _, h => by cases n <;> simp only [dat] at h <;> cases h
  | n, .scr _, h => by cases n <;> simp only [dat] at h <;> cases h
theorem dat_layL : ∀ (n : Nat) (ds : List D), datL n ds = true → PyData.canLayAll0 (toPdL ds) = true ∧ PyData.depthAll (toPdL ds) ≤ n
  | n, [], h => by simp [toPdL, PyData.canLayAll0, PyData.depthAll]
  | n, d :: ds, h => by
    simp only [datL, Bool.and_eq_true] at h
    obtain ⟨h1, h2⟩ := dat_lay n d h.1
    obtain ⟨h3, h4⟩ := dat_layL n ds h.2
    simp only [toPdL, PyData.canLayAll0, PyData.depthAll, Bool.and_eq_true]
    exact ⟨⟨h1, h3⟩, by omega⟩
end
theorem dat_shaped {n : Nat} {d : D} (hn : n ≤ 64) (h : dat n d = true) : SeqAt.shaped (toPd d) = true := by
  obtain ⟨h1, h2⟩ := dat_lay n d h
  unfold SeqAt.shaped
  rw [h1, decide_eq_true (by omega)]; rfl
section
variable {K : PySem.W.Frag} {m : M} {H : Hp}
mutual
theorem rep_dp (s : Sim K m H) : ∀ (n : Nat) (d : D) (v : V), dat n d = true → Rep K m H d v → Dp K H v (toPd d)
  | n, .non, v, _, r => by simp only [Rep] at r; subst r; exact .non
  | n, .bl _, v, _, r => by simp only [Rep] at r; subst r; exact .bl _
  | n, .int _, v, _, r => by simp only [Rep] at r; subst r; exact .int _
  | n, .str _, v, _, r => by simp only [Rep] at r; subst r; exact .str _
  | n + 1, .tup xs, v, h, r => by
    simp only [dat] at h
    simp only [Rep] at r
    obtain ⟨a, vs, rfl, h1, h2⟩ := r
    exact .tup (tupAt_sq h1) (rep_dpL s n xs vs h h2)
  | n + 1, .lst xs, v, h, r => by
    simp only [dat] at h
    simp only [Rep] at r
    obtain ⟨a, vs, rfl, h1, h2⟩ := r
    exact .lst (.of h1.2) (rep_dpL s n xs vs h h2)
  | 0, .tup xs, _, h, _ => by simp only [dat] at h; cases h
  | 0, .lst xs, _, h, _ => by simp only [dat] at h; cases h
  | n, .dic _ _, _, h, _ => by cases n <;> simp only [dat] at h <;> cases h
  | n, .ins _ _ _, _, h, _ => by cases n <;> simp only [dat] at h <;> cases h
  | n, .ref _, _, h, _ => by cases n <;> simp only [dat] at h <;> cases h
  | n, .ty _, _, h, _ => by cases n <;> simp only [dat] at h <;> cases h
  | n, .scr _, _, h, _ => by cases n <;> simp only [dat] at h <;> cases h
theorem rep_dpL (s : Sim K m H) : ∀ (n : Nat) (ds : List D) (vs : List V), datL n ds = true → RepL K m H ds vs → DpAll K H vs (toPdL ds)
  | n, [], vs, _, r => by simp only [RepL] at r; subst r; exact .nil
  | n, d :: ds, vs, h, r => by
    simp only [datL, Bool.and_eq_true] at h
    simp only [RepL] at r
    obtain ⟨v, r', rfl, h1, h2⟩ := r
    exact .cons (rep_dp s n d v h.1 h1) (rep_dpL s n ds r' h.2 h2)
end
theorem cont_dp (s : Sim K m H) {n : Nat} {d : D} {v : V} (h : dat n d = true) (c : Cont K m H d v) : Dp K H v (toPd d) := by
  cases d with
  | lst xs =>
    obtain ⟨a, vs, rfl, h1, h2⟩ := c
    cases n with
    | zero => simp only [dat] at h; cases h
    | succ n => simp only [dat] at h; exact .lst (.of h1) (rep_dpL s n xs vs h h2)
  | dic _ _ => cases n <;> simp only [dat] at h <;> cases h
  | ins _ _ _ => cases n <;> simp only [dat] at h <;> cases h
  | tup xs => exact rep_dp s n _ v h c
  | _ => exact rep_dp s n _ v h c
end

def eqvD (x y : D) : Bool := PyData.eqv (toPd x) (toPd y)
def dEqB (x y : D) : Option Bool := match x, y with
  | .int i, .int j => some (decide (i = j))
  | .str i, .str j => some (decide (i = j))
  | .bl i, .bl j => some (decide (i = j))
  | .non, .non => some true
  | .non, .int _ => some false
  | .int _, .non => some false
  | .non, .str _ => some false
  | .str _, .non => some false
  | .non, .bl _ => some false
  | .bl _, .non => some false
  | .int _, .str _ => some false
  | .str _, .int _ => some false
  | .bl _, .str _ => some false
  | .str _, .bl _ => some false
  | x, y => if dat 60 x = true ∧ dat 60 y = true then some (eqvD x y) else none
def dEq (m : M) (x y : D) : Option D := (dEqB (look m x) (look m y)).map .bl
def dNe (m : M) (x y : D) : Option D := (dEqB (look m x) (look m y)).map fun b => .bl (!b)
section
variable {X : Cx}
theorem do_eqneg (hu : X.A.units + 65 < cLine) : DOp X (compareOp .Eq) dEq ∧ DOp X (compareOp .NotEq) dNe := by
  have main : ∀ (neg : Bool) (x y : D) (m : M) (d : D) (v u : V) (H : Hp) (Q : VK), Cont X.K m H (look m x) v → Cont X.K m H (look m y) u → Sim X.K m H →
      (dEqB (look m x) (look m y)).map (fun b => D.bl (neg ^^ b)) = some d → (∀ w H', Fr m H m H' → Sim X.K m H' → Rep X.K m H' d w → Q w H') →
      (scal v u = true ∧ Q (.bl (neg ^^ decide (v = u))) H) ∨ ∃ p q, Dp X.K H v p ∧ Dp X.K H u q ∧ SeqAt.shaped p = true ∧ SeqAt.shaped q = true ∧ Q (.bl (neg ^^ PyData.eqv p q)) H := by
    intro neg x y m d v u H Q cx cy s e q
    generalize look m x = cX at cx e
    generalize look m y = cY at cy e
    unfold dEqB at e
    split at e <;> (try (cases e))
    · rw [cont_int cx, cont_int cy]; exact .inl ⟨rfl, by simpa using q _ _ Fr.refl s rep_bl⟩
    · rw [cont_str cx, cont_str cy]; exact .inl ⟨rfl, by simpa using q _ _ Fr.refl s rep_bl⟩
    · rw [cont_bl cx, cont_bl cy]; exact .inl ⟨rfl, by simpa using q _ _ Fr.refl s rep_bl⟩
    · rw [cont_non cx, cont_non cy]; exact .inl ⟨rfl, by simpa using q _ _ Fr.refl s rep_bl⟩
    · rw [cont_non cx, cont_int cy]; exact .inl ⟨rfl, by simpa using q _ _ Fr.refl s rep_bl⟩
    · rw [cont_int cx, cont_non cy]; exact .inl ⟨rfl, by simpa using q _ _ Fr.refl s rep_bl⟩
    · rw [cont_non cx, cont_str cy]; exact .inl ⟨rfl, by simpa using q _ _ Fr.refl s rep_bl⟩
    · rw [cont_str cx, cont_non cy]; exact .inl ⟨rfl, by simpa using q _ _ Fr.refl s rep_bl⟩
    · rw [cont_non cx, cont_bl cy]; exact .inl ⟨rfl, by simpa using q _ _ Fr.refl s rep_bl⟩
    · rw [cont_bl cx, cont_non cy]; exact .inl ⟨rfl, by simpa using q _ _ Fr.refl s rep_bl⟩
    · rw [cont_int cx, cont_str cy]; exact .inl ⟨rfl, by simpa using q _ _ Fr.refl s rep_bl⟩
    · rw [cont_str cx, cont_int cy]; exact .inl ⟨rfl, by simpa using q _ _ Fr.refl s rep_bl⟩
    · rw [cont_bl cx, cont_str cy]; exact .inl ⟨rfl, by simpa using q _ _ Fr.refl s rep_bl⟩
    · rw [cont_str cx, cont_bl cy]; exact .inl ⟨rfl, by simpa using q _ _ Fr.refl s rep_bl⟩
    · split at e
      · rename_i h
        cases e
        exact .inr ⟨_, _, cont_dp s h.1 cx, cont_dp s h.2 cy, dat_shaped (by decide) h.1, dat_shaped (by decide) h.2, q _ _ Fr.refl s rep_bl⟩
      · cases e
  constructor
  · refine DOp.of (op_eq.or (op_eqD (by omega))) fun x y m d v u H Q cx cy rx ry s e q => ?_
    have := main false x y m d v u H Q cx cy s (by simpa [dEq] using e) q
    simpa only [Bool.false_xor, rEq, rEqD] using this
  · refine DOp.of (op_ne.or (op_neD (by omega))) fun x y m d v u H Q cx cy rx ry s e q => ?_
    have := main true x y m d v u H Q cx cy s (by simpa [dNe] using e) q
    simpa only [Bool.true_xor, rNe, rNeD] using this
theorem do_eq (hu : X.A.units + 65 < cLine) : DOp X (compareOp .Eq) dEq := (do_eqneg hu).1
theorem do_ne (hu : X.A.units + 65 < cLine) : DOp X (compareOp .NotEq) dNe := (do_eqneg hu).2

/-! ### order -/
def d2IB (f : Int → Int → Bool) (g : Str → Str → Bool) (m : M) (x y : D) : Option D := match look m x, look m y with
  | .int i, .int j => some (.bl (f i j))
  | .str i, .str j => some (.bl (g i j))
  | _, _ => none
theorem do_2IB {h : Value → Value → Sem Value} {f : Int → Int → Bool} {g : Str → Str → Bool} (ho : OpR X h (rI0 fun i j => .bl (f i j)))
    (hs : OpR X h (fun x y H Q => ∃ i j, x = .str i ∧ y = .str j ∧ Q (.bl (g i j)) H)) : DOp X h (d2IB f g) := by
  refine DOp.of (ho.or hs) fun x y m d v u H Q cx cy rx ry s e q => ?_
  unfold d2IB at e
  generalize look m x = cX at cx e
  generalize look m y = cY at cy e
  split at e
  · cases e; rw [cont_int cx, cont_int cy]; exact .inl ⟨_, _, rfl, rfl, q _ _ Fr.refl s rep_bl⟩
  · cases e; rw [cont_str cx, cont_str cy]; exact .inr ⟨_, _, rfl, rfl, q _ _ Fr.refl s rep_bl⟩
  · cases e
def ltS (i j : Str) : Bool := decide (i.cps.toList < j.cps.toList)
abbrev dLt := d2IB (fun i j => decide (i < j)) (fun i j => ltS i j)
abbrev dGt := d2IB (fun i j => decide (j < i)) (fun i j => ltS j i)
abbrev dLe := d2IB (fun i j => decide (i ≤ j)) (fun i j => !ltS j i)
abbrev dGe := d2IB (fun i j => decide (j ≤ i)) (fun i j => !ltS i j)
theorem do_lt : DOp X (compareOp .Lt) dLt := do_2IB op_lt op_lt_str
theorem do_gt : DOp X (compareOp .Gt) dGt := do_2IB op_gt op_gt_str
theorem do_le : DOp X (compareOp .LtE) dLe := do_2IB op_le op_le_str
theorem do_ge : DOp X (compareOp .GtE) dGe := do_2IB op_ge op_ge_str
/-! ### is -/
def dIs (m : M) (x y : D) : Option D := match x, y with
  | .non, .non => some (.bl true)
  | .bl a, .bl b => some (.bl (decide (a = b)))
  | x, .non => some (.bl false)
  | _, _ => none
def dIsNot (m : M) (x y : D) : Option D := match x, y with
  | .non, .non => some (.bl false)
  | .bl a, .bl b => some (.bl (!decide (a = b)))
  | x, .non => some (.bl true)
  | _, _ => none
theorem rep_ne_non {K : PySem.W.Frag} {m : M} {H : Hp} {x : D} {v : V} (r : Rep K m H x v) (h : x ≠ .non) : v ≠ .non := by
  intro e; subst e
  cases x with
  | non => exact h rfl
  | tup _ => simp only [Rep] at r; obtain ⟨_, _, e, _⟩ := r; cases e
  | lst _ => simp only [Rep] at r; obtain ⟨_, _, e, _⟩ := r; cases e
  | dic _ _ => simp only [Rep] at r; obtain ⟨_, _, e, _⟩ := r; cases e
  | ins _ _ _ => simp only [Rep] at r; obtain ⟨_, _, _, e, _⟩ := r; cases e
  | scr _ => simp only [Rep] at r; obtain ⟨_, e, _⟩ := r; cases e
  | _ => simp only [Rep] at r; cases r
theorem do_is : DOp X (compareOp .Is) dIs := opW (op_isN.or op_isBl) fun v u H Q ⟨x, y, m, d, rx, ry, s, e, q⟩ => by
  unfold dIs at e
  split at e
  · cases e
    simp only [Rep] at rx ry; subst rx; subst ry
    exact .inl ⟨rfl, q _ _ Fr.refl s rep_bl⟩
  · cases e
    simp only [Rep] at rx ry; subst rx; subst ry
    exact .inr ⟨_, _, rfl, rfl, q _ _ Fr.refl s rep_bl⟩
  · rename_i h
    cases e
    simp only [Rep] at ry; subst ry
    refine .inl ⟨rfl, ?_⟩
    rw [decide_eq_false (rep_ne_non rx h)]
    exact q _ _ Fr.refl s rep_bl
  · cases e
theorem do_isnot : DOp X (compareOp .IsNot) dIsNot := opW (op_notN.or op_notBl) fun v u H Q ⟨x, y, m, d, rx, ry, s, e, q⟩ => by
  unfold dIsNot at e
  split at e
  · cases e
    simp only [Rep] at rx ry; subst rx; subst ry
    exact .inl ⟨rfl, q _ _ Fr.refl s rep_bl⟩
  · cases e
    simp only [Rep] at rx ry; subst rx; subst ry
    exact .inr ⟨_, _, rfl, rfl, q _ _ Fr.refl s rep_bl⟩
  · rename_i h
    cases e
    simp only [Rep] at ry; subst ry
    refine .inl ⟨rfl, ?_⟩
    rw [decide_eq_false (rep_ne_non rx h)]
    exact q _ _ Fr.refl s rep_bl
  · cases e
end
end DL
/-! ### DL4: membership, items, slices -/
namespace DL
open PySem PySem.Spec PyProof.Rows L2

def keyOf : D → Option Key
  | .int i => some (.inl i)
  | .str x => some (.inr x)
  | _ => none
theorem keyOf_eq {d : D} {k : Key} (h : keyOf d = some k) : d = kD k := by
  cases d <;> simp [keyOf] at h <;> subst h <;> rfl
theorem keyOf_kD (k : Key) : keyOf (kD k) = some k := by cases k <;> rfl
theorem kD_inj {a b : Key} (h : kD a = kD b) : a = b := by
  cases a <;> cases b <;> simp [kD] at h <;> subst h <;> rfl
theorem rep_kD {K : PySem.W.Frag} {m : M} {H : Hp} {k : Key} {v : V} (r : Rep K m H (kD k) v) : v = kV k := by
  cases k <;> simpa only [kD, Rep, kV] using r
/-- the value at a key -/
def dlook : List D → List D → Key → Option D
  | k :: ks, v :: vs, q => if keyOf k = some q then some v else dlook ks vs q
  | _, _, _ => none
/-- what a store makes of the keys, of the values -/
def isKey (q : Key) (k : D) : Bool := decide (keyOf k = some q)
def dputK (ks : List D) (q : Key) : List D := if ks.any (isKey q) = true then ks else ks ++ [kD q]
def dputV (ks vs : List D) (q : Key) (d : D) : List D := if ks.any (isKey q) = true then List.zipWith (fun k v => if isKey q k = true then d else v) ks vs else vs ++ [d]
section
variable {K : PySem.W.Frag} {m : M} {H : Hp}
theorem dlook_V : ∀ {kvs : List (Key × V)} {ds : List D}, RepL K m H ds (kvs.map (·.2)) → ∀ q : Key, (valV kvs q = none ∧ dlook (kvs.map fun kv => kD kv.1) ds q = none) ∨
    ∃ d v, dlook (kvs.map fun kv => kD kv.1) ds q = some d ∧ valV kvs q = some v ∧ Rep K m H d v
  | [], ds, r, q => by
    left
    cases ds with
    | nil => simp [dlook, valV]
    | cons d ds => simp [dlook, valV]
  | kv :: kvs, ds, r, q => by
    cases ds with
    | nil => simp only [List.map_cons, RepL] at r; cases r
    | cons d ds =>
      simp only [List.map_cons, RepL] at r
      obtain ⟨v, r', e, h1, h2⟩ := r
      cases e
      simp only [List.map_cons, dlook, keyOf_kD, Option.some.injEq]
      by_cases hq : kv.1 = q
      · right
        simp only [hq, if_true]
        exact ⟨d, kv.2, rfl, valV_pos hq, h1⟩
      · simp only [hq, if_false]
        rw [valV_neg hq]
        exact dlook_V h2 q
theorem any_isKey (q : Key) : ∀ kvs : List (Key × V), (kvs.any fun kv => decide (kv.1 = q)) = (kvs.map fun kv => kD kv.1).any (isKey q)
  | [] => rfl
  | kv :: kvs => by
    have e : isKey q (kD kv.1) = decide (kv.1 = q) := by unfold isKey; rw [keyOf_kD]; simp
    rw [List.any_cons, List.map_cons, List.any_cons, any_isKey q kvs, e]
theorem putK_map (q : Key) (v : V) (kvs : List (Key × V)) : (putK kvs q v).map (fun kv => kD kv.1) = dputK (kvs.map fun kv => kD kv.1) q := by
  unfold putK dputK
  rw [any_isKey q kvs]
  split
  · rw [List.map_map]
    refine List.map_congr_left fun kv hk => ?_
    simp only [Function.comp]
    split <;> rfl
  · rw [List.map_append]; rfl
theorem putV_rep (q : Key) {v : V} {d : D} (rd : Rep K m H d v) (kvs : List (Key × V)) (ds : List D) (r : RepL K m H ds (kvs.map (·.2))) :
    RepL K m H (dputV (kvs.map fun kv => kD kv.1) ds q d) ((putK kvs q v).map (·.2)) := by
  unfold putK dputV
  rw [any_isKey q kvs]
  split
  · rename_i hh; clear hh
    induction kvs generalizing ds with
    | nil => simp [RepL]
    | cons kv kvs ih =>
      cases ds with
      | nil => simp only [List.map_cons, RepL] at r; cases r
      | cons d0 ds =>
        simp only [List.map_cons, RepL] at r
        obtain ⟨v0, r', e, h1, h2⟩ := r
        cases e
        have e : isKey q (kD kv.1) = decide (kv.1 = q) := by unfold isKey; rw [keyOf_kD]; simp
        simp only [List.map_cons, List.zipWith_cons_cons, e]
        refine .cons ?_ (ih ds h2)
        by_cases hq : kv.1 = q
        · simpa [hq] using rd
        · simpa [hq] using h1
  · rw [List.map_append]
    exact r.snoc rd
end

def flatD : D → Bool
  | .non => true
  | .bl _ => true
  | .int _ => true
  | .str _ => true
  | _ => false
theorem flat_V {K : PySem.W.Frag} {m : M} {H : Hp} {d : D} {v : V} (h : flatD d = true) (r : Rep K m H d v) : flatV v = true ∧ ∀ {d' : D} {v' : V}, flatD d' = true → Rep K m H d' v' → eqV v v' = eqvD d d' := by
  cases d with
  | non | bl _ | int _ | str _ =>
    simp only [Rep] at r; subst r
    refine ⟨rfl, fun {d' v'} h' r' => ?_⟩
    cases d' with
    | non | bl _ | int _ | str _ => simp only [Rep] at r'; subst r'; simp [eqV, eqvD, toPd, PyData.eqv]
    | _ => cases h'
  | _ => cases h
theorem flat_inV {K : PySem.W.Frag} {m : M} {H : Hp} {x : D} {v : V} (hx : flatD x = true) (rx : Rep K m H x v) : ∀ {ds : List D} {vs : List V}, ds.all flatD = true → RepL K m H ds vs →
    vs.all flatV = true ∧ inV v vs = ds.any fun y => eqvD y x
  | [], vs, _, r => by simp only [RepL] at r; subst r; exact ⟨rfl, rfl⟩
  | d :: ds, vs, h, r => by
    simp only [RepL] at r
    obtain ⟨u, r', rfl, h1, h2⟩ := r
    simp only [List.all_cons, Bool.and_eq_true] at h
    obtain ⟨i1, i2⟩ := flat_inV hx rx h.2 h2
    obtain ⟨f1, f2⟩ := flat_V h.1 h1
    refine ⟨by simp [f1, i1], ?_⟩
    unfold inV at i2 ⊢
    simp only [List.any_cons, i2, f2 hx rx]
def strIn (x z : Str) : Bool := !(Builtin.Str.occurrences z x 0 z.length 1).isEmpty
def dInB (m : M) (x y : D) : Option Bool := match look m y with
  | .lst ds => if (flatD x = true ∧ ds.all flatD = true) ∨ (dat 60 x = true ∧ datL 59 ds = true) then some (ds.any fun y => eqvD y x) else none
  | .tup ds => if (flatD x = true ∧ ds.all flatD = true) ∨ (dat 60 x = true ∧ datL 59 ds = true) then some (ds.any fun y => eqvD y x) else none
  | .dic ks vs => (keyOf x).map fun k => (dlook ks vs k).isSome
  | .str z => match x with
    | .str a => some (strIn a z)
    | _ => none
  | _ => none
def dIn (m : M) (x y : D) : Option D := (dInB m x y).map .bl
def dNotIn (m : M) (x y : D) : Option D := (dInB m x y).map fun b => .bl (!b)
section
variable {X : Cx}
def rInT (K : PySem.W.Frag) (neg : Bool) : R2 := fun x y H Q => ∃ d ds, Dp K H x d ∧ (Dp K H y (.tuple ds) ∨ Dp K H y (.list ds)) ∧ SeqAt.shaped d = true ∧ SeqAt.shaped (.list ds) = true ∧ Q (.bl (neg ^^ ds.any fun z => PyData.eqv z d)) H
theorem shaped_tl {ds : List PyData} (h : SeqAt.shaped (.list ds) = true) : SeqAt.shaped (.tuple ds) = true := by
  unfold SeqAt.shaped at h ⊢
  exact h
theorem op_inT (hu : X.A.units + 65 < cLine) : OpR X (compareOp .In) (rInT X.K false) := by
  intro pins s σ H x y v u Q I rx ry h
  obtain ⟨d, ds, hd, he, sd, se, q⟩ := h
  simp only [Bool.false_xor] at q
  obtain ⟨as, r1⟩ := Dp.reads I d x v hd rx
  rcases he with he | he
  · obtain ⟨bs, r2⟩ := Dp.reads I (.tuple ds) y u he ry
    exact SeqAt.in_tuple_reads r2 r1 (SeqAt.canLay_of_shaped se) (SeqAt.canLay_of_shaped sd) (PyProof.Rows.room_in_shaped sd hu) ⟨.bl _, H, I, rfl, q⟩
  · obtain ⟨bs, r2⟩ := Dp.reads I (.list ds) y u he ry
    exact SeqAt.in_list_reads r2 r1 (SeqAt.canLay_of_shaped se) (SeqAt.canLay_of_shaped sd) (PyProof.Rows.room_in_shaped sd hu) ⟨.bl _, H, I, rfl, q⟩
theorem op_notInT (hu : X.A.units + 65 < cLine) : OpR X (compareOp .NotIn) (rInT X.K true) := by
  intro pins s σ H x y v u Q I rx ry h
  obtain ⟨d, ds, hd, he, sd, se, q⟩ := h
  simp only [Bool.true_xor] at q
  obtain ⟨as, r1⟩ := Dp.reads I d x v hd rx
  rcases he with he | he
  · obtain ⟨bs, r2⟩ := Dp.reads I (.tuple ds) y u he ry
    exact SeqAt.notIn_tuple_reads r2 r1 (SeqAt.canLay_of_shaped se) (SeqAt.canLay_of_shaped sd) (PyProof.Rows.room_in_shaped sd hu) ⟨.bl _, H, I, rfl, q⟩
  · obtain ⟨bs, r2⟩ := Dp.reads I (.list ds) y u he ry
    exact SeqAt.notIn_list_reads r2 r1 (SeqAt.canLay_of_shaped se) (SeqAt.canLay_of_shaped sd) (PyProof.Rows.room_in_shaped sd hu) ⟨.bl _, H, I, rfl, q⟩
def rInDict (neg : Bool) : R2 := fun x y H Q => ∃ a o, y = .ref a ∧ DGet H a x o ∧ Q (.bl (neg ^^ o.isSome)) H
theorem op_inDict (hu : X.A.units + 65 < cLine) : OpR X (compareOp .In) (rInDict false) := by
  intro pins s σ H x y v u Q I rx ry h
  obtain ⟨a, o, rfl, g, q⟩ := h
  cases ry
  simp only [Bool.false_xor] at q
  exact d_in (by omega) I g rx fun s' I' => ⟨.bl _, H, I', rfl, q⟩
theorem op_notInDict (hu : X.A.units + 65 < cLine) : OpR X (compareOp .NotIn) (rInDict true) := by
  intro pins s σ H x y v u Q I rx ry h
  obtain ⟨a, o, rfl, g, q⟩ := h
  cases ry
  simp only [Bool.true_xor] at q
  exact d_notIn (by omega) I g rx fun s' I' => ⟨.bl _, H, I', rfl, q⟩
theorem datL_shaped {ds : List D} (h : datL 59 ds = true) : SeqAt.shaped (.list (toPdL ds)) = true := by
  have := dat_shaped (n := 60) (d := .lst ds) (by decide) (by simpa only [dat] using h)
  simpa only [toPd] using this
theorem in_main (neg : Bool) {x y : D} {m : M} {b : Bool} {v u : V} {H : Hp} {Q : VK} (cy : Cont X.K m H (look m y) u) (rx : Rep X.K m H x v) (s : Sim X.K m H) (e : dInB m x y = some b) (q : Q (.bl (neg ^^ b)) H) :
    rIn X.K neg v u H Q ∨ rInT X.K neg v u H Q ∨ rInDict neg v u H Q ∨ ∃ i j, v = .str i ∧ u = .str j ∧ Q (.bl (neg ^^ strIn i j)) H := by
  unfold dInB at e
  generalize look m y = cY at cy e
  have seq : ∀ (ds : List D) (p : Addr) (vs : List V), u = .ref p → (SqL X.K H p vs ∨ SqT X.K H p vs) → RepL X.K m H ds vs →
      ((flatD x = true ∧ ds.all flatD = true) ∨ (dat 60 x = true ∧ datL 59 ds = true)) → b = (ds.any fun y => eqvD y x) → rIn X.K neg v u H Q ∨ rInT X.K neg v u H Q := by
    intro ds p vs hu hs r hc hb
    rcases hc with ⟨h1, h2⟩ | ⟨h1, h2⟩
    · obtain ⟨f1, f2⟩ := flat_inV h1 rx h2 r
      refine .inl ⟨p, vs, hu, hs, (flat_V h1 rx).1, f1, ?_⟩
      rw [f2, ← hb]
      cases neg <;> simpa using q
    · refine .inr ⟨toPd x, toPdL ds, rep_dp s 60 x v h1 rx, ?_, dat_shaped (by decide) h1, datL_shaped h2, ?_⟩
      · subst hu
        rcases hs with z | z
        · exact .inr (.lst z (rep_dpL s 59 ds vs h2 r))
        · exact .inl (.tup z (rep_dpL s 59 ds vs h2 r))
      · have e1 : ((toPdL ds).any fun z => PyData.eqv z (toPd x)) = b := by
          rw [hb, toPdL_map, List.any_map]; rfl
        rw [e1]
        exact q
  split at e
  · split at e
    · cases e
      obtain ⟨p, vs, hu, hp, r⟩ := cont_lst cy
      exact (seq _ p vs hu (.inl (.of hp)) r (by assumption) rfl).elim .inl fun z => .inr (.inl z)
    · cases e
  · split at e
    · cases e
      obtain ⟨p, vs, hu, hp, r⟩ := cont_tup cy
      exact (seq _ p vs hu (.inr (tupAt_sq hp)) r (by assumption) rfl).elim .inl fun z => .inr (.inl z)
    · cases e
  · rename_i ks vs
    cases ek : keyOf x with
    | none => rw [ek] at e; cases e
    | some k =>
      rw [ek] at e
      simp only [Option.map_some, Option.some.injEq] at e
      have ex := keyOf_eq ek
      subst ex
      have ev := rep_kD rx
      subst ev
      obtain ⟨a, ws, rfl, ⟨kvs, hd, rfl, rfl⟩, r⟩ := cont_dic cy
      refine .inr (.inr (.inl ⟨a, valV kvs k, rfl, .inl ⟨kvs, k, hd, rfl, rfl⟩, ?_⟩))
      rcases dlook_V r k with ⟨h1, h2⟩ | ⟨d, v, h1, h2, _⟩
      · rw [h1]; rw [h2] at e; subst e; exact q
      · rw [h2]; rw [h1] at e; subst e; exact q
  · split at e
    · cases e
      simp only [Rep] at rx
      exact .inr (.inr (.inr ⟨_, _, rx, cont_str cy, q⟩))
    · cases e
  · cases e
theorem do_in (hu : X.A.units + 65 < cLine) : DOp X (compareOp .In) dIn := by
  refine DOp.of (op_in_seq.or ((op_inT hu).or ((op_inDict hu).or op_in_str))) fun x y m d v u H Q cx cy rx ry s e q => ?_
  unfold dIn at e
  cases eb : dInB m x y with
  | none => rw [eb] at e; cases e
  | some b =>
    rw [eb] at e; cases e
    have := in_main (neg := false) (Q := Q) cy rx s eb (by simpa using q _ _ Fr.refl s rep_bl)
    simpa only [strIn, Bool.false_xor] using this
theorem do_notin (hu : X.A.units + 65 < cLine) : DOp X (compareOp .NotIn) dNotIn := by
  refine DOp.of (op_notIn_seq.or ((op_notInT hu).or ((op_notInDict hu).or op_notIn_str))) fun x y m d v u H Q cx cy rx ry s e q => ?_
  unfold dNotIn at e
  cases eb : dInB m x y with
  | none => rw [eb] at e; cases e
  | some b =>
    rw [eb] at e; cases e
    have := in_main (neg := true) (Q := Q) cy rx s eb (by simpa using q _ _ Fr.refl s rep_bl)
    simpa only [strIn, Bool.true_xor] using this

/-! ### items -/
def dIx (m : M) (x y : D) : Option D := match look m x with
  | .lst ds => match look m y with
    | .int i => atI ds i
    | _ => none
  | .tup ds => match look m y with
    | .int i => atI ds i
    | _ => none
  | .str z => match look m y with
    | .int i => if z.length ≤ sizeLine then (atI z.cps.toList i).map fun c => .str ⟨#[c]⟩ else none
    | _ => none
  | .dic ks vs => (keyOf y).bind fun k => dlook ks vs k
  | _ => none
theorem ix_dict (hu : X.A.units + 65 < cLine) : IxR X (fun x y H Q => ∃ a v, x = .ref a ∧ DGet H a y (some v) ∧ Q v H) := by
  intro value slice pins s σ H x y v u Q I rx ry h hs
  obtain ⟨a, z, rfl, g, q⟩ := h
  cases rx
  have hT := dict_typeIs I g
  unfold subscriptTail
  refine wpAny_bind ?_
  rw [getitemInPython_of_ne hT.not_modules]
  refine wpAny_bind (wpAny_specialOf hT PySem.F.slot_dict_getitem.lookup ?_)
  have fin : wpAny (model X.prog X.w) X.A (subscripted slice false (.ref a) u) (fun r s₃ => wpAny (model X.prog X.w) X.A (letTemporaryGo value (.ref a) r >>= fun _ => pure r) (EP X pins σ Q) X.xe s₃) X.xe s := by
    rw [hs]
    exact wpAny_operating (wpAny_mono (d_getItem (Q := EP X pins σ Q) (by omega) I g ry fun w' s3 I3 rw' => ⟨z, H, I3, rw', q⟩) (fun r s₃ h₃ => wpAny_bind (wpAny_letTemporaryGo (wpAny_pure h₃))) fun _ _ x => x)
  first
    | exact wpAny_pure (wpAny_bind fin)
    | exact wpAny_bind (wpAny_pure (wpAny_bind fin))
    | exact wpAny_bind fin
theorem repL_atI {K : PySem.W.Frag} {m : M} {H : Hp} {ds : List D} {vs : List V} {i : Int} {d : D} (r : RepL K m H ds vs) (e : atI ds i = some d) : ∃ v, atI vs i = some v ∧ Rep K m H d v := by
  unfold atI at e ⊢
  rw [← r.length]
  cases h : ixN ds.length i with
  | none => rw [h] at e; cases e
  | some j =>
    rw [h] at e
    exact r.get e
theorem ixW {r r' : R2} (h : IxR X r) (k : ∀ x y H Q, r' x y H Q → r x y H Q) : IxR X r' := fun value slice pins s σ H x y v u Q I rx ry q hs => h value slice pins s σ H x y v u Q I rx ry (k _ _ _ _ q) hs
theorem ix_main (hu : X.A.units + 65 < cLine) : IxR X (liftOp X.K dIx) := ixW (ix_seq.or (ix_dict hu)) fun v u H Q ⟨x, y, m, d, rx, ry, s, e, q⟩ => by
  have cx := cont_of s rx
  have cy := cont_of s ry
  unfold dIx at e
  generalize look m x = cX at cx e
  split at e
  · split at e
    · rename_i ey
      rw [ey] at cy
      obtain ⟨p, vs, rfl, hp, r⟩ := cont_lst cx
      obtain ⟨w, h1, h2⟩ := repL_atI r e
      exact .inl (.inl ⟨p, vs, _, w, rfl, cont_int cy, .of hp, h1, q _ _ Fr.refl s h2⟩)
    · cases e
  · split at e
    · rename_i ey
      rw [ey] at cy
      obtain ⟨p, vs, rfl, hp, r⟩ := cont_tup cx
      obtain ⟨w, h1, h2⟩ := repL_atI r e
      exact .inl (.inr (.inl ⟨p, vs, _, w, rfl, cont_int cy, tupAt_sq hp, h1, q _ _ Fr.refl s h2⟩))
    · cases e
  · split at e
    · rename_i ey
      rw [ey] at cy
      split at e
      · rename_i hz
        obtain ⟨c, ec, rfl⟩ := Option.map_eq_some_iff.mp e
        exact .inl (.inr (.inr ⟨_, _, c, cont_str cx, cont_int cy, hz, ec, q _ _ Fr.refl s rep_str⟩))
      · cases e
    · cases e
  · cases ek : keyOf y with
    | none => rw [ek] at e; cases e
    | some k =>
      rw [ek] at e
      simp only [Option.bind_some] at e
      have ex := keyOf_eq ek
      subst ex
      have ev := rep_kD ry
      subst ev
      obtain ⟨a, ws, rfl, ⟨kvs, hd, rfl, rfl⟩, r⟩ := cont_dic cx
      rcases dlook_V r k with ⟨h1, h2⟩ | ⟨d', v, h1, h2, h3⟩
      · rw [h2] at e; cases e
      · rw [h1] at e; cases e
        exact .inr ⟨a, v, rfl, .inl ⟨kvs, k, hd, rfl, h2.symm⟩, q _ _ Fr.refl s h3⟩
  · cases e
theorem de_ix {a b : Expr} {ta tb : DTE} {pos : Pos} (hu : X.A.units + 65 < cLine) (ha : DE X a ta) (hb : DE X b tb) (hs : PlainIx b := by exact fun _ _ => rfl) : DE X (.Subscript a b pos) (tBin dIx ta tb) :=
  ⟨PE.weak (pe_ix (ix_main hu) ha.run hb.run hs) fun _ _ _ h => bin_lift h⟩

/-! ### slices -/
def cutD {α : Type} (xs : List α) (lo hi : Option Int) : List α := (xs.drop (HT.sIx xs.length 0 lo)).take (HT.sIx xs.length xs.length hi - HT.sIx xs.length 0 lo)
theorem cutD_map {α β : Type} (f : α → β) (ns : List α) (lo hi : Option Int) : (cutD ns lo hi).map f = cutD (ns.map f) lo hi := by
  unfold cutD; simp [List.map_take, List.map_drop]
theorem cutD_whole {α : Type} {ds : List α} {n : Nat} {lo hi : Option Int} (hl : ds.length = n) (h1 : HT.sIx n 0 lo = 0) (h2 : HT.sIx n n hi = n) : cutD ds lo hi = ds := by
  unfold cutD
  rw [hl, h1, h2]
  simp only [List.drop_zero, Nat.sub_zero]
  rw [← hl, List.take_length]
theorem cutD_rep {K : PySem.W.Frag} {m : M} {H : Hp} {ds : List D} {vs : List V} (r : RepL K m H ds vs) (lo hi : Option Int) : RepL K m H (cutD ds lo hi) (cutV vs lo hi) := by
  unfold cutD cutV
  rw [← r.length]
  exact (r.drop _).take _
def dSl (m : M) (x : D) (lo hi : Option Int) : Option D := match look m x with
  | .lst ds => some (.lst (cutD ds lo hi))
  | .tup ds => some (.tup (cutD ds lo hi))
  | .scr ns => some (.lst ((cutD ns lo hi).map .int))
  | .str z => if z.length ≤ sizeLine then some (.str (cutS z lo hi)) else none
  | _ => none
def liftSl (K : PySem.W.Frag) : V → Option Int → Option Int → Hp → VK → Prop := fun v lo hi H Q => ∃ x m d, Rep K m H x v ∧ Sim K m H ∧ dSl m x lo hi = some d ∧ ∀ w H', Fr m H m H' → Sim K m H' → Rep K m H' d w → Q w H'
theorem slW {r r' : V → Option Int → Option Int → Hp → VK → Prop} (h : SlR X r) (k : ∀ x lo hi H Q, r' x lo hi H Q → r x lo hi H Q) : SlR X r' := fun pins s σ H x v vl vu lo hi sl Q I rx hs pl pu q => h pins s σ H x v vl vu lo hi sl Q I rx hs pl pu (k _ _ _ _ _ q)
theorem sl_main : SlR X (liftSl X.K) := slW (sl_list.or (sl_tupA.or sl_str)) fun v lo hi H Q ⟨x, m, d, rx, s, e, q⟩ => by
  have cx := cont_of s rx
  unfold dSl at e
  generalize look m x = cX at cx e
  split at e
  · cases e
    obtain ⟨p, vs, rfl, hp, r⟩ := cont_lst cx
    exact .inl ⟨p, vs, rfl, .of hp, fun p' hp' => q _ _ (Fr.laid s hp') (s.laid hp') (new_lst s hp' (cutD_rep r lo hi))⟩
  · cases e
    obtain ⟨p, vs, rfl, hp, r⟩ := cont_tup cx
    refine .inr (.inl ⟨p, vs, rfl, tupAt_sq hp, fun ⟨h1, h2⟩ => ?_, fun _ p' hp' => q _ _ (Fr.laid s hp') (s.laid hp') (new_tup s hp' (cutD_rep r lo hi))⟩)
    refine q _ _ Fr.refl s ?_
    rw [cutD_whole r.length h1 h2]
    simp only [Rep]
    exact ⟨p, vs, rfl, hp, r⟩
  · cases e
    obtain ⟨a, rfl, h⟩ := cont_scr cx
    refine .inl ⟨a, _, rfl, h, fun p' hp' => q _ _ (Fr.laid s hp') (s.laid hp') ?_⟩
    rw [cutD_map]
    exact new_lst s hp' (cutD_rep (RepL.map_int _) lo hi)
  · split at e
    · rename_i hz; cases e
      exact .inr (.inr ⟨_, cont_str cx, hz, q _ _ Fr.refl s rep_str⟩)
    · cases e
  · cases e
abbrev DTO := Env → M → (Option Int → M → Prop) → Prop
def liftO (K : PySem.W.Frag) (t : DTO) : TO := fun σ H Q => ∃ env m R, EnvOk K m H σ env ∧ Sim K m H ∧ t env m R ∧ ∀ o m' H', R o m' → Fr m H m' H' → Sim K m' H' → Q o H'
structure DO (X : Cx) (e : Option Expr) (t : DTO) : Prop where run : PO X e (liftO X.K t)
theorem PO.weak {e : Option Expr} {t t' : TO} (h : PO X e t) (k : ∀ σ H Q, t' σ H Q → t σ H Q) : PO X e t' := ⟨fun pins s σ H Q I q => h.run pins s σ H Q I (k σ H Q q)⟩
def tON : DTO := fun _ m Q => Q none m
def tOS (te : DTE) : DTO := fun env m Q => te env m fun d m1 => ∃ i, look m1 d = .int i ∧ Q (some i) m1
theorem do_none : DO X none tON := ⟨PO.weak po_none fun σ H Q h => by
  obtain ⟨env, m, R, eo, s, h, k⟩ := h
  exact k none m H h Fr.refl s⟩
theorem do_some {e : Expr} {te : DTE} (h : DE X e te) : DO X (some e) (tOS te) := ⟨PO.weak (po_some h.run) fun σ H Q h => by
  obtain ⟨env, m, R, eo, s, h, k⟩ := h
  refine ⟨env, m, _, eo, s, h, fun d m1 v H1 h1 f1 s1 r1 => ?_⟩
  obtain ⟨i, e, h1⟩ := h1
  have c := cont_of s1 r1
  rw [e] at c
  exact ⟨i, cont_int c, k (some i) m1 H1 h1 f1 s1⟩⟩
def tSlD (te : DTE) (tl th : DTO) : DTE := fun env m Q => te env m fun x m1 => tl env m1 fun lo m2 => th env m2 fun hi m3 => ∃ d, dSl m3 x lo hi = some d ∧ Q d m3
theorem de_slice {e : Expr} {lo hi : Option Expr} {te : DTE} {tl th : DTO} {p2 pos : Pos} (he : DE X e te) (hl : DO X lo tl) (hh : DO X hi th) : DE X (.Subscript e (.Slice lo hi none p2) pos) (tSlD te tl th) :=
  ⟨PE.weak (pe_slice sl_main he.run hl.run hh.run) fun σ H Q h => by
    obtain ⟨env, m, R, eo, s, h, k⟩ := h
    refine ⟨env, m, _, eo, s, h, fun x m1 v H1 h1 f1 s1 r1 => ?_⟩
    refine ⟨env, m1, _, eo.mono f1, s1, h1, fun lo m2 H2 h2 f2 s2 => ?_⟩
    refine ⟨env, m2, _, eo.mono (f1.trans f2), s2, h2, fun hi m3 H3 h3 f3 s3 => ?_⟩
    obtain ⟨d, e, h3⟩ := h3
    exact ⟨x, m3, d, Rep.mono (f2.trans f3) _ _ r1, s3, e, fun w H' f4 s4 r4 => k d m3 w H' h3 (((f1.trans f2).trans f3).trans f4) s4 r4⟩⟩
end
end DL
/-! ### DL5: tests, displays, statements, loops -/
namespace DL
open PySem PySem.Spec PyProof.Rows L2

section
variable {X : Cx} {e a b : Expr} {es rest : List Expr} {te ta tb : DTE} {pos : Pos}
/-! arguments, displays -/
def tA0 : DTA := fun _ m Q => Q [] m
def tAC (ta : DTE) (tr : DTA) : DTA := fun env m Q => ta env m fun d m1 => tr env m1 fun ds m2 => Q (d :: ds) m2
theorem da_nil : DA X [] tA0 := ⟨PA.weak pa_nil fun σ H Q h => by
  obtain ⟨env, m, R, eo, s, h, k⟩ := h
  exact k [] m [] H h Fr.refl s .nil⟩
theorem da_cons {tr : DTA} (ha : DE X e ta) (hr : DA X es tr) (hs : starEach (e :: es) X.env = (false, eval e X.env) :: starEach es X.env := by rfl) : DA X (e :: es) (tAC ta tr) := ⟨PA.weak (pa_cons ha.run hr.run hs) fun σ H Q h => by
  obtain ⟨env, m, R, eo, s, h, k⟩ := h
  refine ⟨env, m, _, eo, s, h, fun d m1 v H1 h1 f1 s1 r1 => ?_⟩
  refine ⟨env, m1, _, eo.mono f1, s1, h1, fun ds m2 vs H2 h2 f2 s2 r2 => ?_⟩
  exact k (d :: ds) m2 (v :: vs) H2 h2 (f1.trans f2) s2 (.cons (Rep.mono f2 _ _ r1) r2)⟩
def tTupD (t : DTA) : DTE := fun env m Q => t env m fun ds m1 => ds.length ≤ sizeLine ∧ Q (.tup ds) m1
def tLstD (t : DTA) : DTE := fun env m Q => t env m fun ds m1 => ds.length ≤ sizeLine ∧ Q (.lst ds) m1
def tLstM (t : DTA) : DTE := fun env m Q => t env m fun ds m1 => ds.length ≤ sizeLine ∧ ∀ p, m1 p = none → Q (.ref p) (updM m1 p (.lst ds))
theorem de_tup {x1 : Nat} {t : DTA} (h : DA X es t) : DE X (.Tuple es x1 pos) (tTupD t) := ⟨PE.weak (pe_tup h.run) fun σ H Q h => by
  obtain ⟨env, m, R, eo, s, h, k⟩ := h
  refine ⟨env, m, _, eo, s, h, fun ds m1 vs H1 h1 f1 s1 r1 => ?_⟩
  obtain ⟨hl, h1⟩ := h1
  exact ⟨by rw [← r1.length]; exact hl, fun p hp => k _ m1 _ _ h1 (f1.trans (Fr.laid s1 hp)) (s1.laid hp) (new_tup s1 hp r1)⟩⟩
theorem de_lst {t : DTA} (h : DA X es t) : DE X (.List es pos) (tLstD t) := ⟨PE.weak (pe_lst h.run) fun σ H Q h => by
  obtain ⟨env, m, R, eo, s, h, k⟩ := h
  refine ⟨env, m, _, eo, s, h, fun ds m1 vs H1 h1 f1 s1 r1 => ?_⟩
  obtain ⟨hl, h1⟩ := h1
  exact ⟨by rw [← r1.length]; exact hl, fun p hp => k _ m1 _ _ h1 (f1.trans (Fr.laid s1 hp)) (s1.laid hp) (new_lst s1 hp r1)⟩⟩
theorem de_lstM {t : DTA} (h : DA X es t) : DE X (.List es pos) (tLstM t) := ⟨PE.weak (pe_lst h.run) fun σ H Q h => by
  obtain ⟨env, m, R, eo, s, h, k⟩ := h
  refine ⟨env, m, _, eo, s, h, fun ds m1 vs H1 h1 f1 s1 r1 => ?_⟩
  obtain ⟨hl, h1⟩ := h1
  exact ⟨by rw [← r1.length]; exact hl, fun p hp => k _ _ _ _ (h1 p (s1.free hp)) (f1.trans (Fr.laidM s1 hp)) (new_lstM s1 hp r1) rep_ref⟩⟩
/-- a mutable object from now on a tree -/
def tFrz (te : DTE) : DTE := fun env m Q => te env m fun d m1 => match d with
  | .ref p => ∃ c, m1 p = some c ∧ Q c (delM m1 p)
  | d => Q d m1
theorem de_frz (h : DE X e te) : DE X e (tFrz te) := ⟨PE.weak h.run fun σ H Q h => by
  obtain ⟨env, m, R, eo, s, h, k⟩ := h
  refine ⟨env, m, _, eo, s, h, fun d m1 v H1 h1 f1 s1 r1 => ?_⟩
  split at h1
  · obtain ⟨c, e, h1⟩ := h1
    simp only [Rep] at r1
    subst r1
    exact k c _ _ H1 h1 (f1.trans Fr.frozen) s1.frozen (rep_frozen s1 e)
  · exact k _ m1 v H1 h1 f1 s1 r1⟩

/-! tests -/
def dTru : D → Option Bool
  | .non => some false
  | .bl b => some b
  | .int i => some (i != 0)
  | .str x => if x.length ≤ sizeLine then some ((x.length : Int) != 0) else none
  | .lst ds => some (!ds.isEmpty)
  | .tup ds => some (!ds.isEmpty)
  | _ => none
theorem isEmpty_rep {K : PySem.W.Frag} {m : M} {H : Hp} {ds : List D} {vs : List V} (r : RepL K m H ds vs) : vs.isEmpty = ds.isEmpty := by
  have l := r.length
  cases ds <;> cases vs <;> simp_all
theorem truV {K : PySem.W.Frag} {m : M} {H : Hp} {d : D} {v : V} {b : Bool} (c : Cont K m H d v) (h : dTru d = some b) : TruV K v H b := by
  cases d with
  | non => rw [cont_non c]; cases h; rfl
  | bl _ => rw [cont_bl c]; cases h; rfl
  | int _ => rw [cont_int c]; cases h; rfl
  | str _ =>
    rw [cont_str c]
    simp only [dTru] at h
    split at h
    · cases h; exact ⟨by assumption, rfl⟩
    · cases h
  | lst ds =>
    obtain ⟨p, vs, rfl, hp, r⟩ := cont_lst c
    cases h
    exact .inl ⟨vs, .of hp, by rw [isEmpty_rep r]⟩
  | tup ds =>
    obtain ⟨p, vs, rfl, hp, r⟩ := cont_tup c
    cases h
    exact .inr (.inl ⟨vs, tupAt_sq hp, by rw [isEmpty_rep r]⟩)
  | _ => cases h
def tTru (te : DTE) : DTT := fun env m Q => te env m fun d m1 => ∃ b, dTru (look m1 d) = some b ∧ Q b m1
theorem dt_truth (h : DE X e te) (he : ∀ whole, isTrue e X.env whole = (do let v ← whole; standAt e.pos; holding [v] (truthy v)) := by intro _; rfl) : DT X e (tTru te) := ⟨PT.weak (pt_truth h.run he) fun σ H Q h => by
  obtain ⟨env, m, R, eo, s, h, k⟩ := h
  refine ⟨env, m, _, eo, s, h, fun d m1 v H1 h1 f1 s1 r1 => ?_⟩
  obtain ⟨b, e, h1⟩ := h1
  exact ⟨b, truV (cont_of s1 r1) e, k b m1 H1 h1 f1 s1⟩⟩
structure DW (X : Cx) (e : Expr) (t : DTT) : Prop where run : PW X e (liftT X.K t)
theorem PW.weak {t t' : TT} (h : PW X e t) (k : ∀ σ H Q, t' σ H Q → t σ H Q) : PW X e t' := ⟨fun wh pins s σ H Q I q => h.run wh pins s σ H Q I (k σ H Q q)⟩
theorem DW.dt {t : DTT} (h : DW X e t) : DT X e t := ⟨h.run.pt⟩
def tAndT (t u : DTT) : DTT := fun env m Q => t env m fun c m1 => if c = true then u env m1 Q else Q false m1
def tOrT (t u : DTT) : DTT := fun env m Q => t env m fun c m1 => if c = true then Q true m1 else u env m1 Q
def tNotT (t : DTT) : DTT := fun env m Q => t env m fun c m1 => Q (!c) m1
variable {t u : DTT}
theorem dw_and1 (ha : DT X a t) : DW X (.BoolOp .And [a] pos) t := ⟨pw_and1 ha.run⟩
theorem dw_or1 (ha : DT X a t) : DW X (.BoolOp .Or [a] pos) t := ⟨pw_or1 ha.run⟩
theorem dw_and (ha : DT X a t) (hb : DW X (.BoolOp .And (b :: rest) pos) u) : DW X (.BoolOp .And (a :: b :: rest) pos) (tAndT t u) := ⟨PW.weak (pw_and ha.run hb.run) fun σ H Q h => by
  obtain ⟨env, m, R, eo, s, h, k⟩ := h
  refine ⟨env, m, _, eo, s, h, fun c m1 H1 h1 f1 s1 => ?_⟩
  cases c with
  | true =>
    simp only [if_true] at h1 ⊢
    exact ⟨env, m1, R, eo.mono f1, s1, h1, fun b m2 H2 h2 f2 s2 => k b m2 H2 h2 (f1.trans f2) s2⟩
  | false =>
    simp only [Bool.false_eq_true, if_false] at h1 ⊢
    exact k false m1 H1 h1 f1 s1⟩
theorem dw_or (ha : DT X a t) (hb : DW X (.BoolOp .Or (b :: rest) pos) u) : DW X (.BoolOp .Or (a :: b :: rest) pos) (tOrT t u) := ⟨PW.weak (pw_or ha.run hb.run) fun σ H Q h => by
  obtain ⟨env, m, R, eo, s, h, k⟩ := h
  refine ⟨env, m, _, eo, s, h, fun c m1 H1 h1 f1 s1 => ?_⟩
  cases c with
  | false =>
    simp only [Bool.false_eq_true, if_false] at h1 ⊢
    exact ⟨env, m1, R, eo.mono f1, s1, h1, fun b m2 H2 h2 f2 s2 => k b m2 H2 h2 (f1.trans f2) s2⟩
  | true =>
    simp only [if_true] at h1 ⊢
    exact k true m1 H1 h1 f1 s1⟩
theorem dt_not (ha : DT X a t) : DT X (.UnaryOp .Not a pos) (tNotT t) := ⟨PT.weak (pt_not ha.run) fun σ H Q h => by
  obtain ⟨env, m, R, eo, s, h, k⟩ := h
  exact ⟨env, m, _, eo, s, h, fun c m1 H1 h1 f1 s1 => k (!c) m1 H1 h1 f1 s1⟩⟩
/-- as values -/
def tOrV (ta tb : DTE) : DTE := fun env m Q => ta env m fun d m1 => ∃ b, dTru (look m1 d) = some b ∧ if b = true then Q d m1 else tb env m1 Q
def tAndV (ta tb : DTE) : DTE := fun env m Q => ta env m fun d m1 => ∃ b, dTru (look m1 d) = some b ∧ if b = true then tb env m1 Q else Q d m1
def tNotV (ta : DTE) : DTE := fun env m Q => ta env m fun d m1 => ∃ b, dTru (look m1 d) = some b ∧ Q (.bl (!b)) m1
theorem de_one {op : BoolOp} (h : DE X a ta) : DE X (.BoolOp op [a] pos) ta := ⟨pe_one h.run⟩
theorem de_or (ha : DE X a ta) (hb : DE X (.BoolOp .Or (b :: rest) pos) tb) : DE X (.BoolOp .Or (a :: b :: rest) pos) (tOrV ta tb) := ⟨PE.weak (pe_orT ha.run hb.run) fun σ H Q h => by
  obtain ⟨env, m, R, eo, s, h, k⟩ := h
  refine ⟨env, m, _, eo, s, h, fun d m1 v H1 h1 f1 s1 r1 => ?_⟩
  obtain ⟨c, e, h1⟩ := h1
  refine ⟨c, truV (cont_of s1 r1) e, ?_⟩
  cases c with
  | false =>
    simp only [Bool.false_eq_true, if_false] at h1 ⊢
    exact ⟨env, m1, R, eo.mono f1, s1, h1, fun b m2 v2 H2 h2 f2 s2 r2 => k b m2 v2 H2 h2 (f1.trans f2) s2 r2⟩
  | true =>
    simp only [if_true] at h1 ⊢
    exact k d m1 v H1 h1 f1 s1 r1⟩
theorem de_and (ha : DE X a ta) (hb : DE X (.BoolOp .And (b :: rest) pos) tb) : DE X (.BoolOp .And (a :: b :: rest) pos) (tAndV ta tb) := ⟨PE.weak (pe_andT ha.run hb.run) fun σ H Q h => by
  obtain ⟨env, m, R, eo, s, h, k⟩ := h
  refine ⟨env, m, _, eo, s, h, fun d m1 v H1 h1 f1 s1 r1 => ?_⟩
  obtain ⟨c, e, h1⟩ := h1
  refine ⟨c, truV (cont_of s1 r1) e, ?_⟩
  cases c with
  | true =>
    simp only [if_true] at h1 ⊢
    exact ⟨env, m1, R, eo.mono f1, s1, h1, fun b m2 v2 H2 h2 f2 s2 r2 => k b m2 v2 H2 h2 (f1.trans f2) s2 r2⟩
  | false =>
    simp only [Bool.false_eq_true, if_false] at h1 ⊢
    exact k d m1 v H1 h1 f1 s1 r1⟩
theorem de_not (ha : DE X a ta) : DE X (.UnaryOp .Not a pos) (tNotV ta) := ⟨PE.weak (pe_notT ha.run) fun σ H Q h => by
  obtain ⟨env, m, R, eo, s, h, k⟩ := h
  refine ⟨env, m, _, eo, s, h, fun d m1 v H1 h1 f1 s1 r1 => ?_⟩
  obtain ⟨c, e, h1⟩ := h1
  exact ⟨c, truV (cont_of s1 r1) e, k (.bl (!c)) m1 _ H1 h1 f1 s1 rep_bl⟩⟩
def tIfD (t : DTT) (ta tb : DTE) : DTE := fun env m Q => t env m fun c m1 => if c = true then ta env m1 Q else tb env m1 Q
theorem de_if {c : Expr} (hc : DT X c t) (ha : DE X a ta) (hb : DE X b tb) : DE X (.IfExp c a b pos) (tIfD t ta tb) := ⟨PE.weak (pe_ifExp hc.run ha.run hb.run) fun σ H Q h => by
  obtain ⟨env, m, R, eo, s, h, k⟩ := h
  refine ⟨env, m, _, eo, s, h, fun c m1 H1 h1 f1 s1 => ?_⟩
  cases c with
  | true =>
    simp only [if_true] at h1 ⊢
    exact ⟨env, m1, R, eo.mono f1, s1, h1, fun b m2 v2 H2 h2 f2 s2 r2 => k b m2 v2 H2 h2 (f1.trans f2) s2 r2⟩
  | false =>
    simp only [Bool.false_eq_true, if_false] at h1 ⊢
    exact ⟨env, m1, R, eo.mono f1, s1, h1, fun b m2 v2 H2 h2 f2 s2 r2 => k b m2 v2 H2 h2 (f1.trans f2) s2 r2⟩⟩

/-! built-ins by values -/
def liftC (K : PySem.W.Frag) (f : M → List D → Option D) : List V → Hp → VK → Prop := fun vs H Q => ∃ ds m d, RepL K m H ds vs ∧ Sim K m H ∧ f m ds = some d ∧ ∀ w H', Fr m H m H' → Sim K m H' → Rep K m H' d w → Q w H'
def DCall (X : Cx) (g : Value) (f : M → List D → Option D) : Prop := CallR X g (liftC X.K f)
theorem callW {g : Value} {r r' : List V → Hp → VK → Prop} (h : CallR X g r) (k : ∀ x H Q, r' x H Q → r x H Q) : CallR X g r' := fun pins s σ H x us Q I r q => h pins s σ H x us Q I r (k _ _ _ q)
def tFn (f : M → List D → Option D) (t : DTA) : DTE := fun env m Q => t env m fun ds m1 => ∃ d, f m1 ds = some d ∧ Q d m1
theorem fn_lift {f : M → List D → Option D} {t : DTA} {σ : L2.St} {H : Hp} {Q : VK} (h : liftE X.K (tFn f t) σ H Q) : tCB (liftC X.K f) (liftA X.K t) σ H Q := by
  obtain ⟨env, m, R, eo, s, h, k⟩ := h
  refine ⟨env, m, _, eo, s, h, fun ds m1 vs H1 h1 f1 s1 r1 => ?_⟩
  obtain ⟨d, e, h1⟩ := h1
  exact ⟨ds, m1, d, r1, s1, e, fun w H' f2 s2 r2 => k d m1 w H' h1 (f1.trans f2) s2 r2⟩
theorem de_fn {id : String} {f : M → List D → Option D} {t : DTA} {x : Str} {p : Pos} (hc : DCall X (.builtin id) f) (hm : X.mg x = none) (hv : bootBuiltins x = some (.builtin id)) (ha : DA X (e :: es) t) (hg : Gl X x := by rfl) (hn : x ≠ "__name__" := by decide) (hdb : (x == ("__debug__" : Str)) = false := by decide)
    (he : starEach (e :: es) X.env = (false, eval e X.env) :: starEach es X.env := by rfl) (hpl : (backTo pos (starEach es X.env)).any (·.1) = false := by rfl) : DE X (.Call (.Name x p) (e :: es) [] pos) (tFn f t) :=
  ⟨PE.weak (pe_callB hc hg hm hv ha.run hn hdb he hpl) fun _ _ _ h => fn_lift h⟩
theorem de_ty {T : String} {f : M → List D → Option D} {t : DTA} {x : Str} {p : Pos} (hc : DCall X (.type T) f) (hm : X.mg x = none) (hv : bootBuiltins x = some (.type T)) (ha : DA X (e :: es) t) (hg : Gl X x := by rfl) (hn : x ≠ "__name__" := by decide) (hdb : (x == ("__debug__" : Str)) = false := by decide)
    (he : starEach (e :: es) X.env = (false, eval e X.env) :: starEach es X.env := by rfl) (hpl : (backTo pos (starEach es X.env)).any (·.1) = false := by rfl) : DE X (.Call (.Name x p) (e :: es) [] pos) (tFn f t) :=
  ⟨PE.weak (pe_callTy hc hg hm hv ha.run hn hdb he hpl) fun _ _ _ h => fn_lift h⟩
def d1 (f : D → Option D) (m : M) : List D → Option D
  | [x] => f (look m x)
  | _ => none
theorem repL1 {K : PySem.W.Frag} {m : M} {H : Hp} {x : D} {vs : List V} (r : RepL K m H [x] vs) : ∃ v, vs = [v] ∧ Rep K m H x v := by
  simp only [RepL] at r
  obtain ⟨v, r', e, h1, h2⟩ := r
  subst h2
  exact ⟨v, e, h1⟩
theorem dc_1 {g : Value} {f : D → Option D} {r : List V → Hp → VK → Prop} (ho : CallR X g r)
    (k : ∀ c m d v H Q, Cont X.K m H c v → Sim X.K m H → f c = some d → (∀ w H', Fr m H m H' → Sim X.K m H' → Rep X.K m H' d w → Q w H') → r [v] H Q) : DCall X g (d1 f) :=
  callW ho fun vs H Q ⟨ds, m, d, r, s, e, q⟩ => by
    cases ds with
    | nil => cases e
    | cons x ds =>
      cases ds with
      | cons _ _ => cases e
      | nil =>
        obtain ⟨v, rfl, r1⟩ := repL1 r
        exact k _ m d v H Q (cont_of s r1) s e q
def dLen : D → Option D
  | .lst ds => some (.int ds.length)
  | .tup ds => some (.int ds.length)
  | .str x => if x.length ≤ sizeLine then some (.int x.length) else none
  | .dic ks vs => some (.int vs.length)
  | _ => none
theorem call_lenDR : CallR X (.builtin "len") (fun xs H Q => ∃ a kvs, xs = [V.ref a] ∧ Rd H a (.dK kvs) ∧ Q (.int kvs.length) H) := by
  intro pins s σ H xs us Q I r h
  obtain ⟨a, kvs, rfl, hd, q⟩ := h
  obtain rfl := Vals.ref1 r
  exact d_len I hd fun t s' I' => ⟨.int _, H, I', ⟨t, rfl⟩, q⟩
theorem dc_len : DCall X (.builtin "len") (d1 dLen) := dc_1 (call_len.or call_lenDR) fun c m d v H Q cc s e q => by
  unfold dLen at e
  split at e
  · cases e
    obtain ⟨p, vs, rfl, hp, r⟩ := cont_lst cc
    refine .inl ⟨_, vs.length, rfl, .inl ⟨vs, .of hp, rfl⟩, ?_⟩
    rw [← r.length]
    exact q _ _ Fr.refl s rep_int
  · cases e
    obtain ⟨p, vs, rfl, hp, r⟩ := cont_tup cc
    refine .inl ⟨_, vs.length, rfl, .inr ⟨vs, tupAt_sq hp, rfl⟩, ?_⟩
    rw [← r.length]
    exact q _ _ Fr.refl s rep_int
  · split at e
    · cases e
      rw [cont_str cc]
      exact .inl ⟨_, _, rfl, ⟨by assumption, rfl⟩, q _ _ Fr.refl s rep_int⟩
    · cases e
  · cases e
    obtain ⟨p, vs, rfl, ⟨kvs, hd, rfl, rfl⟩, r⟩ := cont_dic cc
    refine .inr ⟨p, kvs, rfl, hd, ?_⟩
    have l := r.length
    rw [List.length_map] at l
    rw [← l]
    exact q _ _ Fr.refl s rep_int
  · cases e
def dInt : D → Option D
  | .int i => some (.int i)
  | .bl b => some (.int (if b then 1 else 0))
  | _ => none
theorem dc_int : DCall X (.type "int") (d1 dInt) := dc_1 call_int1 fun c m d v H Q cc s e q => by
  unfold dInt at e
  split at e
  · cases e; rw [cont_int cc]; exact .inl ⟨_, rfl, q _ _ Fr.refl s rep_int⟩
  · cases e; rw [cont_bl cc]; exact .inr ⟨_, rfl, q _ _ Fr.refl s rep_int⟩
  · cases e
def dAbs : D → Option D
  | .int i => some (.int (if i < 0 then -i else i))
  | _ => none
theorem dc_abs : DCall X (.builtin "abs") (d1 dAbs) := dc_1 call_abs fun c m d v H Q cc s e q => by
  unfold dAbs at e
  split at e
  · cases e; rw [cont_int cc]; exact ⟨_, rfl, q _ _ Fr.refl s rep_int⟩
  · cases e
def dList : D → Option D
  | .lst ds => some (.lst ds)
  | .tup ds => some (.lst ds)
  | .dic ks _ => some (.lst ks)
  | _ => none
theorem rep_kk {K : PySem.W.Frag} {m : M} {H : Hp} (k : Key) : Rep K m H (kD k) (kV k) := by cases k <;> simp only [kD, kV, Rep]
theorem repL_keys {K : PySem.W.Frag} {m : M} {H : Hp} : ∀ kvs : List (Key × V), RepL K m H (kvs.map fun kv => kD kv.1) (kvs.map fun kv => kV kv.1)
  | [] => .nil
  | kv :: kvs => .cons (rep_kk kv.1) (repL_keys kvs)
theorem dc_list (hc : X.calm = true) : DCall X (.type "list") (d1 dList) := dc_1 (call_list_of.or (call_listD hc)) fun c m d v H Q cc s e q => by
  unfold dList at e
  split at e
  · cases e
    obtain ⟨p, vs, rfl, hp, r⟩ := cont_lst cc
    exact .inl ⟨p, vs, rfl, .inl (.of hp), fun l hl => q _ _ (Fr.laid s hl) (s.laid hl) (new_lst s hl r)⟩
  · cases e
    obtain ⟨p, vs, rfl, hp, r⟩ := cont_tup cc
    exact .inl ⟨p, vs, rfl, .inr (tupAt_sq hp), fun l hl => q _ _ (Fr.laid s hl) (s.laid hl) (new_lst s hl r)⟩
  · cases e
    obtain ⟨p, vs, rfl, ⟨kvs, hd, rfl, rfl⟩, r⟩ := cont_dic cc
    exact .inr ⟨p, kvs, rfl, hd, fun l hl => q _ _ (Fr.laid s hl) (s.laid hl) (new_lst s hl (repL_keys kvs))⟩
  · cases e
def dTuple : D → Option D
  | .lst ds => some (.tup ds)
  | .tup ds => some (.tup ds)
  | _ => none
theorem dc_tuple : DCall X (.type "tuple") (d1 dTuple) := dc_1 call_tuple_of fun c m d v H Q cc s e q => by
  unfold dTuple at e
  split at e
  · cases e
    obtain ⟨p, vs, rfl, hp, r⟩ := cont_lst cc
    exact ⟨p, vs, rfl, .inl ⟨.of hp, fun l hl => q _ _ (Fr.laid s hl) (s.laid hl) (new_tup s hl r)⟩⟩
  · cases e
    obtain ⟨p, vs, rfl, hp, r⟩ := cont_tup cc
    exact ⟨p, vs, rfl, .inr ⟨tupAt_sq hp, q _ _ Fr.refl s (by simp only [Rep]; exact ⟨p, vs, rfl, hp, r⟩)⟩⟩
  · cases e
def boolsOf : List D → Option (List Bool)
  | [] => some []
  | .bl b :: ds => (boolsOf ds).map (b :: ·)
  | _ => none
theorem boolsOf_rep {K : PySem.W.Frag} {m : M} {H : Hp} : ∀ {ds : List D} {bs : List Bool} {vs : List V}, boolsOf ds = some bs → RepL K m H ds vs → vs = bs.map V.bl
  | [], bs, vs, e, r => by simp only [boolsOf, Option.some.injEq] at e; subst e; simp only [RepL] at r; exact r
  | d :: ds, bs, vs, e, r => by
    simp only [RepL] at r
    obtain ⟨v, r', rfl, h1, h2⟩ := r
    cases d with
    | bl b =>
      simp only [boolsOf, Option.map_eq_some_iff] at e
      obtain ⟨bs', e', rfl⟩ := e
      simp only [Rep] at h1
      rw [h1, boolsOf_rep e' h2]; rfl
    | _ => simp [boolsOf] at e
def dAll : D → Option D
  | .lst ds => (boolsOf ds).map fun bs => .bl (bs.all id)
  | _ => none
def dAny : D → Option D
  | .lst ds => (boolsOf ds).map fun bs => .bl (bs.any id)
  | _ => none
theorem dc_all (hc : X.calm = true) : DCall X (.builtin "all") (d1 dAll) := dc_1 (cr_all hc) fun c m d v H Q cc s e q => by
  unfold dAll at e
  split at e
  · obtain ⟨bs, eb, rfl⟩ := Option.map_eq_some_iff.mp e
    obtain ⟨p, vs, rfl, hp, r⟩ := cont_lst cc
    have := boolsOf_rep eb r
    subst this
    exact ⟨p, bs, rfl, .of hp, q _ _ Fr.refl s rep_bl⟩
  · cases e
theorem dc_any (hc : X.calm = true) : DCall X (.builtin "any") (d1 dAny) := dc_1 (cr_any hc) fun c m d v H Q cc s e q => by
  unfold dAny at e
  split at e
  · obtain ⟨bs, eb, rfl⟩ := Option.map_eq_some_iff.mp e
    obtain ⟨p, vs, rfl, hp, r⟩ := cont_lst cc
    have := boolsOf_rep eb r
    subst this
    exact ⟨p, bs, rfl, .of hp, q _ _ Fr.refl s rep_bl⟩
  · cases e
end
end DL
/-! ### DL6: statements, loops, comprehensions -/
namespace DL
open PySem PySem.Spec PyProof.Rows L2

section
variable {X : Cx} {e a b tg iter : Expr} {es : List Expr} {st : Stmt} {rest body : List Stmt} {te ta tb : DTE} {t u : DTS} {pos : Pos}
/-! statements -/
def tNx : DTS := fun env m E => E.nx env m
def tSq (t u : DTS) : DTS := fun env m E => t env m { E with nx := fun env' m' => u env' m' E }
theorem dss_nil : DSs X [] tNx := ⟨PSs.weak pss_nil fun D σ H h => by
  obtain ⟨env, m, E, eo, s, h, k1, _⟩ := h
  exact k1 env m σ H h eo s Fr.refl⟩
theorem dss_cons (h1 : DS X st t) (h2 : DSs X rest u) : DSs X (st :: rest) (tSq t u) := ⟨PSs.weak (pss_cons h1.run h2.run) fun D σ H h => by
  obtain ⟨env, m, E, eo, s, h, k1, k2, k3, k4⟩ := h
  refine ⟨env, m, _, eo, s, h, fun env' m' σ' H' h' eo' s' f' => ?_, k2, k3, k4⟩
  exact ⟨env', m', E, eo', s', h', fun env2 m2 σ2 H2 a1 a2 a3 a4 => k1 env2 m2 σ2 H2 a1 a2 a3 (f'.trans a4), fun d m2 v H2 a1 a2 a3 a4 => k2 d m2 v H2 a1 (f'.trans a2) a3 a4,
    fun env2 m2 σ2 H2 a1 a2 a3 a4 => k3 env2 m2 σ2 H2 a1 a2 a3 (f'.trans a4), fun env2 m2 σ2 H2 a1 a2 a3 a4 => k4 env2 m2 σ2 H2 a1 a2 a3 (f'.trans a4)⟩⟩
theorem dss_one (h1 : DS X st t) : DSs X [st] t := ⟨pss_one h1.run⟩
def tBrk : DTS := fun env m E => E.bk env m
def tCnt : DTS := fun env m E => E.ct env m
def tNev : DTS := fun _ _ _ => False
theorem ds_pass : DS X (.Pass pos) tNx := ⟨PS.weak ps_pass fun D σ H h => by
  obtain ⟨env, m, E, eo, s, h, k1, _⟩ := h
  exact k1 env m σ H h eo s Fr.refl⟩
theorem ds_break : DS X (.Break pos) tBrk := ⟨PS.weak ps_break fun D σ H h => by
  obtain ⟨env, m, E, eo, s, h, k1, k2, k3, k4⟩ := h
  exact k3 env m σ H h eo s Fr.refl⟩
theorem ds_continue : DS X (.Continue pos) tCnt := ⟨PS.weak ps_continue fun D σ H h => by
  obtain ⟨env, m, E, eo, s, h, k1, k2, k3, k4⟩ := h
  exact k4 env m σ H h eo s Fr.refl⟩
theorem ds_never : DS X st tNev := ⟨⟨fun pins s σ H D I h => by obtain ⟨_, _, _, _, _, z, _⟩ := h; exact z.elim⟩⟩
theorem dss_never {sts : List Stmt} : DSs X sts tNev := ⟨⟨fun pins s σ H D I h => by obtain ⟨_, _, _, _, _, z, _⟩ := h; exact z.elim⟩⟩
def tDr (te : DTE) : DTS := fun env m E => te env m fun _ m1 => E.nx env m1
theorem ds_expr (he : DE X e te) (hs : swapsWith e none pos.line X.env = pure false := by rfl) : DS X (.Expr e pos) (tDr te) := ⟨PS.weak (ps_expr he.run hs) fun D σ H h => by
  obtain ⟨env, m, E, eo, s, h, k1, k2, k3, k4⟩ := h
  exact ⟨env, m, _, eo, s, h, fun d m1 v H1 h1 f1 s1 r1 => k1 env m1 σ H1 h1 (eo.mono f1) s1 f1⟩⟩
def tRt (te : DTE) : DTS := fun env m E => te env m E.rt
theorem ds_ret (he : DE X e te) : DS X (.Return (some e) pos) (tRt te) := ⟨PS.weak (ps_ret he.run) fun D σ H h => by
  obtain ⟨env, m, E, eo, s, h, k1, k2, k3, k4⟩ := h
  exact ⟨env, m, _, eo, s, h, fun d m1 v H1 h1 f1 s1 r1 => k2 d m1 v H1 h1 f1 s1 r1⟩⟩
def tRtN : DTS := fun _ m E => E.rt .non m
theorem ds_retN : DS X (.Return none pos) tRtN := ⟨PS.weak ps_retN fun D σ H h => by
  obtain ⟨env, m, E, eo, s, h, k1, k2, k3, k4⟩ := h
  exact k2 .non m .non H h Fr.refl s rep_non⟩
def tIfS (c : DTT) (t u : DTS) : DTS := fun env m E => c env m fun b m1 => if b = true then t env m1 E else u env m1 E
theorem ds_if {c : Expr} {sa sb : List Stmt} {tc : DTT} (hc : DT X c tc) (ha : DSs X sa t) (hb : DSs X sb u) : DS X (.If c sa sb pos) (tIfS tc t u) := ⟨PS.weak (ps_if hc.run ha.run hb.run) fun D σ H h => by
  obtain ⟨env, m, E, eo, s, h, k1, k2, k3, k4⟩ := h
  refine ⟨env, m, _, eo, s, h, fun c m1 H1 h1 f1 s1 => ?_⟩
  have go : ∀ {t : DTS}, t env m1 E → liftS X.K t D σ H1 := fun {t} h1 => ⟨env, m1, E, eo.mono f1, s1, h1, fun env2 m2 σ2 H2 a1 a2 a3 a4 => k1 env2 m2 σ2 H2 a1 a2 a3 (f1.trans a4), fun d m2 v H2 a1 a2 a3 a4 => k2 d m2 v H2 a1 (f1.trans a2) a3 a4,
    fun env2 m2 σ2 H2 a1 a2 a3 a4 => k3 env2 m2 σ2 H2 a1 a2 a3 (f1.trans a4), fun env2 m2 σ2 H2 a1 a2 a3 a4 => k4 env2 m2 σ2 H2 a1 a2 a3 (f1.trans a4)⟩
  cases c with
  | true => simp only [if_true] at h1 ⊢; exact go h1
  | false => simp only [Bool.false_eq_true, if_false] at h1 ⊢; exact go h1⟩
def tSet (i : Nat) (te : DTE) : DTS := fun env m E => te env m fun d m1 => E.nx (env.set i (some d)) m1
theorem set_lift {i : Nat} {tr : TE} (hw : ∀ σ H Q, liftE X.K te σ H Q → tr σ H Q) {D : Ends} {σ : L2.St} {H : Hp} (h : liftS X.K (tSet i te) D σ H) : tAsg tr (gName i) D σ H := by
  obtain ⟨env, m, E, eo, s, h, k1, k2, k3, k4⟩ := h
  refine hw _ _ _ ⟨env, m, _, eo, s, h, fun d m1 v H1 h1 f1 s1 r1 => ?_⟩
  exact k1 _ m1 _ H1 h1 ((eo.mono f1).set i r1) s1 f1
theorem ds_set {i : Nat} {x : Str} {pos' : Pos} (he : DE X e te) (hN : X.N.Nodup) (hi : X.N[i]? = some x := by rfl) (hx : Loc X.env.scope x := by first | exact Or.inl rfl | exact Or.inr rfl) (hs : swapsWith e (some (.Name x pos')) pos.line X.env = pure false := by rfl)
    (hf : X.fn x = true ∨ X.env.scope.names.lookup x = some .local := by first | exact .inl rfl | exact .inr rfl) :
    DS X (.Assign [.Name x pos'] e pos) (tSet i te) := ⟨PS.weak (ps_set hN hi hx he.run hs hf) fun D σ H h => set_lift (fun _ _ _ q => q) h⟩
/-! targets -/
def gN (i : Nat) : DTG := fun d env m Q => Q (env.set i (some d)) m
theorem dg_name {i : Nat} {x : Str} (hN : X.N.Nodup) (hi : X.N[i]? = some x := by rfl) (hx : Loc X.env.scope x := by first | exact Or.inl rfl | exact Or.inr rfl)
    (hf : X.fn x = true ∨ X.env.scope.names.lookup x = some .local := by first | exact .inl rfl | exact .inr rfl) : DG X (.Name x pos) (gN i) := ⟨PG.weak (pg_name hN hi hx hf) fun v σ H Q h => by
  obtain ⟨d, env, m, R, r, eo, s, h, k⟩ := h
  exact k _ m _ H h (eo.set i r) s Fr.refl⟩
/-- the names of a tuple target -/
def setL : List Nat → List D → Env → Env
  | i :: is, d :: ds, env => setL is ds (env.set i (some d))
  | _, _, env => env
def setLV : List Nat → List V → L2.St → L2.St
  | i :: is, d :: ds, env => setLV is ds (env.set i (some d))
  | _, _, env => env
theorem EnvOk.setL {K : PySem.W.Frag} {m : M} {H : Hp} : ∀ {is : List Nat} {ds : List D} {vs : List V} {σ : L2.St} {env : Env}, RepL K m H ds vs → EnvOk K m H σ env → EnvOk K m H (setLV is vs σ) (DL.setL is ds env)
  | [], ds, vs, σ, env, r, eo => by cases ds <;> cases vs <;> exact eo
  | i :: is, [], vs, σ, env, r, eo => by simp only [RepL] at r; subst r; exact eo
  | i :: is, d :: ds, vs, σ, env, r, eo => by
    simp only [RepL] at r
    obtain ⟨v, r', rfl, h1, h2⟩ := r
    exact EnvOk.setL (is := is) (ds := ds) (vs := r') h2 (eo.set i h1)
def gNames : List Nat → TGs
  | [] => gNil
  | i :: is => gCons (gName i) (gNames is)
theorem gNames_of {σ : L2.St} {H : Hp} {Q : L2.St → Hp → Prop} : ∀ {is : List Nat} {vs : List V} {σ : L2.St}, vs.length = is.length → Q (setLV is vs σ) H → gNames is vs σ H Q
  | [], [], σ, _, q => ⟨rfl, q⟩
  | i :: is, v :: vs, σ, hl, q => ⟨v, vs, rfl, gNames_of (σ := σ) (by simpa using hl) q⟩
/-- a target: a name, or names in a tuple -/
inductive Tgt where
  | one (i : Nat)
  | many (is : List Nat)
def Tgt.ix : Tgt → List Nat
  | .one i => [i]
  | .many is => is
def tgD : Tgt → DTG
  | .one i => gN i
  | .many is => fun d env m Q => ∃ ds, look m d = .tup ds ∧ ds.length = is.length ∧ Q (setL is ds env) m
def tgR (K : PySem.W.Frag) : Tgt → TG
  | .one i => gName i
  | .many is => gTup K is.length (gNames is)
theorem wipe_set {vs : List Nat} {i : Nat} (h : i ∈ vs) (σ : L2.St) (v : Option V) : L2.wipe (σ.set i v) vs = L2.wipe σ vs := by
  induction vs with
  | nil => cases h
  | cons j vs ih =>
    show (L2.wipe (σ.set i v) vs).set j none = (L2.wipe σ vs).set j none
    have comm : ∀ ws : List Nat, (i ∈ ws → L2.wipe (σ.set i v) ws = L2.wipe σ ws) → ¬ i ∈ ws → L2.wipe (σ.set i v) ws = (L2.wipe σ ws).set i v := by
      intro ws
      induction ws with
      | nil => intro _ _; rfl
      | cons k ws ih2 =>
        intro _ hn
        simp only [List.mem_cons, not_or] at hn
        show (L2.wipe (σ.set i v) ws).set k none = ((L2.wipe σ ws).set k none).set i v
        rw [ih2 (fun z => absurd z hn.2) hn.2, List.set_comm _ _ hn.1]
    by_cases hv : i ∈ vs
    · rw [ih hv]
    · have hij : i = j := by
        rcases List.mem_cons.mp h with z | z
        · exact z
        · exact absurd z hv
      subst hij
      rw [comm vs ih hv, List.set_set]
theorem wipe_setLV {vs : List Nat} : ∀ {is : List Nat} {ws : List V} {σ : L2.St}, (∀ i ∈ is, i ∈ vs) → L2.wipe (setLV is ws σ) vs = L2.wipe σ vs
  | [], ws, σ, _ => by cases ws <;> rfl
  | i :: is, [], σ, _ => rfl
  | i :: is, w :: ws, σ, h => by
    show L2.wipe (setLV is ws (σ.set i (some w))) vs = _
    rw [wipe_setLV fun j hj => h j (List.mem_cons_of_mem _ hj), wipe_set (h i List.mem_cons_self)]
/-- what a target's store does, in full -/
theorem tg_run {K : PySem.W.Frag} {g : Tgt} {d : D} {v : V} {env : Env} {m : M} {H : Hp} {σ : L2.St} {R : Env → M → Prop} {Q : L2.St → Hp → Prop} (r : Rep K m H d v) (eo : EnvOk K m H σ env) (s : Sim K m H) (h : tgD g d env m R)
    (k : ∀ env' σ', R env' m → EnvOk K m H σ' env' → (∀ vs, (∀ i ∈ g.ix, i ∈ vs) → L2.wipe σ' vs = L2.wipe σ vs) → Q σ' H) : tgR K g v σ H Q := by
  cases g with
  | one i => exact k _ _ h (eo.set i r) fun vs hv => wipe_set (hv i List.mem_cons_self) _ _
  | many is =>
    obtain ⟨ds, e, hl, h⟩ := h
    have c := cont_of s r
    rw [e] at c
    obtain ⟨a, vs, rfl, ha, rl⟩ := cont_tup c
    have hl2 : vs.length = is.length := by rw [← rl.length]; exact hl
    refine ⟨a, vs, rfl, tupAt_sq ha, hl2, gNames_of (σ := σ) hl2 (k _ _ h (EnvOk.setL rl eo) fun ws hw => wipe_setLV hw)⟩
structure DGt (X : Cx) (e : Expr) (g : Tgt) : Prop where run : PG X e (tgR X.K g)
theorem dgt_one {i : Nat} {x : Str} (hN : X.N.Nodup) (hi : X.N[i]? = some x := by rfl) (hx : Loc X.env.scope x := by first | exact Or.inl rfl | exact Or.inr rfl)
    (hf : X.fn x = true ∨ X.env.scope.names.lookup x = some .local := by first | exact .inl rfl | exact .inr rfl) : DGt X (.Name x pos) (.one i) := ⟨pg_name hN hi hx hf⟩
structure DGn (X : Cx) (es : List Expr) (is : List Nat) : Prop where run : PGs X es (gNames is)
theorem dgn_nil : DGn X [] [] := ⟨pgs_nil⟩
theorem dgn_cons {i : Nat} {is : List Nat} {x : Str} (hr : DGn X es is) (hN : X.N.Nodup) (hi : X.N[i]? = some x := by rfl) (hx : Loc X.env.scope x := by first | exact Or.inl rfl | exact Or.inr rfl)
    (hf : X.fn x = true ∨ X.env.scope.names.lookup x = some .local := by first | exact .inl rfl | exact .inr rfl) (hs : (assignEach (.Name x pos :: es) X.env).map (·.2) = assign (.Name x pos) X.env :: (assignEach es X.env).map (·.2) := by rfl) :
    DGn X (.Name x pos :: es) (i :: is) := ⟨pgs_cons (pg_name hN hi hx hf) hr.run hs⟩
theorem dgt_many {is : List Nat} {k : Nat} (hc : X.calm = true) (h : DGn X es is) (hn : (assignEach es X.env).length = is.length := by rfl) (hst : (assignEach es X.env).findIdx? (·.1) = none := by rfl) : DGt X (.Tuple es k pos) (.many is) :=
  ⟨pg_tup hc h.run hn hst⟩
theorem DGt.dg {g : Tgt} (h : DGt X e g) : DG X e (tgD g) := ⟨PG.weak h.run fun v σ H Q h => by
  obtain ⟨d, env, m, R, r, eo, s, h, k⟩ := h
  exact tg_run r eo s h fun env' σ' h' eo' _ => k env' m σ' H h' eo' s Fr.refl⟩
def tAs (te : DTE) (g : DTG) : DTS := fun env m E => te env m fun d m1 => g d env m1 E.nx
theorem ds_asg {g : DTG} (he : DE X e te) (hg : DG X tg g) (hs : swapsWithSole [tg] e pos.line X.env = pure false := by rfl) (hw : swappedStores [tg] e X.env = pure none := by rfl)
    (h1 : (assignEach [tg] X.env).map (·.2) = [assign tg X.env] := by rfl) : DS X (.Assign [tg] e pos) (tAs te g) := ⟨PS.weak (ps_asg he.run hg.run hs hw h1) fun D σ H h => by
  obtain ⟨env, m, E, eo, s, h, k1, k2, k3, k4⟩ := h
  refine ⟨env, m, _, eo, s, h, fun d m1 v H1 h1 f1 s1 r1 => ?_⟩
  exact ⟨d, env, m1, _, r1, eo.mono f1, s1, h1, fun env' m' σ' H' a1 a2 a3 a4 => k1 env' m' σ' H' a1 a2 a3 (f1.trans a4)⟩⟩
def tPr (i j : Nat) (ta : DTA) : DTS := fun env m E => ta env m fun ds m1 => ∃ x y, ds = [x, y] ∧ E.nx ((env.set i (some x)).set j (some y)) m1
theorem ds_par {i j : Nat} {x y : Str} {px py pt : Pos} {kt k2 : Nat} {pt2 : Pos} {ta : DTA} (ha : DA X [a, b] ta) (hc : X.calm = true) (hN : X.N.Nodup) (hi : X.N[i]? = some x := by rfl) (hj : X.N[j]? = some y := by rfl) (hij : i ≠ j := by decide)
    (hx : X.env.scope.names.lookup x = some .local := by rfl) (hy : X.env.scope.names.lookup y = some .local := by rfl)
    (hw : swappedStores [.Tuple [.Name x px, .Name y py] kt pt] (.Tuple [a, b] k2 pt2) X.env = pure (some [x, y]) := by rfl)
    (hs : swapsWithSole [.Tuple [.Name x px, .Name y py] kt pt] (.Tuple [a, b] k2 pt2) pos.line X.env = pure false := by rfl) :
    DS X (.Assign [.Tuple [.Name x px, .Name y py] kt pt] (.Tuple [a, b] k2 pt2) pos) (tPr i j ta) := ⟨PS.weak (ps_par hc hN hi hj hij hx hy ha.run hw hs) fun D σ H h => by
  obtain ⟨env, m, E, eo, s, h, k1, k2, k3, k4⟩ := h
  refine ⟨env, m, _, eo, s, h, fun ds m1 vs H1 h1 f1 s1 r1 => ?_⟩
  obtain ⟨x, y, rfl, h1⟩ := h1
  simp only [RepL] at r1
  obtain ⟨v, r', rfl, q1, v2, r2, rfl, q2, rfl⟩ := r1
  exact ⟨v, v2, rfl, k1 _ m1 _ H1 h1 (((eo.mono f1).set i q1).set j q2) s1 f1⟩⟩
/-! stores -/
def dStore (m : M) (o i d : D) (Q : M → Prop) : Prop := match o with
  | .ref p => match m p with
    | some (.lst ds) => ∃ k j, look m i = .int k ∧ ixN ds.length k = some j ∧ Q (updM m p (.lst (ds.set j d)))
    | some (.dic ks vs) => ∃ k, keyOf i = some k ∧ vs.length < sizeLine ∧ Q (updM m p (.dic (dputK ks k) (dputV ks vs k d)))
    | _ => False
  | _ => False
theorem set_dict (hu : X.A.units + 65 < cLine) : PSet X (fun o i v H Q => ∃ a H', o = .ref a ∧ DPut H a i v H' ∧ Q H') := by
  intro pins s σ H o i v ov iv u Q I ro ri rv h
  obtain ⟨a, H', rfl, g, q⟩ := h
  cases ro
  exact d_setItem (by omega) I g ri rv fun s' I' => ⟨H', I', q⟩
theorem PSet.or {r r' : V → V → V → Hp → (Hp → Prop) → Prop} (h : PSet X r) (h' : PSet X r') : PSet X (fun o i v H Q => r o i v H Q ∨ r' o i v H Q) := by
  intro pins s σ H o i v ov iv u Q I ro ri rv q
  rcases q with q | q
  · exact h pins s σ H o i v ov iv u Q I ro ri rv q
  · exact h' pins s σ H o i v ov iv u Q I ro ri rv q
def gSb (to ti : DTE) : DTG := fun d env m Q => to env m fun o m1 => ti env m1 fun i m2 => dStore m2 o i d fun m3 => Q env m3
theorem store_main {K : PySem.W.Frag} {m : M} {o i d : D} {ov iv v : V} {H : Hp} {R : M → Prop} {Q : Hp → Prop} (s : Sim K m H) (ro : Rep K m H o ov) (ri : Rep K m H i iv) (rv : Rep K m H d v) (h : dStore m o i d R)
    (k : ∀ m' H', R m' → Fr m H m' H' → Sim K m' H' → Q H') : rSetL ov iv v H Q ∨ ∃ a H', ov = .ref a ∧ DPut H a iv v H' ∧ Q H' := by
  unfold dStore at h
  split at h
  · simp only [Rep] at ro; subst ro
    split at h
    · rename_i p _ ds hp
      obtain ⟨kk, j, e1, e2, h⟩ := h
      have ci := cont_of s ri
      rw [e1] at ci
      obtain ⟨vs, h1, r1⟩ := s p _ hp
      refine .inl ⟨p, vs, kk, j, rfl, cont_int ci, h1, by rw [← r1.length]; exact e2, k _ _ h (Fr.write hp) (s.write hp ⟨_, upd_same, ?_⟩)⟩
      exact RepL.set j (RepL.mono (Fr.write hp) _ _ r1) (Rep.mono (Fr.write hp) _ _ rv)
    · rename_i p _ ks ds hp
      obtain ⟨kk, e1, hl, h⟩ := h
      have ei := keyOf_eq e1
      subst ei
      have := rep_kD ri
      subst this
      obtain ⟨kvs', hd', rfl, r1⟩ := s p _ hp
      refine .inr ⟨p, _, rfl, DPut.k (k := kk) hd' (by have := r1.length; rw [List.length_map] at this; omega), k _ _ h (Fr.write hp) (s.write hp ⟨_, upd_same, (putK_map kk v kvs').symm, ?_⟩)⟩
      exact putV_rep kk (Rep.mono (Fr.write hp) _ _ rv) kvs' ds (RepL.mono (Fr.write hp) _ _ r1)
    · exact h.elim
  · exact h.elim
end
end DL
/-! ### DL7: stores, fields, loops, comprehensions -/
namespace DL
open PySem PySem.Spec PyProof.Rows L2

section
variable {X : Cx} {e a b o i tg iter elt : Expr} {es ifs : List Expr} {st : Stmt} {rest body : List Stmt} {te ta tb to ti : DTE} {t u : DTS} {pos pos' : Pos}
theorem dg_sub (hu : X.A.units + 65 < cLine) (ho : DE X o to) (hi : DE X i ti)
    (ha : ∀ v, assign (.Subscript o i pos) X.env v = (do
      let ov ← holding [v] (eval o X.env)
      let iv ← holding [v, ov] (eval i X.env)
      standAt pos
      holding [v, ov, iv] (setItem ov iv v)
      release [v, ov, iv] []) := by intro _; rfl) : DG X (.Subscript o i pos) (gSb to ti) := ⟨PG.weak (pg_sub ho.run hi.run (PSet.or set_list (set_dict hu)) ha) fun v σ H Q h => by
  obtain ⟨d, env, m, R, r, eo, s, h, k⟩ := h
  refine ⟨env, m, _, eo, s, h, fun o m1 ov H1 h1 f1 s1 r1 => ?_⟩
  refine ⟨env, m1, _, eo.mono f1, s1, h1, fun i m2 iv H2 h2 f2 s2 r2 => ?_⟩
  have f12 := f1.trans f2
  exact store_main s2 (Rep.mono f2 _ _ r1) r2 (Rep.mono f12 _ _ r) h2 fun m' H' a1 a2 a3 => k env m' σ H' a1 (eo.mono (f12.trans a2)) a3 (f12.trans a2)⟩
/-! fields -/
def fget (f : Str) : List Str → List D → Option D
  | g :: ns, d :: ds => if g = f then some d else fget f ns ds
  | _, _ => none
def fputN (f : Str) : List Str → List Str
  | [] => [f]
  | g :: ns => if g = f then g :: ns else g :: fputN f ns
def fputV (f : Str) (d : D) : List Str → List D → List D
  | g :: ns, v :: ds => if g = f then d :: ds else v :: fputV f d ns ds
  | _, _ => [d]
theorem fget_rep {K : PySem.W.Frag} {m : M} {H : Hp} {f : Str} {d : D} : ∀ {fs : List (Str × V)} {ds : List D}, RepL K m H ds (fs.map (·.2)) → fget f (fs.map (·.1)) ds = some d → ∃ v, fs.lookup f = some v ∧ Rep K m H d v
  | [], ds, r, e => by cases ds <;> simp [fget] at e
  | p :: fs, [], r, e => by simp [fget] at e
  | p :: fs, d0 :: ds, r, e => by
    simp only [List.map_cons, RepL] at r
    obtain ⟨v, r', ev, h1, h2⟩ := r
    cases ev
    simp only [List.map_cons, fget] at e
    by_cases hf : p.1 = f
    · simp only [hf, if_true, Option.some.injEq] at e
      subst e
      refine ⟨p.2, ?_, h1⟩
      rw [← hf]
      obtain ⟨p1, p2⟩ := p
      simp [List.lookup]
    · simp only [hf, if_false] at e
      obtain ⟨v, e1, r1⟩ := fget_rep h2 e
      refine ⟨v, ?_, r1⟩
      obtain ⟨p1, p2⟩ := p
      have : (f == p1) = false := beq_eq_false_iff_ne.mpr fun z => hf z.symm
      simp only [List.lookup, this]
      exact e1
theorem fput_N (f : Str) (v : V) : ∀ fs : List (Str × V), (putF f v fs).map (·.1) = fputN f (fs.map (·.1))
  | [] => rfl
  | (g, x) :: r => by
    simp only [putF, List.map_cons, fputN]
    split
    · rfl
    · simp only [List.map_cons, fput_N f v r]
theorem fput_V {K : PySem.W.Frag} {m : M} {H : Hp} (f : Str) {v : V} {d : D} (rd : Rep K m H d v) : ∀ {fs : List (Str × V)} {ds : List D}, RepL K m H ds (fs.map (·.2)) → RepL K m H (fputV f d (fs.map (·.1)) ds) ((putF f v fs).map (·.2))
  | [], ds, r => by cases ds <;> exact .cons rd .nil
  | p :: fs, [], r => by simp only [List.map_cons, RepL] at r; cases r
  | (g, x) :: fs, d0 :: ds, r => by
    simp only [List.map_cons, RepL] at r
    obtain ⟨v', r', ev, h1, h2⟩ := r
    cases ev
    simp only [putF, List.map_cons, fputV]
    split
    · exact .cons rd h2
    · exact .cons h1 (fput_V f rd h2)
def tFl (C : Addr) (f : Str) (te : DTE) : DTE := fun env m Q => te env m fun x m1 => ∃ ns vs d, look m1 x = .ins C ns vs ∧ fget f ns vs = some d ∧ Q d m1
theorem de_fld {f : Str} (C : Addr) (he : DE X e te) (c : Cls X.K C) (n : NoAttr X.K C f) (hb : attributeBase e f X.env (eval e X.env) = eval e X.env := by rfl) : DE X (.Attribute e f pos) (tFl C f te) := ⟨PE.weak (pe_fld he.run hb) fun σ H Q h => by
  obtain ⟨env, m, R, eo, s, h, k⟩ := h
  refine ⟨env, m, _, eo, s, h, fun x m1 v H1 h1 f1 s1 r1 => ?_⟩
  obtain ⟨ns, vs, d, e1, e2, h1⟩ := h1
  have cc := cont_of s1 r1
  rw [e1] at cc
  obtain ⟨a, dx, fs, rfl, h2, rfl, r2⟩ := cc
  obtain ⟨v, e3, r3⟩ := fget_rep r2 e2
  exact ⟨a, C, dx, fs, v, rfl, h2, c, n, e3, k d m1 v H1 h1 f1 s1 r3⟩⟩
def tFlS (C : Addr) (f : Str) (ta tv : DTE) : DTS := fun env m E => tv env m fun d m1 => ta env m1 fun o m2 => ∃ p ns vs, o = .ref p ∧ m2 p = some (.ins C ns vs) ∧ vs.length < 1000 ∧ E.nx env (updM m2 p (.ins C (fputN f ns) (fputV f d ns vs)))
theorem ds_fld {f : Str} {value : Expr} {tv : DTE} (C : Addr) (ha : DE X o ta) (hv : DE X value tv) (c : Cls X.K C) (n : NoAttr X.K C f) (hs : swapsWith value (some (.Attribute o f pos')) pos.line X.env = pure false := by rfl) :
    DS X (.Assign [.Attribute o f pos'] value pos) (tFlS C f ta tv) := ⟨PS.weak (ps_fld ha.run hv.run hs) fun D σ H h => by
  obtain ⟨env, m, E, eo, s, h, k1, k2, k3, k4⟩ := h
  refine ⟨env, m, _, eo, s, h, fun d m1 v H1 h1 f1 s1 r1 => ?_⟩
  refine ⟨env, m1, _, eo.mono f1, s1, h1, fun x m2 w H2 h2 f2 s2 r2 => ?_⟩
  obtain ⟨p, ns, vs, rfl, hp, hl, h2⟩ := h2
  simp only [Rep] at r2
  subst r2
  obtain ⟨dx, fs, h3, rfl, r3⟩ := s2 p _ hp
  have fw : Fr m2 H2 (updM m2 p (.ins C (fputN f (fs.map (·.1))) (fputV f d (fs.map (·.1)) vs))) (upd H2 p (.ins C dx (putF f v fs))) := Fr.write hp
  refine ⟨p, C, dx, fs, rfl, h3, c, n, by have := r3.length; rw [List.length_map] at this; omega, k1 env _ σ _ h2 (eo.mono ((f1.trans f2).trans fw)) ?_ ((f1.trans f2).trans fw)⟩
  refine s2.write hp ⟨dx, _, upd_same, fput_N f v fs, ?_⟩
  exact fput_V f (Rep.mono fw _ _ (Rep.mono f2 _ _ r1)) (RepL.mono fw _ _ r3)⟩
/-! what is walked -/
def Items (K : PySem.W.Frag) (J : It) (ds : List D) (m0 : M) (H0 : Hp) : Prop := ∀ (i : Nat) (m : M) (H : Hp), Fr m0 H0 m H → Sim K m H →
  (∀ d, ds[i]? = some d → J.go i H ∧ ∀ x H', J.yld i H x H' → Fr m H m H' ∧ Sim K m H' ∧ Rep K m H' d x) ∧ (i = ds.length → J.stop i H)
abbrev DTI := Env → M → (List D → M → Prop) → Prop
def liftI (K : PySem.W.Frag) (t : DTI) : TI := fun σ H R => ∃ env m RR, EnvOk K m H σ env ∧ Sim K m H ∧ t env m RR ∧ ∀ ds m' J H', RR ds m' → Fr m H m' H' → Sim K m' H' → Items K J ds m' H' → R J H'
structure DI (X : Cx) (tg e : Expr) (t : DTI) : Prop where run : PI X tg e (liftI X.K t)
theorem PI.weak {tg e : Expr} {t t' : TI} (h : PI X tg e t) (k : ∀ σ H R, t' σ H R → t σ H R) : PI X tg e t' := ⟨fun pins s σ H R I q => h.run pins s σ H R I (k σ H R q)⟩
def dSeq : D → Option (List D)
  | .lst ds => some ds
  | .tup ds => some ds
  | .str x => some (x.cps.toList.map fun c => .str ⟨#[c]⟩)
  | .dic ks _ => some ks
  | _ => none
def iSeq (te : DTE) : DTI := fun env m Q => te env m fun d m1 => ∃ ds, dSeq d = some ds ∧ Q ds m1
theorem items_list {K : PySem.W.Frag} {m0 : M} {H0 : Hp} {a : Addr} {ds : List D} {vs : List V} (n : m0 a = none) (h : H0 a = some (.lst vs)) (r : RepL K m0 H0 ds vs) : Items K (Itl K a) ds m0 H0 := fun i m H f s => by
  obtain ⟨n', h'⟩ := f.lst n h
  have inj : ∀ ys, SqL K H a ys → (Rd H a (.lst ys) → ys = vs) := fun ys _ z => by
    rcases z with z | ⟨o, z⟩
    · rw [h'] at z; cases z; rfl
    · rw [h'] at z; cases z
  refine ⟨fun d e => ?_, fun hl => ⟨vs, .of h', by rw [← r.length, hl]; exact Nat.le_refl _⟩⟩
  obtain ⟨v, e1, r1⟩ := r.get e
  refine ⟨⟨vs, v, .of h', e1⟩, fun x H' y => ?_⟩
  obtain ⟨eH, y⟩ := y
  subst eH
  have := y vs (.of h')
  rw [e1] at this; cases this
  exact ⟨Fr.refl, s, Rep.mono f _ _ r1⟩
theorem items_tup {K : PySem.W.Frag} {m0 : M} {H0 : Hp} {a : Addr} {ds : List D} {vs : List V} (h : TupAt K m0 H0 a vs) (r : RepL K m0 H0 ds vs) : Items K (Itt K a) ds m0 H0 := fun i m H f s => by
  have h' : SqT K H a vs := by
    rcases h with ⟨n, h⟩ | h
    · exact .inl (.inl (f.tup n h).2)
    · exact .inr h
  refine ⟨fun d e => ?_, fun hl => ⟨vs, h', by rw [← r.length, hl]; exact Nat.le_refl _⟩⟩
  obtain ⟨v, e1, r1⟩ := r.get e
  refine ⟨⟨vs, v, h', e1⟩, fun x H' y => ?_⟩
  obtain ⟨eH, y⟩ := y
  subst eH
  have := y vs h'
  rw [e1] at this; cases this
  exact ⟨Fr.refl, s, Rep.mono f _ _ r1⟩
theorem items_str {K : PySem.W.Frag} {m0 : M} {H0 : Hp} {x : Str} : Items K (Its x) (x.cps.toList.map fun c => .str ⟨#[c]⟩) m0 H0 := fun i m H f s => by
  refine ⟨fun d e => ?_, fun hl => ?_⟩
  rotate_left
  · rw [List.length_map, Array.length_toList] at hl; exact Nat.le_of_eq hl.symm
  rw [List.getElem?_map] at e
  obtain ⟨c, ec, rfl⟩ := Option.map_eq_some_iff.mp e
  have hi : i < x.cps.size := by
    rcases Nat.lt_or_ge i x.cps.toList.length with z | z
    · simpa using z
    · rw [List.getElem?_eq_none z] at ec; cases ec
  refine ⟨hi, fun y H' q => ?_⟩
  obtain ⟨rfl, c', ec', rfl⟩ := q
  rw [Array.getElem?_toList] at ec
  rw [ec] at ec'; cases ec'
  exact ⟨Fr.refl, s, rep_str⟩
theorem items_dic {K : PySem.W.Frag} {m0 : M} {H0 : Hp} {a : Addr} {o : Obj} {kvs : List (Key × V)} (n : m0 a = none) (h : H0 a = some (.frz o (.dK kvs))) : Items K (Itk a o kvs) (kvs.map fun kv => kD kv.1) m0 H0 := fun i m H f s => by
  obtain ⟨n', h'⟩ := f.frz n h
  refine ⟨fun d e => ?_, fun hl => ⟨h', by rw [hl, List.length_map]; exact Nat.le_refl _⟩⟩
  rw [List.getElem?_map] at e
  obtain ⟨kv, ek, rfl⟩ := Option.map_eq_some_iff.mp e
  have hi : i < kvs.length := by
    rcases Nat.lt_or_ge i kvs.length with z | z
    · exact z
    · rw [List.getElem?_eq_none z] at ek; cases ek
  refine ⟨⟨h', hi⟩, fun x H' y => ?_⟩
  obtain ⟨eH, k, v, e1, rfl⟩ := y
  subst eH
  rw [ek] at e1; cases e1
  exact ⟨Fr.refl, s, rep_kk _⟩
theorem Fr.locked {m : M} {H : Hp} {a : Addr} {o : Obj} {kvs : List (Key × V)} (h : H a = some (.dK kvs)) : Fr m H m (upd H a (.frz o (.dK kvs))) := fun b u nb hb => by
  by_cases e : b = a
  · subst e
    rw [h] at hb; cases hb
    exact ⟨nb, _, upd_same, .inr ⟨o, kvs, rfl, rfl⟩⟩
  · exact ⟨nb, u, by rw [upd_ne e]; exact hb, .inl rfl⟩
theorem Sim.locked {K : PySem.W.Frag} {m : M} {H : Hp} {a : Addr} {o : Obj} {kvs : List (Key × V)} (s : Sim K m H) (n : m a = none) (h : H a = some (.dK kvs)) : Sim K m (upd H a (.frz o (.dK kvs))) :=
  s.monoL (Fr.locked h).l fun b u nb hb => by
    have e : b ≠ a := fun z => nb (by rw [z]; exact n)
    rw [upd_ne e]; exact hb
theorem di_seq (he : DE X e te) : DI X tg e (iSeq te) := ⟨⟨fun pins s σ H R I h => by
  obtain ⟨env, m, RR, eo, sm, h, k⟩ := h
  have h0 : liftE X.K te σ H (fun x H1 => (∃ a, x = .ref a ∧ (∃ xs, SqL X.K H1 a xs) ∧ R (Itl X.K a) H1) ∨ (∃ a, x = .ref a ∧ (∃ xs, SqT X.K H1 a xs) ∧ R (Itt X.K a) H1) ∨ (∃ y, x = .str y ∧ R (Its y) H1) ∨ ∃ a kvs, x = .ref a ∧ ((∃ o, H1 a = some (.frz o (.dK kvs)) ∧ R (Itk a o kvs) H1) ∨ (H1 a = some (.dK kvs) ∧ ∀ o, R (Itk a o kvs) (upd H1 a (.frz o (.dK kvs)))))) := by
    refine ⟨env, m, _, eo, sm, h, fun d m1 v H1 h1 f1 s1 r1 => ?_⟩
    obtain ⟨ds, e1, h1⟩ := h1
    unfold dSeq at e1
    split at e1
    · cases e1
      simp only [Rep] at r1
      obtain ⟨a, vs, rfl, ⟨n, h2⟩, r2⟩ := r1
      exact .inl ⟨a, rfl, ⟨vs, .of h2⟩, k _ m1 _ H1 h1 f1 s1 (items_list n h2 r2)⟩
    · cases e1
      simp only [Rep] at r1
      obtain ⟨a, vs, rfl, h2, r2⟩ := r1
      exact .inr (.inl ⟨a, rfl, ⟨vs, tupAt_sq h2⟩, k _ m1 _ H1 h1 f1 s1 (items_tup h2 r2)⟩)
    · cases e1
      simp only [Rep] at r1
      subst r1
      exact .inr (.inr (.inl ⟨_, rfl, k _ m1 _ H1 h1 f1 s1 items_str⟩))
    · cases e1
      simp only [Rep] at r1
      obtain ⟨a, vs, rfl, n, ⟨kvs, h2, rfl, rfl⟩, r2⟩ := r1
      refine .inr (.inr (.inr ⟨a, kvs, rfl, ?_⟩))
      rcases h2 with h2 | ⟨o, h2⟩
      · refine .inr ⟨h2, fun o => k _ m1 _ _ h1 (f1.trans (Fr.locked h2)) (s1.locked n h2) (items_dic n upd_same)⟩
      · exact .inl ⟨o, h2, k _ m1 _ H1 h1 f1 s1 (items_dic n h2)⟩
    · cases e1
  refine thn (he.run.run pins s σ H _ I h0) fun v s1 ⟨x, H1, I1, r1, q1⟩ => ?_
  rcases q1 with ⟨a, rfl, ⟨xs, hq⟩, q⟩ | ⟨a, rfl, ⟨xs, hq⟩, q⟩ | ⟨y, rfl, q⟩ | ⟨d, kvs, rfl, q⟩
  · cases r1
    obtain ⟨its, rv, p, hz⟩ := I1.list hq
    refine wpAny_pyIter_list p.isList ?_
    refine ⟨s1.heap.objs.size, [s1.heap.objs.size], _, _, H1, rfl, I1.kept (t' := s1.toks) fun b o e => Heap.get?_push_of_some _ e, turn_list a _, ⟨_, Heap.get?_push_size _ rfl, rfl, rfl⟩, fun b hb => ?_, q⟩
    have e : b = s1.heap.objs.size := by simpa using hb
    subst e
    exact I1.fpOk (Nat.le_refl _) (I1.hok.fresh (Nat.le_refl _))
  · cases r1
    obtain ⟨its, rv, p, hz⟩ := I1.tuple hq
    refine wpAny_pyIter_tuple (show s1.heap.IsTuple a its.toArray from p) ?_
    refine ⟨s1.heap.objs.size, [s1.heap.objs.size], _, _, H1, rfl, I1.kept (t' := s1.toks) fun b o e => Heap.get?_push_of_some _ e, turn_tuple a _, ⟨_, Heap.get?_push_size _ rfl, rfl, rfl⟩, fun b hb => ?_, q⟩
    have e : b = s1.heap.objs.size := by simpa using hb
    subst e
    exact I1.fpOk (Nat.le_refl _) (I1.hok.fresh (Nat.le_refl _))
  · obtain ⟨t, rfl⟩ := r1
    cases ha : y.cps.all (· < 128)
    · exact wpAny_pyIter_wide ha (pi_one (tk := s1.toks) I1 _ (turn_str _ y t "str_iterator" (.inr rfl)) ⟨_, Heap.get?_push_size _ rfl, rfl, rfl⟩ q)
    · exact wpAny_pyIter_ascii ha (pi_one (tk := s1.toks) I1 _ (turn_str _ y t "str_ascii_iterator" (.inl rfl)) ⟨_, Heap.get?_push_size _ rfl, rfl, rfl⟩ q)
  · cases r1
    have key : ∀ (o : Obj) (H2 : Hp) (I2 : Inv X pins σ H2 s1) (hd : H2 d = some (.frz o (.dK kvs))) (q : R (Itk d o kvs) H2), wpAny (model X.prog X.w) X.A (pyIter (.ref d)) (PIE X pins σ tg R) X.xe s1 := by
      intro o H2 I2 hd q
      obtain ⟨hs, hgd, hx, es, ep, vs, hdt, hsz, kv, hm⟩ := I2.frzK hd
      refine iter_keys hs hgd hx hdt (pi_one (tk := s1.toks) I2 _ (turn_keys _ hdt) ⟨_, Heap.get?_push_size _ rfl, rfl, ?_⟩ q)
      rw [hsz] <;> rfl
    rcases q with ⟨o, hd, q⟩ | ⟨hd, q⟩
    · exact key o H1 I1 hd q
    · obtain ⟨od, I2⟩ := I1.lock hd trivial
      exact key od _ I2 upd_same (q od)⟩⟩
/-- range -/
def rngD (lo : Int) (n : Nat) : List D := (List.range n).map fun (i : Nat) => D.int (lo + i)
theorem items_rng {K : PySem.W.Frag} {m0 : M} {H0 : Hp} {lo : Int} {n : Nat} : Items K (Itr lo n) (rngD lo n) m0 H0 := fun i m H f s => by
  refine ⟨fun d e => ?_, fun hl => ?_⟩
  rotate_left
  · unfold rngD at hl; rw [List.length_map, List.length_range] at hl; exact Nat.le_of_eq hl.symm
  unfold rngD at e
  rw [List.getElem?_map] at e
  obtain ⟨j, ej, rfl⟩ := Option.map_eq_some_iff.mp e
  have hi : i < n := by
    rcases Nat.lt_or_ge i (List.range n).length with z | z
    · simpa using z
    · rw [List.getElem?_eq_none z] at ej; cases ej
  rw [List.getElem?_range hi] at ej
  cases ej
  refine ⟨hi, fun y H' q => ?_⟩
  obtain ⟨rfl, rfl⟩ := q
  exact ⟨Fr.refl, s, rep_int⟩
def iRg (ta : DTA) : DTI := fun env m Q => ta env m fun ds m1 => (∃ j, ds = [.int j] ∧ -(2 ^ 62) ≤ j ∧ j < 2 ^ 62 ∧ Q (rngD 0 j.toNat) m1)
def iRg2 (ta : DTA) : DTI := fun env m Q => ta env m fun ds m1 => (∃ i j, ds = [.int i, .int j] ∧ (-(2 ^ 62) ≤ i ∧ i < 2 ^ 62 ∧ -(2 ^ 62) ≤ j ∧ j < 2 ^ 62) ∧ Q (rngD i (j - i).toNat) m1)
theorem di_range {p : Pos} {ta : DTA} (hm : X.mg "range" = none) (ha : DA X [a] ta) (hg : Gl X "range" := by rfl) (hs : starEach [a] X.env = [(false, eval a X.env)] := by rfl) : DI X tg (.Call (.Name "range" p) [a] [] pos) (iRg ta) :=
  ⟨PI.weak (pi_range1 hg hm ha.run hs) fun σ H R h => by
    obtain ⟨env, m, RR, eo, s, h, k⟩ := h
    refine ⟨env, m, _, eo, s, h, fun ds m1 vs H1 h1 f1 s1 r1 => ?_⟩
    obtain ⟨j, rfl, b1, b2, h1⟩ := h1
    obtain ⟨v, rfl, r2⟩ := repL1 r1
    simp only [Rep] at r2
    subst r2
    exact ⟨j, rfl, b1, b2, k _ m1 _ H1 h1 f1 s1 items_rng⟩⟩
theorem di_range2 {p : Pos} {ta : DTA} (hm : X.mg "range" = none) (ha : DA X [a, b] ta) (hg : Gl X "range" := by rfl) (hs : starEach [a, b] X.env = [(false, eval a X.env), (false, eval b X.env)] := by rfl) (hs2 : starEach [b] X.env = [(false, eval b X.env)] := by rfl) :
    DI X tg (.Call (.Name "range" p) [a, b] [] pos) (iRg2 ta) :=
  ⟨PI.weak (pi_range2 hg hm ha.run hs hs2) fun σ H R h => by
    obtain ⟨env, m, RR, eo, s, h, k⟩ := h
    refine ⟨env, m, _, eo, s, h, fun ds m1 vs H1 h1 f1 s1 r1 => ?_⟩
    obtain ⟨i, j, rfl, b1, h1⟩ := h1
    simp only [RepL] at r1
    obtain ⟨v, r', rfl, q1, v2, r2, rfl, q2, rfl⟩ := r1
    simp only [Rep] at q1 q2
    subst q1; subst q2
    exact ⟨i, j, rfl, b1, k _ m1 _ H1 h1 f1 s1 items_rng⟩⟩
/-! for -/
def forD (g : Tgt) (tb : DTS) (E : DEnds) : List D → Env → M → Prop
  | [], env, m => E.nx env m
  | d :: ds, env, m => tgD g d env m fun env' m' => tb env' m' { E with nx := forD g tb E ds, ct := forD g tb E ds, bk := E.nx }
def tFo (ti : DTI) (g : Tgt) (tb : DTS) : DTS := fun env m E => ti env m fun ds m1 => forD g tb E ds env m1
theorem for_core {g : Tgt} {tb : DTS} {De : Ends} {σ : L2.St} {env : Env} {m1 : M} {H1 : Hp} {J : It} {ds : List D} {E : DEnds} (eo : EnvOk X.K m1 H1 σ env) (s1 : Sim X.K m1 H1) (it : Items X.K J ds m1 H1) (h1 : forD g tb E ds env m1)
    (k1 : ∀ env' m' σ' H', E.nx env' m' → EnvOk X.K m' H' σ' env' → Sim X.K m' H' → Fr m1 H1 m' H' → De.nx σ' H') (k2 : ∀ d m' v H', E.rt d m' → Fr m1 H1 m' H' → Sim X.K m' H' → Rep X.K m' H' d v → De.rt v H') :
    ∃ W : Nat → Nat → L2.St → Hp → Prop, (∃ n, W 0 n σ H1) ∧ ∀ i n σ H, W i n σ H → (J.stop i H ∧ De.nx σ H) ∨ (J.go i H ∧ ∃ N : L2.St → Hp → Prop, (∀ σ' H', N σ' H' → ∃ n', n' < n ∧ W (i + 1) n' σ' H') ∧
      ∀ x H', J.yld i H x H' → tgR X.K g x σ H' fun σ2 H2 => liftS X.K tb { De with nx := N, ct := N, bk := De.nx } σ2 H2) := by
  refine ⟨fun i n σ H => n = ds.length - i ∧ i ≤ ds.length ∧ ∃ env m, EnvOk X.K m H σ env ∧ Sim X.K m H ∧ Fr m1 H1 m H ∧ forD g tb E (ds.drop i) env m, ⟨_, rfl, Nat.zero_le _, env, m1, eo, s1, Fr.refl, h1⟩, ?_⟩
  rintro i n σ2 H2 ⟨rfl, hi, env2, m2, eo2, s2, f2, h2⟩
  obtain ⟨go, stop⟩ := it i m2 H2 f2 s2
  by_cases hlt : i < ds.length
  · obtain ⟨g1, g2⟩ := go ds[i] (by simp [hlt])
    have ed : ds.drop i = ds[i] :: ds.drop (i + 1) := List.drop_eq_getElem_cons hlt
    rw [ed] at h2
    refine .inr ⟨g1, fun σ' H' => ∃ env m, EnvOk X.K m H' σ' env ∧ Sim X.K m H' ∧ Fr m1 H1 m H' ∧ forD g tb E (ds.drop (i + 1)) env m, fun σ' H' q => ⟨ds.length - (i + 1), by omega, rfl, hlt, q⟩, fun x H' y => ?_⟩
    obtain ⟨f3, s3, r3⟩ := g2 x H' y
    have h2 : tgD g ds[i] env2 m2 _ := h2
    refine tg_run r3 (eo2.mono f3) s3 h2 fun env4 σ4 h4 eo4 _ => ?_
    have f13 := f2.trans f3
    exact ⟨env4, m2, _, eo4, s3, h4, fun env' m' σ' H' a1 a2 a3 a4 => ⟨env', m', a2, a3, f13.trans a4, a1⟩, fun d m' v H' a1 a2 a3 a4 => k2 d m' v H' a1 (f13.trans a2) a3 a4,
      fun env' m' σ' H' a1 a2 a3 a4 => k1 env' m' σ' H' a1 a2 a3 (f13.trans a4), fun env' m' σ' H' a1 a2 a3 a4 => ⟨env', m', a2, a3, f13.trans a4, a1⟩⟩
  · have e : i = ds.length := by omega
    subst e
    rw [List.drop_length] at h2
    exact .inl ⟨stop rfl, k1 env2 m2 σ2 H2 h2 eo2 s2 f2⟩
theorem for_lift {g : Tgt} {tb : DTS} {ti : DTI} {D : Ends} {σ : L2.St} {H : Hp} (h : liftS X.K (tFo ti g tb) D σ H) : tFor (liftI X.K ti) (tgR X.K g) (liftS X.K tb) D σ H := by
  obtain ⟨env, m, E, eo, s, h, k1, k2, k3, k4⟩ := h
  refine ⟨env, m, _, eo, s, h, fun ds m1 J H1 h1 f1 s1 it => ?_⟩
  exact for_core (eo.mono f1) s1 it h1 (fun env' m' σ' H' a1 a2 a3 a4 => k1 env' m' σ' H' a1 a2 a3 (f1.trans a4)) fun d m' v H' a1 a2 a3 a4 => k2 d m' v H' a1 (f1.trans a2) a3 a4
theorem ds_for {ti : DTI} {g : Tgt} {tb : DTS} (hi : DI X tg iter ti) (hg : DGt X tg g) (hb : DSs X body tb) (hc : X.calm = true) (hp : PassesOwn (model X.prog X.w) X.A X.env X.xe) (hs : ∀ x, foldedSetIterable iter X.env x = pure x := by intro _; rfl) :
    DS X (.For tg iter body [] pos) (tFo ti g tb) := ⟨PS.weak (ps_for hp hc hi.run hg.run hb.run hs) fun D σ H h => for_lift h⟩
/-! while -/
def whileD (c : DTT) (tb : DTS) (E : DEnds) : Nat → Env → M → Prop
  | 0, _, _ => False
  | n + 1, env, m => c env m fun b m1 => if b = true then tb env m1 { E with nx := whileD c tb E n, ct := whileD c tb E n, bk := E.nx } else E.nx env m1
def tWh (c : DTT) (tb : DTS) : DTS := fun env m E => ∃ n, whileD c tb E n env m
theorem ds_while {c : Expr} {tc : DTT} {tb : DTS} (hc : DT X c tc) (hb : DSs X body tb) (hp : PassesOwn (model X.prog X.w) X.A X.env X.xe) : DS X (.While c body [] pos) (tWh tc tb) := ⟨PS.weak (ps_while hp hc.run hb.run) fun D σ H h => by
  obtain ⟨env, m, E, eo, s, ⟨n, h⟩, k1, k2, k3, k4⟩ := h
  refine ⟨fun n σ' H' => ∃ env' m', EnvOk X.K m' H' σ' env' ∧ Sim X.K m' H' ∧ Fr m H m' H' ∧ whileD tc tb E n env' m', ⟨n, env, m, eo, s, Fr.refl, h⟩, ?_⟩
  rintro n σ2 H2 ⟨env2, m2, eo2, s2, f2, h2⟩
  cases n with
  | zero => exact h2.elim
  | succ n =>
    refine ⟨env2, m2, _, eo2, s2, h2, fun b m3 H3 h3 f3 s3 => ?_⟩
    cases b with
    | true =>
      simp only [if_true] at h3 ⊢
      refine ⟨fun σ' H' => ∃ env' m', EnvOk X.K m' H' σ' env' ∧ Sim X.K m' H' ∧ Fr m H m' H' ∧ whileD tc tb E n env' m', fun σ' H' q => ⟨n, Nat.lt_succ_self n, q⟩, ?_⟩
      have f23 := f2.trans f3
      exact ⟨env2, m3, _, eo2.mono f3, s3, h3, fun env' m' σ' H' a1 a2 a3 a4 => ⟨env', m', a2, a3, f23.trans a4, a1⟩, fun d m' v H' a1 a2 a3 a4 => k2 d m' v H' a1 (f23.trans a2) a3 a4,
        fun env' m' σ' H' a1 a2 a3 a4 => k1 env' m' σ' H' a1 a2 a3 (f23.trans a4), fun env' m' σ' H' a1 a2 a3 a4 => ⟨env', m', a2, a3, f23.trans a4, a1⟩⟩
    | false =>
      simp only [Bool.false_eq_true, if_false] at h3 ⊢
      exact k1 env2 m3 σ2 H3 h3 (eo2.mono f3) s3 (f2.trans f3)⟩
/-! comprehensions -/
structure DTs (X : Cx) (es : List Expr) (t : DTT) : Prop where run : PTs X es (liftT X.K t)
def tYe : DTT := fun _ m Q => Q true m
theorem dts_nil : DTs X [] tYe := ⟨⟨fun pins s σ H Q I h => by
  obtain ⟨env, m, R, eo, sm, h, k⟩ := h
  exact (pts_nil (X := X)).run pins s σ H Q I (k true m H h Fr.refl sm)⟩⟩
theorem dts_one {c : Expr} {t : DTT} (h : DT X c t) : DTs X [c] t := ⟨pts_one h.run⟩
/-- the new list stands at p -/
def lcD (p : Addr) (g : Tgt) (tt : DTT) (te : DTE) (env : Env) (Q : M → Prop) : List D → M → Prop
  | [], m => Q m
  | d :: ds, m => tgD g d env m fun env' m' => tt env' m' fun b m2 => if b = true then te env' m2 fun y m3 => ∃ acc, m3 p = some (.lst acc) ∧ acc.length < sizeLine ∧ lcD p g tt te env Q ds (updM m3 p (.lst (acc ++ [y]))) else lcD p g tt te env Q ds m2
def tLcM (ti : DTI) (g : Tgt) (tt : DTT) (te : DTE) (vs : List Nat) : DTE := fun env m Q => ti env m fun ds m1 => ∀ p, m1 p = none → lcD p g tt te (wipeD env vs) (fun m2 => Q (.ref p) m2) ds (updM m1 p (.lst []))
theorem wipe_sub {vs : List Nat} : ∀ {ws : List Nat} {σ : L2.St}, (∀ i ∈ ws, i ∈ vs) → L2.wipe (L2.wipe σ ws) vs = L2.wipe σ vs
  | [], σ, _ => rfl
  | i :: ws, σ, h => by
    show L2.wipe ((L2.wipe σ ws).set i none) vs = _
    rw [wipe_set (h i List.mem_cons_self), wipe_sub fun j hj => h j (List.mem_cons_of_mem _ hj)]
theorem lc_core {g : Tgt} {tt : DTT} {vs : List Nat} (hg : ∀ i ∈ g.ix, i ∈ vs) {σ : L2.St} {env : Env} {m1 : M} {H1 : Hp} {J : It} {ds : List D} {Q : VK} {R : DK} (eo : EnvOk X.K m1 H1 σ env) (s1 : Sim X.K m1 H1) (it : Items X.K J ds m1 H1)
    (h1 : ∀ p, m1 p = none → lcD p g tt te (wipeD env vs) (fun m2 => R (.ref p) m2) ds (updM m1 p (.lst []))) (k : ∀ d m' v H', R d m' → Fr m1 H1 m' H' → Sim X.K m' H' → Rep X.K m' H' d v → Q v H') :
    ∀ Dz, H1 Dz = none → ∃ W : Nat → Nat → Hp → Prop, (∃ n, W 0 n (upd H1 Dz (.lst []))) ∧ ∀ i n H, W i n H → (J.stop i H ∧ Q (.ref Dz) H) ∨ (J.go i H ∧ ∃ Nx : Hp → Prop, (∀ H', Nx H' → ∃ n', n' < n ∧ W (i + 1) n' H') ∧
      ∀ x H', J.yld i H x H' → tgR X.K g x (L2.wipe σ vs) H' fun σ2 H2 => L2.wipe σ2 vs = L2.wipe σ vs ∧ liftT X.K tt σ2 H2 fun b H3 =>
        if b = true then liftE X.K te σ2 H3 fun y H4 => ∃ acc, H4 Dz = some (.lst acc) ∧ acc.length < sizeLine ∧ Nx (upd H4 Dz (.lst (acc ++ [y]))) else Nx H3) := by
  intro D hD
  have mD : m1 D = none := s1.free hD
  refine ⟨fun i n H => n = ds.length - i ∧ i ≤ ds.length ∧ ∃ m, Sim X.K m H ∧ Fr m1 H1 m H ∧ lcD D g tt te (wipeD env vs) (fun m2 => R (.ref D) m2) (ds.drop i) m,
    ⟨_, rfl, Nat.zero_le _, _, new_lstM s1 hD .nil, Fr.laidM s1 hD, h1 D mD⟩, ?_⟩
  rintro i n H2 ⟨rfl, hi, m2, s2, f2, h2⟩
  obtain ⟨go, stop⟩ := it i m2 H2 f2 s2
  by_cases hlt : i < ds.length
  · obtain ⟨g1, g2⟩ := go ds[i] (by simp [hlt])
    have ed : ds.drop i = ds[i] :: ds.drop (i + 1) := List.drop_eq_getElem_cons hlt
    rw [ed] at h2
    refine .inr ⟨g1, fun H' => ∃ m, Sim X.K m H' ∧ Fr m1 H1 m H' ∧ lcD D g tt te (wipeD env vs) (fun m2 => R (.ref D) m2) (ds.drop (i + 1)) m,
      fun H' q => ⟨ds.length - (i + 1), by omega, rfl, hlt, q⟩, fun x H' y => ?_⟩
    obtain ⟨f3, s3, r3⟩ := g2 x H' y
    have h2 : tgD g ds[i] (wipeD env vs) m2 _ := h2
    refine tg_run r3 (((eo.mono f2).wipe vs).mono f3) s3 h2 fun env4 σ4 h4 eo4 wp => ?_
    refine ⟨by rw [wp vs hg]; exact wipe_sub fun i hi => hi, env4, m2, _, eo4, s3, h4, fun b m5 H5 h5 f5 s5 => ?_⟩
    have f35 := f3.trans f5
    cases b with
    | true =>
      simp only [if_true] at h5 ⊢
      refine ⟨env4, m5, _, eo4.mono f5, s5, h5, fun z m6 zv H6 h6 f6 s6 r6 => ?_⟩
      obtain ⟨acc, ea, hz, h6⟩ := h6
      obtain ⟨ws, hD6, ra⟩ := s6 D _ ea
      have fw : Fr m6 H6 (updM m6 D (.lst (acc ++ [z]))) (upd H6 D (.lst (ws ++ [zv]))) := Fr.write ea
      exact ⟨ws, hD6, by rw [← ra.length]; exact hz, _, s6.write (d := .lst (acc ++ [z])) ea ⟨_, upd_same, RepL.mono fw _ _ (ra.snoc r6)⟩, (f2.trans (f35.trans f6)).trans fw, h6⟩
    | false =>
      simp only [Bool.false_eq_true, if_false] at h5 ⊢
      exact ⟨m5, s5, f2.trans f35, h5⟩
  · have e : i = ds.length := by omega
    subst e
    rw [List.drop_length] at h2
    exact .inl ⟨stop rfl, k (.ref D) m2 _ H2 h2 f2 s2 rep_ref⟩
theorem lc_lift {g : Tgt} {tt : DTT} {ti : DTI} {vs : List Nat} (hg : ∀ i ∈ g.ix, i ∈ vs) {σ : L2.St} {H : Hp} {Q : VK} (h : liftE X.K (tLcM ti g tt te vs) σ H Q) : L2.tLc (liftI X.K ti) (tgR X.K g) (liftT X.K tt) (liftE X.K te) vs σ H Q := by
  obtain ⟨env, m, R, eo, s, h, k⟩ := h
  refine ⟨env, m, _, eo, s, h, fun ds m1 J H1 h1 f1 s1 it => ?_⟩
  exact lc_core hg (eo.mono f1) s1 it h1 fun d m' v H' a1 a2 a3 a4 => k d m' v H' a1 (f1.trans a2) a3 a4
theorem frz_lift {K : PySem.W.Frag} {te : DTE} {σ : L2.St} {H : Hp} {Q : VK} (h : liftE K (tFrz te) σ H Q) : liftE K te σ H Q := by
  obtain ⟨env, m, R, eo, s, h, k⟩ := h
  refine ⟨env, m, _, eo, s, h, fun d m1 v H1 h1 f1 s1 r1 => ?_⟩
  split at h1
  · obtain ⟨c, e, h1⟩ := h1
    simp only [Rep] at r1
    subst r1
    exact k c _ _ H1 h1 (f1.trans Fr.frozen) s1.frozen (rep_frozen s1 e)
  · exact k _ m1 v H1 h1 f1 s1 r1
abbrev Blk (X : Cx) (scope : Scope) (s : Shared) (H : Hp) (C : Addr) (cl : List (Str × Addr)) (fp : List Addr) : Cx := X.blk s H scope (compEnvC scope cl C X.env) fp
theorem de_lc {scope : Scope} {own : List (Str × Nat)} {ti : DTI} {g : Tgt} {tt : DTT} (hi : DI X tg iter ti) (ok : BlkOk X.N X.env.scope scope own) (hN : X.N.Nodup) (hc : X.calm = true)
    (hg : ∀ (s : Shared) (H : Hp) (C : Addr) (cl : List (Str × Addr)) (fp : List Addr), DGt (Blk X scope s H C cl fp) tg g) (ht : ∀ (s : Shared) (H : Hp) (C : Addr) (cl : List (Str × Addr)) (fp : List Addr), DTs (Blk X scope s H C cl fp) ifs tt)
    (he : ∀ (s : Shared) (H : Hp) (C : Addr) (cl : List (Str × Addr)) (fp : List Addr), DE (Blk X scope s H C cl fp) elt te) (hv : ∀ i ∈ g.ix, i ∈ own.map (·.2) := by decide) (hs : ∀ x, foldedSetIterable iter X.env x = pure x := by intro _; rfl) :
    DE X (.ListComp elt [⟨tg, iter, ifs, 0⟩] scope pos) (tLcM ti g tt te (own.map (·.2))) :=
  ⟨PE.weak (pe_lc hc hN hi.run ok (fun s H C cl fp => (hg s H C cl fp).run) (fun s H C cl fp => (ht s H C cl fp).run) (fun s H C cl fp => (he s H C cl fp).run) hs) fun σ H Q h => lc_lift hv h⟩
theorem ds_setLc {j : Nat} {y : Str} {py spos : Pos} {scope : Scope} {own : List (Str × Nat)} {ti : DTI} {g : Tgt} {tt : DTT} (hi : DI X tg iter ti) (ok : BlkOk X.N X.env.scope scope own) (hN : X.N.Nodup) (hc : X.calm = true)
    (hg : ∀ (s : Shared) (H : Hp) (C : Addr) (cl : List (Str × Addr)) (fp : List Addr), DGt (Blk X scope s H C cl fp) tg g) (ht : ∀ (s : Shared) (H : Hp) (C : Addr) (cl : List (Str × Addr)) (fp : List Addr), DTs (Blk X scope s H C cl fp) ifs tt)
    (he : ∀ (s : Shared) (H : Hp) (C : Addr) (cl : List (Str × Addr)) (fp : List Addr), DE (Blk X scope s H C cl fp) elt te) (fz : Bool)
    (hsw : swapsWith (.ListComp elt [⟨tg, iter, ifs, 0⟩] scope pos) (some (.Name y py)) spos.line X.env = pure true) (hv : ∀ i ∈ g.ix, i ∈ own.map (·.2) := by decide) (hy : X.N[j]? = some y := by rfl) (hyl : X.env.scope.names.lookup y = some .local := by rfl)
    (hs : ∀ x, foldedSetIterable iter X.env x = pure x := by intro _; rfl) :
    DS X (.Assign [.Name y py] (.ListComp elt [⟨tg, iter, ifs, 0⟩] scope pos) spos) (tSet j (if fz = true then tFrz (tLcM ti g tt te (own.map (·.2))) else tLcM ti g tt te (own.map (·.2)))) :=
  ⟨PS.weak (ps_setLc hc hN hy hyl hsw hi.run ok (fun s H C cl fp => (hg s H C cl fp).run) (fun s H C cl fp => (ht s H C cl fp).run) (fun s H C cl fp => (he s H C cl fp).run) hs) fun D σ H h =>
    set_lift (fun σ H Q q => lc_lift hv (by
      cases fz with
      | true => exact frz_lift q
      | false => exact q)) h⟩
end
end DL
/-! ### DL8: defs, calls, methods, classes -/
namespace DL
open PySem PySem.Spec PyProof.Rows L2

/-- room for calls, and no guard runs -/
structure RoomG (k : Nat) (A : Around) : Prop where
  r : Room k A
  g : A.guards = some []
theorem RoomG.mono {j k : Nat} {A : Around} (r : RoomG k A) (h : j ≤ k) : RoomG j A := ⟨r.r.mono h, r.g⟩
theorem RoomG.make {k : Nat} {A : Around} (r : RoomG (k + 1) A) (C : Addr) (us : List Value) (kw : List (Str × Value)) : RoomG k (A.under (.builtin "type.__call__" ⟨.ref C :: us, kw⟩)) :=
  ⟨r.r.make C us kw, by
    have g := r.g
    first
      | exact g
      | (simp only [Around.under, g]; rfl)
      | (simp [Around.under, Code.guards, Code.isGuard, pushGuards, g])⟩
/-- a promise by positional values, where no guard runs -/
def FnG (P : Program) (w : World) (K : PySem.W.Frag) (mg : Str → Option Value) (base : Heap) (CX : CXT) (k : Nat) (f : Addr) (sp : Sp) : Prop :=
  ∀ (A : Around) (outer : List PySem.Env) (s : Shared) (H : Hp) (us : List Value) (vs : List V) (Q : VK) (E : XK), RoomG k A → Env0 P w K mg base A outer s H → Vals vs us → sp vs H Q E →
    codeAny (model P w) A (.call (.ref f) ⟨us, []⟩) (CR CX outer P w H s Q E) s
theorem FnG.imp {P : Program} {w : World} {K : PySem.W.Frag} {mg : Str → Option Value} {base : Heap} {CX : CXT} {k : Nat} {f : Addr} {sp sp' : Sp} (F : FnG P w K mg base CX k f sp) (h : ∀ vs H Q E, sp' vs H Q E → sp vs H Q E) : FnG P w K mg base CX k f sp' :=
  fun A outer s H us vs Q E hr e0 r q => F A outer s H us vs Q E hr e0 r (h _ _ _ _ q)
theorem FnG.mono {P : Program} {w : World} {K : PySem.W.Frag} {mg : Str → Option Value} {base : Heap} {CX : CXT} {j k : Nat} {f : Addr} {sp : Sp} (F : FnG P w K mg base CX j f sp) (h : j ≤ k) : FnG P w K mg base CX k f sp :=
  fun A outer s H us vs Q E hr e0 r q => F A outer s H us vs Q E (hr.mono h) e0 r q
/-- the ends of a def's body -/
def bodyEnds (R : DK) : DEnds := { nx := fun _ m => R .non m, rt := R }
section
variable {P : Program} {w : World} {K : PySem.W.Frag} {mg : Str → Option Value} {base : Heap}
theorem liftSp_imp {sp sp' : DSp} (h : ∀ ds m R, sp' ds m R → sp ds m R) : ∀ vs H Q E, liftSp K sp' vs H Q E → liftSp K sp vs H Q E := fun vs H Q E ⟨ds, m, R, r, s, q, k⟩ => ⟨ds, m, R, r, s, h _ _ _ q, k⟩
theorem body_lift {N : List Str} {t : DTS} {ds : List D} {vs : List V} {m : M} {R : DK} {H : Hp} {Q : VK} (r : RepL K m H ds vs) (s : Sim K m H) (h : t (startD N.length ds) m (bodyEnds R))
    (k : ∀ d m' v H', R d m' → Fr m H m' H' → Sim K m' H' → Rep K m' H' d v → Q v H') : liftS K t { nx := fun _ H' => Q .non H', rt := Q } (L2.start N vs) H :=
  ⟨_, m, _, EnvOk.start r, s, h, fun env' m' σ' H' a1 a2 a3 a4 => k .non m' .non H' a1 a4 a3 rep_non, fun d m' v H' a1 a2 a3 a4 => k d m' v H' a1 a2 a3 a4, fun _ _ _ _ z => z.elim, fun _ _ _ _ z => z.elim⟩
theorem fn_mk {x qual : Str} {st : Stmt} {f : Addr} {fd : FuncData} {N ps : List Str} {k : Nat} {sp : DSp} {t : DTS} (F : Fun K x qual st f fd) (S : FnScope N ps (defScope st)) (hb : Binds K fd ps []) (hn : ∀ ds m R, sp ds m R → ds.length = ps.length)
    (hbody : ∀ (cdv : Value) (A : Around) (outer : List PySem.Env) (s : Shared) (H : Hp) (E : XK), RoomG k (A.deeper (envOfC qual (defScope st) s.heap.objs.size f cdv)) → DSs (cxOf CX0 P w K mg base N qual (defScope st) f cdv A outer s H E).nox (defBody st) t)
    (hsp : ∀ ds m R, sp ds m R → t (startD N.length ds) m (bodyEnds R)) : FnG P w K mg base CX0 (k + 1) f (liftSp K sp) := by
  obtain ⟨oc, od, kV, doc, pm, an, cdv, ct, osl, rfl, lk, hcd⟩ := F.ex
  intro A outer s H us vs Q E hr e0 rv ⟨ds, m, R, r, sm, q, kq⟩
  have hl : vs.length = ps.length := by rw [← r.length]; exact hn _ _ _ q
  have kin : K.In s.heap := e0.mod.kin.keeps fun b o e => (e0.bs b o e).1
  have lu : (us ++ ([] : List Value)).length = ps.length := by rw [List.append_nil, ← rv.length]; exact hl
  have hb1 := hb s us kin lu
  rw [List.append_nil] at hb1
  refine StX.run_bnd lk hcd S hr.r e0 (G := fun xs H2 => xs = vs ∧ H2 = H) (fun A' Ex Q' h => hb1 _ _ _ _ (h s H vs us e0 Un.refl rfl (fun _ _ z => z) rv hl ⟨rfl, rfl⟩)) fun s2 H2 xs g hr' => ?_
  obtain ⟨rfl, rfl⟩ := g
  exact ⟨_, (hbody cdv A outer s2 _ E ⟨hr', hr.g⟩).run.nox, body_lift r sm (hsp _ _ _ q) kq⟩
/-- with *rest behind n parameters -/
def spRest (n : Nat) (sp : DSp) : DSp := fun ds m R => n ≤ ds.length ∧ (ds.drop n).length ≤ sizeLine ∧ sp (ds.take n ++ [.tup (ds.drop n)]) m R
theorem fn_mkS {x qual : Str} {st : Stmt} {f : Addr} {fd : FuncData} {N ps : List Str} {pv : Str} {k : Nat} {sp : DSp} {t : DTS} (F : Fun K x qual st f fd) (S : FnScope N (ps ++ [pv]) (defScope st))
    (hb : ∀ (kV doc pm : Value) (an : Option Addr) (cdv ct : Value) (us rest : List Value), us.length = ps.length → bindArgs (PySem.W.fnOf x qual (defArgs st) (defBody st) (defScope st) .none kV doc pm an cdv ct) ⟨us ++ rest, []⟩ = (newTuple rest >>= fun t => pure (ps.zip us ++ [(pv, t)])))
    (hbody : ∀ (cdv : Value) (A : Around) (outer : List PySem.Env) (s : Shared) (H : Hp) (E : XK), RoomG k (A.deeper (envOfC qual (defScope st) s.heap.objs.size f cdv)) → DSs (cxOf CX0 P w K mg base N qual (defScope st) f cdv A outer s H E).nox (defBody st) t)
    (hsp : ∀ ds m R, sp ds m R → t (startD N.length ds) m (bodyEnds R)) : FnG P w K mg base CX0 (k + 1) f (liftSp K (spRest ps.length sp)) := by
  obtain ⟨oc, od, kV, doc, pm, an, cdv, ct, osl, rfl, lk, hcd⟩ := F.ex
  intro A outer s H us vs Q E hr e0 rv ⟨ds, m, R, r, sm, ⟨hn, hz, q⟩, kq⟩
  have lr := r.length
  have lv := rv.length
  have hH : H s.heap.objs.size = none := e0.hok.fresh (Nat.le_refl _)
  have ud : (us.take ps.length).length = ps.length := by rw [List.length_take]; omega
  have eus : us = us.take ps.length ++ us.drop ps.length := (List.take_append_drop _ _).symm
  rw [eus]
  have zr : (vs.drop ps.length).length ≤ sizeLine := by rw [List.length_drop] at hz ⊢; omega
  have rd := rv.drop ps.length
  have rt := rv.take ps.length
  have lw : (vs.take ps.length).length = ps.length := by rw [List.length_take]; omega
  refine StX.run_bnd lk hcd S hr.r e0 (G := fun xs H2 => ∃ p, H p = none ∧ xs = vs.take ps.length ++ [V.ref p] ∧ H2 = upd H p (.tup (vs.drop ps.length))) (fun A' Ex Q' h => ?_) fun s2 H2 xs g hr' => ?_
  · rw [hb kV doc pm an cdv ct _ (us.drop ps.length) ud]
    refine wpAny_bind (wpAny_newTuple (wpAny_pure ?_) (by rw [← rd.length]; exact zr))
    have ok : ObjOk P w (upd H s.heap.objs.size (.tup (vs.drop ps.length))) (s.heap.push ({ cls := .type "tuple", data := .seq (us.drop ps.length).toArray } : Obj)) s.heap.objs.size (.tup (vs.drop ps.length)) :=
      ⟨zr, _, rd, ⟨_, Heap.get?_push_size _ rfl, rfl, _, rfl⟩⟩
    have un : Un (frs outer) [] H (upd H s.heap.objs.size (.tup (vs.drop ps.length))) s.heap (s.heap.push ({ cls := .type "tuple", data := .seq (us.drop ps.length).toArray } : Obj)) := StX.un_laid hH
    have z := h _ _ (vs.take ps.length ++ [V.ref s.heap.objs.size]) (us.take ps.length ++ [Value.ref s.heap.objs.size]) (StX.env0_laid e0 ok) un rfl (fun _ _ z => z.elim) (rt.append (.cons rfl .nil)) (by rw [List.length_append, List.length_append, lw]; rfl) ⟨_, hH, rfl, rfl⟩
    rwa [List.zip_append ud.symm] at z
  · obtain ⟨p, hp, rfl, rfl⟩ := g
    refine ⟨_, (hbody cdv A outer s2 _ E ⟨hr', hr.g⟩).run.nox, body_lift (ds := ds.take ps.length ++ [.tup (ds.drop ps.length)]) ?_ (sm.laid hp) (hsp _ _ _ q) fun d m' v H' a1 a2 a3 a4 => kq d m' v H' a1 ((Fr.laid sm hp).trans a2) a3 a4⟩
    exact RepL.append (RepL.mono (Fr.laid sm hp) _ _ (r.take _)) (.cons (new_tup sm hp (r.drop _)) .nil)
end

/-- a def of the module that may be called -/
structure Cal (X : Cx) (x : Str) (k : Nat) (sp : DSp) : Prop where
  ex : ∃ f, X.mg x = some (.ref f) ∧ PySem.W.keepIn X.K (.ref f) = true ∧ FnG X.prog X.w X.K X.mg X.base CX0 k f (liftSp X.K sp)
/-- a method of the class at C -/
structure CalM (X : Cx) (C : Addr) (m : Str) (k : Nat) (sp : DSp) : Prop where
  ex : ∃ f, Meth X.K C m f ∧ FnG X.prog X.w X.K X.mg X.base CX0 k f (liftSp X.K sp)
/-- the making of an instance -/
structure CalC (X : Cx) (C : Addr) (k : Nat) (sp : DSp) : Prop where
  ex : ∃ f, Mk X.K C f ∧ FnG X.prog X.w X.K X.mg X.base CX0 k f (liftSp X.K sp)
/-- a class method of the class at C -/
structure CalK (X : Cx) (C : Addr) (m : Str) (k : Nat) (sp : DSp) : Prop where
  ex : ∃ mc p g, ClX.CRead X.K C mc ∧ ClX.CMet X.K C mc m p g ∧ FnG X.prog X.w X.K X.mg X.base CX0 k g (liftSp X.K sp)
section
variable {X : Cx} {k : Nat} {sp : DSp} {C : Addr} {x m : Str} {p pos apos : Pos} {e o : Expr} {es : List Expr} {te ta : DTE} {t : DTA}
def tCl (sp : DSp) (t : DTA) : DTE := fun env m Q => t env m fun ds m1 => sp ds m1 Q
theorem run_fnC {pins : List (Addr × Obj)} {σ : L2.St} {H : Hp} {s : Shared} {CX : CXT} {f : Addr} {sp : Sp} {E : XK} {Q : VK} {us : List Value} {vs : List V} (F : FnG X.prog X.w X.K X.mg X.base CX k f sp) (hr : RoomG k X.A) (hx : Passes CX X E) (I : Inv X pins σ H s) (r : Vals vs us)
    (q : sp vs H Q E) : codeAny (model X.prog X.w) X.A (.call (.ref f) ⟨us, []⟩) (fun r s' => match r with | .ok (.ret v) => EP X pins σ Q v s' | .ok _ => False | .error e => X.xe e s') s :=
  codeAny_mono (F X.A X.stack s H us vs Q E hr I.env0 r q) fun res s' h => match res, h with
    | .error e, h => hx pins σ H s e s' I h
    | .ok (.ret u), h => I.after h
    | .ok .next, h => h.elim
    | .ok .brk, h => h.elim
    | .ok .cont, h => h.elim
theorem run_fnG {pins : List (Addr × Obj)} {σ : L2.St} {H : Hp} {s : Shared} {CX : CXT} {f : Addr} {sp : Sp} {E : XK} {Q : VK} {us : List Value} {vs : List V} (F : FnG X.prog X.w X.K X.mg X.base CX k f sp) (hr : RoomG k X.A) (hx : Passes CX X E) (I : Inv X pins σ H s) (r : Vals vs us)
    (q : sp vs H Q E) : wpAny (model X.prog X.w) X.A (call (.ref f) us) (EP X pins σ Q) X.xe s := wpAny_call (run_fnC F hr hx I r q)
/-- a new instance, its __init__ by the promise -/
theorem run_makeG {pins : List (Addr × Obj)} {σ : L2.St} {H : Hp} {s : Shared} {CX : CXT} {f : Addr} {sp : Sp} {E : XK} {Q : VK} {us : List Value} {vs : List V} (M0 : Mk X.K C f) (F : FnG X.prog X.w X.K X.mg X.base CX k f sp) (hr : RoomG (k + 1) X.A) (hx : Passes CX X E) (I : Inv X pins σ H s) (r : Vals vs us)
    (h : ∀ x dx, H x = none → H dx = none → dx ≠ x → sp (V.ref x :: vs) (upd (upd H dx (.own x)) x (.ins C dx [])) (fun v H2 => v = .non ∧ Q (.ref x) H2) E) : wpAny (model X.prog X.w) X.A (call (.ref C) us) (EP X pins σ Q) X.xe s := by
  have J := Inv.made (C := C) I
  have q := h (s.heap.objs.size + 1) s.heap.objs.size (I.hok.fresh (Nat.le_succ _)) (I.hok.fresh (Nat.le_refl _)) (Nat.ne_of_lt (Nat.lt_succ_self _))
  refine wpAny_call (make_map (f := f) I.kIn M0.makes M0.init (beq_iff_eq.mp M0.fn) (codeAny_mono (F _ X.stack _ _ (Value.ref (s.heap.objs.size + 1) :: us) _ _ E (hr.make C us []) (J.env0.make C us []) (show Vals (V.ref (s.heap.objs.size + 1) :: vs) (Value.ref (s.heap.objs.size + 1) :: us) from .cons rfl r) q) fun res s' h => ?_))
  match res, h with
  | .error e, h => exact hx pins σ _ _ e s' J h
  | .ok (.ret u), h =>
    obtain ⟨v, H', J', rv, ev, q'⟩ := J.after h
    subst ev
    exact ⟨rv, V.ref (s.heap.objs.size + 1), H', J', rfl, q'⟩
  | .ok .next, h => exact h.elim
  | .ok .brk, h => exact h.elim
  | .ok .cont, h => exact h.elim
theorem pe_callR {f : Addr} {sp : Sp} {E : XK} {t : TA} {CX : CXT} (F : FnG X.prog X.w X.K X.mg X.base CX k f sp) (hr : RoomG k X.A) (hk : PySem.W.keepIn X.K (.ref f) = true) (hg : Gl X x) (hm : X.mg x = some (.ref f)) (hx : Passes CX X E) (ha : PA X (e :: es) t)
    (hd : (x == ("__debug__" : Str)) = false := by decide) (he : starEach (e :: es) X.env = (false, eval e X.env) :: starEach es X.env := by rfl) (hpl : (backTo pos (starEach es X.env)).any (·.1) = false := by rfl) :
    PE X (.Call (.Name x p) (e :: es) [] pos) (fun σ H Q => t σ H fun vs H1 => sp vs H1 Q E) := by
  refine ⟨fun pins s σ H Q I h => ?_⟩
  refine wpAny_Call_Name_kw (ld_glob I hg hm ?_ hd)
  refine PySem.W.callWith_K (h₀ := X.base) I.ok.mod.kin hk (thn (ha.run pos pins s σ H _ I h) fun us s1 ⟨vs, H1, I1, r, q⟩ => ⟨I1.kIn, ?_⟩) he hpl
  exact run_fnG F hr hx I1 r q
theorem pe_callR0 {f : Addr} {sp : Sp} {E : XK} {CX : CXT} (F : FnG X.prog X.w X.K X.mg X.base CX k f sp) (hr : RoomG k X.A) (hk : PySem.W.keepIn X.K (.ref f) = true) (hg : Gl X x) (hm : X.mg x = some (.ref f)) (hx : Passes CX X E)
    (hd : (x == ("__debug__" : Str)) = false := by decide) : PE X (.Call (.Name x p) [] [] pos) (fun σ H Q => sp [] H Q E) := by
  refine ⟨fun pins s σ H Q I h => ?_⟩
  refine wpAny_Call_Name_kw (ld_glob I hg hm ?_ hd)
  exact PySem.W.callWith_K0 I.kIn hk (run_fnG F hr hx I .nil h)
theorem cl_lift {σ : L2.St} {H : Hp} {Q : VK} (h : liftE X.K (tCl sp t) σ H Q) : liftA X.K t σ H fun vs H1 => liftSp X.K sp vs H1 Q E0 := by
  obtain ⟨env, m, R, eo, s, h, k⟩ := h
  refine ⟨env, m, _, eo, s, h, fun ds m1 vs H1 h1 f1 s1 r1 => ?_⟩
  exact ⟨ds, m1, R, r1, s1, h1, fun d m' v H' a1 a2 a3 a4 => k d m' v H' a1 (f1.trans a2) a3 a4⟩
theorem de_call (c : Cal X x k sp) (hr : RoomG k X.A) (ha : DA X (e :: es) t) (hg : Gl X x := by rfl) (hd : (x == ("__debug__" : Str)) = false := by decide) (he : starEach (e :: es) X.env = (false, eval e X.env) :: starEach es X.env := by rfl)
    (hpl : (backTo pos (starEach es X.env)).any (·.1) = false := by rfl) : DE X (.Call (.Name x p) (e :: es) [] pos) (tCl sp t) := by
  obtain ⟨f, h1, h2, F⟩ := c.ex
  exact ⟨PE.weak (pe_callR F hr h2 hg h1 pass0 ha.run hd he hpl) fun σ H Q h => cl_lift h⟩
theorem de_call0 (c : Cal X x k sp) (hr : RoomG k X.A) (hg : Gl X x := by rfl) (hd : (x == ("__debug__" : Str)) = false := by decide) : DE X (.Call (.Name x p) [] [] pos) (tCl sp tA0) := by
  obtain ⟨f, h1, h2, F⟩ := c.ex
  exact ⟨PE.weak (pe_callR0 F hr h2 hg h1 pass0 hd) fun σ H Q h => by
    obtain ⟨env, m, R, eo, s, h, k⟩ := h
    exact ⟨[], m, R, .nil, s, h, fun d m' v H' a1 a2 a3 a4 => k d m' v H' a1 a2 a3 a4⟩⟩
/-! methods -/
def tMt (C : Addr) (m : Str) (sp : DSp) (ta : DTE) (t : DTA) : DTE := fun env st Q => ta env st fun o m1 => ∃ ns vs, look m1 o = .ins C ns vs ∧ m ∉ ns ∧ t env m1 fun ds m2 => sp (o :: ds) m2 Q
theorem lookup_none {α : Type} {f : Str} : ∀ {fs : List (Str × α)}, f ∉ fs.map (·.1) → fs.lookup f = none
  | [], _ => rfl
  | (g, v) :: fs, h => by
    simp only [List.map_cons, List.mem_cons, not_or] at h
    have : (f == g) = false := beq_eq_false_iff_ne.mpr h.1
    simp only [List.lookup, this]
    exact lookup_none h.2
theorem pe_methG {C f : Addr} {sp : Sp} {E : XK} {CX : CXT} {ta : TE} {t : TA} {pl : Sem Bool} (he : PE X o ta) (c : Cls X.K C) (hm : Meth X.K C m f) (F : FnG X.prog X.w X.K X.mg X.base CX k f sp) (hr : RoomG k X.A) (hx : Passes CX X E) (ha : PA X (e :: es) t)
    (hst : starEach (e :: es) X.env = (false, eval e X.env) :: starEach es X.env := by rfl) (hpl : (backTo pos (starEach es X.env)).any (·.1) = false := by rfl)
    (ht : eval (.Call (.Attribute o m apos) (e :: es) [] pos) X.env = (do
      let ov ← eval o X.env
      standAt apos.atName
      let (f, first) ← holding [ov] (getMethod ov m pl)
      callWith pos f first (backTo pos (starEach (e :: es) X.env)) (backToKw pos (keywordEach [] X.env))) := by rfl) :
    PE X (.Call (.Attribute o m apos) (e :: es) [] pos) (tMethR C m sp E ta t) := by
  refine ⟨fun pins s σ H Q I h => PySem.W.methodCall_KW (pl := pl) (thn (he.run pins s σ H _ I h) fun u s1 hx1 => ?_) ht⟩
  obtain ⟨x, H1, I1, rx, a, dx, fs, rfl, ea, l, q⟩ := hx1
  obtain rfl : u = Value.ref a := rx
  refine getmeth_ok I1 ea c hm l (PySem.W.callWith_K (first := [.ref a]) (h₀ := X.base) I.ok.mod.kin hm.kp (thn (ha.run pos pins s1 σ H1 _ I1 q) fun us s2 hx2 => ?_) hst hpl)
  obtain ⟨vs, H2, I2, r, q2⟩ := hx2
  exact ⟨I2.kIn, run_fnG (us := .ref a :: us) (vs := .ref a :: vs) F hr hx I2 (.cons rfl r) q2⟩
theorem de_meth {pl : Sem Bool} (c : CalM X C m k sp) (hc : Cls X.K C) (hr : RoomG k X.A) (ho : DE X o ta) (ha : DA X (e :: es) t)
    (hst : starEach (e :: es) X.env = (false, eval e X.env) :: starEach es X.env := by rfl) (hpl : (backTo pos (starEach es X.env)).any (·.1) = false := by rfl)
    (ht : eval (.Call (.Attribute o m apos) (e :: es) [] pos) X.env = (do
      let ov ← eval o X.env
      standAt apos.atName
      let (f, first) ← holding [ov] (getMethod ov m pl)
      callWith pos f first (backTo pos (starEach (e :: es) X.env)) (backToKw pos (keywordEach [] X.env))) := by rfl) :
    DE X (.Call (.Attribute o m apos) (e :: es) [] pos) (tMt C m sp ta t) := by
  obtain ⟨f, hm, F⟩ := c.ex
  refine ⟨PE.weak (pe_methG ho.run hc hm F hr pass0 ha.run hst hpl ht) fun σ H Q h => ?_⟩
  obtain ⟨env, mm, R, eo, s, h, k⟩ := h
  refine ⟨env, mm, _, eo, s, h, fun d m1 v H1 h1 f1 s1 r1 => ?_⟩
  obtain ⟨ns, vs, e1, hn, h1⟩ := h1
  have cc := cont_of s1 r1
  rw [e1] at cc
  obtain ⟨a, dx, fs, rfl, h2, rfl, r2⟩ := cc
  refine ⟨a, dx, fs, rfl, h2, lookup_none hn, env, m1, _, eo.mono f1, s1, h1, fun ds m2 ws H2 h3 f2 s2 r3 => ?_⟩
  exact ⟨d :: ds, m2, R, .cons (Rep.mono f2 _ _ r1) r3, s2, h3, fun d' m' v H' a1 a2 a3 a4 => k d' m' v H' a1 ((f1.trans f2).trans a2) a3 a4⟩
theorem pe_methR0 {C f : Addr} {sp : Sp} {E : XK} {CX : CXT} {ta : TE} {pl : Sem Bool} (he : PE X o ta) (c : Cls X.K C) (hm : Meth X.K C m f) (F : FnG X.prog X.w X.K X.mg X.base CX k f sp) (hr : RoomG k X.A) (hx : Passes CX X E)
    (ht : eval (.Call (.Attribute o m apos) [] [] pos) X.env = (do
      let ov ← eval o X.env
      standAt apos.atName
      let (f, first) ← holding [ov] (getMethod ov m pl)
      callWith pos f first (backTo pos (starEach [] X.env)) (backToKw pos (keywordEach [] X.env))) := by rfl) :
    PE X (.Call (.Attribute o m apos) [] [] pos) (tMethR C m sp E ta tNil) := by
  refine ⟨fun pins s σ H Q I h => ?_⟩
  refine PySem.W.methodCall_KW (pl := pl) (thn (he.run pins s σ H _ I h) fun u s1 ⟨x, H1, I1, rx, a, dx, fs, ex, ea, l, q⟩ => ?_) ht
  subst ex
  obtain rfl : u = Value.ref a := rx
  refine getmeth_ok I1 ea c hm l ?_
  exact PySem.W.callWith_K0 (first := [.ref a]) I1.kIn hm.kp (run_fnG (us := [.ref a]) (vs := [.ref a]) F hr hx I1 (.cons rfl .nil) q)
theorem de_meth0 {pl : Sem Bool} (c : CalM X C m k sp) (hc : Cls X.K C) (hr : RoomG k X.A) (ho : DE X o ta)
    (ht : eval (.Call (.Attribute o m apos) [] [] pos) X.env = (do
      let ov ← eval o X.env
      standAt apos.atName
      let (f, first) ← holding [ov] (getMethod ov m pl)
      callWith pos f first (backTo pos (starEach [] X.env)) (backToKw pos (keywordEach [] X.env))) := by rfl) :
    DE X (.Call (.Attribute o m apos) [] [] pos) (tMt C m sp ta tA0) := by
  obtain ⟨f, hm, F⟩ := c.ex
  refine ⟨PE.weak (pe_methR0 ho.run hc hm F hr pass0 ht) fun σ H Q h => ?_⟩
  obtain ⟨env, mm, R, eo, s, h, k⟩ := h
  refine ⟨env, mm, _, eo, s, h, fun d m1 v H1 h1 f1 s1 r1 => ?_⟩
  obtain ⟨ns, vs, e1, hn, h1⟩ := h1
  have cc := cont_of s1 r1
  rw [e1] at cc
  obtain ⟨a, dx, fs, rfl, h2, rfl, r2⟩ := cc
  exact ⟨a, dx, fs, rfl, h2, lookup_none hn, [d], m1, R, .cons r1 .nil, s1, h1, fun d' m' v H' a1 a2 a3 a4 => k d' m' v H' a1 (f1.trans a2) a3 a4⟩
/-! class methods -/
theorem pe_cmethG {C g q : Addr} {mc : Value} {sp : Sp} {E : XK} {CX : CXT} {ta : TE} {t : TA} {pl : Sem Bool} (he : PE X o ta) (r : ClX.CRead X.K C mc) (c : ClX.CMet X.K C mc m q g) (F : FnG X.prog X.w X.K X.mg X.base CX k g sp) (hr : RoomG k X.A) (hx : Passes CX X E) (ha : PA X (e :: es) t)
    (hst : starEach (e :: es) X.env = (false, eval e X.env) :: starEach es X.env := by rfl) (hpl : (backTo pos (starEach es X.env)).any (·.1) = false := by rfl)
    (ht : eval (.Call (.Attribute o m apos) (e :: es) [] pos) X.env = (do
      let ov ← eval o X.env
      standAt apos.atName
      let (f, first) ← holding [ov] (getMethod ov m pl)
      callWith pos f first (backTo pos (starEach (e :: es) X.env)) (backToKw pos (keywordEach [] X.env))) := by rfl) :
    PE X (.Call (.Attribute o m apos) (e :: es) [] pos) (ClX.tCMeth C sp E ta t) := by
  refine ⟨fun pins s σ H Q I h => PySem.W.methodCall_KW (pl := pl) (thn (he.run pins s σ H _ I h) fun u s1 hx1 => ?_) ht⟩
  obtain ⟨x, H1, I1, rx, rfl, q⟩ := hx1
  obtain rfl : u = Value.ref C := rx
  refine ClX.getmethcm_ok I1 r c fun s2 I2 => ?_
  refine ClX.callwith_cm I2 (ClX.base_none I1 (Nat.le_refl _)) c.fi (thn (ha.run pos _ s2 σ H1 _ I2 q) fun us s3 hx3 => ?_) hst hpl
  obtain ⟨vs, H2, I3, rv, q2⟩ := hx3
  refine ⟨⟨ClX.pin_at I3, I3.kIn⟩, ?_⟩
  exact thn (wpAny_call (PySem.W.method_call (ClX.pin_at I3) (run_fnC (us := .ref C :: us) (vs := .ref C :: vs) F hr hx I3 (.cons rfl rv) q2))) fun _ _ y => ClX.unpinE y
def tCm (C : Addr) (sp : DSp) (t : DTA) : DTE := fun env st Q => t env st fun ds m2 => sp (.ref C :: ds) m2 Q
theorem de_cmeth {pl : Sem Bool} {cx : Str} {cp : Pos} (c : CalK X C m k sp) (hr : RoomG k X.A) (hm : X.mg cx = some (.ref C)) (ha : DA X (e :: es) t) (hg : Gl X cx := by rfl) (hd : (cx == ("__debug__" : Str)) = false := by decide)
    (hst : starEach (e :: es) X.env = (false, eval e X.env) :: starEach es X.env := by rfl) (hpl : (backTo pos (starEach es X.env)).any (·.1) = false := by rfl)
    (ht : eval (.Call (.Attribute (.Name cx cp) m apos) (e :: es) [] pos) X.env = (do
      let ov ← eval (.Name cx cp) X.env
      standAt apos.atName
      let (f, first) ← holding [ov] (getMethod ov m pl)
      callWith pos f first (backTo pos (starEach (e :: es) X.env)) (backToKw pos (keywordEach [] X.env))) := by rfl) :
    DE X (.Call (.Attribute (.Name cx cp) m apos) (e :: es) [] pos) (tCm C sp t) := by
  obtain ⟨mc, q, g, h1, h2, F⟩ := c.ex
  refine ⟨PE.weak (pe_cmethG (pe_glob (v := .ref C) hg hm rfl hd) h1 h2 F hr pass0 ha.run hst hpl ht) fun σ H Q h => ?_⟩
  obtain ⟨env, mm, R, eo, s, h, k⟩ := h
  refine ⟨rfl, env, mm, _, eo, s, h, fun ds m1 vs H1 h1 f1 s1 r1 => ?_⟩
  exact ⟨.ref C :: ds, m1, R, .cons rep_ref r1, s1, h1, fun d' m' v H' a1 a2 a3 a4 => k d' m' v H' a1 (f1.trans a2) a3 a4⟩
/-! instances -/
/-- a new instance, mutable -/
def tNw (C : Addr) (sp : DSp) (t : DTA) : DTE := fun env st Q => t env st fun ds m1 => ∀ x, m1 x = none → sp (.ref x :: ds) (updM m1 x (.ins C [] [])) fun d m2 => d = .non ∧ Q (.ref x) m2
theorem nw_lift {ds : List D} {m1 : M} {vs : List V} {H1 : Hp} {R : DK} {Q : VK} (s1 : Sim X.K m1 H1) (r1 : RepL X.K m1 H1 ds vs)
    (h : ∀ x, m1 x = none → sp (.ref x :: ds) (updM m1 x (.ins C [] [])) fun d m2 => d = .non ∧ R (.ref x) m2)
    (k : ∀ d m' v H', R d m' → Fr m1 H1 m' H' → Sim X.K m' H' → Rep X.K m' H' d v → Q v H') :
    ∀ x dx, H1 x = none → H1 dx = none → dx ≠ x → liftSp X.K sp (V.ref x :: vs) (upd (upd H1 dx (.own x)) x (.ins C dx [])) (fun v H2 => v = .non ∧ Q (.ref x) H2) E0 := by
  intro x dx hx hdx ne
  have f0 := Fr.laid (o := .own x) s1 hdx
  have s2 := s1.laid (o := .own x) hdx
  have hx' : upd H1 dx (.own x) x = none := by rw [upd_ne ne.symm]; exact hx
  have f2 := Fr.laidM (o := .ins C dx []) (d := .ins C [] []) s2 hx'
  have s3 := Sim.laidM (o := .ins C dx []) (d := .ins C [] []) s2 hx' ⟨dx, [], upd_same, rfl, .nil⟩
  refine ⟨.ref x :: ds, _, _, .cons rep_ref (RepL.mono (f0.trans f2) _ _ r1), s3, h x (s1.free hx), fun d m' v H' a1 a2 a3 a4 => ?_⟩
  obtain ⟨rfl, a1⟩ := a1
  exact ⟨by simpa only [Rep] using a4, k _ m' _ H' a1 ((f0.trans f2).trans a2) a3 rep_ref⟩
theorem pe_makeG {f : Addr} {sp : Sp} {E : XK} {CX : CXT} {t : TA} (M0 : Mk X.K C f) (F : FnG X.prog X.w X.K X.mg X.base CX k f sp) (hr : RoomG (k + 1) X.A) (hg : Gl X x) (hm : X.mg x = some (.ref C)) (hx : Passes CX X E) (ha : PA X (e :: es) t) (hdb : (x == ("__debug__" : Str)) = false := by decide)
    (he : starEach (e :: es) X.env = (false, eval e X.env) :: starEach es X.env := by rfl) (hpl : (backTo pos (starEach es X.env)).any (·.1) = false := by rfl) : PE X (.Call (.Name x p) (e :: es) [] pos) (StX.tMakeR C sp E t) := by
  refine ⟨fun pins s σ H Q I h => wpAny_Call_Name_kw (ld_glob I hg hm ?_ hdb)⟩
  refine PySem.W.callWith_K (h₀ := X.base) I.ok.mod.kin M0.kp (thn (ha.run pos pins s σ H _ I h) fun us s1 hx1 => ?_) he hpl
  obtain ⟨vs, H1, I1, r, q⟩ := hx1
  exact ⟨I1.kIn, run_makeG M0 F hr hx I1 r q⟩
theorem de_new (c : CalC X C k sp) (hr : RoomG (k + 1) X.A) (hm : X.mg x = some (.ref C)) (ha : DA X (e :: es) t) (hg : Gl X x := by rfl) (hd : (x == ("__debug__" : Str)) = false := by decide)
    (he : starEach (e :: es) X.env = (false, eval e X.env) :: starEach es X.env := by rfl) (hpl : (backTo pos (starEach es X.env)).any (·.1) = false := by rfl) : DE X (.Call (.Name x p) (e :: es) [] pos) (tNw C sp t) := by
  obtain ⟨f, M0, F⟩ := c.ex
  refine ⟨PE.weak (pe_makeG M0 F hr hg hm pass0 ha.run hd he hpl) fun σ H Q h => ?_⟩
  obtain ⟨env, mm, R, eo, s, h, k⟩ := h
  refine ⟨env, mm, _, eo, s, h, fun ds m1 vs H1 h1 f1 s1 r1 => ?_⟩
  exact nw_lift s1 r1 h1 fun d m' v H' a1 a2 a3 a4 => k d m' v H' a1 (f1.trans a2) a3 a4
theorem pe_makeR0 {f : Addr} {sp : Sp} {E : XK} {CX : CXT} (M0 : Mk X.K C f) (F : FnG X.prog X.w X.K X.mg X.base CX k f sp) (hr : RoomG (k + 1) X.A) (hg : Gl X x) (hm : X.mg x = some (.ref C)) (hx : Passes CX X E) (hdb : (x == ("__debug__" : Str)) = false := by decide) :
    PE X (.Call (.Name x p) [] [] pos) (StX.tMakeR C sp E tNil) := by
  refine ⟨fun pins s σ H Q I h => ?_⟩
  refine wpAny_Call_Name_kw (ld_glob I hg hm ?_ hdb)
  exact PySem.W.callWith_K0 I.kIn M0.kp (run_makeG (us := []) M0 F hr hx I .nil h)
theorem de_new0 (c : CalC X C k sp) (hr : RoomG (k + 1) X.A) (hm : X.mg x = some (.ref C)) (hg : Gl X x := by rfl) (hd : (x == ("__debug__" : Str)) = false := by decide) : DE X (.Call (.Name x p) [] [] pos) (tNw C sp tA0) := by
  obtain ⟨f, M0, F⟩ := c.ex
  refine ⟨PE.weak (pe_makeR0 M0 F hr hg hm pass0 hd) fun σ H Q h => ?_⟩
  obtain ⟨env, mm, R, eo, s, h, k⟩ := h
  exact nw_lift s .nil h fun d m' v H' a1 a2 a3 a4 => k d m' v H' a1 a2 a3 a4
/-! starred arguments -/
def tAS (ta : DTE) (tr : DTA) : DTA := fun env m Q => ta env m fun d m1 => ∃ xs, (look m1 d = .tup xs ∨ look m1 d = .lst xs) ∧ tr env m1 fun ds m2 => Q (xs ++ ds) m2
theorem star_items {K : PySem.W.Frag} {m : M} {H : Hp} {d : D} {v : V} {xs : List D} (c : Cont K m H (look m d) v) (h : look m d = .tup xs ∨ look m d = .lst xs) : ∃ p vs, v = .ref p ∧ (SqT K H p vs ∨ SqL K H p vs) ∧ RepL K m H xs vs := by
  rcases h with e | e <;> rw [e] at c
  · obtain ⟨a, vs, rfl, h, r⟩ := cont_tup c
    exact ⟨a, vs, rfl, .inl (tupAt_sq h), r⟩
  · obtain ⟨a, vs, rfl, h, r⟩ := cont_lst c
    exact ⟨a, vs, rfl, .inr (.of h), r⟩
theorem da_star {tr : DTA} {sp_ : Pos} (ha : DE X e ta) (hr : DA X es tr) (hs : starEach (.Starred e sp_ :: es) X.env = (true, eval e X.env) :: starEach es X.env := by rfl) : DA X (.Starred e sp_ :: es) (tAS ta tr) := ⟨PA.weak (StX.pa_star ha.run hr.run hs) fun σ H Q h => by
  obtain ⟨env, m, R, eo, s, h, k⟩ := h
  refine ⟨env, m, _, eo, s, h, fun d m1 v H1 h1 f1 s1 r1 => ?_⟩
  obtain ⟨xs, e1, h1⟩ := h1
  obtain ⟨q, vs, rfl, hq, rx⟩ := star_items (cont_of s1 r1) e1
  refine ⟨q, vs, rfl, hq, env, m1, _, eo.mono f1, s1, h1, fun ds m2 ws H2 h2 f2 s2 r2 => ?_⟩
  exact k (xs ++ ds) m2 (vs ++ ws) H2 h2 (f1.trans f2) s2 (RepL.append (RepL.mono f2 _ _ rx) r2)⟩
/-- x(e, .., *y) -/
theorem pe_callSG {f : Addr} {sp : Sp} {E : XK} {CX : CXT} {t : TA} (F : FnG X.prog X.w X.K X.mg X.base CX k f sp) (hr : RoomG k X.A) (hk : PySem.W.keepIn X.K (.ref f) = true) (hg : Gl X x) (hm : X.mg x = some (.ref f)) (hx : Passes CX X E) (ha : PA X (e :: es) t) (hd : (x == ("__debug__" : Str)) = false := by decide)
    (he : starEach (e :: es) X.env = (false, eval e X.env) :: starEach es X.env := by rfl) (hst : (backTo pos (starEach es X.env)).any (·.1) = true := by rfl) :
    PE X (.Call (.Name x p) (e :: es) [] pos) (fun σ H Q => t σ H fun vs H1 => sp vs H1 Q E) := by
  refine ⟨fun pins s σ H Q I h => wpAny_Call_Name_kw (ld_glob I hg hm ?_ hd)⟩
  refine PySem.W.callWith_S2 (h₀ := X.base) I.ok.mod.kin hk (thn (ha.run pos pins s σ H _ I h) fun us s1 hx1 => ?_) he hst
  obtain ⟨vs, H1, I1, r, q⟩ := hx1
  exact ⟨I1.kIn, run_fnG F hr hx I1 r q⟩
theorem pe_callS1G {f : Addr} {sp : Sp} {E : XK} {CX : CXT} {te : TE} {sp_ : Pos} (F : FnG X.prog X.w X.K X.mg X.base CX k f sp) (hr : RoomG k X.A) (hk : PySem.W.keepIn X.K (.ref f) = true) (hg : Gl X x) (hm : X.mg x = some (.ref f)) (hx : Passes CX X E) (he : PE X e te) (hd : (x == ("__debug__" : Str)) = false := by decide)
    (hst : starEach [.Starred e sp_] X.env = [(true, eval e X.env)] := by rfl) :
    PE X (.Call (.Name x p) [.Starred e sp_] [] pos) (fun σ H Q => te σ H fun y H1 => ∃ a xs, y = V.ref a ∧ (SqT X.K H1 a xs ∨ SqL X.K H1 a xs) ∧ sp xs H1 Q E) := by
  refine ⟨fun pins s σ H Q I h => wpAny_Call_Name_kw (ld_glob I hg hm ?_ hd)⟩
  refine PySem.W.callWith_S (h₀ := X.base) I.ok.mod.kin hk (thn (he.run pins s σ H _ I h) fun v s1 hx1 => ?_) hst
  obtain ⟨y, H1, I1, ry, a, xs, rfl, hxs, q⟩ := hx1
  obtain rfl : v = Value.ref a := ry
  exact StX.star_any I1 hxs fun us s2 I2 rv => ⟨I2.kIn, run_fnG F hr hx I2 rv q⟩
theorem de_callS2 (c : Cal X x k sp) (hr : RoomG k X.A) (ha : DA X (e :: es) t) (hg : Gl X x := by rfl) (hd : (x == ("__debug__" : Str)) = false := by decide) (he : starEach (e :: es) X.env = (false, eval e X.env) :: starEach es X.env := by rfl)
    (hst : (backTo pos (starEach es X.env)).any (·.1) = true := by rfl) : DE X (.Call (.Name x p) (e :: es) [] pos) (tCl sp t) := by
  obtain ⟨f, h1, h2, F⟩ := c.ex
  exact ⟨PE.weak (pe_callSG F hr h2 hg h1 pass0 ha.run hd he hst) fun σ H Q h => cl_lift h⟩
/-- x(*y) -/
theorem de_callS1 {sp_ : Pos} (c : Cal X x k sp) (hr : RoomG k X.A) (ha : DE X e ta) (hg : Gl X x := by rfl) (hd : (x == ("__debug__" : Str)) = false := by decide) (hst : starEach [.Starred e sp_] X.env = [(true, eval e X.env)] := by rfl) :
    DE X (.Call (.Name x p) [.Starred e sp_] [] pos) (tCl sp (tAS ta tA0)) := by
  obtain ⟨f, h1, h2, F⟩ := c.ex
  refine ⟨PE.weak (pe_callS1G F hr h2 hg h1 pass0 ha.run hd hst) fun σ H Q h => ?_⟩
  obtain ⟨env, m, R, eo, s, h, k⟩ := h
  refine ⟨env, m, _, eo, s, h, fun d m1 v H1 h1 f1 s1 r1 => ?_⟩
  obtain ⟨xs, e1, h1⟩ := h1
  obtain ⟨q, vs, rfl, hq, rx⟩ := star_items (cont_of s1 r1) e1
  have h1 : sp (xs ++ []) m1 R := h1
  rw [List.append_nil] at h1
  exact ⟨q, vs, rfl, hq, xs, m1, R, rx, s1, h1, fun d m' v H' a1 a2 a3 a4 => k d m' v H' a1 (f1.trans a2) a3 a4⟩
/-- C(*y), C a class, by a global or by a name of the def -/
theorem pe_newS {f : Addr} {sp : Sp} {E : XK} {CX : CXT} {fe : Expr} {te tf : TE} {sp_ : Pos} (M0 : Mk X.K C f) (F : FnG X.prog X.w X.K X.mg X.base CX k f sp) (hr : RoomG (k + 1) X.A) (hx : Passes CX X E) (hf : PE X (.Name x p) tf) (he : PE X e te)
    (hst : starEach [.Starred e sp_] X.env = [(true, eval e X.env)] := by rfl) :
    PE X (.Call (.Name x p) [.Starred e sp_] [] pos) (fun σ H Q => tf σ H fun z H0 => z = .ref C ∧ te σ H0 fun y H1 => ∃ a xs, y = V.ref a ∧ (SqT X.K H1 a xs ∨ SqL X.K H1 a xs) ∧ ∀ x dx, H1 x = Option.none → H1 dx = Option.none → dx ≠ x →
      sp (V.ref x :: xs) (upd (upd H1 dx (.own x)) x (.ins C dx [])) (fun v H2 => v = .non ∧ Q (.ref x) H2) E) := by
  refine ⟨fun pins s σ H Q I h => ?_⟩
  refine wpAny_Call_Name_kw (thn (hf.run pins s σ H _ I h) fun u s0 ⟨z, H0, I0, rz, ez, q0⟩ => ?_)
  subst ez
  obtain rfl : u = Value.ref C := rz
  refine PySem.W.callWith_S (h₀ := X.base) I.ok.mod.kin M0.kp (thn (he.run pins s0 σ H0 _ I0 q0) fun v s1 ⟨y, H1, I1, ry, a, xs, ey, hxs, q⟩ => ?_) hst
  subst ey
  obtain rfl : v = Value.ref a := ry
  exact StX.star_any I1 hxs fun us s2 I2 rv => ⟨I2.kIn, run_makeG M0 F hr hx I2 rv q⟩
def tNwF (C : Addr) (sp : DSp) (tf : DTE) (t : DTA) : DTE := fun env st Q => tf env st fun z m0 => z = .ref C ∧ tNw C sp t env m0 Q
theorem de_newS {tf : DTE} {sp_ : Pos} (c : CalC X C k sp) (hr : RoomG (k + 1) X.A) (hf : DE X (.Name x p) tf) (ha : DE X e ta) (hst : starEach [.Starred e sp_] X.env = [(true, eval e X.env)] := by rfl) :
    DE X (.Call (.Name x p) [.Starred e sp_] [] pos) (tNwF C sp tf (tAS ta tA0)) := by
  obtain ⟨f, M0, F⟩ := c.ex
  refine ⟨PE.weak (pe_newS (fe := e) M0 F hr pass0 hf.run ha.run hst) fun σ H Q h => ?_⟩
  obtain ⟨env, m, R, eo, s, h, k⟩ := h
  refine ⟨env, m, _, eo, s, h, fun z m0 v0 H0 h0 f0 s0 r0 => ?_⟩
  obtain ⟨rfl, h0⟩ := h0
  refine ⟨by simpa only [Rep] using r0, env, m0, _, eo.mono f0, s0, h0, fun d m1 v H1 h1 f1 s1 r1 => ?_⟩
  obtain ⟨xs, e1, h1⟩ := h1
  obtain ⟨q, vs, rfl, hq, rx⟩ := star_items (cont_of s1 r1) e1
  refine ⟨q, vs, rfl, hq, nw_lift s1 rx (fun x hx => ?_) fun d m' v H' a1 a2 a3 a4 => k d m' v H' a1 ((f0.trans f1).trans a2) a3 a4⟩
  have := h1 x hx
  rw [List.append_nil] at this
  exact this
end
end DL
/-! ### DL9: the end of a row -/
namespace DL
open PySem PySem.Spec PyProof.Rows L2
theorem callerG {k : Nat} (h : Room k callerA) : RoomG k callerA := ⟨h, rfl⟩
/-- what the law's def promises at its call -/
theorem law_callG {P : Program} {w : World} {K : PySem.W.Frag} {mg mb : Str → Option Value} {k : Nat} {fa a : Addr} {sp : DSp} {s1 : Shared} {vs : List Value} {ns : List Int}
    (KX : K.In s1.heap) (hns : s1.heap.Ns mainGlobals mg) (hb : s1.heap.Ns builtinsNs mb) (hbb : ∀ x : Str, x ≠ "__name__" → mb x = bootBuiltins x) (hlim : s1.heap.NoLimit) (hg : s1.gens = #[])
    (ha : s1.heap.get? a = some { cls := .type "list", data := .seq vs.toArray }) (hi : IntsAre vs ns) (hl : ns.length ≤ sizeLine) (hr : Room k callerA)
    (F : ∀ base : Heap, K.In base → base.Ns mainGlobals mg → FnG P w K mg base CX0 k fa (liftSp K sp)) (hsp : sp [.scr ns] (fun _ => none) fun d _ => d = .bl true) :
    codeAny (model P w) callerA (.call (.ref fa) ⟨[.ref a], []⟩) (fun r s' => r = .ok (.ret (.bool true)) ∧ OldK s1.heap s'.heap ∧ s'.os = s1.os ∧ AllBare s'.gens) s1 := by
  have rv := vals_ints hi
  have main : ∀ H : Hp, (∀ b u, H b = some u → b = a ∧ ∃ o xs, u = .frz o (.lst xs)) → SqL K H a (ns.map V.int) → HOk P w H s1.heap → (H a ≠ none → K.lookup a = none) →
      codeAny (model P w) callerA (.call (.ref fa) ⟨[.ref a], []⟩) (fun r s' => r = .ok (.ret (.bool true)) ∧ OldK s1.heap s'.heap ∧ s'.os = s1.os ∧ AllBare s'.gens) s1 := by
    intro H only hS ok hK
    have untr : ∀ {b : Addr} {o : Obj}, s1.heap.get? b = some o → (b = a → H a = none) → H b = none := fun {b o} _ z => by
      cases q : H b with
      | none => rfl
      | some u =>
        obtain ⟨rfl, _⟩ := only b u q
        rw [z rfl] at q; cases q
    have seen : ∀ {b : Addr} {o : Obj}, s1.heap.get? b = some o → (b = a → H a = none) → (hidT s1.heap H).get? b = some o := fun e z => hidT_get e (untr e z)
    have names : ∀ {b : Addr} {m : Str → Option Value}, s1.heap.Ns b m → (hidT s1.heap H).Ns b m := by
      rintro b m ⟨o, es, ep, e, d, r⟩
      refine ⟨o, es, ep, seen e (fun z => ?_), d, r⟩
      exfalso
      subst z
      rw [ha] at e
      cases e
      have d : Data.seq vs.toArray _ = Data.dict es ep := d
      cases d
    have kin : K.In (hidT s1.heap H) := fun b o e => seen (KX b o e) fun z => by
      subst z
      cases q : H b with
      | none => rfl
      | some u =>
        have := hK (by rw [q]; exact fun z => nomatch z)
        rw [this] at e; cases e
    have mod : Mod K mg (hidT s1.heap H) := ⟨kin, names hns, ⟨mb, names hb, hbb⟩, let ⟨mc, h1, h2⟩ := hlim; ⟨mc, names h1, h2⟩⟩
    have e0 : Env0 P w K mg (hidT s1.heap H) callerA [] s1 H := ⟨rfl, mod, fun b o e => of_hidT e, Nat.le_of_eq (hidT_size _ _), trivial, fun b z => absurd (show b ∈ ([] : List Addr) from z) (by simp), ok, .of_eq hg⟩
    have q : liftSp K sp [.ref a] H (fun v _ => v = .bl true) E0 := by
      refine ⟨[.scr ns], fun _ => none, fun d _ => d = .bl true, .cons (by simp only [Rep]; exact ⟨a, rfl, .of rfl hS⟩) .nil, fun b d z => (by cases z), hsp, fun d m' v H' a1 _ _ a4 => ?_⟩
      have a1 : d = .bl true := a1
      subst a1
      simpa only [Rep] using a4
    refine codeAny_mono (F _ kin (names hns) callerA [] s1 H [.ref a] [.ref a] _ E0 (callerG hr) e0 (.cons rfl .nil) q) fun r s' h => ?_
    match r, h with
    | .error e, h => exact h.elim
    | .ok .next, h => exact h.elim
    | .ok .brk, h => exact h.elim
    | .ok .cont, h => exact h.elim
    | .ok (.ret u), h =>
      obtain ⟨v, H', os, bare, un, hok', r', q⟩ := h
      have q : v = .bl true := q
      subst q
      obtain rfl : u = Value.bool true := r'
      refine ⟨rfl, OldK.of_keep fun b o e => ?_, os, bare⟩
      cases q : H b with
      | none => exact un.keep b o e q (fun z => absurd (show b ∈ ([] : List Addr) from z) (by simp)) (by simp)
      | some u =>
        obtain ⟨_, ob, xs, rfl⟩ := only b u q
        obtain ⟨e1, _⟩ := ok b _ q
        obtain ⟨e2, _⟩ := hok' b _ (un.frzs b ob _ q)
        rw [e] at e1; cases e1
        exact e2
  cases hk : K.lookup a with
  | some o =>
    have e := KX a o hk
    rw [ha] at e
    cases e
    exact main (fun _ => none) (fun _ _ z => (by cases z)) (.inr ⟨_, vs.toArray, _, hk, rfl, rfl, rfl, by rw [List.size_toArray, hi.length]; exact hl, by simpa using rv⟩) (fun _ _ z => (by cases z)) fun z => absurd rfl z
  | none =>
    have at_ : ∀ b u, (fun b => if b = a then some (HO.frz { cls := .type "list", data := .seq vs.toArray } (.lst (ns.map V.int))) else none) b = some u → b = a ∧ u = HO.frz { cls := .type "list", data := .seq vs.toArray } (.lst (ns.map V.int)) := fun b u z => by
      by_cases hb : b = a
      · simp only [hb, if_true, Option.some.injEq] at z
        exact ⟨hb, z.symm⟩
      · simp only [hb, if_false] at z; cases z
    refine main (fun b => if b = a then some (.frz { cls := .type "list", data := .seq vs.toArray } (.lst (ns.map V.int))) else none) (fun b u z => ⟨(at_ b u z).1, _, _, (at_ b u z).2⟩) (.inl (.inr ⟨{ cls := .type "list", data := .seq vs.toArray }, if_pos rfl⟩)) (fun b u z => ?_) fun _ => hk
    obtain ⟨rfl, rfl⟩ := at_ b u z
    exact ⟨ha, by rw [List.length_map]; exact hl, vs, _, rv, ha⟩
/-- the goal that k_head leaves, by the promise of the law's def -/
theorem walk_ofG {l : PySem.W.OpenLaw} {n k : Nat} {q : Program} {loose : List Str} {XP : (Str → Option Value) → Heap → Prop} {YP : World → Heap → Prop} {d : DefRec} {K : Params → PySem.W.Frag} {sp : DSp}
    (hn : l.most = some n) (hn2 : n ≤ sizeLine) (hdf : d.params.defaults = []) (hr : Room k callerA) (hY : ∀ (w : World) (h : Heap), YP w h → (K w.params).In h)
    (F : ∀ (w : World) (mg : Str → Option Value) (fa : Addr) (h : Heap), (K w.params).In h → h.Ns mainGlobals mg → mg d.name = some (.ref fa) →
      ∀ base : Heap, (K w.params).In base → base.Ns mainGlobals mg → FnG l.prog w (K w.params) mg base CX0 k fa (liftSp (K w.params) sp))
    (hsp : ∀ ns : List Int, ns.length ≤ n → sp [.scr ns] (fun _ => none) fun d _ => d = .bl true) : PySem.W.WalkO q loose XP YP l.row.toRowW d [] (fun f vs => PySem.call f vs) := by
  refine Att.attach_call hn hdf fun w s₀ s₁ mg mb fa o pm cd doc a vs ns G Y ho hd hcd hmg hobj hints hlen hg => ?_
  have KX := hY w _ Y
  exact law_callG KX G.T.g G.T.b G.T.builtins G.T.nolimit hg hobj hints (Nat.le_trans hlen hn2) hr (F w mg fa _ KX G.T.g hmg) (hsp ns hlen)
end DL
/-! ### DL10: methods of lists and texts, displays of dicts, products -/
namespace DL
open PySem PySem.Spec PyProof.Rows L2

section
variable {X : Cx} {e a b o : Expr} {es : List Expr} {te ta tb to : DTE} {pos apos cpos : Pos}
/-! lists -/
def tApp (to te : DTE) : DTE := fun env m Q => to env m fun o m1 => ∃ p d0, o = .ref p ∧ m1 p = some (.lst d0) ∧ te env m1 fun d m2 => ∃ ds, m2 p = some (.lst ds) ∧ ds.length < sizeLine ∧ Q .non (updM m2 p (.lst (ds ++ [d])))
theorem de_app (ho : DE X o to) (he : DE X e te) (hbase : attributeBase o "append" X.env (eval o X.env) = eval o X.env := by rfl)
    (hfew : ((backTo cpos (starEach [e] X.env)).all (fun x => !x.1) && (backToKw cpos (keywordEach [] X.env)).all (fun x => x.1.isSome) && decide ([e].length + ([] : List Keyword).length + (if ([] : List Keyword).isEmpty then 0 else 1) < 30)) = true := by rfl)
    (hline : (apos.endLine == cpos.line) = true := by rfl) (hs : starEach [e] X.env = (false, eval e X.env) :: starEach [] X.env := by rfl) (hplain : (backTo cpos (starEach [] X.env)).any (·.1) = false := by rfl) :
    DE X (.Call (.Attribute o "append" apos) [e] [] cpos) (tApp to te) := ⟨PE.weak (pe_bm PySem.F.plainAttrs_list PySem.F.slot_list_append PySem.F.type_list_append mt_append ho.run (pa_cons he.run pa_nil hs) hbase hfew hline hs hplain) fun σ H Q h => by
  obtain ⟨env, m, R, eo, s, h, k⟩ := h
  refine ⟨env, m, _, eo, s, h, fun x m1 v H1 h1 f1 s1 r1 => ?_⟩
  obtain ⟨p, d0, rfl, e0, h1⟩ := h1
  simp only [Rep] at r1
  subst r1
  obtain ⟨v0, hv0, _⟩ := s1 p _ e0
  refine ⟨.inl ⟨rfl, v0, .of hv0⟩, env, m1, _, eo.mono f1, s1, h1, fun d m2 w H2 h2 f2 s2 r2 => ?_⟩
  obtain ⟨ds, e2, hl, h2⟩ := h2
  obtain ⟨vs, hv, rl⟩ := s2 p _ e2
  have fw : Fr m2 H2 (updM m2 p (.lst (ds ++ [d]))) (upd H2 p (.lst (vs ++ [w]))) := Fr.write e2
  exact ⟨p, vs, w, rfl, rfl, hv, by rw [← rl.length]; exact hl, k _ _ _ _ h2 ((f1.trans f2).trans fw) (s2.write (d := .lst (ds ++ [d])) e2 ⟨_, upd_same, RepL.mono fw _ _ (rl.snoc r2)⟩) rep_non⟩⟩
def tExt (to te : DTE) : DTE := fun env m Q => to env m fun o m1 => ∃ p d0, o = .ref p ∧ m1 p = some (.lst d0) ∧ te env m1 fun d m2 => ∃ ds es, m2 p = some (.lst ds) ∧ look m2 d = .lst es ∧ ds.length + es.length ≤ sizeLine ∧ Q .non (updM m2 p (.lst (ds ++ es)))
theorem de_ext (ho : DE X o to) (he : DE X e te) (hbase : attributeBase o "extend" X.env (eval o X.env) = eval o X.env := by rfl)
    (hfew : ((backTo cpos (starEach [e] X.env)).all (fun x => !x.1) && (backToKw cpos (keywordEach [] X.env)).all (fun x => x.1.isSome) && decide ([e].length + ([] : List Keyword).length + (if ([] : List Keyword).isEmpty then 0 else 1) < 30)) = true := by rfl)
    (hline : (apos.endLine == cpos.line) = true := by rfl) (hs : starEach [e] X.env = (false, eval e X.env) :: starEach [] X.env := by rfl) (hplain : (backTo cpos (starEach [] X.env)).any (·.1) = false := by rfl) :
    DE X (.Call (.Attribute o "extend" apos) [e] [] cpos) (tExt to te) := ⟨PE.weak (pe_bm PySem.F.plainAttrs_list PySem.F.slot_list_extend PySem.F.type_list_extend mt_extend ho.run (pa_cons he.run pa_nil hs) hbase hfew hline hs hplain) fun σ H Q h => by
  obtain ⟨env, m, R, eo, s, h, k⟩ := h
  refine ⟨env, m, _, eo, s, h, fun x m1 v H1 h1 f1 s1 r1 => ?_⟩
  obtain ⟨p, d0, rfl, e0, h1⟩ := h1
  simp only [Rep] at r1
  subst r1
  obtain ⟨v0, hv0, _⟩ := s1 p _ e0
  refine ⟨.inl ⟨rfl, v0, .of hv0⟩, env, m1, _, eo.mono f1, s1, h1, fun d m2 w H2 h2 f2 s2 r2 => ?_⟩
  obtain ⟨ds, es, e2, e3, hl, h2⟩ := h2
  obtain ⟨vs, hv, rl⟩ := s2 p _ e2
  have cc := cont_of s2 r2
  rw [e3] at cc
  obtain ⟨q, us, rfl, hq, rq⟩ := cont_lst cc
  have fw : Fr m2 H2 (updM m2 p (.lst (ds ++ es))) (upd H2 p (.lst (vs ++ us))) := Fr.write e2
  exact ⟨p, q, vs, us, rfl, rfl, hv, hq, by rw [← rl.length, ← rq.length]; exact hl, k _ _ _ _ h2 ((f1.trans f2).trans fw) (s2.write (d := .lst (ds ++ es)) e2 ⟨_, upd_same, RepL.mono fw _ _ (rl.append rq)⟩) rep_non⟩⟩
def tPop0 (to : DTE) : DTE := fun env m Q => to env m fun o m1 => ∃ p ds d, o = .ref p ∧ m1 p = some (.lst ds) ∧ ds[ds.length - 1]? = some d ∧ Q d (updM m1 p (.lst ds.dropLast))
theorem RepL.dropLast {K : PySem.W.Frag} {m : M} {H : Hp} {ds : List D} {vs : List V} (r : RepL K m H ds vs) : RepL K m H ds.dropLast vs.dropLast := by
  rw [List.dropLast_eq_take, List.dropLast_eq_take, ← r.length]
  exact r.take _
theorem RepL.eraseIdx {K : PySem.W.Frag} {m : M} {H : Hp} : ∀ {ds : List D} {vs : List V} (i : Nat), RepL K m H ds vs → RepL K m H (ds.eraseIdx i) (vs.eraseIdx i)
  | [], vs, i, r => by simp only [RepL] at r; subst r; simp [RepL]
  | d :: ds, vs, 0, r => by
    simp only [RepL] at r
    obtain ⟨v, r', rfl, h1, h2⟩ := r
    exact h2
  | d :: ds, vs, i + 1, r => by
    simp only [RepL] at r
    obtain ⟨v, r', rfl, h1, h2⟩ := r
    exact .cons h1 (RepL.eraseIdx i h2)
theorem de_pop0 (ho : DE X o to) (hbase : attributeBase o "pop" X.env (eval o X.env) = eval o X.env := by rfl) (hline : (apos.endLine == cpos.line) = true := by rfl) :
    DE X (.Call (.Attribute o "pop" apos) [] [] cpos) (tPop0 to) := ⟨PE.weak (pe_bm0 PySem.F.plainAttrs_list PySem.F.slot_list_pop PySem.F.type_list_pop mt_pop ho.run hbase hline) fun σ H Q h => by
  obtain ⟨env, m, R, eo, s, h, k⟩ := h
  refine ⟨env, m, _, eo, s, h, fun x m1 v H1 h1 f1 s1 r1 => ?_⟩
  obtain ⟨p, ds, d, rfl, e1, e2, h1⟩ := h1
  simp only [Rep] at r1
  subst r1
  obtain ⟨vs, hv, rl⟩ := s1 p _ e1
  obtain ⟨w, ew, rw'⟩ := rl.get e2
  rw [rl.length] at ew
  have fw : Fr m1 H1 (updM m1 p (.lst ds.dropLast)) (upd H1 p (.lst vs.dropLast)) := Fr.write e1
  exact ⟨.inl ⟨rfl, vs, .of hv⟩, p, vs, w, rfl, rfl, hv, ew, k _ _ _ _ h1 (f1.trans fw) (s1.write (d := .lst ds.dropLast) e1 ⟨_, upd_same, RepL.mono fw _ _ rl.dropLast⟩) (Rep.mono fw _ _ rw')⟩⟩
def tPopA (to te : DTE) : DTE := fun env m Q => to env m fun o m1 => ∃ p d0, o = .ref p ∧ m1 p = some (.lst d0) ∧ te env m1 fun i m2 => ∃ ds j n d, m2 p = some (.lst ds) ∧ look m2 i = .int j ∧ -(2 ^ 63) ≤ j ∧ j < 2 ^ 63 ∧ seqIndex? j ds.length = some n ∧ ds[n]? = some d ∧ Q d (updM m2 p (.lst (ds.eraseIdx n)))
theorem de_popA (ho : DE X o to) (he : DE X e te) (hbase : attributeBase o "pop" X.env (eval o X.env) = eval o X.env := by rfl)
    (hfew : ((backTo cpos (starEach [e] X.env)).all (fun x => !x.1) && (backToKw cpos (keywordEach [] X.env)).all (fun x => x.1.isSome) && decide ([e].length + ([] : List Keyword).length + (if ([] : List Keyword).isEmpty then 0 else 1) < 30)) = true := by rfl)
    (hline : (apos.endLine == cpos.line) = true := by rfl) (hs : starEach [e] X.env = (false, eval e X.env) :: starEach [] X.env := by rfl) (hplain : (backTo cpos (starEach [] X.env)).any (·.1) = false := by rfl) :
    DE X (.Call (.Attribute o "pop" apos) [e] [] cpos) (tPopA to te) := ⟨PE.weak (pe_bm PySem.F.plainAttrs_list PySem.F.slot_list_pop PySem.F.type_list_pop mt_popAt ho.run (pa_cons he.run pa_nil hs) hbase hfew hline hs hplain) fun σ H Q h => by
  obtain ⟨env, m, R, eo, s, h, k⟩ := h
  refine ⟨env, m, _, eo, s, h, fun x m1 v H1 h1 f1 s1 r1 => ?_⟩
  obtain ⟨p, d0, rfl, e0, h1⟩ := h1
  simp only [Rep] at r1
  subst r1
  obtain ⟨v0, hv0, _⟩ := s1 p _ e0
  refine ⟨.inl ⟨rfl, v0, .of hv0⟩, env, m1, _, eo.mono f1, s1, h1, fun i m2 w H2 h2 f2 s2 r2 => ?_⟩
  obtain ⟨ds, j, n, d, e2, e3, b1, b2, e4, e5, h2⟩ := h2
  obtain ⟨vs, hv, rl⟩ := s2 p _ e2
  have cc := cont_of s2 r2
  rw [e3] at cc
  have := cont_int cc
  subst this
  obtain ⟨z, ez, rz⟩ := rl.get e5
  have fw : Fr m2 H2 (updM m2 p (.lst (ds.eraseIdx n))) (upd H2 p (.lst (vs.eraseIdx n))) := Fr.write e2
  exact ⟨p, vs, j, n, z, rfl, rfl, hv, b1, b2, by rw [← rl.length]; exact e4, ez, k _ _ _ _ h2 ((f1.trans f2).trans fw) (s2.write (d := .lst (ds.eraseIdx n)) e2 ⟨_, upd_same, RepL.mono fw _ _ (rl.eraseIdx n)⟩) (Rep.mono fw _ _ rz)⟩⟩
/-! xs[::-1] -/
def tRevD (te : DTE) : DTE := fun env m Q => te env m fun d m1 => ∃ ds, look m1 d = .lst ds ∧ Q (.lst ds.reverse) m1
theorem de_rev {k : Nat} {p1 p2 p3 : Pos} (he : DE X e te) : DE X (.Subscript e (.Slice none none (some (.UnaryOp .USub (.Constant (.int 1) k p1) p2)) p3) pos) (tRevD te) := ⟨PE.weak (pe_revL he.run) fun σ H Q h => by
  obtain ⟨env, m, R, eo, s, h, k⟩ := h
  refine ⟨env, m, _, eo, s, h, fun d m1 v H1 h1 f1 s1 r1 => ?_⟩
  obtain ⟨ds, e1, h1⟩ := h1
  have cc := cont_of s1 r1
  rw [e1] at cc
  obtain ⟨q, us, rfl, hq, rq⟩ := cont_lst cc
  exact ⟨q, us, rfl, .of hq, fun p hp => k _ _ _ _ h1 (f1.trans (Fr.laid s1 hp)) (s1.laid hp) (new_lst s1 hp rq.reverse)⟩⟩
/-! texts -/
def strsOf : List D → Option (List Str)
  | [] => some []
  | .str x :: ds => (strsOf ds).map (x :: ·)
  | _ => none
theorem strsOf_rep {K : PySem.W.Frag} {m : M} {H : Hp} : ∀ {ds : List D} {ys : List Str} {vs : List V}, strsOf ds = some ys → RepL K m H ds vs → vs = ys.map V.str
  | [], ys, vs, e, r => by simp only [strsOf, Option.some.injEq] at e; subst e; simp only [RepL] at r; exact r
  | d :: ds, ys, vs, e, r => by
    simp only [RepL] at r
    obtain ⟨v, r', rfl, h1, h2⟩ := r
    cases d with
    | str x =>
      simp only [strsOf, Option.map_eq_some_iff] at e
      obtain ⟨ys', e', rfl⟩ := e
      simp only [Rep] at h1
      rw [h1, strsOf_rep e' h2]; rfl
    | _ => simp [strsOf] at e
theorem strsOf_map (ys : List Str) : strsOf (ys.map D.str) = some ys := by
  induction ys with
  | nil => rfl
  | cons y ys ih => simp only [List.map_cons, strsOf, ih, Option.map_some]
def tJoin (to te : DTE) : DTE := fun env m Q => to env m fun x m1 => ∃ z, x = .str z ∧ te env m1 fun d m2 => ∃ ds ys, look m2 d = .lst ds ∧ strsOf ds = some ys ∧ (ys.map (·.length)).sum + ys.length * z.length ≤ 16777216 ∧ Q (.str (Txt.join z ys)) m2
theorem de_join (ho : DE X o to) (he : DE X e te) (hs : starEach [e] X.env = [(false, eval e X.env)] := by rfl) (hbase : attributeBase o "join" X.env (eval o X.env) = eval o X.env := by rfl) (hline : (apos.endLine == pos.line) = true := by rfl) :
    DE X (.Call (.Attribute o "join" apos) [e] [] pos) (tJoin to te) := ⟨PE.weak (pe_join ho.run he.run hs hbase hline) fun σ H Q h => by
  obtain ⟨env, m, R, eo, s, h, k⟩ := h
  refine ⟨env, m, _, eo, s, h, fun x m1 v H1 h1 f1 s1 r1 => ?_⟩
  obtain ⟨z, rfl, h1⟩ := h1
  simp only [Rep] at r1
  subst r1
  refine ⟨⟨z, rfl⟩, env, m1, _, eo.mono f1, s1, h1, fun d m2 w H2 h2 f2 s2 r2 => ?_⟩
  obtain ⟨ds, ys, e1, e2, hl, h2⟩ := h2
  have cc := cont_of s2 r2
  rw [e1] at cc
  obtain ⟨q, us, rfl, hq, rq⟩ := cont_lst cc
  have := strsOf_rep e2 rq
  subst this
  exact ⟨z, q, ys, rfl, rfl, .inl (.of hq), hl, k _ _ _ _ h2 (f1.trans f2) s2 rep_str⟩⟩
def tSplit (to te : DTE) : DTE := fun env m Q => to env m fun x m1 => ∃ z, x = .str z ∧ te env m1 fun d m2 => ∃ y, d = .str y ∧ (y.length == 0) = false ∧ z.length + 2 ≤ sizeLine ∧ Q (.lst ((Txt.split z y).map .str)) m2
theorem de_split (ho : DE X o to) (he : DE X e te) (hs : starEach [e] X.env = [(false, eval e X.env)] := by rfl) (hbase : attributeBase o "split" X.env (eval o X.env) = eval o X.env := by rfl) (hline : (apos.endLine == pos.line) = true := by rfl) :
    DE X (.Call (.Attribute o "split" apos) [e] [] pos) (tSplit to te) := ⟨PE.weak (pe_split ho.run he.run hs hbase hline) fun σ H Q h => by
  obtain ⟨env, m, R, eo, s, h, k⟩ := h
  refine ⟨env, m, _, eo, s, h, fun x m1 v H1 h1 f1 s1 r1 => ?_⟩
  obtain ⟨z, rfl, h1⟩ := h1
  simp only [Rep] at r1
  subst r1
  refine ⟨⟨z, rfl⟩, env, m1, _, eo.mono f1, s1, h1, fun d m2 w H2 h2 f2 s2 r2 => ?_⟩
  obtain ⟨y, rfl, hy, hz, h2⟩ := h2
  simp only [Rep] at r2
  subst r2
  exact ⟨z, y, rfl, rfl, hy, hz, fun p hp => k _ _ _ _ h2 ((f1.trans f2).trans (Fr.laid s2 hp)) (s2.laid hp) (new_lst s2 hp (RepL.map_str _))⟩⟩
/-! dicts -/
def tPrs : List (DTE × DTE) → Env → M → (List (D × D) → M → Prop) → Prop
  | [], _, m, Q => Q [] m
  | (tk, tv) :: r, env, m, Q => tk env m fun x m1 => tv env m1 fun y m2 => tPrs r env m2 fun ps m3 => Q ((x, y) :: ps) m3
structure DPs (X : Cx) (pos : Pos) (keys : List (Option Expr)) (values : List Expr) (trs : List (DTE × DTE)) : Prop where
  run : PPs X pos keys values (trs.map fun t => (liftE X.K t.1, liftE X.K t.2))
theorem dps_nil : DPs X pos [] [] [] := ⟨pps_nil⟩
theorem dps_cons {k v : Expr} {ks : List (Option Expr)} {vs : List Expr} {tk tv : DTE} {trs : List (DTE × DTE)} (hk : DE X k tk) (hv : DE X v tv) (hr : DPs X pos ks vs trs) : DPs X pos (some k :: ks) (v :: vs) ((tk, tv) :: trs) := ⟨pps_cons hk.run hv.run hr.run⟩
theorem prs_lift {K : PySem.W.Frag} {σ : L2.St} {env : Env} {Q : List (V × V) → Hp → Prop} : ∀ {trs : List (DTE × DTE)} {m : M} {H : Hp} {R : List (D × D) → M → Prop}, EnvOk K m H σ env → Sim K m H → tPrs trs env m R →
    (∀ ps m' vs H', R ps m' → Fr m H m' H' → Sim K m' H' → RepL K m' H' (ps.map (·.1)) (vs.map (·.1)) → RepL K m' H' (ps.map (·.2)) (vs.map (·.2)) → Q vs H') → tPairs (trs.map fun t => (liftE K t.1, liftE K t.2)) σ H Q
  | [], m, H, R, eo, s, h, k => k [] m [] H h Fr.refl s .nil .nil
  | (tk, tv) :: trs, m, H, R, eo, s, h, k => by
    refine ⟨env, m, _, eo, s, h, fun x m1 xv H1 h1 f1 s1 r1 => ?_⟩
    refine ⟨env, m1, _, eo.mono f1, s1, h1, fun y m2 yv H2 h2 f2 s2 r2 => ?_⟩
    refine prs_lift (eo.mono (f1.trans f2)) s2 h2 fun ps m' vs H' a1 a2 a3 a4 a5 => ?_
    exact k ((x, y) :: ps) m' ((xv, yv) :: vs) H' a1 ((f1.trans f2).trans a2) a3 (.cons (Rep.mono (f2.trans a2) _ _ r1) a4) (.cons (Rep.mono a2 _ _ r2) a5)
def keysOf : List D → Option (List Key)
  | [] => some []
  | d :: ds => (keyOf d).bind fun k => (keysOf ds).map (k :: ·)
theorem keysOf_eq : ∀ {ds : List D} {ks : List Key}, keysOf ds = some ks → ds = ks.map kD
  | [], ks, h => by simp [keysOf] at h; subst h; rfl
  | d :: ds, ks, h => by
    simp only [keysOf, Option.bind_eq_some_iff, Option.map_eq_some_iff] at h
    obtain ⟨k, h1, ks', h2, rfl⟩ := h
    rw [List.map_cons, ← keyOf_eq h1, ← keysOf_eq h2]
theorem repL_kV {K : PySem.W.Frag} {m : M} {H : Hp} : ∀ {ks : List Key} {vs : List V}, RepL K m H (ks.map kD) vs → vs = ks.map kV
  | [], vs, r => by simp only [List.map_nil, RepL] at r; exact r
  | k :: ks, vs, r => by
    simp only [List.map_cons, RepL] at r
    obtain ⟨v, r', rfl, h1, h2⟩ := r
    rw [rep_kD h1, repL_kV h2]; rfl
theorem merge_nodup : ∀ (more kvs : List (Key × V)), ((kvs ++ more).map (·.1)).Nodup → mergeK kvs more = kvs ++ more
  | [], kvs, _ => by simp [mergeK]
  | p :: more, kvs, nd => by
    have e : putK kvs p.1 p.2 = kvs ++ [p] := by
      unfold putK
      have : (kvs.any fun kv => decide (kv.1 = p.1)) = false := by
        rw [List.any_eq_false]
        intro kv hk
        simp only [decide_eq_true_eq]
        intro q
        rw [List.map_append, List.map_cons, List.nodup_append] at nd
        exact nd.2.2 kv.1 (List.mem_map.mpr ⟨kv, hk, rfl⟩) p.1 List.mem_cons_self q
      rw [this]; rfl
    show mergeK (putK kvs p.1 p.2) more = _
    rw [e, merge_nodup more (kvs ++ [p]) (by simpa using nd)]
    simp
theorem zip_keys : ∀ {ks : List Key} {vs : List (V × V)}, vs.map (·.1) = ks.map kV → vs = (ks.zip (vs.map (·.2))).map fun kv => (kV kv.1, kv.2)
  | [], [], _ => rfl
  | [], _ :: _, h => by simp at h
  | _ :: _, [], h => by simp at h
  | k :: ks, v :: vs, h => by
    simp only [List.map_cons, List.cons.injEq] at h
    simp only [List.map_cons, List.zip_cons_cons, List.map_cons]
    rw [← zip_keys h.2, ← h.1]
/-- a display; its keys are unlike -/
def tDicM (trs : List (DTE × DTE)) : DTE := fun env m Q => ∀ p, m p = none → tPrs trs env (updM m p (.dic [] [])) fun ps m2 => m2 p = some (.dic [] []) ∧ ∃ ks, keysOf (ps.map (·.1)) = some ks ∧ ks.Nodup ∧ ps.length ≤ 15 ∧ Q (.ref p) (updM m2 p (.dic (ps.map (·.1)) (ps.map (·.2))))
theorem de_dic {keys : List (Option Expr)} {values : List Expr} {trs : List (DTE × DTE)} (h : DPs X pos keys values trs) (hall : keys.all (·.isSome) = true := by rfl) (hl : keys.length = values.length := by rfl) (h0 : keys ≠ [] := by exact fun z => by cases z) (h15 : keys.length ≤ 15 := by decide) :
    DE X (.Dict keys values pos) (tDicM trs) := ⟨PE.weak (pe_disp h.run hall hl h0 h15) fun σ H Q h => by
  obtain ⟨env, m, R, eo, s, h, k⟩ := h
  intro p hp
  have f1 : Fr m H (updM m p (.dic [] [])) (upd H p (.dK [])) := Fr.laidM s hp
  have s1 : Sim X.K (updM m p (.dic [] [])) (upd H p (.dK [])) := Sim.laidM s hp ⟨[], upd_same, rfl, .nil⟩
  refine prs_lift (eo.mono f1) s1 (h p (s.free hp)) fun ps m2 vs H2 h2 f2 s2 r1 r2 => ?_
  obtain ⟨e2, ks, ek, nd, hl, h2⟩ := h2
  obtain ⟨kvs0, hd, ek0, _⟩ := s2 p _ e2
  have e0 : kvs0 = [] := by
    cases kvs0 with
    | nil => rfl
    | cons _ _ => cases ek0
  subst e0
  have ek := keysOf_eq ek
  rw [ek] at r1
  have ev := repL_kV r1
  have lks : ks.length = vs.length := by
    have := congrArg List.length ev
    simpa using this.symm
  refine ⟨hd, ks.zip (vs.map (·.2)), ?_, by rw [List.length_zip, List.length_map, lks, Nat.min_self]; have := congrArg List.length ek; simp only [List.length_map] at this; omega, ?_⟩
  · exact zip_keys ev
  · have lz : (ks.zip (vs.map (·.2))).map (·.1) = ks := List.map_fst_zip (by rw [List.length_map, lks]; exact Nat.le_refl _)
    have lz2 : (ks.zip (vs.map (·.2))).map (·.2) = vs.map (·.2) := List.map_snd_zip (by rw [List.length_map, lks]; exact Nat.le_refl _)
    rw [merge_nodup _ [] (by rw [List.nil_append, lz]; exact nd), List.nil_append]
    have fw : Fr m2 H2 (updM m2 p (.dic (ps.map (·.1)) (ps.map (·.2)))) (upd H2 p (.dK (ks.zip (vs.map (·.2))))) := Fr.write e2
    refine k _ _ _ _ h2 ((f1.trans f2).trans fw) (s2.write (d := .dic (ps.map (·.1)) (ps.map (·.2))) e2 ⟨_, upd_same, ?_, ?_⟩) rep_ref
    · rw [ek, ← lz, List.map_map]
      rw [lz]; rfl
    · rw [lz2]; exact RepL.mono fw _ _ r2⟩
/-- {} -/
def tDic0 : DTE := fun _ m Q => ∀ p, m p = none → Q (.ref p) (updM m p (.dic [] []))
theorem de_dic0 : DE X (.Dict [] [] pos) tDic0 := ⟨PE.weak pe_dnewK fun σ H Q h => by
  obtain ⟨env, m, R, eo, s, h, k⟩ := h
  exact fun p hp => k _ _ _ _ (h p (s.free hp)) (Fr.laidM s hp) (Sim.laidM s hp ⟨[], upd_same, rfl, .nil⟩) rep_ref⟩
end
end DL
/-! ### DL11: enumerate -/
namespace DL
open PySem PySem.Spec PyProof.Rows L2
open AutoSeq1 (wpAny_loadPart')

theorem meets_enumT (l : Addr) (items : Array Value) (n : Nat) (dct : Option Addr) (sl : Array (Option Value)) :
    Meets (Builtin.«enumerate.__new__» ⟨[.type "enumerate", .ref l], []⟩) (fun _ R s => s.heap.get? l = some { cls := .type "tuple", dict := dct, data := .seq items n, slots := sl } ∧
      R (.ok (.ret (.ref (s.heap.push { cls := .type "tuple_iterator", data := .fields #[.ref l, .int 0 0] }).objs.size)))
        { s with heap := (s.heap.push { cls := .type "tuple_iterator", data := .fields #[.ref l, .int 0 0] }).push { cls := .type "enumerate", data := .fields #[.none, .bool false, .ref s.heap.objs.size, rawInt 0, .none, .none] } }) :=
  .of_wp fun prog w A R s h => by
    obtain ⟨hp, g, d, tk, os⟩ := s
    obtain ⟨hl, h⟩ := h
    have hsub := sub_enumerate
    have hL : Heap.IsTuple (Shared.heap ⟨hp, g, d, tk, os⟩) l items := ⟨_, hl, rfl, n, rfl⟩
    wp_walk using wpAny_loadPart' hl
    refine wpAny_stack_any fun st => wpAny_pure ?_
    split
    · rename_i c _ _ _ _ _
      cases (c == Value.type "enumerate") <;> (wp_walk using wpAny_loadPart' hl, wpAny_pyIter_tuple hL; exact ⟨_, rfl, h⟩)
    · wp_walk using wpAny_loadPart' hl, wpAny_pyIter_tuple hL
      exact ⟨_, rfl, h⟩
theorem call_enumT {prog : Program} {w : World} {A : Around} {E : Value → Shared → Prop} {s : Shared} {l : Addr} {items : Array Value} {Q : Value → Shared → Prop} (hL : s.heap.IsTuple l items)
    (h : ∀ h', IsEnum h' (s.heap.objs.size + 1) s.heap.objs.size 0 .none → h'.IsTupleIter s.heap.objs.size l 0 → (∀ b o, s.heap.get? b = some o → h'.get? b = some o) → Q (.ref (s.heap.objs.size + 1)) { s with heap := h' }) :
    wpAny (model prog w) A (call (.type "enumerate") [.ref l]) Q E s := by
  obtain ⟨⟨c, dct, dt, sl⟩, hl, hc, n, hd⟩ := hL
  have hc : c = .type "tuple" := hc
  have hd : dt = .seq items n := hd
  subst hc hd
  refine callType_new F.called_enumerate (by decide) (F.typeCall_enumerate_1 _) (F.newCall_enumerate_1 _) (fun obj => F.args_object_init_2 obj _) F.entry_enumerate_new (meets_enumT l items n dct sl) ⟨hl, ?_⟩
  have hz : (s.heap.push { cls := .type "tuple_iterator", data := .fields #[.ref l, .int 0 0] }).objs.size = s.heap.objs.size + 1 := Heap.size_push ..
  show _ ∧ _
  rw [hz]
  have he : IsEnum ((s.heap.push { cls := .type "tuple_iterator", data := .fields #[.ref l, .int 0 0] }).push { cls := .type "enumerate", data := .fields #[.none, .bool false, .ref s.heap.objs.size, rawInt 0, .none, .none] }) (s.heap.objs.size + 1) s.heap.objs.size 0 .none := by
    have q := Heap.get?_push_size (s.heap.push { cls := .type "tuple_iterator", data := .fields #[.ref l, .int 0 0] }) (o := { cls := .type "enumerate", data := .fields #[.none, .bool false, .ref s.heap.objs.size, rawInt 0, .none, .none] }) rfl
    rwa [hz] at q
  exact ⟨⟨_, he, rfl⟩, h _ he ⟨_, Heap.get?_push_of_some _ (Heap.get?_push_size _ rfl), rfl, rfl⟩ fun b o x => Heap.get?_push_of_some _ (Heap.get?_push_of_some _ x)⟩
def IteT (K : PySem.W.Frag) (a : Addr) : It where
  go := fun i H => ∃ (xs : List V) (x : V), SqT K H a xs ∧ xs[i]? = some x
  yld := fun i H v H' => ∃ T x, v = .ref T ∧ H T = none ∧ H' = upd H T (.tup [.int (i : Nat), x]) ∧ ∀ xs, SqT K H a xs → xs[i]? = some x
  stop := fun i H => ∃ xs : List V, SqT K H a xs ∧ i = xs.length
theorem turn_enumT {P : Program} {w : World} {K : PySem.W.Frag} {elts : List Expr} {kk : Nat} {tpos : Pos} (a e it : Addr) :
    Turn P w K (.Tuple elts kk tpos) (IteT K a) [e, it] e (fun i h => (∃ old, IsEnum h e it ((i : Nat) : Int) old) ∧ h.IsTupleIter it a i ∧ e ≠ it) where
  mem := List.mem_cons_self
  obj := by
    rintro i h ⟨⟨old, he⟩, ⟨o, ho, hc, hd⟩, _⟩ b hb
    rcases List.mem_cons.mp hb with rfl | hb
    · exact ⟨_, he, fun v q => nomatch q⟩
    · obtain rfl : b = it := by simpa using hb
      exact ⟨o, ho, fun v q => by rw [hd] at q; cases q⟩
  keep := by
    rintro i h h' ⟨⟨old, he⟩, hi, hne⟩ k
    exact ⟨⟨old, k e List.mem_cons_self _ he⟩, hi.at fun o q => k it (List.mem_cons_of_mem _ List.mem_cons_self) o q, hne⟩
  item := by
    intro X hP hw hK hc i pins s σ H E I hf st hg
    subst hP hw hK
    obtain ⟨⟨old, he⟩, hit, hne⟩ := st
    obtain ⟨xs, x, hq, hx⟩ := hg
    obtain ⟨its, rv, p, hz⟩ := I.tuple hq
    obtain ⟨u, hu, ru⟩ := rv.get hx
    have hel : e < s.heap.objs.size := Heap.lt_size he
    have hil : it < s.heap.objs.size := by obtain ⟨_, q, _⟩ := hit; exact Heap.lt_size q
    have pt : s.heap.IsTuple a its.toArray := p
    have hat : a ≠ it := by
      rintro rfl
      obtain ⟨o1, h1, c1, _⟩ := pt
      obtain ⟨o2, h2, c2, _⟩ := hit
      rw [h1] at h2; cases h2
      have z : Value.type "tuple" = Value.type "tuple_iterator" := c1.symm.trans c2
      injection z with z
      exact absurd z (by decide)
    have hae : e ≠ a := by
      rintro rfl
      obtain ⟨o1, h1, c1, _⟩ := pt
      rw [he] at h1; cases h1
      have z : Value.type "enumerate" = Value.type "tuple" := c1
      injection z with z
      exact absurd z (by decide)
    have hi : i < its.toArray.size := by
      rw [List.size_toArray]
      rcases Nat.lt_or_ge i its.length with z | z
      · exact z
      · rw [List.getElem?_eq_none z] at hu; cases hu
    refine wpAny_pyNext_enum_itemD (Draws.tuple (A := X.A.in1) (show X.A.in1.handled = none from I.ok.hd hc) it a hat its.toArray) he ⟨hit, pt⟩ hi hne (by simp [hne, hae]) fun y h' tk hy ho st' hT hsz hk => ?_
    have ey : y = u := by
      have hy : its.toArray[i]? = some y := hy
      rw [List.getElem?_toArray, hu] at hy
      exact (Option.some.inj hy).symm
    subst ey
    refine ⟨_, rfl, wpAny_letOwnedTupleGo_enum (s := { s with heap := h', toks := tk + 1 }) ho fun h'' he' sb => ?_⟩
    have hT2 := (sb.2 _ (Nat.ne_of_gt hel)).trans hT
    have new : ObjOk X.prog X.w (upd H s.heap.objs.size (.tup [.int (i : Nat), x])) h'' s.heap.objs.size (.tup [.int (i : Nat), x]) :=
      ⟨by show 2 ≤ sizeLine; decide, [.int i tk, y], .cons ⟨_, rfl⟩ (.cons ru .nil), ⟨_, hT2, rfl, _, rfl⟩⟩
    have J : Inv X pins σ (upd H s.heap.objs.size (.tup [.int (i : Nat), x])) { s with heap := h'', toks := tk + 1 } :=
      I.turnedNew (ch := [e, it]) (fun b ob hb q => (sb.2 b (fun z => hb (by simp [z]))).trans (hk b ob (fun z => hb (by simp [z])) (fun z => hb (by simp [z])) q)) hf (Nat.le_refl _) new
    refine ⟨.ref s.heap.objs.size, _, J, rfl, ⟨_, x, rfl, I.hok.fresh (Nat.le_refl _), rfl, fun ys hy => by rw [I.tuple_inj hy hq]; exact hx⟩, ⟨⟨y, ?_⟩, st'.1.at fun o q => (sb.2 it (Ne.symm hne)).trans q, hne⟩, fun b hb => ?_⟩
    · have e1 : ((i + 1 : Nat) : Int) = (i : Int) + 1 := by omega
      rw [e1]; exact he'
    · have hb' : b < s.heap.objs.size := by
        rcases List.mem_cons.mp hb with rfl | hb
        · exact hel
        · obtain rfl : b = it := by simpa using hb
          exact hil
      rw [upd_ne (Nat.ne_of_lt hb')]
      exact (hf b hb).1
  done := by
    intro X hP hw hK hc i pins s σ H E I hf st hg
    subst hP hw hK
    obtain ⟨⟨old, he⟩, hit, hne⟩ := st
    obtain ⟨xs, hq, hx⟩ := hg
    obtain ⟨its, rv, p, hz⟩ := I.tuple hq
    obtain ⟨f0, f1, f2, f3, f4, f5⟩ := hf it (List.mem_cons_of_mem _ List.mem_cons_self)
    have pt : s.heap.IsTuple a its.toArray := p
    have hat : a ≠ it := by
      rintro rfl
      obtain ⟨o1, h1, c1, _⟩ := pt
      obtain ⟨o2, h2, c2, _⟩ := hit
      rw [h1] at h2; cases h2
      have z : Value.type "tuple" = Value.type "tuple_iterator" := c1.symm.trans c2
      injection z with z
      exact absurd z (by decide)
    have e1 : i = its.toArray.size := by rw [List.size_toArray, ← rv.length]; exact hx
    subst e1
    exact wpAny_pyNext_enum_endD (Draws.tuple (A := X.A.in1) (show X.A.in1.handled = none from I.ok.hd hc) it a hat its.toArray) he ⟨hit, pt⟩ fun h' eb => ⟨rfl, I.turned (t' := s.toks) (fun b o hb q => eb b o hb q) f0 f1 f3 f4 f5⟩
  self := fun A i s Q E st h => let ⟨⟨_, he⟩, _⟩ := st; wpAny_pyIter_enum he h
section
variable {X : Cx} {e tg : Expr} {es elts : List Expr} {te : DTE} {p pos tpos : Pos} {kk : Nat}
/-- enumerate over a list, a tuple -/
def enumD (ds : List D) : List D := (List.range ds.length).zipWith (fun (i : Nat) d => D.tup [.int i, d]) ds
def iEn (te : DTE) : DTI := fun env m Q => te env m fun d m1 => ∃ ds, (d = .lst ds ∨ d = .tup ds) ∧ Q (enumD ds) m1
theorem enumD_get {ds : List D} {i : Nat} {d : D} (h : (enumD ds)[i]? = some d) : ∃ x, ds[i]? = some x ∧ d = .tup [.int (i : Nat), x] := by
  unfold enumD at h
  rw [List.getElem?_zipWith] at h
  split at h
  · rename_i a b h1 h2
    have hi : i < ds.length := by
      rcases Nat.lt_or_ge i ds.length with z | z
      · exact z
      · rw [List.getElem?_eq_none z] at h2; cases h2
    rw [List.getElem?_range hi] at h1
    cases h1
    cases h
    exact ⟨b, h2, rfl⟩
  · cases h
theorem enumD_length (ds : List D) : (enumD ds).length = ds.length := by unfold enumD; simp
theorem two_tup {K : PySem.W.Frag} {m : M} {H : Hp} {x : D} {v : V} {i : Int} {T : Addr} (s : Sim K m H) (hT : H T = none) (r : Rep K m H x v) : Fr m H m (upd H T (.tup [.int i, v])) ∧ Sim K m (upd H T (.tup [.int i, v])) ∧ Rep K m (upd H T (.tup [.int i, v])) (.tup [.int i, x]) (.ref T) :=
  ⟨Fr.laid s hT, s.laid hT, new_tup s hT (.cons rep_int (.cons r .nil))⟩
theorem items_enumL {K : PySem.W.Frag} {m0 : M} {H0 : Hp} {a : Addr} {ds : List D} {vs : List V} (n : m0 a = none) (h : H0 a = some (.lst vs)) (r : RepL K m0 H0 ds vs) : Items K (Ite K a) (enumD ds) m0 H0 := fun i m H f s => by
  obtain ⟨n', h'⟩ := f.lst n h
  refine ⟨fun d e => ?_, fun hl => ⟨vs, .of h', by rw [← r.length, hl, enumD_length]; exact Nat.le_refl _⟩⟩
  obtain ⟨x, ex, rfl⟩ := enumD_get e
  obtain ⟨v, e1, r1⟩ := r.get ex
  refine ⟨⟨vs, v, .of h', e1⟩, fun y H' q => ?_⟩
  obtain ⟨T, z, rfl, hT, rfl, hz⟩ := q
  have := hz vs (.of h')
  rw [e1] at this; cases this
  exact two_tup s hT (Rep.mono f _ _ r1)
theorem items_enumT {K : PySem.W.Frag} {m0 : M} {H0 : Hp} {a : Addr} {ds : List D} {vs : List V} (h : TupAt K m0 H0 a vs) (r : RepL K m0 H0 ds vs) : Items K (IteT K a) (enumD ds) m0 H0 := fun i m H f s => by
  have h' : SqT K H a vs := by
    rcases h with ⟨n, h⟩ | h
    · exact .inl (.inl (f.tup n h).2)
    · exact .inr h
  refine ⟨fun d e => ?_, fun hl => ⟨vs, h', by rw [← r.length, hl, enumD_length]⟩⟩
  obtain ⟨x, ex, rfl⟩ := enumD_get e
  obtain ⟨v, e1, r1⟩ := r.get ex
  refine ⟨⟨vs, v, h', e1⟩, fun y H' q => ?_⟩
  obtain ⟨T, z, rfl, hT, rfl, hz⟩ := q
  have := hz vs h'
  rw [e1] at this; cases this
  exact two_tup s hT (Rep.mono f _ _ r1)
theorem di_enum (hm : X.mg "enumerate" = none) (he : DE X e te) (hg : Gl X "enumerate" := by rfl) (hs : starEach [e] X.env = [(false, eval e X.env)] := by rfl) : DI X (.Tuple elts kk tpos) (.Call (.Name "enumerate" p) [e] [] pos) (iEn te) := ⟨⟨fun pins s σ H R I h => by
  obtain ⟨env, m, RR, eo, sm, h, k⟩ := h
  have h0 : liftE X.K te σ H (fun x H1 => (∃ a xs, x = .ref a ∧ SqL X.K H1 a xs ∧ R (Ite X.K a) H1) ∨ ∃ a xs, x = .ref a ∧ SqT X.K H1 a xs ∧ R (IteT X.K a) H1) := by
    refine ⟨env, m, _, eo, sm, h, fun d m1 v H1 h1 f1 s1 r1 => ?_⟩
    obtain ⟨ds, (rfl | rfl), h1⟩ := h1
    · simp only [Rep] at r1
      obtain ⟨a, vs, rfl, ⟨n, h2⟩, r2⟩ := r1
      exact .inl ⟨a, vs, rfl, .of h2, k _ m1 _ H1 h1 f1 s1 (items_enumL n h2 r2)⟩
    · simp only [Rep] at r1
      obtain ⟨a, vs, rfl, h2, r2⟩ := r1
      exact .inr ⟨a, vs, rfl, tupAt_sq h2, k _ m1 _ H1 h1 f1 s1 (items_enumT h2 r2)⟩
  have args : PA X [e] _ := pa_cons he.run pa_nil hs
  refine Call_ (ld_blt I hg hm boot_enumerate (PyProof.Rows.callWith_type1 (thn (args.run pos pins s σ H (fun vs H1 => ∃ x, vs = [x] ∧ ((∃ a xs, x = .ref a ∧ SqL X.K H1 a xs ∧ R (Ite X.K a) H1) ∨ ∃ a xs, x = .ref a ∧ SqT X.K H1 a xs ∧ R (IteT X.K a) H1)) I ?_) fun us s1 hx => ?_) hs rfl))
  · obtain ⟨env', m', R', a1, a2, a3, a4⟩ := h0
    exact ⟨env', m', R', a1, a2, a3, fun d m1 v H1 b1 b2 b3 b4 => ⟨v, rfl, a4 d m1 v H1 b1 b2 b3 b4⟩⟩
  · obtain ⟨vs, H1, I1, r1, x, rfl, q⟩ := hx
    rcases q with ⟨a, xs, rfl, hq, q⟩ | ⟨a, xs, rfl, hq, q⟩
    · obtain rfl := Vals.ref1 r1
      obtain ⟨its, rv, pl, hz⟩ := I1.list hq
      refine call_enumerate_list pl.isList fun h' he' hit hsz hk => wpAny_pyIter_enum he' ?_
      have J : Inv X pins σ H1 { s1 with heap := h' } := I1.kept (t' := s1.toks) hk
      refine ⟨s1.heap.objs.size + 1, [s1.heap.objs.size + 1, s1.heap.objs.size], _, _, H1, rfl, J, turn_enum a (s1.heap.objs.size + 1) s1.heap.objs.size, ⟨⟨.none, he'⟩, hit, Nat.succ_ne_self _⟩, fun b hb => ?_, q⟩
      have hle : s1.heap.objs.size ≤ b := by
        rcases List.mem_cons.mp hb with e | hb
        · rw [e]; exact Nat.le_add_right _ _
        · rw [List.mem_singleton.mp hb]; exact Nat.le_refl _
      exact I1.fpOk hle (I1.hok.fresh hle)
    · obtain rfl := Vals.ref1 r1
      obtain ⟨its, rv, pt, hz⟩ := I1.tuple hq
      refine call_enumT (show s1.heap.IsTuple a its.toArray from pt) fun h' he' hit hk => wpAny_pyIter_enum he' ?_
      have J : Inv X pins σ H1 { s1 with heap := h' } := I1.kept (t' := s1.toks) hk
      refine ⟨s1.heap.objs.size + 1, [s1.heap.objs.size + 1, s1.heap.objs.size], _, _, H1, rfl, J, turn_enumT a (s1.heap.objs.size + 1) s1.heap.objs.size, ⟨⟨.none, he'⟩, hit, Nat.succ_ne_self _⟩, fun b hb => ?_, q⟩
      have hle : s1.heap.objs.size ≤ b := by
        rcases List.mem_cons.mp hb with e | hb
        · rw [e]; exact Nat.le_add_right _ _
        · rw [List.mem_singleton.mp hb]; exact Nat.le_refl _
      exact I1.fpOk hle (I1.hok.fresh hle)⟩⟩
end
end DL
/-! ### DL12: products -/
namespace DL
open PySem PySem.Spec PyProof.Rows L2

/-- a tuple times one is itself -/
theorem tup_mul1 (l : Addr) (items : Array Value) (n : Nat) (dd : Option Addr) (sl : Array (Option Value)) (u : Tok) :
    Meets (Builtin.«tuple.__mul__» ⟨[.ref l, .int 1 u], []⟩) (fun _ R s => s.heap.get? l = some { cls := .type "tuple", dict := dd, data := .seq items n, slots := sl } ∧ R (.ok (.ret (Value.ref l))) s) :=
  .of_wp fun prog w A R s h => by
    obtain ⟨hp, g, d, tk, os⟩ := s
    obtain ⟨hl, h⟩ := h
    have f1 := AutoSeq1.idx_int
    have c1 : (items.isEmpty || (1 : Int) == 1) = true := by simp
    wp_walk using wpAny_loadPart' hl
    repeat (first
      | (refine wpAny_ite_true (decide_eq_true c1) ?_; wp_walk using wpAny_loadPart' hl)
      | (refine wpAny_ite_false (decide_eq_false (by decide)) ?_; wp_walk using wpAny_loadPart' hl))
    exact ⟨_, rfl, h⟩
/-- .. times none is the empty one -/
theorem tup_mul0 (l : Addr) (items : Array Value) (n : Nat) (dd : Option Addr) (sl : Array (Option Value)) (u : Tok) (c : items.isEmpty = false) :
    Meets (Builtin.«tuple.__mul__» ⟨[.ref l, .int 0 u], []⟩) (fun _ R s => s.heap.get? l = some { cls := .type "tuple", dict := dd, data := .seq items n, slots := sl } ∧
      R (.ok (.ret (Value.ref s.heap.objs.size))) { s with heap := s.heap.push { cls := Value.type "tuple", data := Data.seq #[] }, toks := s.toks }) :=
  .of_wp fun prog w A R s h => by
    obtain ⟨hp, g, d, tk, os⟩ := s
    obtain ⟨hl, h⟩ := h
    have f1 := AutoSeq1.idx_int
    have c1 : (items.isEmpty || (0 : Int) == 1) = false := by rw [c]; rfl
    have c2 : (decide ((0 : Int) ≤ 0) || items.isEmpty) = true := by rw [c]; rfl
    wp_walk using wpAny_loadPart' hl
    repeat (first
      | (refine wpAny_ite_false (decide_eq_false (by rw [c1]; exact Bool.false_ne_true)) ?_; wp_walk using wpAny_loadPart' hl)
      | (refine wpAny_ite_true (decide_eq_true c2) ?_; wp_walk using wpAny_loadPart' hl)
      | (refine wpAny_ite_false (decide_eq_false (by decide)) ?_; wp_walk using wpAny_loadPart' hl))
    exact ⟨_, rfl, h⟩
def rRepT01 (K : PySem.W.Frag) : R2 := fun x y H Q => ∃ l xs, x = .ref l ∧ SqT K H l xs ∧ xs ≠ [] ∧ ((y = .int 1 ∧ Q (.ref l) H) ∨ (y = .int 0 ∧ ∀ p, H p = none → Q (.ref p) (upd H p (.tup []))))
section
variable {X : Cx}
theorem op_repT01 : OpR X (binaryOp .Mult) (rRepT01 X.K) := by
  intro pins s σ H x y v u Q I rx ry h
  obtain ⟨l, xs, rfl, hT, hne, h⟩ := h
  cases rx
  obtain ⟨its, r, ⟨⟨cls, dd, data, sl⟩, ho, hc, n, hd⟩, hs⟩ := I.tuple hT
  simp only at hc hd
  subst hc hd
  have hi : its.toArray.isEmpty = false := by
    cases its with
    | nil => exact absurd (List.eq_nil_of_length_eq_zero r.length) hne
    | cons a b => rfl
  rcases h with ⟨rfl, q⟩ | ⟨rfl, q⟩
  · obtain ⟨t, rfl⟩ := ry
    refine wpAny_binaryOp_repeat_ref (T := "tuple") (U := "int") (by decide) ⟨_, ho, rfl⟩ (fun s' => typeIs_int s' 1 t) noFill_tuple_mul F.fills_int_mul F.slot_int_rmul repeat_tuple F.slot_int_index.lookup
      (call_meets F.slot_int_rmul (typeIs_int s 1 t) F.entry_int_rmul (F.args_int_rmul_2 _ _) (int_rmul_tuple 1 t l its.toArray n dd sl)
        ⟨ho, rfl, ⟨_, ho, rfl⟩, call_meets F.slot_tuple_mul ⟨_, ho, rfl⟩ F.entry_tuple_mul (F.args_tuple_mul_2 _ _) (tup_mul1 l its.toArray n dd sl t) ⟨ho, ?_⟩⟩)
    exact ⟨.ref l, H, I, rfl, q⟩
  · obtain ⟨t, rfl⟩ := ry
    refine wpAny_binaryOp_repeat_ref (T := "tuple") (U := "int") (by decide) ⟨_, ho, rfl⟩ (fun s' => typeIs_int s' 0 t) noFill_tuple_mul F.fills_int_mul F.slot_int_rmul repeat_tuple F.slot_int_index.lookup
      (call_meets F.slot_int_rmul (typeIs_int s 0 t) F.entry_int_rmul (F.args_int_rmul_2 _ _) (int_rmul_tuple 0 t l its.toArray n dd sl)
        ⟨ho, rfl, ⟨_, ho, rfl⟩, call_meets F.slot_tuple_mul ⟨_, ho, rfl⟩ F.entry_tuple_mul (F.args_tuple_mul_2 _ _) (tup_mul0 l its.toArray n dd sl t hi) ⟨ho, ?_⟩⟩)
    refine ⟨.ref s.heap.objs.size, _, I.laid (t' := s.toks) (o := .tup []) (fun b ob q => Heap.get?_push_of_some _ q) (Nat.le_refl _) ?_, rfl, q _ (I.hok.fresh (Nat.le_refl _))⟩
    exact ⟨Nat.zero_le _, [], .nil, IsTup.new _ _⟩
def rRepS : R2 := fun x y H Q => ∃ a k, x = .str a ∧ y = .int k ∧ 0 ≤ k ∧ k ≤ 1000 ∧ a.length ≤ 1000 ∧ Q (.str (Txt.mul a k)) H
theorem op_repS : OpR X (binaryOp .Mult) rRepS := by
  intro pins s σ H x y v u Q I rx ry h
  obtain ⟨a, k, rfl, rfl, h1, h2, h3, q⟩ := h
  obtain ⟨t, rfl⟩ := rx
  obtain ⟨t', rfl⟩ := ry
  exact SB.mul (mulOk_of 1000 1000 h3 (by omega) (by omega) (by decide) (by decide)) fun t'' k' => ⟨.str _, H, I.tok _, ⟨_, rfl⟩, q⟩
/-- x * y -/
def dMul (m : M) (x y : D) : Option D := match look m x, look m y with
  | .int i, .int j => if i.natAbs < 2 ^ 64 ∨ j.natAbs < 2 ^ 64 then some (.int (i * j)) else none
  | .str a, .int j => if 0 ≤ j ∧ j ≤ 1000 ∧ a.length ≤ 1000 then some (.str (Txt.mul a j)) else none
  | .tup ds, .int j => if 0 ≤ j ∧ j ≤ 1000 ∧ ds.length ≤ 1000 ∧ ds ≠ [] then some (.tup (List.replicate j.toNat ds).flatten) else none
  | .lst ds, .int j => if 0 ≤ j ∧ j ≤ 1000 ∧ ds.length ≤ 1000 then some (.lst (List.replicate j.toNat ds).flatten) else none
  | _, _ => none
theorem RepL.rep {K : PySem.W.Frag} {m : M} {H : Hp} {ds : List D} {vs : List V} (r : RepL K m H ds vs) : ∀ n : Nat, RepL K m H (List.replicate n ds).flatten (List.replicate n vs).flatten
  | 0 => .nil
  | n + 1 => by
    rw [List.replicate_succ, List.replicate_succ, List.flatten_cons, List.flatten_cons]
    exact r.append (r.rep n)
theorem do_mul : DOp X (binaryOp .Mult) dMul := by
  refine DOp.of (op_mul.or (op_repS.or (op_rep.or (op_repT01.or op_repT)))) fun x y m d v u H Q cx cy rx ry s e q => ?_
  unfold dMul at e
  generalize look m x = cX at cx e
  generalize look m y = cY at cy e
  split at e
  · split at e
    · rename_i hc; cases e
      rw [cont_int cx, cont_int cy]
      refine .inl ⟨_, _, rfl, rfl, ?_, q _ _ Fr.refl s rep_int⟩
      rcases hc with hc | hc
      · exact .inl (by omega)
      · exact .inr (by omega)
    · cases e
  · split at e
    · rename_i hc; cases e
      rw [cont_str cx, cont_int cy]
      exact .inr (.inl ⟨_, _, rfl, rfl, hc.1, hc.2.1, hc.2.2, q _ _ Fr.refl s rep_str⟩)
    · cases e
  · split at e
    · rename_i j hc; cases e
      rw [cont_int cy]
      obtain ⟨a, vs, rfl, ha, r1⟩ := cont_tup cx
      have l1 := r1.length
      have vne : vs ≠ [] := fun z => hc.2.2.2 (List.eq_nil_of_length_eq_zero (by rw [l1, z]; rfl))
      rcases (by omega : j = 0 ∨ j = 1 ∨ 2 ≤ j) with rfl | rfl | hj
      · refine .inr (.inr (.inr (.inl ⟨a, vs, rfl, tupAt_sq ha, vne, .inr ⟨rfl, fun p hp => q _ _ (Fr.laid s hp) (s.laid hp) ?_⟩⟩)))
        exact new_tup s hp .nil
      · refine .inr (.inr (.inr (.inl ⟨a, vs, rfl, tupAt_sq ha, vne, .inl ⟨rfl, q _ _ Fr.refl s ?_⟩⟩)))
        simp only [Rep]
        exact ⟨a, vs, rfl, ha, by simpa using r1⟩
      · exact .inr (.inr (.inr (.inr ⟨a, j, vs, rfl, rfl, tupAt_sq ha, vne, hj, hc.2.1, by omega, fun p hp => q _ _ (Fr.laid s hp) (s.laid hp) (new_tup s hp (r1.rep _))⟩)))
    · cases e
  · split at e
    · rename_i j hc; cases e
      rw [cont_int cy]
      obtain ⟨a, vs, rfl, ha, r1⟩ := cont_lst cx
      have l1 := r1.length
      refine .inr (.inr (.inl ⟨a, j, vs, rfl, rfl, ha, by omega, by omega, ?_, fun p hp => q _ _ (Fr.laid s hp) (s.laid hp) (new_lst s hp (r1.rep _))⟩))
      rw [sizeLine_eq]
      have a1 : vs.length * j.toNat ≤ 1000 * 1000 := Nat.mul_le_mul (by omega) (by omega)
      omega
    · cases e
  · cases e
end
end DL
/-! ### DL13: how many a set of keys has -/
namespace DL
open PySem PySem.Spec PyProof.Rows L2

def hasK (ks : List Key) (x : Key) : Bool := ks.any fun k => decide (x = k)
theorem hasK_iff {ks : List Key} {x : Key} : hasK ks x = true ↔ x ∈ ks := by
  unfold hasK
  rw [List.any_eq_true]
  constructor
  · rintro ⟨y, h, e⟩
    rw [of_decide_eq_true e]; exact h
  · intro h
    exact ⟨x, h, decide_eq_true rfl⟩
theorem hasK_snoc (ks : List Key) (y x : Key) : hasK (ks ++ [y]) x = (hasK ks x || decide (x = y)) := by
  unfold hasK; simp
theorem scan_of {k : Key} {u : Value} (r : RelV (kV k) u) : u.scannable = true := by
  cases k <;> (obtain ⟨t, rfl⟩ := r; rfl)
/-- how many unlike ones the first i keys are -/
def ndK (ks : List Key) : Nat → Nat
  | 0 => 0
  | i + 1 => ndK ks i + if hasK (ks.take i) (ks.getD i (.inl 0)) = true then 0 else 1
theorem ndK_le (ks : List Key) : ∀ i, ndK ks i ≤ i
  | 0 => Nat.le_refl _
  | i + 1 => by
    have := ndK_le ks i
    unfold ndK
    split <;> omega
theorem ndK_nodup {ks : List Key} (h : ks.Nodup) : ∀ i, i ≤ ks.length → ndK ks i = i
  | 0, _ => rfl
  | i + 1, hi => by
    have hlt : i < ks.length := hi
    have ih := ndK_nodup h i (Nat.le_of_lt hlt)
    have no : ¬ hasK (ks.take i) (ks.getD i (.inl 0)) = true := fun hm => by
      rw [hasK_iff] at hm
      rw [List.getD_eq_getElem?_getD, List.getElem?_eq_getElem hlt] at hm
      obtain ⟨j, hj, e⟩ := List.getElem_of_mem hm
      have hji : j < i := by rw [List.length_take] at hj; omega
      rw [List.getElem_take] at e
      exact absurd e (List.pairwise_iff_getElem.mp h j i (by omega) hlt hji)
    unfold ndK
    rw [if_neg no, ih]
section
variable {prog : Program} {w : World} {A : Around} {R : Result → Shared → Prop} {I : Addr} {fp wr : List Addr} {G : Array GenState → Array GenState → Prop} {n : Nat} {P : Nat → Value → Prop} {St : Nat → Shared → Prop}
theorem setOf_from {K : Type} [DecidableEq K] {knd : PySem.KeyKind prog w K} {h h' : Heap} {a : Addr} {S : K → Bool} {n : Nat} (q : h.SetOf knd a S n) (k : ∀ o, h.get? a = some o → h'.get? a = some o) : h'.SetOf knd a S n := by
  obtain ⟨o, es, ep, t, ho, r⟩ := q
  exact ⟨o, es, ep, t, k o ho, r⟩
theorem loopK (W : WalksS prog w A.in1 I fp wr G n P St) (S : Addr) (hS : S ∉ fp) (ks : List Key) (hn : n < 4000) (val : ∀ i v, P i v → RelV (kV (ks.getD i (.inl 0))) v) :
    ∀ (k i : Nat) (s : Shared), n - i = k → i ≤ n → St i s → s.heap.SetOf (mixKind prog w) S (hasK (ks.take i)) (ndK ks i) → n ≤ ks.length →
      (∀ s', Moved (S :: wr) G s s' → s'.heap.SetOf (mixKind prog w) S (hasK (ks.take n)) (ndK ks n) → R (.ok (.ret .none)) s') →
      codeAny (model prog w) A (.builtin "set.update.loop" ⟨[.ref S, .ref I], []⟩) R s := by
  have hSw : S ∉ wr := fun h => hS (W.sub _ h)
  have hsub : ∀ b ∈ wr, b ∈ S :: wr := fun b hb => List.mem_cons_of_mem _ hb
  intro k
  induction k with
  | zero =>
    intro i s hk hi st q hl fin
    obtain rfl : i = n := by omega
    refine codeAny_builtin PyProof.Rows.F.entry_set_update_loop ?_
    rw [Around.under_plainId PyProof.Rows.F.plain_set_update_loop _]
    show wpAny _ A.in1 (pyNext (.ref I) >>= _) _ _ s
    refine wpAny_bind (W.done s _ _ st fun s' m => ?_)
    show wpAny _ A.in1 (ret Value.none) _ _ s'
    exact wpAny_pure (fin s' (m.mono hsub) (setOf_from q fun o => m.heap S o hSw))
  | succ k ih =>
    intro i s hk hi st q hl fin
    have hlt : i < n := by omega
    refine codeAny_builtin PyProof.Rows.F.entry_set_update_loop ?_
    rw [Around.under_plainId PyProof.Rows.F.plain_set_update_loop _]
    show wpAny _ A.in1 (pyNext (.ref I) >>= _) _ _ s
    refine wpAny_bind (W.item i s _ _ hlt st fun v s' hv st' m => ?_)
    have rv := val i v hv
    have q1 := setOf_from q fun o => m.heap S o hSw
    show wpAny _ A.in1 (holding [v] (setAdd S v) >>= _) _ _ s'
    refine wpAny_bind (wpAny_holding ?_)
    unfold setAdd
    refine wpAny_holding (wpAny_bind ((mixKind prog w).pyHash (k := ks.getD i (.inl 0)) (kV_is rv) ?_))
    refine wpAny_setAddHashed_of (knd := mixKind prog w) (s := { s' with toks := s'.toks + 1 }) (kV_is rv) (scan_of rv) q1 (by have := ndK_le ks i; unfold scanBound; omega) fun h' sb q2 => ?_
    have q3 : h'.SetOf (mixKind prog w) S (hasK (ks.take (i + 1))) (ndK ks (i + 1)) := by
      have hl2 : i < ks.length := by omega
      have e : ks.take (i + 1) = ks.take i ++ [ks.getD i (.inl 0)] := by
        rw [List.take_add_one, List.getD_eq_getElem?_getD, List.getElem?_eq_getElem hl2] <;> rfl
      have e1 : hasK (ks.take (i + 1)) = fun x => hasK (ks.take i) x || decide (x = ks.getD i (.inl 0)) := by
        funext x; rw [e, hasK_snoc]
      have e2 : ndK ks (i + 1) = if hasK (ks.take i) (ks.getD i (.inl 0)) = true then ndK ks i else ndK ks i + 1 := by
        show ndK ks i + _ = _
        by_cases hm : hasK (ks.take i) (ks.getD i (.inl 0)) = true
        · rw [if_pos hm, if_pos hm, Nat.add_zero]
        · rw [if_neg hm, if_neg hm]
      rw [e1, e2]
      exact q2
    refine wpAny_pure ⟨plainId_quiet PyProof.Rows.F.plain_set_update_loop _, ih (i + 1) _ (by omega) hlt (W.frame _ s' _ _ st' (Nat.le_succ _) fun b hb o e => ?_) q3 hl fun s'' m2 q4 => ?_⟩
    · rw [sb.2 b (fun h : b = S => hS (by rw [← h]; exact hb))]; exact e
    · refine fin s'' (Moved.trans W.gtrans ((m.mono hsub).then_heap (Nat.le_succ _) fun b o hb e => ?_) m2) q4
      rw [sb.2 b (fun h : b = S => hb (by rw [h]; exact List.mem_cons_self))]; exact e
end
section
variable {prog : Program} {w : World} {A : Around} {E : Value → Shared → Prop} {s : Shared}
end
def emptySet (led : Bool) : Obj := { cls := .type "set", dict := none, data := .set #[] 0 (.fresh 0 0 led) }
section
variable {prog : Program} {w : World} {A : Around} {E : Value → Shared → Prop} {s : Shared}
set_option maxHeartbeats 3200000 in
theorem set_gen {l : Addr} {Mv : Shared → Prop} {Q : Value → Shared → Prop} (hh : A.handled = none)
    (hinit : ∀ (B : Around) (led : Bool), led = (!w.params.followText "set-order") → B.handled = none → codeAny (model prog w) B (.call (.builtin "set.__init__") ⟨[.ref s.heap.objs.size, .ref l], []⟩) (wants (fun r s' => r = .none ∧ Mv s') E) { s with heap := s.heap.push (emptySet led) })
    (h : ∀ s', Mv s' → Q (.ref s.heap.objs.size) s') : wpAny (model prog w) A (call (.type "set") [.ref l]) Q E s := by
  obtain ⟨c, tl, hmro⟩ := PySem.F.called_set.mro
  have hmade := PySem.F.called_set.made
  have hsub := PySem.F.called_set.sub
  refine wpAny_call (codeAny_of_tree ?_)
  show wpAny _ _ (callAny (.type "set") _) _ _ _
  refine wpAny_pure ⟨Code.quiet_builtin _ (by decide +kernel), codeAny_builtin PySem.F.entry_type_call ?_⟩
  rw [Around.under_plain (weight_type_call_type "set" [.ref l] []) rfl]
  have h1 := PySem.F.called_set.notType
  have h2 := PySem.F.called_set.canCreate
  have hct := PySem.F.typeCall_set_1 (.ref l)
  repeat (any_goals (first | assumption | wp_step))
  refine codeAny_mono (L2.code_set_led1 (.ref l) (E := E) (Q₁ := fun obj s1 => obj = .ref s.heap.objs.size ∧ s1 = { s with heap := s.heap.push (emptySet (!w.params.followText "set-order")) }) ⟨rfl, rfl⟩) fun r s1 hr => ?_
  cases r with
  | error e => exact hr
  | ok fl =>
    cases fl with
    | ret obj =>
      obtain ⟨rfl, rfl⟩ := hr
      generalize hled : (!w.params.followText "set-order") = led
      have hS : (s.heap.push (emptySet led)).get? s.heap.objs.size = some (emptySet led) := Heap.get?_push_size _ rfl
      have hT : Shared.TypeIs { s with heap := s.heap.push (emptySet led) } (.ref s.heap.objs.size) "set" := ⟨_, hS, rfl⟩
      have hli := PySem.F.called_set.init.lookup
      have hbi := PySem.F.called_set.init.bind (.ref s.heap.objs.size)
      repeat (any_goals (first | assumption | wp_step))
      refine codeAny_mono (hinit _ led hled.symm (by simp [hh])) fun r2 s2 hr2 => ?_
      cases r2 with
      | error e => exact hr2
      | ok fl2 =>
        cases fl2 with
        | ret r =>
          obtain ⟨rfl, hM⟩ := hr2
          repeat (any_goals (first | assumption | wp_step))
          exact h _ hM
        | _ => exact hr2.elim
    | _ => exact hr.elim
/-- set.__init__ of a new set with one list or tuple, down to the walk -/
theorem init_gen {B : Around} {l : Addr} {T : String} {R : Result → Shared → Prop} {led : Bool} {dd : Option Addr} {items : Array Value} {n : Nat} {sl : Array (Option Value)} {s : Shared} {S : Addr}
    (hS : s.heap.get? S = some (emptySet led)) (hl : s.heap.get? l = some { cls := .type T, dict := dd, data := .seq items n, slots := sl })
    (hsls : isSubtype (.type T) (.type "set") = pure false) (hslf : isSubtype (.type T) (.type "frozenset") = pure false) (hne : (Value.type T == Value.type "dict") = false)
    (h : wpAny (model prog w) B.in1 (pyIter (.ref l)) (fun it s' => wpAny (model prog w) B.in1 (runValue (.builtin "set.update.loop" ⟨[.ref S, it], []⟩)) (fun _ s2 => R (.ok (.ret .none)) s2) (fun e s2 => R (.error e) s2) s') (fun e s' => R (.error e) s') s) :
    codeAny (model prog w) B (.call (.builtin "set.__init__") ⟨[.ref S, .ref l], []⟩) R s := by
  have hT : Shared.TypeIs s (.ref S) "set" := ⟨_, hS, rfl⟩
  refine codeAny_call_builtin PySem.F.called_set.init.plain PySem.F.entry_set_init (check_set_init_1 hT ?_)
  unfold Builtin.«set.__init__» noKeywords Builtin.Frozenset.updateFrom
  generalize hPI : pyIter = PI
  wp_walk
  subst hPI
  refine wpAny_mono h (fun it s' q => wpAny_bind (wpAny_mono q (fun v s2 q2 => wpAny_pure (wpAny_pure q2)) fun _ _ e => e)) fun _ _ e => e
end
section
variable {prog : Program} {w : World} {A : Around} {E : Value → Shared → Prop} {s : Shared}
theorem vals_at : ∀ {ks : List Key} {us : List Value}, Vals (ks.map kV) us → ∀ (i : Nat) (v : Value), us[i]? = some v → RelV (kV (ks.getD i (.inl 0))) v
  | [], _, .nil, i, v, h => by simp at h
  | k :: ks, _, .cons r t, 0, v, h => by simp at h; subst h; exact r
  | k :: ks, _, .cons r t, i + 1, v, h => by
    simp only [List.getElem?_cons_succ] at h
    exact vals_at t i v h
/-- the walk of set(x) down to its loop, x a tuple of keys -/
theorem call_setT {l : Addr} {items : Array Value} {ks : List Key} {Q : Value → Shared → Prop} (hh : A.handled = none) (hl : s.heap.IsTuple l items) (hi : Vals (ks.map kV) items.toList) (hn : ks.length < 4000)
    (h : ∀ (h' : Heap) (tk : Nat), h'.SetOf (mixKind prog w) s.heap.objs.size (hasK (ks.take ks.length)) (ndK ks ks.length) → (∀ b o, b < s.heap.objs.size → s.heap.get? b = some o → h'.get? b = some o) → Q (.ref s.heap.objs.size) { s with heap := h', toks := tk }) :
    wpAny (model prog w) A (call (.type "set") [.ref l]) Q E s := by
  have hsz : ks.length = items.size := by
    have := hi.length
    rw [List.length_map, Array.length_toList] at this
    exact this
  refine set_gen (Mv := fun s' => ∃ h' tk, s' = { s with heap := h', toks := tk } ∧ h'.SetOf (mixKind prog w) s.heap.objs.size (hasK (ks.take ks.length)) (ndK ks ks.length) ∧ ∀ b o, b < s.heap.objs.size → s.heap.get? b = some o → h'.get? b = some o) hh (fun B led hled hB => ?_) (fun s' ⟨h', tk, e, hS, hk⟩ => by subst e; exact h h' tk hS hk)
  obtain ⟨⟨ocls, odict, odata, oslots⟩, hol, hcl, nl, hdl⟩ := hl
  simp only at hcl hdl
  subst hcl hdl
  have hS : (s.heap.push (emptySet led)).get? s.heap.objs.size = some (emptySet led) := Heap.get?_push_size _ rfl
  have hol' : (s.heap.push (emptySet led)).get? l = some { cls := .type "tuple", dict := odict, data := .seq items nl, slots := oslots } := Heap.get?_push_of_some _ hol
  have hl1 : (s.heap.push (emptySet led)).IsTuple l items := ⟨_, hol', rfl, nl, rfl⟩
  refine init_gen (s := { s with heap := s.heap.push (emptySet led) }) hS hol' PySem.F.sub_tuple_set PySem.F.sub_tuple_frozenset (by decide) ?_
  refine wpAny_pyIter_tuple hl1 (wpAny_runValue ?_)
  have hlS : l < s.heap.objs.size := Heap.lt_size hol
  have big : (s.heap.push (emptySet led)).objs.size = s.heap.objs.size + 1 := Heap.size_push _ _
  have hSf : s.heap.objs.size ∉ [(s.heap.push (emptySet led)).objs.size, l] := by
    rw [big]
    simp only [List.mem_cons, List.not_mem_nil, or_false, not_or]
    exact ⟨Nat.ne_of_lt (Nat.lt_succ_self _), Nat.ne_of_gt hlS⟩
  refine loopK (Walks.tuple (A := B.in1.in1) (by simp [hB]) _ l (by rw [big]; exact Nat.ne_of_lt (Nat.lt_succ_of_lt hlS)) items).toS s.heap.objs.size hSf ks (by omega) (fun i v hv => vals_at hi i v (by rw [Array.getElem?_toList]; exact hv))
    (items.size - 0) 0 _ (by omega) (Nat.zero_le _) ⟨⟨_, Heap.get?_push_size _ rfl, rfl, rfl⟩, hl1.push _⟩ ?_ (by omega) fun s' m q => ?_
  · have hg : ((s.heap.push (emptySet led)).push { cls := .type "tuple_iterator", data := .fields #[.ref l, .int 0 0] }).get? s.heap.objs.size = some (emptySet led) := Heap.get?_push_of_some _ hS
    have e0 : hasK (ks.take 0) = fun _ => false := by funext x; rfl
    rw [e0]
    exact ⟨_, #[], 0, _, hg, ⟨rfl, rfl, rfl⟩, rfl, (fun e he => by simp at he), (fun k => by simp), (by decide), (by rfl), rfl⟩
  · obtain ⟨h', g', d', tk', os'⟩ := s'
    have eg : g' = s.gens := m.gens
    have ed : d' = s.drawn := m.drawn
    have eo : os' = s.os := m.os
    subst eg ed eo
    rw [← hsz] at q
    refine ⟨rfl, h', tk', rfl, q, fun b o hb e => ?_⟩
    refine m.heap b o ?_ (Heap.get?_push_of_some _ (Heap.get?_push_of_some _ e))
    simp only [List.mem_cons, List.not_mem_nil, or_false, not_or]
    have := big
    exact ⟨Nat.ne_of_lt hb, by rw [big]; exact Nat.ne_of_lt (Nat.lt_succ_of_lt hb)⟩
end
section
variable {X : Cx} {a : Expr} {ta : DTE} {p p2 q pos : Pos}
/-- len(set(xs)), xs a tuple of keys -/
def tLenSet (ta : DTE) : DTE := fun env m Q => ta env m fun d m1 => ∃ ds ks, look m1 d = .tup ds ∧ keysOf ds = some ks ∧ ks.length < 4000 ∧ Q (.int (ndK ks ks.length)) m1
theorem de_lenSet (hc : X.calm = true) (hm : X.mg "len" = none) (hm2 : X.mg "set" = none) (ha : DE X a ta) (hg : Gl X "len" := by rfl) (hg2 : Gl X "set" := by rfl)
    (na : starEach [a] X.env = (false, eval a X.env) :: starEach [] X.env := by rfl) : DE X (.Call (.Name "len" p) [.Call (.Name "set" p2) [a] [] q] [] pos) (tLenSet ta) := by
  refine ⟨⟨fun pins s σ H Q I h => ?_⟩⟩
  obtain ⟨env, m, R, eo, sm, h, k⟩ := h
  have h0 : liftE X.K ta σ H (fun x H1 => ∃ (l : Addr) (ks : List Key), x = .ref l ∧ SqT X.K H1 l (ks.map kV) ∧ ks.length < 4000 ∧ Q (.int (ndK ks ks.length)) H1) := by
    refine ⟨env, m, _, eo, sm, h, fun d m1 v H1 h1 f1 s1 r1 => ?_⟩
    obtain ⟨ds, ks, e1, e2, hz, h1⟩ := h1
    have cc := cont_of s1 r1
    rw [e1] at cc
    obtain ⟨l, vs, rfl, hp, r2⟩ := cont_tup cc
    have e3 := keysOf_eq e2
    subst e3
    have e4 := repL_kV r2
    subst e4
    exact ⟨l, ks, rfl, tupAt_sq hp, hz, k _ m1 _ H1 h1 f1 s1 rep_int⟩
  refine Call_ (ld_blt I hg hm boot_len ?_)
  refine PyProof.Rows.callWith_builtin1 (PyProof.Rows.args_cons ?_ rfl) rfl rfl
  refine Call_ (ld_blt I hg2 hm2 boot_set ?_)
  refine PyProof.Rows.callWith_type1 (PyProof.Rows.args_cons (thn (ha.run.run pins s σ H _ I h0) fun v s1 ⟨x, H1, I1, r1, q1⟩ => PyProof.Rows.args_nil ?_) na) na rfl
  obtain ⟨l, ks, rfl, hq, hz, q1⟩ := q1
  cases r1
  obtain ⟨its, r, pl, hz2⟩ := I1.tuple hq
  refine call_setT (I1.ok.hd hc) pl (by simpa using r) hz fun h' tk hS hk => PyProof.Rows.args_nil ?_
  obtain ⟨o, es, ep, t, ho, hex, hd, _, _, _, hf, hn⟩ := hS
  have I2 : Inv X pins σ H1 { s1 with heap := h', toks := tk } := I1.kept fun b o e => hk b o (Heap.lt_size e) e
  have := ndK_le ks ks.length
  exact call_len_set ho hex hd hf (by rw [hn]; omega) ⟨.int _, H1, I2.tok _, ⟨_, by rw [hn]⟩, q1⟩
end
end DL
/-! ### DL14: repr, isinstance -/
namespace DL
open PySem PySem.Spec PyProof.Rows L2
section
variable {X : Cx} {pos : Pos}
theorem de_bty {x : Str} {T : String} (hm : X.mg x = none) (hv : bootBuiltins x = some (.type T)) (hg : Gl X x := by rfl) (hn : x ≠ "__name__" := by decide) (hd : (x == ("__debug__" : Str)) = false := by decide) : DE X (.Name x pos) (tK (.ty T)) :=
  de_c (pe_bltn (v := .ty T) hg hm hv rfl hn hd) fun m H => by simp only [Rep]
/-- repr of lists, tuples -/
def dRepr : D → Option D
  | .lst ds => if dat 60 (.lst ds) = true ∧ (toPd (.lst ds)).showable = true ∧ (toPd (.lst ds)).shown.length ≤ sizeLine then some (.str (toPd (.lst ds)).shown) else none
  | .tup ds => if dat 60 (.tup ds) = true ∧ (toPd (.tup ds)).showable = true ∧ (toPd (.tup ds)).shown.length ≤ sizeLine then some (.str (toPd (.tup ds)).shown) else none
  | _ => none
theorem call_reprD (hg : X.A.guards = some []) (hu : X.A.units + 65 < cLine) : CallR X (.builtin "repr") (fun xs H Q => ∃ a d, xs = [.ref a] ∧ Dp X.K H (.ref a) d ∧ SeqAt.shaped d = true ∧ d.depth ≤ 60 ∧ d.hasDict = false ∧ d.showable = true ∧ d.shown.length ≤ sizeLine ∧ Q (.str d.shown) H) := by
  intro pins s σ H xs us Q I r h
  obtain ⟨a, d, rfl, hd, sh, dp, nd, hs, hz, q⟩ := h
  obtain rfl := Vals.ref1 r
  obtain ⟨as, r1⟩ := Dp.reads I d (.ref a) (.ref a) hd rfl
  refine repr_of_reads' r1 hs (PyData.noDict_hsm nd) hg (by omega) (fun _ _ e => e) (fun h' u tk hk => ?_) hz
  exact ⟨.str _, H, I.kept (t' := tk) hk, ⟨_, rfl⟩, q⟩
theorem dc_repr (hg : X.A.guards = some []) (hu : X.A.units + 65 < cLine) : DCall X (.builtin "repr") (d1 dRepr) := dc_1 (call_reprD hg hu) fun c m d v H Q cc s e q => by
  have main : ∀ c, dat 60 c = true → (toPd c).showable = true → (toPd c).shown.length ≤ sizeLine → d = .str (toPd c).shown → Cont X.K m H c v → (∃ a, v = .ref a) → ∃ a d, [v] = [V.ref a] ∧ Dp X.K H (.ref a) d ∧ SeqAt.shaped d = true ∧ d.depth ≤ 60 ∧ d.hasDict = false ∧ d.showable = true ∧ d.shown.length ≤ sizeLine ∧ Q (.str d.shown) H := by
    rintro c h1 h2 h3 rfl cc ⟨a, rfl⟩
    obtain ⟨l1, l2⟩ := dat_lay 60 c h1
    exact ⟨a, toPd c, rfl, cont_dp s h1 cc, dat_shaped (by decide) h1, l2, PyData.hasDict_of_canLay _ l1, h2, h3, q _ _ Fr.refl s rep_str⟩
  unfold dRepr at e
  split at e
  · split at e
    · rename_i hc; cases e
      exact main _ hc.1 hc.2.1 hc.2.2 rfl cc (by obtain ⟨a, vs, e, _⟩ := cont_lst cc; exact ⟨a, e⟩)
    · cases e
  · split at e
    · rename_i hc; cases e
      exact main _ hc.1 hc.2.1 hc.2.2 rfl cc (by obtain ⟨a, vs, e, _⟩ := cont_tup cc; exact ⟨a, e⟩)
    · cases e
  · cases e

/-! isinstance -/
abbrev Ty := Sum String Addr
def tyD : D → Option Ty
  | .non => some (.inl "NoneType")
  | .bl _ => some (.inl "bool")
  | .int _ => some (.inl "int")
  | .str _ => some (.inl "str")
  | .tup _ => some (.inl "tuple")
  | .lst _ => some (.inl "list")
  | .scr _ => some (.inl "list")
  | .dic _ _ => some (.inl "dict")
  | .ins C _ _ => some (.inr C)
  | _ => none
def clD : D → Option Ty
  | .ty n => some (.inl n)
  | .ref C => some (.inr C)
  | _ => none
def valT : Ty → Value
  | .inl n => .type n
  | .inr C => .ref C
structure InsT (K : PySem.W.Frag) (C : Addr) : Prop where
  cl : Cls K C
  ha : PySem.W.findIn K (.ref C) "__class__" = some (some (.builtin "object.__class__"))
  hn : PySem.W.specialIn K (.builtin "object.__class__") "__get__" = some (some (.builtin "getset_descriptor.__get__"))
  htk : PySem.W.takesIn K (.builtin "object.__class__") = some true
  hm : PySem.W.mroIn K C (.type "object") = some true
theorem cont_ty {K : PySem.W.Frag} {m : M} {H : Hp} {c : D} {v : V} {t : Ty} (cc : Cont K m H c v) (e : tyD c = some t) (hi : ∀ C, t = .inr C → InsT K C) : TyX K H v (valT t) := by
  unfold tyD at e
  split at e
  · cases e; rw [cont_non cc]; exact .base .non
  · cases e; rw [cont_bl cc]; exact .base (.bl _)
  · cases e; rw [cont_int cc]; exact .base (.int _)
  · cases e; rw [cont_str cc]; exact .base (.str _)
  · cases e
    obtain ⟨a, vs, rfl, h, _⟩ := cont_tup cc
    rcases h with ⟨_, h⟩ | ⟨o, its, n, h1, h2, _⟩
    · exact .base (.tup h)
    · exact .kTuple h1 h2
  · cases e
    obtain ⟨a, vs, rfl, h, _⟩ := cont_lst cc
    exact .base (.lst h)
  · cases e
    obtain ⟨a, rfl, h⟩ := cont_scr cc
    rcases h with (h | ⟨o, h⟩) | ⟨o, its, n, h1, h2, _⟩
    · exact .base (.lst h)
    · exact .base (.frz h)
    · exact .kList h1 h2
  · cases e
    obtain ⟨a, vs, rfl, ⟨kvs, (h | ⟨o, h⟩), _⟩, _⟩ := cont_dic cc
    · exact .base (.dK h)
    · exact .fDict h
  · cases e
    obtain ⟨a, dx, fs, rfl, h, _⟩ := cc
    have i := hi _ rfl
    exact .base (.ins h i.cl i.ha i.hn i.htk i.hm)
  · cases e
def dIsi (J : Ty → Ty → Option Bool) (m : M) : List D → Option D
  | [x, c] => match tyD (look m x), clD (look m c) with
    | some t, some u => (J t u).map .bl
    | _, _ => none
  | _ => none
def JOk (K : PySem.W.Frag) (J : Ty → Ty → Option Bool) : Prop := ∀ t u b, J t u = some b → PySem.W.kitOne K (valT t) (valT u) = some b ∧ ∀ C, t = .inr C → InsT K C
theorem dc_isi {J : Ty → Ty → Option Bool} (hJ : JOk X.K J) : DCall X (.builtin "isinstance") (dIsi J) := callW call_isi fun vs H Q ⟨ds, m, d, r, s, e, q⟩ => by
  unfold dIsi at e
  split at e
  · simp only [RepL] at r
    obtain ⟨v1, r', rfl, h1, v2, r2, rfl, h2, rfl⟩ := r
    split at e
    · rename_i t u e1 e2
      obtain ⟨b, eb, rfl⟩ := Option.map_eq_some_iff.mp e
      obtain ⟨k1, k2⟩ := hJ t u b eb
      have c1 := cont_ty (cont_of s h1) e1 k2
      have c2 := cont_of s h2
      refine ⟨v1, v2, valT t, valT u, b, rfl, ?_, c1, k1, q _ _ Fr.refl s rep_bl⟩
      unfold clD at e2
      split at e2
      · rename_i e3; cases e2
        rw [e3] at c2
        simp only [Cont, Rep] at c2
        rw [c2]; exact .ty _
      · rename_i e3; cases e2
        rw [e3] at c2
        simp only [Cont, Rep] at c2
        rw [c2]; exact .own _
      · cases e2
    · cases e
  · cases e
/-- built-in types alone -/
def JB : Ty → Ty → Option Bool
  | .inl a, .inl b => kitB a b
  | _, _ => none
theorem jb_ok {K : PySem.W.Frag} : JOk K JB := fun t u b e => by
  unfold JB at e
  split at e
  · exact ⟨kit_ty e, fun C z => nomatch z⟩
  · cases e
theorem kb_str_str : kitB "str" "str" = some true := by decide +kernel
theorem kb_tup_str : kitB "tuple" "str" = some false := by decide +kernel
theorem kb_lst_str : kitB "list" "str" = some false := by decide +kernel
theorem kb_int_str : kitB "int" "str" = some false := by decide +kernel
theorem kb_bl_str : kitB "bool" "str" = some false := by decide +kernel
theorem kb_non_str : kitB "NoneType" "str" = some false := by decide +kernel
theorem kb_tup_tup : kitB "tuple" "tuple" = some true := by decide +kernel
theorem kb_str_tup : kitB "str" "tuple" = some false := by decide +kernel
theorem kb_lst_tup : kitB "list" "tuple" = some false := by decide +kernel
theorem kb_int_tup : kitB "int" "tuple" = some false := by decide +kernel
theorem kb_bl_tup : kitB "bool" "tuple" = some false := by decide +kernel
theorem kb_non_tup : kitB "NoneType" "tuple" = some false := by decide +kernel
end
end DL
/-! ### DL15: calls by names of parameters -/
namespace DL
open PySem PySem.Spec PyProof.Rows L2

def permL {α : Type} (is : List Nat) (xs : List α) : List α := is.filterMap fun i => xs[i]?
theorem permL_vals {vs : List V} {us : List Value} (r : Vals vs us) : ∀ is : List Nat, Vals (permL is vs) (permL is us)
  | [] => .nil
  | i :: is => by
    have ih := permL_vals r is
    unfold permL at ih ⊢
    rw [List.filterMap_cons, List.filterMap_cons]
    cases e : vs[i]? with
    | none =>
      have : us[i]? = none := by
        rw [List.getElem?_eq_none_iff] at e ⊢
        rw [← r.length]; exact e
      rw [this]; exact ih
    | some v =>
      obtain ⟨u, hu, ru⟩ := r.get e
      rw [hu]; exact .cons ru ih
theorem permL_rep {K : PySem.W.Frag} {m : M} {H : Hp} {ds : List D} {vs : List V} (r : RepL K m H ds vs) : ∀ is : List Nat, RepL K m H (permL is ds) (permL is vs)
  | [] => .nil
  | i :: is => by
    have ih := permL_rep r is
    unfold permL at ih ⊢
    rw [List.filterMap_cons, List.filterMap_cons]
    cases e : ds[i]? with
    | none =>
      have : vs[i]? = none := by
        rw [List.getElem?_eq_none_iff] at e ⊢
        rw [← r.length]; exact e
      rw [this]; exact ih
    | some d =>
      obtain ⟨v, hv, rv⟩ := r.get e
      rw [hv]; exact .cons rv ih
/-- a promise for calls with n values by position and these names behind -/
def FnGK (P : Program) (w : World) (K : PySem.W.Frag) (mg : Str → Option Value) (base : Heap) (CX : CXT) (k : Nat) (f : Addr) (n : Nat) (ks : List Str) (is : List Nat) (sp : Sp) : Prop :=
  ∀ (A : Around) (outer : List PySem.Env) (s : Shared) (H : Hp) (us ws : List Value) (vs zs : List V) (Q : VK) (E : XK), RoomG k A → Env0 P w K mg base A outer s H → Vals vs us → Vals zs ws → vs.length = n → zs.length = ks.length → sp (permL is (vs ++ zs)) H Q E →
    codeAny (model P w) A (.call (.ref f) ⟨us, ks.zip ws⟩) (CR CX outer P w H s Q E) s
theorem FnGK.imp {P : Program} {w : World} {K : PySem.W.Frag} {mg : Str → Option Value} {base : Heap} {CX : CXT} {k : Nat} {f : Addr} {n : Nat} {ks : List Str} {is : List Nat} {sp sp' : Sp} (F : FnGK P w K mg base CX k f n ks is sp) (h : ∀ vs H Q E, sp' vs H Q E → sp vs H Q E) : FnGK P w K mg base CX k f n ks is sp' :=
  fun A outer s H us ws vs zs Q E hr e0 rv rz ln lz q => F A outer s H us ws vs zs Q E hr e0 rv rz ln lz (h _ _ _ _ q)
theorem fn_mkK {P : Program} {w : World} {K : PySem.W.Frag} {mg : Str → Option Value} {base : Heap} {x qual : Str} {st : Stmt} {f : Addr} {fd : FuncData} {N ps ks : List Str} {is : List Nat} {n k : Nat} {sp : DSp} {t : DTS} (F : Fun K x qual st f fd) (S : FnScope N ps (defScope st))
    (hb : ∀ (kV doc pm : Value) (an : Option Addr) (cdv ct : Value) (us ws : List Value), us.length = n → ws.length = ks.length → bindArgs (PySem.W.fnOf x qual (defArgs st) (defBody st) (defScope st) .none kV doc pm an cdv ct) ⟨us, ks.zip ws⟩ = pure (ps.zip (permL is (us ++ ws))))
    (hn : ∀ ds m R, sp ds m R → ds.length = ps.length)
    (hbody : ∀ (cdv : Value) (A : Around) (outer : List PySem.Env) (s : Shared) (H : Hp) (E : XK), RoomG k (A.deeper (envOfC qual (defScope st) s.heap.objs.size f cdv)) → DSs (cxOf CX0 P w K mg base N qual (defScope st) f cdv A outer s H E).nox (defBody st) t)
    (hsp : ∀ ds m R, sp ds m R → t (startD N.length ds) m (bodyEnds R)) : FnGK P w K mg base CX0 (k + 1) f n ks is (liftSp K sp) := by
  obtain ⟨oc, od, kV, doc, pm, an, cdv, ct, osl, rfl, lk, hcd⟩ := F.ex
  intro A outer s H us ws vs zs Q E hr e0 rv rz ln lz ⟨ds, m, R, r, sm, q, kq⟩
  have hb1 := hb kV doc pm an cdv ct us ws (by rw [← rv.length]; exact ln) (by rw [← rz.length]; exact lz)
  have rp := permL_vals (rv.append rz) is
  have hl : (permL is (vs ++ zs)).length = ps.length := by rw [← r.length]; exact hn _ _ _ q
  refine StX.run_bnd lk hcd S hr.r e0 (G := fun xs H2 => xs = permL is (vs ++ zs) ∧ H2 = H) (fun A' Ex Q' h => ?_) fun s2 H2 xs g hr' => ?_
  · rw [hb1]
    exact wpAny_pure (h s H _ _ e0 Un.refl rfl (fun _ _ z => z) rp hl ⟨rfl, rfl⟩)
  · obtain ⟨rfl, rfl⟩ := g
    exact ⟨_, (hbody cdv A outer s2 _ E ⟨hr', hr.g⟩).run.nox, body_lift r sm (hsp _ _ _ q) kq⟩
structure CalMK (X : Cx) (C : Addr) (m : Str) (k : Nat) (n : Nat) (ks : List Str) (is : List Nat) (sp : DSp) : Prop where
  ex : ∃ f, Meth X.K C m f ∧ FnGK X.prog X.w X.K X.mg X.base CX0 k f n ks is (liftSp X.K sp)
structure CalFK (X : Cx) (x : Str) (k : Nat) (n : Nat) (ks : List Str) (is : List Nat) (sp : DSp) : Prop where
  ex : ∃ f, X.mg x = some (.ref f) ∧ PySem.W.keepIn X.K (.ref f) = true ∧ FnGK X.prog X.w X.K X.mg X.base CX0 k f n ks is (liftSp X.K sp)
structure DK_ (X : Cx) (kws : List Keyword) (t : DTA) : Prop where run : PK X kws (liftA X.K t)
section
variable {X : Cx} {k n : Nat} {ks : List Str} {is : List Nat} {sp : DSp} {C : Addr} {x m : Str} {nm : Option Str} {kpos p pos apos : Pos} {e o : Expr} {kws : List Keyword} {te ta : DTE} {t : DTA}
theorem PK.weak {t t' : TA} (h : PK X kws t) (k : ∀ σ H Q, t' σ H Q → t σ H Q) : PK X kws t' := ⟨fun pos pins s σ H Q I q => h.run pos pins s σ H Q I (k σ H Q q)⟩
theorem dk_nil : DK_ X [] tA0 := ⟨PK.weak pk_nil fun σ H Q h => by
  obtain ⟨env, m, R, eo, s, h, k⟩ := h
  exact k [] m [] H h Fr.refl s .nil⟩
theorem dk_cons (ha : DE X e te) (hr : DK_ X kws t) : DK_ X (⟨nm, e, kpos⟩ :: kws) (tAC te t) := ⟨PK.weak (pk_cons ha.run hr.run) fun σ H Q h => by
  obtain ⟨env, m, R, eo, s, h, k⟩ := h
  refine ⟨env, m, _, eo, s, h, fun d m1 v H1 h1 f1 s1 r1 => ?_⟩
  refine ⟨env, m1, _, eo.mono f1, s1, h1, fun ds m2 vs H2 h2 f2 s2 r2 => ?_⟩
  exact k (d :: ds) m2 (v :: vs) H2 h2 (f1.trans f2) s2 (.cons (Rep.mono f2 _ _ r1) r2)⟩
theorem run_fnGK {pins : List (Addr × Obj)} {σ : L2.St} {H : Hp} {s : Shared} {CX : CXT} {f : Addr} {sp : Sp} {E : XK} {Q : VK} {us ws : List Value} {vs zs : List V} (F : FnGK X.prog X.w X.K X.mg X.base CX k f n ks is sp) (hr : RoomG k X.A) (hx : Passes CX X E) (I : Inv X pins σ H s) (r : Vals vs us) (rz : Vals zs ws)
    (ln : vs.length = n) (lz : zs.length = ks.length) (q : sp (permL is (vs ++ zs)) H Q E) : wpAny (model X.prog X.w) X.A (call (.ref f) us (ks.zip ws)) (EP X pins σ Q) X.xe s := wpAny_call (
  codeAny_mono (F X.A X.stack s H us ws vs zs Q E hr I.env0 r rz ln lz q) fun res s' h => match res, h with
    | .error e, h => hx pins σ H s e s' I h
    | .ok (.ret u), h => I.after h
    | .ok .next, h => h.elim
    | .ok .brk, h => h.elim
    | .ok .cont, h => h.elim)
/-- o.m(x = .., ..) -/
def tMtK (C : Addr) (m : Str) (ks : List Str) (is : List Nat) (sp : DSp) (ta : DTE) (t : DTA) : DTE := fun env st Q => ta env st fun o m1 => ∃ ns vs, look m1 o = .ins C ns vs ∧ m ∉ ns ∧ t env m1 fun ds m2 => ds.length = ks.length ∧ sp (permL is (o :: ds)) m2 Q
theorem de_methK {pl : Sem Bool} (c : CalMK X C m k 1 ks is sp) (hc : Cls X.K C) (hr : RoomG k X.A) (ho : DE X o ta) (ha : DK_ X kws t) (hall : (backToKw pos (keywordEach kws X.env)).all (·.1.isSome) = true := by rfl) (hks : (backToKw pos (keywordEach kws X.env)).filterMap (·.1) = ks := by rfl)
    (hpl : ((backTo pos (starEach [] X.env)).any (·.1) || (backToKw pos (keywordEach kws X.env)).any (·.1.isNone)) = false := by rfl)
    (ht : eval (.Call (.Attribute o m apos) [] kws pos) X.env = (do
      let ov ← eval o X.env
      standAt apos.atName
      let (f, first) ← holding [ov] (getMethod ov m pl)
      callWith pos f first (backTo pos (starEach [] X.env)) (backToKw pos (keywordEach kws X.env))) := by rfl) :
    DE X (.Call (.Attribute o m apos) [] kws pos) (tMtK C m ks is sp ta t) := by
  obtain ⟨f, hm, F⟩ := c.ex
  refine ⟨⟨fun pins s σ H Q I h => ?_⟩⟩
  obtain ⟨env, mm, R, eo, sm, h, kq⟩ := h
  have h0 : liftE X.K ta σ H (fun x H1 => ∃ a dx fs, x = .ref a ∧ H1 a = some (.ins C dx fs) ∧ fs.lookup m = none ∧ liftA X.K t σ H1 fun zs H2 => zs.length = ks.length ∧ liftSp X.K sp (permL is (.ref a :: zs)) H2 Q E0) := by
    refine ⟨env, mm, _, eo, sm, h, fun d m1 v H1 h1 f1 s1 r1 => ?_⟩
    obtain ⟨ns, vs, e1, hn, h1⟩ := h1
    have cc := cont_of s1 r1
    rw [e1] at cc
    obtain ⟨a, dx, fs, rfl, h2, rfl, r2⟩ := cc
    refine ⟨a, dx, fs, rfl, h2, lookup_none hn, env, m1, _, eo.mono f1, s1, h1, fun ds m2 ws H2 h3 f2 s2 r3 => ?_⟩
    obtain ⟨hl, h3⟩ := h3
    refine ⟨by rw [← r3.length]; exact hl, permL is (d :: ds), m2, R, permL_rep (.cons (Rep.mono f2 _ _ r1) r3) is, s2, h3, fun d' m' v H' a1 a2 a3 a4 => kq d' m' v H' a1 ((f1.trans f2).trans a2) a3 a4⟩
  refine PySem.W.methodCall_KW (pl := pl) (thn (ho.run.run pins s σ H _ I h0) fun u s1 hx1 => ?_) ht
  obtain ⟨x, H1, I1, rx, a, dx, fs, rfl, ea, l, q⟩ := hx1
  obtain rfl : u = Value.ref a := rx
  refine getmeth_ok I1 ea hc hm l (PySem.W.callWith_KW0 (first := [.ref a]) (h₀ := X.base) I.ok.mod.kin hm.kp hall (thn (ha.run.run pos pins s1 σ H1 _ I1 q) fun us s2 hx2 => ?_) hpl)
  obtain ⟨zs, H2, I2, r, hl, q2⟩ := hx2
  rw [hks]
  exact ⟨I2.kIn, run_fnGK (us := [.ref a]) (vs := [.ref a]) F hr pass0 I2 (.cons rfl .nil) r rfl hl q2⟩
end
end DL
/-! ### DL16: what a module's top has made -/
namespace DL
open PySem PySem.Spec PyProof.Rows L2
theorem RoomG.hu {k : Nat} {A : Around} (r : RoomG k A) : A.units + 65 < cLine := by
  have := r.r.un
  omega
section
variable {X : Cx} {e : Expr} {te : DTE} {pos : Pos}
/-- -x -/
def tNeg (te : DTE) : DTE := fun env m Q => te env m fun d m1 => ∃ i, look m1 d = .int i ∧ Q (.int (-i)) m1
theorem de_neg (he : DE X e te) : DE X (.UnaryOp .USub e pos) (tNeg te) := ⟨PE.weak (pe_un un_neg he.run) fun σ H Q h => by
  obtain ⟨env, m, R, eo, s, h, k⟩ := h
  refine ⟨env, m, _, eo, s, h, fun d m1 v H1 h1 f1 s1 r1 => ?_⟩
  obtain ⟨i, e1, h1⟩ := h1
  have cc := cont_of s1 r1
  rw [e1] at cc
  exact ⟨i, cont_int cc, k _ m1 _ H1 h1 f1 s1 rep_int⟩⟩
/-- list(x), to be changed -/
def tListM (te : DTA) : DTE := fun env m Q => te env m fun xs m1 => ∃ x ds, xs = [x] ∧ dList (look m1 x) = some (.lst ds) ∧ ∀ p, m1 p = none → Q (.ref p) (updM m1 p (.lst ds))
theorem de_listM {p : Pos} {t : DTA} (hc : X.calm = true) (hm : X.mg "list" = none) (ha : DA X [e] t) (hg : Gl X "list" := by rfl)
    (he : starEach [e] X.env = (false, eval e X.env) :: starEach [] X.env := by rfl) (hpl : (backTo pos (starEach [] X.env)).any (·.1) = false := by rfl) : DE X (.Call (.Name "list" p) [e] [] pos) (tListM t) :=
  ⟨PE.weak (pe_callTy (call_list_of.or (call_listD hc)) hg hm (by decide +kernel) ha.run (by decide) (by decide) he hpl) fun σ H Q h => by
    obtain ⟨env, m, R, eo, s, h, k⟩ := h
    refine ⟨env, m, _, eo, s, h, fun xs m1 vs H1 h1 f1 s1 r1 => ?_⟩
    obtain ⟨x, ds, rfl, e1, h1⟩ := h1
    obtain ⟨v, rfl, r2⟩ := repL1 r1
    have cc := cont_of s1 r2
    generalize look m1 x = c at cc e1
    unfold dList at e1
    split at e1
    · cases e1
      obtain ⟨q, vs, rfl, hp, r⟩ := cont_lst cc
      exact .inl ⟨q, vs, rfl, .inl (.of hp), fun l hl => k _ _ _ _ (h1 l (s1.free hl)) (f1.trans (Fr.laidM s1 hl)) (new_lstM s1 hl r) rep_ref⟩
    · cases e1
      obtain ⟨q, vs, rfl, hp, r⟩ := cont_tup cc
      exact .inl ⟨q, vs, rfl, .inr (tupAt_sq hp), fun l hl => k _ _ _ _ (h1 l (s1.free hl)) (f1.trans (Fr.laidM s1 hl)) (new_lstM s1 hl r) rep_ref⟩
    · cases e1
      obtain ⟨q, vs, rfl, ⟨kvs, hd, rfl, rfl⟩, r⟩ := cont_dic cc
      exact .inr ⟨q, kvs, rfl, hd, fun l hl => k _ _ _ _ (h1 l (s1.free hl)) (f1.trans (Fr.laidM s1 hl)) (new_lstM s1 hl (repL_keys kvs)) rep_ref⟩
    · cases e1⟩
end
section
variable {X : Cx} {elt tg iter : Expr} {ifs : List Expr} {pos : Pos}
theorem ds_setLcF {j : Nat} {y : Str} {py spos : Pos} {scope : Scope} {own : List (Str × Nat)} {ti : DTI} {g : Tgt} {tt : DTT} {te : DTE} (hi : DI X tg iter ti) (ok : BlkOk X.N X.env.scope scope own) (hN : X.N.Nodup) (hc : X.calm = true)
    (hg : ∀ (s : Shared) (H : Hp) (C : Addr) (cl : List (Str × Addr)) (fp : List Addr), DGt (Blk X scope s H C cl fp) tg g) (ht : ∀ (s : Shared) (H : Hp) (C : Addr) (cl : List (Str × Addr)) (fp : List Addr), DTs (Blk X scope s H C cl fp) ifs tt)
    (he : ∀ (s : Shared) (H : Hp) (C : Addr) (cl : List (Str × Addr)) (fp : List Addr), DE (Blk X scope s H C cl fp) elt te)
    (hsw : swapsWith (.ListComp elt [⟨tg, iter, ifs, 0⟩] scope pos) (some (.Name y py)) spos.line X.env = pure true) (hv : ∀ i ∈ g.ix, i ∈ own.map (·.2) := by decide) (hy : X.N[j]? = some y := by rfl) (hyl : X.env.scope.names.lookup y = some .local := by rfl)
    (hs : ∀ x, foldedSetIterable iter X.env x = pure x := by intro _; rfl) :
    DS X (.Assign [.Name y py] (.ListComp elt [⟨tg, iter, ifs, 0⟩] scope pos) spos) (tSet j (tFrz (tLcM ti g tt te (own.map (·.2))))) := ds_setLc hi ok hN hc hg ht he true hsw hv hy hyl hs
theorem ds_setLcM {j : Nat} {y : Str} {py spos : Pos} {scope : Scope} {own : List (Str × Nat)} {ti : DTI} {g : Tgt} {tt : DTT} {te : DTE} (hi : DI X tg iter ti) (ok : BlkOk X.N X.env.scope scope own) (hN : X.N.Nodup) (hc : X.calm = true)
    (hg : ∀ (s : Shared) (H : Hp) (C : Addr) (cl : List (Str × Addr)) (fp : List Addr), DGt (Blk X scope s H C cl fp) tg g) (ht : ∀ (s : Shared) (H : Hp) (C : Addr) (cl : List (Str × Addr)) (fp : List Addr), DTs (Blk X scope s H C cl fp) ifs tt)
    (he : ∀ (s : Shared) (H : Hp) (C : Addr) (cl : List (Str × Addr)) (fp : List Addr), DE (Blk X scope s H C cl fp) elt te)
    (hsw : swapsWith (.ListComp elt [⟨tg, iter, ifs, 0⟩] scope pos) (some (.Name y py)) spos.line X.env = pure true) (hv : ∀ i ∈ g.ix, i ∈ own.map (·.2) := by decide) (hy : X.N[j]? = some y := by rfl) (hyl : X.env.scope.names.lookup y = some .local := by rfl)
    (hs : ∀ x, foldedSetIterable iter X.env x = pure x := by intro _; rfl) :
    DS X (.Assign [.Name y py] (.ListComp elt [⟨tg, iter, ifs, 0⟩] scope pos) spos) (tSet j (tLcM ti g tt te (own.map (·.2)))) := ds_setLc hi ok hN hc hg ht he false hsw hv hy hyl hs
end
/-! facts of the top, apart from the frame -/
/-- the module's constant x is d -/
def GV (K : PySem.W.Frag) (mg : Str → Option Value) (x : Str) (d : D) : Prop := ∃ u v, mg x = some u ∧ RelV v u ∧ ∀ m H, Rep K m H d v
theorem de_gv {X : Cx} {x : Str} {d : D} {pos : Pos} (h : GV X.K X.mg x d) (hg : Gl X x := by rfl) (hd : (x == ("__debug__" : Str)) = false := by decide) : DE X (.Name x pos) (tK d) := by
  obtain ⟨u, v, h1, h2, h3⟩ := h
  exact de_glob h1 h2 h3 hg hd
theorem gv_int {K : PySem.W.Frag} {mg : Str → Option Value} {x : Str} {i : Int} {t : Tok} (h : mg x = some (.int i t)) : GV K mg x (.int i) := ⟨_, .int i, h, ⟨_, rfl⟩, fun m H => rep_int⟩
theorem gv_str {K : PySem.W.Frag} {mg : Str → Option Value} {x : Str} {i : Str} {t : Tok} (h : mg x = some (.str i t)) : GV K mg x (.str i) := ⟨_, .str i, h, ⟨_, rfl⟩, fun m H => rep_str⟩
theorem gv_ref {K : PySem.W.Frag} {mg : Str → Option Value} {x : Str} {C : Addr} (h : mg x = some (.ref C)) : GV K mg x (.ref C) := ⟨_, .ref C, h, rfl, fun m H => rep_ref⟩
inductive StrVals : List Str → List Value → Prop
  | nil : StrVals [] []
  | cons {x : Str} {t : Tok} {xs : List Str} {us : List Value} (h : StrVals xs us) : StrVals (x :: xs) (.str x t :: us)
theorem StrVals.vals : ∀ {xs : List Str} {us : List Value}, StrVals xs us → Vals (xs.map V.str) us
  | _, _, .nil => .nil
  | _, _, .cons h => .cons ⟨_, rfl⟩ h.vals
theorem gv_strs {K : PySem.W.Frag} {mg : Str → Option Value} {x : Str} {a : Addr} {dd : Option Addr} {its : Array Value} {n : Nat} {sl : Array (Option Value)} {xs : List Str} (h : mg x = some (.ref a)) (l : K.lookup a = some ⟨.type "tuple", dd, .seq its n, sl⟩) (hz : its.size ≤ sizeLine) (hv : StrVals xs its.toList) : GV K mg x (.tup (xs.map .str)) :=
  ⟨_, .ref a, h, rfl, fun m H => by simp only [Rep]; exact ⟨a, _, rfl, .inr ⟨_, its, n, l, rfl, rfl, hz, hv.vals⟩, RepL.map_str xs⟩⟩
section
variable (P : Program) (w : World) (K : PySem.W.Frag) (mg : Str → Option Value) (base : Heap)
def CalW (x : Str) (k : Nat) (sp : DSp) : Prop := ∃ f, mg x = some (.ref f) ∧ PySem.W.keepIn K (.ref f) = true ∧ FnG P w K mg base CX0 k f (liftSp K sp)
def CalMW (C : Addr) (m : Str) (k : Nat) (sp : DSp) : Prop := ∃ f, Meth K C m f ∧ FnG P w K mg base CX0 k f (liftSp K sp)
def CalCW (C : Addr) (k : Nat) (sp : DSp) : Prop := ∃ f, Mk K C f ∧ FnG P w K mg base CX0 k f (liftSp K sp)
def CalKW (C : Addr) (m : Str) (k : Nat) (sp : DSp) : Prop := ∃ mc p g, ClX.CRead K C mc ∧ ClX.CMet K C mc m p g ∧ FnG P w K mg base CX0 k g (liftSp K sp)
def CalMKW (C : Addr) (m : Str) (k : Nat) (n : Nat) (ks : List Str) (is : List Nat) (sp : DSp) : Prop := ∃ f, Meth K C m f ∧ FnGK P w K mg base CX0 k f n ks is (liftSp K sp)
end
/-- what is mutable may be forgotten at the end -/
def dropR (R : DK) : DK := fun d m => ∃ m', (∀ b, m' b = m b ∨ m' b = none) ∧ R d m'
theorem dropR.self {R : DK} {d : D} {m : M} (h : R d m) : dropR R d m := ⟨m, fun b => .inl rfl, h⟩
def dropSp (sp : DSp) : DSp := fun ds m R => sp ds m (dropR R)
theorem lift_drop {K : PySem.W.Frag} {sp : DSp} : ∀ vs H Q E, liftSp K (dropSp sp) vs H Q E → liftSp K sp vs H Q E := fun vs H Q E ⟨ds, m, R, r, s, q, k⟩ => by
  refine ⟨ds, m, dropR R, r, s, q, fun d m' v H' h f s' rv => ?_⟩
  obtain ⟨m2, hm, h⟩ := h
  have f2 : Fr m' H' m2 H' := fun a u n hu => ⟨by rcases hm a with e | e <;> rw [e]; exact n, u, hu, .inl rfl⟩
  refine k d m2 v H' h (f.trans f2) (fun a d0 e => ?_) (Rep.mono f2 _ _ rv)
  rcases hm a with z | z
  · rw [z] at e
    exact (s' a d0 e).mono f2 fun u hu => hu
  · rw [z] at e; cases e
/-- the promise of a def by its reading -/
def spOf0 (n N : Nat) (t : DTS) : DSp := fun ds m R => ds.length = n ∧ t (startD N ds) m (bodyEnds R)
def spOf (n N : Nat) (t : DTS) : DSp := dropSp (spOf0 n N t)
end DL
/-! ### DL17: for the readings: loops by invariants, stores -/
namespace DL
open PySem PySem.Spec PyProof.Rows

theorem forD_inv {g : Tgt} {tb : DTS} {E : DEnds} {ds : List D} {env : Env} {m : M} (I : Nat → Env → M → Prop) (h0 : I 0 env m)
    (step : ∀ (i : Nat) (d : D) (env : Env) (m : M) (N : Env → M → Prop), ds[i]? = some d → I i env m → (∀ env m, I (i + 1) env m → N env m) → tgD g d env m fun env' m' => tb env' m' { E with nx := N, ct := N, bk := E.nx })
    (done : ∀ env m, I ds.length env m → E.nx env m) : forD g tb E ds env m := by
  have main : ∀ (k i : Nat) (env : Env) (m : M), ds.length - i = k → i ≤ ds.length → I i env m → forD g tb E (ds.drop i) env m := by
    intro k
    induction k with
    | zero =>
      intro i env m hk hi h
      obtain rfl : i = ds.length := by omega
      rw [List.drop_length]
      exact done env m h
    | succ k ih =>
      intro i env m hk hi h
      have hlt : i < ds.length := by omega
      rw [List.drop_eq_getElem_cons hlt]
      exact step i ds[i] env m _ (by simp [hlt]) h fun env' m' h' => ih (i + 1) env' m' (by omega) hlt h'
  exact main _ 0 env m rfl (Nat.zero_le _) h0
theorem lcD_inv {p : Addr} {g : Tgt} {tt : DTT} {te : DTE} {env : Env} {Q : M → Prop} {ds : List D} {m : M} (I : Nat → List D → M → Prop) (h0 : I 0 [] m)
    (step : ∀ (i : Nat) (acc : List D) (d : D) (m : M) (N : M → Prop), ds[i]? = some d → I i acc m → (∀ acc m, I (i + 1) acc m → N m) → tgD g d env m fun env' m' => tt env' m' fun b m2 => if b = true then te env' m2 fun y m3 => ∃ acc, m3 p = some (.lst acc) ∧ acc.length < sizeLine ∧ N (updM m3 p (.lst (acc ++ [y]))) else N m2)
    (done : ∀ acc m, I ds.length acc m → Q m) : lcD p g tt te env Q ds m := by
  have main : ∀ (k i : Nat) (acc : List D) (m : M), ds.length - i = k → i ≤ ds.length → I i acc m → lcD p g tt te env Q (ds.drop i) m := by
    intro k
    induction k with
    | zero =>
      intro i acc m hk hi h
      obtain rfl : i = ds.length := by omega
      rw [List.drop_length]
      exact done acc m h
    | succ k ih =>
      intro i acc m hk hi h
      have hlt : i < ds.length := by omega
      rw [List.drop_eq_getElem_cons hlt]
      exact step i acc ds[i] m _ (by simp [hlt]) h fun acc' m' h' => ih (i + 1) acc' m' (by omega) hlt h'
  exact main _ 0 [] m rfl (Nat.zero_le _) h0
theorem updM_over {m : M} {a : Addr} {d d' : D} : updM (updM m a d) a d' = updM m a d' := updM_upd
theorem delM_upd {m : M} {a : Addr} {d : D} (h : m a = none) : delM (updM m a d) a = m := by
  funext b
  unfold delM updM
  by_cases e : b = a
  · subst e; simp [h]
  · simp [e]
theorem updM_comm {m : M} {a b : Addr} {d e : D} (h : a ≠ b) : updM (updM m a d) b e = updM (updM m b e) a d := by
  funext c
  unfold updM
  by_cases h1 : c = a
  · by_cases h2 : c = b
    · exact absurd (h1.symm.trans h2) h
    · simp [h1, h]
  · simp [h1]
theorem updM_self {m : M} {a : Addr} {d : D} (h : m a = some d) : updM m a d = m := by
  funext b
  unfold updM
  by_cases e : b = a
  · subst e; simp [h]
  · simp [e]
/-- a comprehension that changes nothing, frozen -/
theorem lc_pure {ti : DTI} {g : Tgt} {tt : DTT} {te : DTE} {vs : List Nat} {env : Env} {m : M} {Q : DK} {ds : List D} (F : D → Option D) (hi : ∀ R : List D → M → Prop, R ds m → ti env m R) (hl : ds.length < sizeLine)
    (step : ∀ (d : D) (m1 : M) (R : Bool → DK), d ∈ ds → (∃ p acc, m p = none ∧ m1 = updM m p (.lst acc)) → (∀ y, F d = some y → R true y m1) → (F d = none → R false .non m1) →
      tgD g d (wipeD env vs) m1 fun env' m' => tt env' m' fun b m2 => if b = true then te env' m2 (R true) else R false .non m2)
    (hQ : Q (.lst (ds.filterMap F)) m) : tFrz (tLcM ti g tt te vs) env m Q := by
  refine hi _ fun p hp => ?_
  refine lcD_inv (ds := ds) (fun i acc m' => m' = updM m p (.lst acc) ∧ acc = (ds.take i).filterMap F) ⟨rfl, by simp⟩ (fun i acc d m' N hd ⟨hm, ha⟩ hN => ?_) fun acc m' h => ?_
  · subst hm
    have hmem : d ∈ ds := List.mem_of_getElem? hd
    have hlt : i < ds.length := by
      rcases Nat.lt_or_ge i ds.length with z | z
      · exact z
      · rw [List.getElem?_eq_none z] at hd; cases hd
    have hacc : acc.length ≤ i := by
      rw [ha]
      exact Nat.le_trans (List.length_filterMap_le _ _) (by rw [List.length_take]; omega)
    have et : ds.take (i + 1) = ds.take i ++ [d] := by
      rw [List.take_add_one, hd] <;> rfl
    have := step d _ (fun b y m3 => if b = true then ∃ acc, m3 p = some (.lst acc) ∧ acc.length < sizeLine ∧ N (updM m3 p (.lst (acc ++ [y]))) else N m3) hmem ⟨p, acc, hp, rfl⟩ (fun y e => ?_) fun e => ?_
    · simpa using this
    · simp only [if_true]
      refine ⟨acc, updM_same, by omega, hN (acc ++ [y]) _ ⟨by rw [updM_over], ?_⟩⟩
      rw [et, List.filterMap_append, ha]
      simp [e]
    · simp only [Bool.false_eq_true, if_false]
      refine hN acc _ ⟨rfl, ?_⟩
      rw [et, List.filterMap_append, ha]
      simp [e]
  · obtain ⟨rfl, h⟩ := h
    rw [List.take_length] at h
    subst h
    refine ⟨_, updM_same, ?_⟩
    rw [delM_upd hp]
    exact hQ
theorem dEqB_nil {ds : List D} (h : datL 59 ds = true) : dEqB (.lst ds) (.lst []) = some (decide (ds = [])) := by
  unfold dEqB
  simp only [dat, h, datL]
  cases ds with
  | nil => simp [eqvD, toPd, toPdL]; rfl
  | cons d ds => simp [eqvD, toPd, toPdL]; rfl
theorem datL_ints (n : Nat) (cells : List Int) : datL n (cells.map .int) = true := by
  rw [datL_all]
  simp [dat]
end DL
/-! ### DL18: texts by their signs, values -/
namespace DL
open PySem PySem.Spec PyProof.Rows
open SX (S S_len S_cat S_inj S_tl)

theorem str_S (x : Str) : x = S x.cps.toList := (S_tl x).symm
theorem cutS_to {a : List Nat} {i : Int} (h : 0 ≤ i) : L2.cutS (S a) none (some i) = S (a.take i.toNat) := by rw [C8.cutS_slice, SX.slice_to h]
theorem cutS_from {a : List Nat} {i : Int} (h : 0 ≤ i) : L2.cutS (S a) (some i) none = S (a.drop i.toNat) := by rw [C8.cutS_slice, SX.slice_from h]
theorem join_one (cs : List Nat) : Txt.join (S []) (cs.map fun c => S [c]) = S cs := by
  have e : (cs.map fun c => S [c]) = (cs.map fun c => [c]).map S := by rw [List.map_map]; rfl
  rw [e, SX.join_S]
  congr 1
  induction cs with
  | nil => rfl
  | cons c cs ih =>
    cases cs with
    | nil => rfl
    | cons d cs =>
      have ih' : TL.joinL [] (List.map (fun c => [c]) (d :: cs)) = d :: cs := by
        refine ih ?_
        rw [List.map_map]; rfl
      show [c] ++ ([] ++ TL.joinL [] (List.map (fun c => [c]) (d :: cs))) = _
      rw [ih']; rfl
theorem in_one_S (a : List Nat) (c : Nat) : strIn (S [c]) (S a) = decide (c ∈ a) := SX.in_one a c
theorem cut_to {α : Type} {xs : List α} {i : Int} (h : 0 ≤ i) : cutD xs none (some i) = xs.take i.toNat := by
  unfold cutD HT.sIx
  simp only [if_neg (by omega : ¬ i < 0), List.drop_zero, Nat.sub_zero]
  rw [Nat.min_comm]
  rcases Nat.le_total xs.length i.toNat with z | z
  · rw [Nat.min_eq_left z, List.take_length, List.take_of_length_le z]
  · rw [Nat.min_eq_right z]
theorem cut_from {α : Type} {xs : List α} {i : Int} (h : 0 ≤ i) : cutD xs (some i) none = xs.drop i.toNat := by
  unfold cutD HT.sIx
  simp only [if_neg (by omega : ¬ i < 0)]
  rcases Nat.le_total xs.length i.toNat with z | z
  · rw [Nat.min_eq_right z, Nat.sub_self, List.take_zero, List.drop_of_length_le z]
  · rw [Nat.min_eq_left z, List.take_of_length_le (by rw [List.length_drop]; omega)]
theorem cut_but {α : Type} {xs : List α} : cutD xs none (some (-1)) = xs.dropLast := by
  unfold cutD HT.sIx
  simp only [if_pos (by decide : (-1 : Int) < 0), List.drop_zero, Nat.sub_zero]
  rw [List.dropLast_eq_take]
  congr 1
  omega
theorem atI_pos {α : Type} {xs : List α} {i : Int} {x : α} (h0 : 0 ≤ i) (h : xs[i.toNat]? = some x) : L2.atI xs i = some x := by
  unfold L2.atI L2.ixN
  have hlt : i.toNat < xs.length := by
    rcases Nat.lt_or_ge i.toNat xs.length with z | z
    · exact z
    · rw [List.getElem?_eq_none z] at h; cases h
  rw [if_pos h0, if_pos (by omega)]
  exact h
theorem atI_last {α : Type} {xs : List α} {x : α} (h : xs.getLast? = some x) : L2.atI xs (-1) = some x := by
  have hl : xs ≠ [] := by rintro rfl; cases h
  have hp : 0 < xs.length := List.length_pos_iff.mpr hl
  unfold L2.atI L2.ixN
  rw [if_neg (by decide), if_pos (by omega)]
  rw [List.getLast?_eq_getElem?] at h
  have e : ((-1 : Int) + (xs.length : Int)).toNat = xs.length - 1 := by omega
  show xs[_]? = _
  rw [e]; exact h
theorem mem_getElem? {α : Type} {xs : List α} {i : Int} (h0 : 0 ≤ i) (h1 : i < xs.length) : ∃ x, xs[i.toNat]? = some x ∧ x ∈ xs := by
  have hlt : i.toNat < xs.length := by omega
  exact ⟨xs[i.toNat], List.getElem?_eq_getElem hlt, List.getElem_mem hlt⟩
theorem dIx_lst {m : M} {x y : D} {ds : List D} {i : Int} {d : D} (hx : look m x = .lst ds) (hy : look m y = .int i) (h : L2.atI ds i = some d) : dIx m x y = some d := by
  unfold dIx; rw [hx]; simp only [hy]; exact h
theorem dIx_tup {m : M} {x y : D} {ds : List D} {i : Int} {d : D} (hx : look m x = .tup ds) (hy : look m y = .int i) (h : L2.atI ds i = some d) : dIx m x y = some d := by
  unfold dIx; rw [hx]; simp only [hy]; exact h
theorem dIx_S {m : M} {x y : D} {a : List Nat} {i : Int} {c : Nat} (hx : look m x = .str (S a)) (hy : look m y = .int i) (hz : a.length ≤ sizeLine) (h : L2.atI a i = some c) : dIx m x y = some (.str (S [c])) := by
  unfold dIx; rw [hx]; simp only [hy]
  rw [if_pos (by rw [S_len]; exact hz)]
  show (L2.atI a i).map _ = _
  rw [h]; rfl
theorem dIx_dic {m : M} {x y : D} {ks vs : List D} {k : L2.Key} {d : D} (hx : look m x = .dic ks vs) (hy : keyOf y = some k) (h : dlook ks vs k = some d) : dIx m x y = some d := by
  unfold dIx; rw [hx]; simp only [hy]; exact h
/-- eqvD of texts -/
theorem eqvD_str (a b : Str) : eqvD (.str a) (.str b) = decide (a = b) := by
  show (PyData.eqv (.str a) (.str b)) = _
  simp only [PyData.eqv]
  by_cases e : a = b
  · subst e; simp
  · simp only [e, decide_false]
    exact beq_eq_false_iff_ne.mpr e
theorem dInB_strs {m : M} {y : D} {x : Str} {xs : List Str} (hy : look m y = .lst (xs.map .str) ∨ look m y = .tup (xs.map .str)) : dInB m (.str x) y = some (decide (x ∈ xs)) := by
  have hf : (flatD (.str x) = true ∧ (xs.map D.str).all flatD = true) := ⟨rfl, by rw [List.all_map]; simp [flatD]⟩
  have he : ((xs.map D.str).any fun y => eqvD y (.str x)) = decide (x ∈ xs) := by
    rw [List.any_map]
    clear hf hy
    induction xs with
    | nil => rfl
    | cons z zs ih =>
      rw [List.any_cons, ih]
      show (eqvD (.str z) (.str x) || _) = _
      rw [eqvD_str]
      by_cases e : z = x
      · subst e; simp
      · have e' : x ≠ z := fun q => e q.symm
        simp [e, e']
  unfold dInB
  rcases hy with hy | hy <;> rw [hy] <;> simp only <;> rw [if_pos (.inl hf), he]
end DL
/-! ### DL19: dicts by texts -/
namespace DL
open PySem PySem.Spec PyProof.Rows
def alook : List (Str × D) → Str → Option D
  | [], _ => none
  | e :: r, x => if e.1 = x then some e.2 else alook r x
def dicA (al : List (Str × D)) : D := .dic (al.map fun e => .str e.1) (al.map (·.2))
theorem dlook_al : ∀ (al : List (Str × D)) (x : Str), dlook (al.map fun e => .str e.1) (al.map (·.2)) (.inr x) = alook al x
  | [], x => rfl
  | e :: r, x => by
    show (if keyOf (.str e.1) = some (.inr x) then some e.2 else dlook (r.map fun e => .str e.1) (r.map (·.2)) (.inr x)) = (if e.1 = x then some e.2 else alook r x)
    rw [dlook_al r x]
    by_cases h : e.1 = x
    · rw [if_pos h, if_pos (by rw [h]; rfl)]
    · rw [if_neg h, if_neg (fun z => h (by simp only [keyOf, Option.some.injEq] at z; exact Sum.inr.inj z))]
theorem alook_mem : ∀ {al : List (Str × D)} {x : Str}, x ∈ al.map (·.1) → ∃ d, alook al x = some d ∧ (x, d) ∈ al
  | e :: r, x, h => by
    by_cases hx : e.1 = x
    · exact ⟨e.2, if_pos hx, by rw [← hx]; exact List.mem_cons_self⟩
    · rw [List.map_cons, List.mem_cons] at h
      obtain ⟨d, h1, h2⟩ := alook_mem (h.resolve_left fun z => hx z.symm)
      exact ⟨d, (if_neg hx).trans h1, List.mem_cons_of_mem _ h2⟩
theorem alook_none : ∀ {al : List (Str × D)} {x : Str}, x ∉ al.map (·.1) → alook al x = none
  | [], x, h => rfl
  | e :: r, x, h => by
    rw [List.map_cons, List.mem_cons, not_or] at h
    exact (if_neg fun z => h.1 z.symm).trans (alook_none h.2)
theorem alook_append : ∀ {al bl : List (Str × D)} {x : Str}, alook (al ++ bl) x = (alook al x).or (alook bl x)
  | [], bl, x => rfl
  | e :: r, bl, x => by
    show (if e.1 = x then some e.2 else alook (r ++ bl) x) = _
    rw [alook_append]
    show _ = (if e.1 = x then some e.2 else alook r x).or _
    split <;> rfl
theorem any_isKey_al : ∀ (al : List (Str × D)) (x : Str), (al.map fun e => D.str e.1).any (isKey (.inr x)) = decide (x ∈ al.map (·.1))
  | [], x => rfl
  | e :: r, x => by
    rw [List.map_cons, List.any_cons, any_isKey_al r x, List.map_cons]
    have : isKey (.inr x) (.str e.1) = decide (e.1 = x) := by
      unfold isKey
      simp only [keyOf, Option.some.injEq]
      by_cases h : e.1 = x
      · rw [h]; simp
      · have : ¬ (Sum.inr e.1 : L2.Key) = Sum.inr x := fun z => h (Sum.inr.inj z)
        simp [h, this]
    rw [this]
    by_cases h : e.1 = x
    · simp [h]
    · have h' : x ≠ e.1 := fun z => h z.symm
      simp [h, h']
theorem dput_new {al : List (Str × D)} {x : Str} {d : D} (h : x ∉ al.map (·.1)) : D.dic (dputK (al.map fun e => .str e.1) (.inr x)) (dputV (al.map fun e => .str e.1) (al.map (·.2)) (.inr x) d) = dicA (al ++ [(x, d)]) := by
  have e := any_isKey_al al x
  have e2 : ¬ (al.map fun e => D.str e.1).any (isKey (.inr x)) = true := by rw [e]; simpa using h
  unfold dputK dputV dicA
  rw [if_neg e2, if_neg e2, List.map_append, List.map_append]
  rfl
theorem dInB_dic {m : M} {y : D} {x : Str} {al : List (Str × D)} (hy : look m y = dicA al) : dInB m (.str x) y = some (alook al x).isSome := by
  unfold dInB
  rw [hy]
  show (keyOf (.str x)).map _ = _
  simp only [keyOf, Option.map_some]
  rw [dlook_al]
theorem dIx_al {m : M} {y x : D} {z : Str} {al : List (Str × D)} {d : D} (hy : look m y = dicA al) (hx : x = .str z) (h : alook al z = some d) : dIx m y x = some d := by
  subst hx
  exact dIx_dic hy rfl (by rw [dlook_al]; exact h)
/-- a display with two keys -/
theorem two_keys : keysOf [D.str ("error" : Str), D.str ("vacant" : Str)] = some [.inr ("error" : Str), .inr ("vacant" : Str)] := rfl
end DL
/-! ### DL20: sorted(set(xs)), xs a list of texts -/
namespace DL
open PySem PySem.Spec PyProof.Rows L2
open PySem.Froz (SD sObj addTx tailTx TxOk)
/-- a set of the texts l that can be walked -/
structure TxR (P : Program) (w : World) (D : SD) (l : List Str) : Prop where
  ok : TxOk P w D l
  nd : l.Nodup
  ris : L2.Ris D.2.2.place.toList
  led : w.params.followText "set-order" = true ∨ D.2.2.led = true
section
variable {P : Program} {w : World} {A : Around} {E : Value → Shared → Prop} {s : Shared}
theorem tail_rl {ep : Nat} {es1 : Array (Int × Value)} {t2 : SetTable} {b : Bool} (r : L2.Ris t2.place.toList) : L2.Ris (tailTx ep es1 t2 b).2.2.place.toList ∧ (tailTx ep es1 t2 b).2.2.led = t2.led := by
  unfold tailTx
  split
  · exact ⟨L2.relayAll_ris _ _ _, L2.relayAll_led _ _ _⟩
  · exact ⟨r, rfl⟩
theorem TxR.add {D : SD} {l : List Str} {k : Str} (u : Tok) (R : TxR P w D l) (hk : k ∉ l) : TxR P w (addTx (hashStr w k) (.str k u) D) (k :: l) := by
  have r1 := L2.layNew_ris D.2.2 D.1 (hashStr w k) (.str k u) R.ris
  have l1 := L2.layNew_led D.2.2 D.1 (hashStr w k) (.str k u)
  have r2 : L2.Ris (if (layNew D.2.2 D.1 (hashStr w k) (.str k u)).2.1.plain = true then { (layNew D.2.2 D.1 (hashStr w k) (.str k u)).2.1 with plain := false } else (layNew D.2.2 D.1 (hashStr w k) (.str k u)).2.1).place.toList := by
    split <;> exact r1
  have l2 : (if (layNew D.2.2 D.1 (hashStr w k) (.str k u)).2.1.plain = true then { (layNew D.2.2 D.1 (hashStr w k) (.str k u)).2.1 with plain := false } else (layNew D.2.2 D.1 (hashStr w k) (.str k u)).2.1).led = D.2.2.led := by
    split <;> exact l1
  have t := tail_rl (ep := D.2.1) (es1 := (layNew D.2.2 D.1 (hashStr w k) (.str k u)).1) (b := (layNew D.2.2 D.1 (hashStr w k) (.str k u)).2.2.1) r2
  exact ⟨PySem.Froz.add_ok u R.ok, List.nodup_cons.mpr ⟨hk, R.nd⟩, t.1, R.led.imp id fun z => by
    show (tailTx _ _ _ _).2.2.led = true
    rw [t.2, l2]; exact z⟩
/-- a text that is there already -/
theorem add_old {a : Addr} {T : String} {D : SD} {l : List Str} {k : Str} {u : Tok} {Q : Bool → Shared → Prop} (ho : s.heap.get? a = some (sObj T D)) (F : TxOk P w D l) (hk : k ∈ l) (hb : l.length + 1 < scanBound)
    (h : Q false s) : wpAny (model P w) A (setAddHashed a (.str k u) (hashStr w k)) Q E s := by
  obtain ⟨es, ep, t⟩ := D
  have hd : (sObj T (es, ep, t)).data = .set es ep t := rfl
  have hf : t.fits es.size = true := F.fit
  have hel : ElemsOf (PySem.strKind P w) es.toList := F.el
  have hsz : es.size = l.length := F.sz
  have hb0 : es.size < scanBound := by omega
  have hkey : (PySem.strKind P w).is k (.str k u) = true := PySem.Froz.is_str k u
  unfold setAddHashed setAddHashedIn
  refine wpAny_holding (wpAny_bind (wpAny_setState_of ho hd hf ?_))
  dsimp only
  rw [byScan_of rfl hb0 hel]
  simp only [↓reduceIte]
  unfold setAddByScan
  refine wpAny_bind ?_
  refine wpAny_bind (wpAny_rule ?_)
  refine wpAny_bind (wpAny_setScan_of (knd := PySem.strKind P w) (k := k) hkey ho hd hf hel ?_)
  cases hr : List.findIdx? (fun e => (PySem.strKind P w).is k e.2) es.toList with
  | some j =>
    dsimp only
    exact wpAny_pure (wpAny_pure h)
  | none =>
    obtain ⟨e, he, hp⟩ := (F.mem k).mp hk
    have := List.findIdx?_eq_none_iff.mp hr e he
    rw [hp] at this; cases this
end
section
variable {prog : Program} {w : World} {A : Around} {R : Result → Shared → Prop} {I : Addr} {fp wr : List Addr} {G : Array GenState → Array GenState → Prop} {n : Nat} {Pv : Nat → Value → Prop} {St : Nat → Shared → Prop}
theorem loopT (W : WalksS prog w A.in1 I fp wr G n Pv St) (S : Addr) (hS : S ∉ fp) (xs : List Str) (hn : n < 4000) (hlx : n ≤ xs.length) (val : ∀ i v, Pv i v → ∃ t x, xs[i]? = some x ∧ v = .str x t) :
    ∀ (k i : Nat) (s : Shared) (D : SD) (l : List Str), n - i = k → i ≤ n → St i s → s.heap.get? S = some (sObj "set" D) → TxR prog w D l → (∀ x, x ∈ l ↔ x ∈ xs.take i) → l.length ≤ i →
      (∀ s' D' l', Moved (S :: wr) G s s' → s'.heap.get? S = some (sObj "set" D') → TxR prog w D' l' → (∀ x, x ∈ l' ↔ x ∈ xs.take n) → l'.length ≤ n → R (.ok (.ret .none)) s') →
      codeAny (model prog w) A (.builtin "set.update.loop" ⟨[.ref S, .ref I], []⟩) R s := by
  have hSw : S ∉ wr := fun h => hS (W.sub _ h)
  have hsub : ∀ b ∈ wr, b ∈ S :: wr := fun b hb => List.mem_cons_of_mem _ hb
  intro k
  induction k with
  | zero =>
    intro i s D l hk hi st q T mem ln fin
    obtain rfl : i = n := by omega
    refine codeAny_builtin PyProof.Rows.F.entry_set_update_loop ?_
    rw [Around.under_plainId PyProof.Rows.F.plain_set_update_loop _]
    show wpAny _ A.in1 (pyNext (.ref I) >>= _) _ _ s
    refine wpAny_bind (W.done s _ _ st fun s' m => ?_)
    show wpAny _ A.in1 (ret Value.none) _ _ s'
    exact wpAny_pure (fin s' D l (m.mono hsub) (m.heap S _ hSw q) T mem ln)
  | succ k ih =>
    intro i s D l hk hi st q T mem ln fin
    have hlt : i < n := by omega
    refine codeAny_builtin PyProof.Rows.F.entry_set_update_loop ?_
    rw [Around.under_plainId PyProof.Rows.F.plain_set_update_loop _]
    show wpAny _ A.in1 (pyNext (.ref I) >>= _) _ _ s
    refine wpAny_bind (W.item i s _ _ hlt st fun v s' hv st' m => ?_)
    obtain ⟨t, x, hx, rfl⟩ := val i v hv
    have q1 := m.heap S _ hSw q
    have etk : xs.take (i + 1) = xs.take i ++ [x] := by
      rw [List.take_add_one, hx] <;> rfl
    show wpAny _ A.in1 (holding [Value.str x t] (setAdd S (.str x t)) >>= _) _ _ s'
    refine wpAny_bind (wpAny_holding ?_)
    unfold setAdd
    refine wpAny_holding (wpAny_bind ((PySem.strKind prog w).pyHash (k := x) (PySem.Froz.is_str x t) ?_))
    have room : l.length + 1 < scanBound := by unfold scanBound; omega
    by_cases hm : x ∈ l
    · refine add_old (s := { s' with toks := s'.toks + 1 }) q1 T.ok hm room ?_
      refine wpAny_pure ⟨plainId_quiet PyProof.Rows.F.plain_set_update_loop _, ih (i + 1) _ D l (by omega) hlt (W.frame _ s' s'.heap _ st' (Nat.le_succ _) fun b hb o e => e) q1 T (fun y => ?_) (by omega) fun s'' D' l' m2 q4 T4 mem4 ln4 => ?_⟩
      · rw [etk, List.mem_append, List.mem_singleton, mem y]
        constructor
        · exact .inl
        · rintro (h | rfl)
          · exact h
          · exact (mem y).mp hm
      · exact fin s'' D' l' (Moved.trans W.gtrans ((m.mono hsub).then_heap (Nat.le_succ _) fun b o hb e => e) m2) q4 T4 mem4 ln4
    · refine PySem.Froz.add_x (s := { s' with toks := s'.toks + 1 }) q1 T.ok hm room ?_
      have sb := Heap.SameBut.update s'.heap S (fun _ => sObj "set" (addTx (hashStr w x) (.str x t) D))
      refine wpAny_pure ⟨plainId_quiet PyProof.Rows.F.plain_set_update_loop _, ih (i + 1) _ (addTx (hashStr w x) (.str x t) D) (x :: l) (by omega) hlt (W.frame _ s' _ _ st' (Nat.le_succ _) fun b hb o e => ?_) (PySem.Froz.get_upd _ q1 rfl) (T.add t hm) (fun y => ?_) (by rw [List.length_cons]; omega) fun s'' D' l' m2 q4 T4 mem4 ln4 => ?_⟩
      · rw [sb.2 b (fun h : b = S => hS (by rw [← h]; exact hb))]; exact e
      · rw [etk, List.mem_append, List.mem_singleton, List.mem_cons, mem y]
        exact or_comm
      · refine fin s'' D' l' (Moved.trans W.gtrans ((m.mono hsub).then_heap (Nat.le_succ _) fun b o hb e => ?_) m2) q4 T4 mem4 ln4
        rw [sb.2 b (fun h : b = S => hb (by rw [h]; exact List.mem_cons_self))]; exact e
end
section
variable {prog : Program} {w : World} {A : Around} {E : Value → Shared → Prop} {s : Shared}
theorem vals_str : ∀ {xs : List Str} {us : List Value} {i : Nat} {v : Value}, Vals (xs.map V.str) us → us[i]? = some v → ∃ t x, xs[i]? = some x ∧ v = .str x t
  | [], _, i, v, .nil, h => by simp at h
  | x :: xs, _, 0, v, .cons r t, h => by
    simp at h; subst h
    obtain ⟨u, rfl⟩ := r
    exact ⟨u, x, rfl, rfl⟩
  | x :: xs, _, i + 1, v, .cons r t, h => by
    simp only [List.getElem?_cons_succ] at h ⊢
    exact vals_str t h
/-- .. x a list of texts: a set that can be walked -/
theorem call_setL {l : Addr} {items : Array Value} {xs : List Str} {Q : Value → Shared → Prop} (hh : A.handled = none) (hl : s.heap.IsList l items) (hi : Vals (xs.map V.str) items.toList) (hn : xs.length < 4000)
    (h : ∀ (h' : Heap) (tk : Nat) (D : SD) (zs : List Str), h'.get? s.heap.objs.size = some (sObj "set" D) → TxR prog w D zs → (∀ x, x ∈ zs ↔ x ∈ xs) → zs.length ≤ xs.length → (∀ b o, b < s.heap.objs.size → s.heap.get? b = some o → h'.get? b = some o) → Q (.ref s.heap.objs.size) { s with heap := h', toks := tk }) :
    wpAny (model prog w) A (call (.type "set") [.ref l]) Q E s := by
  have hsz : xs.length = items.size := by
    have := hi.length
    rw [List.length_map, Array.length_toList] at this
    exact this
  refine set_gen (Mv := fun s' => ∃ h' tk D zs, s' = { s with heap := h', toks := tk } ∧ h'.get? s.heap.objs.size = some (sObj "set" D) ∧ TxR prog w D zs ∧ (∀ x, x ∈ zs ↔ x ∈ xs) ∧ zs.length ≤ xs.length ∧ ∀ b o, b < s.heap.objs.size → s.heap.get? b = some o → h'.get? b = some o) hh (fun B led hled hB => ?_) (fun s' ⟨h', tk, D, zs, e, h1, h2, h3, h4, hk⟩ => by subst e; exact h h' tk D zs h1 h2 h3 h4 hk)
  obtain ⟨⟨ocls, odict, odata, oslots⟩, hol, hcl, nl, hdl⟩ := hl
  simp only at hcl hdl
  subst hcl hdl
  have hS : (s.heap.push (emptySet led)).get? s.heap.objs.size = some (emptySet led) := Heap.get?_push_size _ rfl
  have hol' : (s.heap.push (emptySet led)).get? l = some { cls := .type "list", dict := odict, data := .seq items nl, slots := oslots } := Heap.get?_push_of_some _ hol
  have hl1 : (s.heap.push (emptySet led)).IsList l items := ⟨_, hol', rfl, nl, rfl⟩
  refine init_gen (s := { s with heap := s.heap.push (emptySet led) }) hS hol' PySem.F.sub_list_set PySem.F.sub_list_frozenset (by decide) ?_
  refine wpAny_pyIter_list hl1 (wpAny_runValue ?_)
  have hlS : l < s.heap.objs.size := Heap.lt_size hol
  have big : (s.heap.push (emptySet led)).objs.size = s.heap.objs.size + 1 := Heap.size_push _ _
  have hSf : s.heap.objs.size ∉ [(s.heap.push (emptySet led)).objs.size, l] := by
    rw [big]
    simp only [List.mem_cons, List.not_mem_nil, or_false, not_or]
    exact ⟨Nat.ne_of_lt (Nat.lt_succ_self _), Nat.ne_of_gt hlS⟩
  refine loopT (Walks.list (A := B.in1.in1) (by simp [hB]) _ l (by rw [big]; exact Nat.ne_of_lt (Nat.lt_succ_of_lt hlS)) items).toS s.heap.objs.size hSf xs (by omega) (by omega) (fun i v hv => vals_str hi (by rw [Array.getElem?_toList]; exact hv))
    (items.size - 0) 0 _ (#[], 0, .fresh 0 0 led) [] (by omega) (Nat.zero_le _) ⟨⟨_, Heap.get?_push_size _ rfl, rfl, rfl⟩, hl1.push _⟩ ?_ ?_ (by simp) (Nat.zero_le _) fun s' D' l' m q T mem ln => ?_
  · exact Heap.get?_push_of_some _ hS
  · refine ⟨PySem.Froz.TxOk.nil rfl, List.nodup_nil, List.Pairwise.nil, ?_⟩
    show _ ∨ led = true
    rw [hled]
    cases w.params.followText "set-order"
    · exact .inr rfl
    · exact .inl rfl
  · obtain ⟨h', g', d', tk', os'⟩ := s'
    have eg : g' = s.gens := m.gens
    have ed : d' = s.drawn := m.drawn
    have eo : os' = s.os := m.os
    subst eg ed eo
    rw [← hsz, List.take_length] at mem
    refine ⟨rfl, h', tk', D', l', rfl, q, T, mem, by omega, fun b o hb e => ?_⟩
    refine m.heap b o ?_ (Heap.get?_push_of_some _ (Heap.get?_push_of_some _ e))
    simp only [List.mem_cons, List.not_mem_nil, or_false, not_or]
    have := big
    exact ⟨Nat.ne_of_lt hb, by rw [big]; exact Nat.ne_of_lt (Nat.lt_succ_of_lt hb)⟩
end
section
variable {P : Program} {w : World} {A : Around} {E : Value → Shared → Prop} {s : Shared}
theorem strs_of : ∀ (l : List Value), (∀ v ∈ l, ∃ k tk, v = Value.str k tk) → ∃ xs : List Str, StrsAre l xs
  | [], _ => ⟨[], .nil⟩
  | v :: r, h => by
    obtain ⟨k, tk, rfl⟩ := h v List.mem_cons_self
    obtain ⟨xs, hx⟩ := strs_of r fun u hu => h u (List.mem_cons_of_mem _ hu)
    exact ⟨k :: xs, .cons k tk hx⟩
theorem strs_mem : ∀ {l : List Value} {xs : List Str} {x : Str}, StrsAre l xs → (x ∈ xs ↔ ∃ tk, Value.str x tk ∈ l)
  | _, _, x, .nil => by simp
  | _, _, x, .cons y t r => by
    rw [List.mem_cons, strs_mem r]
    constructor
    · rintro (rfl | ⟨tk, h⟩)
      · exact ⟨t, List.mem_cons_self⟩
      · exact ⟨tk, List.mem_cons_of_mem _ h⟩
    · rintro ⟨tk, h⟩
      rcases List.mem_cons.mp h with e | h
      · cases e; exact .inl rfl
      · exact .inr ⟨tk, h⟩
theorem isStr_of {P : Program} {w : World} {k : Str} {v : Value} (h : (PySem.strKind P w).is k v = true) : ∃ y tk, v = Value.str y tk := by
  have h : Value.isStrOf k v = true := h
  cases v with
  | str y tk => exact ⟨y, tk, rfl⟩
  | _ => simp [Value.isStrOf] at h
/-- sorted(found), found a set of texts -/
theorem sorted_setT {a : Addr} {D : SD} {l : List Str} {Q : Value → Shared → Prop} (ho : s.heap.get? a = some (sObj "set" D)) (T : TxR P w D l) (hh : A.handled = none) (h64 : l.length < 64)
    (hQ : ∀ s' p (out : Array Value) (c : Nat) (ys : List Str), (∀ b o, s.heap.get? b = some o → s'.heap.get? b = some o) → s'.gens = s.gens → s'.os = s.os → s.heap.objs.size ≤ p →
      s'.heap.get? p = some (seqObj "list" out c) → StrsAre out.toList ys → ys.length = l.length → (∀ x, x ∈ ys ↔ x ∈ l) → sortedS ys = true → Q (.ref p) s') :
    wpAny (model P w) A (call (.builtin "sorted") [.ref a]) Q E s := by
  obtain ⟨es, ep, t⟩ := D
  have hsz : es.size = l.length := T.ok.sz
  have hel : ElemsOf (PySem.strKind P w) es.toList := T.ok.el
  refine Calls.call_function_entry kind_sorted plain_sorted entry_sorted (args_sorted1 _) ?_
  unfold Builtin.«sorted»
  refine wpAny_bind (m := checkCount "sorted" 1 1 _) (wpAny_pure ?_)
  refine wpAny_bind (L2.collect_set (A := A.in1) hh ⟨_, ho, rfl, rfl⟩ T.ok.fit (by rw [hsz]; unfold scanBound; omega) T.ris T.led fun s1 vs k1 hz g1 o1 pm => ?_)
  have hvl : vs.length = l.length := by rw [pm.length_eq, List.length_map, Array.length_toList]; exact hsz
  have hstr : ∀ v ∈ vs, ∃ k tk, v = Value.str k tk := fun v hv => by
    obtain ⟨e, he, q⟩ := List.mem_map.mp (pm.mem_iff.mp hv)
    obtain ⟨⟨k, hk, _⟩, _⟩ := hel e he
    rw [← q]
    exact isStr_of hk
  obtain ⟨xs, hS⟩ := strs_of vs hstr
  refine wpAny_bind (wpAny_newList ?_ (by rw [hvl, sizeLine_eq]; omega))
  have hoL : (s1.heap.push (seqObj "list" vs.toArray 0)).get? s1.heap.objs.size = some (seqObj "list" vs.toArray 0) := Heap.get?_push_size _ rfl
  refine wpAny_bind (wpAny_holding (wpAny_call_entry slot_list_sort ⟨_, hoL, rfl⟩ entry_list_sort (list_sort_treeK strKind_oneLt hoL hS.keysOf (fun v1 v2 rest e => keyKind_strs (by rw [← e]; exact hS)) (by rw [hvl]; exact h64) fun st' hp hs => ⟨_, rfl, ?_⟩) (args_list_sort _)))
  obtain ⟨ys, y1, y2, y3⟩ := sorted_out_str hS hp hs
  obtain ⟨c, hc⟩ := sortedHeap_at (vs := vs) (out := (arrOf st').map (·.2)) hoL
  have lx : xs.length = vs.length := (StrsAre.length hS).symm
  refine wpAny_pure ⟨_, rfl, hQ _ s1.heap.objs.size _ c ys (fun b u e => ?_) g1 o1 hz hc y1 (by rw [y2.length_eq, lx, hvl]) (fun x => ?_) y3⟩
  · have q := k1 b u e
    have hlt := Heap.lt_size q
    show (sortedHeap (s1.heap.push (seqObj "list" vs.toArray 0)) s1.heap.objs.size vs _).get? b = some u
    rw [sortedHeap_old (Nat.ne_of_lt hlt) (by rw [size_push']; exact Nat.lt_succ_of_lt hlt)]
    exact Heap.get?_push_of_some _ q
  · rw [y2.mem_iff, strs_mem hS, T.ok.mem x]
    constructor
    · rintro ⟨tk, h⟩
      obtain ⟨e, he, q⟩ := List.mem_map.mp (pm.mem_iff.mp h)
      exact ⟨e, he, by rw [q]; exact PySem.Froz.is_str x tk⟩
    · rintro ⟨e, he, hk⟩
      obtain ⟨y, tk, q⟩ := isStr_of hk
      have : y = x := by
        rw [q] at hk
        exact ((PySem.strKind P w).inj (.str y tk) x y hk (PySem.Froz.is_str y tk)).symm
      subst this
      exact ⟨tk, pm.mem_iff.mpr (List.mem_map.mpr ⟨e, he, q⟩)⟩
end
section
variable {X : Cx} {a : Expr} {ta : DTE} {p p2 q pos : Pos}
/-- sorted(set(xs)), xs a list of fewer than 64 texts -/
def tSortSet (ta : DTE) : DTE := fun env m Q => ta env m fun d m1 => ∃ xs : List Str, look m1 d = .lst (xs.map .str) ∧ xs.length < 64 ∧ ∀ ys : List Str, (∀ x, x ∈ ys ↔ x ∈ xs) → sortedS ys = true → ys.Nodup → Q (.lst (ys.map .str)) m1
theorem nodup_of_same : ∀ (ys l : List Str), l.Nodup → ys.length = l.length → (∀ x, x ∈ ys ↔ x ∈ l) → ys.Nodup
  | [], _, _, _, _ => List.nodup_nil
  | y :: ys, l, nd, hl, hm => by
    have hy : y ∈ l := (hm y).mp List.mem_cons_self
    have hp := List.length_pos_of_mem hy
    have el : (l.erase y).length = ys.length := by
      rw [List.length_erase_of_mem hy, ← hl, List.length_cons]; omega
    have nde : (l.erase y).Nodup := nd.erase y
    have sub : ∀ x, x ∈ l.erase y → x ∈ ys := fun x hx => by
      have hne : x ≠ y := fun e => by
        rw [e] at hx
        exact (List.Nodup.not_mem_erase nd) hx
      rcases List.mem_cons.mp ((hm x).mpr (List.mem_of_mem_erase hx)) with e | e
      · exact absurd e hne
      · exact e
    -- y is not behind: else the erased list would hold all of ys
    have hny : y ∉ ys := fun h => by
      have big : l.length ≤ ys.length := by
        have : ∀ (l k : List Str), l.Nodup → (∀ x ∈ l, x ∈ k) → l.length ≤ k.length := by
          intro l
          induction l with
          | nil => intro k _ _; exact Nat.zero_le _
          | cons a l ih =>
            intro k h s
            rw [List.nodup_cons] at h
            have ha := s a List.mem_cons_self
            have := ih (k.erase a) h.2 fun x hx => (List.mem_erase_of_ne (fun e => h.1 (by rw [← e]; exact hx))).mpr (s x (List.mem_cons_of_mem _ hx))
            rw [List.length_erase_of_mem ha] at this
            have := List.length_pos_of_mem ha
            rw [List.length_cons]; omega
        refine this l ys nd fun x hx => ?_
        rcases List.mem_cons.mp ((hm x).mpr hx) with e | e
        · rw [e]; exact h
        · exact e
      rw [List.length_cons] at hl
      omega
    refine List.nodup_cons.mpr ⟨hny, nodup_of_same ys (l.erase y) nde el.symm fun x => ⟨fun hx => ?_, sub x⟩⟩
    have hne : x ≠ y := fun e => hny (by rw [← e]; exact hx)
    exact (List.mem_erase_of_ne hne).mpr ((hm x).mp (List.mem_cons_of_mem _ hx))
theorem de_sortSet (hc : X.calm = true) (hm : X.mg "sorted" = none) (hm2 : X.mg "set" = none) (ha : DE X a ta) (hg : Gl X "sorted" := by rfl) (hg2 : Gl X "set" := by rfl)
    (na : starEach [a] X.env = (false, eval a X.env) :: starEach [] X.env := by rfl) : DE X (.Call (.Name "sorted" p) [.Call (.Name "set" p2) [a] [] q] [] pos) (tSortSet ta) := by
  refine ⟨⟨fun pins s σ H Q I h => ?_⟩⟩
  obtain ⟨env, m, R, eo, sm, h, k⟩ := h
  have h0 : liftE X.K ta σ H (fun x H1 => ∃ (l : Addr) (xs : List Str), x = .ref l ∧ SqL X.K H1 l (xs.map V.str) ∧ xs.length < 64 ∧ ∀ ys : List Str, (∀ x, x ∈ ys ↔ x ∈ xs) → sortedS ys = true → ys.Nodup → ∀ p, H1 p = none → Q (.ref p) (upd H1 p (.lst (ys.map V.str)))) := by
    refine ⟨env, m, _, eo, sm, h, fun d m1 v H1 h1 f1 s1 r1 => ?_⟩
    obtain ⟨xs, e1, hz, h1⟩ := h1
    have cc := cont_of s1 r1
    rw [e1] at cc
    obtain ⟨l, vs, rfl, hp, r2⟩ := cont_lst cc
    have e4 : vs = xs.map V.str := strsOf_rep (strsOf_map xs) r2
    subst e4
    exact ⟨l, xs, rfl, .of hp, hz, fun ys a1 a2 a3 p hp2 => k _ m1 _ _ (h1 ys a1 a2 a3) (f1.trans (Fr.laid s1 hp2)) (s1.laid hp2) (new_lst s1 hp2 (RepL.map_str ys))⟩
  refine Call_ (ld_blt I hg hm boot_sorted ?_)
  refine PyProof.Rows.callWith_builtin1 (PyProof.Rows.args_cons ?_ rfl) rfl rfl
  refine Call_ (ld_blt I hg2 hm2 boot_set ?_)
  refine PyProof.Rows.callWith_type1 (PyProof.Rows.args_cons (thn (ha.run.run pins s σ H _ I h0) fun v s1 ⟨x, H1, I1, r1, q1⟩ => PyProof.Rows.args_nil ?_) na) na rfl
  obtain ⟨l, xs, rfl, hq, hz, q1⟩ := q1
  cases r1
  obtain ⟨its, r, pl, hz2⟩ := I1.list hq
  refine call_setL (I1.ok.hd hc) pl.isList (by simpa using r) (by omega) fun h' tk D zs hS T mem ln hk => PyProof.Rows.args_nil ?_
  have I2 : Inv X pins σ H1 { s1 with heap := h', toks := tk } := I1.kept fun b o e => hk b o (Heap.lt_size e) e
  refine sorted_setT (s := { s1 with heap := h', toks := tk }) hS T (I1.ok.hd hc) (by omega) fun s' p out c ys k1 g o hp hob hst hl hmem hsrt => ?_
  have hlen : (ys.map V.str).length ≤ sizeLine := by rw [List.length_map, hl, sizeLine_eq]; omega
  have hn : H1 p = none := I2.hok.fresh hp
  have J : Inv X pins σ (upd H1 p (.lst (ys.map V.str))) { s1 with heap := s'.heap, gens := s'.gens, drawn := s'.drawn, toks := s'.toks } :=
    Inv.call (s := { s1 with heap := h', toks := tk }) (ch := []) I2 (Un.laid k1 hp hn) (I2.hok.laid k1 hp ⟨hlen, out.toList, c, vals_of_strs hst, hob⟩) (by rw [g]; exact I2.bare) (fun _ z => nomatch z)
  have e : s' = { s1 with heap := s'.heap, gens := s'.gens, drawn := s'.drawn, toks := s'.toks } := by
    cases s'
    cases s1
    cases o
    rfl
  rw [e]
  exact ⟨.ref p, _, J, rfl, q1 ys (fun x => (hmem x).trans (mem x)) hsrt (nodup_of_same ys zs T.nd hl hmem) p hn⟩
/-- sorted(xs) -/
def dSorted : D → Option (List Str)
  | .lst ds => strsOf ds
  | _ => none
end
end DL
/-! ### DL21: comprehensions with two for -/
namespace DL
open PySem PySem.Spec PyProof.Rows L2
section
variable {X : Cx} {tg iter elt tg1 iter1 : Expr} {ifs ifs1 : List Expr} {te : DTE} {pos : Pos}
theorem in_core {g : Tgt} {tt : DTT} {vs : List Nat} (hg : ∀ i ∈ g.ix, i ∈ vs) {σ : L2.St} {env : Env} {m1 : M} {H1 : Hp} {J : It} {ds : List D} {Dz : Addr} {N : Hp → Prop} {R : M → Prop} (eo : EnvOk X.K m1 H1 σ env) (s1 : Sim X.K m1 H1) (it : Items X.K J ds m1 H1)
    (h1 : lcD Dz g tt te (wipeD env vs) R ds m1) (k : ∀ m' H', R m' → Fr m1 H1 m' H' → Sim X.K m' H' → N H') :
    ∃ W : Nat → Nat → Hp → Prop, (∃ n, W 0 n H1) ∧ ∀ i n H, W i n H → (J.stop i H ∧ N H) ∨ (J.go i H ∧ ∃ Nx : Hp → Prop, (∀ H', Nx H' → ∃ n', n' < n ∧ W (i + 1) n' H') ∧
      ∀ x H', J.yld i H x H' → tgR X.K g x (L2.wipe σ vs) H' fun σ2 H2 => L2.wipe σ2 vs = L2.wipe σ vs ∧ liftT X.K tt σ2 H2 fun b H3 =>
        if b = true then liftE X.K te σ2 H3 fun y H4 => ∃ acc, H4 Dz = some (.lst acc) ∧ acc.length < sizeLine ∧ Nx (upd H4 Dz (.lst (acc ++ [y]))) else Nx H3) := by
  refine ⟨fun i n H => n = ds.length - i ∧ i ≤ ds.length ∧ ∃ m, Sim X.K m H ∧ Fr m1 H1 m H ∧ lcD Dz g tt te (wipeD env vs) R (ds.drop i) m, ⟨_, rfl, Nat.zero_le _, m1, s1, Fr.refl, h1⟩, ?_⟩
  rintro i n H2 ⟨rfl, hi, m2, s2, f2, h2⟩
  obtain ⟨go, stop⟩ := it i m2 H2 f2 s2
  by_cases hlt : i < ds.length
  · obtain ⟨g1, g2⟩ := go ds[i] (by simp [hlt])
    have ed : ds.drop i = ds[i] :: ds.drop (i + 1) := List.drop_eq_getElem_cons hlt
    rw [ed] at h2
    refine .inr ⟨g1, fun H' => ∃ m, Sim X.K m H' ∧ Fr m1 H1 m H' ∧ lcD Dz g tt te (wipeD env vs) R (ds.drop (i + 1)) m, fun H' q => ⟨ds.length - (i + 1), by omega, rfl, hlt, q⟩, fun x H' y => ?_⟩
    obtain ⟨f3, s3, r3⟩ := g2 x H' y
    have h2 : tgD g ds[i] (wipeD env vs) m2 _ := h2
    refine tg_run r3 (((eo.mono f2).wipe vs).mono f3) s3 h2 fun env4 σ4 h4 eo4 wp => ?_
    refine ⟨by rw [wp vs hg]; exact wipe_sub fun i hi => hi, env4, m2, _, eo4, s3, h4, fun b m5 H5 h5 f5 s5 => ?_⟩
    have f35 := f3.trans f5
    cases b with
    | true =>
      simp only [if_true] at h5 ⊢
      refine ⟨env4, m5, _, eo4.mono f5, s5, h5, fun z m6 zv H6 h6 f6 s6 r6 => ?_⟩
      obtain ⟨acc, ea, hz, h6⟩ := h6
      obtain ⟨ws, hD6, ra⟩ := s6 Dz _ ea
      have fw : Fr m6 H6 (updM m6 Dz (.lst (acc ++ [z]))) (upd H6 Dz (.lst (ws ++ [zv]))) := Fr.write ea
      exact ⟨ws, hD6, by rw [← ra.length]; exact hz, _, s6.write (d := .lst (acc ++ [z])) ea ⟨_, upd_same, RepL.mono fw _ _ (ra.snoc r6)⟩, (f2.trans (f35.trans f6)).trans fw, h6⟩
    | false =>
      simp only [Bool.false_eq_true, if_false] at h5 ⊢
      exact ⟨m5, s5, f2.trans f35, h5⟩
  · have e : i = ds.length := by omega
    subst e
    rw [List.drop_length] at h2
    exact .inl ⟨stop rfl, k m2 H2 h2 f2 s2⟩
def lcD2 (p : Addr) (g : Tgt) (tt : DTT) (ti1 : DTI) (g1 : Tgt) (tt1 : DTT) (te : DTE) (vs1 : List Nat) (env : Env) (Q : M → Prop) : List D → M → Prop
  | [], m => Q m
  | d :: ds, m => tgD g d env m fun env' m' => tt env' m' fun b m2 => if b = true then ti1 env' m2 fun es m3 => lcD p g1 tt1 te (wipeD env' vs1) (fun m4 => lcD2 p g tt ti1 g1 tt1 te vs1 env Q ds m4) es m3 else lcD2 p g tt ti1 g1 tt1 te vs1 env Q ds m2
def tLcM2 (ti : DTI) (g : Tgt) (tt : DTT) (ti1 : DTI) (g1 : Tgt) (tt1 : DTT) (te : DTE) (vs vs1 : List Nat) : DTE := fun env m Q => ti env m fun ds m1 => ∀ p, m1 p = none → lcD2 p g tt ti1 g1 tt1 te vs1 (wipeD env vs) (fun m2 => Q (.ref p) m2) ds (updM m1 p (.lst []))
theorem lc2_lift {g g1 : Tgt} {tt tt1 : DTT} {ti ti1 : DTI} {vs vs1 : List Nat} (hg : ∀ i ∈ g.ix, i ∈ vs) (hg1 : ∀ i ∈ g1.ix, i ∈ vs1) {σ : L2.St} {H : Hp} {Q : VK} (h : liftE X.K (tLcM2 ti g tt ti1 g1 tt1 te vs vs1) σ H Q) :
    L2.tLc2 (liftI X.K ti) (tgR X.K g) (liftT X.K tt) (liftI X.K ti1) (tgR X.K g1) (liftT X.K tt1) (liftE X.K te) vs vs1 σ H Q := by
  obtain ⟨env, m0, R, eo0, s0, h, k⟩ := h
  refine ⟨env, m0, _, eo0, s0, h, fun ds m1 J H1 h1 f1 s1 it => ?_⟩
  have eo := eo0.mono f1
  intro Dz hD
  have mD : m1 Dz = none := s1.free hD
  refine ⟨fun i n H => n = ds.length - i ∧ i ≤ ds.length ∧ ∃ m, Sim X.K m H ∧ Fr m1 H1 m H ∧ lcD2 Dz g tt ti1 g1 tt1 te vs1 (wipeD env vs) (fun m2 => R (.ref Dz) m2) (ds.drop i) m,
    ⟨_, rfl, Nat.zero_le _, _, new_lstM s1 hD .nil, Fr.laidM s1 hD, h1 Dz mD⟩, ?_⟩
  rintro i n H2 ⟨rfl, hi, m2, s2, f2, h2⟩
  obtain ⟨go, stop⟩ := it i m2 H2 f2 s2
  by_cases hlt : i < ds.length
  · obtain ⟨q1, q2⟩ := go ds[i] (by simp [hlt])
    have ed : ds.drop i = ds[i] :: ds.drop (i + 1) := List.drop_eq_getElem_cons hlt
    rw [ed] at h2
    refine .inr ⟨q1, fun H' => ∃ m, Sim X.K m H' ∧ Fr m1 H1 m H' ∧ lcD2 Dz g tt ti1 g1 tt1 te vs1 (wipeD env vs) (fun m2 => R (.ref Dz) m2) (ds.drop (i + 1)) m,
      fun H' q => ⟨ds.length - (i + 1), by omega, rfl, hlt, q⟩, fun x H' y => ?_⟩
    obtain ⟨f3, s3, r3⟩ := q2 x H' y
    have h2 : tgD g ds[i] (wipeD env vs) m2 _ := h2
    refine tg_run r3 (((eo.mono f2).wipe vs).mono f3) s3 h2 fun env4 σ4 h4 eo4 wp => ?_
    refine ⟨by rw [wp vs hg]; exact wipe_sub fun i hi => hi, env4, m2, _, eo4, s3, h4, fun b m5 H5 h5 f5 s5 => ?_⟩
    have f25 := f2.trans (f3.trans f5)
    cases b with
    | true =>
      simp only [if_true] at h5 ⊢
      refine ⟨env4, m5, _, eo4.mono f5, s5, h5, fun es m6 J1 H6 h6 f6 s6 it1 => ?_⟩
      exact in_core hg1 ((eo4.mono f5).mono f6) s6 it1 h6 fun m' H' a1 a2 a3 => ⟨m', a3, f25.trans (f6.trans a2), a1⟩
    | false =>
      simp only [Bool.false_eq_true, if_false] at h5 ⊢
      exact ⟨m5, s5, f25, h5⟩
  · have e : i = ds.length := by omega
    subst e
    rw [List.drop_length] at h2
    exact .inl ⟨stop rfl, k (.ref Dz) m2 _ H2 h2 (f1.trans f2) s2 rep_ref⟩
theorem de_lc2 {scope : Scope} {own : List (Str × Nat)} {vs1 : List Nat} {ti ti1 : DTI} {g g1 : Tgt} {tt tt1 : DTT} (hi : DI X tg iter ti) (ok : BlkOk X.N X.env.scope scope own) (hN : X.N.Nodup) (hc : X.calm = true)
    (hg : ∀ (s : Shared) (H : Hp) (C : Addr) (cl : List (Str × Addr)) (fp : List Addr), DGt (Blk X scope s H C cl fp) tg g) (ht : ∀ (s : Shared) (H : Hp) (C : Addr) (cl : List (Str × Addr)) (fp : List Addr), DTs (Blk X scope s H C cl fp) ifs tt)
    (hi1 : ∀ (s : Shared) (H : Hp) (C : Addr) (cl : List (Str × Addr)) (fp : List Addr), DI (Blk X scope s H C cl fp) tg1 iter1 ti1)
    (hg1 : ∀ (s : Shared) (H : Hp) (C : Addr) (cl : List (Str × Addr)) (fp : List Addr), DGt (Blk X scope s H C cl fp) tg1 g1) (ht1 : ∀ (s : Shared) (H : Hp) (C : Addr) (cl : List (Str × Addr)) (fp : List Addr), DTs (Blk X scope s H C cl fp) ifs1 tt1)
    (he : ∀ (s : Shared) (H : Hp) (C : Addr) (cl : List (Str × Addr)) (fp : List Addr), DE (Blk X scope s H C cl fp) elt te) (hv : ∀ i ∈ g.ix, i ∈ own.map (·.2) := by decide) (hv1 : ∀ i ∈ g1.ix, i ∈ vs1 := by decide) (hvo : ∀ i ∈ vs1, i ∈ own.map (·.2) := by decide)
    (hs : ∀ x, foldedSetIterable iter X.env x = pure x := by intro _; rfl) (hs1 : ∀ env x, foldedSetIterable iter1 env x = pure x := by intro _ _; rfl) :
    DE X (.ListComp elt [⟨tg, iter, ifs, 0⟩, ⟨tg1, iter1, ifs1, 0⟩] scope pos) (tLcM2 ti g tt ti1 g1 tt1 te (own.map (·.2)) vs1) :=
  ⟨PE.weak (pe_lc2 hc hN hi.run ok hvo (fun s H C cl fp => (hg s H C cl fp).run) (fun s H C cl fp => (ht s H C cl fp).run) (fun s H C cl fp => (hi1 s H C cl fp).run) (fun s H C cl fp => (hg1 s H C cl fp).run) (fun s H C cl fp => (ht1 s H C cl fp).run) (fun s H C cl fp => (he s H C cl fp).run) hs hs1) fun σ H Q h => lc2_lift hv hv1 h⟩
end
end DL
/-! ### DL22: lists of texts in order -/
namespace DL
open PySem PySem.Spec PyProof.Rows
def ltL (a b : Str) : Prop := a.cps.toList < b.cps.toList
theorem str_ext {a b : Str} (h : a.cps.toList = b.cps.toList) : a = b := by
  cases a; cases b
  congr 1
  exact Array.ext' h
theorem ltL_irrefl (a : Str) : ¬ ltL a a := List.lt_irrefl _
theorem ltL_trans {a b c : Str} (h : ltL a b) (k : ltL b c) : ltL a c := List.lt_trans h k
theorem ltL_of {a b : Str} (h : ¬ ltL b a) (ne : a ≠ b) : ltL a b := by
  rcases Classical.em (ltL a b) with h1 | h1
  · exact h1
  · exact absurd (str_ext (List.le_antisymm (List.not_lt.mp h) (List.not_lt.mp h1))) ne
theorem rising_lt : ∀ (r : List Str) (p : Str), PyProof.Rows.risingS p r = true → (p :: r).Nodup → (p :: r).Pairwise ltL
  | [], p, _, _ => List.pairwise_singleton _ _
  | x :: r, p, h, nd => by
    have h : (!ltCps x.cps.toList p.cps.toList && PyProof.Rows.risingS x r) = true := h
    rw [Bool.and_eq_true, Bool.not_eq_true', ltCps_eq, decide_eq_false_iff_not] at h
    have nd2 := (List.nodup_cons.mp nd)
    have ih := rising_lt r x h.2 nd2.2
    have hpx : ltL p x := ltL_of h.1 fun e => nd2.1 (by rw [e]; exact List.mem_cons_self)
    refine List.pairwise_cons.mpr ⟨fun y hy => ?_, ih⟩
    rcases List.mem_cons.mp hy with rfl | hy
    · exact hpx
    · exact ltL_trans hpx ((List.pairwise_cons.mp ih).1 y hy)
theorem sorted_lt {ys : List Str} (h : sortedS ys = true) (nd : ys.Nodup) : ys.Pairwise ltL := by
  cases ys with
  | nil => exact List.Pairwise.nil
  | cons y ys => exact rising_lt ys y h nd
theorem lt_uniq : ∀ (xs ys : List Str), xs.Pairwise ltL → ys.Pairwise ltL → (∀ x, x ∈ xs ↔ x ∈ ys) → xs = ys
  | [], [], _, _, _ => rfl
  | [], y :: ys, _, _, h => absurd ((h y).mpr List.mem_cons_self) (by simp)
  | x :: xs, [], _, _, h => absurd ((h x).mp List.mem_cons_self) (by simp)
  | x :: xs, y :: ys, hx, hy, h => by
    have px := List.pairwise_cons.mp hx
    have py := List.pairwise_cons.mp hy
    have e : x = y := by
      rcases List.mem_cons.mp ((h x).mp List.mem_cons_self) with e | e
      · exact e
      · rcases List.mem_cons.mp ((h y).mpr List.mem_cons_self) with e2 | e2
        · exact e2.symm
        · exact absurd (ltL_trans (px.1 y e2) (py.1 x e)) (ltL_irrefl x)
    subst e
    have nx : x ∉ xs := fun z => ltL_irrefl x (px.1 x z)
    have ny : x ∉ ys := fun z => ltL_irrefl x (py.1 x z)
    rw [lt_uniq xs ys px.2 py.2 fun z => ⟨fun hz => ?_, fun hz => ?_⟩]
    · rcases List.mem_cons.mp ((h z).mp (List.mem_cons_of_mem _ hz)) with e | e
      · exact absurd hz (by rw [e]; exact nx)
      · exact e
    · rcases List.mem_cons.mp ((h z).mpr (List.mem_cons_of_mem _ hz)) with e | e
      · exact absurd hz (by rw [e]; exact ny)
      · exact e
end DL
/-! ### DL23: two for, nothing changed -/
namespace DL
open PySem PySem.Spec PyProof.Rows
theorem lc2_in {p : Addr} {i1 : Nat} {te : DTE} {env : Env} {N : M → Prop} {m : M} {G : D → D} : ∀ (es acc : List D), acc.length + es.length < sizeLine →
    (∀ e ∈ es, ∀ (acc : List D) (R : DK), R (G e) (updM m p (.lst acc)) → te (env.set i1 (some e)) (updM m p (.lst acc)) R) → N (updM m p (.lst (acc ++ es.map G))) → lcD p (.one i1) tYe te env N es (updM m p (.lst acc))
  | [], acc, _, _, h => by
    rw [List.map_nil, List.append_nil] at h
    exact h
  | e :: es, acc, hl, step, h => by
    simp only [lcD, tgD, gN, tYe, if_true]
    refine step e List.mem_cons_self acc _ ⟨acc, updM_same, by rw [List.length_cons] at hl; omega, ?_⟩
    rw [updM_over]
    refine lc2_in es (acc ++ [G e]) (by rw [List.length_append, List.length_singleton]; rw [List.length_cons] at hl; omega) (fun e' he => step e' (List.mem_cons_of_mem _ he)) ?_
    rw [List.append_assoc]
    exact h
theorem lc2_out {p : Addr} {i i1 : Nat} {ti1 : DTI} {te : DTE} {vs1 : List Nat} {env : Env} {N : M → Prop} {m : M} {F : D → D → D} {es : D → List D} : ∀ (ds acc : List D), acc.length + (ds.flatMap fun d => (es d).map (F d)).length < sizeLine →
    (∀ d ∈ ds, ∀ (acc : List D) (R : List D → M → Prop), R (es d) (updM m p (.lst acc)) → ti1 (env.set i (some d)) (updM m p (.lst acc)) R) →
    (∀ d ∈ ds, ∀ e ∈ es d, ∀ (acc : List D) (R : DK), R (F d e) (updM m p (.lst acc)) → te ((wipeD (env.set i (some d)) vs1).set i1 (some e)) (updM m p (.lst acc)) R) →
    N (updM m p (.lst (acc ++ ds.flatMap fun d => (es d).map (F d)))) → lcD2 p (.one i) tYe ti1 (.one i1) tYe te vs1 env N ds (updM m p (.lst acc))
  | [], acc, _, _, _, h => by
    rw [List.flatMap_nil, List.append_nil] at h
    exact h
  | d :: ds, acc, hl, hin, step, h => by
    rw [List.flatMap_cons, List.length_append, List.length_map] at hl
    simp only [lcD2, tgD, gN, tYe, if_true]
    refine hin d List.mem_cons_self acc _ ?_
    refine lc2_in (G := F d) (es d) acc (by omega) (fun e he acc R q => step d List.mem_cons_self e he acc R q) ?_
    refine lc2_out ds (acc ++ (es d).map (F d)) (by rw [List.length_append, List.length_map]; omega) (fun d' hd => hin d' (List.mem_cons_of_mem _ hd)) (fun d' hd => step d' (List.mem_cons_of_mem _ hd)) ?_
    rw [List.append_assoc]
    rw [List.flatMap_cons] at h
    exact h
theorem lc2_pure {ti ti1 : DTI} {i i1 : Nat} {te : DTE} {vs vs1 : List Nat} {env : Env} {m : M} {Q : DK} {ds : List D} (F : D → D → D) (es : D → List D) (hi : ∀ R : List D → M → Prop, R ds m → ti env m R) (hl : (ds.flatMap fun d => (es d).map (F d)).length < sizeLine)
    (hin : ∀ d ∈ ds, ∀ (m1 : M) (R : List D → M → Prop), (∃ p acc, m p = none ∧ m1 = updM m p (.lst acc)) → R (es d) m1 → ti1 ((wipeD env vs).set i (some d)) m1 R)
    (step : ∀ d ∈ ds, ∀ e ∈ es d, ∀ (m1 : M) (R : DK), (∃ p acc, m p = none ∧ m1 = updM m p (.lst acc)) → R (F d e) m1 → te ((wipeD ((wipeD env vs).set i (some d)) vs1).set i1 (some e)) m1 R)
    (hQ : Q (.lst (ds.flatMap fun d => (es d).map (F d))) m) : tFrz (tLcM2 ti (.one i) tYe ti1 (.one i1) tYe te vs vs1) env m Q := by
  refine hi _ fun p hp => ?_
  refine lc2_out ds [] (by simpa using hl) (fun d hd acc R q => hin d hd _ R ⟨p, acc, hp, rfl⟩ q) (fun d hd e he acc R q => step d hd e he _ R ⟨p, acc, hp, rfl⟩ q) ?_
  refine ⟨_, updM_same, ?_⟩
  rw [delM_upd hp, List.nil_append]
  exact hQ
end DL
/-! ### DL24: the greater of two numbers; a method's call with a starred argument -/
namespace DL
open PySem PySem.Spec PyProof.Rows L2
def dMax2 (m : M) : List D → Option D
  | [x, y] => match look m x, look m y with
    | .int i, .int j => some (.int (if j > i then j else i))
    | _, _ => none
  | _ => none
def dMin2 (m : M) : List D → Option D
  | [x, y] => match look m x, look m y with
    | .int i, .int j => some (.int (if j < i then j else i))
    | _, _ => none
  | _ => none
section
variable {X : Cx}
theorem two_ints {m : M} {H : Hp} {ds : List D} {vs : List V} {f : Int → Int → Int} {d : D} {g : M → List D → Option D} (hg : ∀ ds d, g m ds = some d → ∃ x y i j, ds = [x, y] ∧ look m x = .int i ∧ look m y = .int j ∧ d = .int (f i j))
    (s : Sim X.K m H) (r : RepL X.K m H ds vs) (e : g m ds = some d) : ∃ i j, vs = [.int i, .int j] ∧ d = .int (f i j) := by
  obtain ⟨x, y, i, j, rfl, ex, ey, rfl⟩ := hg ds d e
  simp only [RepL] at r
  obtain ⟨v, r1, rfl, rv, u, r2, rfl, ru, rfl⟩ := r
  have c1 := cont_of s rv
  have c2 := cont_of s ru
  rw [ex] at c1; rw [ey] at c2
  exact ⟨i, j, by rw [cont_int c1, cont_int c2], rfl⟩
theorem dMax2_of {m : M} (ds : List D) (d : D) (e : dMax2 m ds = some d) : ∃ x y i j, ds = [x, y] ∧ look m x = .int i ∧ look m y = .int j ∧ d = .int (if j > i then j else i) := by
  unfold dMax2 at e
  split at e
  · rename_i x y
    split at e
    · rename_i i j h1 h2
      cases e
      exact ⟨x, y, i, j, rfl, h1, h2, rfl⟩
    · cases e
  · cases e
theorem dMin2_of {m : M} (ds : List D) (d : D) (e : dMin2 m ds = some d) : ∃ x y i j, ds = [x, y] ∧ look m x = .int i ∧ look m y = .int j ∧ d = .int (if j < i then j else i) := by
  unfold dMin2 at e
  split at e
  · rename_i x y
    split at e
    · rename_i i j h1 h2
      cases e
      exact ⟨x, y, i, j, rfl, h1, h2, rfl⟩
    · cases e
  · cases e
theorem dc_max2 (hc : X.calm = true) : DCall X (.builtin "max") dMax2 := callW (call_max2 hc) fun vs H Q ⟨ds, m, d, r, s, e, q⟩ => by
  obtain ⟨i, j, rfl, rfl⟩ := two_ints (f := fun i j => if j > i then j else i) dMax2_of s r e
  exact ⟨i, j, rfl, q _ _ Fr.refl s rep_int⟩
theorem dc_min2 (hc : X.calm = true) : DCall X (.builtin "min") dMin2 := callW (call_min2 hc) fun vs H Q ⟨ds, m, d, r, s, e, q⟩ => by
  obtain ⟨i, j, rfl, rfl⟩ := two_ints (f := fun i j => if j < i then j else i) dMin2_of s r e
  exact ⟨i, j, rfl, q _ _ Fr.refl s rep_int⟩
end
structure CalMB (X : Cx) (C : Addr) (m : Str) (k : Nat) (sp : DSp) : Prop where
  ex : ∃ g, BMeth X.K C m g ∧ FnG X.prog X.w X.K X.mg X.base CX0 k g (liftSp X.K sp)
theorem Lk.met {g a : Addr} {u : HO} (h : Lk (.met g a) u) : u = .met g a := by
  rcases h with h | h
  · exact h
  · obtain ⟨_, _, h, _⟩ := h
    cases h
section
variable {X : Cx} {k : Nat} {m : Str} {o e : Expr} {apos pos sp_ : Pos}
theorem pe_methS1 {C g : Addr} {sp : Sp} {E : XK} {CX : CXT} {ta te : TE} (he : PE X o ta) (c : Cls X.K C) (b : BMeth X.K C m g) (F : FnG X.prog X.w X.K X.mg X.base CX k g sp) (hr : RoomG k X.A) (hx : Passes CX X E) (ha : PE X e te)
    (hbase : attributeBase o m X.env (eval o X.env) = eval o X.env := by rfl) :
    PE X (.Call (.Attribute o m apos) [.Starred e sp_] [] pos) (fun σ H Q => ta σ H fun x H1 => ∃ a dx fs, x = V.ref a ∧ H1 a = some (.ins C dx fs) ∧ fs.lookup m = Option.none ∧ ∀ q, H1 q = Option.none → te σ (upd H1 q (.met g a)) fun y H2 => ∃ b xs, y = V.ref b ∧ (SqT X.K H2 b xs ∨ SqL X.K H2 b xs) ∧ H2 q = some (.met g a) ∧ sp (V.ref a :: xs) H2 Q E) := by
  refine ⟨fun pins s σ H Q I h => ?_⟩
  refine starcall_of hbase (thn (he.run pins s σ H _ I h) fun u s1 hx1 => ?_)
  obtain ⟨x, H1, I1, rx, a, dx, fs, rfl, ea, l, q⟩ := hx1
  obtain rfl : u = Value.ref a := rx
  refine getbound_ok I1 ea c b l fun q1 s2 hq1 I2 => ?_
  refine PySem.W.ks_call (P := PySem.W.MethP X.K q1 g (.ref a)) rfl (PySem.W.keeps_M b.fi) (PySem.W.ks_lone ?_)
  refine thn (ha.run pins s2 σ _ _ I2 (q q1 hq1)) fun v s3 hx3 => ?_
  obtain ⟨y, H2, I3, ry, t, vs, rfl, ht, hm, hsp⟩ := hx3
  obtain rfl : v = Value.ref t := ry
  refine StX.star_any I3 ht fun us s4 I4 rv => ⟨met_P I4 hm, ?_⟩
  exact wpAny_call (PySem.W.method_call (met_P I4 hm).1 (run_fnC (us := Value.ref a :: us) (vs := V.ref a :: vs) F hr hx I4 (.cons rfl rv) hsp))
theorem de_methS1 {C : Addr} {sp : DSp} {ta te : DTE} (c : CalMB X C m k sp) (hc : Cls X.K C) (hr : RoomG k X.A) (ho : DE X o ta) (ha : DE X e te)
    (hbase : attributeBase o m X.env (eval o X.env) = eval o X.env := by rfl) :
    DE X (.Call (.Attribute o m apos) [.Starred e sp_] [] pos) (tMt C m sp ta (tAS te tA0)) := by
  obtain ⟨f, hm, F⟩ := c.ex
  refine ⟨PE.weak (pe_methS1 ho.run hc hm F hr pass0 ha.run hbase) fun σ H Q h => ?_⟩
  obtain ⟨env, mm, R, eo, s, h, k⟩ := h
  refine ⟨env, mm, _, eo, s, h, fun d m1 v H1 h1 f1 s1 r1 => ?_⟩
  obtain ⟨ns, vs, e1, hn, h1⟩ := h1
  have cc := cont_of s1 r1
  rw [e1] at cc
  obtain ⟨a, dx, fs, rfl, h2, rfl, r2⟩ := cc
  refine ⟨a, dx, fs, rfl, h2, lookup_none hn, fun q hq => ?_⟩
  have f0 := Fr.laid (o := .met f a) s1 hq
  refine ⟨env, m1, _, (eo.mono f1).mono f0, s1.laid hq, h1, fun d2 m2 w H2 h3 f2 s2 r3 => ?_⟩
  obtain ⟨xs, e2, h3⟩ := h3
  obtain ⟨b, ws, rfl, hq2, rx⟩ := star_items (cont_of s2 r3) e2
  have h3 : sp (d :: (xs ++ [])) m2 R := h3
  rw [List.append_nil] at h3
  have hm2 : H2 q = some (.met f a) := by
    obtain ⟨_, u', e3, e4⟩ := f2 q _ (s1.free hq) upd_same
    rw [e3, e4.met]
  exact ⟨b, ws, rfl, hq2, hm2, d :: xs, m2, R, .cons (Rep.mono (f0.trans f2) _ _ r1) rx, s2, h3, fun d' m' v H' a1 a2 a3 a4 => k d' m' v H' a1 (((f1.trans f0).trans f2).trans a2) a3 a4⟩
end
section
variable (P : Program) (w : World) (K : PySem.W.Frag) (mg : Str → Option Value) (base : Heap)
def CalMBW (C : Addr) (m : Str) (k : Nat) (sp : DSp) : Prop := ∃ g, BMeth K C m g ∧ FnG P w K mg base CX0 k g (liftSp K sp)
end
end DL
/-! ### DL25: ==, != and len by an own class's methods -/
namespace DLn
open PySem PySem.Spec PyProof.Rows PySem.SeqAt
section
variable {M : Model} {prog : Program} {w : World} {A : Around} {E : Value → Shared → Prop} {s : Shared} {K : PySem.W.Frag} {x C f : Addr} {ox : Obj} {od : Option Obj} {b tb : Value}
theorem entry_ne {Q : Fin → Shared → Prop} (hu : A.units < cLine) (X : K.In s.heap) (I : PySem.W.InstAt s.heap x ox C od) (hs : PySem.W.findIn K (.ref C) "__eq__" = some (some (.ref f))) (hf : PySem.W.isFn K (.ref f) = true)
    (h : wpAny (model prog w) A (call (.ref f) [.ref x, b]) (fun v s' => ∃ r, v = .bool r ∧ Q (.done (.ret (.bool (!r)))) s') E s) : wpAny (model prog w) A (Builtin.«object.__ne__» ⟨[.ref x, b], []⟩) Q E s := by
  unfold Builtin.«object.__ne__»
  repeat (first
    | with_reducible refine wpAny_cRoomFor hu ?_
    | (refine wpAny_bind (m := callSpecialIfBound? (.ref x) (Str.ofString "__eq__") [b])
        (PySem.W.ifBound_K X I hs hf (wpAny_mono h (fun r s' hr => by
          obtain ⟨b, rfl, hq⟩ := hr
          repeat (first | exact hq | exact wpAny_pure hq | exact wpAny_truthy_bool hq | (refine wpAny_bind (m := truthy (.bool _)) (wpAny_truthy_bool ?_)) | wp_step)) fun _ _ e => e)))
    | wp_step)
theorem call_objNe {Q : Value → Shared → Prop} (hu : A.units + 1 < cLine) (X : K.In s.heap) (I : PySem.W.InstAt s.heap x ox C od) (hm : PySem.W.mroIn K C (.type "object") = some true) (hs : PySem.W.findIn K (.ref C) "__eq__" = some (some (.ref f))) (hf : PySem.W.isFn K (.ref f) = true)
    (h : wpAny (model prog w) A.in1 (call (.ref f) [.ref x, b]) (fun v s' => ∃ r, v = .bool r ∧ Q (.bool (!r)) s') E s) : wpAny (model prog w) A (call (.builtin "object.__ne__") [.ref x, b]) Q E s :=
  wpAny_call (codeAny_call_builtin F.cmp_object.ne.plain F.cmpEntry_ne (PySem.W.check_slot F.cmpKind_ne F.cmpSplit_ne (I.type.andThen (PySem.W.looks_mroIn X hm)) (F.cmpArgs_ne _ _)
    (entry_ne (A := A.in1) hu X I hs hf (wpAny_mono h (fun v s' hv => by obtain ⟨r, rfl, q⟩ := hv; exact ⟨r, rfl, q⟩) fun _ _ e => e))))
theorem ifBound_objNe {args : List Value} {Q : Option Value → Shared → Prop} (X : K.In s.heap) (I : PySem.W.InstAt s.heap x ox C od) (hs : PySem.W.findIn K (.ref C) "__ne__" = some (some (.builtin "object.__ne__")))
    (h : wpAny M A (call (.builtin "object.__ne__") (.ref x :: args)) (fun v => Q (some v)) E s) : wpAny M A (callSpecialIfBound? (.ref x) "__ne__" args) Q E s := by
  simp only [callSpecialIfBound?, bindSpecialIfBound?]
  refine wpAny_holding (wpAny_bind (wpAny_bind (wpAny_bind (I.type.here ((PySem.W.looks_findIn X hs).here ?_)))))
  refine wpAny_bind (wpAny_askSetting (wpAny_ite ?_))
  have fin : wpAny M A (call (.builtin "object.__ne__") ([.ref x] ++ args) >>= fun v => pure (some v)) Q E s := wpAny_bind (wpAny_mono h (fun v s' h' => wpAny_pure h') fun _ _ h' => h')
  split
  · exact wpAny_bind (wpAny_of_eq (F.cmp_object.ne.bind _) (wpAny_pure (by exact fin)))
  · exact wpAny_tryCatch (wpAny_bind (wpAny_of_eq (F.cmp_object.ne.bind _) (wpAny_pure (by exact fin))))
theorem cmp_ne {Q : Value → Shared → Prop} (hu : A.units + 1 < cLine) (X : K.In s.heap) (I : PySem.W.InstAt s.heap x ox C od) (hb : PySem.W.Looks (model prog w) s.heap (typeOf b) tb) (hn : PySem.W.notFirst K C tb = true)
    (hm : PySem.W.mroIn K C (.type "object") = some true) (hne : PySem.W.findIn K (.ref C) "__ne__" = some (some (.builtin "object.__ne__"))) (hs : PySem.W.findIn K (.ref C) "__eq__" = some (some (.ref f))) (hf : PySem.W.isFn K (.ref f) = true)
    (h : wpAny (model prog w) A.in1 (call (.ref f) [.ref x, b]) (fun v s' => ∃ r, v = .bool r ∧ Q (.bool (!r)) s') E s) : wpAny (model prog w) A (richCompare .NotEq (.ref x) b) Q E s := by
  have one : wpAny (model prog w) A (tryCompare (.ref x) "__ne__" b) (fun r s' => ∃ v, r = some v ∧ Q v s') E s := by
    unfold tryCompare
    refine wpAny_bind (ifBound_objNe X I hne (call_objNe hu X I hm hs hf (wpAny_mono h (fun v s' hv => ?_) fun _ _ e => e)))
    obtain ⟨r, rfl, q⟩ := hv
    exact ⟨r, rfl, wpAny_pure ⟨_, rfl, q⟩⟩
  unfold richCompare
  rw [cmpInfo_NotEq]
  simp only [oneThing_ref]
  refine wpAny_holding (wpAny_bind (wpAny_cRoomFor (by omega) ?_))
  refine wpAny_bind (I.type.here (wpAny_bind (hb.here ?_)))
  split
  · rename_i q
    have e : PySem.W.subIn K tb (.ref C) = some false := by
      rcases Bool.or_eq_true_iff.mp hn with e | e
      · rw [beq_iff_eq.mp e] at q; simp at q
      · exact beq_iff_eq.mp e
    refine wpAny_bind ((PySem.W.looks_subIn X e).here ?_)
    simp only [Bool.false_eq_true, if_false]
    refine wpAny_bind (wpAny_mono one (fun r s' z => ?_) fun _ _ e => e)
    obtain ⟨v, rfl, hq⟩ := z
    exact wpAny_pure hq
  · refine wpAny_bind (wpAny_pure ?_)
    simp only [Bool.false_eq_true, if_false]
    refine wpAny_bind (wpAny_mono one (fun r s' z => ?_) fun _ _ e => e)
    obtain ⟨v, rfl, hq⟩ := z
    exact wpAny_pure hq
end
end DLn
namespace DL
open PySem PySem.Spec PyProof.Rows L2
theorem RoomG.in1 {k : Nat} {A : Around} (r : RoomG (k + 1) A) : RoomG k A.in1 := ⟨r.r.in1, r.g⟩
/-- a call somewhere below the running body -/
theorem run_fnA {X : Cx} {A : Around} {k : Nat} {pins : List (Addr × Obj)} {σ : L2.St} {H : Hp} {s : Shared} {CX : CXT} {f : Addr} {sp : Sp} {E : XK} {Q : VK} {us : List Value} {vs : List V} (fr : A.frames = X.A.frames) (F : FnG X.prog X.w X.K X.mg X.base CX k f sp) (hr : RoomG k A) (hx : Passes CX X E) (I : Inv X pins σ H s) (r : Vals vs us)
    (q : sp vs H Q E) : wpAny (model X.prog X.w) A (call (.ref f) us) (EP X pins σ Q) X.xe s := by
  have e := I.env0
  have e0 : Env0 X.prog X.w X.K X.mg X.base A X.stack s H := ⟨by rw [fr]; exact e.frames, e.mod, e.bs, e.bsz, e.funs, e.frf, e.hok, e.bare⟩
  exact wpAny_call (codeAny_mono (F A X.stack s H us vs Q E hr e0 r q) fun res s' h => match res, h with
    | .error e, h => hx pins σ H s e s' I h
    | .ok (.ret u), h => I.after h
    | .ok .next, h => h.elim
    | .ok .brk, h => h.elim
    | .ok .cont, h => h.elim)
/-- built-in values on the right side do not answer ahead of an instance of C -/
def NF (K : PySem.W.Frag) (C : Addr) : Prop := ∀ T ∈ ["NoneType", "bool", "int", "str", "tuple", "list", "dict"], PySem.W.subIn K (.type T) (.ref C) = some false
theorem tyD_mem {d : D} {T : String} (h : tyD d = some (.inl T)) : T ∈ ["NoneType", "bool", "int", "str", "tuple", "list", "dict"] := by
  unfold tyD at h
  split at h <;> first | (cases h; simp) | cases h
def rightOk (C : Addr) (d : D) : Prop := ∃ t, tyD d = some t ∧ ∀ C', t = .inr C' → C' = C
theorem right_looks {X : Cx} {pins : List (Addr × Obj)} {σ : L2.St} {H : Hp} {s : Shared} {m : M} {C : Addr} {d : D} {v : V} {u : Value} (I : Inv X pins σ H s) (nf : NF X.K C) (c : Cont X.K m H d v) (r : RelV v u) (h : rightOk C d) :
    ∃ tb, PySem.W.Looks (model X.prog X.w) s.heap (typeOf u) tb ∧ PySem.W.notFirst X.K C tb = true := by
  obtain ⟨t, ht, hc⟩ := h
  cases t with
  | inl T =>
    have ty := cont_ty c ht (fun C' e => by cases e)
    obtain ⟨P, Z, hp, _⟩ := kit_of I r ty
    refine ⟨_, Z.ty _ _ I.kIn hp, ?_⟩
    unfold PySem.W.notFirst
    rw [Bool.or_eq_true]
    right
    have e : PySem.W.subIn X.K (valT (.inl T)) (.ref C) = some false := nf T (tyD_mem ht)
    rw [e]; rfl
  | inr C' =>
    obtain rfl := hc C' rfl
    unfold tyD at ht
    split at ht <;> (try cases ht)
    obtain ⟨a, dx, fs, rfl, h, _⟩ := c
    cases r
    obtain ⟨mA, J, _⟩ := ins_get I.hok h
    obtain ⟨od, J, _⟩ := J.look
    exact ⟨_, J.type, by simp [PySem.W.notFirst]⟩
/-- what an own comparison's def is asked -/
def rOwn (K : PySem.W.Frag) (C : Addr) (sp : DSp) (g : Bool → Bool) : R2 := fun v u H Q => ∃ x y m, Rep K m H x v ∧ Rep K m H y u ∧ Sim K m H ∧ (∃ ns vs, look m x = .ins C ns vs) ∧ rightOk C (look m y) ∧
  liftSp K sp [v, u] H (fun w H' => ∃ b, w = .bl b ∧ Q (.bl (g b)) H') E0
section
variable {X : Cx} {C : Addr} {k : Nat} {sp : DSp}
theorem op_ownEq (c : CalM X C "__eq__" k sp) (nf : NF X.K C) (hr : RoomG k X.A) : OpR X (compareOp .Eq) (rOwn X.K C sp id) := by
  intro pins s σ H v u a b Q I rv ru ⟨x, y, m, rx, ry, sm, ⟨ns, vs, ex⟩, rt, hsp⟩
  obtain ⟨f, hm, F⟩ := c.ex
  have cx := cont_of sm rx
  rw [ex] at cx
  obtain ⟨p, dx, fs, rfl, hp, _, _⟩ := cx
  cases rv
  obtain ⟨mA, J, _⟩ := ins_get I.hok hp
  obtain ⟨od, J, _⟩ := J.look
  obtain ⟨m0, hF⟩ := I.fr
  obtain ⟨tb, hb, hn⟩ := right_looks I nf (cont_of sm ry) ru rt
  show wpAny (model X.prog X.w) X.A (richCompare .Eq (.ref p) b) (EP X pins σ Q) X.xe s
  refine PySem.W.cmp_K (op := .Eq) (tb := tb) hr.r.units0 hF I.ok.mod.kin J hb hn hm.at_ hm.fn ?_
  refine wpAny_mono (run_fnA (us := [Value.ref p, b]) (vs := [V.ref p, u]) rfl F hr pass0 I (.cons rfl (.cons ru .nil)) hsp) (fun r s' hq => ?_) fun _ _ x => x
  obtain ⟨w, H', I', rw', b, rfl, q⟩ := hq
  cases rw'
  exact ⟨.bl b, H', I', rfl, q⟩
theorem op_ownNe (c : CalM X C "__eq__" k sp) (nf : NF X.K C) (hm0 : PySem.W.mroIn X.K C (.type "object") = some true) (hne : PySem.W.findIn X.K (.ref C) "__ne__" = some (some (.builtin "object.__ne__"))) (hr : RoomG (k + 1) X.A) : OpR X (compareOp .NotEq) (rOwn X.K C sp not) := by
  intro pins s σ H v u a b Q I rv ru ⟨x, y, m, rx, ry, sm, ⟨ns, vs, ex⟩, rt, hsp⟩
  obtain ⟨f, hm, F⟩ := c.ex
  have cx := cont_of sm rx
  rw [ex] at cx
  obtain ⟨p, dx, fs, rfl, hp, _, _⟩ := cx
  cases rv
  obtain ⟨mA, J, _⟩ := ins_get I.hok hp
  obtain ⟨od, J, _⟩ := J.look
  obtain ⟨tb, hb, hn⟩ := right_looks I nf (cont_of sm ry) ru rt
  show wpAny (model X.prog X.w) X.A (richCompare .NotEq (.ref p) b) (EP X pins σ Q) X.xe s
  refine DLn.cmp_ne (tb := tb) (by have := hr.r.un; omega) I.kIn J hb hn hm0 hne hm.at_ hm.fn ?_
  refine wpAny_mono (run_fnA (A := X.A.in1) (us := [Value.ref p, b]) (vs := [V.ref p, u]) rfl F hr.in1 pass0 I (.cons rfl (.cons ru .nil)) hsp) (fun r s' hq => ?_) fun _ _ x => x
  obtain ⟨w, H', I', rw', b, rfl, q⟩ := hq
  cases rw'
  exact ⟨b, rfl, .bl (!b), H', I', rfl, q⟩
/-- x == y, x != y by C's __eq__ -/
def tOwn (C : Addr) (sp : DSp) (g : Bool → Bool) (ta tb : DTE) : DTE := fun env m Q => ta env m fun x m1 => tb env m1 fun y m2 => (∃ ns vs, look m2 x = .ins C ns vs) ∧ rightOk C (look m2 y) ∧ sp [x, y] m2 fun d m3 => ∃ b, d = .bl b ∧ Q (.bl (g b)) m3
def tOwnT (C : Addr) (sp : DSp) (g : Bool → Bool) (ta tb : DTE) : DTT := fun env m Q => ta env m fun x m1 => tb env m1 fun y m2 => (∃ ns vs, look m2 x = .ins C ns vs) ∧ rightOk C (look m2 y) ∧ sp [x, y] m2 fun d m3 => ∃ b, d = .bl b ∧ Q (g b) m3
variable {a b : Expr} {ta tb : DTE} {pos : Pos}
theorem own_lift {g : Bool → Bool} {σ : L2.St} {H : Hp} {Q : VK} (h : liftE X.K (tOwn C sp g ta tb) σ H Q) : tOp (rOwn X.K C sp g) (liftE X.K ta) (liftE X.K tb) σ H Q := by
  obtain ⟨env, m, R, eo, s, h, k⟩ := h
  refine ⟨env, m, _, eo, s, h, fun x m1 v H1 h1 f1 s1 r1 => ?_⟩
  refine ⟨env, m1, _, eo.mono f1, s1, h1, fun y m2 u H2 h2 f2 s2 r2 => ?_⟩
  obtain ⟨e1, e2, h2⟩ := h2
  refine ⟨x, y, m2, Rep.mono f2 _ _ r1, r2, s2, e1, e2, [x, y], m2, _, .cons (Rep.mono f2 _ _ r1) (.cons r2 .nil), s2, h2, fun d m3 w H3 h3 f3 s3 r3 => ?_⟩
  obtain ⟨b, rfl, h3⟩ := h3
  exact ⟨b, by simpa only [Rep] using r3, k _ m3 _ H3 h3 ((f1.trans f2).trans f3) s3 rep_bl⟩
theorem ownT_lift {g : Bool → Bool} {σ : L2.St} {H : Hp} {Q : Bool → Hp → Prop} (h : liftT X.K (tOwnT C sp g ta tb) σ H Q) : tOp (rOwn X.K C sp g) (liftE X.K ta) (liftE X.K tb) σ H (fun w H' => ∃ k, w = .bl k ∧ Q k H') := by
  obtain ⟨env, m, R, eo, s, h, k⟩ := h
  refine ⟨env, m, _, eo, s, h, fun x m1 v H1 h1 f1 s1 r1 => ?_⟩
  refine ⟨env, m1, _, eo.mono f1, s1, h1, fun y m2 u H2 h2 f2 s2 r2 => ?_⟩
  obtain ⟨e1, e2, h2⟩ := h2
  refine ⟨x, y, m2, Rep.mono f2 _ _ r1, r2, s2, e1, e2, [x, y], m2, _, .cons (Rep.mono f2 _ _ r1) (.cons r2 .nil), s2, h2, fun d m3 w H3 h3 f3 s3 r3 => ?_⟩
  obtain ⟨b, rfl, h3⟩ := h3
  exact ⟨b, by simpa only [Rep] using r3, g b, rfl, k _ m3 H3 h3 ((f1.trans f2).trans f3) s3⟩
theorem de_ownEq (c : CalM X C "__eq__" k sp) (nf : NF X.K C) (hr : RoomG k X.A) (ha : DE X a ta) (hb : DE X b tb) (hm : behindInMarks .Eq b = false := by first | exact nomark _ | rfl) : DE X (.Compare a [.Eq] [b] pos) (tOwn C sp id ta tb) :=
  ⟨PE.weak (pe_cmpR (op_ownEq c nf hr) ha.run hb.run hm) fun _ _ _ h => own_lift h⟩
theorem dt_ownEq (c : CalM X C "__eq__" k sp) (nf : NF X.K C) (hr : RoomG k X.A) (ha : DE X a ta) (hb : DE X b tb) (hm : behindInMarks .Eq b = false := by first | exact nomark _ | rfl) : DT X (.Compare a [.Eq] [b] pos) (tOwnT C sp id ta tb) :=
  ⟨PT.weak (pt_cmpR (op_ownEq c nf hr) ha.run hb.run hm) fun _ _ _ h => ownT_lift h⟩
theorem de_ownNe (c : CalM X C "__eq__" k sp) (nf : NF X.K C) (hm0 : PySem.W.mroIn X.K C (.type "object") = some true) (hne : PySem.W.findIn X.K (.ref C) "__ne__" = some (some (.builtin "object.__ne__"))) (hr : RoomG (k + 1) X.A) (ha : DE X a ta) (hb : DE X b tb) (hm : behindInMarks .NotEq b = false := by first | exact nomark _ | rfl) : DE X (.Compare a [.NotEq] [b] pos) (tOwn C sp not ta tb) :=
  ⟨PE.weak (pe_cmpR (op_ownNe c nf hm0 hne hr) ha.run hb.run hm) fun _ _ _ h => own_lift h⟩
theorem dt_ownNe (c : CalM X C "__eq__" k sp) (nf : NF X.K C) (hm0 : PySem.W.mroIn X.K C (.type "object") = some true) (hne : PySem.W.findIn X.K (.ref C) "__ne__" = some (some (.builtin "object.__ne__"))) (hr : RoomG (k + 1) X.A) (ha : DE X a ta) (hb : DE X b tb) (hm : behindInMarks .NotEq b = false := by first | exact nomark _ | rfl) : DT X (.Compare a [.NotEq] [b] pos) (tOwnT C sp not ta tb) :=
  ⟨PT.weak (pt_cmpR (op_ownNe c nf hm0 hne hr) ha.run hb.run hm) fun _ _ _ h => ownT_lift h⟩
/-! len -/
theorem call_lenO (c : CalM X C "__len__" k sp) (hr : RoomG (k + 1) X.A) : CallR X (.builtin "len") (fun xs H Q => ∃ x m, (∃ v, xs = [v] ∧ Rep X.K m H x v) ∧ Sim X.K m H ∧ (∃ ns vs, look m x = .ins C ns vs) ∧ liftSp X.K sp xs H (fun w H' => ∃ n : Int, w = .int n ∧ 0 ≤ n ∧ n < 2 ^ 63 ∧ Q (.int n) H') E0) := by
  rintro pins s σ H xs us Q I r ⟨x, m, ⟨v, rfl, rx⟩, sm, ⟨ns, vs, ex⟩, hsp⟩
  obtain ⟨u, rfl, ru⟩ := vals1 r
  obtain ⟨f, hm, F⟩ := c.ex
  have cx := cont_of sm rx
  rw [ex] at cx
  obtain ⟨p, dx, fs, rfl, hp, _, _⟩ := cx
  cases ru
  obtain ⟨mA, J, _⟩ := ins_get I.hok hp
  obtain ⟨od, J, _⟩ := J.look
  obtain ⟨m0, hF⟩ := I.fr
  refine PySem.W.len_K hF I.ok.mod.kin J hm.at_ hm.fn ?_
  refine wpAny_mono (run_fnA (A := X.A.in1) (us := [Value.ref p]) (vs := [V.ref p]) rfl F hr.in1 pass0 I (.cons rfl .nil) hsp) (fun r s' hq => ?_) fun _ _ x => x
  obtain ⟨w, H', I', rw', n, rfl, h0, h1, q⟩ := hq
  obtain ⟨t, rfl⟩ := rw'
  exact ⟨⟨h0, h1⟩, .int n, H', I'.tok _, ⟨_, rfl⟩, q⟩
def tLenO (C : Addr) (sp : DSp) (te : DTE) : DTE := fun env m Q => te env m fun x m1 => (∃ ns vs, look m1 x = .ins C ns vs) ∧ sp [x] m1 fun d m2 => ∃ n : Int, d = .int n ∧ 0 ≤ n ∧ n < 2 ^ 63 ∧ Q (.int n) m2
theorem de_lenO {e : Expr} {te : DTE} {p : Pos} (c : CalM X C "__len__" k sp) (hr : RoomG (k + 1) X.A) (hm : X.mg "len" = none) (he : DE X e te) (hg : Gl X "len" := by rfl) (hs : starEach [e] X.env = (false, eval e X.env) :: starEach [] X.env := by rfl) (hpl : (backTo pos (starEach [] X.env)).any (·.1) = false := by rfl) :
    DE X (.Call (.Name "len" p) [e] [] pos) (tLenO C sp te) :=
  ⟨PE.weak (pe_callB (call_lenO c hr) hg hm (by decide +kernel) (pa_cons he.run pa_nil hs) (by decide) (by decide) hs hpl) fun σ H Q h => by
    obtain ⟨env, m, R, eo, s, h, kq⟩ := h
    refine ⟨env, m, _, eo, s, h, fun x m1 v H1 h1 f1 s1 r1 => ?_⟩
    obtain ⟨e1, h1⟩ := h1
    refine ⟨x, m1, ⟨v, rfl, r1⟩, s1, e1, [x], m1, _, .cons r1 .nil, s1, h1, fun d m2 w H2 h2 f2 s2 r2 => ?_⟩
    obtain ⟨n, rfl, b0, b1, h2⟩ := h2
    exact ⟨n, by simpa only [Rep] using r2, b0, b1, kq _ m2 _ H2 h2 (f1.trans f2) s2 rep_int⟩⟩
end
end DL
/-! ### DL26: isinstance of own classes, defs called by names, sorted pairs of ints -/
namespace DL
open PySem PySem.Spec PyProof.Rows L2
/-- built-in types, and a table for own classes -/
def JO (tab : List (Ty × Ty × Bool)) : Ty → Ty → Option Bool
  | .inl a, .inl b => kitB a b
  | t, u => (tab.find? fun e => decide (e.1 = t) && decide (e.2.1 = u)).map (·.2.2)
theorem jo_ok {K : PySem.W.Frag} {tab : List (Ty × Ty × Bool)} (h : ∀ e ∈ tab, PySem.W.kitOne K (valT e.1) (valT e.2.1) = some e.2.2 ∧ ∀ C, e.1 = .inr C → InsT K C) : JOk K (JO tab) := fun t u b e => by
  have main : ∀ (t u : Ty), (tab.find? fun e => decide (e.1 = t) && decide (e.2.1 = u)).map (·.2.2) = some b → PySem.W.kitOne K (valT t) (valT u) = some b ∧ ∀ C, t = .inr C → InsT K C := fun t u e => by
    obtain ⟨x, hx, rfl⟩ := Option.map_eq_some_iff.mp e
    have h1 := List.find?_some hx
    rw [Bool.and_eq_true, decide_eq_true_eq, decide_eq_true_eq] at h1
    obtain ⟨rfl, rfl⟩ := h1
    exact h x (List.mem_of_find?_eq_some hx)
  unfold JO at e
  split at e
  · exact jb_ok _ _ b e
  · exact main _ _ e
theorem kit_self {K : PySem.W.Frag} {t : Value} : PySem.W.kitOne K t t = some true := by unfold PySem.W.kitOne; rw [if_pos (by simp)]
theorem kit_own {K : PySem.W.Frag} {t : Value} {C : Addr} {b : Bool} (hne : (t == .ref C) = false) (h1 : PySem.W.isClsIn K C = true) (h2 : PySem.W.typeIn K (.ref C) = some (.type "type")) (h3 : PySem.W.subIn K t (.ref C) = some b) : PySem.W.kitOne K t (.ref C) = some b := by
  unfold PySem.W.kitOne
  rw [if_neg (by rw [hne]; decide)]
  have h1 : (PySem.W.clsIn K C).isSome = true := h1
  show (if ((PySem.W.clsIn K C).isSome && PySem.W.typeIn K (.ref C) == some (.type "type")) = true then PySem.W.subIn K t (.ref C) else none) = _
  rw [if_pos (by rw [h1, h2]; simp), h3]
theorem kit_bty {K : PySem.W.Frag} {t : Value} {T : String} {b : Bool} (hne : (t == .type T) = false) (h1 : PySem.W.kitMeta T = true) (h3 : PySem.W.subIn K t (.type T) = some b) : PySem.W.kitOne K t (.type T) = some b := by
  unfold PySem.W.kitOne
  rw [if_neg (by rw [hne]; decide)]
  show (if PySem.W.kitMeta T = true then PySem.W.subIn K t (.type T) else none) = _
  rw [if_pos h1, h3]
/-- isinstance(x, c), c written as it is -/
def dIsiO (J : Ty → Ty → Option Bool) (m : M) : List D → Option D
  | [x, c] => match tyD (look m x), clD c with
    | some t, some u => (J t u).map .bl
    | _, _ => none
  | _ => none
theorem dc_isiO {X : Cx} {J : Ty → Ty → Option Bool} (hJ : JOk X.K J) : DCall X (.builtin "isinstance") (dIsiO J) := callW call_isi fun vs H Q ⟨ds, m, d, r, s, e, q⟩ => by
  unfold dIsiO at e
  split at e
  · rename_i x c
    simp only [RepL] at r
    obtain ⟨v1, r', rfl, h1, v2, r2, rfl, h2, rfl⟩ := r
    split at e
    · rename_i t u e1 e2
      obtain ⟨b, eb, rfl⟩ := Option.map_eq_some_iff.mp e
      obtain ⟨k1, k2⟩ := hJ t u b eb
      have c1 := cont_ty (cont_of s h1) e1 k2
      refine ⟨v1, v2, valT t, valT u, b, rfl, ?_, c1, k1, q _ _ Fr.refl s rep_bl⟩
      unfold clD at e2
      split at e2
      · cases e2
        simp only [Rep] at h2
        rw [h2]; exact .ty _
      · cases e2
        simp only [Rep] at h2
        rw [h2]; exact .own _
      · cases e2
    · cases e
  · cases e
section
variable {X : Cx} {k : Nat} {ks : List Str} {is : List Nat} {sp : DSp} {x : Str} {p pos : Pos} {kws : List Keyword} {t : DTA}
/-- f(x = .., ..) -/
def tClK (ks : List Str) (is : List Nat) (sp : DSp) (t : DTA) : DTE := fun env st Q => t env st fun ds m1 => ds.length = ks.length ∧ sp (permL is ds) m1 Q
theorem de_callK (c : CalFK X x k 0 ks is sp) (hr : RoomG k X.A) (ha : DK_ X kws t) (hg : Gl X x := by rfl) (hd : (x == ("__debug__" : Str)) = false := by decide) (hall : (backToKw pos (keywordEach kws X.env)).all (·.1.isSome) = true := by rfl) (hks : (backToKw pos (keywordEach kws X.env)).filterMap (·.1) = ks := by rfl)
    (hpl : ((backTo pos (starEach [] X.env)).any (·.1) || (backToKw pos (keywordEach kws X.env)).any (·.1.isNone)) = false := by rfl) :
    DE X (.Call (.Name x p) [] kws pos) (tClK ks is sp t) := by
  obtain ⟨f, hm, hk, F⟩ := c.ex
  refine ⟨⟨fun pins s σ H Q I h => ?_⟩⟩
  obtain ⟨env, mm, R, eo, sm, h, kq⟩ := h
  have h0 : liftA X.K t σ H (fun zs H2 => zs.length = ks.length ∧ liftSp X.K sp (permL is zs) H2 Q E0) := by
    refine ⟨env, mm, _, eo, sm, h, fun ds m2 ws H2 h3 f2 s2 r3 => ?_⟩
    obtain ⟨hl, h3⟩ := h3
    exact ⟨by rw [← r3.length]; exact hl, permL is ds, m2, R, permL_rep r3 is, s2, h3, fun d' m' v H' a1 a2 a3 a4 => kq d' m' v H' a1 (f2.trans a2) a3 a4⟩
  refine wpAny_Call_Name_kw (ld_glob I hg hm ?_ hd)
  refine PySem.W.callWith_KW0 (first := []) (h₀ := X.base) I.ok.mod.kin hk hall (thn (ha.run.run pos pins s σ H _ I h0) fun us s2 hx2 => ?_) hpl
  obtain ⟨zs, H2, I2, r, hl, q2⟩ := hx2
  rw [hks]
  exact ⟨I2.kIn, run_fnGK (us := []) (vs := []) F hr pass0 I2 .nil r rfl hl q2⟩
end
section
variable (P : Program) (w : World) (K : PySem.W.Frag) (mg : Str → Option Value) (base : Heap)
def CalFKW (x : Str) (k : Nat) (n : Nat) (ks : List Str) (is : List Nat) (sp : DSp) : Prop := ∃ f, mg x = some (.ref f) ∧ PySem.W.keepIn K (.ref f) = true ∧ FnGK P w K mg base CX0 k f n ks is (liftSp K sp)
end
/-! sorted of pairs of ints -/
def pairD (p : Int × Int) : D := .tup [.int p.1, .int p.2]
def rSortPD (K : PySem.W.Frag) : List V → Hp → VK → Prop := fun vs H Q => ∃ (a : Addr) (xs : List V) (k : V → Int × Int), vs = [V.ref a] ∧ SqL K H a xs ∧ (∀ x ∈ xs, ∃ t, x = V.ref t ∧ SqT K H t [.int (k x).1, .int (k x).2]) ∧
  ∀ ys p, SrtO.Srtd (ltP k) ys → SrtO.Stb (ltP k) ys xs → H p = none → Q (.ref p) (upd H p (.lst ys))
section
variable {X : Cx}
theorem cr_sortPD : CallR X (.builtin "sorted") (rSortPD X.K) := by
  intro pins s σ H vs us Q I r h
  obtain ⟨a, xs, k, rfl, hs, hx, q⟩ := h
  obtain ⟨its, rv, hl, hz⟩ := I.list hs
  obtain ⟨u, rfl, ru⟩ := vals1 r
  obtain rfl : u = Value.ref a := ru
  obtain ⟨e1, e2⟩ := refs_back rv fun x m => by
    obtain ⟨t, e, _⟩ := hx x m
    exact ⟨t, e⟩
  refine SrtO.sorted_pairsO (k := fun u => k (backV u)) hl.isList (by rw [← rv.length]; exact hz) (fun v hv => ?_) fun h' d out h1 h2 kp hd hn => ?_
  · obtain ⟨t, rfl⟩ := e2 v hv
    have hm : V.ref t ∈ xs := by rw [e1]; exact List.mem_map.mpr ⟨_, hv, rfl⟩
    obtain ⟨t', e, ht⟩ := hx _ hm
    cases e
    obtain ⟨its2, r2, ⟨o, ho, hc, n, hd⟩, _⟩ := I.tuple ht
    obtain ⟨u1, u2, rfl, ri, rj⟩ := vals2 r2
    obtain ⟨t1, rfl⟩ := ri
    obtain ⟨t2, rfl⟩ := rj
    exact ⟨t, o, t1, t2, n, rfl, ho, hc, hd⟩
  · have h3 : ∀ u ∈ out, ∃ a, u = Value.ref a := fun u hu => e2 u (h2.perm.mem_iff.mp hu)
    obtain ⟨n, hn⟩ := hn
    have hb : SrtO.Stb (ltP k) (out.map backV) xs := by
      rw [e1]
      exact SrtO.Stb.map (ltP_swo k) backV h2
    refine ⟨.ref d, upd H d (.lst (out.map backV)), I.laid (t' := s.toks) kp hd ⟨?_, out, n, vals_back h3, hn⟩, rfl, q _ d (SrtO.srtd_map h1) hb (I.hok.fresh hd)⟩
    rw [hb.len]
    rw [← hb.len, List.length_map, h2.len, ← rv.length]; exact hz
end
open Classical in
noncomputable def keyP (K : PySem.W.Frag) (m : M) (H : Hp) (x : V) : Int × Int := if h : ∃ p : Int × Int, Rep K m H (pairD p) x then h.choose else (0, 0)
theorem keyP_rep {K : PySem.W.Frag} {m : M} {H : Hp} {x : V} {p : Int × Int} (h : Rep K m H (pairD p) x) : Rep K m H (pairD (keyP K m H x)) x := by
  unfold keyP
  have e : ∃ p : Int × Int, Rep K m H (pairD p) x := ⟨p, h⟩
  rw [dif_pos e]
  exact e.choose_spec
theorem rep_pair {K : PySem.W.Frag} {m : M} {H : Hp} {x : V} {p : Int × Int} (h : Rep K m H (pairD p) x) : ∃ t, x = .ref t ∧ TupAt K m H t [.int p.1, .int p.2] := by
  unfold pairD at h
  simp only [Rep, RepL] at h
  obtain ⟨a, vs, rfl, h1, v, r, rfl, rfl, v2, r2, rfl, rfl, rfl⟩ := h
  exact ⟨a, rfl, h1⟩
theorem pair_of {K : PySem.W.Frag} {m : M} {H : Hp} {x : V} {t : Addr} {i j : Int} (h : TupAt K m H t [.int i, .int j]) : Rep K m H (pairD (i, j)) (.ref t) := by
  unfold pairD
  simp only [Rep]
  exact ⟨t, _, rfl, h, .cons rep_int (.cons rep_int .nil)⟩
theorem pair_uniq {X : Cx} {pins : List (Addr × Obj)} {σ : L2.St} {H : Hp} {s : Shared} {m : M} (I : Inv X pins σ H s) {x : V} {p q : Int × Int} (h : Rep X.K m H (pairD p) x) (h' : Rep X.K m H (pairD q) x) : p = q := by
  obtain ⟨t, rfl, h1⟩ := rep_pair h
  obtain ⟨t', e, h2⟩ := rep_pair h'
  cases e
  obtain ⟨its, r, ⟨o, ho, _, n, hd⟩, _⟩ := I.tuple (tupAt_sq h1)
  obtain ⟨its2, r2, ⟨o2, ho2, _, n2, hd2⟩, _⟩ := I.tuple (tupAt_sq h2)
  rw [ho] at ho2
  cases ho2
  rw [hd] at hd2
  have e3 : its = its2 := by
    have : its.toArray = its2.toArray := by injection hd2
    simpa using this
  subst e3
  obtain ⟨u1, u2, e4, ⟨t1, a1⟩, ⟨t2, a2⟩⟩ := vals2 r
  obtain ⟨w1, w2, e5, ⟨t3, a3⟩, ⟨t4, a4⟩⟩ := vals2 r2
  rw [e4] at e5
  cases e5
  rw [a1] at a3
  rw [a2] at a4
  injection a3 with b1 _
  injection a4 with b2 _
  exact Prod.ext b1 b2
def rSP (K : PySem.W.Frag) : List V → Hp → VK → Prop := fun vs H Q => ∃ d m ps v, vs = [v] ∧ Rep K m H d v ∧ Sim K m H ∧ look m d = .lst (List.map pairD ps) ∧
  ∀ qs : List (Int × Int), qs.Perm ps → qs.Pairwise (fun p q => SrtO.lexB q p = false) → ∀ w H', Fr m H m H' → Sim K m H' → Rep K m H' (.lst (qs.map pairD)) w → Q w H'
section
variable {X : Cx}
theorem call_sortP : CallR X (.builtin "sorted") (rSP X.K) := by
  rintro pins s σ H vs us Q I r ⟨d, m, ps, v, rfl, rd, sm, e, kq⟩
  have c := cont_of sm rd
  rw [e] at c
  obtain ⟨a, xs, rfl, ha, rl⟩ := cont_lst c
  have all : ∀ (ps : List (Int × Int)) (xs : List V), RepL X.K m H (ps.map pairD) xs → xs.map (keyP X.K m H) = ps ∧ ∀ x ∈ xs, Rep X.K m H (pairD (keyP X.K m H x)) x := by
    intro ps
    induction ps with
    | nil => intro xs h; simp only [List.map_nil, RepL] at h; subst h; exact ⟨rfl, fun x hx => by cases hx⟩
    | cons p ps ih =>
      intro xs h
      simp only [List.map_cons, RepL] at h
      obtain ⟨v, r, rfl, h1, h2⟩ := h
      obtain ⟨i1, i2⟩ := ih r h2
      have k1 := keyP_rep h1
      have k2 := pair_uniq I k1 h1
      refine ⟨by rw [List.map_cons, i1, k2], fun x hx => ?_⟩
      rcases List.mem_cons.mp hx with rfl | hx
      · exact k1
      · exact i2 x hx
  obtain ⟨e1, e2⟩ := all ps xs rl
  refine cr_sortPD pins s σ H _ us Q I r ⟨a, xs, keyP X.K m H, rfl, .of ha, fun x hx => ?_, fun ys p hs hb hp => ?_⟩
  · obtain ⟨t, ht, h⟩ := rep_pair (e2 x hx)
    exact ⟨t, ht, tupAt_sq h⟩
  · have hr : ∀ ys : List V, (∀ y ∈ ys, y ∈ xs) → RepL X.K m H ((ys.map (keyP X.K m H)).map pairD) ys := by
      intro ys
      induction ys with
      | nil => intro _; exact .nil
      | cons y ys ih => intro h; exact .cons (e2 y (h y List.mem_cons_self)) (ih fun z hz => h z (List.mem_cons_of_mem _ hz))
    refine kq (ys.map (keyP X.K m H)) ?_ ?_ _ _ (Fr.laid sm hp) (sm.laid hp) (new_lst sm hp (hr ys fun y hy => hb.perm.mem_iff.mp hy))
    · rw [← e1]; exact hb.perm.map _
    · exact List.pairwise_map.mpr hs
/-- sorted(xs), xs a list of pairs of ints -/
def tSortP (te : DTE) : DTE := fun env m Q => te env m fun d m1 => ∃ ps, look m1 d = .lst (List.map pairD ps) ∧ ∀ qs : List (Int × Int), qs.Perm ps → qs.Pairwise (fun p q => SrtO.lexB q p = false) → Q (.lst (qs.map pairD)) m1
theorem de_sortP {e : Expr} {te : DTE} {p pos : Pos} (hm : X.mg "sorted" = none) (he : DE X e te) (hg : Gl X "sorted" := by rfl) (hs : starEach [e] X.env = (false, eval e X.env) :: starEach [] X.env := by rfl) (hpl : (backTo pos (starEach [] X.env)).any (·.1) = false := by rfl) :
    DE X (.Call (.Name "sorted" p) [e] [] pos) (tSortP te) :=
  ⟨PE.weak (pe_callB call_sortP hg hm (by decide +kernel) (pa_cons he.run pa_nil hs) (by decide) (by decide) hs hpl) fun σ H Q h => by
    obtain ⟨env, m, R, eo, s, h, kq⟩ := h
    refine ⟨env, m, _, eo, s, h, fun x m1 v H1 h1 f1 s1 r1 => ?_⟩
    obtain ⟨ps, e1, h1⟩ := h1
    exact ⟨x, m1, ps, v, rfl, r1, s1, e1, fun qs q1 q2 w H2 f2 s2 r2 => kq _ m1 w H2 (h1 qs q1 q2) (f1.trans f2) s2 r2⟩⟩
end
end DL
/-! ### DL27: data that may be compared and shown -/
namespace DL
open PySem PySem.Spec PyProof.Rows L2
def okS (s : Str) : Prop := PyData.strOk s = true ∧ s.length ≤ 8
/-- what the readings ask of data -/
structure Fit (d : D) (n w : Nat) : Prop where
  dat : dat n d = true
  sh : PyData.showable (toPd d) = true
  i : PyData.intsShort 13 (toPd d) = true
  w : PyData.weight (toPd d) ≤ w
structure FitL (ds : List D) (n w : Nat) : Prop where
  dat : datL n ds = true
  sh : PyData.showableAll (toPdL ds) = true
  i : PyData.intsShortAll 13 (toPdL ds) = true
  w : PyData.weightAll (toPdL ds) ≤ w
theorem FitL.nil {n : Nat} : FitL [] n 0 := ⟨rfl, rfl, rfl, by simp [toPdL, PyData.weightAll]⟩
theorem FitL.cons {d : D} {ds : List D} {n a b : Nat} (h : Fit d n a) (k : FitL ds n b) : FitL (d :: ds) n (a + 1 + b) := by
  refine ⟨?_, ?_, ?_, ?_⟩
  · simp only [datL, h.dat, k.dat, Bool.and_self]
  · simp only [toPdL, PyData.showableAll, h.sh, k.sh, Bool.and_self]
  · simp only [toPdL, PyData.intsShortAll, h.i, k.i, Bool.and_self]
  · simp only [toPdL, PyData.weightAll]
    have := h.w
    have := k.w
    omega
theorem FitL.all {α : Type} {f : α → D} {n a : Nat} : ∀ (xs : List α), (∀ x ∈ xs, Fit (f x) n a) → FitL (xs.map f) n ((a + 1) * xs.length)
  | [], _ => FitL.nil
  | x :: xs, h => by
    have := FitL.cons (h x List.mem_cons_self) (FitL.all xs fun y hy => h y (List.mem_cons_of_mem _ hy))
    rw [List.length_cons, Nat.mul_succ, Nat.add_comm]
    exact this
theorem FitL.le {ds : List D} {n a b : Nat} (h : FitL ds n a) (hab : a ≤ b) : FitL ds n b := ⟨h.dat, h.sh, h.i, Nat.le_trans h.w hab⟩
theorem Fit.le {d : D} {n a b : Nat} (h : Fit d n a) (hab : a ≤ b) : Fit d n b := ⟨h.dat, h.sh, h.i, Nat.le_trans h.w hab⟩
theorem FitL.tup {ds : List D} {n a : Nat} (h : FitL ds n a) : Fit (.tup ds) (n + 1) (a + 10) := by
  refine ⟨?_, ?_, ?_, ?_⟩
  · simp only [DL.dat, h.dat]
  · simp only [toPd, PyData.showable, h.sh]
  · simp only [toPd, PyData.intsShort, h.i]
  · simp only [toPd, PyData.weight]
    have := h.w
    omega
theorem fit_str {s : Str} {n : Nat} (h : okS s) : Fit (.str s) n 20 := by
  refine ⟨?_, rfl, ?_, ?_⟩
  · cases n <;> exact h.1
  · rfl
  · simp only [toPd, PyData.weight]
    have : s.cps.size ≤ 8 := h.2
    omega
theorem fit_non {n : Nat} : Fit .non n 20 := by
  refine ⟨by cases n <;> rfl, rfl, rfl, ?_⟩
  simp [toPd, PyData.weight]
theorem log2_small {k : Nat} (h : k ≤ 1000000) : k.log2 < 20 := by
  by_cases z : k = 0
  · rw [z]; decide
  · rw [Nat.log2_lt z]
    exact Nat.lt_of_le_of_lt h (by decide)
theorem fit_int {i : Int} {n : Nat} (h : i.natAbs ≤ 1000000) : Fit (.int i) n 20 := by
  refine ⟨by cases n <;> rfl, ?_, ?_, ?_⟩
  · simp only [toPd, PyData.showable, decide_eq_true_eq]
    have := log2_small h
    omega
  · simp only [toPd, PyData.intsShort, decide_eq_true_eq]
    exact PyData.shown_int_le (Nat.lt_of_le_of_lt h (by decide))
  · simp only [toPd, PyData.weight]
    have := log2_small h
    split <;> omega
theorem fit_bl {b : Bool} {n : Nat} : Fit (.bl b) n 20 := by
  refine ⟨by cases n <;> rfl, rfl, rfl, ?_⟩
  simp [toPd, PyData.weight]
theorem FitL.lst {ds : List D} {n a : Nat} (h : FitL ds n a) : Fit (.lst ds) (n + 1) (a + 10) := by
  refine ⟨?_, ?_, ?_, ?_⟩
  · simp only [DL.dat, h.dat]
  · simp only [toPd, PyData.showable, h.sh]
  · simp only [toPd, PyData.intsShort, h.i]
  · simp only [toPd, PyData.weight]
    have := h.w
    omega
/-! repr of anything -/
def dReprA : D → Option D
  | .bl b => some (.str (if b then "True" else "False"))
  | .non => some (.str "None")
  | .int i => if i.natAbs.log2 < 1920 then some (.str (toString i)) else none
  | .str x => if (reprText x).length ≤ sizeLine then some (.str (reprText x)) else none
  | d => dRepr d
section
variable {X : Cx}
theorem dc_reprA (hg : X.A.guards = some []) (hu : X.A.units + 65 < cLine) : DCall X (.builtin "repr") (d1 dReprA) := by
  intro pins s σ H xs us Q I r ⟨ds, m, d, rl, sm, e, q⟩
  cases ds with
  | nil => cases e
  | cons x ds =>
    cases ds with
    | cons _ _ => cases e
    | nil =>
      obtain ⟨v, rfl, rx⟩ := repL1 rl
      have c := cont_of sm rx
      have e0 : d1 dReprA m [x] = dReprA (look m x) := rfl
      have e1 : d1 dRepr m [x] = dRepr (look m x) := rfl
      have hold := dc_repr hg hu pins s σ H [v] us Q I r
      rw [e0] at e
      generalize look m x = cX at *
      obtain ⟨u, rfl, ru⟩ := vals1 r
      unfold dReprA at e
      split at e
      · cases e
        rw [cont_bl c] at ru
        cases ru
        exact PySem.P.repr_of_bool ⟨.str _, H, I.tok _, ⟨_, rfl⟩, q _ H Fr.refl sm rep_str⟩
      · cases e
        rw [cont_non c] at ru
        cases ru
        exact PySem.P.repr_of_none ⟨.str _, H, I.tok _, ⟨_, rfl⟩, q _ H Fr.refl sm rep_str⟩
      · split at e
        · rename_i hz
          cases e
          rw [cont_int c] at ru
          obtain ⟨t, rfl⟩ := ru
          exact PySem.P.repr_of_int hz ⟨.str _, H, I.tok _, ⟨_, rfl⟩, q _ H Fr.refl sm rep_str⟩
        · cases e
      · split at e
        · rename_i hz
          cases e
          rw [cont_str c] at ru
          obtain ⟨t, rfl⟩ := ru
          exact PySem.P.repr_of_str ⟨.str _, H, I.tok _, ⟨_, rfl⟩, q _ H Fr.refl sm rep_str⟩ hz
        · cases e
      · exact hold ⟨[x], m, d, rl, sm, e1.trans e, q⟩
end
theorem fit_shown {d : D} {w : Nat} (h : Fit d 60 w) (hw : w ≤ 1000000) : dat 60 d = true ∧ (toPd d).showable = true ∧ (toPd d).shown.length ≤ sizeLine :=  ⟨h.dat, h.sh, PyData.shown_fits (B := 13) (by decide) (by decide) (PyData.leavesShort_of_canLay0 13 _ (dat_lay 60 _ h.dat).1 h.i) (Nat.le_trans h.w (Nat.le_trans hw (by decide)))⟩
theorem repr_tup {ds : List D} {w : Nat} (h : Fit (.tup ds) 60 w) (hw : w ≤ 1000000) : dReprA (.tup ds) = some (.str (toPd (.tup ds)).shown) := if_pos (fit_shown h hw)
theorem repr_lst {ds : List D} {w : Nat} (h : Fit (.lst ds) 60 w) (hw : w ≤ 1000000) : dReprA (.lst ds) = some (.str (toPd (.lst ds)).shown) := if_pos (fit_shown h hw)
theorem eq_refl {d : D} {ds : List D} {w : Nat} (e : d = .tup ds) (h : Fit d 60 w) : dEqB d d = some true := by
  subst e
  unfold dEqB
  simp only
  rw [if_pos ⟨h.dat, h.dat⟩]
  exact congrArg some (SeqAt.eqv_refl _ (dat_lay 60 _ h.dat).1)
end DL
/-! ### DL28: `in` by an own class's method, a class called with two starred lists, class methods by names, static methods -/
namespace DL
open PySem PySem.Spec PyProof.Rows L2
section
variable {M : Model} {A : Around} {E : Value → Shared → Prop} {s : Shared}
theorem evalArgs_two {f : Value} {x y : Sem Value} {b : Bool} {rest : List (Bool × Sem Value)} {Q : Args → Shared → Prop}
    (h : wpAny M A (spliced ((true, x) :: (b, y) :: rest)) (fun vs s' => Q ⟨vs, []⟩ s') E s) : wpAny M A (evalArgs f true ((true, x) :: (b, y) :: rest) []) Q E s := by
  unfold evalArgs
  show wpAny M A (spliced ((true, x) :: (b, y) :: rest) >>= _) Q E s
  refine wpAny_bind (wpAny_mono h (fun vs s' h' => ?_) fun _ _ x => x)
  refine wpAny_holding ?_
  exact wpAny_bind (wpAny_pure (wpAny_bind (wpAny_pure (wpAny_pure h'))))
end
section
variable {X : Cx} {k : Nat} {sp : DSp} {C : Addr} {x : Str} {p pos : Pos} {e1 e2 : Expr} {p1 p2 : Pos} {t : DTA} {tf : DTE}
theorem pe_newSS {f : Addr} {sp : Sp} {E : XK} {CX : CXT} {tf : TE} {t : TA} (M0 : Mk X.K C f) (F : FnG X.prog X.w X.K X.mg X.base CX k f sp) (hr : RoomG (k + 1) X.A) (hx : Passes CX X E) (hf : PE X (.Name x p) tf) (ha : PA X [.Starred e1 p1, .Starred e2 p2] t)
    (hst : starEach [.Starred e1 p1, .Starred e2 p2] X.env = [(true, eval e1 X.env), (true, eval e2 X.env)] := by rfl) :
    PE X (.Call (.Name x p) [.Starred e1 p1, .Starred e2 p2] [] pos) (fun σ H Q => tf σ H fun z H0 => z = .ref C ∧ StX.tMakeR C sp E t σ H0 Q) := by
  refine ⟨fun pins s σ H Q I h => ?_⟩
  refine wpAny_Call_Name_kw (thn (hf.run pins s σ H _ I h) fun u s0 ⟨z, H0, I0, rz, ez, q0⟩ => ?_)
  subst ez
  obtain rfl : u = Value.ref C := rz
  have ha' := ha.run pos pins s0 σ H0 _ I0 q0
  rw [hst] at ha' ⊢
  refine PySem.W.ks_call (P := X.K.In) rfl (PySem.W.keeps_K M0.kp) (evalArgs_two (thn ha' fun us s1 ⟨vs, H1, I1, r, q⟩ => ?_))
  exact ⟨I1.kIn, run_makeG M0 F hr hx I1 r q⟩
theorem de_newSS (c : CalC X C k sp) (hr : RoomG (k + 1) X.A) (hf : DE X (.Name x p) tf) (ha : DA X [.Starred e1 p1, .Starred e2 p2] t)
    (hst : starEach [.Starred e1 p1, .Starred e2 p2] X.env = [(true, eval e1 X.env), (true, eval e2 X.env)] := by rfl) :
    DE X (.Call (.Name x p) [.Starred e1 p1, .Starred e2 p2] [] pos) (tNwF C sp tf t) := by
  obtain ⟨f, M0, F⟩ := c.ex
  refine ⟨PE.weak (pe_newSS M0 F hr pass0 hf.run ha.run hst) fun σ H Q h => ?_⟩
  obtain ⟨env, m, R, eo, s, h, k⟩ := h
  refine ⟨env, m, _, eo, s, h, fun z m0 v0 H0 h0 f0 s0 r0 => ?_⟩
  obtain ⟨rfl, h0⟩ := h0
  refine ⟨by simpa only [Rep] using r0, env, m0, _, eo.mono f0, s0, h0, fun ds m1 vs H1 h1 f1 s1 r1 => ?_⟩
  exact nw_lift s1 r1 h1 fun d m' v H' a1 a2 a3 a4 => k d m' v H' a1 ((f0.trans f1).trans a2) a3 a4
end
/-! in -/
def rInO (K : PySem.W.Frag) (C : Addr) (sp : DSp) (g : Bool → Bool) : R2 := fun v u H Q => ∃ x y m, Rep K m H x v ∧ Rep K m H y u ∧ Sim K m H ∧ (∃ ns vs, look m y = .ins C ns vs) ∧
  liftSp K sp [u, v] H (fun w H' => ∃ b, w = .bl b ∧ Q (.bl (g b)) H') E0
section
variable {X : Cx} {C : Addr} {k : Nat} {sp : DSp}
theorem op_inO (c : CalM X C "__contains__" k sp) (hr : RoomG k X.A) : OpR X (compareOp .In) (rInO X.K C sp id) := by
  intro pins s σ H v u a b Q I rv ru ⟨x, y, m, rx, ry, sm, ⟨ns, vs, ey⟩, hsp⟩
  obtain ⟨f, hm, F⟩ := c.ex
  have cy := cont_of sm ry
  rw [ey] at cy
  obtain ⟨p, dx, fs, rfl, hp, _, _⟩ := cy
  cases ru
  obtain ⟨mA, J, _⟩ := ins_get I.hok hp
  obtain ⟨od, J, _⟩ := J.look
  obtain ⟨m0, hF⟩ := I.fr
  refine PySem.W.in_K hF I.ok.mod.kin J hm.at_ hm.fn ?_
  refine wpAny_mono (run_fnA (us := [Value.ref p, a]) (vs := [V.ref p, v]) rfl F hr pass0 I (.cons rfl (.cons rv .nil)) hsp) (fun r s' hq => ?_) fun _ _ x => x
  obtain ⟨w, H', I', rw', b, rfl, q⟩ := hq
  cases rw'
  exact wpAny_truthy_bool ⟨.bl b, H', I', rfl, q⟩
theorem op_ninO (c : CalM X C "__contains__" k sp) (hr : RoomG k X.A) : OpR X (compareOp .NotIn) (rInO X.K C sp not) := by
  intro pins s σ H v u a b Q I rv ru ⟨x, y, m, rx, ry, sm, ⟨ns, vs, ey⟩, hsp⟩
  obtain ⟨f, hm, F⟩ := c.ex
  have cy := cont_of sm ry
  rw [ey] at cy
  obtain ⟨p, dx, fs, rfl, hp, _, _⟩ := cy
  cases ru
  obtain ⟨mA, J, _⟩ := ins_get I.hok hp
  obtain ⟨od, J, _⟩ := J.look
  obtain ⟨m0, hF⟩ := I.fr
  refine PySem.W.notIn_K hF I.ok.mod.kin J hm.at_ hm.fn ?_
  refine wpAny_mono (run_fnA (us := [Value.ref p, a]) (vs := [V.ref p, v]) rfl F hr pass0 I (.cons rfl (.cons rv .nil)) hsp) (fun r s' hq => ?_) fun _ _ x => x
  obtain ⟨w, H', I', rw', b, rfl, q⟩ := hq
  cases rw'
  exact wpAny_truthy_bool ⟨.bl (!b), H', I', rfl, q⟩
/-- x in y, x not in y by C's __contains__ -/
def tInO (C : Addr) (sp : DSp) (g : Bool → Bool) (ta tb : DTE) : DTE := fun env m Q => ta env m fun x m1 => tb env m1 fun y m2 => (∃ ns vs, look m2 y = .ins C ns vs) ∧ sp [y, x] m2 fun d m3 => ∃ b, d = .bl b ∧ Q (.bl (g b)) m3
variable {a b : Expr} {ta tb : DTE} {pos : Pos}
theorem inO_lift {g : Bool → Bool} {σ : L2.St} {H : Hp} {Q : VK} (h : liftE X.K (tInO C sp g ta tb) σ H Q) : tOp (rInO X.K C sp g) (liftE X.K ta) (liftE X.K tb) σ H Q := by
  obtain ⟨env, m, R, eo, s, h, k⟩ := h
  refine ⟨env, m, _, eo, s, h, fun x m1 v H1 h1 f1 s1 r1 => ?_⟩
  refine ⟨env, m1, _, eo.mono f1, s1, h1, fun y m2 u H2 h2 f2 s2 r2 => ?_⟩
  obtain ⟨e1, h2⟩ := h2
  refine ⟨x, y, m2, Rep.mono f2 _ _ r1, r2, s2, e1, [y, x], m2, _, .cons r2 (.cons (Rep.mono f2 _ _ r1) .nil), s2, h2, fun d m3 w H3 h3 f3 s3 r3 => ?_⟩
  obtain ⟨b, rfl, h3⟩ := h3
  exact ⟨b, by simpa only [Rep] using r3, k _ m3 _ H3 h3 ((f1.trans f2).trans f3) s3 rep_bl⟩
theorem de_inO (c : CalM X C "__contains__" k sp) (hr : RoomG k X.A) (ha : DE X a ta) (hb : DE X b tb) (hm : behindInMarks .In b = false := by first | exact nomark _ | rfl) : DE X (.Compare a [.In] [b] pos) (tInO C sp id ta tb) :=
  ⟨PE.weak (pe_cmpR (op_inO c hr) ha.run hb.run hm) fun _ _ _ h => inO_lift h⟩
theorem de_ninO (c : CalM X C "__contains__" k sp) (hr : RoomG k X.A) (ha : DE X a ta) (hb : DE X b tb) (hm : behindInMarks .NotIn b = false := by first | exact nomark _ | rfl) : DE X (.Compare a [.NotIn] [b] pos) (tInO C sp not ta tb) :=
  ⟨PE.weak (pe_cmpR (op_ninO c hr) ha.run hb.run hm) fun _ _ _ h => inO_lift h⟩
def tInOT (C : Addr) (sp : DSp) (g : Bool → Bool) (ta tb : DTE) : DTT := fun env m Q => ta env m fun x m1 => tb env m1 fun y m2 => (∃ ns vs, look m2 y = .ins C ns vs) ∧ sp [y, x] m2 fun d m3 => ∃ b, d = .bl b ∧ Q (g b) m3
theorem inOT_lift {g : Bool → Bool} {σ : L2.St} {H : Hp} {Q : Bool → Hp → Prop} (h : liftT X.K (tInOT C sp g ta tb) σ H Q) : tOp (rInO X.K C sp g) (liftE X.K ta) (liftE X.K tb) σ H (fun w H' => ∃ k, w = .bl k ∧ Q k H') := by
  obtain ⟨env, m, R, eo, s, h, k⟩ := h
  refine ⟨env, m, _, eo, s, h, fun x m1 v H1 h1 f1 s1 r1 => ?_⟩
  refine ⟨env, m1, _, eo.mono f1, s1, h1, fun y m2 u H2 h2 f2 s2 r2 => ?_⟩
  obtain ⟨e1, h2⟩ := h2
  refine ⟨x, y, m2, Rep.mono f2 _ _ r1, r2, s2, e1, [y, x], m2, _, .cons r2 (.cons (Rep.mono f2 _ _ r1) .nil), s2, h2, fun d m3 w H3 h3 f3 s3 r3 => ?_⟩
  obtain ⟨b, rfl, h3⟩ := h3
  exact ⟨b, by simpa only [Rep] using r3, g b, rfl, k _ m3 H3 h3 ((f1.trans f2).trans f3) s3⟩
theorem dt_inO (c : CalM X C "__contains__" k sp) (hr : RoomG k X.A) (ha : DE X a ta) (hb : DE X b tb) (hm : behindInMarks .In b = false := by first | exact nomark _ | rfl) : DT X (.Compare a [.In] [b] pos) (tInOT C sp id ta tb) :=
  ⟨PT.weak (pt_cmpR (op_inO c hr) ha.run hb.run hm) fun _ _ _ h => inOT_lift h⟩
theorem dt_ninO (c : CalM X C "__contains__" k sp) (hr : RoomG k X.A) (ha : DE X a ta) (hb : DE X b tb) (hm : behindInMarks .NotIn b = false := by first | exact nomark _ | rfl) : DT X (.Compare a [.NotIn] [b] pos) (tInOT C sp not ta tb) :=
  ⟨PT.weak (pt_cmpR (op_ninO c hr) ha.run hb.run hm) fun _ _ _ h => inOT_lift h⟩
end
/-! class methods by the names of parameters; static methods -/
structure CalKK (X : Cx) (C : Addr) (m : Str) (k : Nat) (n : Nat) (ks : List Str) (is : List Nat) (sp : DSp) : Prop where
  ex : ∃ mc p g, ClX.CRead X.K C mc ∧ ClX.CMet X.K C mc m p g ∧ FnGK X.prog X.w X.K X.mg X.base CX0 k g n ks is (liftSp X.K sp)
/-- C.m is a static method: its record at p, its def at g -/
structure SMet (K : PySem.W.Frag) (C : Addr) (mc : Value) (m : Str) (p g : Addr) : Prop where
  at_ : PySem.W.findCls K (.ref C) mc m = some (.get (.builtin "staticmethod.__get__") (.ref p) .none (.ref C))
  rc : ∃ rest, PySem.W.recIn K p "staticmethod" = some (.ref g :: rest)
  kp : PySem.W.keepIn K (.ref g) = true
structure CalS (X : Cx) (C : Addr) (m : Str) (k : Nat) (sp : DSp) : Prop where
  ex : ∃ mc p g, ClX.CRead X.K C mc ∧ SMet X.K C mc m p g ∧ FnG X.prog X.w X.K X.mg X.base CX0 k g (liftSp X.K sp)
section
variable {X : Cx} {k n : Nat} {ks : List Str} {is : List Nat} {sp : DSp} {C : Addr} {m : Str} {p pos apos : Pos} {kws : List Keyword} {t : DTA}
theorem run_fnCK {pins : List (Addr × Obj)} {σ : L2.St} {H : Hp} {s : Shared} {CX : CXT} {f : Addr} {sp : Sp} {E : XK} {Q : VK} {us ws : List Value} {vs zs : List V} (F : FnGK X.prog X.w X.K X.mg X.base CX k f n ks is sp) (hr : RoomG k X.A) (hx : Passes CX X E) (I : Inv X pins σ H s) (r : Vals vs us) (rz : Vals zs ws)
    (ln : vs.length = n) (lz : zs.length = ks.length) (q : sp (permL is (vs ++ zs)) H Q E) : codeAny (model X.prog X.w) X.A (.call (.ref f) ⟨us, ks.zip ws⟩) (fun r s' => match r with | .ok (.ret v) => EP X pins σ Q v s' | .ok _ => False | .error e => X.xe e s') s :=
  codeAny_mono (F X.A X.stack s H us ws vs zs Q E hr I.env0 r rz ln lz q) fun res s' h => match res, h with
    | .error e, h => hx pins σ H s e s' I h
    | .ok (.ret u), h => I.after h
    | .ok .next, h => h.elim
    | .ok .brk, h => h.elim
    | .ok .cont, h => h.elim
/-- C.m(x = .., ..) -/
def tCmK (C : Addr) (ks : List Str) (is : List Nat) (sp : DSp) (t : DTA) : DTE := fun env st Q => t env st fun ds m2 => ds.length = ks.length ∧ sp (permL is (.ref C :: ds)) m2 Q
theorem de_cmethK {pl : Sem Bool} {cx : Str} {cp : Pos} (c : CalKK X C m k 1 ks is sp) (hr : RoomG k X.A) (hm : X.mg cx = some (.ref C)) (ha : DK_ X kws t) (hg : Gl X cx := by rfl) (hd : (cx == ("__debug__" : Str)) = false := by decide)
    (hall : (backToKw pos (keywordEach kws X.env)).all (·.1.isSome) = true := by rfl) (hks : (backToKw pos (keywordEach kws X.env)).filterMap (·.1) = ks := by rfl)
    (hpl : ((backTo pos (starEach [] X.env)).any (·.1) || (backToKw pos (keywordEach kws X.env)).any (·.1.isNone)) = false := by rfl)
    (ht : eval (.Call (.Attribute (.Name cx cp) m apos) [] kws pos) X.env = (do
      let ov ← eval (.Name cx cp) X.env
      standAt apos.atName
      let (f, first) ← holding [ov] (getMethod ov m pl)
      callWith pos f first (backTo pos (starEach [] X.env)) (backToKw pos (keywordEach kws X.env))) := by rfl) :
    DE X (.Call (.Attribute (.Name cx cp) m apos) [] kws pos) (tCmK C ks is sp t) := by
  obtain ⟨mc, q0, g, h1, h2, F⟩ := c.ex
  refine ⟨⟨fun pins s σ H Q I h => ?_⟩⟩
  obtain ⟨env, mm, R, eo, sm, h, kq⟩ := h
  have h0 : liftA X.K t σ H (fun zs H2 => zs.length = ks.length ∧ liftSp X.K sp (permL is (.ref C :: zs)) H2 Q E0) := by
    refine ⟨env, mm, _, eo, sm, h, fun ds m2 ws H2 h3 f2 s2 r3 => ?_⟩
    obtain ⟨hl, h3⟩ := h3
    exact ⟨by rw [← r3.length]; exact hl, permL is (.ref C :: ds), m2, R, permL_rep (.cons rep_ref r3) is, s2, h3, fun d' m' v H' a1 a2 a3 a4 => kq d' m' v H' a1 (f2.trans a2) a3 a4⟩
  refine PySem.W.methodCall_KW (pl := pl) (thn ((pe_glob (v := .ref C) hg hm rfl hd).run pins s σ H (fun x H' => x = .ref C ∧ H' = H) I ⟨rfl, rfl⟩) fun u s1 hx1 => ?_) ht
  obtain ⟨x, H1, I1, rx, rfl, rfl⟩ := hx1
  obtain rfl : u = Value.ref C := rx
  refine ClX.getmethcm_ok I1 h1 h2 fun s2 I2 => ?_
  refine PySem.W.callWith_of (P := PySem.W.MethP X.K _ g (.ref C)) hpl (PySem.W.keeps_M h2.fi) (evalArgs_kw2_nil hall (thn (ha.run.run pos _ s2 σ H1 _ I2 h0) fun ws s3 hx3 => ?_))
  obtain ⟨zs, H2, I3, rv, hl, q2⟩ := hx3
  refine ⟨⟨ClX.pin_at I3, I3.kIn⟩, ?_⟩
  rw [hks]
  exact thn (wpAny_call (PySem.W.method_call (ClX.pin_at I3) (run_fnCK (us := [.ref C]) (vs := [.ref C]) F hr pass0 I3 (.cons rfl .nil) rv rfl hl q2))) fun _ _ y => ClX.unpinE y
/-- C.m(), m a static method -/
def tSm (sp : DSp) : DTE := fun env st Q => sp [] st Q
theorem de_smeth0 {pl : Sem Bool} {cx : Str} {cp : Pos} (c : CalS X C m k sp) (hr : RoomG k X.A) (hm : X.mg cx = some (.ref C)) (hg : Gl X cx := by rfl) (hd : (cx == ("__debug__" : Str)) = false := by decide)
    (ht : eval (.Call (.Attribute (.Name cx cp) m apos) [] [] pos) X.env = (do
      let ov ← eval (.Name cx cp) X.env
      standAt apos.atName
      let (f, first) ← holding [ov] (getMethod ov m pl)
      callWith pos f first (backTo pos (starEach [] X.env)) (backToKw pos (keywordEach [] X.env))) := by rfl) :
    DE X (.Call (.Attribute (.Name cx cp) m apos) [] [] pos) (tSm sp) := by
  obtain ⟨mc, q0, g, h1, h2, F⟩ := c.ex
  refine ⟨⟨fun pins s σ H Q I h => ?_⟩⟩
  obtain ⟨env, mm, R, eo, sm, h, kq⟩ := h
  refine PySem.W.methodCall_KW (pl := pl) (thn ((pe_glob (v := .ref C) hg hm rfl hd).run pins s σ H (fun x H' => x = .ref C ∧ H' = H) I ⟨rfl, rfl⟩) fun u s1 hx1 => ?_) ht
  obtain ⟨x, H1, I1, rx, rfl, rfl⟩ := hx1
  obtain rfl : u = Value.ref C := rx
  obtain ⟨rest, hp⟩ := h2.rc
  refine PySem.W.method_cls I1.kIn h1.ga (PySem.W.cls_bind I1.kIn h1.rd h2.at_ (wpAny_call (PySem.W.sm_get (s := { s1 with toks := s1.toks + 1 }) I1.kIn hp (PySem.W.handed_on rfl ?_))))
  have I2 := I1.tok (s1.toks + 1)
  exact PySem.W.callWith_K0 I2.kIn h2.kp (run_fnG F hr pass0 I2 .nil ⟨[], mm, R, .nil, sm, h, fun d' m' v H' a1 a2 a3 a4 => kq d' m' v H' a1 a2 a3 a4⟩)
end
section
variable (P : Program) (w : World) (K : PySem.W.Frag) (mg : Str → Option Value) (base : Heap)
def CalKKW (C : Addr) (m : Str) (k : Nat) (n : Nat) (ks : List Str) (is : List Nat) (sp : DSp) : Prop := ∃ mc p g, ClX.CRead K C mc ∧ ClX.CMet K C mc m p g ∧ FnGK P w K mg base CX0 k g n ks is (liftSp K sp)
def CalSW (C : Addr) (m : Str) (k : Nat) (sp : DSp) : Prop := ∃ mc p g, ClX.CRead K C mc ∧ SMet K C mc m p g ∧ FnG P w K mg base CX0 k g (liftSp K sp)
end
end DL
/-! ### DL29: great products, t[::-1] of a tuple -/
namespace DLt
open PySem PyProof.Rows HT
section
variable {prog : Program} {w : World} {A : Around} {E : Value → Shared → Prop} {s : Shared}
theorem adjust_rev (n : Nat) : Builtin.Slice.sliceAdjust none none (-1) (n : Int) = ((n : Int) - 1, -1) := by
  unfold Builtin.Slice.sliceAdjust
  simp
theorem places_rev (n : Nat) : Builtin.Slice.slicePlaces ((n : Int) - 1) (-1) (-1) = n := by
  unfold Builtin.Slice.slicePlaces
  have h1 : ¬ ((-1 : Int) > 0) := by omega
  rw [if_neg h1]
  have h2 : (-(-1) : Int) = 1 := rfl
  rw [h2, Int.ediv_one]
  split <;> omega
theorem applied_rev {sl : Addr} {vl vu vs : Value} {n : Nat} {Q : Int × Int × Nat → Shared → Prop} (hs : s.heap.IsSliceOf sl vl vu vs) (pl : IsPart vl none) (pu : IsPart vu none) (ps : IsPart vs (some (-1)))
    (h : Q ((n : Int) - 1, -1, n) s) : wpAny (model prog w) A (Builtin.Slice.sliceApplied (.ref sl) (pure (n : Int))) Q E s := by
  obtain ⟨os, hos, hcs, hds⟩ := id hs
  unfold Builtin.Slice.sliceApplied Builtin.Slice.sliceFields
  refine wpAny_bind (wpAny_bind (wpAny_field hos hds (x := vl) rfl (wpAny_bind (wpAny_field hos hds (x := vu) rfl (wpAny_bind (wpAny_field hos hds (x := vs) rfl (wpAny_pure ?_)))))))
  refine wpAny_bind (slicePart_ ps ?_)
  show wpAny _ _ (if ((-1 : Int) == 0) = true then _ else _) _ _ s
  rw [if_neg (by decide)]
  refine wpAny_bind (slicePart_ pl (wpAny_bind (slicePart_ pu (wpAny_bind (wpAny_pure ?_)))))
  show wpAny _ _ (match Builtin.Slice.sliceAdjust none none (-1) (n : Int) with | (lo, hi) => pure (lo, (-1 : Int), Builtin.Slice.slicePlaces lo hi (-1))) _ _ s
  rw [adjust_rev n]
  show wpAny _ _ (pure ((n : Int) - 1, (-1 : Int), Builtin.Slice.slicePlaces ((n : Int) - 1) (-1) (-1))) _ _ s
  rw [places_rev]
  exact wpAny_pure h
theorem fm_congr {α β : Type} {f g : α → Option β} : ∀ {l : List α}, (∀ x ∈ l, f x = g x) → l.filterMap f = l.filterMap g
  | [], _ => rfl
  | x :: l, h => by
    rw [List.filterMap_cons, List.filterMap_cons, h x List.mem_cons_self, fm_congr fun y hy => h y (List.mem_cons_of_mem _ hy)]
theorem pick_rev (xs : Array Value) : ((List.range xs.size).filterMap fun (m : Nat) => xs[((xs.size : Int) - 1 + (m : Int) * (-1)).toNat]?).toArray = xs.toList.reverse.toArray := by
  refine congrArg List.toArray ?_
  have e : ∀ m ∈ List.range xs.size, xs[((xs.size : Int) - 1 + (m : Int) * (-1)).toNat]? = xs.toList.reverse[m]? := by
    intro m hm
    have hm := List.mem_range.mp hm
    rw [List.getElem?_reverse (by simpa using hm), Array.length_toList]
    have : ((xs.size : Int) - 1 + (m : Int) * (-1)).toNat = xs.size - 1 - m := by omega
    rw [this]; simp
  rw [fm_congr e]
  have hl : xs.size = xs.toList.reverse.length := by simp
  rw [hl]
  generalize xs.toList.reverse = l
  clear e hl
  have : ∀ (l : List Value) (pre : List Value), (List.range' pre.length l.length).filterMap (fun m => (pre ++ l)[m]?) = l := by
    intro l
    induction l with
    | nil => intro pre; rfl
    | cons x l ih =>
      intro pre
      rw [List.length_cons, List.range'_succ, List.filterMap_cons]
      have h1 : (pre ++ x :: l)[pre.length]? = some x := by simp
      rw [h1]
      have h2 := ih (pre ++ [x])
      rw [List.length_append, List.length_singleton, List.append_assoc] at h2
      simp only
      rw [show pre ++ x :: l = pre ++ ([x] ++ l) from rfl, h2]
  have h := this l []
  simpa [List.range_eq_range'] using h
theorem getItem_tuple_rev {t sl : Addr} {items : Array Value} {vl vu vs : Value} {Q : Value → Shared → Prop} (ht : IsTup s.heap t items) (hs : s.heap.IsSliceOf sl vl vu vs) (pl : IsPart vl none) (pu : IsPart vu none) (ps : IsPart vs (some (-1)))
    (h : Q (.ref s.heap.objs.size) { s with heap := s.heap.push { cls := .type "tuple", data := .seq items.toList.reverse.toArray } })
    (hsz : items.size ≤ sizeLine) : wpAny (model prog w) A (getItem (.ref t) (.ref sl)) Q E s := by
  have htake : sizeOk (.seq items.toList.reverse.toArray) := by
    show items.toList.reverse.toArray.size ≤ sizeLine
    rw [List.size_toArray, List.length_reverse, Array.length_toList]
    exact hsz
  obtain ⟨os, hos, hcs, hds⟩ := id hs
  have hTs : s.TypeIs (.ref sl) "slice" := ⟨os, hos, hcs⟩
  unfold getItem
  try with_reducible refine wpAny_holding ?_
  first | refine wpAny_bind (wpAny_pure ?_) | skip
  refine wpAny_bind (wpAny_sequenceKey ht.typeIs (by decide) ?_)
  refine wpAny_bind (wpAny_callSpecial?_slot (name := Str.ofString "__getitem__") ht.typeIs PyProof.Rows.slot_tuple_getitem
    (wpAny_call_entry PyProof.Rows.slot_tuple_getitem ht.typeIs entry_tuple_getitem ?_ (args_tuple_getitem _ _)))
  show wpAny _ _ (Builtin.Tuple.tupleItemsOf (.ref t) >>= _) _ _ s
  refine wpAny_bind (tupleItemsOf_ ht ?_)
  refine wpAny_bind (wpAny_typeOf hTs ?_)
  rw [if_pos (by decide)]
  refine wpAny_bind (applied_rev hs pl pu ps ?_)
  show wpAny _ _ (if (((items.size : Int) - 1) == 0 && (-1 : Int) == 1 && items.size == items.size) = true then _ else _) _ _ s
  rw [if_neg (by simp), pick_rev]
  first
    | exact wpAny_bind (m := Builtin.Tuple.tupleExact _) (wpAny_newObj_type (wpAny_pure ⟨_, rfl, wpAny_pure h⟩) htake)
    | exact wpAny_bind (m := Builtin.Tuple.tupleExact _) (wpAny_newObj_type (wpAny_bind (wpAny_pure (wpAny_pure ⟨_, rfl, wpAny_pure h⟩))) htake)
    | exact wpAny_bind (wpAny_bind (m := Builtin.Tuple.tupleExact _) (wpAny_newObj_type (wpAny_pure (wpAny_pure ⟨_, rfl, wpAny_pure h⟩)) htake))
    | exact wpAny_bind (wpAny_bind (m := Builtin.Tuple.tupleExact _) (wpAny_newObj_type (wpAny_pure ⟨_, rfl, wpAny_pure h⟩) htake))
end
end DLt
namespace DL
open PySem PySem.Spec PyProof.Rows L2
abbrev dMulX := d2I fun i j => if i.natAbs < 2 ^ 1000 ∧ j.natAbs < 2 ^ 1000 then some (.int (i * j)) else none
section
variable {X : Cx}
theorem do_mulX : DOp X (binaryOp .Mult) dMulX := do_2I op_mulX fun i j d e => by
  split at e
  · rename_i hc
    cases e
    exact ⟨mulx_ok hc.1 hc.2 (by decide), fun _ _ => rep_int⟩
  · cases e
def rtRevT (K : PySem.W.Frag) (te : TE) : TE := fun σ H Q => te σ H fun x H1 => ∃ a xs, x = .ref a ∧ SqT K H1 a xs ∧ ∀ p, H1 p = none → Q (.ref p) (upd H1 p (.tup xs.reverse))
theorem pe_revT {e : Expr} {te : TE} {k : Nat} {p1 p2 p3 pos : Pos} (he : PE X e te) : PE X (.Subscript e (.Slice none none (some (.UnaryOp .USub (.Constant (.int 1) k p1) p2)) p3) pos) (rtRevT X.K te) := by
  refine ⟨fun pins s σ H Q I h => ?_⟩
  refine Subscript_ (thn (he.run pins s σ H _ I h) fun v s1 ⟨x, H1, I1, r1, q1⟩ => ?_)
  obtain ⟨a, xs, ex, hx, q⟩ := q1
  subst ex
  cases r1
  have hst : PO X (some (.UnaryOp .USub (.Constant (.int 1) k p1) p2)) (tPart (tUn (rU fun i => .int (-i)) (tC (.int 1)))) := po_some (pe_un un_neg pe_int)
  refine wpAny_Slice (thn (po_none.run pins s1 σ H1 (fun o H2 => o = none ∧ H2 = H1) I1 ⟨rfl, rfl⟩) fun vl s2 ⟨l, H2, I2, pl, el, e2⟩ => ?_)
  subst el e2
  refine thn (po_none.run pins s2 σ H2 (fun o H3 => o = none ∧ H3 = H2) I2 ⟨rfl, rfl⟩) fun vu s3 ⟨u, H3, I3, pu, eu, e3⟩ => ?_
  subst eu e3
  refine thn (hst.run pins s3 σ H3 (fun o H4 => o = some (-1) ∧ H4 = H3) I3 ⟨1, rfl, -1, rfl, rfl, rfl⟩) fun vs s4 ⟨o, H4, I4, ps, eo, e4⟩ => ?_
  subst eo e4
  have I5 : Inv X pins σ H4 { s4 with heap := s4.heap.push { cls := .type "slice", data := .fields #[vl, vu, vs] } } := I4.kept (t' := s4.toks) fun b ob q => Heap.get?_push_of_some _ q
  obtain ⟨its, r, ht, hz⟩ := I5.tuple hx
  have hlen := r.length
  show wpAny (model X.prog X.w) X.A (subscriptTail e (.Slice none none (some (.UnaryOp .USub (.Constant (.int 1) k p1) p2)) p3) (.ref a) (.ref s4.heap.objs.size)) (EP X pins σ Q) X.xe { s4 with heap := s4.heap.push { cls := .type "slice", data := .fields #[vl, vu, vs] } }
  refine tail_any (ops := [.ref a, .ref s4.heap.objs.size]) ht.typeIs (PyProof.Rows.slot_tuple_getitem.lookup) ?_ (by with_unfolding_all rfl)
  refine DLt.getItem_tuple_rev ht (Heap.IsSliceOf.new _ vl vu vs) pl pu ps ?_ (by rw [List.size_toArray]; omega)
  refine ⟨.ref _, _, I5.laid (t' := s4.toks) (o := .tup xs.reverse) (fun b ob q => Heap.get?_push_of_some _ q) (Nat.le_refl _) ?_, rfl, q _ (I5.hok.fresh (Nat.le_refl _))⟩
  exact ⟨by rw [List.length_reverse]; exact hz, its.reverse, r.reverse, IsTup.new _ _⟩
/-- t[::-1] of a tuple -/
def tRevT (te : DTE) : DTE := fun env m Q => te env m fun d m1 => ∃ ds, look m1 d = .tup ds ∧ Q (.tup ds.reverse) m1
theorem de_revT {e : Expr} {te : DTE} {pos : Pos} {k : Nat} {p1 p2 p3 : Pos} (he : DE X e te) : DE X (.Subscript e (.Slice none none (some (.UnaryOp .USub (.Constant (.int 1) k p1) p2)) p3) pos) (tRevT te) := ⟨PE.weak (pe_revT he.run) fun σ H Q h => by
  obtain ⟨env, m, R, eo, s, h, k⟩ := h
  refine ⟨env, m, _, eo, s, h, fun d m1 v H1 h1 f1 s1 r1 => ?_⟩
  obtain ⟨ds, e1, h1⟩ := h1
  have cc := cont_of s1 r1
  rw [e1] at cc
  obtain ⟨q, us, rfl, hq, rq⟩ := cont_tup cc
  exact ⟨q, us, rfl, tupAt_sq hq, fun p hp => k _ _ _ _ h1 (f1.trans (Fr.laid s1 hp)) (s1.laid hp) (new_tup s1 hp rq.reverse)⟩⟩
end
end DL
/-! ### DL30: ranges downwards, constants of classes, classes made by keywords, defaults -/
namespace DL
open PySem PySem.Spec PyProof.Rows L2
/-- hi, hi - 1, .. -/
def dnD (hi : Int) (n : Nat) : List D := (List.range n).map fun (i : Nat) => D.int (hi - i)
theorem items_dn {K : PySem.W.Frag} {m0 : M} {H0 : Hp} {hi : Int} {n : Nat} : Items K (Itc hi (-1) n) (dnD hi n) m0 H0 := fun i m H f s => by
  refine ⟨fun d e => ?_, fun hl => ?_⟩
  rotate_left
  · unfold dnD at hl; rw [List.length_map, List.length_range] at hl; exact Nat.le_of_eq hl.symm
  unfold dnD at e
  rw [List.getElem?_map] at e
  obtain ⟨j, ej, rfl⟩ := Option.map_eq_some_iff.mp e
  have hi' : i < n := by
    rcases Nat.lt_or_ge i (List.range n).length with z | z
    · simpa using z
    · rw [List.getElem?_eq_none z] at ej; cases ej
  rw [List.getElem?_range hi'] at ej
  cases ej
  refine ⟨hi', fun y H' q => ?_⟩
  obtain ⟨rfl, rfl⟩ := q
  have e2 : hi + (i : Int) * (-1) = hi - (i : Int) := by omega
  rw [e2]
  exact ⟨Fr.refl, s, rep_int⟩
def iRg3 (ta : DTA) : DTI := fun env m Q => ta env m fun ds m1 => (∃ i j, ds = [.int i, .int j, .int (-1)] ∧ (-(2 ^ 62) ≤ i ∧ i < 2 ^ 62 ∧ -(2 ^ 62) ≤ j ∧ j < 2 ^ 62) ∧ Q (dnD i (i - j).toNat) m1)
section
variable {X : Cx} {tg a b c : Expr} {pos : Pos}
theorem di_range3 {p : Pos} {ta : DTA} (hm : X.mg "range" = none) (ha : DA X [a, b, c] ta) (hg : Gl X "range" := by rfl) (hs : starEach [a, b, c] X.env = (false, eval a X.env) :: starEach [b, c] X.env := by rfl) (hpl : (backTo pos (starEach [b, c] X.env)).any (·.1) = false := by rfl) :
    DI X tg (.Call (.Name "range" p) [a, b, c] [] pos) (iRg3 ta) :=
  ⟨PI.weak (pi_range3 hg hm ha.run hs hpl) fun σ H R h => by
    obtain ⟨env, m, RR, eo, s, h, k⟩ := h
    refine ⟨env, m, _, eo, s, h, fun ds m1 vs H1 h1 f1 s1 r1 => ?_⟩
    obtain ⟨i, j, rfl, ⟨b1, b2, b3, b4⟩, h1⟩ := h1
    simp only [RepL] at r1
    obtain ⟨v, r', rfl, q1, v2, r2, rfl, q2, v3, r3, rfl, q3, rfl⟩ := r1
    simp only [Rep] at q1 q2 q3
    subst q1; subst q2; subst q3
    exact ⟨i, j, -1, _, rfl, .neg b1 b2 b3 b4, k _ m1 _ H1 h1 f1 s1 items_dn⟩⟩
end
/-! constants of classes -/
def KonD (K : PySem.W.Frag) (C : Addr) (f : Str) (d : D) : Prop := ∃ v u, Con K C f v u ∧ ∀ m H, Rep K m H d v
def CvlD (K : PySem.W.Frag) (C : Addr) (f : Str) (d : D) : Prop := ∃ mc v u, ClX.CRead K C mc ∧ ClX.CVal K C mc f v u ∧ ∀ m H, Rep K m H d v
section
variable {X : Cx} {C : Addr} {e : Expr} {f : Str} {d : D} {ta : DTE} {pos : Pos}
/-- o.f, o an instance of C, f a constant of C -/
def tKi (C : Addr) (f : Str) (d : D) (ta : DTE) : DTE := fun env m Q => ta env m fun o m1 => ∃ ns vs, look m1 o = .ins C ns vs ∧ f ∉ ns ∧ Q d m1
theorem de_con (hc : Cls X.K C) (hk : KonD X.K C f d) (he : DE X e ta) (hb : attributeBase e f X.env (eval e X.env) = eval e X.env := by rfl) : DE X (.Attribute e f pos) (tKi C f d ta) := by
  obtain ⟨v, u, k, r⟩ := hk
  refine ⟨PE.weak (pe_con he.run hb) fun σ H Q h => ?_⟩
  obtain ⟨env, m, R, eo, s, h, kq⟩ := h
  refine ⟨env, m, _, eo, s, h, fun o m1 w H1 h1 f1 s1 r1 => ?_⟩
  obtain ⟨ns, vs, e1, hn, h1⟩ := h1
  have cc := cont_of s1 r1
  rw [e1] at cc
  obtain ⟨a, dx, fs, rfl, h2, rfl, r2⟩ := cc
  exact ⟨a, C, dx, fs, v, u, rfl, h2, hc, k, lookup_none hn, kq _ m1 _ H1 h1 f1 s1 (r _ _)⟩
/-- C.f, f a constant of C -/
def tKc (d : D) : DTE := fun _ m Q => Q d m
theorem de_cval {cx : Str} {cp : Pos} (hk : CvlD X.K C f d) (hm : X.mg cx = some (.ref C)) (hg : Gl X cx := by rfl) (hd : (cx == ("__debug__" : Str)) = false := by decide) (hb : attributeBase (.Name cx cp) f X.env (eval (.Name cx cp) X.env) = eval (.Name cx cp) X.env := by rfl) : DE X (.Attribute (.Name cx cp) f pos) (tKc d) := by
  obtain ⟨mc, v, u, k1, k2, r⟩ := hk
  refine ⟨PE.weak (ClX.pe_cval (pe_glob (v := .ref C) hg hm rfl hd) hb) fun σ H Q h => ?_⟩
  obtain ⟨env, m, R, eo, s, h, kq⟩ := h
  exact ⟨C, mc, v, u, rfl, k1, k2, kq _ m _ H h Fr.refl s (r _ _)⟩
end
/-! classes made by the names of parameters -/
structure CalCK (X : Cx) (C : Addr) (k : Nat) (ks : List Str) (is : List Nat) (sp : DSp) : Prop where
  ex : ∃ f, Mk X.K C f ∧ FnGK X.prog X.w X.K X.mg X.base CX0 k f 1 ks is (liftSp X.K sp)
section
variable {X : Cx} {C : Addr} {k : Nat} {ks : List Str} {is : List Nat} {sp : DSp} {x : Str} {p pos : Pos} {kws : List Keyword} {t : DTA}
theorem run_makeGK {pins : List (Addr × Obj)} {σ : L2.St} {H : Hp} {s : Shared} {CX : CXT} {f : Addr} {sp : Sp} {E : XK} {Q : VK} {ws : List Value} {zs : List V} (M0 : Mk X.K C f) (F : FnGK X.prog X.w X.K X.mg X.base CX k f 1 ks is sp) (hr : RoomG (k + 1) X.A) (hx : Passes CX X E) (I : Inv X pins σ H s) (r : Vals zs ws) (lz : zs.length = ks.length)
    (h : ∀ x dx, H x = none → H dx = none → dx ≠ x → sp (permL is (V.ref x :: zs)) (upd (upd H dx (.own x)) x (.ins C dx [])) (fun v H2 => v = .non ∧ Q (.ref x) H2) E) : wpAny (model X.prog X.w) X.A (call (.ref C) [] (ks.zip ws)) (EP X pins σ Q) X.xe s := by
  have J := Inv.made (C := C) I
  have q := h (s.heap.objs.size + 1) s.heap.objs.size (I.hok.fresh (Nat.le_succ _)) (I.hok.fresh (Nat.le_refl _)) (Nat.ne_of_lt (Nat.lt_succ_self _))
  refine wpAny_call (make_map (f := f) I.kIn M0.makes M0.init (beq_iff_eq.mp M0.fn) (codeAny_mono (F _ X.stack _ _ [Value.ref (s.heap.objs.size + 1)] ws [V.ref (s.heap.objs.size + 1)] zs _ E (hr.make C [] (ks.zip ws)) (J.env0.make C [] (ks.zip ws)) (.cons rfl .nil) r rfl lz q) fun res s' h => ?_))
  match res, h with
  | .error e, h => exact hx pins σ _ _ e s' J h
  | .ok (.ret u), h =>
    obtain ⟨v, H', J', rv, ev, q'⟩ := J.after h
    subst ev
    exact ⟨rv, V.ref (s.heap.objs.size + 1), H', J', rfl, q'⟩
  | .ok .next, h => exact h.elim
  | .ok .brk, h => exact h.elim
  | .ok .cont, h => exact h.elim
/-- C(x = .., ..) -/
def tNwK (C : Addr) (ks : List Str) (is : List Nat) (sp : DSp) (t : DTA) : DTE := fun env st Q => t env st fun ds m1 => ds.length = ks.length ∧ ∀ x, m1 x = none → sp (permL is (.ref x :: ds)) (updM m1 x (.ins C [] [])) fun d m2 => d = .non ∧ Q (.ref x) m2
theorem de_newK (c : CalCK X C k ks is sp) (hr : RoomG (k + 1) X.A) (hm : X.mg x = some (.ref C)) (ha : DK_ X kws t) (hg : Gl X x := by rfl) (hd : (x == ("__debug__" : Str)) = false := by decide) (hall : (backToKw pos (keywordEach kws X.env)).all (·.1.isSome) = true := by rfl) (hks : (backToKw pos (keywordEach kws X.env)).filterMap (·.1) = ks := by rfl)
    (hpl : ((backTo pos (starEach [] X.env)).any (·.1) || (backToKw pos (keywordEach kws X.env)).any (·.1.isNone)) = false := by rfl) :
    DE X (.Call (.Name x p) [] kws pos) (tNwK C ks is sp t) := by
  obtain ⟨f, M0, F⟩ := c.ex
  refine ⟨⟨fun pins s σ H Q I h => ?_⟩⟩
  obtain ⟨env, mm, R, eo, sm, h, kq⟩ := h
  have h0 : liftA X.K t σ H (fun zs H2 => zs.length = ks.length ∧ ∀ x dx, H2 x = none → H2 dx = none → dx ≠ x → liftSp X.K sp (permL is (V.ref x :: zs)) (upd (upd H2 dx (.own x)) x (.ins C dx [])) (fun v H3 => v = .non ∧ Q (.ref x) H3) E0) := by
    refine ⟨env, mm, _, eo, sm, h, fun ds m1 vs H1 h1 f1 s1 r1 => ?_⟩
    obtain ⟨hl, h1⟩ := h1
    refine ⟨by rw [← r1.length]; exact hl, fun x dx hx hdx ne => ?_⟩
    have f0 := Fr.laid (o := .own x) s1 hdx
    have s2 := s1.laid (o := .own x) hdx
    have hx' : upd H1 dx (.own x) x = none := by rw [upd_ne ne.symm]; exact hx
    have f2 := Fr.laidM (o := .ins C dx []) (d := .ins C [] []) s2 hx'
    have s3 := Sim.laidM (o := .ins C dx []) (d := .ins C [] []) s2 hx' ⟨dx, [], upd_same, rfl, .nil⟩
    refine ⟨permL is (.ref x :: ds), _, _, permL_rep (.cons rep_ref (RepL.mono (f0.trans f2) _ _ r1)) is, s3, h1 x (s1.free hx), fun d m' v H' a1 a2 a3 a4 => ?_⟩
    obtain ⟨rfl, a1⟩ := a1
    exact ⟨by simpa only [Rep] using a4, kq _ m' _ H' a1 (f1.trans ((f0.trans f2).trans a2)) a3 rep_ref⟩
  refine wpAny_Call_Name_kw (ld_glob I hg hm ?_ hd)
  refine PySem.W.callWith_KW0 (first := []) (h₀ := X.base) I.ok.mod.kin M0.kp hall (thn (ha.run.run pos pins s σ H _ I h0) fun us s2 hx2 => ?_) hpl
  obtain ⟨zs, H2, I2, r, hl, q2⟩ := hx2
  rw [hks]
  exact ⟨I2.kIn, run_makeGK M0 F hr pass0 I2 r hl q2⟩
end
end DL
/-! ### DL31: defs with defaults -/
namespace DL
open PySem PySem.Spec PyProof.Rows L2
/-- a def whose last parameters have defaults -/
structure FunV (K : PySem.W.Frag) (x qual : Str) (st : Stmt) (dvs : List V) (f : Addr) (fd : FuncData) : Prop where
  ex : ∃ (oc : Value) (od : Option Addr) (T : Addr) (kV doc pm : Value) (an : Option Addr) (cdv ct : Value) (osl : Array (Option Value)) (o : Obj) (its : List Value) (n : Nat),
    fd = PySem.W.fnOf x qual (defArgs st) (defBody st) (defScope st) (.ref T) kV doc pm an cdv ct ∧ K.lookup f = some ⟨oc, od, .func fd, osl⟩ ∧ PySem.W.codeIn K cdv qual = true ∧ K.lookup T = some o ∧ o.data = .seq its.toArray n ∧ Vals dvs its
section
variable {P : Program} {w : World} {K : PySem.W.Frag} {mg : Str → Option Value} {base : Heap}
theorem fn_mkV {x qual : Str} {st : Stmt} {f : Addr} {fd : FuncData} {N ps : List Str} {k n j : Nat} {sp : DSp} {t : DTS} {dvs : List V} {dds : List D} (F : FunV K x qual st dvs f fd) (S : FnScope N ps (defScope st)) (hd : ∀ m H, RepL K m H dds dvs)
    (hb : ∀ (T : Addr) (kV doc pm : Value) (an : Option Addr) (cdv ct : Value) (us its : List Value), us.length = n → its.length = dvs.length →
      ∃ k, bindArgs (PySem.W.fnOf x qual (defArgs st) (defBody st) (defScope st) (.ref T) kV doc pm an cdv ct) ⟨us, []⟩ = seqItems? (.ref T) >>= k ∧ k (some its.toArray) = pure (ps.zip (us ++ its.drop j)))
    (hn : ∀ ds m R, sp ds m R → ds.length = n) (hl : n + (dvs.length - j) = ps.length)
    (hbody : ∀ (cdv : Value) (A : Around) (outer : List PySem.Env) (s : Shared) (H : Hp) (E : XK), RoomG k (A.deeper (envOfC qual (defScope st) s.heap.objs.size f cdv)) → DSs (cxOf CX0 P w K mg base N qual (defScope st) f cdv A outer s H E).nox (defBody st) t)
    (hsp : ∀ ds m R, sp ds m R → t (startD N.length (ds ++ dds.drop j)) m (bodyEnds R)) : FnG P w K mg base CX0 (k + 1) f (liftSp K sp) := by
  obtain ⟨oc, od, T, kV, doc, pm, an, cdv, ct, osl, o, its, nn, rfl, lk, hcd, lT, oT, rT⟩ := F.ex
  intro A outer s H us vs Q E hr e0 rv ⟨ds, m, R, r, sm, q, kq⟩
  have lv : vs.length = n := by rw [← r.length]; exact hn _ _ _ q
  have kin : K.In s.heap := e0.mod.kin.keeps fun b o e => (e0.bs b o e).1
  obtain ⟨kk, e1, e2⟩ := hb T kV doc pm an cdv ct us its (by rw [← rv.length]; exact lv) rT.length.symm
  have hb1 : BindsTo s (PySem.W.fnOf x qual (defArgs st) (defBody st) (defScope st) (.ref T) kV doc pm an cdv ct) ⟨us, []⟩ (ps.zip (us ++ its.drop j)) := BindsTo.of_looks fun M => by
    rw [e1]
    exact looks_items kin lT oT (.of_pure e2)
  have lz : (vs ++ dvs.drop j).length = ps.length := by rw [List.length_append, List.length_drop, lv]; exact hl
  refine StX.run_bnd lk hcd S hr.r e0 (G := fun xs H2 => xs = vs ++ dvs.drop j ∧ H2 = H) (fun A' Ex Q' h => hb1 _ _ _ _ (h s H (vs ++ dvs.drop j) (us ++ its.drop j) e0 Un.refl rfl (fun _ _ z => z) (rv.append (rT.drop j)) lz ⟨rfl, rfl⟩)) fun s2 H2 xs g hr' => ?_
  obtain ⟨rfl, rfl⟩ := g
  exact ⟨_, (hbody cdv A outer s2 _ E ⟨hr', hr.g⟩).run.nox, body_lift (ds := ds ++ dds.drop j) (RepL.append r ((hd m H2).drop j)) sm (hsp _ _ _ q) kq⟩
/-- by names: all parameters are given -/
theorem fn_mkVK {x qual : Str} {st : Stmt} {f : Addr} {fd : FuncData} {N ps ks : List Str} {is : List Nat} {n k : Nat} {sp : DSp} {t : DTS} {dvs : List V} (F : FunV K x qual st dvs f fd) (S : FnScope N ps (defScope st))
    (hb : ∀ (T : Addr) (kV doc pm : Value) (an : Option Addr) (cdv ct : Value) (us its ws : List Value), us.length = n → its.length = dvs.length → ws.length = ks.length →
      ∃ k, bindArgs (PySem.W.fnOf x qual (defArgs st) (defBody st) (defScope st) (.ref T) kV doc pm an cdv ct) ⟨us, ks.zip ws⟩ = seqItems? (.ref T) >>= k ∧ k (some its.toArray) = pure (ps.zip (permL is (us ++ ws))))
    (hn : ∀ ds m R, sp ds m R → ds.length = ps.length)
    (hbody : ∀ (cdv : Value) (A : Around) (outer : List PySem.Env) (s : Shared) (H : Hp) (E : XK), RoomG k (A.deeper (envOfC qual (defScope st) s.heap.objs.size f cdv)) → DSs (cxOf CX0 P w K mg base N qual (defScope st) f cdv A outer s H E).nox (defBody st) t)
    (hsp : ∀ ds m R, sp ds m R → t (startD N.length ds) m (bodyEnds R)) : FnGK P w K mg base CX0 (k + 1) f n ks is (liftSp K sp) := by
  obtain ⟨oc, od, T, kV, doc, pm, an, cdv, ct, osl, o, its, nn, rfl, lk, hcd, lT, oT, rT⟩ := F.ex
  intro A outer s H us ws vs zs Q E hr e0 rv rz ln lz ⟨ds, m, R, r, sm, q, kq⟩
  have kin : K.In s.heap := e0.mod.kin.keeps fun b o e => (e0.bs b o e).1
  obtain ⟨kk, e1, e2⟩ := hb T kV doc pm an cdv ct us its ws (by rw [← rv.length]; exact ln) rT.length.symm (by rw [← rz.length]; exact lz)
  have hb1 : BindsTo s (PySem.W.fnOf x qual (defArgs st) (defBody st) (defScope st) (.ref T) kV doc pm an cdv ct) ⟨us, ks.zip ws⟩ (ps.zip (permL is (us ++ ws))) := BindsTo.of_looks fun M => by
    rw [e1]
    exact looks_items kin lT oT (.of_pure e2)
  have rp := permL_vals (rv.append rz) is
  have hl : (permL is (vs ++ zs)).length = ps.length := by rw [← r.length]; exact hn _ _ _ q
  refine StX.run_bnd lk hcd S hr.r e0 (G := fun xs H2 => xs = permL is (vs ++ zs) ∧ H2 = H) (fun A' Ex Q' h => hb1 _ _ _ _ (h s H _ _ e0 Un.refl rfl (fun _ _ z => z) rp hl ⟨rfl, rfl⟩)) fun s2 H2 xs g hr' => ?_
  obtain ⟨rfl, rfl⟩ := g
  exact ⟨_, (hbody cdv A outer s2 _ E ⟨hr', hr.g⟩).run.nox, body_lift r sm (hsp _ _ _ q) kq⟩
end
end DL
/-! ### DL32: defs that say super() -/
namespace DL
open PySem PySem.Spec PyProof.Rows L2
abbrev envS (qual : Str) (scope : Scope) (L f : Addr) (cd : Value) (cc : Addr) : PySem.Env := PySem.W.ksEnv qual scope L f cd cc
/-- the context of the body of a def that holds the cell __class__ -/
def cxS (CX : CXT) (P : Program) (w : World) (K : PySem.W.Frag) (mg : Str → Option Value) (base : Heap) (N : List Str) (qual : Str) (scope : Scope) (f cc : Addr) (cd : Value) (A : Around) (outer : List PySem.Env) (s : Shared) (H : Hp) (E : XK) : Cx where
  prog := P
  w := w
  K := K
  mg := mg
  base := base
  A := A.deeper (envS qual scope s.heap.objs.size f cd cc)
  N := N
  s_0 := s
  H_0 := H
  env := envS qual scope s.heap.objs.size f cd cc
  outer := outer
  stack := envS qual scope s.heap.objs.size f cd cc :: outer
  ex := []
  calm := true
  fn := fun _ => false
  pn := []
  xe := fun e s' => wpAny (model P w) (A.deeper (envS qual scope s.heap.objs.size f cd cc)) (leaving (envS qual scope s.heap.objs.size f cd cc) e) (fun _ s'' => CX outer H s E e s'') (fun e' s'' => CX outer H s E e' s'') s'
structure SScope (N P : List Str) (sc : Scope) : Prop where
  kind : sc.kind = .function
  co : sc.isCoroutine = false
  gen : sc.isGenerator = false
  nd : N.Nodup
  pre : N.take P.length = P
  par : ∀ x ∈ P, sc.names.lookup x = some .local
  nocell : ∀ y ∈ sc.names, y.2 ≠ .cell
  free : ∀ y ∈ sc.names, y.2 = .free → y.1 = "__class__"
theorem zip_fst : ∀ (ps : List Str) (us : List Value), ((ps.zip us).map (·.1)).Sublist ps
  | [], _ => by simp
  | _ :: _, [] => by simp
  | p :: ps, u :: us => by
    rw [List.zip_cons_cons, List.map_cons]
    exact (zip_fst ps us).cons₂ p
theorem rev_look : ∀ {ps : List Str} {us : List Value} {i : Nat} {x : Str} {u : Value}, ps.Nodup → ps[i]? = some x → us[i]? = some u → (ps.zip us).reverse.lookup x = some u := by
  intro ps us i x u nd h1 h2
  have hz : (ps.zip us)[i]? = some (x, u) := by
    rw [List.getElem?_zip_eq_some]; exact ⟨h1, h2⟩
  have hm : (x, u) ∈ (ps.zip us).reverse := List.mem_reverse.mpr (List.mem_of_getElem? hz)
  have hnd : (((ps.zip us).reverse).map (·.1)).Nodup := by
    rw [List.map_reverse]
    refine (List.reverse_perm _).nodup_iff.mpr ?_
    exact nd.sublist (zip_fst ps us)
  generalize (ps.zip us).reverse = l at hm hnd
  induction l with
  | nil => cases hm
  | cons q l ih =>
    obtain ⟨y, v⟩ := q
    simp only [List.map_cons, List.nodup_cons] at hnd
    rcases List.mem_cons.mp hm with e | hm
    · cases e; simp
    · have : (x == y) = false := by
        refine beq_eq_false_iff_ne.mpr fun e => hnd.1 ?_
        rw [← e]; exact List.mem_map_of_mem (f := (·.1)) hm
      simp only [List.lookup, this]
      exact ih hm hnd.2
theorem inv_startS {CX : CXT} {P : Program} {w : World} {K : PySem.W.Frag} {mg : Str → Option Value} {base : Heap} {N ps : List Str} {qual : Str} {scope : Scope} {f cc : Addr} {cd : Value} {A : Around} {outer : List PySem.Env} {s : Shared} {h1 : Heap} {tk : Nat} {H : Hp} {E : XK} {us : List Value} {vs : List V} {oc : Obj} {cv : Option Value}
    (S : SScope N ps scope) (hd : A.handled = none) (e0 : Env0 P w K mg base A outer s H) (hl : vs.length = ps.length) (r : Vals vs us) (hcc : base.get? cc = some oc) (hcv : oc.data = .cell cv)
    (hns : h1.Ns s.heap.objs.size fun y => (ps.zip us).reverse.lookup y) (kp : ∀ b o, s.heap.get? b = some o → h1.get? b = some o) :
    Inv (cxS CX P w K mg base N qual scope f cc cd A outer s H E) [] (L2.start N vs) H { s with heap := h1, toks := tk } := by
  have hpl : ps.length ≤ N.length := by have := congrArg List.length S.pre; rw [List.length_take] at this; omega
  have noA : ∀ b : Addr, b ∉ (cxS CX P w K mg base N qual scope f cc cd A outer s H E).ex := fun b z => absurd (show b ∈ ([] : List Addr) from z) (by simp)
  have cell1 : ∀ {y : Str} {c : Addr}, [(("__class__" : Str), cc)].lookup y = some c → y = "__class__" ∧ c = cc := fun {y c} e => by
    simp only [List.lookup] at e
    split at e
    · rename_i q
      exact ⟨by simpa using q, by cases e; rfl⟩
    · cases e
  refine ⟨⟨e0.mod, S.kind, rfl, rfl, Nat.le_refl _, fun y z c h1 h2 => (cell1 h1).1.trans (cell1 h2).1.symm, fun y hy => ?_, fun y c z _ => ?_, fun _ => hd, Around.frames_deeper e0.frames, .inr ⟨rfl, rfl⟩, fun b z => absurd z (noA b), e0.bs, e0.bsz, fun b _ _ => noA b, fun b z => absurd z (noA b), e0.funs, e0.frf⟩,
    rfl, e0.bare, Un.kept kp, ⟨_, hns, fun i y v a1 a2 a3 => ?_⟩, fun y c h => ?_, e0.hok.fresh (Nat.le_refl _), fun y c h => ?_, fun p hp => absurd (show p ∈ ([] : List (Addr × Obj)) from hp) (by simp), e0.hok.kept kp, ?_⟩
  · have hy : scope.names.lookup y = some .cell ∨ scope.names.lookup y = some .free := hy
    rcases hy with hy | hy
    · exact absurd rfl (S.nocell _ (PySem.mem_of_lookup hy))
    · have e := S.free _ (PySem.mem_of_lookup hy) rfl
      have e : y = "__class__" := e
      subst e
      refine ⟨cc, ?_⟩
      show List.lookup ("__class__" : Str) [(("__class__" : Str), cc)] = some cc
      simp [List.lookup]
  · have z : false = true := z
    cases z
  · have hi : i < vs.length := by
      unfold L2.start at a2
      by_cases hi : i < vs.length
      · exact hi
      · rw [List.getElem?_append_right (by simpa using hi)] at a2
        rw [List.getElem?_replicate] at a2
        split at a2 <;> cases a2
    have ha : vs[i]? = some v := by
      unfold L2.start at a2
      rw [List.getElem?_append_left (by simpa using hi), List.getElem?_map] at a2
      cases e : vs[i]? with
      | none => rw [e] at a2; cases a2
      | some a => rw [e] at a2; cases a2; rfl
    obtain ⟨u, hu, rv⟩ := r.get ha
    have hp : ps[i]? = some y := by
      rw [← S.pre, List.getElem?_take_of_lt (by omega)]; exact a1
    have ndP : ps.Nodup := by rw [← S.pre]; exact S.nd.sublist (List.take_sublist _ _)
    exact ⟨u, rv, .inl ⟨S.par y (List.mem_of_getElem? hp), rev_look ndP hp hu⟩⟩
  · obtain ⟨_, rfl⟩ := cell1 h
    obtain ⟨b1, _⟩ := e0.bs _ _ hcc
    exact ⟨cv, oc, kp _ _ b1, hcv⟩
  · obtain ⟨_, rfl⟩ := cell1 h
    exact (e0.bs _ _ hcc).2
  · unfold L2.start
    show _ = N.length
    rw [List.length_append, List.length_map, List.length_replicate]
    omega
end DL
/-! ### DL33: super().__init__(..) as the first statement of an own __init__ -/
namespace DL
open PySem PySem.Spec PyProof.Rows L2
/-- a def that holds the cell __class__ with the class at D -/
structure FunS (K : PySem.W.Frag) (x qual : Str) (st : Stmt) (CD : Addr) (file : Str) (f cc cda : Addr) (fd : FuncData) : Prop where
  ex : ∃ (oc : Value) (od : Option Addr) (kV doc pm : Value) (an : Option Addr) (ct : Value) (osl : Array (Option Value)),
    fd = PySem.W.ksFn x qual (defArgs st) (defBody st) (defScope st) .none kV doc pm an (.ref cda) ct cc ∧ K.lookup f = some ⟨oc, od, .func fd, osl⟩
  cd : PySem.W.codeIn K (.ref cda) qual = true
  code : ∃ (c : Value) (d : Option Addr) (vs : Array Value) (sl : Array (Option Value)) (tf : Tok), K.lookup cda = some ⟨c, d, .fields vs, sl⟩ ∧ vs[2]? = some (.str file tf)
  cell : ∃ (c : Value) (d : Option Addr) (sl : Array (Option Value)), K.lookup cc = some ⟨c, d, .cell (some (.ref CD)), sl⟩
/-- super().name of an instance of C, within a def of D: the def at g -/
structure SupOk (K : PySem.W.Frag) (mg : Str → Option Value) (C CD g : Addr) (name : Str) : Prop where
  cls : ∃ cd, PySem.W.clsIn K CD = some cd
  sub : PySem.W.mroIn K C (.ref CD) = some true
  at_ : PySem.W.ks_superIn K C CD name = some (some (.ref g))
  ty : PySem.W.typeIn K (.ref g) = some (.type "function")
  fn : PySem.W.fnIn K g = true
  opq : PySem.W.nsIn K cStatics "thirdparty.any" = some none
  nosup : mg "super" = none
def tSup (C : Addr) (sp2 : DSp) (tA : DTA) (tR : DTS) : DTS := fun env m E => ∃ x ns vs, env[0]? = some (some (.ref x)) ∧ m x = some (.ins C ns vs) ∧ tA env m fun ds m1 => sp2 (.ref x :: ds) m1 fun _ m2 => tR env m2 E
section
variable {P : Program} {w : World} {K : PySem.W.Frag} {mg : Str → Option Value} {base : Heap}
theorem super_run {x qual : Str} {st : Stmt} {f cc cda C CD g : Addr} {fd : FuncData} {file : Str} {N ps : List Str} {self : Str} {ar : Arg} {k : Nat} {sp2 : DSp} {tA : DTA} {tR : DTS} {e : Expr} {es : List Expr} {rest : List Stmt} {p0 p1 p2 p3 p4 : Pos}
    (F : FunS K x qual st CD file f cc cda fd) (S : SScope N ps (defScope st)) (hself : N[0]? = some self) (hloc0 : (defScope st).names.lookup self = some .local) (har : ((defArgs st).posonlyargs ++ (defArgs st).args).head? = some ar) (hars : ar.arg = self)
    (hsn : (defScope st).names.lookup ("super" : Str) = some .globalImplicit) (hcn : (defScope st).names.lookup ("__class__" : Str) = some .free)
    (hst : defBody st = .Expr (.Call (.Attribute (.Call (.Name "super" p0) [] [] p1) "__init__" p2) (e :: es) [] p3) p4 :: rest)
    (hfile : ((P.main.file : Str) == file) = true) (htop : (P.main.scope.names.lookup ("super" : Str)).isSome = false)
    (U : SupOk K mg C CD g "__init__") (G : FnG P w K mg base CX0 k g (liftSp K sp2))
    {A : Around} {outer : List PySem.Env} {s : Shared} {H : Hp} {args : Args} {us : List Value} {vs : List V} {Q : VK} {E : XK} {ds : List D} {m : M} {R : DK}
    (hA : DA (cxS CX0 P w K mg base N qual (defScope st) f cc (.ref cda) A outer s H E) (e :: es) tA) (hR : DSs (cxS CX0 P w K mg base N qual (defScope st) f cc (.ref cda) A outer s H E).nox rest tR)
    (hi : ∀ L, interactive (envS qual (defScope st) L f (.ref cda) cc) = false) (hsw : ∀ L, swapsWith (.Call (.Attribute (.Call (.Name "super" p0) [] [] p1) "__init__" p2) (e :: es) [] p3) none p4.line (envS qual (defScope st) L f (.ref cda) cc) = pure false)
    (hse : ∀ L, starEach (e :: es) (envS qual (defScope st) L f (.ref cda) cc) = (false, eval e (envS qual (defScope st) L f (.ref cda) cc)) :: starEach es (envS qual (defScope st) L f (.ref cda) cc)) (hpl : ∀ L, (backTo p3 (starEach es (envS qual (defScope st) L f (.ref cda) cc))).any (·.1) = false)
    {pl : Sem Bool} (hev : ∀ L, eval (.Call (.Attribute (.Call (.Name "super" p0) [] [] p1) "__init__" p2) (e :: es) [] p3) (envS qual (defScope st) L f (.ref cda) cc) = (do
      let ov ← attributeBase (.Call (.Name "super" p0) [] [] p1) "__init__" (envS qual (defScope st) L f (.ref cda) cc) (eval (.Call (.Name "super" p0) [] [] p1) (envS qual (defScope st) L f (.ref cda) cc))
      standAt p2.atName
      let (fn, first) ← holding [ov] (getMethod ov "__init__" pl)
      callWith p3 fn first (backTo p3 (starEach (e :: es) (envS qual (defScope st) L f (.ref cda) cc))) []))
    (hr : RoomG (k + 1) A) (e0 : Env0 P w K mg base A outer s H) (rv : Vals vs us) (hl : vs.length = ps.length) (hb : BindsTo s fd args (ps.zip us))
    (r : RepL K m H ds vs) (sm : Sim K m H) (q : tSup C sp2 tA tR (startD N.length ds) m (bodyEnds R)) (kq : ∀ d m' v H', R d m' → Fr m H m' H' → Sim K m' H' → Rep K m' H' d v → Q v H') :
    codeAny (model P w) A (.call (.ref f) args) (CR CX0 outer P w H s Q E) s := by
  obtain ⟨oc, od, kV, doc, pm, an, ct, osl, rfl, lk⟩ := F.ex
  have kin : K.In s.heap := e0.mod.kin.keeps fun b o e => (e0.bs b o e).1
  have lim : s.heap.NoLimit := e0.mod.nolimit.keeps fun b o e => (e0.bs b o e).1
  obtain ⟨ccl, ccd, ccs, hcell⟩ := F.cell
  obtain ⟨dcl, dcd, dvs, dsl, tf, hcode, hvs⟩ := F.code
  refine ks_codeAny_call_defAt hr.r.depth (kin _ _ lk) rfl lim (PySem.W.codeRec_of kin F.cd) rfl hb S.nocell (fun y hy => S.par y.1 (List.of_mem_zip hy).1) (fun h1 hns kp => ?_) S.co S.gen S.kind
  have J : Inv (cxS CX0 P w K mg base N qual (defScope st) f cc (.ref cda) A outer s H E) [] (L2.start N vs) H { s with heap := h1, toks := s.toks + (ps.zip us).length } :=
    inv_startS S hr.r.hd e0 hl rv (e0.mod.kin _ _ hcell) rfl hns kp
  have EO : EnvOk K m H (L2.start N vs) (startD N.length ds) := EnvOk.start r
  obtain ⟨a, ns, fvs, ea, em, qA⟩ := q
  obtain ⟨va, eva, ra⟩ := EO.get 0 _ ea
  simp only [Rep] at ra
  subst ra
  obtain ⟨dx, fs, hH, _, _⟩ := sm a _ em
  have hr' : RoomG k (A.deeper (envS qual (defScope st) s.heap.objs.size f (.ref cda) cc)) := ⟨hr.r.deeper _, hr.g⟩
  suffices goal2 : _root_.PySem.wpAt (model P w) (A.deeper (envS qual (defScope st) s.heap.objs.size f (.ref cda) cc)) (.func (defBody st) (envS qual (defScope st) s.heap.objs.size f (.ref cda) cc)) (execs (defBody st) (envS qual (defScope st) s.heap.objs.size f (.ref cda) cc))
      (fun fl s' => CR CX0 outer P w H s Q E (.ok (.ret (match fl with | .ret v => v | _ => .none))) s')
      (fun e s' => wpAny (model P w) (A.deeper (envS qual (defScope st) s.heap.objs.size f (.ref cda) cc)) (leaving (envS qual (defScope st) s.heap.objs.size f (.ref cda) cc) e) (fun _ s'' => CR CX0 outer P w H s Q E (.error e) s'') (fun e' s'' => CR CX0 outer P w H s Q E (.error e') s'') s')
      { s with heap := h1, toks := s.toks + (ps.zip us).length } by
    exact goal2
  rw [hst]
  refine ks_wpAt_execs_cons (ks_wpAt_Expr_any (ks_wpAt_MethodCall ?_ (hev _)) (hi _) (hsw _))
  -- the loads
  obtain ⟨ml, hml, hlk⟩ := J.loc
  obtain ⟨u0, ru0, lk0⟩ := hlk 0 self (.ref a) hself eva (.inl hloc0)
  obtain rfl : u0 = Value.ref a := ru0
  have hlv : ml self = some (.ref a) := by
    rcases lk0 with ⟨_, z⟩ | ⟨z, _⟩
    · exact z
    · have z' : (defScope st).names.lookup self = some .cell ∨ (defScope st).names.lookup self = some .free := z
      rw [hloc0] at z'
      rcases z' with z' | z' <;> cases z'
  obtain ⟨mA, O, _, _, _, _⟩ := ins_get J.hok hH
  obtain ⟨odx, I0, _⟩ := O.look
  obtain ⟨cdD, hcD⟩ := U.cls
  have X := J.kIn
  obtain ⟨oD, hD1, hD2⟩ : ∃ oD, h1.get? CD = some oD ∧ oD.data = .cls cdD := by
    unfold PySem.W.clsIn at hcD
    split at hcD
    · rename_i z ho
      cases hcD
      exact ⟨_, X _ _ ho, rfl⟩
    · cases hcD
  obtain ⟨mb, hmb, hbt⟩ := J.mod.blt
  refine ks_wpAt_super_base (env := envS qual (defScope st) s.heap.objs.size f (.ref cda) cc) hsn hcn (by decide) rfl (X _ _ lk) rfl har rfl (X _ _ hcode) rfl hvs hfile htop ?_
  refine PySem.W.ks_loadName_global S.kind hsn (Calls.loadGlobal_builtin (env := envS qual (defScope st) s.heap.objs.size f (.ref cda) cc) (J.mod.glob.keeps J.bk) U.nosup (hmb.keeps J.bk) ((hbt _ (by decide)).trans (by rfl)) ⟨rfl, ?_⟩)
  refine wpAny_loadName_free S.kind hcn rfl ⟨_, X _ _ hcell, rfl⟩ ?_
  rw [hars]
  refine wpAny_loadName_local S.kind hloc0 hml hlv ?_
  refine ks_wpAny_isType_cls hD1 hD2 ⟨rfl, ?_⟩
  refine ks_wpAny_call_super hD1 hD2 I0.at_ I0.cls (fun c e => ?_) (PySem.W.looks_mroIn X U.sub) (fun h2 e2 k2 => ?_)
  · cases e
  have J2 := J.kept (h' := h2) (t' := s.toks + (ps.zip us).length) k2
  have X2 : K.In h2 := J2.kIn
  obtain ⟨mA2, O2, _⟩ := ins_get J2.hok hH
  obtain ⟨od2, I2, _⟩ := O2.look
  obtain ⟨gcl, god, gdt, gsl, glk, gty⟩ : ∃ c d dt sl, K.lookup g = some ⟨c, d, dt, sl⟩ ∧ c = .type "function" := by
    have t := U.ty
    unfold PySem.W.typeIn at t
    dsimp only at t
    cases z : K.lookup g with
    | none => rw [z] at t; cases t
    | some o =>
      rw [z] at t
      exact ⟨o.cls, o.dict, o.data, o.slots, rfl, Option.some.inj t⟩
  obtain ⟨cdC, hcC, hal⟩ : ∃ cd, PySem.W.clsIn K C = some cd ∧ PySem.W.alongIn K "__init__" ((cd.mro.dropWhile (· != .ref CD)).drop 1) = some (some (.ref g)) := by
    have t := U.at_
    unfold PySem.W.ks_superIn at t
    exact Option.bind_eq_some_iff.mp t
  refine ks_wpAny_getMethod_super e2 (PySem.W.looks_opaque X2 U.opq) ((PySem.W.looks_clsIn X2 hcC).andThen .now) rfl X2 hal (X2 _ _ glk) gty (PySem.W.ks_ne X2 I2 hcC) (by decide) ?_
  have hq : H h2.objs.size = none := J2.hok.fresh (Nat.le_refl _)
  have J3 := J2.laid (t' := s.toks + (ps.zip us).length + 1) (a := h2.objs.size) (o := .met g a) (fun b u z => Heap.get?_push_of_some (PySem.W.methodObj (.ref g) (.ref a)) z) (Nat.le_refl _)
    (Heap.get?_push_size h2 rfl)
  have f3 := Fr.laid (o := HO.met g a) sm hq
  refine callwith_met (X := cxS CX0 P w K mg base N qual (defScope st) f cc (.ref cda) A outer s H E) (g := g) (a := a) ?_ U.fn ?_
  · rw [hse]
    show ((false || (backTo p3 (starEach es (envS qual (defScope st) s.heap.objs.size f (.ref cda) cc))).any (·.1)) || false) = false
    rw [hpl]; rfl
  have hrun := hA.run.run p3 [] _ (L2.start N vs) (upd H h2.objs.size (.met g a)) (fun zs H4 => H4 h2.objs.size = some (.met g a) ∧ liftSp K sp2 (V.ref a :: zs) H4 (fun _ H5 => ∃ env m5 R5, EnvOk K m5 H5 (L2.start N vs) env ∧ Sim K m5 H5 ∧ tR env m5 R5 ∧ (R5 = bodyEnds R) ∧ Fr m H m5 H5) E0) J3
    ⟨startD N.length ds, m, _, EO.mono f3, sm.laid hq, qA, fun d4 m4 v4 H4 a1 a2 a3 a4 => ⟨?_, .ref a :: d4, m4, _, .cons rep_ref a4, a3, a1, fun d5 m5 v5 H5 b1 b2 b3 b4 => ⟨_, m5, _, EO.mono ((f3.trans a2).trans b2), b3, b1, rfl, (f3.trans a2).trans b2⟩⟩⟩
  rotate_left
  · obtain ⟨_, u', e3, e4⟩ := a2 h2.objs.size _ (sm.free hq) upd_same
    rw [e3, e4.met]
  have hse1 : starEach (e :: es) (cxS CX0 P w K mg base N qual (defScope st) f cc (.ref cda) A outer s H E).env = (false, eval e (cxS CX0 P w K mg base N qual (defScope st) f cc (.ref cda) A outer s H E).env) :: starEach es (cxS CX0 P w K mg base N qual (defScope st) f cc (.ref cda) A outer s H E).env := hse _
  rw [hse1] at hrun
  rw [hse]
  refine Calls.evalArgs_plain (thn hrun fun us4 s4 hx4 => ?_)
  obtain ⟨zs, H4, J4, rz, hm4, hsp⟩ := hx4
  refine ⟨met_P J4 hm4, ?_⟩
  refine thn (wpAny_call (PySem.W.method_call (met_P J4 hm4).1 (run_fnC (us := Value.ref a :: us4) (vs := V.ref a :: zs) G hr' pass0 J4 (.cons rfl rz) hsp))) fun u5 s5 hx5 => ?_
  obtain ⟨v5, H5, J5, r5, env5, m5, R5, EO5, S5, h5, rfl, f5⟩ := hx5
  refine wpAt_of_wpAny ?_
  have hrest := (hR.run.nox).run [] s5 (L2.start N vs) H5 { nx := fun _ H' => Q .non H', rt := Q } J5
    ⟨env5, m5, _, EO5, S5, h5, fun env' m' σ' H' a1 a2 a3 a4 => kq .non m' .non H' a1 (f5.trans a4) a3 rep_non, fun d m' v H' a1 a2 a3 a4 => kq d m' v H' a1 (f5.trans a2) a3 a4, fun _ _ _ _ z => z.elim, fun _ _ _ _ z => z.elim⟩
  refine wpAny_mono hrest (fun fl s' hs => ?_) fun e s' hs => hs
  cases fl with
  | ret u =>
    obtain ⟨v, σ', H', J6, rv6, q6⟩ := hs
    exact ⟨v, H', J6.os, J6.bare, J6.base, J6.hok, rv6, q6⟩
  | next =>
    obtain ⟨σ', H', J6, q6⟩ := hs
    exact ⟨V.non, H', J6.os, J6.bare, J6.base, J6.hok, rfl, q6⟩
  | brk =>
    obtain ⟨_, _, _, q6⟩ := hs
    exact False.elim q6
  | cont =>
    obtain ⟨_, _, _, q6⟩ := hs
    exact False.elim q6
theorem fn_superK {x qual : Str} {st : Stmt} {f cc cda C CD g : Addr} {fd : FuncData} {file : Str} {N ps : List Str} {self : Str} {ar : Arg} {k : Nat} {sp sp2 : DSp} {tA : DTA} {tR : DTS} {e : Expr} {es : List Expr} {rest : List Stmt} {p0 p1 p2 p3 p4 : Pos} {pl : Sem Bool}
    (F : FunS K x qual st CD file f cc cda fd) (S : SScope N ps (defScope st)) (hself : N[0]? = some self) (hloc0 : (defScope st).names.lookup self = some .local) (har : ((defArgs st).posonlyargs ++ (defArgs st).args).head? = some ar) (hars : ar.arg = self)
    (hsn : (defScope st).names.lookup ("super" : Str) = some .globalImplicit) (hcn : (defScope st).names.lookup ("__class__" : Str) = some .free)
    (hst : defBody st = .Expr (.Call (.Attribute (.Call (.Name "super" p0) [] [] p1) "__init__" p2) (e :: es) [] p3) p4 :: rest)
    (hfile : ((P.main.file : Str) == file) = true) (htop : (P.main.scope.names.lookup ("super" : Str)).isSome = false)
    (U : SupOk K mg C CD g "__init__") (G : FnG P w K mg base CX0 k g (liftSp K sp2))
    (hA : ∀ (A : Around) (outer : List PySem.Env) (s : Shared) (H : Hp) (E : XK), DA (cxS CX0 P w K mg base N qual (defScope st) f cc (.ref cda) A outer s H E) (e :: es) tA)
    (hR : ∀ (A : Around) (outer : List PySem.Env) (s : Shared) (H : Hp) (E : XK), RoomG k (A.deeper (envS qual (defScope st) s.heap.objs.size f (.ref cda) cc)) → DSs (cxS CX0 P w K mg base N qual (defScope st) f cc (.ref cda) A outer s H E).nox rest tR)
    (hi : ∀ L, interactive (envS qual (defScope st) L f (.ref cda) cc) = false) (hsw : ∀ L, swapsWith (.Call (.Attribute (.Call (.Name "super" p0) [] [] p1) "__init__" p2) (e :: es) [] p3) none p4.line (envS qual (defScope st) L f (.ref cda) cc) = pure false)
    (hse : ∀ L, starEach (e :: es) (envS qual (defScope st) L f (.ref cda) cc) = (false, eval e (envS qual (defScope st) L f (.ref cda) cc)) :: starEach es (envS qual (defScope st) L f (.ref cda) cc)) (hpl : ∀ L, (backTo p3 (starEach es (envS qual (defScope st) L f (.ref cda) cc))).any (·.1) = false)
    (hev : ∀ L, eval (.Call (.Attribute (.Call (.Name "super" p0) [] [] p1) "__init__" p2) (e :: es) [] p3) (envS qual (defScope st) L f (.ref cda) cc) = (do
      let ov ← attributeBase (.Call (.Name "super" p0) [] [] p1) "__init__" (envS qual (defScope st) L f (.ref cda) cc) (eval (.Call (.Name "super" p0) [] [] p1) (envS qual (defScope st) L f (.ref cda) cc))
      standAt p2.atName
      let (fn, first) ← holding [ov] (getMethod ov "__init__" pl)
      callWith p3 fn first (backTo p3 (starEach (e :: es) (envS qual (defScope st) L f (.ref cda) cc))) []))
    (hn : ∀ ds m R, sp ds m R → ds.length = ps.length) (hsp : ∀ ds m R, sp ds m R → tSup C sp2 tA tR (startD N.length ds) m (bodyEnds R))
    {ks : List Str} {is : List Nat} {n : Nat} (hb : ∀ (kV doc pm : Value) (an : Option Addr) (ct : Value) (us ws : List Value), us.length = n → ws.length = ks.length → bindArgs (PySem.W.ksFn x qual (defArgs st) (defBody st) (defScope st) .none kV doc pm an (.ref cda) ct cc) ⟨us, ks.zip ws⟩ = pure (ps.zip (permL is (us ++ ws)))) :
    FnGK P w K mg base CX0 (k + 1) f n ks is (liftSp K sp) := by
  intro A outer s H us ws vs zs Q E hr e0 rv rz ln lz ⟨ds, m, R, r, sm, q, kq⟩
  have rp := permL_vals (rv.append rz) is
  have hl : (permL is (vs ++ zs)).length = ps.length := by rw [← r.length]; exact hn _ _ _ q
  have hb1 : BindsTo s fd ⟨us, ks.zip ws⟩ (ps.zip (permL is (us ++ ws))) := by
    obtain ⟨oc, od, kV, doc, pm, an, ct, osl, rfl, lk⟩ := F.ex
    exact BindsTo.of_eq (hb kV doc pm an ct us ws (by rw [← rv.length]; exact ln) (by rw [← rz.length]; exact lz))
  exact super_run F S hself hloc0 har hars hsn hcn hst hfile htop U G (hA A outer s H E) (hR A outer s H E ⟨hr.r.deeper _, hr.g⟩) hi hsw hse hpl hev hr e0 rp hl hb1 r sm (hsp _ _ _ q) kq
theorem fn_superG {x qual : Str} {st : Stmt} {f cc cda C CD g : Addr} {fd : FuncData} {file : Str} {N ps : List Str} {self : Str} {ar : Arg} {k : Nat} {sp sp2 : DSp} {tA : DTA} {tR : DTS} {e : Expr} {es : List Expr} {rest : List Stmt} {p0 p1 p2 p3 p4 : Pos} {pl : Sem Bool}
    (F : FunS K x qual st CD file f cc cda fd) (S : SScope N ps (defScope st)) (hself : N[0]? = some self) (hloc0 : (defScope st).names.lookup self = some .local) (har : ((defArgs st).posonlyargs ++ (defArgs st).args).head? = some ar) (hars : ar.arg = self)
    (hsn : (defScope st).names.lookup ("super" : Str) = some .globalImplicit) (hcn : (defScope st).names.lookup ("__class__" : Str) = some .free)
    (hst : defBody st = .Expr (.Call (.Attribute (.Call (.Name "super" p0) [] [] p1) "__init__" p2) (e :: es) [] p3) p4 :: rest)
    (hfile : ((P.main.file : Str) == file) = true) (htop : (P.main.scope.names.lookup ("super" : Str)).isSome = false)
    (U : SupOk K mg C CD g "__init__") (G : FnG P w K mg base CX0 k g (liftSp K sp2))
    (hA : ∀ (A : Around) (outer : List PySem.Env) (s : Shared) (H : Hp) (E : XK), DA (cxS CX0 P w K mg base N qual (defScope st) f cc (.ref cda) A outer s H E) (e :: es) tA)
    (hR : ∀ (A : Around) (outer : List PySem.Env) (s : Shared) (H : Hp) (E : XK), RoomG k (A.deeper (envS qual (defScope st) s.heap.objs.size f (.ref cda) cc)) → DSs (cxS CX0 P w K mg base N qual (defScope st) f cc (.ref cda) A outer s H E).nox rest tR)
    (hi : ∀ L, interactive (envS qual (defScope st) L f (.ref cda) cc) = false) (hsw : ∀ L, swapsWith (.Call (.Attribute (.Call (.Name "super" p0) [] [] p1) "__init__" p2) (e :: es) [] p3) none p4.line (envS qual (defScope st) L f (.ref cda) cc) = pure false)
    (hse : ∀ L, starEach (e :: es) (envS qual (defScope st) L f (.ref cda) cc) = (false, eval e (envS qual (defScope st) L f (.ref cda) cc)) :: starEach es (envS qual (defScope st) L f (.ref cda) cc)) (hpl : ∀ L, (backTo p3 (starEach es (envS qual (defScope st) L f (.ref cda) cc))).any (·.1) = false)
    (hev : ∀ L, eval (.Call (.Attribute (.Call (.Name "super" p0) [] [] p1) "__init__" p2) (e :: es) [] p3) (envS qual (defScope st) L f (.ref cda) cc) = (do
      let ov ← attributeBase (.Call (.Name "super" p0) [] [] p1) "__init__" (envS qual (defScope st) L f (.ref cda) cc) (eval (.Call (.Name "super" p0) [] [] p1) (envS qual (defScope st) L f (.ref cda) cc))
      standAt p2.atName
      let (fn, first) ← holding [ov] (getMethod ov "__init__" pl)
      callWith p3 fn first (backTo p3 (starEach (e :: es) (envS qual (defScope st) L f (.ref cda) cc))) []))
    (hn : ∀ ds m R, sp ds m R → ds.length = ps.length) (hsp : ∀ ds m R, sp ds m R → tSup C sp2 tA tR (startD N.length ds) m (bodyEnds R))
    (hb : ∀ (kV doc pm : Value) (an : Option Addr) (ct : Value) (us : List Value), us.length = ps.length → bindArgs (PySem.W.ksFn x qual (defArgs st) (defBody st) (defScope st) .none kV doc pm an (.ref cda) ct cc) ⟨us, []⟩ = pure (ps.zip us)) :
    FnG P w K mg base CX0 (k + 1) f (liftSp K sp) := by
  intro A outer s H us vs Q E hr e0 rv ⟨ds, m, R, r, sm, q, kq⟩
  have hl : vs.length = ps.length := by rw [← r.length]; exact hn _ _ _ q
  have hb1 : BindsTo s fd ⟨us, []⟩ (ps.zip us) := by
    obtain ⟨oc, od, kV, doc, pm, an, ct, osl, rfl, lk⟩ := F.ex
    exact BindsTo.of_eq (hb kV doc pm an ct us (by rw [← rv.length]; exact hl))
  exact super_run F S hself hloc0 har hars hsn hcn hst hfile htop U G (hA A outer s H E) (hR A outer s H E ⟨hr.r.deeper _, hr.g⟩) hi hsw hse hpl hev hr e0 rv hl hb1 r sm (hsp _ _ _ q) kq
def CalCKW (P : Program) (w : World) (K : PySem.W.Frag) (mg : Str → Option Value) (base : Heap) (C : Addr) (k : Nat) (ks : List Str) (is : List Nat) (sp : DSp) : Prop := ∃ f, Mk K C f ∧ FnGK P w K mg base CX0 k f 1 ks is (liftSp K sp)
def SupW (P : Program) (w : World) (K : PySem.W.Frag) (mg : Str → Option Value) (base : Heap) (C : Addr) (k : Nat) (sp : DSp) : Prop := ∃ g, SupOk K mg C C g "__init__" ∧ FnG P w K mg base CX0 k g (liftSp K sp)
/-- the last parameters by their defaults -/
def spDft (n : Nat) (dds : List D) (sp : DSp) : DSp := fun ds m R => ds.length = n ∧ sp (ds ++ dds) m R
end
end DL
/-! ### DL34: a list put together that is changed later on -/
namespace DL
open PySem PySem.Spec PyProof.Rows L2
def tAddM (ta tb : DTE) : DTE := fun env m Q => ta env m fun x m1 => tb env m1 fun y m2 => ∃ xs ys, look m2 x = .lst xs ∧ look m2 y = .lst ys ∧ xs.length + ys.length ≤ sizeLine ∧ ∀ p, m2 p = none → Q (.ref p) (updM m2 p (.lst (xs ++ ys)))
section
variable {X : Cx} {a b : Expr} {ta tb : DTE} {pos : Pos}
theorem de_addM (ha : DE X a ta) (hb : DE X b tb) : DE X (.BinOp a .Add b pos) (tAddM ta tb) := ⟨PE.weak (pe_op op_cat ha.run hb.run) fun σ H Q h => by
  obtain ⟨env, m, R, eo, s, h, k⟩ := h
  refine ⟨env, m, _, eo, s, h, fun x m1 v H1 h1 f1 s1 r1 => ⟨env, m1, _, eo.mono f1, s1, h1, fun y m2 u H2 h2 f2 s2 r2 => ?_⟩⟩
  obtain ⟨xs, ys, ex, ey, hl, h2⟩ := h2
  have cx := cont_of s2 (Rep.mono f2 _ _ r1)
  have cy := cont_of s2 r2
  rw [ex] at cx
  rw [ey] at cy
  obtain ⟨p1, vs, rfl, z1, q1⟩ := cont_lst cx
  obtain ⟨p2, us, rfl, z2, q2⟩ := cont_lst cy
  exact ⟨p1, p2, vs, us, rfl, rfl, z1, z2, by rw [← q1.length, ← q2.length]; exact hl, fun p hp => k _ _ _ _ (h2 p (s2.free hp)) ((f1.trans f2).trans (Fr.laidM s2 hp)) (new_lstM s2 hp (q1.append q2)) rep_ref⟩⟩
end
end DL
/-! ### DL35: for over a list that may be changed, and is not while it is walked -/
namespace DL
open PySem PySem.Spec PyProof.Rows L2
def forDM (p : Addr) (all : List D) (g : Tgt) (tb : DTS) (E : DEnds) : List D → Env → M → Prop
  | [], env, m => m p = some (.lst all) ∧ E.nx env m
  | d :: ds, env, m => m p = some (.lst all) ∧ tgD g d env m fun env' m' => tb env' m' { E with nx := forDM p all g tb E ds, ct := forDM p all g tb E ds, bk := E.nx }
def tFoM (te : DTE) (g : Tgt) (tb : DTS) : DTS := fun env m E => te env m fun o m1 => ∃ p ds, o = .ref p ∧ m1 p = some (.lst ds) ∧ forDM p ds g tb E ds env m1
theorem forDM_at {p : Addr} {all : List D} {g : Tgt} {tb : DTS} {E : DEnds} {ds : List D} {env : Env} {m : M} (h : forDM p all g tb E ds env m) : m p = some (.lst all) := by
  cases ds with
  | nil => exact h.1
  | cons d ds => exact h.1
section
variable {X : Cx} {tg iter : Expr} {body : List Stmt} {pos : Pos}
theorem itl_at {K : PySem.W.Frag} {m : M} {H : Hp} {p : Addr} {all : List D} (s : Sim K m H) (hp : m p = some (.lst all)) (i : Nat) :
    (∀ d, all[i]? = some d → (Itl K p).go i H ∧ ∀ x H', (Itl K p).yld i H x H' → H' = H ∧ Rep K m H d x) ∧ (i = all.length → (Itl K p).stop i H) := by
  obtain ⟨vs, h', r⟩ := s p _ hp
  have inj : ∀ ys, SqL K H p ys → (Rd H p (.lst ys) → ys = vs) := fun ys _ z => by
    rcases z with z | ⟨o, z⟩
    · rw [h'] at z; cases z; rfl
    · rw [h'] at z; cases z
  refine ⟨fun d e => ?_, fun hl => ⟨vs, .of h', by rw [← r.length, hl]; exact Nat.le_refl _⟩⟩
  obtain ⟨v, e1, r1⟩ := r.get e
  refine ⟨⟨vs, v, .of h', e1⟩, fun x H' y => ?_⟩
  obtain ⟨eH, y⟩ := y
  subst eH
  have z := y vs (.of h')
  rw [e1] at z; cases z
  exact ⟨rfl, r1⟩
theorem forM_core {g : Tgt} {tb : DTS} {De : Ends} {σ : L2.St} {env : Env} {m1 : M} {H1 : Hp} {p : Addr} {all : List D} {E : DEnds} (eo : EnvOk X.K m1 H1 σ env) (s1 : Sim X.K m1 H1) (h1 : forDM p all g tb E all env m1)
    (k1 : ∀ env' m' σ' H', E.nx env' m' → EnvOk X.K m' H' σ' env' → Sim X.K m' H' → Fr m1 H1 m' H' → De.nx σ' H') (k2 : ∀ d m' v H', E.rt d m' → Fr m1 H1 m' H' → Sim X.K m' H' → Rep X.K m' H' d v → De.rt v H') :
    ∃ W : Nat → Nat → L2.St → Hp → Prop, (∃ n, W 0 n σ H1) ∧ ∀ i n σ H, W i n σ H → ((Itl X.K p).stop i H ∧ De.nx σ H) ∨ ((Itl X.K p).go i H ∧ ∃ N : L2.St → Hp → Prop, (∀ σ' H', N σ' H' → ∃ n', n' < n ∧ W (i + 1) n' σ' H') ∧
      ∀ x H', (Itl X.K p).yld i H x H' → tgR X.K g x σ H' fun σ2 H2 => liftS X.K tb { De with nx := N, ct := N, bk := De.nx } σ2 H2) := by
  refine ⟨fun i n σ H => n = all.length - i ∧ i ≤ all.length ∧ ∃ env m, EnvOk X.K m H σ env ∧ Sim X.K m H ∧ Fr m1 H1 m H ∧ forDM p all g tb E (all.drop i) env m, ⟨_, rfl, Nat.zero_le _, env, m1, eo, s1, Fr.refl, h1⟩, ?_⟩
  rintro i n σ2 H2 ⟨rfl, hi, env2, m2, eo2, s2, f2, h2⟩
  obtain ⟨go, stop⟩ := itl_at s2 (forDM_at h2) i
  by_cases hlt : i < all.length
  · obtain ⟨g1, g2⟩ := go all[i] (by simp [hlt])
    have ed : all.drop i = all[i] :: all.drop (i + 1) := List.drop_eq_getElem_cons hlt
    rw [ed] at h2
    refine .inr ⟨g1, fun σ' H' => ∃ env m, EnvOk X.K m H' σ' env ∧ Sim X.K m H' ∧ Fr m1 H1 m H' ∧ forDM p all g tb E (all.drop (i + 1)) env m, fun σ' H' q => ⟨all.length - (i + 1), by omega, rfl, hlt, q⟩, fun x H' y => ?_⟩
    obtain ⟨rfl, r3⟩ := g2 x H' y
    have h2 : tgD g all[i] env2 m2 _ := h2.2
    refine tg_run r3 eo2 s2 h2 fun env4 σ4 h4 eo4 _ => ?_
    exact ⟨env4, m2, _, eo4, s2, h4, fun env' m' σ' H' a1 a2 a3 a4 => ⟨env', m', a2, a3, f2.trans a4, a1⟩, fun d m' v H' a1 a2 a3 a4 => k2 d m' v H' a1 (f2.trans a2) a3 a4,
      fun env' m' σ' H' a1 a2 a3 a4 => k1 env' m' σ' H' a1 a2 a3 (f2.trans a4), fun env' m' σ' H' a1 a2 a3 a4 => ⟨env', m', a2, a3, f2.trans a4, a1⟩⟩
  · have e : i = all.length := by omega
    subst e
    rw [List.drop_length] at h2
    exact .inl ⟨stop rfl, k1 env2 m2 σ2 H2 h2.2 eo2 s2 f2⟩
theorem ds_forM {te : DTE} {g : Tgt} {tb : DTS} (he : DE X iter te) (hg : DGt X tg g) (hb : DSs X body tb) (hc : X.calm = true) (hp : PassesOwn (model X.prog X.w) X.A X.env X.xe) (hs : ∀ x, foldedSetIterable iter X.env x = pure x := by intro _; rfl) :
    DS X (.For tg iter body [] pos) (tFoM te g tb) := ⟨PS.weak (ps_for hp hc (pi_list he.run) hg.run hb.run hs) fun D σ H h => by
  obtain ⟨env, m, E, eo, s, h, k1, k2, k3, k4⟩ := h
  refine ⟨env, m, _, eo, s, h, fun o m1 v H1 h1 f1 s1 r1 => ?_⟩
  obtain ⟨p, ds, rfl, hm, h1⟩ := h1
  simp only [Rep] at r1
  subst r1
  obtain ⟨vs, h', r⟩ := s1 p _ hm
  exact ⟨p, rfl, ⟨vs, .of h'⟩, forM_core (eo.mono f1) s1 h1 (fun env' m' σ' H' a1 a2 a3 a4 => k1 env' m' σ' H' a1 a2 a3 (f1.trans a4)) fun d m' v H' a1 a2 a3 a4 => k2 d m' v H' a1 (f1.trans a2) a3 a4⟩⟩
end
theorem forDM_inv {p : Addr} {g : Tgt} {tb : DTS} {E : DEnds} {ds : List D} {env : Env} {m : M} (I : Nat → Env → M → Prop) (h0 : I 0 env m) (hk : ∀ i env m, I i env m → m p = some (.lst ds))
    (step : ∀ (i : Nat) (d : D) (env : Env) (m : M) (N : Env → M → Prop), ds[i]? = some d → I i env m → (∀ env m, I (i + 1) env m → N env m) → tgD g d env m fun env' m' => tb env' m' { E with nx := N, ct := N, bk := E.nx })
    (done : ∀ env m, I ds.length env m → E.nx env m) : forDM p ds g tb E ds env m := by
  have main : ∀ (k i : Nat) (env : Env) (m : M), ds.length - i = k → i ≤ ds.length → I i env m → forDM p ds g tb E (ds.drop i) env m := by
    intro k
    induction k with
    | zero =>
      intro i env m hk' hi h
      obtain rfl : i = ds.length := by omega
      rw [List.drop_length]
      exact ⟨hk _ env m h, done env m h⟩
    | succ k ih =>
      intro i env m hk' hi h
      have hlt : i < ds.length := by omega
      rw [List.drop_eq_getElem_cons hlt]
      exact ⟨hk i env m h, step i ds[i] env m _ (by simp [hlt]) h fun env' m' h' => ih (i + 1) env' m' (by omega) hlt h'⟩
  exact main _ 0 env m rfl (Nat.zero_le _) h0
end DL
namespace K66
open PySem PySem.Spec PyProof.Rows L2 DL
def top (i : Nat) : Stmt := PySem.Challenge.pw_whatleaves_k66_views_by_trail.main.body.getD i (.Pass ⟨0, 0, 0, 0⟩)
def c_FIRST : List Str := ["error", "vacant"]
def c_RESERVED : List Str := ["pass", "raise", "from", "none", "again", "return", "returns", "break", "call", "handling", "else", "either", "or", "loop", "try", "except", "as", "finally", "with", "quiet", "class", "def"]
def tb_isi (C_ByTrail C_Classes C_Level : Addr) : List (Ty × Ty × Bool) := [(.inr C_Classes, .inr C_Classes, true), (.inr C_ByTrail, .inr C_Level, true)]
/-! _law_pen -/
abbrev s_l_pen : Stmt := top 20
def N_l_pen : List Str := ["_law_script"]
theorem sc_l_pen : FnScope N_l_pen ["_law_script"] (defScope s_l_pen) := ⟨rfl, rfl, rfl, by decide +kernel, rfl, by decide +kernel, by decide +kernel⟩
def r_l_pen_1 : DTS := (tRt (tDicM [((tK (.str "cells")), (tFn (d1 dList) (tAC (tSlD (tV 0) tON (tOS (tK (.int 63)))) tA0))), ((tK (.str "next")), (tK (.int 0))), ((tK (.str "rest")), (tK (.int 0)))]))
def ri_l_pen : DTS := (tRt (tDicM [((tK (.str "cells")), (tFn (d1 dList) (tAC (tSlD (tV 0) tON (tOS (tK (.int 63)))) tA0))), ((tK (.str "next")), (tK (.int 0))), ((tK (.str "rest")), (tK (.int 0)))]))
def r_l_pen : DTS := r_l_pen_1
theorem rr_l_pen : ri_l_pen = r_l_pen := rfl
def sp_l_pen : DSp := spOf 1 1 (r_l_pen)
theorem b_l_pen {P : Program} {w : World} {K : PySem.W.Frag} {mg : Str → Option Value} {base : Heap} (z_list : mg "list" = none) {f : Addr} {cdv : Value} {A : Around} {outer : List PySem.Env} {s : Shared} {H : Hp} {E : XK} (hr : RoomG 0 (A.deeper (envOfC "_law_pen" (defScope s_l_pen) s.heap.objs.size f cdv))) :
    DSs (cxOf CX0 P w K mg base N_l_pen "_law_pen" (defScope s_l_pen) f cdv A outer s H E).nox (defBody s_l_pen) (ri_l_pen) := by
  have hu := hr.hu
  have hgd := hr.g
  have nd := sc_l_pen.nd
  exact (dss_one (ds_ret (de_dic (dps_cons de_str (de_ty (dc_list rfl) z_list (by decide +kernel) (da_cons (de_slice (dv 0) do_none (do_some de_int)) da_nil)) (dps_cons de_str de_int (dps_cons de_str de_int dps_nil))))))
theorem f_l_pen {P : Program} {w : World} {K : PySem.W.Frag} {mg : Str → Option Value} {base : Heap} (z_list : mg "list" = none) {f : Addr} {fd : FuncData} (F : Fun K "_law_pen" "_law_pen" s_l_pen f fd) : FnG P w K mg base CX0 1 f (liftSp K sp_l_pen) :=
  FnG.imp (sp := liftSp K (spOf0 1 1 (r_l_pen))) (fn_mk F sc_l_pen (F.binds (ps := ["_law_script"]) fun _ _ _ _ _ _ us hl => match us, hl with | [_], _ => rfl) (fun ds m R h => h.1) (fun cdv A outer s H E hr => b_l_pen z_list hr) fun ds m R h => h.2) lift_drop
/-! _law_draw -/
abbrev s_l_draw : Stmt := top 21
def N_l_draw : List Str := ["_law_pen_here", "_law_many", "_law_digit", "_law_at", "_law_cell", "_law_great", "_law_mixed"]
theorem sc_l_draw : FnScope N_l_draw ["_law_pen_here", "_law_many"] (defScope s_l_draw) := ⟨rfl, rfl, rfl, by decide +kernel, rfl, by decide +kernel, by decide +kernel⟩
def r_l_draw_1 : DTS := (tRt (tV 2))
def r_l_draw_2 : DTS := (tSq (tAs (tBin dDiv (tFn (d1 dInt) (tAC (tBin dIx (tV 0) (tK (.str "rest"))) tA0)) (tV 1)) (gSb (tV 0) (tK (.str "rest")))) r_l_draw_1)
def r_l_draw_3 : DTS := (tSq (tSet 2 (tBin dMod (tFn (d1 dInt) (tAC (tBin dIx (tV 0) (tK (.str "rest"))) tA0)) (tV 1))) r_l_draw_2)
def r_l_draw_4 : DTS := (tSet 4 (tBin dIx (tBin dIx (tV 0) (tK (.str "cells"))) (tBin dMod (tFn (d1 dInt) (tAC (tV 3) tA0)) (tFn (d1 dLen) (tAC (tBin dIx (tV 0) (tK (.str "cells"))) tA0)))))
def r_l_draw_5 : DTS := (tRt (tBin dMod (tFn (d1 dInt) (tAC (tV 5) tA0)) (tV 1)))
def r_l_draw_6 : DTS := (tSq (tAs (tBin dDiv (tV 5) (tV 1)) (gSb (tV 0) (tK (.str "rest")))) r_l_draw_5)
def r_l_draw_7 : DTS := (tSq (tSet 5 (tBin dAdd (tBin dMul (tK (.int 2)) (tFn (d1 dAbs) (tAC (tV 4) tA0))) (tFn (d1 dInt) (tAC (tBin dLt (tV 4) (tK (.int 0))) tA0)))) r_l_draw_6)
def r_l_draw_8 : DTS := (tRt (tBin dMod (tFn (d1 dInt) (tAC (tBin dDiv (tV 6) (tK (.int 64))) tA0)) (tV 1)))
def r_l_draw_9 : DTS := (tSq (tSet 6 (tBin dMod (tFn (d1 dInt) (tAC (tBin dAdd (tBin dMul (tV 6) (tV 6)) (tBin dMul (tK (.int 827)) (tV 3))) tA0)) (tK (.int 2147483563)))) r_l_draw_8)
def r_l_draw_10 : DTS := (tSq (tSet 6 (tBin dMod (tFn (d1 dInt) (tAC (tBin dMul (tV 6) (tBin dAdd (tBin dAdd (tBin dDiv (tV 6) (tK (.int 8191))) (tBin dMul (tK (.int 2)) (tV 3))) (tK (.int 3)))) tA0)) (tK (.int 2147483587)))) r_l_draw_9)
def r_l_draw_11 : DTS := (tSq (tSet 6 (tBin dMod (tFn (d1 dInt) (tAC (tV 6) tA0)) (tK (.int 2147483647)))) r_l_draw_10)
def r_l_draw_12 : DTS := (tSq (tSet 6 (tBin dAdd (tBin dAdd (tBin dAdd (tBin dMul (tBin dMod (tFn (d1 dInt) (tAC (tV 4) tA0)) (tK (.int 2147483629))) (tK (.int 48271))) (tBin dMul (tBin dMul (tK (.int 40014)) (tV 3)) (tV 3))) (tBin dMul (tK (.int 6007)) (tV 3))) (tK (.int 167)))) r_l_draw_11)
def r_l_draw_13 : DTS := (tSq (tIfS (tAndT (tBinT dLt (tV 3) (tFn (d1 dLen) (tAC (tBin dIx (tV 0) (tK (.str "cells"))) tA0))) (tBinT dGe (tFn (d1 dAbs) (tAC (tV 4) tA0)) (tBin dPow (tK (.int 10)) (tK (.int 15))))) r_l_draw_7 tNx) r_l_draw_12)
def r_l_draw_14 : DTS := (tSq (tIfS (tBinT dNe (tBin dIx (tV 0) (tK (.str "cells"))) (tLstD tA0)) r_l_draw_4 tNx) r_l_draw_13)
def r_l_draw_15 : DTS := (tSq (tSet 4 (tBin dAdd (tBin dMul (tK (.int 6947)) (tV 3)) (tK (.int 521)))) r_l_draw_14)
def r_l_draw_16 : DTS := (tSq (tAs (tBin dAdd (tV 3) (tK (.int 1))) (gSb (tV 0) (tK (.str "next")))) r_l_draw_15)
def r_l_draw_17 : DTS := (tSq (tSet 3 (tBin dIx (tV 0) (tK (.str "next")))) r_l_draw_16)
def r_l_draw_18 : DTS := (tSq (tIfS (tBinT dGt (tBin dIx (tV 0) (tK (.str "rest"))) (tK (.int 0))) r_l_draw_3 tNx) r_l_draw_17)
def ri_l_draw : DTS := (tSq (tIfS (tBinT dGt (tBin dIx (tV 0) (tK (.str "rest"))) (tK (.int 0))) (tSq (tSet 2 (tBin dMod (tFn (d1 dInt) (tAC (tBin dIx (tV 0) (tK (.str "rest"))) tA0)) (tV 1))) (tSq (tAs (tBin dDiv (tFn (d1 dInt) (tAC (tBin dIx (tV 0) (tK (.str "rest"))) tA0)) (tV 1)) (gSb (tV 0) (tK (.str "rest")))) (tRt (tV 2)))) tNx) (tSq (tSet 3 (tBin dIx (tV 0) (tK (.str "next")))) (tSq (tAs (tBin dAdd (tV 3) (tK (.int 1))) (gSb (tV 0) (tK (.str "next")))) (tSq (tSet 4 (tBin dAdd (tBin dMul (tK (.int 6947)) (tV 3)) (tK (.int 521)))) (tSq (tIfS (tBinT dNe (tBin dIx (tV 0) (tK (.str "cells"))) (tLstD tA0)) (tSet 4 (tBin dIx (tBin dIx (tV 0) (tK (.str "cells"))) (tBin dMod (tFn (d1 dInt) (tAC (tV 3) tA0)) (tFn (d1 dLen) (tAC (tBin dIx (tV 0) (tK (.str "cells"))) tA0))))) tNx) (tSq (tIfS (tAndT (tBinT dLt (tV 3) (tFn (d1 dLen) (tAC (tBin dIx (tV 0) (tK (.str "cells"))) tA0))) (tBinT dGe (tFn (d1 dAbs) (tAC (tV 4) tA0)) (tBin dPow (tK (.int 10)) (tK (.int 15))))) (tSq (tSet 5 (tBin dAdd (tBin dMul (tK (.int 2)) (tFn (d1 dAbs) (tAC (tV 4) tA0))) (tFn (d1 dInt) (tAC (tBin dLt (tV 4) (tK (.int 0))) tA0)))) (tSq (tAs (tBin dDiv (tV 5) (tV 1)) (gSb (tV 0) (tK (.str "rest")))) (tRt (tBin dMod (tFn (d1 dInt) (tAC (tV 5) tA0)) (tV 1))))) tNx) (tSq (tSet 6 (tBin dAdd (tBin dAdd (tBin dAdd (tBin dMul (tBin dMod (tFn (d1 dInt) (tAC (tV 4) tA0)) (tK (.int 2147483629))) (tK (.int 48271))) (tBin dMul (tBin dMul (tK (.int 40014)) (tV 3)) (tV 3))) (tBin dMul (tK (.int 6007)) (tV 3))) (tK (.int 167)))) (tSq (tSet 6 (tBin dMod (tFn (d1 dInt) (tAC (tV 6) tA0)) (tK (.int 2147483647)))) (tSq (tSet 6 (tBin dMod (tFn (d1 dInt) (tAC (tBin dMul (tV 6) (tBin dAdd (tBin dAdd (tBin dDiv (tV 6) (tK (.int 8191))) (tBin dMul (tK (.int 2)) (tV 3))) (tK (.int 3)))) tA0)) (tK (.int 2147483587)))) (tSq (tSet 6 (tBin dMod (tFn (d1 dInt) (tAC (tBin dAdd (tBin dMul (tV 6) (tV 6)) (tBin dMul (tK (.int 827)) (tV 3))) tA0)) (tK (.int 2147483563)))) (tRt (tBin dMod (tFn (d1 dInt) (tAC (tBin dDiv (tV 6) (tK (.int 64))) tA0)) (tV 1)))))))))))))
def r_l_draw : DTS := r_l_draw_18
theorem rr_l_draw : ri_l_draw = r_l_draw := rfl
def sp_l_draw : DSp := spOf 2 7 (r_l_draw)
theorem b_l_draw {P : Program} {w : World} {K : PySem.W.Frag} {mg : Str → Option Value} {base : Heap} (z_int : mg "int" = none) (z_len : mg "len" = none) (z_abs : mg "abs" = none) {f : Addr} {cdv : Value} {A : Around} {outer : List PySem.Env} {s : Shared} {H : Hp} {E : XK} (hr : RoomG 0 (A.deeper (envOfC "_law_draw" (defScope s_l_draw) s.heap.objs.size f cdv))) :
    DSs (cxOf CX0 P w K mg base N_l_draw "_law_draw" (defScope s_l_draw) f cdv A outer s H E).nox (defBody s_l_draw) (ri_l_draw) := by
  have hu := hr.hu
  have hgd := hr.g
  have nd := sc_l_draw.nd
  exact (dss_cons (ds_if (dt_cmp do_gt (de_ix hu (dv 0) de_str) de_int)
  (dss_cons (ds_set (i := 2) (de_op do_mod (de_ty dc_int z_int (by decide +kernel) (da_cons (de_ix hu (dv 0) de_str) da_nil)) (dv 1)) nd)
  (dss_cons (ds_asg (de_op do_div (de_ty dc_int z_int (by decide +kernel) (da_cons (de_ix hu (dv 0) de_str) da_nil)) (dv 1)) (dg_sub hu (dv 0) de_str))
  (dss_one (ds_ret (dv 2)))))
  dss_nil)
  (dss_cons (ds_set (i := 3) (de_ix hu (dv 0) de_str) nd)
  (dss_cons (ds_asg (de_op do_add (dv 3) de_int) (dg_sub hu (dv 0) de_str))
  (dss_cons (ds_set (i := 4) (de_op do_add (de_op do_mul de_int (dv 3)) de_int) nd)
  (dss_cons (ds_if (dt_cmp (do_ne hu) (de_ix hu (dv 0) de_str) (de_lst da_nil))
  (dss_one (ds_set (i := 4) (de_ix hu (de_ix hu (dv 0) de_str) (de_op do_mod (de_ty dc_int z_int (by decide +kernel) (da_cons (dv 3) da_nil)) (de_fn dc_len z_len (by decide +kernel) (da_cons (de_ix hu (dv 0) de_str) da_nil)))) nd))
  dss_nil)
  (dss_cons (ds_if (DW.dt (dw_and (dt_cmp do_lt (dv 3) (de_fn dc_len z_len (by decide +kernel) (da_cons (de_ix hu (dv 0) de_str) da_nil))) (dw_and1 (dt_cmp do_ge (de_fn dc_abs z_abs (by decide +kernel) (da_cons (dv 4) da_nil)) (de_op do_pow de_int de_int)))))
  (dss_cons (ds_set (i := 5) (de_op do_add (de_op do_mul de_int (de_fn dc_abs z_abs (by decide +kernel) (da_cons (dv 4) da_nil))) (de_ty dc_int z_int (by decide +kernel) (da_cons (de_cmp do_lt (dv 4) de_int) da_nil))) nd)
  (dss_cons (ds_asg (de_op do_div (dv 5) (dv 1)) (dg_sub hu (dv 0) de_str))
  (dss_one (ds_ret (de_op do_mod (de_ty dc_int z_int (by decide +kernel) (da_cons (dv 5) da_nil)) (dv 1))))))
  dss_nil)
  (dss_cons (ds_set (i := 6) (de_op do_add (de_op do_add (de_op do_add (de_op do_mul (de_op do_mod (de_ty dc_int z_int (by decide +kernel) (da_cons (dv 4) da_nil)) de_int) de_int) (de_op do_mul (de_op do_mul de_int (dv 3)) (dv 3))) (de_op do_mul de_int (dv 3))) de_int) nd)
  (dss_cons (ds_set (i := 6) (de_op do_mod (de_ty dc_int z_int (by decide +kernel) (da_cons (dv 6) da_nil)) de_int) nd)
  (dss_cons (ds_set (i := 6) (de_op do_mod (de_ty dc_int z_int (by decide +kernel) (da_cons (de_op do_mul (dv 6) (de_op do_add (de_op do_add (de_op do_div (dv 6) de_int) (de_op do_mul de_int (dv 3))) de_int)) da_nil)) de_int) nd)
  (dss_cons (ds_set (i := 6) (de_op do_mod (de_ty dc_int z_int (by decide +kernel) (da_cons (de_op do_add (de_op do_mul (dv 6) (dv 6)) (de_op do_mul de_int (dv 3))) da_nil)) de_int) nd)
  (dss_one (ds_ret (de_op do_mod (de_ty dc_int z_int (by decide +kernel) (da_cons (de_op do_div (dv 6) de_int) da_nil)) (dv 1))))))))))))))
theorem f_l_draw {P : Program} {w : World} {K : PySem.W.Frag} {mg : Str → Option Value} {base : Heap} (z_int : mg "int" = none) (z_len : mg "len" = none) (z_abs : mg "abs" = none) {f : Addr} {fd : FuncData} (F : Fun K "_law_draw" "_law_draw" s_l_draw f fd) : FnG P w K mg base CX0 1 f (liftSp K sp_l_draw) :=
  FnG.imp (sp := liftSp K (spOf0 2 7 (r_l_draw))) (fn_mk F sc_l_draw (F.binds (ps := ["_law_pen_here", "_law_many"]) fun _ _ _ _ _ _ us hl => match us, hl with | [_, _], _ => rfl) (fun ds m R h => h.1) (fun cdv A outer s H E hr => b_l_draw z_int z_len z_abs hr) fun ds m R h => h.2) lift_drop
/-! _law_pick -/
abbrev s_l_pick : Stmt := top 22
def N_l_pick : List Str := ["_law_pen_here", "_law_some_here"]
theorem sc_l_pick : FnScope N_l_pick ["_law_pen_here", "_law_some_here"] (defScope s_l_pick) := ⟨rfl, rfl, rfl, by decide +kernel, rfl, by decide +kernel, by decide +kernel⟩
def r_l_pick_1 : DTS := (tRt (tBin dIx (tV 1) (tCl sp_l_draw (tAC (tV 0) (tAC (tFn (d1 dLen) (tAC (tV 1) tA0)) tA0)))))
def ri_l_pick : DTS := (tRt (tBin dIx (tV 1) (tCl sp_l_draw (tAC (tV 0) (tAC (tFn (d1 dLen) (tAC (tV 1) tA0)) tA0)))))
def r_l_pick : DTS := r_l_pick_1
theorem rr_l_pick : ri_l_pick = r_l_pick := rfl
def sp_l_pick : DSp := spOf 2 2 (r_l_pick)
theorem b_l_pick {P : Program} {w : World} {K : PySem.W.Frag} {mg : Str → Option Value} {base : Heap} (c_l_draw : CalW P w K mg base "_law_draw" 1 sp_l_draw) (z_len : mg "len" = none) {f : Addr} {cdv : Value} {A : Around} {outer : List PySem.Env} {s : Shared} {H : Hp} {E : XK} (hr : RoomG 1 (A.deeper (envOfC "_law_pick" (defScope s_l_pick) s.heap.objs.size f cdv))) :
    DSs (cxOf CX0 P w K mg base N_l_pick "_law_pick" (defScope s_l_pick) f cdv A outer s H E).nox (defBody s_l_pick) (ri_l_pick) := by
  have hu := hr.hu
  have hgd := hr.g
  have nd := sc_l_pick.nd
  exact (dss_one (ds_ret (de_ix hu (dv 1) (de_call ⟨c_l_draw⟩ (hr.mono (by decide)) (da_cons (dv 0) (da_cons (de_fn dc_len z_len (by decide +kernel) (da_cons (dv 1) da_nil)) da_nil))))))
theorem f_l_pick {P : Program} {w : World} {K : PySem.W.Frag} {mg : Str → Option Value} {base : Heap} (c_l_draw : CalW P w K mg base "_law_draw" 1 sp_l_draw) (z_len : mg "len" = none) {f : Addr} {fd : FuncData} (F : Fun K "_law_pick" "_law_pick" s_l_pick f fd) : FnG P w K mg base CX0 2 f (liftSp K sp_l_pick) :=
  FnG.imp (sp := liftSp K (spOf0 2 2 (r_l_pick))) (fn_mk F sc_l_pick (F.binds (ps := ["_law_pen_here", "_law_some_here"]) fun _ _ _ _ _ _ us hl => match us, hl with | [_, _], _ => rfl) (fun ds m R h => h.1) (fun cdv A outer s H E hr => b_l_pick c_l_draw z_len hr) fun ds m R h => h.2) lift_drop
/-! _law_barred -/
abbrev s_l_barred : Stmt := top 23
def N_l_barred : List Str := ["_law_some_here"]
theorem sc_l_barred : FnScope N_l_barred [] (defScope s_l_barred) := ⟨rfl, rfl, rfl, by decide +kernel, rfl, by decide +kernel, by decide +kernel⟩
def r_l_barred_1 : DTS := (tRt (tSplit (tV 0) (tK (.str " "))))
def r_l_barred_2 : DTS := (tSq (tSet 0 (tBin dAdd (tV 0) (tK (.str " except as finally with quiet class def error vacant")))) r_l_barred_1)
def r_l_barred_3 : DTS := (tSq (tSet 0 (tK (.str "pass raise from none again return returns break call handling else either or loop try"))) r_l_barred_2)
def ri_l_barred : DTS := (tSq (tSet 0 (tK (.str "pass raise from none again return returns break call handling else either or loop try"))) (tSq (tSet 0 (tBin dAdd (tV 0) (tK (.str " except as finally with quiet class def error vacant")))) (tRt (tSplit (tV 0) (tK (.str " "))))))
def r_l_barred : DTS := r_l_barred_3
theorem rr_l_barred : ri_l_barred = r_l_barred := rfl
def sp_l_barred : DSp := spOf 0 1 (r_l_barred)
theorem b_l_barred {P : Program} {w : World} {K : PySem.W.Frag} {mg : Str → Option Value} {base : Heap}  {f : Addr} {cdv : Value} {A : Around} {outer : List PySem.Env} {s : Shared} {H : Hp} {E : XK} (hr : RoomG 0 (A.deeper (envOfC "_law_barred" (defScope s_l_barred) s.heap.objs.size f cdv))) :
    DSs (cxOf CX0 P w K mg base N_l_barred "_law_barred" (defScope s_l_barred) f cdv A outer s H E).nox (defBody s_l_barred) (ri_l_barred) := by
  have hu := hr.hu
  have hgd := hr.g
  have nd := sc_l_barred.nd
  exact (dss_cons (ds_set (i := 0) de_str nd)
  (dss_cons (ds_set (i := 0) (de_op do_add (dv 0) de_str) nd)
  (dss_one (ds_ret (de_split (dv 0) de_str)))))
theorem f_l_barred {P : Program} {w : World} {K : PySem.W.Frag} {mg : Str → Option Value} {base : Heap}  {f : Addr} {fd : FuncData} (F : Fun K "_law_barred" "_law_barred" s_l_barred f fd) : FnG P w K mg base CX0 1 f (liftSp K sp_l_barred) :=
  FnG.imp (sp := liftSp K (spOf0 0 1 (r_l_barred))) (fn_mk F sc_l_barred (F.binds (ps := []) fun _ _ _ _ _ _ us hl => match us, hl with | [], _ => rfl) (fun ds m R h => h.1) (fun cdv A outer s H E hr => b_l_barred  hr) fun ds m R h => h.2) lift_drop
/-! _law_words -/
abbrev s_l_words : Stmt := top 24
def N_l_words : List Str := ["_law_pen_here", "_law_many", "_law_letters", "_law_long", "_law_stem", "_law_place", "_law_begin", "_law_stride", "_law_found", "_law_k", "_law_letter", "_law_word"]
theorem sc_l_words : FnScope N_l_words ["_law_pen_here", "_law_many"] (defScope s_l_words) := ⟨rfl, rfl, rfl, by decide +kernel, rfl, by decide +kernel, by decide +kernel⟩
def r_l_words_1 : DTE := (tBin dIx (tV 2) (tCl sp_l_draw (tAC (tV 0) (tAC (tK (.int 26)) tA0))))
def r_l_words_2 : DTS := (tDr (tApp (tV 8) (tBin dAdd (tV 11) (tBin dMul (tK (.str "x")) (tFn (d1 dInt) (tAC (tBin dIn (tV 11) (tCl sp_l_barred tA0)) tA0))))))
def r_l_words_3 : DTS := (tSq (tSet 11 (tBin dAdd (tBin dAdd (tSlD (tV 4) tON (tOS (tV 5))) (tV 10)) (tSlD (tV 4) (tOS (tV 5)) tON))) r_l_words_2)
def r_l_words_4 : DTS := (tSq (tSet 10 (tBin dIx (tV 2) (tBin dMod (tFn (d1 dInt) (tAC (tBin dAdd (tV 6) (tBin dMul (tV 7) (tV 9))) tA0)) (tK (.int 26))))) r_l_words_3)
def r_l_words_5 : DTS := (tRt (tFrz (tV 8)))
def r_l_words_6 : DTS := (tSq (tFo (iRg (tAC (tV 1) tA0)) (.one 9) r_l_words_4) r_l_words_5)
def r_l_words_7 : DTS := (tSq (tSet 8 (tLstM tA0)) r_l_words_6)
def r_l_words_8 : DTS := (tSq (tSet 7 (tBin dAdd (tBin dMul (tK (.int 2)) (tCl sp_l_draw (tAC (tV 0) (tAC (tK (.int 6)) tA0)))) (tK (.int 1)))) r_l_words_7)
def r_l_words_9 : DTS := (tSq (tSet 6 (tCl sp_l_draw (tAC (tV 0) (tAC (tK (.int 26)) tA0)))) r_l_words_8)
def r_l_words_10 : DTS := (tSq (tSet 5 (tCl sp_l_draw (tAC (tV 0) (tAC (tBin dAdd (tFn (d1 dLen) (tAC (tV 4) tA0)) (tK (.int 1))) tA0)))) r_l_words_9)
def r_l_words_11 : DTS := (tSq (tSet 4 (tCl sp_l_pick (tAC (tV 0) (tAC (tLstD (tAC (tV 4) (tAC (tV 4) (tAC (tV 4) (tAC (tK (.str "quie")) (tAC (tK (.str "o")) (tAC (tK (.str "erro")) (tAC (tK (.str "retur")) tA0)))))))) tA0)))) r_l_words_10)
def r_l_words_12 : DTS := (tSq (tSet 4 (tJoin (tK (.str "")) (tFrz (tLcM (iRg (tAC (tV 3) tA0)) (.one 9) tYe r_l_words_1 [9])))) r_l_words_11)
def r_l_words_13 : DTS := (tSq (tSet 3 (tCl sp_l_pick (tAC (tV 0) (tAC (tLstD (tAC (tK (.int 0)) (tAC (tK (.int 0)) (tAC (tK (.int 1)) (tAC (tK (.int 2)) (tAC (tK (.int 4)) (tAC (tK (.int 6)) tA0))))))) tA0)))) r_l_words_12)
def r_l_words_14 : DTS := (tSq (tSet 2 (tK (.str "abcdefghijklmnopqrstuvwxyz"))) r_l_words_13)
def ri_l_words : DTS := (tSq (tSet 2 (tK (.str "abcdefghijklmnopqrstuvwxyz"))) (tSq (tSet 3 (tCl sp_l_pick (tAC (tV 0) (tAC (tLstD (tAC (tK (.int 0)) (tAC (tK (.int 0)) (tAC (tK (.int 1)) (tAC (tK (.int 2)) (tAC (tK (.int 4)) (tAC (tK (.int 6)) tA0))))))) tA0)))) (tSq (tSet 4 (tJoin (tK (.str "")) (tFrz (tLcM (iRg (tAC (tV 3) tA0)) (.one 9) tYe (tBin dIx (tV 2) (tCl sp_l_draw (tAC (tV 0) (tAC (tK (.int 26)) tA0)))) [9])))) (tSq (tSet 4 (tCl sp_l_pick (tAC (tV 0) (tAC (tLstD (tAC (tV 4) (tAC (tV 4) (tAC (tV 4) (tAC (tK (.str "quie")) (tAC (tK (.str "o")) (tAC (tK (.str "erro")) (tAC (tK (.str "retur")) tA0)))))))) tA0)))) (tSq (tSet 5 (tCl sp_l_draw (tAC (tV 0) (tAC (tBin dAdd (tFn (d1 dLen) (tAC (tV 4) tA0)) (tK (.int 1))) tA0)))) (tSq (tSet 6 (tCl sp_l_draw (tAC (tV 0) (tAC (tK (.int 26)) tA0)))) (tSq (tSet 7 (tBin dAdd (tBin dMul (tK (.int 2)) (tCl sp_l_draw (tAC (tV 0) (tAC (tK (.int 6)) tA0)))) (tK (.int 1)))) (tSq (tSet 8 (tLstM tA0)) (tSq (tFo (iRg (tAC (tV 1) tA0)) (.one 9) (tSq (tSet 10 (tBin dIx (tV 2) (tBin dMod (tFn (d1 dInt) (tAC (tBin dAdd (tV 6) (tBin dMul (tV 7) (tV 9))) tA0)) (tK (.int 26))))) (tSq (tSet 11 (tBin dAdd (tBin dAdd (tSlD (tV 4) tON (tOS (tV 5))) (tV 10)) (tSlD (tV 4) (tOS (tV 5)) tON))) (tDr (tApp (tV 8) (tBin dAdd (tV 11) (tBin dMul (tK (.str "x")) (tFn (d1 dInt) (tAC (tBin dIn (tV 11) (tCl sp_l_barred tA0)) tA0))))))))) (tRt (tFrz (tV 8))))))))))))
def r_l_words : DTS := r_l_words_14
theorem rr_l_words : ri_l_words = r_l_words := rfl
def sp_l_words : DSp := spOf 2 12 (r_l_words)
theorem b_l_words {P : Program} {w : World} {K : PySem.W.Frag} {mg : Str → Option Value} {base : Heap} (c_l_pick : CalW P w K mg base "_law_pick" 2 sp_l_pick) (z_range : mg "range" = none) (c_l_draw : CalW P w K mg base "_law_draw" 1 sp_l_draw) (z_len : mg "len" = none) (z_int : mg "int" = none) (c_l_barred : CalW P w K mg base "_law_barred" 1 sp_l_barred) {f : Addr} {cdv : Value} {A : Around} {outer : List PySem.Env} {s : Shared} {H : Hp} {E : XK} (hr : RoomG 2 (A.deeper (envOfC "_law_words" (defScope s_l_words) s.heap.objs.size f cdv))) :
    DSs (cxOf CX0 P w K mg base N_l_words "_law_words" (defScope s_l_words) f cdv A outer s H E).nox (defBody s_l_words) (ri_l_words) := by
  have hu := hr.hu
  have hgd := hr.g
  have nd := sc_l_words.nd
  exact (dss_cons (ds_set (i := 2) de_str nd)
  (dss_cons (ds_set (i := 3) (de_call ⟨c_l_pick⟩ (hr.mono (by decide)) (da_cons (dv 0) (da_cons (de_lst (da_cons de_int (da_cons de_int (da_cons de_int (da_cons de_int (da_cons de_int (da_cons de_int da_nil))))))) da_nil))) nd)
  (dss_cons (ds_set (i := 4) (de_join de_str (de_frz (de_lc (own := [("_law_k", 9)]) (di_range z_range (da_cons (dv 3) da_nil)) (blkOk_by (N := N_l_words) (sc := defScope s_l_words) (own := [("_law_k", 9)]) (by decide +kernel)) nd rfl (fun _ _ _ _ _ => (dgt_one (i := 9) nd)) (fun _ _ _ _ _ => dts_nil) (fun _ _ _ _ _ => (de_ix hu (dv 2) (de_call ⟨c_l_draw⟩ (hr.mono (by decide)) (da_cons (dv 0) (da_cons de_int da_nil)))))))) nd)
  (dss_cons (ds_set (i := 4) (de_call ⟨c_l_pick⟩ (hr.mono (by decide)) (da_cons (dv 0) (da_cons (de_lst (da_cons (dv 4) (da_cons (dv 4) (da_cons (dv 4) (da_cons de_str (da_cons de_str (da_cons de_str (da_cons de_str da_nil)))))))) da_nil))) nd)
  (dss_cons (ds_set (i := 5) (de_call ⟨c_l_draw⟩ (hr.mono (by decide)) (da_cons (dv 0) (da_cons (de_op do_add (de_fn dc_len z_len (by decide +kernel) (da_cons (dv 4) da_nil)) de_int) da_nil))) nd)
  (dss_cons (ds_set (i := 6) (de_call ⟨c_l_draw⟩ (hr.mono (by decide)) (da_cons (dv 0) (da_cons de_int da_nil))) nd)
  (dss_cons (ds_set (i := 7) (de_op do_add (de_op do_mul de_int (de_call ⟨c_l_draw⟩ (hr.mono (by decide)) (da_cons (dv 0) (da_cons de_int da_nil)))) de_int) nd)
  (dss_cons (ds_set (i := 8) (de_lstM da_nil) nd)
  (dss_cons (ds_for (di_range z_range (da_cons (dv 1) da_nil)) (dgt_one (i := 9) nd)
  (dss_cons (ds_set (i := 10) (de_ix hu (dv 2) (de_op do_mod (de_ty dc_int z_int (by decide +kernel) (da_cons (de_op do_add (dv 6) (de_op do_mul (dv 7) (dv 9))) da_nil)) de_int)) nd)
  (dss_cons (ds_set (i := 11) (de_op do_add (de_op do_add (de_slice (dv 4) do_none (do_some (dv 5))) (dv 10)) (de_slice (dv 4) (do_some (dv 5)) do_none)) nd)
  (dss_one (ds_expr (de_app (dv 8) (de_op do_add (dv 11) (de_op do_mul de_str (de_ty dc_int z_int (by decide +kernel) (da_cons (de_cmp (do_in hu) (dv 11) (de_call0 ⟨c_l_barred⟩ (hr.mono (by decide)))) da_nil))))))))) rfl PassesOwn.never)
  (dss_one (ds_ret (de_frz (dv 8)))))))))))))
theorem f_l_words {P : Program} {w : World} {K : PySem.W.Frag} {mg : Str → Option Value} {base : Heap} (c_l_pick : CalW P w K mg base "_law_pick" 2 sp_l_pick) (z_range : mg "range" = none) (c_l_draw : CalW P w K mg base "_law_draw" 1 sp_l_draw) (z_len : mg "len" = none) (z_int : mg "int" = none) (c_l_barred : CalW P w K mg base "_law_barred" 1 sp_l_barred) {f : Addr} {fd : FuncData} (F : Fun K "_law_words" "_law_words" s_l_words f fd) : FnG P w K mg base CX0 3 f (liftSp K sp_l_words) :=
  FnG.imp (sp := liftSp K (spOf0 2 12 (r_l_words))) (fn_mk F sc_l_words (F.binds (ps := ["_law_pen_here", "_law_many"]) fun _ _ _ _ _ _ us hl => match us, hl with | [_, _], _ => rfl) (fun ds m R h => h.1) (fun cdv A outer s H E hr => b_l_words c_l_pick z_range c_l_draw z_len z_int c_l_barred hr) fun ds m R h => h.2) lift_drop
/-! _law_some -/
abbrev s_l_some : Stmt := top 25
def N_l_some : List Str := ["_law_pen_here", "_law_names", "_law_one", "_law_two"]
theorem sc_l_some : FnScope N_l_some ["_law_pen_here", "_law_names"] (defScope s_l_some) := ⟨rfl, rfl, rfl, by decide +kernel, rfl, by decide +kernel, by decide +kernel⟩
def r_l_some_1 : DTS := (tRt (tIfD (tOrT (tBinT dEq (tV 2) (tV 3)) (tBinT dEq (tCl sp_l_draw (tAC (tV 0) (tAC (tK (.int 2)) tA0))) (tK (.int 0)))) (tTupD (tAC (tV 2) tA0)) (tTupD (tAC (tV 2) (tAC (tV 3) tA0)))))
def r_l_some_2 : DTS := (tSq (tPr 2 3 (tAC (tCl sp_l_pick (tAC (tV 0) (tAC (tV 1) tA0))) (tAC (tCl sp_l_pick (tAC (tV 0) (tAC (tV 1) tA0))) tA0))) r_l_some_1)
def ri_l_some : DTS := (tSq (tPr 2 3 (tAC (tCl sp_l_pick (tAC (tV 0) (tAC (tV 1) tA0))) (tAC (tCl sp_l_pick (tAC (tV 0) (tAC (tV 1) tA0))) tA0))) (tRt (tIfD (tOrT (tBinT dEq (tV 2) (tV 3)) (tBinT dEq (tCl sp_l_draw (tAC (tV 0) (tAC (tK (.int 2)) tA0))) (tK (.int 0)))) (tTupD (tAC (tV 2) tA0)) (tTupD (tAC (tV 2) (tAC (tV 3) tA0))))))
def r_l_some : DTS := r_l_some_2
theorem rr_l_some : ri_l_some = r_l_some := rfl
def sp_l_some : DSp := spOf 2 4 (r_l_some)
theorem b_l_some {P : Program} {w : World} {K : PySem.W.Frag} {mg : Str → Option Value} {base : Heap} (c_l_pick : CalW P w K mg base "_law_pick" 2 sp_l_pick) (c_l_draw : CalW P w K mg base "_law_draw" 1 sp_l_draw) {f : Addr} {cdv : Value} {A : Around} {outer : List PySem.Env} {s : Shared} {H : Hp} {E : XK} (hr : RoomG 2 (A.deeper (envOfC "_law_some" (defScope s_l_some) s.heap.objs.size f cdv))) :
    DSs (cxOf CX0 P w K mg base N_l_some "_law_some" (defScope s_l_some) f cdv A outer s H E).nox (defBody s_l_some) (ri_l_some) := by
  have hu := hr.hu
  have hgd := hr.g
  have nd := sc_l_some.nd
  exact (dss_cons (ds_par (i := 2) (j := 3) (da_cons (de_call ⟨c_l_pick⟩ (hr.mono (by decide)) (da_cons (dv 0) (da_cons (dv 1) da_nil))) (da_cons (de_call ⟨c_l_pick⟩ (hr.mono (by decide)) (da_cons (dv 0) (da_cons (dv 1) da_nil))) da_nil)) rfl nd)
  (dss_one (ds_ret (de_if (DW.dt (dw_or (dt_cmp (do_eq hu) (dv 2) (dv 3)) (dw_or1 (dt_cmp (do_eq hu) (de_call ⟨c_l_draw⟩ (hr.mono (by decide)) (da_cons (dv 0) (da_cons de_int da_nil))) de_int)))) (de_tup (da_cons (dv 2) da_nil)) (de_tup (da_cons (dv 2) (da_cons (dv 3) da_nil)))))))
theorem f_l_some {P : Program} {w : World} {K : PySem.W.Frag} {mg : Str → Option Value} {base : Heap} (c_l_pick : CalW P w K mg base "_law_pick" 2 sp_l_pick) (c_l_draw : CalW P w K mg base "_law_draw" 1 sp_l_draw) {f : Addr} {fd : FuncData} (F : Fun K "_law_some" "_law_some" s_l_some f fd) : FnG P w K mg base CX0 3 f (liftSp K sp_l_some) :=
  FnG.imp (sp := liftSp K (spOf0 2 4 (r_l_some))) (fn_mk F sc_l_some (F.binds (ps := ["_law_pen_here", "_law_names"]) fun _ _ _ _ _ _ us hl => match us, hl with | [_, _], _ => rfl) (fun ds m R h => h.1) (fun cdv A outer s H E hr => b_l_some c_l_pick c_l_draw hr) fun ds m R h => h.2) lift_drop
/-! _law_classes -/
abbrev s_l_classes : Stmt := top 26
def N_l_classes : List Str := ["_law_pen_here", "_law_most", "_law_rows", "_law_names", "_law_word"]
theorem sc_l_classes : FnScope N_l_classes ["_law_pen_here", "_law_most"] (defScope s_l_classes) := ⟨rfl, rfl, rfl, by decide +kernel, rfl, by decide +kernel, by decide +kernel⟩
def r_l_classes_1 : DTS := (tDr (tApp (tV 3) (tV 4)))
def r_l_classes_2 : DTS := (tSq (tDr (tApp (tV 2) (tBin dAdd (tTupD (tAC (tV 4) tA0)) (tCl sp_l_some (tAC (tV 0) (tAC (tV 3) tA0)))))) r_l_classes_1)
def r_l_classes_3 : DTS := (tRt (tTupD (tAC (tFrz (tV 2)) (tAC (tFrz (tV 3)) tA0))))
def r_l_classes_4 : DTS := (tSq (tFo (iSeq (tCl sp_l_words (tAC (tV 0) (tAC (tCl sp_l_draw (tAC (tV 0) (tAC (tBin dAdd (tV 1) (tK (.int 1))) tA0))) tA0)))) (.one 4) r_l_classes_2) r_l_classes_3)
def r_l_classes_5 : DTS := (tSq (tSet 3 (tLstM (tAC (tK (.str "error")) (tAC (tK (.str "vacant")) tA0)))) r_l_classes_4)
def r_l_classes_6 : DTS := (tSq (tSet 2 (tLstM tA0)) r_l_classes_5)
def ri_l_classes : DTS := (tSq (tSet 2 (tLstM tA0)) (tSq (tSet 3 (tLstM (tAC (tK (.str "error")) (tAC (tK (.str "vacant")) tA0)))) (tSq (tFo (iSeq (tCl sp_l_words (tAC (tV 0) (tAC (tCl sp_l_draw (tAC (tV 0) (tAC (tBin dAdd (tV 1) (tK (.int 1))) tA0))) tA0)))) (.one 4) (tSq (tDr (tApp (tV 2) (tBin dAdd (tTupD (tAC (tV 4) tA0)) (tCl sp_l_some (tAC (tV 0) (tAC (tV 3) tA0)))))) (tDr (tApp (tV 3) (tV 4))))) (tRt (tTupD (tAC (tFrz (tV 2)) (tAC (tFrz (tV 3)) tA0)))))))
def r_l_classes : DTS := r_l_classes_6
theorem rr_l_classes : ri_l_classes = r_l_classes := rfl
def sp_l_classes : DSp := spOf 2 5 (r_l_classes)
theorem b_l_classes {P : Program} {w : World} {K : PySem.W.Frag} {mg : Str → Option Value} {base : Heap} (c_l_words : CalW P w K mg base "_law_words" 3 sp_l_words) (c_l_draw : CalW P w K mg base "_law_draw" 1 sp_l_draw) (c_l_some : CalW P w K mg base "_law_some" 3 sp_l_some) {f : Addr} {cdv : Value} {A : Around} {outer : List PySem.Env} {s : Shared} {H : Hp} {E : XK} (hr : RoomG 3 (A.deeper (envOfC "_law_classes" (defScope s_l_classes) s.heap.objs.size f cdv))) :
    DSs (cxOf CX0 P w K mg base N_l_classes "_law_classes" (defScope s_l_classes) f cdv A outer s H E).nox (defBody s_l_classes) (ri_l_classes) := by
  have hu := hr.hu
  have hgd := hr.g
  have nd := sc_l_classes.nd
  exact (dss_cons (ds_set (i := 2) (de_lstM da_nil) nd)
  (dss_cons (ds_set (i := 3) (de_lstM (da_cons de_str (da_cons de_str da_nil))) nd)
  (dss_cons (ds_for (di_seq (de_call ⟨c_l_words⟩ (hr.mono (by decide)) (da_cons (dv 0) (da_cons (de_call ⟨c_l_draw⟩ (hr.mono (by decide)) (da_cons (dv 0) (da_cons (de_op do_add (dv 1) de_int) da_nil))) da_nil)))) (dgt_one (i := 4) nd)
  (dss_cons (ds_expr (de_app (dv 2) (de_op do_add (de_tup (da_cons (dv 4) da_nil)) (de_call ⟨c_l_some⟩ (hr.mono (by decide)) (da_cons (dv 0) (da_cons (dv 3) da_nil))))))
  (dss_one (ds_expr (de_app (dv 3) (dv 4))))) rfl PassesOwn.never)
  (dss_one (ds_ret (de_tup (da_cons (de_frz (dv 2)) (da_cons (de_frz (dv 3)) da_nil))))))))
theorem f_l_classes {P : Program} {w : World} {K : PySem.W.Frag} {mg : Str → Option Value} {base : Heap} (c_l_words : CalW P w K mg base "_law_words" 3 sp_l_words) (c_l_draw : CalW P w K mg base "_law_draw" 1 sp_l_draw) (c_l_some : CalW P w K mg base "_law_some" 3 sp_l_some) {f : Addr} {fd : FuncData} (F : Fun K "_law_classes" "_law_classes" s_l_classes f fd) : FnG P w K mg base CX0 4 f (liftSp K sp_l_classes) :=
  FnG.imp (sp := liftSp K (spOf0 2 5 (r_l_classes))) (fn_mk F sc_l_classes (F.binds (ps := ["_law_pen_here", "_law_most"]) fun _ _ _ _ _ _ us hl => match us, hl with | [_, _], _ => rfl) (fun ds m R h => h.1) (fun cdv A outer s H E hr => b_l_classes c_l_words c_l_draw c_l_some hr) fun ds m R h => h.2) lift_drop
/-! Level.__init__ -/
abbrev s_Level_init : Stmt := inClass (top 5) 1
def N_Level_init : List Str := ["self", "classes"]
theorem sc_Level_init : FnScope N_Level_init ["self", "classes"] (defScope s_Level_init) := ⟨rfl, rfl, rfl, by decide +kernel, rfl, by decide +kernel, by decide +kernel⟩
def r_Level_init_1 (C_ByTrail : Addr) : DTS := (tFlS C_ByTrail "classes" (tV 0) (tV 1))
def ri_Level_init (C_ByTrail : Addr) : DTS := (tFlS C_ByTrail "classes" (tV 0) (tV 1))
def r_Level_init (C_ByTrail : Addr) : DTS := (r_Level_init_1 C_ByTrail)
theorem rr_Level_init (C_ByTrail : Addr) : ri_Level_init C_ByTrail = r_Level_init C_ByTrail := rfl
def sp_Level_init (C_ByTrail : Addr) : DSp := spOf 2 2 (r_Level_init C_ByTrail)
theorem b_Level_init {P : Program} {w : World} {K : PySem.W.Frag} {mg : Str → Option Value} {base : Heap} {C_ByTrail : Addr} (cl_ByTrail : Cls K C_ByTrail) (n_ByTrail_classes : NoAttr K C_ByTrail "classes") {f : Addr} {cdv : Value} {A : Around} {outer : List PySem.Env} {s : Shared} {H : Hp} {E : XK} (hr : RoomG 0 (A.deeper (envOfC "Level.__init__" (defScope s_Level_init) s.heap.objs.size f cdv))) :
    DSs (cxOf CX0 P w K mg base N_Level_init "Level.__init__" (defScope s_Level_init) f cdv A outer s H E).nox (defBody s_Level_init) (ri_Level_init C_ByTrail) := by
  have hu := hr.hu
  have hgd := hr.g
  have nd := sc_Level_init.nd
  exact (dss_one (ds_fld C_ByTrail (dv 0) (dv 1) cl_ByTrail n_ByTrail_classes))
theorem f_Level_init {P : Program} {w : World} {K : PySem.W.Frag} {mg : Str → Option Value} {base : Heap} {C_ByTrail : Addr} (cl_ByTrail : Cls K C_ByTrail) (n_ByTrail_classes : NoAttr K C_ByTrail "classes") {f : Addr} {fd : FuncData} (F : Fun K "__init__" "Level.__init__" s_Level_init f fd) : FnG P w K mg base CX0 1 f (liftSp K (sp_Level_init C_ByTrail)) :=
  FnG.imp (sp := liftSp K (spOf0 2 2 (r_Level_init C_ByTrail))) (fn_mk F sc_Level_init (F.binds (ps := ["self", "classes"]) fun _ _ _ _ _ _ us hl => match us, hl with | [_, _], _ => rfl) (fun ds m R h => h.1) (fun cdv A outer s H E hr => b_Level_init cl_ByTrail n_ByTrail_classes hr) fun ds m R h => h.2) lift_drop
/-! ByTrail.__init__ -/
abbrev s_ByTrail_init : Stmt := inClass (top 13) 1
def N_ByTrail_init : List Str := ["self", "classes", "trail"]
theorem ss_ByTrail_init : SScope N_ByTrail_init ["self", "classes", "trail"] (defScope s_ByTrail_init) := ⟨rfl, rfl, rfl, by decide +kernel, rfl, by decide +kernel, by decide +kernel, by decide +kernel⟩
def r_ByTrail_init_1 (C_ByTrail : Addr) : DTS := (tFlS C_ByTrail "trail" (tV 0) (tV 2))
def r_ByTrail_init (C_ByTrail : Addr) : DTS := tSup C_ByTrail (sp_Level_init C_ByTrail) (tAC (tV 1) tA0) (r_ByTrail_init_1 C_ByTrail)
def sp_ByTrail_init (C_ByTrail : Addr) : DSp := spOf 3 3 (r_ByTrail_init C_ByTrail)
theorem f_ByTrail_init {P : Program} {w : World} {K : PySem.W.Frag} {mg : Str → Option Value} {base : Heap} {C_ByTrail : Addr} (cl_ByTrail : Cls K C_ByTrail) (n_ByTrail_trail : NoAttr K C_ByTrail "trail") (su_ByTrail_init : SupW P w K mg base C_ByTrail 1 (sp_Level_init C_ByTrail)) {f cc cda : Addr} {fd : FuncData} {file : Str} (F : FunS K "__init__" "ByTrail.__init__" s_ByTrail_init C_ByTrail file f cc cda fd) (hfile : ((P.main.file : Str) == file) = true) (htop : (P.main.scope.names.lookup ("super" : Str)).isSome = false) : FnG P w K mg base CX0 2 f (liftSp K (sp_ByTrail_init C_ByTrail)) := by
  obtain ⟨g, U, G⟩ := su_ByTrail_init
  exact FnG.imp (sp := liftSp K (spOf0 3 3 (r_ByTrail_init C_ByTrail))) (fn_superG (k := 1) (ps := ["self", "classes", "trail"]) F ss_ByTrail_init rfl rfl rfl rfl rfl rfl rfl hfile htop U (G.mono (by decide)) (fun A outer s H E => (da_cons (dv 1) da_nil)) (fun A outer s H E hr => by
      have hu := hr.hu
      have hgd := hr.g
      have nd := ss_ByTrail_init.nd
      exact (dss_one (ds_fld C_ByTrail (dv 0) (dv 2) cl_ByTrail n_ByTrail_trail))) (fun L => rfl) (fun L => rfl) (fun L => rfl) (fun L => rfl) (fun L => rfl) (fun ds m R h => h.1) (fun ds m R h => h.2) (fun kV doc pm an ct us hl => match us, hl with | [_, _, _], _ => rfl)) lift_drop
/-! is_word -/
abbrev s_is_word : Stmt := top 10
def N_is_word : List Str := ["value", "letter"]
theorem sc_is_word : FnScope N_is_word ["value"] (defScope s_is_word) := ⟨rfl, rfl, rfl, by decide +kernel, rfl, by decide +kernel, by decide +kernel⟩
def r_is_word_1 : DTS := (tRt (tK (.bl false)))
def r_is_word_2 : DTE := (tBin dIn (tV 1) (tK (.str "abcdefghijklmnopqrstuvwxyz")))
def r_is_word_3 : DTS := (tRt (tFn (d1 dAll) (tAC (tFrz (tLcM (iSeq (tV 0)) (.one 1) tYe r_is_word_2 [1])) tA0)))
def r_is_word_4 : DTS := (tSq (tIfS (tOrT (tNotT (tTru (tFn (dIsi JB) (tAC (tV 0) (tAC (tK (.ty "str")) tA0))))) (tOrT (tNotT (tChainT dLe dLe (tK (.int 1)) (tFn (d1 dLen) (tAC (tV 0) tA0)) (tK (.int 8)))) (tBinT dIn (tV 0) (tK (.tup (c_RESERVED.map .str)))))) r_is_word_1 tNx) r_is_word_3)
def ri_is_word : DTS := (tSq (tIfS (tOrT (tNotT (tTru (tFn (dIsi JB) (tAC (tV 0) (tAC (tK (.ty "str")) tA0))))) (tOrT (tNotT (tChainT dLe dLe (tK (.int 1)) (tFn (d1 dLen) (tAC (tV 0) tA0)) (tK (.int 8)))) (tBinT dIn (tV 0) (tK (.tup (c_RESERVED.map .str)))))) (tRt (tK (.bl false))) tNx) (tRt (tFn (d1 dAll) (tAC (tFrz (tLcM (iSeq (tV 0)) (.one 1) tYe (tBin dIn (tV 1) (tK (.str "abcdefghijklmnopqrstuvwxyz"))) [1])) tA0))))
def r_is_word : DTS := r_is_word_4
theorem rr_is_word : ri_is_word = r_is_word := rfl
def sp_is_word : DSp := spOf 1 2 (r_is_word)
theorem b_is_word {P : Program} {w : World} {K : PySem.W.Frag} {mg : Str → Option Value} {base : Heap} (z_str : mg "str" = none) (z_isinstance : mg "isinstance" = none) (z_len : mg "len" = none) (g_LONGEST : GV K mg "LONGEST" (.int 8)) (g_RESERVED : GV K mg "RESERVED" (.tup (c_RESERVED.map .str))) (g_LETTERS : GV K mg "LETTERS" (.str "abcdefghijklmnopqrstuvwxyz")) (z_all : mg "all" = none) {f : Addr} {cdv : Value} {A : Around} {outer : List PySem.Env} {s : Shared} {H : Hp} {E : XK} (hr : RoomG 0 (A.deeper (envOfC "is_word" (defScope s_is_word) s.heap.objs.size f cdv))) :
    DSs (cxOf CX0 P w K mg base N_is_word "is_word" (defScope s_is_word) f cdv A outer s H E).nox (defBody s_is_word) (ri_is_word) := by
  have hu := hr.hu
  have hgd := hr.g
  have nd := sc_is_word.nd
  exact (dss_cons (ds_if (DW.dt (dw_or (dt_not (dt_truth (de_fn (dc_isi jb_ok) z_isinstance (by decide +kernel) (da_cons (dv 0) (da_cons (de_bty z_str (by decide +kernel)) da_nil))))) (dw_or (dt_not (dt_chain do_le do_le de_int (de_fn dc_len z_len (by decide +kernel) (da_cons (dv 0) da_nil)) (de_gv g_LONGEST))) (dw_or1 (dt_cmp (do_in hu) (dv 0) (de_gv g_RESERVED))))))
  (dss_one (ds_ret de_bl))
  dss_nil)
  (dss_one (ds_ret (de_fn (dc_all rfl) z_all (by decide +kernel) (da_cons (de_frz (de_lc (own := [("letter", 1)]) (di_seq (dv 0)) (blkOk_by (N := N_is_word) (sc := defScope s_is_word) (own := [("letter", 1)]) (by decide +kernel)) nd rfl (fun _ _ _ _ _ => (dgt_one (i := 1) nd)) (fun _ _ _ _ _ => dts_nil) (fun _ _ _ _ _ => (de_cmp (do_in hu) (dv 1) (de_gv g_LETTERS))))) da_nil)))))
theorem f_is_word {P : Program} {w : World} {K : PySem.W.Frag} {mg : Str → Option Value} {base : Heap} (z_str : mg "str" = none) (z_isinstance : mg "isinstance" = none) (z_len : mg "len" = none) (g_LONGEST : GV K mg "LONGEST" (.int 8)) (g_RESERVED : GV K mg "RESERVED" (.tup (c_RESERVED.map .str))) (g_LETTERS : GV K mg "LETTERS" (.str "abcdefghijklmnopqrstuvwxyz")) (z_all : mg "all" = none) {f : Addr} {fd : FuncData} (F : Fun K "is_word" "is_word" s_is_word f fd) : FnG P w K mg base CX0 1 f (liftSp K sp_is_word) :=
  FnG.imp (sp := liftSp K (spOf0 1 2 (r_is_word))) (fn_mk F sc_is_word (F.binds (ps := ["value"]) fun _ _ _ _ _ _ us hl => match us, hl with | [_], _ => rfl) (fun ds m R h => h.1) (fun cdv A outer s H E hr => b_is_word z_str z_isinstance z_len g_LONGEST g_RESERVED g_LETTERS z_all hr) fun ds m R h => h.2) lift_drop
/-! are_words -/
abbrev s_are_words : Stmt := top 11
def N_are_words : List Str := ["values", "value"]
theorem sc_are_words : FnScope N_are_words ["values"] (defScope s_are_words) := ⟨rfl, rfl, rfl, by decide +kernel, rfl, by decide +kernel, by decide +kernel⟩
def r_are_words_1 : DTE := (tCl sp_is_word (tAC (tV 1) tA0))
def r_are_words_2 : DTS := (tRt (tFn (d1 dAll) (tAC (tFrz (tLcM (iSeq (tV 0)) (.one 1) tYe r_are_words_1 [1])) tA0)))
def ri_are_words : DTS := (tRt (tFn (d1 dAll) (tAC (tFrz (tLcM (iSeq (tV 0)) (.one 1) tYe (tCl sp_is_word (tAC (tV 1) tA0)) [1])) tA0)))
def r_are_words : DTS := r_are_words_2
theorem rr_are_words : ri_are_words = r_are_words := rfl
def sp_are_words : DSp := spOf 1 2 (r_are_words)
theorem b_are_words {P : Program} {w : World} {K : PySem.W.Frag} {mg : Str → Option Value} {base : Heap} (c_is_word : CalW P w K mg base "is_word" 1 sp_is_word) (z_all : mg "all" = none) {f : Addr} {cdv : Value} {A : Around} {outer : List PySem.Env} {s : Shared} {H : Hp} {E : XK} (hr : RoomG 1 (A.deeper (envOfC "are_words" (defScope s_are_words) s.heap.objs.size f cdv))) :
    DSs (cxOf CX0 P w K mg base N_are_words "are_words" (defScope s_are_words) f cdv A outer s H E).nox (defBody s_are_words) (ri_are_words) := by
  have hu := hr.hu
  have hgd := hr.g
  have nd := sc_are_words.nd
  exact (dss_one (ds_ret (de_fn (dc_all rfl) z_all (by decide +kernel) (da_cons (de_frz (de_lc (own := [("value", 1)]) (di_seq (dv 0)) (blkOk_by (N := N_are_words) (sc := defScope s_are_words) (own := [("value", 1)]) (by decide +kernel)) nd rfl (fun _ _ _ _ _ => (dgt_one (i := 1) nd)) (fun _ _ _ _ _ => dts_nil) (fun _ _ _ _ _ => (de_call ⟨c_is_word⟩ (hr.mono (by decide)) (da_cons (dv 1) da_nil))))) da_nil))))
theorem f_are_words {P : Program} {w : World} {K : PySem.W.Frag} {mg : Str → Option Value} {base : Heap} (c_is_word : CalW P w K mg base "is_word" 1 sp_is_word) (z_all : mg "all" = none) {f : Addr} {fd : FuncData} (F : Fun K "are_words" "are_words" s_are_words f fd) : FnG P w K mg base CX0 2 f (liftSp K sp_are_words) :=
  FnG.imp (sp := liftSp K (spOf0 1 2 (r_are_words))) (fn_mk F sc_are_words (F.binds (ps := ["values"]) fun _ _ _ _ _ _ us hl => match us, hl with | [_], _ => rfl) (fun ds m R h => h.1) (fun cdv A outer s H E hr => b_are_words c_is_word z_all hr) fun ds m R h => h.2) lift_drop
/-! row_fault -/
abbrev s_row_fault : Stmt := top 17
def N_row_fault : List Str := ["row", "k", "known", "bases", "base"]
theorem sc_row_fault : FnScope N_row_fault ["row", "k", "known"] (defScope s_row_fault) := ⟨rfl, rfl, rfl, by decide +kernel, rfl, by decide +kernel, by decide +kernel⟩
def r_row_fault_1 : DTS := (tRt (tK (.str "many")))
def r_row_fault_2 : DTS := (tRt (tK (.str "row")))
def r_row_fault_3 : DTS := (tRt (tK (.str "name")))
def r_row_fault_4 : DTE := (tBin dIn (tV 4) (tV 2))
def r_row_fault_5 : DTS := (tRt (tK (.str "base")))
def r_row_fault_6 : DTS := (tRt (tK .non))
def r_row_fault_7 : DTS := (tSq (tIfS (tOrT (tNotT (tTru (tFn (d1 dAll) (tAC (tFrz (tLcM (iSeq (tV 3)) (.one 4) tYe r_row_fault_4 [4])) tA0)))) (tBinT dLt (tLenSet (tV 3)) (tFn (d1 dLen) (tAC (tV 3) tA0)))) r_row_fault_5 tNx) r_row_fault_6)
def r_row_fault_8 : DTS := (tSq (tSet 3 (tSlD (tV 0) (tOS (tK (.int 1))) tON)) r_row_fault_7)
def r_row_fault_9 : DTS := (tSq (tIfS (tBinT dIn (tBin dIx (tV 0) (tK (.int 0))) (tV 2)) r_row_fault_3 tNx) r_row_fault_8)
def r_row_fault_10 : DTS := (tSq (tIfS (tOrT (tNotT (tTru (tFn (dIsi JB) (tAC (tV 0) (tAC (tK (.ty "tuple")) tA0))))) (tOrT (tBinT dLt (tFn (d1 dLen) (tAC (tV 0) tA0)) (tK (.int 2))) (tNotT (tTru (tCl sp_are_words (tAC (tV 0) tA0)))))) r_row_fault_2 tNx) r_row_fault_9)
def r_row_fault_11 : DTS := (tSq (tIfS (tBinT dEq (tV 1) (tK (.int 30))) r_row_fault_1 tNx) r_row_fault_10)
def ri_row_fault : DTS := (tSq (tIfS (tBinT dEq (tV 1) (tK (.int 30))) (tRt (tK (.str "many"))) tNx) (tSq (tIfS (tOrT (tNotT (tTru (tFn (dIsi JB) (tAC (tV 0) (tAC (tK (.ty "tuple")) tA0))))) (tOrT (tBinT dLt (tFn (d1 dLen) (tAC (tV 0) tA0)) (tK (.int 2))) (tNotT (tTru (tCl sp_are_words (tAC (tV 0) tA0)))))) (tRt (tK (.str "row"))) tNx) (tSq (tIfS (tBinT dIn (tBin dIx (tV 0) (tK (.int 0))) (tV 2)) (tRt (tK (.str "name"))) tNx) (tSq (tSet 3 (tSlD (tV 0) (tOS (tK (.int 1))) tON)) (tSq (tIfS (tOrT (tNotT (tTru (tFn (d1 dAll) (tAC (tFrz (tLcM (iSeq (tV 3)) (.one 4) tYe (tBin dIn (tV 4) (tV 2)) [4])) tA0)))) (tBinT dLt (tLenSet (tV 3)) (tFn (d1 dLen) (tAC (tV 3) tA0)))) (tRt (tK (.str "base"))) tNx) (tRt (tK .non)))))))
def r_row_fault : DTS := r_row_fault_11
theorem rr_row_fault : ri_row_fault = r_row_fault := rfl
def sp_row_fault : DSp := spOf 3 5 (r_row_fault)
theorem b_row_fault {P : Program} {w : World} {K : PySem.W.Frag} {mg : Str → Option Value} {base : Heap} (g_MOST_ROWS : GV K mg "MOST_ROWS" (.int 30)) (z_tuple : mg "tuple" = none) (z_isinstance : mg "isinstance" = none) (z_len : mg "len" = none) (c_are_words : CalW P w K mg base "are_words" 2 sp_are_words) (z_all : mg "all" = none) (z_set : mg "set" = none) {f : Addr} {cdv : Value} {A : Around} {outer : List PySem.Env} {s : Shared} {H : Hp} {E : XK} (hr : RoomG 2 (A.deeper (envOfC "row_fault" (defScope s_row_fault) s.heap.objs.size f cdv))) :
    DSs (cxOf CX0 P w K mg base N_row_fault "row_fault" (defScope s_row_fault) f cdv A outer s H E).nox (defBody s_row_fault) (ri_row_fault) := by
  have hu := hr.hu
  have hgd := hr.g
  have nd := sc_row_fault.nd
  exact (dss_cons (ds_if (dt_cmp (do_eq hu) (dv 1) (de_gv g_MOST_ROWS))
  (dss_one (ds_ret de_str))
  dss_nil)
  (dss_cons (ds_if (DW.dt (dw_or (dt_not (dt_truth (de_fn (dc_isi jb_ok) z_isinstance (by decide +kernel) (da_cons (dv 0) (da_cons (de_bty z_tuple (by decide +kernel)) da_nil))))) (dw_or (dt_cmp do_lt (de_fn dc_len z_len (by decide +kernel) (da_cons (dv 0) da_nil)) de_int) (dw_or1 (dt_not (dt_truth (de_call ⟨c_are_words⟩ (hr.mono (by decide)) (da_cons (dv 0) da_nil))))))))
  (dss_one (ds_ret de_str))
  dss_nil)
  (dss_cons (ds_if (dt_cmp (do_in hu) (de_ix hu (dv 0) de_int) (dv 2))
  (dss_one (ds_ret de_str))
  dss_nil)
  (dss_cons (ds_set (i := 3) (de_slice (dv 0) (do_some de_int) do_none) nd)
  (dss_cons (ds_if (DW.dt (dw_or (dt_not (dt_truth (de_fn (dc_all rfl) z_all (by decide +kernel) (da_cons (de_frz (de_lc (own := [("base", 4)]) (di_seq (dv 3)) (blkOk_by (N := N_row_fault) (sc := defScope s_row_fault) (own := [("base", 4)]) (by decide +kernel)) nd rfl (fun _ _ _ _ _ => (dgt_one (i := 4) nd)) (fun _ _ _ _ _ => dts_nil) (fun _ _ _ _ _ => (de_cmp (do_in hu) (dv 4) (dv 2))))) da_nil)))) (dw_or1 (dt_cmp do_lt (de_lenSet rfl z_len z_set (dv 3)) (de_fn dc_len z_len (by decide +kernel) (da_cons (dv 3) da_nil))))))
  (dss_one (ds_ret de_str))
  dss_nil)
  (dss_one (ds_ret de_non)))))))
theorem f_row_fault {P : Program} {w : World} {K : PySem.W.Frag} {mg : Str → Option Value} {base : Heap} (g_MOST_ROWS : GV K mg "MOST_ROWS" (.int 30)) (z_tuple : mg "tuple" = none) (z_isinstance : mg "isinstance" = none) (z_len : mg "len" = none) (c_are_words : CalW P w K mg base "are_words" 2 sp_are_words) (z_all : mg "all" = none) (z_set : mg "set" = none) {f : Addr} {fd : FuncData} (F : Fun K "row_fault" "row_fault" s_row_fault f fd) : FnG P w K mg base CX0 3 f (liftSp K sp_row_fault) :=
  FnG.imp (sp := liftSp K (spOf0 3 5 (r_row_fault))) (fn_mk F sc_row_fault (F.binds (ps := ["row", "k", "known"]) fun _ _ _ _ _ _ us hl => match us, hl with | [_, _, _], _ => rfl) (fun ds m R h => h.1) (fun cdv A outer s H E hr => b_row_fault g_MOST_ROWS z_tuple z_isinstance z_len c_are_words z_all z_set hr) fun ds m R h => h.2) lift_drop
/-! Classes.__init__ -/
abbrev s_Classes_init : Stmt := inClass (top 18) 0
def N_Classes_init : List Str := ["self", "rows", "names", "above", "k", "row", "reason", "found", "base", "name"]
theorem sc_Classes_init : FnScope N_Classes_init ["self", "rows"] (defScope s_Classes_init) := ⟨rfl, rfl, rfl, by decide +kernel, rfl, by decide +kernel, by decide +kernel⟩
def r_Classes_init_1 : DTS := tNev
def r_Classes_init_2 : DTT := (tBinT dNotIn (tV 9) (tV 7))
def r_Classes_init_3 : DTE := (tV 9)
def r_Classes_init_4 : DTS := (tDr (tExt (tV 7) (tFrz (tLcM (iSeq (tBin dIx (tV 3) (tV 8))) (.one 9) r_Classes_init_2 r_Classes_init_3 [9]))))
def r_Classes_init_5 : DTS := (tDr (tApp (tV 2) (tBin dIx (tV 5) (tK (.int 0)))))
def r_Classes_init_6 : DTS := (tSq (tAs (tFrz (tV 7)) (gSb (tV 3) (tBin dIx (tV 5) (tK (.int 0))))) r_Classes_init_5)
def r_Classes_init_7 : DTS := (tSq (tFo (iSeq (tSlD (tV 5) (tOS (tK (.int 1))) tON)) (.one 8) r_Classes_init_4) r_Classes_init_6)
def r_Classes_init_8 : DTS := (tSq (tSet 7 (tLstM (tAC (tBin dIx (tV 5) (tK (.int 0))) tA0))) r_Classes_init_7)
def r_Classes_init_9 : DTS := (tSq (tIfS (tBinT dIsNot (tV 6) (tK .non)) r_Classes_init_1 tNx) r_Classes_init_8)
def r_Classes_init_10 : DTS := (tSq (tSet 6 (tCl sp_row_fault (tAC (tV 5) (tAC (tV 4) (tAC (tV 2) tA0))))) r_Classes_init_9)
def r_Classes_init_11 (C_Classes : Addr) : DTS := (tFlS C_Classes "above" (tV 0) (tFrz (tV 3)))
def r_Classes_init_12 (C_Classes : Addr) : DTS := (tSq (tFlS C_Classes "names" (tV 0) (tFn (d1 dTuple) (tAC (tV 2) tA0))) (r_Classes_init_11 C_Classes))
def r_Classes_init_13 (C_Classes : Addr) : DTS := (tSq (tFlS C_Classes "rows" (tV 0) (tV 1)) (r_Classes_init_12 C_Classes))
def r_Classes_init_14 (C_Classes : Addr) : DTS := (tSq (tFo (iEn (tV 1)) (.many [4, 5]) r_Classes_init_10) (r_Classes_init_13 C_Classes))
def r_Classes_init_15 (C_Classes : Addr) : DTS := (tSq (tSet 3 (tDicM [((tK (.str "error")), (tLstD (tAC (tK (.str "error")) tA0))), ((tK (.str "vacant")), (tLstD (tAC (tK (.str "vacant")) (tAC (tK (.str "error")) tA0))))])) (r_Classes_init_14 C_Classes))
def r_Classes_init_16 (C_Classes : Addr) : DTS := (tSq (tSet 2 (tListM (tAC (tK (.tup (c_FIRST.map .str))) tA0))) (r_Classes_init_15 C_Classes))
def ri_Classes_init (C_Classes : Addr) : DTS := (tSq (tSet 2 (tListM (tAC (tK (.tup (c_FIRST.map .str))) tA0))) (tSq (tSet 3 (tDicM [((tK (.str "error")), (tLstD (tAC (tK (.str "error")) tA0))), ((tK (.str "vacant")), (tLstD (tAC (tK (.str "vacant")) (tAC (tK (.str "error")) tA0))))])) (tSq (tFo (iEn (tV 1)) (.many [4, 5]) (tSq (tSet 6 (tCl sp_row_fault (tAC (tV 5) (tAC (tV 4) (tAC (tV 2) tA0))))) (tSq (tIfS (tBinT dIsNot (tV 6) (tK .non)) tNev tNx) (tSq (tSet 7 (tLstM (tAC (tBin dIx (tV 5) (tK (.int 0))) tA0))) (tSq (tFo (iSeq (tSlD (tV 5) (tOS (tK (.int 1))) tON)) (.one 8) (tDr (tExt (tV 7) (tFrz (tLcM (iSeq (tBin dIx (tV 3) (tV 8))) (.one 9) (tBinT dNotIn (tV 9) (tV 7)) (tV 9) [9]))))) (tSq (tAs (tFrz (tV 7)) (gSb (tV 3) (tBin dIx (tV 5) (tK (.int 0))))) (tDr (tApp (tV 2) (tBin dIx (tV 5) (tK (.int 0))))))))))) (tSq (tFlS C_Classes "rows" (tV 0) (tV 1)) (tSq (tFlS C_Classes "names" (tV 0) (tFn (d1 dTuple) (tAC (tV 2) tA0))) (tFlS C_Classes "above" (tV 0) (tFrz (tV 3))))))))
def r_Classes_init (C_Classes : Addr) : DTS := (r_Classes_init_16 C_Classes)
theorem rr_Classes_init (C_Classes : Addr) : ri_Classes_init C_Classes = r_Classes_init C_Classes := rfl
def sp_Classes_init (C_Classes : Addr) : DSp := dropSp (spRest 1 (spOf0 2 10 (r_Classes_init C_Classes)))
theorem b_Classes_init {P : Program} {w : World} {K : PySem.W.Frag} {mg : Str → Option Value} {base : Heap} {C_Classes : Addr} (g_FIRST : GV K mg "FIRST" (.tup (c_FIRST.map .str))) (z_list : mg "list" = none) (z_enumerate : mg "enumerate" = none) (c_row_fault : CalW P w K mg base "row_fault" 3 sp_row_fault) (cl_Classes : Cls K C_Classes) (n_Classes_rows : NoAttr K C_Classes "rows") (z_tuple : mg "tuple" = none) (n_Classes_names : NoAttr K C_Classes "names") (n_Classes_above : NoAttr K C_Classes "above") {f : Addr} {cdv : Value} {A : Around} {outer : List PySem.Env} {s : Shared} {H : Hp} {E : XK} (hr : RoomG 3 (A.deeper (envOfC "Classes.__init__" (defScope s_Classes_init) s.heap.objs.size f cdv))) :
    DSs (cxOf CX0 P w K mg base N_Classes_init "Classes.__init__" (defScope s_Classes_init) f cdv A outer s H E).nox (defBody s_Classes_init) (ri_Classes_init C_Classes) := by
  have hu := hr.hu
  have hgd := hr.g
  have nd := sc_Classes_init.nd
  exact (dss_cons (ds_set (i := 2) (de_listM rfl z_list (da_cons (de_gv g_FIRST) da_nil)) nd)
  (dss_cons (ds_set (i := 3) (de_dic (dps_cons de_str (de_lst (da_cons de_str da_nil)) (dps_cons de_str (de_lst (da_cons de_str (da_cons de_str da_nil))) dps_nil))) nd)
  (dss_cons (ds_for (di_enum z_enumerate (dv 1)) (dgt_many rfl (dgn_cons (i := 4) (dgn_cons (i := 5) dgn_nil nd) nd))
  (dss_cons (ds_set (i := 6) (de_call ⟨c_row_fault⟩ (hr.mono (by decide)) (da_cons (dv 5) (da_cons (dv 4) (da_cons (dv 2) da_nil)))) nd)
  (dss_cons (ds_if (dt_cmp do_isnot (dv 6) de_non)
  (dss_one ds_never)
  dss_nil)
  (dss_cons (ds_set (i := 7) (de_lstM (da_cons (de_ix hu (dv 5) de_int) da_nil)) nd)
  (dss_cons (ds_for (di_seq (de_slice (dv 5) (do_some de_int) do_none)) (dgt_one (i := 8) nd)
  (dss_one (ds_expr (de_ext (dv 7) (de_frz (de_lc (own := [("name", 9)]) (di_seq (de_ix hu (dv 3) (dv 8))) (blkOk_by (N := N_Classes_init) (sc := defScope s_Classes_init) (own := [("name", 9)]) (by decide +kernel)) nd rfl (fun _ _ _ _ _ => (dgt_one (i := 9) nd)) (fun _ _ _ _ _ => (dts_one (dt_cmp (do_notin hu) (dv 9) (dv 7)))) (fun _ _ _ _ _ => (dv 9))))))) rfl PassesOwn.never)
  (dss_cons (ds_asg (de_frz (dv 7)) (dg_sub hu (dv 3) (de_ix hu (dv 5) de_int)))
  (dss_one (ds_expr (de_app (dv 2) (de_ix hu (dv 5) de_int))))))))) rfl PassesOwn.never)
  (dss_cons (ds_fld C_Classes (dv 0) (dv 1) cl_Classes n_Classes_rows)
  (dss_cons (ds_fld C_Classes (dv 0) (de_ty dc_tuple z_tuple (by decide +kernel) (da_cons (dv 2) da_nil)) cl_Classes n_Classes_names)
  (dss_one (ds_fld C_Classes (dv 0) (de_frz (dv 3)) cl_Classes n_Classes_above)))))))
theorem f_Classes_init {P : Program} {w : World} {K : PySem.W.Frag} {mg : Str → Option Value} {base : Heap} {C_Classes : Addr} (g_FIRST : GV K mg "FIRST" (.tup (c_FIRST.map .str))) (z_list : mg "list" = none) (z_enumerate : mg "enumerate" = none) (c_row_fault : CalW P w K mg base "row_fault" 3 sp_row_fault) (cl_Classes : Cls K C_Classes) (n_Classes_rows : NoAttr K C_Classes "rows") (z_tuple : mg "tuple" = none) (n_Classes_names : NoAttr K C_Classes "names") (n_Classes_above : NoAttr K C_Classes "above") {f : Addr} {fd : FuncData} (F : Fun K "__init__" "Classes.__init__" s_Classes_init f fd) : FnG P w K mg base CX0 4 f (liftSp K (sp_Classes_init C_Classes)) :=
  FnG.imp (sp := liftSp K (spRest 1 (spOf0 2 10 (r_Classes_init C_Classes)))) (fn_mkS (ps := ["self"]) (pv := "rows") F sc_Classes_init (fun _ _ _ _ _ _ => StX.bind_star1 (B := fun vs => bindArgs _ ⟨vs, []⟩) (fun _ => rfl) (fun _ _ _ => rfl)) (fun cdv A outer s H E hr => b_Classes_init g_FIRST z_list z_enumerate c_row_fault cl_Classes n_Classes_rows z_tuple n_Classes_names n_Classes_above hr) fun ds m R h => h.2) lift_drop
/-! Classes.made -/
abbrev s_Classes_made : Stmt := inClass (top 18) 1
def N_Classes_made : List Str := ["cls", "rows"]
theorem sc_Classes_made : FnScope N_Classes_made ["cls", "rows"] (defScope s_Classes_made) := ⟨rfl, rfl, rfl, by decide +kernel, rfl, by decide +kernel, by decide +kernel⟩
def r_Classes_made_1 (C_Classes : Addr) : DTS := (tRt (tFrz (tNwF C_Classes (sp_Classes_init C_Classes) (tV 0) (tAS (tV 1) tA0))))
def ri_Classes_made (C_Classes : Addr) : DTS := (tRt (tFrz (tNwF C_Classes (sp_Classes_init C_Classes) (tV 0) (tAS (tV 1) tA0))))
def r_Classes_made (C_Classes : Addr) : DTS := (r_Classes_made_1 C_Classes)
theorem rr_Classes_made (C_Classes : Addr) : ri_Classes_made C_Classes = r_Classes_made C_Classes := rfl
def sp_Classes_made (C_Classes : Addr) : DSp := spOf 2 2 (r_Classes_made C_Classes)
theorem b_Classes_made {P : Program} {w : World} {K : PySem.W.Frag} {mg : Str → Option Value} {base : Heap} {C_Classes : Addr} (mk_Classes : CalCW P w K mg base C_Classes 4 (sp_Classes_init C_Classes)) {f : Addr} {cdv : Value} {A : Around} {outer : List PySem.Env} {s : Shared} {H : Hp} {E : XK} (hr : RoomG 5 (A.deeper (envOfC "Classes.made" (defScope s_Classes_made) s.heap.objs.size f cdv))) :
    DSs (cxOf CX0 P w K mg base N_Classes_made "Classes.made" (defScope s_Classes_made) f cdv A outer s H E).nox (defBody s_Classes_made) (ri_Classes_made C_Classes) := by
  have hu := hr.hu
  have hgd := hr.g
  have nd := sc_Classes_made.nd
  exact (dss_one (ds_ret (de_frz (de_newS ⟨mk_Classes⟩ (hr.mono (by decide)) (dv 0) (dv 1)))))
theorem f_Classes_made {P : Program} {w : World} {K : PySem.W.Frag} {mg : Str → Option Value} {base : Heap} {C_Classes : Addr} (mk_Classes : CalCW P w K mg base C_Classes 4 (sp_Classes_init C_Classes)) {f : Addr} {fd : FuncData} (F : Fun K "made" "Classes.made" s_Classes_made f fd) : FnG P w K mg base CX0 6 f (liftSp K (sp_Classes_made C_Classes)) :=
  FnG.imp (sp := liftSp K (spOf0 2 2 (r_Classes_made C_Classes))) (fn_mk F sc_Classes_made (F.binds (ps := ["cls", "rows"]) fun _ _ _ _ _ _ us hl => match us, hl with | [_, _], _ => rfl) (fun ds m R h => h.1) (fun cdv A outer s H E hr => b_Classes_made mk_Classes hr) fun ds m R h => h.2) lift_drop
/-! Classes.__eq__ -/
abbrev s_Classes_eq : Stmt := inClass (top 18) 5
def N_Classes_eq : List Str := ["self", "other"]
theorem sc_Classes_eq : FnScope N_Classes_eq ["self", "other"] (defScope s_Classes_eq) := ⟨rfl, rfl, rfl, by decide +kernel, rfl, by decide +kernel, by decide +kernel⟩
def r_Classes_eq_1 (C_ByTrail : Addr) (C_Classes : Addr) (C_Level : Addr) : DTS := (tRt (tAndV (tFn (dIsiO (JO (tb_isi C_ByTrail C_Classes C_Level))) (tAC (tV 1) (tAC (tK (.ref C_Classes)) tA0))) (tBin dEq (tFl C_Classes "rows" (tV 0)) (tFl C_Classes "rows" (tV 1)))))
def ri_Classes_eq (C_ByTrail : Addr) (C_Classes : Addr) (C_Level : Addr) : DTS := (tRt (tAndV (tFn (dIsiO (JO (tb_isi C_ByTrail C_Classes C_Level))) (tAC (tV 1) (tAC (tK (.ref C_Classes)) tA0))) (tBin dEq (tFl C_Classes "rows" (tV 0)) (tFl C_Classes "rows" (tV 1)))))
def r_Classes_eq (C_ByTrail : Addr) (C_Classes : Addr) (C_Level : Addr) : DTS := (r_Classes_eq_1 C_ByTrail C_Classes C_Level)
theorem rr_Classes_eq (C_ByTrail : Addr) (C_Classes : Addr) (C_Level : Addr) : ri_Classes_eq C_ByTrail C_Classes C_Level = r_Classes_eq C_ByTrail C_Classes C_Level := rfl
def sp_Classes_eq (C_ByTrail : Addr) (C_Classes : Addr) (C_Level : Addr) : DSp := spOf 2 2 (r_Classes_eq C_ByTrail C_Classes C_Level)
theorem b_Classes_eq {P : Program} {w : World} {K : PySem.W.Frag} {mg : Str → Option Value} {base : Heap} {C_ByTrail : Addr} {C_Classes : Addr} {C_Level : Addr} (ji : JOk K (JO (tb_isi C_ByTrail C_Classes C_Level))) (g_Classes : GV K mg "Classes" (.ref C_Classes)) (z_isinstance : mg "isinstance" = none) (cl_Classes : Cls K C_Classes) (n_Classes_rows : NoAttr K C_Classes "rows") {f : Addr} {cdv : Value} {A : Around} {outer : List PySem.Env} {s : Shared} {H : Hp} {E : XK} (hr : RoomG 0 (A.deeper (envOfC "Classes.__eq__" (defScope s_Classes_eq) s.heap.objs.size f cdv))) :
    DSs (cxOf CX0 P w K mg base N_Classes_eq "Classes.__eq__" (defScope s_Classes_eq) f cdv A outer s H E).nox (defBody s_Classes_eq) (ri_Classes_eq C_ByTrail C_Classes C_Level) := by
  have hu := hr.hu
  have hgd := hr.g
  have nd := sc_Classes_eq.nd
  exact (dss_one (ds_ret (de_and (de_fn (dc_isiO ji) z_isinstance (by decide +kernel) (da_cons (dv 1) (da_cons (de_gv g_Classes) da_nil))) (de_one (de_cmp (do_eq hu) (de_fld C_Classes (dv 0) cl_Classes n_Classes_rows) (de_fld C_Classes (dv 1) cl_Classes n_Classes_rows))))))
theorem f_Classes_eq {P : Program} {w : World} {K : PySem.W.Frag} {mg : Str → Option Value} {base : Heap} {C_ByTrail : Addr} {C_Classes : Addr} {C_Level : Addr} (ji : JOk K (JO (tb_isi C_ByTrail C_Classes C_Level))) (g_Classes : GV K mg "Classes" (.ref C_Classes)) (z_isinstance : mg "isinstance" = none) (cl_Classes : Cls K C_Classes) (n_Classes_rows : NoAttr K C_Classes "rows") {f : Addr} {fd : FuncData} (F : Fun K "__eq__" "Classes.__eq__" s_Classes_eq f fd) : FnG P w K mg base CX0 1 f (liftSp K (sp_Classes_eq C_ByTrail C_Classes C_Level)) :=
  FnG.imp (sp := liftSp K (spOf0 2 2 (r_Classes_eq C_ByTrail C_Classes C_Level))) (fn_mk F sc_Classes_eq (F.binds (ps := ["self", "other"]) fun _ _ _ _ _ _ us hl => match us, hl with | [_, _], _ => rfl) (fun ds m R h => h.1) (fun cdv A outer s H E hr => b_Classes_eq ji g_Classes z_isinstance cl_Classes n_Classes_rows hr) fun ds m R h => h.2) lift_drop
/-! _law_chain -/
abbrev s_l_chain : Stmt := top 28
def N_l_chain : List Str := ["_law_pen_here", "_law_line", "_law_names", "_law_rest", "_law_at", "_law_mark", "_law_ahead", "_law_some_here", "_law_found"]
theorem sc_l_chain : FnScope N_l_chain ["_law_pen_here", "_law_line", "_law_names"] (defScope s_l_chain) := ⟨rfl, rfl, rfl, by decide +kernel, rfl, by decide +kernel, by decide +kernel⟩
def r_l_chain_1 : DTS := (tRt (tIfD (tBinT dNe (tV 8) (tTupD tA0)) (tV 8) (tTupD (tAC (tV 5) tA0))))
def r_l_chain_2 : DTS := (tSq (tSet 8 (tCl sp_l_pick (tAC (tV 0) (tAC (tV 7) tA0)))) r_l_chain_1)
def r_l_chain_3 : DTS := (tSq (tSet 7 (tBin dAdd (tV 7) (tLstD (tAC (tBin dAdd (tBin dAdd (tSlD (tV 3) tON (tOS (tV 4))) (tSlD (tV 3) (tOS (tV 4)) (tOS (tBin dAdd (tV 4) (tK (.int 1)))))) (tSlD (tV 3) (tOS (tV 4)) tON)) (tAC (tBin dAdd (tSlD (tV 3) tON (tOS (tV 4))) (tSlD (tV 3) (tOS (tBin dAdd (tV 4) (tK (.int 1)))) tON)) (tAC (tTupD (tAC (tV 5) (tAC (tV 5) tA0))) tA0)))))) r_l_chain_2)
def r_l_chain_4 : DTS := (tSq (tSet 7 (tLstD (tAC (tV 3) (tAC (tV 3) (tAC (tV 1) (tAC (tBin dAdd (tTupD (tAC (tV 5) tA0)) (tV 3)) (tAC (tBin dAdd (tV 6) (tV 3)) (tAC (tBin dAdd (tBin dAdd (tSlD (tV 3) tON (tOS (tV 4))) (tTupD (tAC (tV 5) tA0))) (tSlD (tV 3) (tOS (tBin dAdd (tV 4) (tK (.int 1)))) tON)) (tAC (tBin dAdd (tV 3) (tTupD (tAC (tV 5) tA0))) tA0))))))))) r_l_chain_3)
def r_l_chain_5 : DTS := (tSq (tSet 6 (tSlD (tV 1) tON (tOS (tCl sp_l_draw (tAC (tV 0) (tAC (tK (.int 3)) tA0)))))) r_l_chain_4)
def r_l_chain_6 : DTS := (tSq (tSet 5 (tCl sp_l_pick (tAC (tV 0) (tAC (tV 2) tA0)))) r_l_chain_5)
def r_l_chain_7 : DTS := (tSq (tSet 4 (tCl sp_l_draw (tAC (tV 0) (tAC (tFn (d1 dLen) (tAC (tV 3) tA0)) tA0)))) r_l_chain_6)
def r_l_chain_8 : DTS := (tSq (tSet 3 (tSlD (tV 1) (tOS (tCl sp_l_draw (tAC (tV 0) (tAC (tFn (d1 dLen) (tAC (tV 1) tA0)) tA0)))) tON)) r_l_chain_7)
def ri_l_chain : DTS := (tSq (tSet 3 (tSlD (tV 1) (tOS (tCl sp_l_draw (tAC (tV 0) (tAC (tFn (d1 dLen) (tAC (tV 1) tA0)) tA0)))) tON)) (tSq (tSet 4 (tCl sp_l_draw (tAC (tV 0) (tAC (tFn (d1 dLen) (tAC (tV 3) tA0)) tA0)))) (tSq (tSet 5 (tCl sp_l_pick (tAC (tV 0) (tAC (tV 2) tA0)))) (tSq (tSet 6 (tSlD (tV 1) tON (tOS (tCl sp_l_draw (tAC (tV 0) (tAC (tK (.int 3)) tA0)))))) (tSq (tSet 7 (tLstD (tAC (tV 3) (tAC (tV 3) (tAC (tV 1) (tAC (tBin dAdd (tTupD (tAC (tV 5) tA0)) (tV 3)) (tAC (tBin dAdd (tV 6) (tV 3)) (tAC (tBin dAdd (tBin dAdd (tSlD (tV 3) tON (tOS (tV 4))) (tTupD (tAC (tV 5) tA0))) (tSlD (tV 3) (tOS (tBin dAdd (tV 4) (tK (.int 1)))) tON)) (tAC (tBin dAdd (tV 3) (tTupD (tAC (tV 5) tA0))) tA0))))))))) (tSq (tSet 7 (tBin dAdd (tV 7) (tLstD (tAC (tBin dAdd (tBin dAdd (tSlD (tV 3) tON (tOS (tV 4))) (tSlD (tV 3) (tOS (tV 4)) (tOS (tBin dAdd (tV 4) (tK (.int 1)))))) (tSlD (tV 3) (tOS (tV 4)) tON)) (tAC (tBin dAdd (tSlD (tV 3) tON (tOS (tV 4))) (tSlD (tV 3) (tOS (tBin dAdd (tV 4) (tK (.int 1)))) tON)) (tAC (tTupD (tAC (tV 5) (tAC (tV 5) tA0))) tA0)))))) (tSq (tSet 8 (tCl sp_l_pick (tAC (tV 0) (tAC (tV 7) tA0)))) (tRt (tIfD (tBinT dNe (tV 8) (tTupD tA0)) (tV 8) (tTupD (tAC (tV 5) tA0)))))))))))
def r_l_chain : DTS := r_l_chain_8
theorem rr_l_chain : ri_l_chain = r_l_chain := rfl
def sp_l_chain : DSp := spOf 3 9 (r_l_chain)
theorem b_l_chain {P : Program} {w : World} {K : PySem.W.Frag} {mg : Str → Option Value} {base : Heap} (c_l_draw : CalW P w K mg base "_law_draw" 1 sp_l_draw) (z_len : mg "len" = none) (c_l_pick : CalW P w K mg base "_law_pick" 2 sp_l_pick) {f : Addr} {cdv : Value} {A : Around} {outer : List PySem.Env} {s : Shared} {H : Hp} {E : XK} (hr : RoomG 2 (A.deeper (envOfC "_law_chain" (defScope s_l_chain) s.heap.objs.size f cdv))) :
    DSs (cxOf CX0 P w K mg base N_l_chain "_law_chain" (defScope s_l_chain) f cdv A outer s H E).nox (defBody s_l_chain) (ri_l_chain) := by
  have hu := hr.hu
  have hgd := hr.g
  have nd := sc_l_chain.nd
  exact (dss_cons (ds_set (i := 3) (de_slice (dv 1) (do_some (de_call ⟨c_l_draw⟩ (hr.mono (by decide)) (da_cons (dv 0) (da_cons (de_fn dc_len z_len (by decide +kernel) (da_cons (dv 1) da_nil)) da_nil)))) do_none) nd)
  (dss_cons (ds_set (i := 4) (de_call ⟨c_l_draw⟩ (hr.mono (by decide)) (da_cons (dv 0) (da_cons (de_fn dc_len z_len (by decide +kernel) (da_cons (dv 3) da_nil)) da_nil))) nd)
  (dss_cons (ds_set (i := 5) (de_call ⟨c_l_pick⟩ (hr.mono (by decide)) (da_cons (dv 0) (da_cons (dv 2) da_nil))) nd)
  (dss_cons (ds_set (i := 6) (de_slice (dv 1) do_none (do_some (de_call ⟨c_l_draw⟩ (hr.mono (by decide)) (da_cons (dv 0) (da_cons de_int da_nil))))) nd)
  (dss_cons (ds_set (i := 7) (de_lst (da_cons (dv 3) (da_cons (dv 3) (da_cons (dv 1) (da_cons (de_op do_add (de_tup (da_cons (dv 5) da_nil)) (dv 3)) (da_cons (de_op do_add (dv 6) (dv 3)) (da_cons (de_op do_add (de_op do_add (de_slice (dv 3) do_none (do_some (dv 4))) (de_tup (da_cons (dv 5) da_nil))) (de_slice (dv 3) (do_some (de_op do_add (dv 4) de_int)) do_none)) (da_cons (de_op do_add (dv 3) (de_tup (da_cons (dv 5) da_nil))) da_nil)))))))) nd)
  (dss_cons (ds_set (i := 7) (de_op do_add (dv 7) (de_lst (da_cons (de_op do_add (de_op do_add (de_slice (dv 3) do_none (do_some (dv 4))) (de_slice (dv 3) (do_some (dv 4)) (do_some (de_op do_add (dv 4) de_int)))) (de_slice (dv 3) (do_some (dv 4)) do_none)) (da_cons (de_op do_add (de_slice (dv 3) do_none (do_some (dv 4))) (de_slice (dv 3) (do_some (de_op do_add (dv 4) de_int)) do_none)) (da_cons (de_tup (da_cons (dv 5) (da_cons (dv 5) da_nil))) da_nil))))) nd)
  (dss_cons (ds_set (i := 8) (de_call ⟨c_l_pick⟩ (hr.mono (by decide)) (da_cons (dv 0) (da_cons (dv 7) da_nil))) nd)
  (dss_one (ds_ret (de_if (dt_cmp (do_ne hu) (dv 8) (de_tup da_nil)) (dv 8) (de_tup (da_cons (dv 5) da_nil))))))))))))
theorem f_l_chain {P : Program} {w : World} {K : PySem.W.Frag} {mg : Str → Option Value} {base : Heap} (c_l_draw : CalW P w K mg base "_law_draw" 1 sp_l_draw) (z_len : mg "len" = none) (c_l_pick : CalW P w K mg base "_law_pick" 2 sp_l_pick) {f : Addr} {fd : FuncData} (F : Fun K "_law_chain" "_law_chain" s_l_chain f fd) : FnG P w K mg base CX0 3 f (liftSp K sp_l_chain) :=
  FnG.imp (sp := liftSp K (spOf0 3 9 (r_l_chain))) (fn_mk F sc_l_chain (F.binds (ps := ["_law_pen_here", "_law_line", "_law_names"]) fun _ _ _ _ _ _ us hl => match us, hl with | [_, _, _], _ => rfl) (fun ds m R h => h.1) (fun cdv A outer s H E hr => b_l_chain c_l_draw z_len c_l_pick hr) fun ds m R h => h.2) lift_drop
/-! ByTrail.view -/
abbrev s_ByTrail_view : Stmt := inClass (top 13) 2
def N_ByTrail_view : List Str := ["self", "name", "cause", "place"]
theorem sc_ByTrail_view : FnScope N_ByTrail_view ["self", "name", "cause"] (defScope s_ByTrail_view) := ⟨rfl, rfl, rfl, by decide +kernel, rfl, by decide +kernel, by decide +kernel⟩
def r_ByTrail_view_1 (C_ByTrail : Addr) : DTS := (tRt (tTupD (tAC (tV 1) (tAC (tIfD (tAndT (tBinT dGe (tV 3) (tK (.int 0))) (tBinT dEq (tBin dIx (tFl C_ByTrail "trail" (tV 0)) (tV 3)) (tV 1))) (tV 3) (tNeg (tK (.int 1)))) tA0))))
def r_ByTrail_view_2 (C_ByTrail : Addr) : DTS := (tSq (tSet 3 (tIfD (tBinT dIs (tV 2) (tK .non)) (tBin dSub (tFn (d1 dLen) (tAC (tFl C_ByTrail "trail" (tV 0)) tA0)) (tK (.int 1))) (tBin dSub (tBin dIx (tV 2) (tK (.int 1))) (tK (.int 1))))) (r_ByTrail_view_1 C_ByTrail))
def ri_ByTrail_view (C_ByTrail : Addr) : DTS := (tSq (tSet 3 (tIfD (tBinT dIs (tV 2) (tK .non)) (tBin dSub (tFn (d1 dLen) (tAC (tFl C_ByTrail "trail" (tV 0)) tA0)) (tK (.int 1))) (tBin dSub (tBin dIx (tV 2) (tK (.int 1))) (tK (.int 1))))) (tRt (tTupD (tAC (tV 1) (tAC (tIfD (tAndT (tBinT dGe (tV 3) (tK (.int 0))) (tBinT dEq (tBin dIx (tFl C_ByTrail "trail" (tV 0)) (tV 3)) (tV 1))) (tV 3) (tNeg (tK (.int 1)))) tA0)))))
def r_ByTrail_view (C_ByTrail : Addr) : DTS := (r_ByTrail_view_2 C_ByTrail)
theorem rr_ByTrail_view (C_ByTrail : Addr) : ri_ByTrail_view C_ByTrail = r_ByTrail_view C_ByTrail := rfl
def sp_ByTrail_view (C_ByTrail : Addr) : DSp := spOf 3 4 (r_ByTrail_view C_ByTrail)
theorem b_ByTrail_view {P : Program} {w : World} {K : PySem.W.Frag} {mg : Str → Option Value} {base : Heap} {C_ByTrail : Addr} (cl_ByTrail : Cls K C_ByTrail) (n_ByTrail_trail : NoAttr K C_ByTrail "trail") (z_len : mg "len" = none) {f : Addr} {cdv : Value} {A : Around} {outer : List PySem.Env} {s : Shared} {H : Hp} {E : XK} (hr : RoomG 0 (A.deeper (envOfC "ByTrail.view" (defScope s_ByTrail_view) s.heap.objs.size f cdv))) :
    DSs (cxOf CX0 P w K mg base N_ByTrail_view "ByTrail.view" (defScope s_ByTrail_view) f cdv A outer s H E).nox (defBody s_ByTrail_view) (ri_ByTrail_view C_ByTrail) := by
  have hu := hr.hu
  have hgd := hr.g
  have nd := sc_ByTrail_view.nd
  exact (dss_cons (ds_set (i := 3) (de_if (dt_cmp do_is (dv 2) de_non) (de_op do_sub (de_fn dc_len z_len (by decide +kernel) (da_cons (de_fld C_ByTrail (dv 0) cl_ByTrail n_ByTrail_trail) da_nil)) de_int) (de_op do_sub (de_ix hu (dv 2) de_int) de_int)) nd)
  (dss_one (ds_ret (de_tup (da_cons (dv 1) (da_cons (de_if (DW.dt (dw_and (dt_cmp do_ge (dv 3) de_int) (dw_and1 (dt_cmp (do_eq hu) (de_ix hu (de_fld C_ByTrail (dv 0) cl_ByTrail n_ByTrail_trail) (dv 3)) (dv 1))))) (dv 3) (de_neg de_int)) da_nil))))))
theorem f_ByTrail_view {P : Program} {w : World} {K : PySem.W.Frag} {mg : Str → Option Value} {base : Heap} {C_ByTrail : Addr} (cl_ByTrail : Cls K C_ByTrail) (n_ByTrail_trail : NoAttr K C_ByTrail "trail") (z_len : mg "len" = none) {f : Addr} {fd : FuncData} (F : FunV K "view" "ByTrail.view" s_ByTrail_view [V.non] f fd) : FnG P w K mg base CX0 1 f (liftSp K (sp_ByTrail_view C_ByTrail)) :=
  FnG.imp (sp := liftSp K (spOf0 3 4 (r_ByTrail_view C_ByTrail))) (fn_mkV (n := 3) (j := 1) (ps := ["self", "name", "cause"]) (dds := [.non]) F sc_ByTrail_view (fun m H => by simp [RepL, Rep]) (fun T kV doc pm an cdv ct us its hl hi => match us, hl, its, hi with | [_, _, _], _, [_], _ => ⟨_, rfl, rfl⟩) (fun ds m R h => h.1) rfl (fun cdv A outer s H E hr => b_ByTrail_view cl_ByTrail n_ByTrail_trail z_len hr) fun ds m R h => (by rw [show ds ++ List.drop 1 ([.non] : List D) = ds from List.append_nil ds]; exact h.2)) (fun vs H Q E h => lift_drop (sp := spOf0 3 4 (r_ByTrail_view C_ByTrail)) vs H Q E h)
theorem fd2_ByTrail_view {P : Program} {w : World} {K : PySem.W.Frag} {mg : Str → Option Value} {base : Heap} {C_ByTrail : Addr} (cl_ByTrail : Cls K C_ByTrail) (n_ByTrail_trail : NoAttr K C_ByTrail "trail") (z_len : mg "len" = none) {f : Addr} {fd : FuncData} (F : FunV K "view" "ByTrail.view" s_ByTrail_view [V.non] f fd) : FnG P w K mg base CX0 1 f (liftSp K (spDft 2 [.non] (sp_ByTrail_view C_ByTrail))) :=
  FnG.imp (sp := liftSp K (spDft 2 [.non] (spOf0 3 4 (r_ByTrail_view C_ByTrail)))) (fn_mkV (n := 2) (j := 0) (ps := ["self", "name", "cause"]) (dds := [.non]) F sc_ByTrail_view (fun m H => by simp [RepL, Rep]) (fun T kV doc pm an cdv ct us its hl hi => match us, hl, its, hi with | [_, _], _, [_], _ => ⟨_, rfl, rfl⟩) (fun ds m R h => h.1) rfl (fun cdv A outer s H E hr => b_ByTrail_view cl_ByTrail n_ByTrail_trail z_len hr) fun ds m R h => h.2.2) (fun vs H Q E h => lift_drop (sp := spDft 2 [.non] (spOf0 3 4 (r_ByTrail_view C_ByTrail))) vs H Q E h)
/-! _law_due -/
abbrev s_l_due : Stmt := top 29
def N_l_due : List Str := ["_law_line", "_law_rest", "_law_places", "_law_k"]
theorem sc_l_due : FnScope N_l_due ["_law_line", "_law_rest"] (defScope s_l_due) := ⟨rfl, rfl, rfl, by decide +kernel, rfl, by decide +kernel, by decide +kernel⟩
def r_l_due_1 : DTT := (tBinT dEq (tSlD (tV 0) (tOS (tV 3)) tON) (tV 1))
def r_l_due_2 : DTE := (tV 3)
def r_l_due_3 : DTS := (tRt (tTupD (tAC (tBin dIx (tV 1) (tK (.int 0))) (tAC (tIfD (tBinT dNe (tV 2) (tLstD tA0)) (tBin dIx (tV 2) (tK (.int 0))) (tNeg (tK (.int 1)))) tA0))))
def r_l_due_4 : DTS := (tSq (tSet 2 (tFrz (tLcM (iRg (tAC (tFn (d1 dLen) (tAC (tV 0) tA0)) tA0)) (.one 3) r_l_due_1 r_l_due_2 [3]))) r_l_due_3)
def ri_l_due : DTS := (tSq (tSet 2 (tFrz (tLcM (iRg (tAC (tFn (d1 dLen) (tAC (tV 0) tA0)) tA0)) (.one 3) (tBinT dEq (tSlD (tV 0) (tOS (tV 3)) tON) (tV 1)) (tV 3) [3]))) (tRt (tTupD (tAC (tBin dIx (tV 1) (tK (.int 0))) (tAC (tIfD (tBinT dNe (tV 2) (tLstD tA0)) (tBin dIx (tV 2) (tK (.int 0))) (tNeg (tK (.int 1)))) tA0)))))
def r_l_due : DTS := r_l_due_4
theorem rr_l_due : ri_l_due = r_l_due := rfl
def sp_l_due : DSp := spOf 2 4 (r_l_due)
theorem b_l_due {P : Program} {w : World} {K : PySem.W.Frag} {mg : Str → Option Value} {base : Heap} (z_len : mg "len" = none) (z_range : mg "range" = none) {f : Addr} {cdv : Value} {A : Around} {outer : List PySem.Env} {s : Shared} {H : Hp} {E : XK} (hr : RoomG 0 (A.deeper (envOfC "_law_due" (defScope s_l_due) s.heap.objs.size f cdv))) :
    DSs (cxOf CX0 P w K mg base N_l_due "_law_due" (defScope s_l_due) f cdv A outer s H E).nox (defBody s_l_due) (ri_l_due) := by
  have hu := hr.hu
  have hgd := hr.g
  have nd := sc_l_due.nd
  exact (dss_cons (ds_setLcF (j := 2) (own := [("_law_k", 3)]) (di_range z_range (da_cons (de_fn dc_len z_len (by decide +kernel) (da_cons (dv 0) da_nil)) da_nil)) (blkOk_by (N := N_l_due) (sc := defScope s_l_due) (own := [("_law_k", 3)]) (by decide +kernel)) nd rfl (fun _ _ _ _ _ => (dgt_one (i := 3) nd)) (fun _ _ _ _ _ => (dts_one (dt_cmp (do_eq hu) (de_slice (dv 0) (do_some (dv 3)) do_none) (dv 1)))) (fun _ _ _ _ _ => (dv 3)) (sw_true rfl rfl rfl (by decide +kernel)))
  (dss_one (ds_ret (de_tup (da_cons (de_ix hu (dv 1) de_int) (da_cons (de_if (dt_cmp (do_ne hu) (dv 2) (de_lst da_nil)) (de_ix hu (dv 2) de_int) (de_neg de_int)) da_nil))))))
theorem f_l_due {P : Program} {w : World} {K : PySem.W.Frag} {mg : Str → Option Value} {base : Heap} (z_len : mg "len" = none) (z_range : mg "range" = none) {f : Addr} {fd : FuncData} (F : Fun K "_law_due" "_law_due" s_l_due f fd) : FnG P w K mg base CX0 1 f (liftSp K sp_l_due) :=
  FnG.imp (sp := liftSp K (spOf0 2 4 (r_l_due))) (fn_mk F sc_l_due (F.binds (ps := ["_law_line", "_law_rest"]) fun _ _ _ _ _ _ us hl => match us, hl with | [_, _], _ => rfl) (fun ds m R h => h.1) (fun cdv A outer s H E hr => b_l_due z_len z_range hr) fun ds m R h => h.2) lift_drop
/-! ByTrail.name_of -/
abbrev s_ByTrail_name_of : Stmt := inClass (top 13) 3
def N_ByTrail_name_of : List Str := ["self", "view"]
theorem sc_ByTrail_name_of : FnScope N_ByTrail_name_of ["self", "view"] (defScope s_ByTrail_name_of) := ⟨rfl, rfl, rfl, by decide +kernel, rfl, by decide +kernel, by decide +kernel⟩
def r_ByTrail_name_of_1 : DTS := (tRt (tBin dIx (tV 1) (tK (.int 0))))
def ri_ByTrail_name_of : DTS := (tRt (tBin dIx (tV 1) (tK (.int 0))))
def r_ByTrail_name_of : DTS := r_ByTrail_name_of_1
theorem rr_ByTrail_name_of : ri_ByTrail_name_of = r_ByTrail_name_of := rfl
def sp_ByTrail_name_of : DSp := spOf 2 2 (r_ByTrail_name_of)
theorem b_ByTrail_name_of {P : Program} {w : World} {K : PySem.W.Frag} {mg : Str → Option Value} {base : Heap}  {f : Addr} {cdv : Value} {A : Around} {outer : List PySem.Env} {s : Shared} {H : Hp} {E : XK} (hr : RoomG 0 (A.deeper (envOfC "ByTrail.name_of" (defScope s_ByTrail_name_of) s.heap.objs.size f cdv))) :
    DSs (cxOf CX0 P w K mg base N_ByTrail_name_of "ByTrail.name_of" (defScope s_ByTrail_name_of) f cdv A outer s H E).nox (defBody s_ByTrail_name_of) (ri_ByTrail_name_of) := by
  have hu := hr.hu
  have hgd := hr.g
  have nd := sc_ByTrail_name_of.nd
  exact (dss_one (ds_ret (de_ix hu (dv 1) de_int)))
theorem f_ByTrail_name_of {P : Program} {w : World} {K : PySem.W.Frag} {mg : Str → Option Value} {base : Heap}  {f : Addr} {fd : FuncData} (F : Fun K "name_of" "ByTrail.name_of" s_ByTrail_name_of f fd) : FnG P w K mg base CX0 1 f (liftSp K sp_ByTrail_name_of) :=
  FnG.imp (sp := liftSp K (spOf0 2 2 (r_ByTrail_name_of))) (fn_mk F sc_ByTrail_name_of (F.binds (ps := ["self", "view"]) fun _ _ _ _ _ _ us hl => match us, hl with | [_, _], _ => rfl) (fun ds m R h => h.1) (fun cdv A outer s H E hr => b_ByTrail_name_of  hr) fun ds m R h => h.2) lift_drop
/-! _law_views_right -/
abbrev s_l_views_right : Stmt := top 30
def N_l_views_right : List Str := ["_law_pen_here", "_law_level", "_law_line", "_law_chain_here", "_law_seen", "_law_k"]
theorem sc_l_views_right : FnScope N_l_views_right ["_law_pen_here", "_law_level", "_law_line", "_law_chain_here"] (defScope s_l_views_right) := ⟨rfl, rfl, rfl, by decide +kernel, rfl, by decide +kernel, by decide +kernel⟩
def r_l_views_right_1 (C_ByTrail : Addr) : DTS := (tSet 4 (tMt C_ByTrail "view" (spDft 2 [.non] (sp_ByTrail_view C_ByTrail)) (tV 1) (tAC (tBin dIx (tV 3) (tV 5)) tA0)))
def r_l_views_right_2 (C_ByTrail : Addr) : DTS := (tSet 4 (tMtK C_ByTrail "view" ["cause", "name"] [0, 2, 1] (sp_ByTrail_view C_ByTrail) (tV 1) (tAC (tV 4) (tAC (tBin dIx (tV 3) (tV 5)) tA0))))
def r_l_views_right_3 (C_ByTrail : Addr) : DTS := (tSet 4 (tMt C_ByTrail "view" (sp_ByTrail_view C_ByTrail) (tV 1) (tAC (tBin dIx (tV 3) (tV 5)) (tAC (tV 4) tA0))))
def r_l_views_right_4 (C_ByTrail : Addr) : DTS := (tIfS (tBinT dEq (tCl sp_l_draw (tAC (tV 0) (tAC (tK (.int 2)) tA0))) (tK (.int 0))) (r_l_views_right_2 C_ByTrail) (r_l_views_right_3 C_ByTrail))
def r_l_views_right_5 : DTS := (tRt (tK (.bl false)))
def r_l_views_right_6 (C_ByTrail : Addr) : DTS := (tIfS (tOrT (tBinT dNe (tFn (d1 dReprA) (tAC (tV 4) tA0)) (tFn (d1 dReprA) (tAC (tCl sp_l_due (tAC (tV 2) (tAC (tSlD (tV 3) (tOS (tV 5)) tON) tA0))) tA0))) (tBinT dNe (tFn (d1 dReprA) (tAC (tMt C_ByTrail "name_of" sp_ByTrail_name_of (tV 1) (tAC (tV 4) tA0)) tA0)) (tFn (d1 dReprA) (tAC (tBin dIx (tV 3) (tV 5)) tA0)))) r_l_views_right_5 tNx)
def r_l_views_right_7 (C_ByTrail : Addr) : DTS := (tSq (tIfS (tAndT (tBinT dIs (tV 4) (tK .non)) (tBinT dEq (tCl sp_l_draw (tAC (tV 0) (tAC (tK (.int 2)) tA0))) (tK (.int 0)))) (r_l_views_right_1 C_ByTrail) (r_l_views_right_4 C_ByTrail)) (r_l_views_right_6 C_ByTrail))
def r_l_views_right_8 : DTS := (tRt (tK (.bl true)))
def r_l_views_right_9 (C_ByTrail : Addr) : DTS := (tSq (tFo (iRg3 (tAC (tBin dSub (tFn (d1 dLen) (tAC (tV 3) tA0)) (tK (.int 1))) (tAC (tNeg (tK (.int 1))) (tAC (tNeg (tK (.int 1))) tA0)))) (.one 5) (r_l_views_right_7 C_ByTrail)) r_l_views_right_8)
def r_l_views_right_10 (C_ByTrail : Addr) : DTS := (tSq (tSet 4 (tK .non)) (r_l_views_right_9 C_ByTrail))
def ri_l_views_right (C_ByTrail : Addr) : DTS := (tSq (tSet 4 (tK .non)) (tSq (tFo (iRg3 (tAC (tBin dSub (tFn (d1 dLen) (tAC (tV 3) tA0)) (tK (.int 1))) (tAC (tNeg (tK (.int 1))) (tAC (tNeg (tK (.int 1))) tA0)))) (.one 5) (tSq (tIfS (tAndT (tBinT dIs (tV 4) (tK .non)) (tBinT dEq (tCl sp_l_draw (tAC (tV 0) (tAC (tK (.int 2)) tA0))) (tK (.int 0)))) (tSet 4 (tMt C_ByTrail "view" (spDft 2 [.non] (sp_ByTrail_view C_ByTrail)) (tV 1) (tAC (tBin dIx (tV 3) (tV 5)) tA0))) (tIfS (tBinT dEq (tCl sp_l_draw (tAC (tV 0) (tAC (tK (.int 2)) tA0))) (tK (.int 0))) (tSet 4 (tMtK C_ByTrail "view" ["cause", "name"] [0, 2, 1] (sp_ByTrail_view C_ByTrail) (tV 1) (tAC (tV 4) (tAC (tBin dIx (tV 3) (tV 5)) tA0)))) (tSet 4 (tMt C_ByTrail "view" (sp_ByTrail_view C_ByTrail) (tV 1) (tAC (tBin dIx (tV 3) (tV 5)) (tAC (tV 4) tA0)))))) (tIfS (tOrT (tBinT dNe (tFn (d1 dReprA) (tAC (tV 4) tA0)) (tFn (d1 dReprA) (tAC (tCl sp_l_due (tAC (tV 2) (tAC (tSlD (tV 3) (tOS (tV 5)) tON) tA0))) tA0))) (tBinT dNe (tFn (d1 dReprA) (tAC (tMt C_ByTrail "name_of" sp_ByTrail_name_of (tV 1) (tAC (tV 4) tA0)) tA0)) (tFn (d1 dReprA) (tAC (tBin dIx (tV 3) (tV 5)) tA0)))) (tRt (tK (.bl false))) tNx))) (tRt (tK (.bl true)))))
def r_l_views_right (C_ByTrail : Addr) : DTS := (r_l_views_right_10 C_ByTrail)
theorem rr_l_views_right (C_ByTrail : Addr) : ri_l_views_right C_ByTrail = r_l_views_right C_ByTrail := rfl
def sp_l_views_right (C_ByTrail : Addr) : DSp := spOf 4 6 (r_l_views_right C_ByTrail)
theorem b_l_views_right {P : Program} {w : World} {K : PySem.W.Frag} {mg : Str → Option Value} {base : Heap} {C_ByTrail : Addr} (z_len : mg "len" = none) (z_range : mg "range" = none) (c_l_draw : CalW P w K mg base "_law_draw" 1 sp_l_draw) (cl_ByTrail : Cls K C_ByTrail) (md2_ByTrail_view : CalMW P w K mg base C_ByTrail "view" 1 (spDft 2 [.non] (sp_ByTrail_view C_ByTrail))) (mk_ByTrail_view_cause_name : CalMKW P w K mg base C_ByTrail "view" 1 1 ["cause", "name"] [0, 2, 1] (sp_ByTrail_view C_ByTrail)) (m_ByTrail_view : CalMW P w K mg base C_ByTrail "view" 1 (sp_ByTrail_view C_ByTrail)) (z_repr : mg "repr" = none) (c_l_due : CalW P w K mg base "_law_due" 1 sp_l_due) (m_ByTrail_name_of : CalMW P w K mg base C_ByTrail "name_of" 1 sp_ByTrail_name_of) {f : Addr} {cdv : Value} {A : Around} {outer : List PySem.Env} {s : Shared} {H : Hp} {E : XK} (hr : RoomG 1 (A.deeper (envOfC "_law_views_right" (defScope s_l_views_right) s.heap.objs.size f cdv))) :
    DSs (cxOf CX0 P w K mg base N_l_views_right "_law_views_right" (defScope s_l_views_right) f cdv A outer s H E).nox (defBody s_l_views_right) (ri_l_views_right C_ByTrail) := by
  have hu := hr.hu
  have hgd := hr.g
  have nd := sc_l_views_right.nd
  exact (dss_cons (ds_set (i := 4) de_non nd)
  (dss_cons (ds_for (di_range3 z_range (da_cons (de_op do_sub (de_fn dc_len z_len (by decide +kernel) (da_cons (dv 3) da_nil)) de_int) (da_cons (de_neg de_int) (da_cons (de_neg de_int) da_nil)))) (dgt_one (i := 5) nd)
  (dss_cons (ds_if (DW.dt (dw_and (dt_cmp do_is (dv 4) de_non) (dw_and1 (dt_cmp (do_eq hu) (de_call ⟨c_l_draw⟩ (hr.mono (by decide)) (da_cons (dv 0) (da_cons de_int da_nil))) de_int))))
  (dss_one (ds_set (i := 4) (de_meth ⟨md2_ByTrail_view⟩ cl_ByTrail (hr.mono (by decide)) (dv 1) (da_cons (de_ix hu (dv 3) (dv 5)) da_nil)) nd))
  (dss_one (ds_if (dt_cmp (do_eq hu) (de_call ⟨c_l_draw⟩ (hr.mono (by decide)) (da_cons (dv 0) (da_cons de_int da_nil))) de_int)
  (dss_one (ds_set (i := 4) (de_methK ⟨mk_ByTrail_view_cause_name⟩ cl_ByTrail (hr.mono (by decide)) (dv 1) (dk_cons (dv 4) (dk_cons (de_ix hu (dv 3) (dv 5)) dk_nil))) nd))
  (dss_one (ds_set (i := 4) (de_meth ⟨m_ByTrail_view⟩ cl_ByTrail (hr.mono (by decide)) (dv 1) (da_cons (de_ix hu (dv 3) (dv 5)) (da_cons (dv 4) da_nil))) nd)))))
  (dss_one (ds_if (DW.dt (dw_or (dt_cmp (do_ne hu) (de_fn (dc_reprA hgd hu) z_repr (by decide +kernel) (da_cons (dv 4) da_nil)) (de_fn (dc_reprA hgd hu) z_repr (by decide +kernel) (da_cons (de_call ⟨c_l_due⟩ (hr.mono (by decide)) (da_cons (dv 2) (da_cons (de_slice (dv 3) (do_some (dv 5)) do_none) da_nil))) da_nil))) (dw_or1 (dt_cmp (do_ne hu) (de_fn (dc_reprA hgd hu) z_repr (by decide +kernel) (da_cons (de_meth ⟨m_ByTrail_name_of⟩ cl_ByTrail (hr.mono (by decide)) (dv 1) (da_cons (dv 4) da_nil)) da_nil)) (de_fn (dc_reprA hgd hu) z_repr (by decide +kernel) (da_cons (de_ix hu (dv 3) (dv 5)) da_nil))))))
  (dss_one (ds_ret de_bl))
  dss_nil))) rfl PassesOwn.never)
  (dss_one (ds_ret de_bl))))
theorem f_l_views_right {P : Program} {w : World} {K : PySem.W.Frag} {mg : Str → Option Value} {base : Heap} {C_ByTrail : Addr} (z_len : mg "len" = none) (z_range : mg "range" = none) (c_l_draw : CalW P w K mg base "_law_draw" 1 sp_l_draw) (cl_ByTrail : Cls K C_ByTrail) (md2_ByTrail_view : CalMW P w K mg base C_ByTrail "view" 1 (spDft 2 [.non] (sp_ByTrail_view C_ByTrail))) (mk_ByTrail_view_cause_name : CalMKW P w K mg base C_ByTrail "view" 1 1 ["cause", "name"] [0, 2, 1] (sp_ByTrail_view C_ByTrail)) (m_ByTrail_view : CalMW P w K mg base C_ByTrail "view" 1 (sp_ByTrail_view C_ByTrail)) (z_repr : mg "repr" = none) (c_l_due : CalW P w K mg base "_law_due" 1 sp_l_due) (m_ByTrail_name_of : CalMW P w K mg base C_ByTrail "name_of" 1 sp_ByTrail_name_of) {f : Addr} {fd : FuncData} (F : Fun K "_law_views_right" "_law_views_right" s_l_views_right f fd) : FnG P w K mg base CX0 2 f (liftSp K (sp_l_views_right C_ByTrail)) :=
  FnG.imp (sp := liftSp K (spOf0 4 6 (r_l_views_right C_ByTrail))) (fn_mk F sc_l_views_right (F.binds (ps := ["_law_pen_here", "_law_level", "_law_line", "_law_chain_here"]) fun _ _ _ _ _ _ us hl => match us, hl with | [_, _, _, _], _ => rfl) (fun ds m R h => h.1) (fun cdv A outer s H E hr => b_l_views_right z_len z_range c_l_draw cl_ByTrail md2_ByTrail_view mk_ByTrail_view_cause_name m_ByTrail_view z_repr c_l_due m_ByTrail_name_of hr) fun ds m R h => h.2) lift_drop
/-! _law_within -/
abbrev s_l_within : Stmt := top 27
def N_l_within : List Str := ["_law_rows", "_law_one", "_law_other", "_law_waiting", "_law_met", "_law_word", "_law_row"]
theorem sc_l_within : FnScope N_l_within ["_law_rows", "_law_one", "_law_other"] (defScope s_l_within) := ⟨rfl, rfl, rfl, by decide +kernel, rfl, by decide +kernel, by decide +kernel⟩
def r_l_within_1 : DTS := (tSet 3 (tAddM (tV 3) (tFn (d1 dList) (tAC (tSlD (tV 6) (tOS (tK (.int 1))) tON) tA0))))
def r_l_within_2 : DTS := (tIfS (tBinT dEq (tBin dIx (tV 6) (tK (.int 0))) (tV 5)) r_l_within_1 tNx)
def r_l_within_3 : DTS := (tFo (iSeq (tV 0)) (.one 6) r_l_within_2)
def r_l_within_4 : DTS := (tSq (tDr (tApp (tV 4) (tV 5))) r_l_within_3)
def r_l_within_5 : DTS := (tIfS (tBinT dNotIn (tV 5) (tV 4)) r_l_within_4 tNx)
def r_l_within_6 : DTS := (tSq (tSet 5 (tPop0 (tV 3))) r_l_within_5)
def r_l_within_7 : DTS := (tRt (tBin dIn (tV 2) (tV 4)))
def r_l_within_8 : DTS := (tSq (tWh (tBinT dNe (tV 3) (tLstD tA0)) r_l_within_6) r_l_within_7)
def r_l_within_9 : DTS := (tSq (tSet 4 (tLstM (tAC (tK (.str "error")) tA0))) r_l_within_8)
def r_l_within_10 : DTS := (tSq (tSet 3 (tLstM (tAC (tV 1) tA0))) r_l_within_9)
def ri_l_within : DTS := (tSq (tSet 3 (tLstM (tAC (tV 1) tA0))) (tSq (tSet 4 (tLstM (tAC (tK (.str "error")) tA0))) (tSq (tWh (tBinT dNe (tV 3) (tLstD tA0)) (tSq (tSet 5 (tPop0 (tV 3))) (tIfS (tBinT dNotIn (tV 5) (tV 4)) (tSq (tDr (tApp (tV 4) (tV 5))) (tFo (iSeq (tV 0)) (.one 6) (tIfS (tBinT dEq (tBin dIx (tV 6) (tK (.int 0))) (tV 5)) (tSet 3 (tAddM (tV 3) (tFn (d1 dList) (tAC (tSlD (tV 6) (tOS (tK (.int 1))) tON) tA0)))) tNx))) tNx))) (tRt (tBin dIn (tV 2) (tV 4))))))
def r_l_within : DTS := r_l_within_10
theorem rr_l_within : ri_l_within = r_l_within := rfl
def sp_l_within : DSp := spOf 3 7 (r_l_within)
theorem b_l_within {P : Program} {w : World} {K : PySem.W.Frag} {mg : Str → Option Value} {base : Heap} (z_list : mg "list" = none) {f : Addr} {cdv : Value} {A : Around} {outer : List PySem.Env} {s : Shared} {H : Hp} {E : XK} (hr : RoomG 0 (A.deeper (envOfC "_law_within" (defScope s_l_within) s.heap.objs.size f cdv))) :
    DSs (cxOf CX0 P w K mg base N_l_within "_law_within" (defScope s_l_within) f cdv A outer s H E).nox (defBody s_l_within) (ri_l_within) := by
  have hu := hr.hu
  have hgd := hr.g
  have nd := sc_l_within.nd
  exact (dss_cons (ds_set (i := 3) (de_lstM (da_cons (dv 1) da_nil)) nd)
  (dss_cons (ds_set (i := 4) (de_lstM (da_cons de_str da_nil)) nd)
  (dss_cons (ds_while (dt_cmp (do_ne hu) (dv 3) (de_lst da_nil))
  (dss_cons (ds_set (i := 5) (de_pop0 (dv 3)) nd)
  (dss_one (ds_if (dt_cmp (do_notin hu) (dv 5) (dv 4))
  (dss_cons (ds_expr (de_app (dv 4) (dv 5)))
  (dss_one (ds_for (di_seq (dv 0)) (dgt_one (i := 6) nd)
  (dss_one (ds_if (dt_cmp (do_eq hu) (de_ix hu (dv 6) de_int) (dv 5))
  (dss_one (ds_set (i := 3) (de_addM (dv 3) (de_ty (dc_list rfl) z_list (by decide +kernel) (da_cons (de_slice (dv 6) (do_some de_int) do_none) da_nil))) nd))
  dss_nil)) rfl PassesOwn.never)))
  dss_nil))) PassesOwn.never)
  (dss_one (ds_ret (de_cmp (do_in hu) (dv 2) (dv 4)))))))
theorem f_l_within {P : Program} {w : World} {K : PySem.W.Frag} {mg : Str → Option Value} {base : Heap} (z_list : mg "list" = none) {f : Addr} {fd : FuncData} (F : Fun K "_law_within" "_law_within" s_l_within f fd) : FnG P w K mg base CX0 1 f (liftSp K sp_l_within) :=
  FnG.imp (sp := liftSp K (spOf0 3 7 (r_l_within))) (fn_mk F sc_l_within (F.binds (ps := ["_law_rows", "_law_one", "_law_other"]) fun _ _ _ _ _ _ us hl => match us, hl with | [_, _, _], _ => rfl) (fun ds m R h => h.1) (fun cdv A outer s H E hr => b_l_within z_list hr) fun ds m R h => h.2) lift_drop
/-! Classes.within -/
abbrev s_Classes_within : Stmt := inClass (top 18) 6
def N_Classes_within : List Str := ["self", "one", "other"]
theorem sc_Classes_within : FnScope N_Classes_within ["self", "one", "other"] (defScope s_Classes_within) := ⟨rfl, rfl, rfl, by decide +kernel, rfl, by decide +kernel, by decide +kernel⟩
def r_Classes_within_1 (C_Classes : Addr) : DTS := (tRt (tBin dIn (tV 2) (tBin dIx (tFl C_Classes "above" (tV 0)) (tV 1))))
def ri_Classes_within (C_Classes : Addr) : DTS := (tRt (tBin dIn (tV 2) (tBin dIx (tFl C_Classes "above" (tV 0)) (tV 1))))
def r_Classes_within (C_Classes : Addr) : DTS := (r_Classes_within_1 C_Classes)
theorem rr_Classes_within (C_Classes : Addr) : ri_Classes_within C_Classes = r_Classes_within C_Classes := rfl
def sp_Classes_within (C_Classes : Addr) : DSp := spOf 3 3 (r_Classes_within C_Classes)
theorem b_Classes_within {P : Program} {w : World} {K : PySem.W.Frag} {mg : Str → Option Value} {base : Heap} {C_Classes : Addr} (cl_Classes : Cls K C_Classes) (n_Classes_above : NoAttr K C_Classes "above") {f : Addr} {cdv : Value} {A : Around} {outer : List PySem.Env} {s : Shared} {H : Hp} {E : XK} (hr : RoomG 0 (A.deeper (envOfC "Classes.within" (defScope s_Classes_within) s.heap.objs.size f cdv))) :
    DSs (cxOf CX0 P w K mg base N_Classes_within "Classes.within" (defScope s_Classes_within) f cdv A outer s H E).nox (defBody s_Classes_within) (ri_Classes_within C_Classes) := by
  have hu := hr.hu
  have hgd := hr.g
  have nd := sc_Classes_within.nd
  exact (dss_one (ds_ret (de_cmp (do_in hu) (dv 2) (de_ix hu (de_fld C_Classes (dv 0) cl_Classes n_Classes_above) (dv 1)))))
theorem f_Classes_within {P : Program} {w : World} {K : PySem.W.Frag} {mg : Str → Option Value} {base : Heap} {C_Classes : Addr} (cl_Classes : Cls K C_Classes) (n_Classes_above : NoAttr K C_Classes "above") {f : Addr} {fd : FuncData} (F : Fun K "within" "Classes.within" s_Classes_within f fd) : FnG P w K mg base CX0 1 f (liftSp K (sp_Classes_within C_Classes)) :=
  FnG.imp (sp := liftSp K (spOf0 3 3 (r_Classes_within C_Classes))) (fn_mk F sc_Classes_within (F.binds (ps := ["self", "one", "other"]) fun _ _ _ _ _ _ us hl => match us, hl with | [_, _, _], _ => rfl) (fun ds m R h => h.1) (fun cdv A outer s H E hr => b_Classes_within cl_Classes n_Classes_above hr) fun ds m R h => h.2) lift_drop
/-! Level.taken -/
abbrev s_ByTrail_taken : Stmt := inClass (top 5) 4
def N_ByTrail_taken : List Str := ["self", "view", "names", "mine", "name"]
theorem sc_ByTrail_taken : FnScope N_ByTrail_taken ["self", "view", "names"] (defScope s_ByTrail_taken) := ⟨rfl, rfl, rfl, by decide +kernel, rfl, by decide +kernel, by decide +kernel⟩
def r_ByTrail_taken_1 (C_ByTrail : Addr) (C_Classes : Addr) : DTE := (tMt C_Classes "within" (sp_Classes_within C_Classes) (tFl C_ByTrail "classes" (tV 0)) (tAC (tV 3) (tAC (tV 4) tA0)))
def r_ByTrail_taken_2 (C_ByTrail : Addr) (C_Classes : Addr) : DTS := (tRt (tFn (d1 dAny) (tAC (tFrz (tLcM (iSeq (tV 2)) (.one 4) tYe (r_ByTrail_taken_1 C_ByTrail C_Classes) [4])) tA0)))
def r_ByTrail_taken_3 (C_ByTrail : Addr) (C_Classes : Addr) : DTS := (tSq (tSet 3 (tMt C_ByTrail "name_of" sp_ByTrail_name_of (tV 0) (tAC (tV 1) tA0))) (r_ByTrail_taken_2 C_ByTrail C_Classes))
def ri_ByTrail_taken (C_ByTrail : Addr) (C_Classes : Addr) : DTS := (tSq (tSet 3 (tMt C_ByTrail "name_of" sp_ByTrail_name_of (tV 0) (tAC (tV 1) tA0))) (tRt (tFn (d1 dAny) (tAC (tFrz (tLcM (iSeq (tV 2)) (.one 4) tYe (tMt C_Classes "within" (sp_Classes_within C_Classes) (tFl C_ByTrail "classes" (tV 0)) (tAC (tV 3) (tAC (tV 4) tA0))) [4])) tA0))))
def r_ByTrail_taken (C_ByTrail : Addr) (C_Classes : Addr) : DTS := (r_ByTrail_taken_3 C_ByTrail C_Classes)
theorem rr_ByTrail_taken (C_ByTrail : Addr) (C_Classes : Addr) : ri_ByTrail_taken C_ByTrail C_Classes = r_ByTrail_taken C_ByTrail C_Classes := rfl
def sp_ByTrail_taken (C_ByTrail : Addr) (C_Classes : Addr) : DSp := spOf 3 5 (r_ByTrail_taken C_ByTrail C_Classes)
theorem b_ByTrail_taken {P : Program} {w : World} {K : PySem.W.Frag} {mg : Str → Option Value} {base : Heap} {C_ByTrail : Addr} {C_Classes : Addr} (cl_ByTrail : Cls K C_ByTrail) (m_ByTrail_name_of : CalMW P w K mg base C_ByTrail "name_of" 1 sp_ByTrail_name_of) (cl_Classes : Cls K C_Classes) (n_ByTrail_classes : NoAttr K C_ByTrail "classes") (m_Classes_within : CalMW P w K mg base C_Classes "within" 1 (sp_Classes_within C_Classes)) (z_any : mg "any" = none) {f : Addr} {cdv : Value} {A : Around} {outer : List PySem.Env} {s : Shared} {H : Hp} {E : XK} (hr : RoomG 1 (A.deeper (envOfC "Level.taken" (defScope s_ByTrail_taken) s.heap.objs.size f cdv))) :
    DSs (cxOf CX0 P w K mg base N_ByTrail_taken "Level.taken" (defScope s_ByTrail_taken) f cdv A outer s H E).nox (defBody s_ByTrail_taken) (ri_ByTrail_taken C_ByTrail C_Classes) := by
  have hu := hr.hu
  have hgd := hr.g
  have nd := sc_ByTrail_taken.nd
  exact (dss_cons (ds_set (i := 3) (de_meth ⟨m_ByTrail_name_of⟩ cl_ByTrail (hr.mono (by decide)) (dv 0) (da_cons (dv 1) da_nil)) nd)
  (dss_one (ds_ret (de_fn (dc_any rfl) z_any (by decide +kernel) (da_cons (de_frz (de_lc (own := [("name", 4)]) (di_seq (dv 2)) (blkOk_by (N := N_ByTrail_taken) (sc := defScope s_ByTrail_taken) (own := [("name", 4)]) (by decide +kernel)) nd rfl (fun _ _ _ _ _ => (dgt_one (i := 4) nd)) (fun _ _ _ _ _ => dts_nil) (fun _ _ _ _ _ => (de_meth ⟨m_Classes_within⟩ cl_Classes (hr.mono (by decide)) (de_fld C_ByTrail (dv 0) cl_ByTrail n_ByTrail_classes) (da_cons (dv 3) (da_cons (dv 4) da_nil)))))) da_nil)))))
theorem f_ByTrail_taken {P : Program} {w : World} {K : PySem.W.Frag} {mg : Str → Option Value} {base : Heap} {C_ByTrail : Addr} {C_Classes : Addr} (cl_ByTrail : Cls K C_ByTrail) (m_ByTrail_name_of : CalMW P w K mg base C_ByTrail "name_of" 1 sp_ByTrail_name_of) (cl_Classes : Cls K C_Classes) (n_ByTrail_classes : NoAttr K C_ByTrail "classes") (m_Classes_within : CalMW P w K mg base C_Classes "within" 1 (sp_Classes_within C_Classes)) (z_any : mg "any" = none) {f : Addr} {fd : FuncData} (F : Fun K "taken" "Level.taken" s_ByTrail_taken f fd) : FnG P w K mg base CX0 2 f (liftSp K (sp_ByTrail_taken C_ByTrail C_Classes)) :=
  FnG.imp (sp := liftSp K (spOf0 3 5 (r_ByTrail_taken C_ByTrail C_Classes))) (fn_mk F sc_ByTrail_taken (F.binds (ps := ["self", "view", "names"]) fun _ _ _ _ _ _ us hl => match us, hl with | [_, _, _], _ => rfl) (fun ds m R h => h.1) (fun cdv A outer s H E hr => b_ByTrail_taken cl_ByTrail m_ByTrail_name_of cl_Classes n_ByTrail_classes m_Classes_within z_any hr) fun ds m R h => h.2) lift_drop
/-! Level.does -/
abbrev s_ByTrail_does : Stmt := inClass (top 5) 5
def N_ByTrail_does : List Str := ["self", "callback", "handled"]
theorem sc_ByTrail_does : FnScope N_ByTrail_does ["self", "callback", "handled"] (defScope s_ByTrail_does) := ⟨rfl, rfl, rfl, by decide +kernel, rfl, by decide +kernel, by decide +kernel⟩
def r_ByTrail_does_1 : DTS := (tRt (tTupD tA0))
def ri_ByTrail_does : DTS := (tRt (tTupD tA0))
def r_ByTrail_does : DTS := r_ByTrail_does_1
theorem rr_ByTrail_does : ri_ByTrail_does = r_ByTrail_does := rfl
def sp_ByTrail_does : DSp := spOf 3 3 (r_ByTrail_does)
theorem b_ByTrail_does {P : Program} {w : World} {K : PySem.W.Frag} {mg : Str → Option Value} {base : Heap}  {f : Addr} {cdv : Value} {A : Around} {outer : List PySem.Env} {s : Shared} {H : Hp} {E : XK} (hr : RoomG 0 (A.deeper (envOfC "Level.does" (defScope s_ByTrail_does) s.heap.objs.size f cdv))) :
    DSs (cxOf CX0 P w K mg base N_ByTrail_does "Level.does" (defScope s_ByTrail_does) f cdv A outer s H E).nox (defBody s_ByTrail_does) (ri_ByTrail_does) := by
  have hu := hr.hu
  have hgd := hr.g
  have nd := sc_ByTrail_does.nd
  exact (dss_one (ds_ret (de_tup da_nil)))
theorem f_ByTrail_does {P : Program} {w : World} {K : PySem.W.Frag} {mg : Str → Option Value} {base : Heap}  {f : Addr} {fd : FuncData} (F : Fun K "does" "Level.does" s_ByTrail_does f fd) : FnG P w K mg base CX0 1 f (liftSp K sp_ByTrail_does) :=
  FnG.imp (sp := liftSp K (spOf0 3 3 (r_ByTrail_does))) (fn_mk F sc_ByTrail_does (F.binds (ps := ["self", "callback", "handled"]) fun _ _ _ _ _ _ us hl => match us, hl with | [_, _, _], _ => rfl) (fun ds m R h => h.1) (fun cdv A outer s H E hr => b_ByTrail_does  hr) fun ds m R h => h.2) lift_drop
/-! _law_taken_right -/
abbrev s_l_taken_right : Stmt := top 31
def N_l_taken_right : List Str := ["_law_pen_here", "_law_level", "_law_rows", "_law_names", "_law_chain_here", "_law_one", "_law_view", "_law_k", "_law_some_here", "_law_due_here", "_law_mark"]
theorem sc_l_taken_right : FnScope N_l_taken_right ["_law_pen_here", "_law_level", "_law_rows", "_law_names", "_law_chain_here"] (defScope s_l_taken_right) := ⟨rfl, rfl, rfl, by decide +kernel, rfl, by decide +kernel, by decide +kernel⟩
def r_l_taken_right_1 (C_ByTrail : Addr) : DTS := (tSet 6 (tMt C_ByTrail "view" (sp_ByTrail_view C_ByTrail) (tV 1) (tAC (tBin dIx (tV 4) (tV 7)) (tAC (tV 6) tA0))))
def r_l_taken_right_2 : DTE := (tCl sp_l_pick (tAC (tV 0) (tAC (tV 3) tA0)))
def r_l_taken_right_3 : DTT := (tTru (tCl sp_l_within (tAC (tV 2) (tAC (tV 5) (tAC (tV 10) tA0)))))
def r_l_taken_right_4 : DTE := (tV 10)
def r_l_taken_right_5 : DTS := (tRt (tK (.bl false)))
def r_l_taken_right_6 (C_ByTrail : Addr) : DTS := (tRt (tBin dEq (tFn (d1 dReprA) (tAC (tLstD (tAC (tMt C_ByTrail "does" sp_ByTrail_does (tV 1) (tAC (tK (.str "p")) (tAC (tV 6) tA0))) (tAC (tMt C_ByTrail "does" sp_ByTrail_does (tV 1) (tAC (tV 5) (tAC (tK .non) tA0))) tA0))) tA0)) (tK (.str "[(), ()]"))))
def r_l_taken_right_7 (C_ByTrail : Addr) (C_Classes : Addr) : DTS := (tSq (tIfS (tBinT dNe (tFn (d1 dReprA) (tAC (tLstD (tAC (tMt C_ByTrail "taken" (sp_ByTrail_taken C_ByTrail C_Classes) (tV 1) (tAC (tV 6) (tAC (tV 8) tA0))) (tAC (tMt C_ByTrail "taken" (sp_ByTrail_taken C_ByTrail C_Classes) (tV 1) (tAC (tV 6) (tAC (tFn (d1 dTuple) (tAC (tV 8) tA0)) tA0))) tA0))) tA0)) (tFn (d1 dReprA) (tAC (tLstD (tAC (tV 9) (tAC (tV 9) tA0))) tA0))) r_l_taken_right_5 tNx) (r_l_taken_right_6 C_ByTrail))
def r_l_taken_right_8 (C_ByTrail : Addr) (C_Classes : Addr) : DTS := (tSq (tSet 9 (tBin dNe (tFrz (tLcM (iSeq (tV 8)) (.one 10) r_l_taken_right_3 r_l_taken_right_4 [10])) (tLstD tA0))) (r_l_taken_right_7 C_ByTrail C_Classes))
def r_l_taken_right_9 (C_ByTrail : Addr) (C_Classes : Addr) : DTS := (tSq (tSet 8 (tFrz (tLcM (iRg (tAC (tCl sp_l_draw (tAC (tV 0) (tAC (tK (.int 4)) tA0))) tA0)) (.one 7) tYe r_l_taken_right_2 [7]))) (r_l_taken_right_8 C_ByTrail C_Classes))
def r_l_taken_right_10 (C_ByTrail : Addr) (C_Classes : Addr) : DTS := (tSq (tFo (iRg3 (tAC (tBin dSub (tFn (d1 dLen) (tAC (tV 4) tA0)) (tK (.int 1))) (tAC (tNeg (tK (.int 1))) (tAC (tNeg (tK (.int 1))) tA0)))) (.one 7) (r_l_taken_right_1 C_ByTrail)) (r_l_taken_right_9 C_ByTrail C_Classes))
def r_l_taken_right_11 (C_ByTrail : Addr) (C_Classes : Addr) : DTS := (tSq (tSet 6 (tK .non)) (r_l_taken_right_10 C_ByTrail C_Classes))
def r_l_taken_right_12 (C_ByTrail : Addr) (C_Classes : Addr) : DTS := (tSq (tSet 5 (tBin dIx (tV 4) (tK (.int 0)))) (r_l_taken_right_11 C_ByTrail C_Classes))
def ri_l_taken_right (C_ByTrail : Addr) (C_Classes : Addr) : DTS := (tSq (tSet 5 (tBin dIx (tV 4) (tK (.int 0)))) (tSq (tSet 6 (tK .non)) (tSq (tFo (iRg3 (tAC (tBin dSub (tFn (d1 dLen) (tAC (tV 4) tA0)) (tK (.int 1))) (tAC (tNeg (tK (.int 1))) (tAC (tNeg (tK (.int 1))) tA0)))) (.one 7) (tSet 6 (tMt C_ByTrail "view" (sp_ByTrail_view C_ByTrail) (tV 1) (tAC (tBin dIx (tV 4) (tV 7)) (tAC (tV 6) tA0))))) (tSq (tSet 8 (tFrz (tLcM (iRg (tAC (tCl sp_l_draw (tAC (tV 0) (tAC (tK (.int 4)) tA0))) tA0)) (.one 7) tYe (tCl sp_l_pick (tAC (tV 0) (tAC (tV 3) tA0))) [7]))) (tSq (tSet 9 (tBin dNe (tFrz (tLcM (iSeq (tV 8)) (.one 10) (tTru (tCl sp_l_within (tAC (tV 2) (tAC (tV 5) (tAC (tV 10) tA0))))) (tV 10) [10])) (tLstD tA0))) (tSq (tIfS (tBinT dNe (tFn (d1 dReprA) (tAC (tLstD (tAC (tMt C_ByTrail "taken" (sp_ByTrail_taken C_ByTrail C_Classes) (tV 1) (tAC (tV 6) (tAC (tV 8) tA0))) (tAC (tMt C_ByTrail "taken" (sp_ByTrail_taken C_ByTrail C_Classes) (tV 1) (tAC (tV 6) (tAC (tFn (d1 dTuple) (tAC (tV 8) tA0)) tA0))) tA0))) tA0)) (tFn (d1 dReprA) (tAC (tLstD (tAC (tV 9) (tAC (tV 9) tA0))) tA0))) (tRt (tK (.bl false))) tNx) (tRt (tBin dEq (tFn (d1 dReprA) (tAC (tLstD (tAC (tMt C_ByTrail "does" sp_ByTrail_does (tV 1) (tAC (tK (.str "p")) (tAC (tV 6) tA0))) (tAC (tMt C_ByTrail "does" sp_ByTrail_does (tV 1) (tAC (tV 5) (tAC (tK .non) tA0))) tA0))) tA0)) (tK (.str "[(), ()]"))))))))))
def r_l_taken_right (C_ByTrail : Addr) (C_Classes : Addr) : DTS := (r_l_taken_right_12 C_ByTrail C_Classes)
theorem rr_l_taken_right (C_ByTrail : Addr) (C_Classes : Addr) : ri_l_taken_right C_ByTrail C_Classes = r_l_taken_right C_ByTrail C_Classes := rfl
def sp_l_taken_right (C_ByTrail : Addr) (C_Classes : Addr) : DSp := spOf 5 11 (r_l_taken_right C_ByTrail C_Classes)
theorem b_l_taken_right {P : Program} {w : World} {K : PySem.W.Frag} {mg : Str → Option Value} {base : Heap} {C_ByTrail : Addr} {C_Classes : Addr} (z_len : mg "len" = none) (z_range : mg "range" = none) (cl_ByTrail : Cls K C_ByTrail) (m_ByTrail_view : CalMW P w K mg base C_ByTrail "view" 1 (sp_ByTrail_view C_ByTrail)) (c_l_draw : CalW P w K mg base "_law_draw" 1 sp_l_draw) (c_l_pick : CalW P w K mg base "_law_pick" 2 sp_l_pick) (c_l_within : CalW P w K mg base "_law_within" 1 sp_l_within) (m_ByTrail_taken : CalMW P w K mg base C_ByTrail "taken" 2 (sp_ByTrail_taken C_ByTrail C_Classes)) (z_tuple : mg "tuple" = none) (z_repr : mg "repr" = none) (m_ByTrail_does : CalMW P w K mg base C_ByTrail "does" 1 sp_ByTrail_does) {f : Addr} {cdv : Value} {A : Around} {outer : List PySem.Env} {s : Shared} {H : Hp} {E : XK} (hr : RoomG 2 (A.deeper (envOfC "_law_taken_right" (defScope s_l_taken_right) s.heap.objs.size f cdv))) :
    DSs (cxOf CX0 P w K mg base N_l_taken_right "_law_taken_right" (defScope s_l_taken_right) f cdv A outer s H E).nox (defBody s_l_taken_right) (ri_l_taken_right C_ByTrail C_Classes) := by
  have hu := hr.hu
  have hgd := hr.g
  have nd := sc_l_taken_right.nd
  exact (dss_cons (ds_set (i := 5) (de_ix hu (dv 4) de_int) nd)
  (dss_cons (ds_set (i := 6) de_non nd)
  (dss_cons (ds_for (di_range3 z_range (da_cons (de_op do_sub (de_fn dc_len z_len (by decide +kernel) (da_cons (dv 4) da_nil)) de_int) (da_cons (de_neg de_int) (da_cons (de_neg de_int) da_nil)))) (dgt_one (i := 7) nd)
  (dss_one (ds_set (i := 6) (de_meth ⟨m_ByTrail_view⟩ cl_ByTrail (hr.mono (by decide)) (dv 1) (da_cons (de_ix hu (dv 4) (dv 7)) (da_cons (dv 6) da_nil))) nd)) rfl PassesOwn.never)
  (dss_cons (ds_setLcF (j := 8) (own := [("_law_k", 7)]) (di_range z_range (da_cons (de_call ⟨c_l_draw⟩ (hr.mono (by decide)) (da_cons (dv 0) (da_cons de_int da_nil))) da_nil)) (blkOk_by (N := N_l_taken_right) (sc := defScope s_l_taken_right) (own := [("_law_k", 7)]) (by decide +kernel)) nd rfl (fun _ _ _ _ _ => (dgt_one (i := 7) nd)) (fun _ _ _ _ _ => dts_nil) (fun _ _ _ _ _ => (de_call ⟨c_l_pick⟩ (hr.mono (by decide)) (da_cons (dv 0) (da_cons (dv 3) da_nil)))) (sw_true rfl rfl rfl (by decide +kernel)))
  (dss_cons (ds_set (i := 9) (de_cmp (do_ne hu) (de_frz (de_lc (own := [("_law_mark", 10)]) (di_seq (dv 8)) (blkOk_by (N := N_l_taken_right) (sc := defScope s_l_taken_right) (own := [("_law_mark", 10)]) (by decide +kernel)) nd rfl (fun _ _ _ _ _ => (dgt_one (i := 10) nd)) (fun _ _ _ _ _ => (dts_one (dt_truth (de_call ⟨c_l_within⟩ (hr.mono (by decide)) (da_cons (dv 2) (da_cons (dv 5) (da_cons (dv 10) da_nil))))))) (fun _ _ _ _ _ => (dv 10)))) (de_lst da_nil)) nd)
  (dss_cons (ds_if (dt_cmp (do_ne hu) (de_fn (dc_reprA hgd hu) z_repr (by decide +kernel) (da_cons (de_lst (da_cons (de_meth ⟨m_ByTrail_taken⟩ cl_ByTrail (hr.mono (by decide)) (dv 1) (da_cons (dv 6) (da_cons (dv 8) da_nil))) (da_cons (de_meth ⟨m_ByTrail_taken⟩ cl_ByTrail (hr.mono (by decide)) (dv 1) (da_cons (dv 6) (da_cons (de_ty dc_tuple z_tuple (by decide +kernel) (da_cons (dv 8) da_nil)) da_nil))) da_nil))) da_nil)) (de_fn (dc_reprA hgd hu) z_repr (by decide +kernel) (da_cons (de_lst (da_cons (dv 9) (da_cons (dv 9) da_nil))) da_nil)))
  (dss_one (ds_ret de_bl))
  dss_nil)
  (dss_one (ds_ret (de_cmp (do_eq hu) (de_fn (dc_reprA hgd hu) z_repr (by decide +kernel) (da_cons (de_lst (da_cons (de_meth ⟨m_ByTrail_does⟩ cl_ByTrail (hr.mono (by decide)) (dv 1) (da_cons de_str (da_cons (dv 6) da_nil))) (da_cons (de_meth ⟨m_ByTrail_does⟩ cl_ByTrail (hr.mono (by decide)) (dv 1) (da_cons (dv 5) (da_cons de_non da_nil))) da_nil))) da_nil)) de_str)))))))))
theorem f_l_taken_right {P : Program} {w : World} {K : PySem.W.Frag} {mg : Str → Option Value} {base : Heap} {C_ByTrail : Addr} {C_Classes : Addr} (z_len : mg "len" = none) (z_range : mg "range" = none) (cl_ByTrail : Cls K C_ByTrail) (m_ByTrail_view : CalMW P w K mg base C_ByTrail "view" 1 (sp_ByTrail_view C_ByTrail)) (c_l_draw : CalW P w K mg base "_law_draw" 1 sp_l_draw) (c_l_pick : CalW P w K mg base "_law_pick" 2 sp_l_pick) (c_l_within : CalW P w K mg base "_law_within" 1 sp_l_within) (m_ByTrail_taken : CalMW P w K mg base C_ByTrail "taken" 2 (sp_ByTrail_taken C_ByTrail C_Classes)) (z_tuple : mg "tuple" = none) (z_repr : mg "repr" = none) (m_ByTrail_does : CalMW P w K mg base C_ByTrail "does" 1 sp_ByTrail_does) {f : Addr} {fd : FuncData} (F : Fun K "_law_taken_right" "_law_taken_right" s_l_taken_right f fd) : FnG P w K mg base CX0 3 f (liftSp K (sp_l_taken_right C_ByTrail C_Classes)) :=
  FnG.imp (sp := liftSp K (spOf0 5 11 (r_l_taken_right C_ByTrail C_Classes))) (fn_mk F sc_l_taken_right (F.binds (ps := ["_law_pen_here", "_law_level", "_law_rows", "_law_names", "_law_chain_here"]) fun _ _ _ _ _ _ us hl => match us, hl with | [_, _, _, _, _], _ => rfl) (fun ds m R h => h.1) (fun cdv A outer s H E hr => b_l_taken_right z_len z_range cl_ByTrail m_ByTrail_view c_l_draw c_l_pick c_l_within m_ByTrail_taken z_tuple z_repr m_ByTrail_does hr) fun ds m R h => h.2) lift_drop
/-! law -/
abbrev s_law : Stmt := top 32
def N_law : List Str := ["_law_script", "_law_pen_here", "_law_turn", "_law_rows", "_law_names", "_law_few", "_law_line", "_law_level", "_law_again", "_law_chain_here", "_law_k"]
theorem sc_law : FnScope N_law ["_law_script"] (defScope s_law) := ⟨rfl, rfl, rfl, by decide +kernel, rfl, by decide +kernel, by decide +kernel⟩
def r_law_1 : DTE := (tCl sp_l_pick (tAC (tV 1) (tAC (tV 4) tA0)))
def r_law_2 : DTE := (tCl sp_l_pick (tAC (tV 1) (tAC (tV 5) tA0)))
def r_law_3 : DTS := (tRt (tK (.bl false)))
def r_law_4 : DTS := (tRt (tK (.bl false)))
def r_law_5 : DTS := (tRt (tK (.bl false)))
def r_law_6 (C_ByTrail : Addr) (C_Classes : Addr) : DTS := (tIfS (tNotT (tTru (tCl (sp_l_taken_right C_ByTrail C_Classes) (tAC (tV 1) (tAC (tV 7) (tAC (tV 3) (tAC (tV 4) (tAC (tV 9) tA0)))))))) r_law_5 tNx)
def r_law_7 (C_ByTrail : Addr) (C_Classes : Addr) : DTS := (tSq (tIfS (tNotT (tTru (tCl (sp_l_views_right C_ByTrail) (tAC (tV 1) (tAC (tV 7) (tAC (tV 6) (tAC (tV 9) tA0))))))) r_law_4 tNx) (r_law_6 C_ByTrail C_Classes))
def r_law_8 (C_ByTrail : Addr) (C_Classes : Addr) : DTS := (tSq (tSet 9 (tCl sp_l_chain (tAC (tV 1) (tAC (tV 6) (tAC (tCl sp_l_pick (tAC (tV 1) (tAC (tLstD (tAC (tV 5) (tAC (tV 4) tA0))) tA0))) tA0))))) (r_law_7 C_ByTrail C_Classes))
def r_law_9 (C_ByTrail : Addr) (C_Classes : Addr) : DTS := (tFo (iRg (tAC (tK (.int 8)) tA0)) (.one 8) (r_law_8 C_ByTrail C_Classes))
def r_law_10 (C_ByTrail : Addr) (C_Classes : Addr) (C_Level : Addr) : DTS := (tSq (tIfS (tOrT (tNotT (tTru (tFn (dIsiO (JO (tb_isi C_ByTrail C_Classes C_Level))) (tAC (tV 7) (tAC (tK (.ref C_Level)) tA0))))) (tOrT (tOwnT C_Classes (sp_Classes_eq C_ByTrail C_Classes C_Level) not (tFl C_ByTrail "classes" (tV 7)) (tCm C_Classes (sp_Classes_made C_Classes) (tAC (tV 3) tA0))) (tBinT dNe (tKi C_ByTrail "KIND" (.str "trail") (tV 7)) (tK (.str "trail"))))) r_law_3 tNx) (r_law_9 C_ByTrail C_Classes))
def r_law_11 (C_ByTrail : Addr) (C_Classes : Addr) (C_Level : Addr) : DTS := (tSq (tSet 7 (tFrz (tNwK C_ByTrail ["trail", "classes"] [0, 2, 1] (sp_ByTrail_init C_ByTrail) (tAC (tV 6) (tAC (tCm C_Classes (sp_Classes_made C_Classes) (tAC (tV 3) tA0)) tA0))))) (r_law_10 C_ByTrail C_Classes C_Level))
def r_law_12 (C_ByTrail : Addr) (C_Classes : Addr) (C_Level : Addr) : DTS := (tSq (tSet 6 (tFn (d1 dTuple) (tAC (tFrz (tLcM (iRg (tAC (tBin dAdd (tK (.int 1)) (tCl sp_l_draw (tAC (tV 1) (tAC (tK (.int 12)) tA0)))) tA0)) (.one 10) tYe r_law_2 [10])) tA0))) (r_law_11 C_ByTrail C_Classes C_Level))
def r_law_13 (C_ByTrail : Addr) (C_Classes : Addr) (C_Level : Addr) : DTS := (tSq (tSet 5 (tFrz (tLcM (iRg (tAC (tBin dAdd (tK (.int 1)) (tCl sp_l_draw (tAC (tV 1) (tAC (tK (.int 3)) tA0)))) tA0)) (.one 10) tYe r_law_1 [10]))) (r_law_12 C_ByTrail C_Classes C_Level))
def r_law_14 (C_ByTrail : Addr) (C_Classes : Addr) (C_Level : Addr) : DTS := (tSq (tAs (tCl sp_l_classes (tAC (tV 1) (tAC (tK (.int 6)) tA0))) (tgD (.many [3, 4]))) (r_law_13 C_ByTrail C_Classes C_Level))
def r_law_15 : DTS := (tRt (tAndV (tBin dEq (tKc (.str "trail")) (tK (.str "trail"))) (tBin dEq (tKc (.str "class")) (tK (.str "class")))))
def r_law_16 (C_ByTrail : Addr) (C_Classes : Addr) (C_Level : Addr) : DTS := (tSq (tFo (iRg (tAC (tK (.int 6)) tA0)) (.one 2) (r_law_14 C_ByTrail C_Classes C_Level)) r_law_15)
def r_law_17 (C_ByTrail : Addr) (C_Classes : Addr) (C_Level : Addr) : DTS := (tSq (tSet 1 (tCl sp_l_pen (tAC (tV 0) tA0))) (r_law_16 C_ByTrail C_Classes C_Level))
def ri_law (C_ByTrail : Addr) (C_Classes : Addr) (C_Level : Addr) : DTS := (tSq (tSet 1 (tCl sp_l_pen (tAC (tV 0) tA0))) (tSq (tFo (iRg (tAC (tK (.int 6)) tA0)) (.one 2) (tSq (tAs (tCl sp_l_classes (tAC (tV 1) (tAC (tK (.int 6)) tA0))) (tgD (.many [3, 4]))) (tSq (tSet 5 (tFrz (tLcM (iRg (tAC (tBin dAdd (tK (.int 1)) (tCl sp_l_draw (tAC (tV 1) (tAC (tK (.int 3)) tA0)))) tA0)) (.one 10) tYe (tCl sp_l_pick (tAC (tV 1) (tAC (tV 4) tA0))) [10]))) (tSq (tSet 6 (tFn (d1 dTuple) (tAC (tFrz (tLcM (iRg (tAC (tBin dAdd (tK (.int 1)) (tCl sp_l_draw (tAC (tV 1) (tAC (tK (.int 12)) tA0)))) tA0)) (.one 10) tYe (tCl sp_l_pick (tAC (tV 1) (tAC (tV 5) tA0))) [10])) tA0))) (tSq (tSet 7 (tFrz (tNwK C_ByTrail ["trail", "classes"] [0, 2, 1] (sp_ByTrail_init C_ByTrail) (tAC (tV 6) (tAC (tCm C_Classes (sp_Classes_made C_Classes) (tAC (tV 3) tA0)) tA0))))) (tSq (tIfS (tOrT (tNotT (tTru (tFn (dIsiO (JO (tb_isi C_ByTrail C_Classes C_Level))) (tAC (tV 7) (tAC (tK (.ref C_Level)) tA0))))) (tOrT (tOwnT C_Classes (sp_Classes_eq C_ByTrail C_Classes C_Level) not (tFl C_ByTrail "classes" (tV 7)) (tCm C_Classes (sp_Classes_made C_Classes) (tAC (tV 3) tA0))) (tBinT dNe (tKi C_ByTrail "KIND" (.str "trail") (tV 7)) (tK (.str "trail"))))) (tRt (tK (.bl false))) tNx) (tFo (iRg (tAC (tK (.int 8)) tA0)) (.one 8) (tSq (tSet 9 (tCl sp_l_chain (tAC (tV 1) (tAC (tV 6) (tAC (tCl sp_l_pick (tAC (tV 1) (tAC (tLstD (tAC (tV 5) (tAC (tV 4) tA0))) tA0))) tA0))))) (tSq (tIfS (tNotT (tTru (tCl (sp_l_views_right C_ByTrail) (tAC (tV 1) (tAC (tV 7) (tAC (tV 6) (tAC (tV 9) tA0))))))) (tRt (tK (.bl false))) tNx) (tIfS (tNotT (tTru (tCl (sp_l_taken_right C_ByTrail C_Classes) (tAC (tV 1) (tAC (tV 7) (tAC (tV 3) (tAC (tV 4) (tAC (tV 9) tA0)))))))) (tRt (tK (.bl false))) tNx)))))))))) (tRt (tAndV (tBin dEq (tKc (.str "trail")) (tK (.str "trail"))) (tBin dEq (tKc (.str "class")) (tK (.str "class")))))))
def r_law (C_ByTrail : Addr) (C_Classes : Addr) (C_Level : Addr) : DTS := (r_law_17 C_ByTrail C_Classes C_Level)
theorem rr_law (C_ByTrail : Addr) (C_Classes : Addr) (C_Level : Addr) : ri_law C_ByTrail C_Classes C_Level = r_law C_ByTrail C_Classes C_Level := rfl
def sp_law (C_ByTrail : Addr) (C_Classes : Addr) (C_Level : Addr) : DSp := spOf 1 11 (r_law C_ByTrail C_Classes C_Level)
theorem b_law {P : Program} {w : World} {K : PySem.W.Frag} {mg : Str → Option Value} {base : Heap} {C_ByTrail : Addr} {C_Classes : Addr} {C_Level : Addr} (c_l_pen : CalW P w K mg base "_law_pen" 1 sp_l_pen) (z_range : mg "range" = none) (c_l_classes : CalW P w K mg base "_law_classes" 4 sp_l_classes) (c_l_draw : CalW P w K mg base "_law_draw" 1 sp_l_draw) (c_l_pick : CalW P w K mg base "_law_pick" 2 sp_l_pick) (z_tuple : mg "tuple" = none) (mg_ByTrail : mg "ByTrail" = some (.ref C_ByTrail)) (mkk_ByTrail_trail_classes : CalCKW P w K mg base C_ByTrail 2 ["trail", "classes"] [0, 2, 1] (sp_ByTrail_init C_ByTrail)) (k_Classes_made : CalKW P w K mg base C_Classes "made" 6 (sp_Classes_made C_Classes)) (mg_Classes : mg "Classes" = some (.ref C_Classes)) (ji : JOk K (JO (tb_isi C_ByTrail C_Classes C_Level))) (g_Level : GV K mg "Level" (.ref C_Level)) (z_isinstance : mg "isinstance" = none) (m_Classes___eq__ : CalMW P w K mg base C_Classes "__eq__" 1 (sp_Classes_eq C_ByTrail C_Classes C_Level)) (nf_Classes : NF K C_Classes) (cl_ByTrail : Cls K C_ByTrail) (n_ByTrail_classes : NoAttr K C_ByTrail "classes") (mo_Classes : PySem.W.mroIn K C_Classes (.type "object") = some true) (ne_Classes : PySem.W.findIn K (.ref C_Classes) "__ne__" = some (some (.builtin "object.__ne__"))) (ki_ByTrail_KIND : KonD K C_ByTrail "KIND" (.str "trail")) (c_l_chain : CalW P w K mg base "_law_chain" 3 sp_l_chain) (c_l_views_right : CalW P w K mg base "_law_views_right" 2 (sp_l_views_right C_ByTrail)) (c_l_taken_right : CalW P w K mg base "_law_taken_right" 3 (sp_l_taken_right C_ByTrail C_Classes)) (kc_ByTrail_KIND : CvlD K C_ByTrail "KIND" (.str "trail")) (kc_Level_KIND : CvlD K C_Level "KIND" (.str "class")) (mg_Level : mg "Level" = some (.ref C_Level)) {f : Addr} {cdv : Value} {A : Around} {outer : List PySem.Env} {s : Shared} {H : Hp} {E : XK} (hr : RoomG 6 (A.deeper (envOfC "law" (defScope s_law) s.heap.objs.size f cdv))) :
    DSs (cxOf CX0 P w K mg base N_law "law" (defScope s_law) f cdv A outer s H E).nox (defBody s_law) (ri_law C_ByTrail C_Classes C_Level) := by
  have hu := hr.hu
  have hgd := hr.g
  have nd := sc_law.nd
  exact (dss_cons (ds_set (i := 1) (de_call ⟨c_l_pen⟩ (hr.mono (by decide)) (da_cons (dv 0) da_nil)) nd)
  (dss_cons (ds_for (di_range z_range (da_cons de_int da_nil)) (dgt_one (i := 2) nd)
  (dss_cons (ds_asg (de_call ⟨c_l_classes⟩ (hr.mono (by decide)) (da_cons (dv 1) (da_cons de_int da_nil))) (DGt.dg (dgt_many rfl (dgn_cons (i := 3) (dgn_cons (i := 4) dgn_nil nd) nd))))
  (dss_cons (ds_set (i := 5) (de_frz (de_lc (own := [("_law_k", 10)]) (di_range z_range (da_cons (de_op do_add de_int (de_call ⟨c_l_draw⟩ (hr.mono (by decide)) (da_cons (dv 1) (da_cons de_int da_nil)))) da_nil)) (blkOk_by (N := N_law) (sc := defScope s_law) (own := [("_law_k", 10)]) (by decide +kernel)) nd rfl (fun _ _ _ _ _ => (dgt_one (i := 10) nd)) (fun _ _ _ _ _ => dts_nil) (fun _ _ _ _ _ => (de_call ⟨c_l_pick⟩ (hr.mono (by decide)) (da_cons (dv 1) (da_cons (dv 4) da_nil)))))) nd)
  (dss_cons (ds_set (i := 6) (de_ty dc_tuple z_tuple (by decide +kernel) (da_cons (de_frz (de_lc (own := [("_law_k", 10)]) (di_range z_range (da_cons (de_op do_add de_int (de_call ⟨c_l_draw⟩ (hr.mono (by decide)) (da_cons (dv 1) (da_cons de_int da_nil)))) da_nil)) (blkOk_by (N := N_law) (sc := defScope s_law) (own := [("_law_k", 10)]) (by decide +kernel)) nd rfl (fun _ _ _ _ _ => (dgt_one (i := 10) nd)) (fun _ _ _ _ _ => dts_nil) (fun _ _ _ _ _ => (de_call ⟨c_l_pick⟩ (hr.mono (by decide)) (da_cons (dv 1) (da_cons (dv 5) da_nil)))))) da_nil)) nd)
  (dss_cons (ds_set (i := 7) (de_frz (de_newK ⟨mkk_ByTrail_trail_classes⟩ (hr.mono (by decide)) mg_ByTrail (dk_cons (dv 6) (dk_cons (de_cmeth ⟨k_Classes_made⟩ (hr.mono (by decide)) mg_Classes (da_cons (dv 3) da_nil)) dk_nil)))) nd)
  (dss_cons (ds_if (DW.dt (dw_or (dt_not (dt_truth (de_fn (dc_isiO ji) z_isinstance (by decide +kernel) (da_cons (dv 7) (da_cons (de_gv g_Level) da_nil))))) (dw_or (dt_ownNe ⟨m_Classes___eq__⟩ nf_Classes mo_Classes ne_Classes (hr.mono (by decide)) (de_fld C_ByTrail (dv 7) cl_ByTrail n_ByTrail_classes) (de_cmeth ⟨k_Classes_made⟩ (hr.mono (by decide)) mg_Classes (da_cons (dv 3) da_nil))) (dw_or1 (dt_cmp (do_ne hu) (de_con cl_ByTrail ki_ByTrail_KIND (dv 7)) de_str)))))
  (dss_one (ds_ret de_bl))
  dss_nil)
  (dss_one (ds_for (di_range z_range (da_cons de_int da_nil)) (dgt_one (i := 8) nd)
  (dss_cons (ds_set (i := 9) (de_call ⟨c_l_chain⟩ (hr.mono (by decide)) (da_cons (dv 1) (da_cons (dv 6) (da_cons (de_call ⟨c_l_pick⟩ (hr.mono (by decide)) (da_cons (dv 1) (da_cons (de_lst (da_cons (dv 5) (da_cons (dv 4) da_nil))) da_nil))) da_nil)))) nd)
  (dss_cons (ds_if (dt_not (dt_truth (de_call ⟨c_l_views_right⟩ (hr.mono (by decide)) (da_cons (dv 1) (da_cons (dv 7) (da_cons (dv 6) (da_cons (dv 9) da_nil)))))))
  (dss_one (ds_ret de_bl))
  dss_nil)
  (dss_one (ds_if (dt_not (dt_truth (de_call ⟨c_l_taken_right⟩ (hr.mono (by decide)) (da_cons (dv 1) (da_cons (dv 7) (da_cons (dv 3) (da_cons (dv 4) (da_cons (dv 9) da_nil))))))))
  (dss_one (ds_ret de_bl))
  dss_nil)))) rfl PassesOwn.never))))))) rfl PassesOwn.never)
  (dss_one (ds_ret (de_and (de_cmp (do_eq hu) (de_cval kc_ByTrail_KIND mg_ByTrail) de_str) (de_one (de_cmp (do_eq hu) (de_cval kc_Level_KIND mg_Level) de_str)))))))
theorem f_law {P : Program} {w : World} {K : PySem.W.Frag} {mg : Str → Option Value} {base : Heap} {C_ByTrail : Addr} {C_Classes : Addr} {C_Level : Addr} (c_l_pen : CalW P w K mg base "_law_pen" 1 sp_l_pen) (z_range : mg "range" = none) (c_l_classes : CalW P w K mg base "_law_classes" 4 sp_l_classes) (c_l_draw : CalW P w K mg base "_law_draw" 1 sp_l_draw) (c_l_pick : CalW P w K mg base "_law_pick" 2 sp_l_pick) (z_tuple : mg "tuple" = none) (mg_ByTrail : mg "ByTrail" = some (.ref C_ByTrail)) (mkk_ByTrail_trail_classes : CalCKW P w K mg base C_ByTrail 2 ["trail", "classes"] [0, 2, 1] (sp_ByTrail_init C_ByTrail)) (k_Classes_made : CalKW P w K mg base C_Classes "made" 6 (sp_Classes_made C_Classes)) (mg_Classes : mg "Classes" = some (.ref C_Classes)) (ji : JOk K (JO (tb_isi C_ByTrail C_Classes C_Level))) (g_Level : GV K mg "Level" (.ref C_Level)) (z_isinstance : mg "isinstance" = none) (m_Classes___eq__ : CalMW P w K mg base C_Classes "__eq__" 1 (sp_Classes_eq C_ByTrail C_Classes C_Level)) (nf_Classes : NF K C_Classes) (cl_ByTrail : Cls K C_ByTrail) (n_ByTrail_classes : NoAttr K C_ByTrail "classes") (mo_Classes : PySem.W.mroIn K C_Classes (.type "object") = some true) (ne_Classes : PySem.W.findIn K (.ref C_Classes) "__ne__" = some (some (.builtin "object.__ne__"))) (ki_ByTrail_KIND : KonD K C_ByTrail "KIND" (.str "trail")) (c_l_chain : CalW P w K mg base "_law_chain" 3 sp_l_chain) (c_l_views_right : CalW P w K mg base "_law_views_right" 2 (sp_l_views_right C_ByTrail)) (c_l_taken_right : CalW P w K mg base "_law_taken_right" 3 (sp_l_taken_right C_ByTrail C_Classes)) (kc_ByTrail_KIND : CvlD K C_ByTrail "KIND" (.str "trail")) (kc_Level_KIND : CvlD K C_Level "KIND" (.str "class")) (mg_Level : mg "Level" = some (.ref C_Level)) {f : Addr} {fd : FuncData} (F : Fun K "law" "law" s_law f fd) : FnG P w K mg base CX0 7 f (liftSp K (sp_law C_ByTrail C_Classes C_Level)) :=
  FnG.imp (sp := liftSp K (spOf0 1 11 (r_law C_ByTrail C_Classes C_Level))) (fn_mk F sc_law (F.binds (ps := ["_law_script"]) fun _ _ _ _ _ _ us hl => match us, hl with | [_], _ => rfl) (fun ds m R h => h.1) (fun cdv A outer s H E hr => b_law c_l_pen z_range c_l_classes c_l_draw c_l_pick z_tuple mg_ByTrail mkk_ByTrail_trail_classes k_Classes_made mg_Classes ji g_Level z_isinstance m_Classes___eq__ nf_Classes cl_ByTrail n_ByTrail_classes mo_Classes ne_Classes ki_ByTrail_KIND c_l_chain c_l_views_right c_l_taken_right kc_ByTrail_KIND kc_Level_KIND mg_Level hr) fun ds m R h => h.2) lift_drop
theorem fk_ByTrail_init_trail_classes {P : Program} {w : World} {K : PySem.W.Frag} {mg : Str → Option Value} {base : Heap} {C_ByTrail : Addr} (cl_ByTrail : Cls K C_ByTrail) (n_ByTrail_trail : NoAttr K C_ByTrail "trail") (su_ByTrail_init : SupW P w K mg base C_ByTrail 1 (sp_Level_init C_ByTrail)) {f cc cda : Addr} {fd : FuncData} {file : Str} (F : FunS K "__init__" "ByTrail.__init__" s_ByTrail_init C_ByTrail file f cc cda fd) (hfile : ((P.main.file : Str) == file) = true) (htop : (P.main.scope.names.lookup ("super" : Str)).isSome = false) : FnGK P w K mg base CX0 2 f 1 ["trail", "classes"] [0, 2, 1] (liftSp K (sp_ByTrail_init C_ByTrail)) := by
  obtain ⟨g, U, G⟩ := su_ByTrail_init
  exact FnGK.imp (sp := liftSp K (spOf0 3 3 (r_ByTrail_init C_ByTrail))) (fn_superK (k := 1) (ps := ["self", "classes", "trail"]) F ss_ByTrail_init rfl rfl rfl rfl rfl rfl rfl hfile htop U (G.mono (by decide)) (fun A outer s H E => (da_cons (dv 1) da_nil)) (fun A outer s H E hr => by
      have hu := hr.hu
      have hgd := hr.g
      have nd := ss_ByTrail_init.nd
      exact (dss_one (ds_fld C_ByTrail (dv 0) (dv 2) cl_ByTrail n_ByTrail_trail))) (fun L => rfl) (fun L => rfl) (fun L => rfl) (fun L => rfl) (fun L => rfl) (fun ds m R h => h.1) (fun ds m R h => h.2) (fun kV doc pm an ct us ws hl hk => match us, hl, ws, hk with | [_], _, [_, _], _ => rfl)) lift_drop
theorem fk_ByTrail_view_cause_name {P : Program} {w : World} {K : PySem.W.Frag} {mg : Str → Option Value} {base : Heap} {C_ByTrail : Addr} (cl_ByTrail : Cls K C_ByTrail) (n_ByTrail_trail : NoAttr K C_ByTrail "trail") (z_len : mg "len" = none) {f : Addr} {fd : FuncData} (F : FunV K "view" "ByTrail.view" s_ByTrail_view [V.non] f fd) : FnGK P w K mg base CX0 1 f 1 ["cause", "name"] [0, 2, 1] (liftSp K (sp_ByTrail_view C_ByTrail)) :=
  FnGK.imp (sp := liftSp K (spOf0 3 4 (r_ByTrail_view C_ByTrail))) (fn_mkVK (n := 1) (ks := ["cause", "name"]) F sc_ByTrail_view (fun T kV doc pm an cdv ct us its ws hl hi hw => match us, hl, its, hi, ws, hw with | [_], _, [_], _, [_, _], _ => ⟨_, rfl, rfl⟩) (fun ds m R h => h.1) (fun cdv A outer s H E hr => b_ByTrail_view cl_ByTrail n_ByTrail_trail z_len hr) fun ds m R h => h.2) lift_drop
end K66
namespace K66
open PySem PySem.Spec PyProof.Rows DL
def penV (c : D) (a r : Int) : D := .dic [.str "cells", .str "next", .str "rest"] [c, .int a, .int r]
theorem ne_cn : ¬ ("cells" : Str) = "next" := by decide +kernel
theorem ne_cr : ¬ ("cells" : Str) = "rest" := by decide +kernel
theorem ne_nr : ¬ ("next" : Str) = "rest" := by decide +kernel
theorem ix_c {m : M} {p : Addr} {c : D} {a r : Int} (h : m p = some (penV c a r)) : dIx m (.ref p) (.str "cells") = some c := by
  simp [dIx, look, h, penV, keyOf, dlook]
theorem ix_n {m : M} {p : Addr} {c : D} {a r : Int} (h : m p = some (penV c a r)) : dIx m (.ref p) (.str "next") = some (.int a) := by
  simp [dIx, look, h, penV, keyOf, dlook, ne_cn]
theorem ix_r {m : M} {p : Addr} {c : D} {a r : Int} (h : m p = some (penV c a r)) : dIx m (.ref p) (.str "rest") = some (.int r) := by
  simp [dIx, look, h, penV, keyOf, dlook, ne_cr, ne_nr]
theorem st_n {m : M} {p : Addr} {c : D} {a r v : Int} {Q : M → Prop} (h : m p = some (penV c a r)) (q : Q (updM m p (penV c v r))) : dStore m (.ref p) (.str "next") (.int v) Q := by
  simp only [dStore, h, penV]
  refine ⟨_, rfl, show 3 < sizeLine by decide, ?_⟩
  have e1 : isKey (.inr ("next" : Str)) (.str "cells") = false := by decide +kernel
  have e2 : isKey (.inr ("next" : Str)) (.str "next") = true := by decide +kernel
  have e3 : isKey (.inr ("next" : Str)) (.str "rest") = false := by decide +kernel
  simp [dputK, dputV, e1, e2, e3]
  exact q
theorem st_r {m : M} {p : Addr} {c : D} {a r v : Int} {Q : M → Prop} (h : m p = some (penV c a r)) (q : Q (updM m p (penV c a v))) : dStore m (.ref p) (.str "rest") (.int v) Q := by
  simp only [dStore, h, penV]
  refine ⟨_, rfl, show 3 < sizeLine by decide, ?_⟩
  have e1 : isKey (.inr ("rest" : Str)) (.str "cells") = false := by decide +kernel
  have e2 : isKey (.inr ("rest" : Str)) (.str "next") = false := by decide +kernel
  have e3 : isKey (.inr ("rest" : Str)) (.str "rest") = true := by decide +kernel
  simp [dputK, dputV, e1, e2, e3]
  exact q
def PenD (l : D) (a : Int) : Prop := ∃ (cells : List Int) (at_ rest : Int), l = penV (.lst (cells.map .int)) at_ rest ∧ 0 ≤ at_ ∧ at_ ≤ a ∧ 0 ≤ rest
theorem draw_tail {m : M} {a at_ n c : Int} {e0 e2 e5 : Option D} {Q : DK} (h1 : 0 ≤ at_) (h2 : at_ ≤ a) (ha : a < 1048576) (hn : 0 < n) (hn2 : n < 1073741824)
    (k : ∀ v, 0 ≤ v → v < n → Q (.int v) m) : r_l_draw_12 [e0, some (.int n), e2, some (.int at_), some (.int c), e5, none] m { nx := fun _ m => Q .non m, rt := Q } := by
  have z : at_.natAbs < 18446744073709551616 := by omega
  simp [r_l_draw_12, tSq, DL.tIfS, tBinT, tBin, tV, tK, DL.tSet, tRt, tRtN, tAs, gSb, tFn, tAC, tA0, tDr, tApp, tExt, tPopA, tLstD, tTupD, tLstM, tCl, tMt, tPr, tNx, tSlD, tON, tOS, tIfD, DL.tAndT, DL.tOrT, DL.tNotT, tTru, tChainT, tNeg, tListM, List.map_cons, List.map_nil, List.length_cons, List.length_nil, List.replicate, List.cons_append, List.nil_append, List.getElem?_cons_zero, List.getElem?_cons_succ, List.set_cons_zero, List.set_cons_succ, Option.some.injEq, exists_eq_left', exists_eq_left, D.bl.injEq, D.int.injEq, D.str.injEq, D.lst.injEq, D.ref.injEq, if_true, if_false, Bool.true_eq_false, Bool.false_eq_true, startD, bodyEnds, Nat.reduceSub, Nat.reduceAdd, true_and, and_true, d1, dInt, look, dMod, d2I, dMul, dAdd, z]
  generalize c % 2147483629 * 48271 + _ + _ + _ = q0
  simp [r_l_draw_11, tSq, DL.tIfS, tBinT, tBin, tV, tK, DL.tSet, tRt, tRtN, tAs, gSb, tFn, tAC, tA0, tDr, tApp, tExt, tPopA, tLstD, tTupD, tLstM, tCl, tMt, tPr, tNx, tSlD, tON, tOS, tIfD, DL.tAndT, DL.tOrT, DL.tNotT, tTru, tChainT, tNeg, tListM, List.map_cons, List.map_nil, List.length_cons, List.length_nil, List.replicate, List.cons_append, List.nil_append, List.getElem?_cons_zero, List.getElem?_cons_succ, List.set_cons_zero, List.set_cons_succ, Option.some.injEq, exists_eq_left', exists_eq_left, D.bl.injEq, D.int.injEq, D.str.injEq, D.lst.injEq, D.ref.injEq, if_true, if_false, Bool.true_eq_false, Bool.false_eq_true, startD, bodyEnds, Nat.reduceSub, Nat.reduceAdd, true_and, and_true, d1, dInt, look, dMod, d2I]
  have b1 := Int.emod_nonneg q0 (show (2147483647 : Int) ≠ 0 by decide)
  have b2 := Int.emod_lt_of_pos q0 (show (0 : Int) < 2147483647 by decide)
  generalize q0 % 2147483647 = q1 at *
  have z1 : q1.natAbs < 18446744073709551616 := by omega
  simp [r_l_draw_10, tSq, DL.tIfS, tBinT, tBin, tV, tK, DL.tSet, tRt, tRtN, tAs, gSb, tFn, tAC, tA0, tDr, tApp, tExt, tPopA, tLstD, tTupD, tLstM, tCl, tMt, tPr, tNx, tSlD, tON, tOS, tIfD, DL.tAndT, DL.tOrT, DL.tNotT, tTru, tChainT, tNeg, tListM, List.map_cons, List.map_nil, List.length_cons, List.length_nil, List.replicate, List.cons_append, List.nil_append, List.getElem?_cons_zero, List.getElem?_cons_succ, List.set_cons_zero, List.set_cons_succ, Option.some.injEq, exists_eq_left', exists_eq_left, D.bl.injEq, D.int.injEq, D.str.injEq, D.lst.injEq, D.ref.injEq, if_true, if_false, Bool.true_eq_false, Bool.false_eq_true, startD, bodyEnds, Nat.reduceSub, Nat.reduceAdd, true_and, and_true, d1, dInt, look, dMod, d2I, dMul, dAdd, dDiv, z1]
  generalize q1 * _ = q2
  have b3 := Int.emod_nonneg q2 (show (2147483587 : Int) ≠ 0 by decide)
  have b4 := Int.emod_lt_of_pos q2 (show (0 : Int) < 2147483587 by decide)
  generalize q2 % 2147483587 = q3 at *
  have z3 : q3.natAbs < 18446744073709551616 := by omega
  simp [r_l_draw_9, tSq, DL.tIfS, tBinT, tBin, tV, tK, DL.tSet, tRt, tRtN, tAs, gSb, tFn, tAC, tA0, tDr, tApp, tExt, tPopA, tLstD, tTupD, tLstM, tCl, tMt, tPr, tNx, tSlD, tON, tOS, tIfD, DL.tAndT, DL.tOrT, DL.tNotT, tTru, tChainT, tNeg, tListM, List.map_cons, List.map_nil, List.length_cons, List.length_nil, List.replicate, List.cons_append, List.nil_append, List.getElem?_cons_zero, List.getElem?_cons_succ, List.set_cons_zero, List.set_cons_succ, Option.some.injEq, exists_eq_left', exists_eq_left, D.bl.injEq, D.int.injEq, D.str.injEq, D.lst.injEq, D.ref.injEq, if_true, if_false, Bool.true_eq_false, Bool.false_eq_true, startD, bodyEnds, Nat.reduceSub, Nat.reduceAdd, true_and, and_true, d1, dInt, look, dMod, d2I, dMul, dAdd, dDiv, z3]
  simp [r_l_draw_8, tSq, DL.tIfS, tBinT, tBin, tV, tK, DL.tSet, tRt, tRtN, tAs, gSb, tFn, tAC, tA0, tDr, tApp, tExt, tPopA, tLstD, tTupD, tLstM, tCl, tMt, tPr, tNx, tSlD, tON, tOS, tIfD, DL.tAndT, DL.tOrT, DL.tNotT, tTru, tChainT, tNeg, tListM, List.map_cons, List.map_nil, List.length_cons, List.length_nil, List.replicate, List.cons_append, List.nil_append, List.getElem?_cons_zero, List.getElem?_cons_succ, List.set_cons_zero, List.set_cons_succ, Option.some.injEq, exists_eq_left', exists_eq_left, D.bl.injEq, D.int.injEq, D.str.injEq, D.lst.injEq, D.ref.injEq, if_true, if_false, Bool.true_eq_false, Bool.false_eq_true, startD, bodyEnds, Nat.reduceSub, Nat.reduceAdd, true_and, and_true, d1, dInt, look, dMod, d2I, dDiv, hn]
  exact k _ (Int.emod_nonneg _ (by omega)) (Int.emod_lt_of_pos _ hn)
theorem draw_r {m : M} {p : Addr} {l : D} {a n : Int} {Q : DK} (hp : m p = some l) (h : PenD l a) (ha : a < 1048576) (hn : 0 < n) (hn2 : n < 1073741824)
    (k : ∀ v l', 0 ≤ v → v < n → PenD l' (a + 1) → Q (.int v) (updM m p l')) : r_l_draw (startD 7 [.ref p, .int n]) m (bodyEnds Q) := by
  obtain ⟨cells, at_, rest, rfl, h1, h2, h3⟩ := h
  show r_l_draw_18 _ _ _
  simp only [r_l_draw_18, tSq, DL.tIfS, tBinT, tBin, tV, tK, DL.tSet, tRt, tRtN, tAs, gSb, tFn, tAC, tA0, tDr, tApp, tExt, tPopA, tLstD, tTupD, tLstM, tCl, tMt, tPr, tNx, tSlD, tON, tOS, tIfD, DL.tAndT, DL.tOrT, DL.tNotT, tTru, tChainT, tNeg, tListM, List.map_cons, List.map_nil, List.length_cons, List.length_nil, List.replicate, List.cons_append, List.nil_append, List.getElem?_cons_zero, List.getElem?_cons_succ, List.set_cons_zero, List.set_cons_succ, Option.some.injEq, exists_eq_left', exists_eq_left, D.bl.injEq, D.int.injEq, D.str.injEq, D.lst.injEq, D.ref.injEq, if_true, if_false, Bool.true_eq_false, Bool.false_eq_true, startD, bodyEnds, Nat.reduceSub, Nat.reduceAdd, true_and, and_true, ix_r hp, dGt, d2IB, look]
  by_cases hr : 0 < rest
  · simp only [gt_iff_lt, hr, decide_true, if_true]
    simp only [r_l_draw_3, tSq, DL.tIfS, tBinT, tBin, tV, tK, DL.tSet, tRt, tRtN, tAs, gSb, tFn, tAC, tA0, tDr, tApp, tExt, tPopA, tLstD, tTupD, tLstM, tCl, tMt, tPr, tNx, tSlD, tON, tOS, tIfD, DL.tAndT, DL.tOrT, DL.tNotT, tTru, tChainT, tNeg, tListM, List.map_cons, List.map_nil, List.length_cons, List.length_nil, List.replicate, List.cons_append, List.nil_append, List.getElem?_cons_zero, List.getElem?_cons_succ, List.set_cons_zero, List.set_cons_succ, Option.some.injEq, exists_eq_left', exists_eq_left, D.bl.injEq, D.int.injEq, D.str.injEq, D.lst.injEq, D.ref.injEq, if_true, if_false, Bool.true_eq_false, Bool.false_eq_true, startD, bodyEnds, Nat.reduceSub, Nat.reduceAdd, true_and, and_true, ix_r hp, d1, dInt, look, dMod, d2I]
    refine ⟨.int (rest % n), if_pos hn, ?_⟩
    simp only [r_l_draw_2, tSq, DL.tIfS, tBinT, tBin, tV, tK, DL.tSet, tRt, tRtN, tAs, gSb, tFn, tAC, tA0, tDr, tApp, tExt, tPopA, tLstD, tTupD, tLstM, tCl, tMt, tPr, tNx, tSlD, tON, tOS, tIfD, DL.tAndT, DL.tOrT, DL.tNotT, tTru, tChainT, tNeg, tListM, List.map_cons, List.map_nil, List.length_cons, List.length_nil, List.replicate, List.cons_append, List.nil_append, List.getElem?_cons_zero, List.getElem?_cons_succ, List.set_cons_zero, List.set_cons_succ, Option.some.injEq, exists_eq_left', exists_eq_left, D.bl.injEq, D.int.injEq, D.str.injEq, D.lst.injEq, D.ref.injEq, if_true, if_false, Bool.true_eq_false, Bool.false_eq_true, startD, bodyEnds, Nat.reduceSub, Nat.reduceAdd, true_and, and_true, ix_r hp, d1, dInt, look, dDiv, d2I]
    refine ⟨.int (rest / n), if_pos ⟨hn, hn2⟩, st_r hp ?_⟩
    simp only [r_l_draw_1, tSq, DL.tIfS, tBinT, tBin, tV, tK, DL.tSet, tRt, tRtN, tAs, gSb, tFn, tAC, tA0, tDr, tApp, tExt, tPopA, tLstD, tTupD, tLstM, tCl, tMt, tPr, tNx, tSlD, tON, tOS, tIfD, DL.tAndT, DL.tOrT, DL.tNotT, tTru, tChainT, tNeg, tListM, List.map_cons, List.map_nil, List.length_cons, List.length_nil, List.replicate, List.cons_append, List.nil_append, List.getElem?_cons_zero, List.getElem?_cons_succ, List.set_cons_zero, List.set_cons_succ, Option.some.injEq, exists_eq_left', exists_eq_left, D.bl.injEq, D.int.injEq, D.str.injEq, D.lst.injEq, D.ref.injEq, if_true, if_false, Bool.true_eq_false, Bool.false_eq_true, startD, bodyEnds, Nat.reduceSub, Nat.reduceAdd, true_and, and_true]
    exact k _ _ (Int.emod_nonneg _ (by omega)) (Int.emod_lt_of_pos _ hn) ⟨cells, at_, rest / n, rfl, h1, by omega, Int.ediv_nonneg h3 (by omega)⟩
  · simp only [gt_iff_lt, hr, decide_false, Bool.false_eq_true, if_false]
    simp only [r_l_draw_17, tSq, DL.tIfS, tBinT, tBin, tV, tK, DL.tSet, tRt, tRtN, tAs, gSb, tFn, tAC, tA0, tDr, tApp, tExt, tPopA, tLstD, tTupD, tLstM, tCl, tMt, tPr, tNx, tSlD, tON, tOS, tIfD, DL.tAndT, DL.tOrT, DL.tNotT, tTru, tChainT, tNeg, tListM, List.map_cons, List.map_nil, List.length_cons, List.length_nil, List.replicate, List.cons_append, List.nil_append, List.getElem?_cons_zero, List.getElem?_cons_succ, List.set_cons_zero, List.set_cons_succ, Option.some.injEq, exists_eq_left', exists_eq_left, D.bl.injEq, D.int.injEq, D.str.injEq, D.lst.injEq, D.ref.injEq, if_true, if_false, Bool.true_eq_false, Bool.false_eq_true, startD, bodyEnds, Nat.reduceSub, Nat.reduceAdd, true_and, and_true, ix_n hp]
    simp only [r_l_draw_16, tSq, DL.tIfS, tBinT, tBin, tV, tK, DL.tSet, tRt, tRtN, tAs, gSb, tFn, tAC, tA0, tDr, tApp, tExt, tPopA, tLstD, tTupD, tLstM, tCl, tMt, tPr, tNx, tSlD, tON, tOS, tIfD, DL.tAndT, DL.tOrT, DL.tNotT, tTru, tChainT, tNeg, tListM, List.map_cons, List.map_nil, List.length_cons, List.length_nil, List.replicate, List.cons_append, List.nil_append, List.getElem?_cons_zero, List.getElem?_cons_succ, List.set_cons_zero, List.set_cons_succ, Option.some.injEq, exists_eq_left', exists_eq_left, D.bl.injEq, D.int.injEq, D.str.injEq, D.lst.injEq, D.ref.injEq, if_true, if_false, Bool.true_eq_false, Bool.false_eq_true, startD, bodyEnds, Nat.reduceSub, Nat.reduceAdd, true_and, and_true, dAdd, look]
    refine st_n hp ?_
    have pd : ∀ r, 0 ≤ r → PenD (penV (.lst (cells.map .int)) (at_ + 1) r) (a + 1) := fun r hr => ⟨cells, at_ + 1, r, rfl, by omega, by omega, hr⟩
    have hq : ∀ v, updM m p (penV (.lst (cells.map .int)) (at_ + 1) v) p = some (penV (.lst (cells.map .int)) (at_ + 1) v) := fun v => updM_same
    have z : at_.natAbs < 18446744073709551616 := by omega
    simp only [r_l_draw_15, tSq, DL.tIfS, tBinT, tBin, tV, tK, DL.tSet, tRt, tRtN, tAs, gSb, tFn, tAC, tA0, tDr, tApp, tExt, tPopA, tLstD, tTupD, tLstM, tCl, tMt, tPr, tNx, tSlD, tON, tOS, tIfD, DL.tAndT, DL.tOrT, DL.tNotT, tTru, tChainT, tNeg, tListM, List.map_cons, List.map_nil, List.length_cons, List.length_nil, List.replicate, List.cons_append, List.nil_append, List.getElem?_cons_zero, List.getElem?_cons_succ, List.set_cons_zero, List.set_cons_succ, Option.some.injEq, exists_eq_left', exists_eq_left, D.bl.injEq, D.int.injEq, D.str.injEq, D.lst.injEq, D.ref.injEq, if_true, if_false, Bool.true_eq_false, Bool.false_eq_true, startD, bodyEnds, Nat.reduceSub, Nat.reduceAdd, true_and, and_true, dMul, dAdd, look]
    refine ⟨_, if_pos (.inl (by decide)), ?_⟩
    simp only [tSq, DL.tIfS, tBinT, tBin, tV, tK, DL.tSet, tRt, tRtN, tAs, gSb, tFn, tAC, tA0, tDr, tApp, tExt, tPopA, tLstD, tTupD, tLstM, tCl, tMt, tPr, tNx, tSlD, tON, tOS, tIfD, DL.tAndT, DL.tOrT, DL.tNotT, tTru, tChainT, tNeg, tListM, List.map_cons, List.map_nil, List.length_cons, List.length_nil, List.replicate, List.cons_append, List.nil_append, List.getElem?_cons_zero, List.getElem?_cons_succ, List.set_cons_zero, List.set_cons_succ, Option.some.injEq, exists_eq_left', exists_eq_left, D.bl.injEq, D.int.injEq, D.str.injEq, D.lst.injEq, D.ref.injEq, if_true, if_false, Bool.true_eq_false, Bool.false_eq_true, startD, bodyEnds, Nat.reduceSub, Nat.reduceAdd, true_and, and_true]
    refine ⟨_, rfl, ?_⟩
    have fin : ∀ c : Int, r_l_draw_13 [some (.ref p), some (.int n), none, some (.int at_), some (.int c), none, none] (updM m p (penV (.lst (cells.map .int)) (at_ + 1) rest)) { nx := fun _ m => Q .non m, rt := Q } := by
      intro c
      have go := draw_tail (m := updM m p (penV (.lst (cells.map .int)) (at_ + 1) rest)) (c := c) (e0 := some (.ref p)) (e2 := none) (e5 := none) (Q := Q) h1 h2 ha hn hn2 fun v b1 b2 => k v _ b1 b2 (pd rest h3)
      simp only [r_l_draw_13, tSq, DL.tIfS, tBinT, tBin, tV, tK, DL.tSet, tRt, tRtN, tAs, gSb, tFn, tAC, tA0, tDr, tApp, tExt, tPopA, tLstD, tTupD, tLstM, tCl, tMt, tPr, tNx, tSlD, tON, tOS, tIfD, DL.tAndT, DL.tOrT, DL.tNotT, tTru, tChainT, tNeg, tListM, List.map_cons, List.map_nil, List.length_cons, List.length_nil, List.replicate, List.cons_append, List.nil_append, List.getElem?_cons_zero, List.getElem?_cons_succ, List.set_cons_zero, List.set_cons_succ, Option.some.injEq, exists_eq_left', exists_eq_left, D.bl.injEq, D.int.injEq, D.str.injEq, D.lst.injEq, D.ref.injEq, if_true, if_false, Bool.true_eq_false, Bool.false_eq_true, startD, bodyEnds, Nat.reduceSub, Nat.reduceAdd, true_and, and_true, ix_c (hq _)]
      simp [d1, dLen, look, dLt, d2IB, dAbs, dPow, d2I, dGe]
      by_cases g1 : at_ < cells.length
      · refine .inr ⟨g1, ?_⟩
        by_cases g2 : (if c < 0 then -c else c) < 1000000000000000
        · exact .inl ⟨g2, go⟩
        · refine .inr ⟨by omega, ?_⟩
          simp [r_l_draw_7, tSq, DL.tIfS, tBinT, tBin, tV, tK, DL.tSet, tRt, tRtN, tAs, gSb, tFn, tAC, tA0, tDr, tApp, tExt, tPopA, tLstD, tTupD, tLstM, tCl, tMt, tPr, tNx, tSlD, tON, tOS, tIfD, DL.tAndT, DL.tOrT, DL.tNotT, tTru, tChainT, tNeg, tListM, List.map_cons, List.map_nil, List.length_cons, List.length_nil, List.replicate, List.cons_append, List.nil_append, List.getElem?_cons_zero, List.getElem?_cons_succ, List.set_cons_zero, List.set_cons_succ, Option.some.injEq, exists_eq_left', exists_eq_left, D.bl.injEq, D.int.injEq, D.str.injEq, D.lst.injEq, D.ref.injEq, if_true, if_false, Bool.true_eq_false, Bool.false_eq_true, startD, bodyEnds, Nat.reduceSub, Nat.reduceAdd, true_and, and_true, d1, dInt, dLt, d2IB, look, dAbs, dMul, dAdd]
          simp [r_l_draw_6, tSq, DL.tIfS, tBinT, tBin, tV, tK, DL.tSet, tRt, tRtN, tAs, gSb, tFn, tAC, tA0, tDr, tApp, tExt, tPopA, tLstD, tTupD, tLstM, tCl, tMt, tPr, tNx, tSlD, tON, tOS, tIfD, DL.tAndT, DL.tOrT, DL.tNotT, tTru, tChainT, tNeg, tListM, List.map_cons, List.map_nil, List.length_cons, List.length_nil, List.replicate, List.cons_append, List.nil_append, List.getElem?_cons_zero, List.getElem?_cons_succ, List.set_cons_zero, List.set_cons_succ, Option.some.injEq, exists_eq_left', exists_eq_left, D.bl.injEq, D.int.injEq, D.str.injEq, D.lst.injEq, D.ref.injEq, if_true, if_false, Bool.true_eq_false, Bool.false_eq_true, startD, bodyEnds, Nat.reduceSub, Nat.reduceAdd, true_and, and_true, dDiv, d2I, look, hn, hn2]
          refine st_r (hq _) ?_
          rw [updM_over]
          simp [r_l_draw_5, tSq, DL.tIfS, tBinT, tBin, tV, tK, DL.tSet, tRt, tRtN, tAs, gSb, tFn, tAC, tA0, tDr, tApp, tExt, tPopA, tLstD, tTupD, tLstM, tCl, tMt, tPr, tNx, tSlD, tON, tOS, tIfD, DL.tAndT, DL.tOrT, DL.tNotT, tTru, tChainT, tNeg, tListM, List.map_cons, List.map_nil, List.length_cons, List.length_nil, List.replicate, List.cons_append, List.nil_append, List.getElem?_cons_zero, List.getElem?_cons_succ, List.set_cons_zero, List.set_cons_succ, Option.some.injEq, exists_eq_left', exists_eq_left, D.bl.injEq, D.int.injEq, D.str.injEq, D.lst.injEq, D.ref.injEq, if_true, if_false, Bool.true_eq_false, Bool.false_eq_true, startD, bodyEnds, Nat.reduceSub, Nat.reduceAdd, true_and, and_true, d1, dInt, look, dMod, d2I, hn]
          exact k _ _ (Int.emod_nonneg _ (by omega)) (Int.emod_lt_of_pos _ hn) (pd _ (Int.ediv_nonneg (by split <;> omega) (by omega)))
      · exact .inl ⟨by omega, go⟩
    simp only [r_l_draw_14, tSq, DL.tIfS, tBinT, tBin, tV, tK, DL.tSet, tRt, tRtN, tAs, gSb, tFn, tAC, tA0, tDr, tApp, tExt, tPopA, tLstD, tTupD, tLstM, tCl, tMt, tPr, tNx, tSlD, tON, tOS, tIfD, DL.tAndT, DL.tOrT, DL.tNotT, tTru, tChainT, tNeg, tListM, List.map_cons, List.map_nil, List.length_cons, List.length_nil, List.replicate, List.cons_append, List.nil_append, List.getElem?_cons_zero, List.getElem?_cons_succ, List.set_cons_zero, List.set_cons_succ, Option.some.injEq, exists_eq_left', exists_eq_left, D.bl.injEq, D.int.injEq, D.str.injEq, D.lst.injEq, D.ref.injEq, if_true, if_false, Bool.true_eq_false, Bool.false_eq_true, startD, bodyEnds, Nat.reduceSub, Nat.reduceAdd, true_and, and_true, ix_c (hq _)]
    simp [dNe, look, dEqB_nil (datL_ints 59 cells)]
    by_cases hc : cells = []
    · exact .inl ⟨hc, fin _⟩
    · refine .inr ⟨hc, ?_⟩
      have hl : 0 < cells.length := List.length_pos_iff.mpr hc
      have i0 := Int.emod_nonneg at_ (show (cells.length : Int) ≠ 0 by omega)
      have i1 := Int.emod_lt_of_pos at_ (show (0 : Int) < cells.length by omega)
      have i2 : (at_ % (cells.length : Int)).toNat < cells.length := by omega
      simp only [r_l_draw_4, tSq, DL.tIfS, tBinT, tBin, tV, tK, DL.tSet, tRt, tRtN, tAs, gSb, tFn, tAC, tA0, tDr, tApp, tExt, tPopA, tLstD, tTupD, tLstM, tCl, tMt, tPr, tNx, tSlD, tON, tOS, tIfD, DL.tAndT, DL.tOrT, DL.tNotT, tTru, tChainT, tNeg, tListM, List.map_cons, List.map_nil, List.length_cons, List.length_nil, List.replicate, List.cons_append, List.nil_append, List.getElem?_cons_zero, List.getElem?_cons_succ, List.set_cons_zero, List.set_cons_succ, Option.some.injEq, exists_eq_left', exists_eq_left, D.bl.injEq, D.int.injEq, D.str.injEq, D.lst.injEq, D.ref.injEq, if_true, if_false, Bool.true_eq_false, Bool.false_eq_true, startD, bodyEnds, Nat.reduceSub, Nat.reduceAdd, true_and, and_true, ix_c (hq _)]
      simp [dIx, look, L2.atI, L2.ixN, d1, dInt, dLen, dMod, d2I, hl, i0, i1, i2]
      exact fin _
theorem draw_ok {m : M} {p : Addr} {l : D} {a n : Int} {Q : DK} (hp : m p = some l) (h : PenD l a) (ha : a < 1048576) (hn : 0 < n) (hn2 : n < 1073741824)
    (k : ∀ v l', 0 ≤ v → v < n → PenD l' (a + 1) → Q (.int v) (updM m p l')) : sp_l_draw [.ref p, .int n] m Q :=
  ⟨rfl, draw_r hp h ha hn hn2 fun v l' h1 h2 h3 => DL.dropR.self (k v l' h1 h2 h3)⟩
theorem PenD.mono {l : D} {a b : Int} (h : PenD l a) (hb : a ≤ b) : PenD l b := by
  obtain ⟨c, t, r, e, h1, h2, h3⟩ := h
  exact ⟨c, t, r, e, h1, by omega, h3⟩
end K66
namespace K66
open PySem PySem.Spec PyProof.Rows DL
open SX (S S_len S_cat S_inj S_tl)
theorem pen_ok {m : M} {ns : List Int} {Q : DK} (k : ∀ p l, m p = none → PenD l 0 → Q (.ref p) (updM m p l)) : sp_l_pen [.scr ns] m Q := by
  refine ⟨rfl, ?_⟩
  show r_l_pen_1 _ _ _
  simp only [r_l_pen_1, tSq, DL.tIfS, tBinT, tBin, tV, tK, DL.tSet, tRt, tRtN, tAs, gSb, tFn, tAC, tA0, tDr, tApp, tExt, tPopA, tLstD, tTupD, tLstM, tCl, tMt, tPr, tNx, tSlD, tON, tOS, tIfD, DL.tAndT, DL.tOrT, DL.tNotT, tTru, tChainT, tNeg, tListM, List.map_cons, List.map_nil, List.length_cons, List.length_nil, List.replicate, List.cons_append, List.nil_append, List.getElem?_cons_zero, List.getElem?_cons_succ, List.set_cons_zero, List.set_cons_succ, Option.some.injEq, exists_eq_left', exists_eq_left, D.bl.injEq, D.int.injEq, D.str.injEq, D.lst.injEq, D.ref.injEq, if_true, if_false, Bool.true_eq_false, Bool.false_eq_true, startD, bodyEnds, Nat.reduceSub, Nat.reduceAdd, true_and, and_true, tDicM, tPrs]
  intro p hp
  simp only [dSl, look, d1, dList, Option.some.injEq, exists_eq_left', Option.map_some]
  refine ⟨63, rfl, updM_same, [.inr ("cells" : Str), .inr ("next" : Str), .inr ("rest" : Str)], rfl, by decide +kernel, by decide, ?_⟩
  rw [updM_over]
  exact dropR.self (k p _ hp ⟨_, 0, 0, rfl, by decide, by decide, by decide⟩)
theorem pick_lst {m : M} {p : Addr} {l : D} {a : Int} {x : D} {ds : List D} {Q : DK} (hp : m p = some l) (h : PenD l a) (ha : a < 1048576) (hx : look m x = .lst ds) (hx2 : ∀ l', look (updM m p l') x = .lst ds) (hne : ds ≠ []) (hl : ds.length < 1000000)
    (k : ∀ d l', d ∈ ds → PenD l' (a + 1) → Q d (updM m p l')) : sp_l_pick [.ref p, x] m Q := by
  have hpos : 0 < ds.length := List.length_pos_iff.mpr hne
  refine ⟨rfl, ?_⟩
  show r_l_pick_1 _ _ _
  simp only [r_l_pick_1, tSq, DL.tIfS, tBinT, tBin, tV, tK, DL.tSet, tRt, tRtN, tAs, gSb, tFn, tAC, tA0, tDr, tApp, tExt, tPopA, tLstD, tTupD, tLstM, tCl, tMt, tPr, tNx, tSlD, tON, tOS, tIfD, DL.tAndT, DL.tOrT, DL.tNotT, tTru, tChainT, tNeg, tListM, List.map_cons, List.map_nil, List.length_cons, List.length_nil, List.replicate, List.cons_append, List.nil_append, List.getElem?_cons_zero, List.getElem?_cons_succ, List.set_cons_zero, List.set_cons_succ, Option.some.injEq, exists_eq_left', exists_eq_left, D.bl.injEq, D.int.injEq, D.str.injEq, D.lst.injEq, D.ref.injEq, if_true, if_false, Bool.true_eq_false, Bool.false_eq_true, startD, bodyEnds, Nat.reduceSub, Nat.reduceAdd, true_and, and_true]
  refine ⟨.int ds.length, by simp only [d1, hx, dLen], ?_⟩
  refine draw_ok hp h ha (by omega) (by omega) fun v l' h1 h2 h3 => ?_
  obtain ⟨d, e, hd⟩ := mem_getElem? h1 h2
  exact ⟨d, dIx_lst (hx2 l') rfl (atI_pos h1 e), dropR.self (k d l' hd h3)⟩
theorem pick_S {m : M} {p : Addr} {l : D} {a : Int} {cs : List Nat} {Q : DK} (hp : m p = some l) (h : PenD l a) (ha : a < 1048576) (hne : cs ≠ []) (hl : cs.length < 1000)
    (k : ∀ c l', c ∈ cs → PenD l' (a + 1) → Q (.str (S [c])) (updM m p l')) : sp_l_pick [.ref p, .str (S cs)] m Q := by
  have hpos : 0 < cs.length := List.length_pos_iff.mpr hne
  have hz : cs.length ≤ sizeLine := Nat.le_trans (Nat.le_of_lt hl) (by decide)
  refine ⟨rfl, ?_⟩
  show r_l_pick_1 _ _ _
  simp only [r_l_pick_1, tSq, DL.tIfS, tBinT, tBin, tV, tK, DL.tSet, tRt, tRtN, tAs, gSb, tFn, tAC, tA0, tDr, tApp, tExt, tPopA, tLstD, tTupD, tLstM, tCl, tMt, tPr, tNx, tSlD, tON, tOS, tIfD, DL.tAndT, DL.tOrT, DL.tNotT, tTru, tChainT, tNeg, tListM, List.map_cons, List.map_nil, List.length_cons, List.length_nil, List.replicate, List.cons_append, List.nil_append, List.getElem?_cons_zero, List.getElem?_cons_succ, List.set_cons_zero, List.set_cons_succ, Option.some.injEq, exists_eq_left', exists_eq_left, D.bl.injEq, D.int.injEq, D.str.injEq, D.lst.injEq, D.ref.injEq, if_true, if_false, Bool.true_eq_false, Bool.false_eq_true, startD, bodyEnds, Nat.reduceSub, Nat.reduceAdd, true_and, and_true]
  refine ⟨.int cs.length, by simp only [d1, look, dLen, S_len, if_pos hz], ?_⟩
  refine draw_ok hp h ha (by omega) (by omega) fun v l' h1 h2 h3 => ?_
  obtain ⟨c, e, hc⟩ := mem_getElem? h1 h2
  exact ⟨_, dIx_S rfl rfl hz (atI_pos h1 e), dropR.self (k c l' hc h3)⟩
theorem pick_strs {m : M} {p : Addr} {l : D} {a : Int} {xs : List Str} {Q : DK} (hp : m p = some l) (h : PenD l a) (ha : a < 1048576) (hne : xs ≠ []) (hl : xs.length < 1000)
    (k : ∀ x l', x ∈ xs → PenD l' (a + 1) → Q (.str x) (updM m p l')) : sp_l_pick [.ref p, .lst (xs.map .str)] m Q :=
  pick_lst (ds := xs.map .str) hp h ha rfl (fun _ => rfl) (fun e => hne (List.map_eq_nil_iff.mp e)) (by rw [List.length_map]; omega) fun d l' hd h' => by
    obtain ⟨x, hx, rfl⟩ := List.mem_map.mp hd
    exact k x l' hx h'
abbrev Row := Str × List Str
def rowD (r : Row) : D := .tup (.str r.1 :: r.2.map .str)
def Word (w : Str) : Prop := 1 ≤ w.length ∧ w.length ≤ 8 ∧ w ∉ c_RESERVED ∧ ∀ c ∈ w.cps.toList, c ∈ (Str.ofString "abcdefghijklmnopqrstuvwxyz").cps.toList
def RowOk (known : List Str) (r : Row) : Prop := r.1 ∉ known ∧ Word r.1 ∧ r.2 ≠ [] ∧ r.2.Nodup ∧ ∀ b ∈ r.2, b ∈ known
def knownOf (rows : List Row) : List Str := ([("error" : Str), ("vacant" : Str)] : List Str) ++ rows.map (·.1)
def RowsOk (rows : List Row) : Prop := ∀ (i : Nat) (r : Row), rows[i]? = some r → RowOk (knownOf (rows.take i)) r
theorem RowsOk.nil : RowsOk [] := fun i r h => by simp at h
theorem RowsOk.snoc {rows : List Row} {r : Row} (h : RowsOk rows) (h1 : RowOk (knownOf rows) r) : RowsOk (rows ++ [r]) := fun i x hx => by
  rcases Nat.lt_trichotomy i rows.length with z | z | z
  · rw [List.getElem?_append_left z] at hx
    rw [List.take_append_of_le_length (Nat.le_of_lt z)]
    exact h i x hx
  · subst z
    rw [List.getElem?_append_right (Nat.le_refl _), Nat.sub_self] at hx
    cases hx
    rw [List.take_left]
    exact h1
  · rw [List.getElem?_eq_none (by rw [List.length_append]; simp; omega)] at hx
    cases hx
theorem knownOf_snoc (rows : List Row) (r : Row) : knownOf (rows ++ [r]) = knownOf rows ++ [r.1] := by unfold knownOf; simp
theorem knownOf_len (rows : List Row) : (knownOf rows).length = rows.length + 2 := by unfold knownOf; simp
def Lt : List Nat := [97, 98, 99, 100, 101, 102, 103, 104, 105, 106, 107, 108, 109, 110, 111, 112, 113, 114, 115, 116, 117, 118, 119, 120, 121, 122]
theorem lt_eq : Str.ofString "abcdefghijklmnopqrstuvwxyz" = S Lt := by decide +kernel
def barred : List Str := c_RESERVED ++ [("error" : Str), ("vacant" : Str)]
theorem barred_split : Txt.split ((("pass raise from none again return returns break call handling else either or loop try") : Str) ++ ((" except as finally with quiet class def error vacant") : Str)) (" " : Str) = barred := by decide +kernel
theorem barred_ok {m : M} {Q : DK} (k : Q (.lst (barred.map .str)) m) : sp_l_barred [] m Q := by
  refine ⟨rfl, ?_⟩
  show r_l_barred_3 _ _ _
  simp only [r_l_barred_3, r_l_barred_2, r_l_barred_1, tSq, DL.tIfS, tBinT, tBin, tV, tK, DL.tSet, tRt, tRtN, tAs, gSb, tFn, tAC, tA0, tDr, tApp, tExt, tPopA, tLstD, tTupD, tLstM, tCl, tMt, tPr, tNx, tSlD, tON, tOS, tIfD, DL.tAndT, DL.tOrT, DL.tNotT, tTru, tChainT, tNeg, tListM, List.map_cons, List.map_nil, List.length_cons, List.length_nil, List.replicate, List.cons_append, List.nil_append, List.getElem?_cons_zero, List.getElem?_cons_succ, List.set_cons_zero, List.set_cons_succ, Option.some.injEq, exists_eq_left', exists_eq_left, D.bl.injEq, D.int.injEq, D.str.injEq, D.lst.injEq, D.ref.injEq, if_true, if_false, Bool.true_eq_false, Bool.false_eq_true, startD, bodyEnds, Nat.reduceSub, Nat.reduceAdd, true_and, and_true, tSplit, dAdd, look]
  refine ⟨_, if_pos (by decide +kernel), _, rfl, by decide +kernel, by decide +kernel, ?_⟩
  rw [barred_split]
  exact dropR.self k
/-! the words, purely -/
section
variable (bs : List Nat) (s : Nat) (fst hop : Int)
def sign (k : Nat) : Nat := Lt.getD ((fst + hop * k) % 26).toNat 0
def wd (k : Nat) : List Nat := bs.take s ++ [sign fst hop k] ++ bs.drop s
def fin_ (k : Nat) : List Nat := wd bs s fst hop k ++ (if S (wd bs s fst hop k) ∈ barred then [120] else [])
end
theorem no_x : ∀ b ∈ barred, S (b.cps.toList ++ [120]) ∉ barred := by decide +kernel
theorem lt_nd : Lt.Nodup := by decide
theorem lt_len : Lt.length = 26 := rfl
theorem nd_inj {α : Type} {xs : List α} (h : xs.Nodup) {i j : Nat} (hi : i < xs.length) (hj : j < xs.length) (e : xs[i] = xs[j]) : i = j := by
  rcases Nat.lt_trichotomy i j with z | z | z
  · exact absurd e (List.pairwise_iff_getElem.mp h i j hi hj z)
  · exact z
  · exact absurd e.symm (List.pairwise_iff_getElem.mp h j i hj hi z)
theorem sign_mem (f h : Int) (k : Nat) : sign f h k ∈ Lt := by
  unfold sign
  have h1 := Int.emod_nonneg (f + h * k) (show (26 : Int) ≠ 0 by decide)
  have h2 := Int.emod_lt_of_pos (f + h * k) (show (0 : Int) < 26 by decide)
  have h3 : ((f + h * k) % 26).toNat < Lt.length := by rw [lt_len]; omega
  rw [List.getD_eq_getElem?_getD, List.getElem?_eq_getElem h3]
  exact List.getElem_mem h3
theorem sign_inj {f h : Int} {k k' : Nat} (hh : h = 1 ∨ h = 3 ∨ h = 5 ∨ h = 7 ∨ h = 9 ∨ h = 11) (hk : k < k') (hk' : k' < 20) (e : sign f h k = sign f h k') : False := by
  unfold sign at e
  have h1 := Int.emod_nonneg (f + h * k) (show (26 : Int) ≠ 0 by decide)
  have h2 := Int.emod_lt_of_pos (f + h * k) (show (0 : Int) < 26 by decide)
  have h1' := Int.emod_nonneg (f + h * k') (show (26 : Int) ≠ 0 by decide)
  have h2' := Int.emod_lt_of_pos (f + h * k') (show (0 : Int) < 26 by decide)
  have h3 : ((f + h * k) % 26).toNat < Lt.length := by rw [lt_len]; omega
  have h3' : ((f + h * k') % 26).toNat < Lt.length := by rw [lt_len]; omega
  rw [List.getD_eq_getElem?_getD, List.getElem?_eq_getElem h3, List.getD_eq_getElem?_getD, List.getElem?_eq_getElem h3'] at e
  simp only [Option.getD_some] at e
  have e2 : ((f + h * k) % 26).toNat = ((f + h * k') % 26).toNat := nd_inj lt_nd h3 h3' e
  have e3 : (f + h * k) % 26 = (f + h * k') % 26 := by omega
  rcases hh with rfl | rfl | rfl | rfl | rfl | rfl <;> omega
theorem fin_inj {bs : List Nat} {s : Nat} {f h : Int} {k k' : Nat} (hs : s ≤ bs.length) (hh : h = 1 ∨ h = 3 ∨ h = 5 ∨ h = 7 ∨ h = 9 ∨ h = 11) (hk : k < k') (hk' : k' < 20) : fin_ bs s f h k ≠ fin_ bs s f h k' := by
  intro e
  have g : ∀ j, (fin_ bs s f h j)[s]? = some (sign f h j) := fun j => by
    unfold fin_ wd
    have l1 : (bs.take s).length = s := by rw [List.length_take]; omega
    rw [List.append_assoc, List.append_assoc, List.getElem?_append_right (by omega), l1, Nat.sub_self]
    rfl
  refine sign_inj (f := f) hh hk hk' ?_
  have := g k
  rw [e, g k'] at this
  exact (Option.some.inj this).symm
theorem fin_word {bs : List Nat} {s : Nat} {f h : Int} {k : Nat} (hb : ∀ c ∈ bs, c ∈ Lt) (hl : bs.length ≤ 6) : Word (S (fin_ bs s f h k)) ∧ S (fin_ bs s f h k) ∉ barred := by
  have lw : (wd bs s f h k).length = bs.length + 1 := by
    unfold wd
    rw [List.length_append, List.length_append, List.length_take, List.length_drop, List.length_singleton]; omega
  have mw : ∀ c ∈ wd bs s f h k, c ∈ Lt := fun c hc => by
    unfold wd at hc
    rw [List.mem_append, List.mem_append, List.mem_singleton] at hc
    rcases hc with (hc | hc) | hc
    · exact hb c (List.mem_of_mem_take hc)
    · subst hc; exact sign_mem f h k
    · exact hb c (List.mem_of_mem_drop hc)
  have nb : S (fin_ bs s f h k) ∉ barred := by
    unfold fin_
    split
    · rename_i hm
      exact no_x _ hm
    · rename_i hm
      rw [List.append_nil]; exact hm
  refine ⟨⟨?_, ?_, ?_, ?_⟩, nb⟩
  · rw [S_len]; unfold fin_; rw [List.length_append]; omega
  · rw [S_len]; unfold fin_; rw [List.length_append, lw]
    split <;> simp <;> omega
  · intro hm
    exact nb (List.mem_append_left _ hm)
  · rw [lt_eq]
    intro c hc
    have hc : c ∈ fin_ bs s f h k := hc
    show c ∈ Lt
    unfold fin_ at hc
    rw [List.mem_append] at hc
    rcases hc with hc | hc
    · exact mw c hc
    · split at hc
      · simp at hc; subst hc; decide
      · simp at hc
structure WordsOk (n : Nat) (ws : List Str) : Prop where
  len : ws.length = n
  nd : (knownOf (ws.map fun w => (w, []))).Nodup
  wd : ∀ w ∈ ws, Word w
theorem words_pure {bs : List Nat} {s : Nat} {f h : Int} {n : Nat} (hn : n ≤ 20) (hs : s ≤ bs.length) (hb : ∀ c ∈ bs, c ∈ Lt) (hl : bs.length ≤ 6) (hh : h = 1 ∨ h = 3 ∨ h = 5 ∨ h = 7 ∨ h = 9 ∨ h = 11) :
    WordsOk n ((List.range n).map fun k => S (fin_ bs s f h k)) where
  len := by simp
  nd := by
    unfold knownOf
    rw [List.map_map]
    show ([("error" : Str), ("vacant" : Str)] ++ ((List.range n).map fun k => S (fin_ bs s f h k)).map fun w => w).Nodup
    rw [List.map_id', List.nodup_append]
    refine ⟨by decide +kernel, ?_, ?_⟩
    · rw [List.nodup_iff_pairwise_ne, List.pairwise_map]
      refine List.Pairwise.imp_of_mem ?_ List.pairwise_lt_range
      intro a b ha hb' hab e
      exact fin_inj hs hh hab (by have := List.mem_range.mp hb'; omega) (S_inj e)
    · intro a ha b hb' e
      obtain ⟨k, _, rfl⟩ := List.mem_map.mp hb'
      refine (fin_word (k := k) (f := f) (h := h) (s := s) hb hl).2 (List.mem_append_right _ ?_)
      rw [← e]; exact ha
  wd := fun w hw => by
    obtain ⟨k, _, rfl⟩ := List.mem_map.mp hw
    exact (fin_word hb hl).1
theorem s_quie : Str.ofString "quie" = S [113, 117, 105, 101] := by decide +kernel
theorem s_o : Str.ofString "o" = S [111] := by decide +kernel
theorem s_erro : Str.ofString "erro" = S [101, 114, 114, 111] := by decide +kernel
theorem s_retur : Str.ofString "retur" = S [114, 101, 116, 117, 114] := by decide +kernel
theorem s_nil : Str.ofString "" = S [] := by decide +kernel
theorem s_x0 : Txt.mul (Str.ofString "x") 0 = S [] := by decide +kernel
theorem s_x1 : Txt.mul (Str.ofString "x") 1 = S [120] := by decide +kernel
theorem small {n : Nat} (h : n ≤ 1000) : n ≤ sizeLine := Nat.le_trans h (by decide)
theorem smallLt {n : Nat} (h : n ≤ 1000) : n < sizeLine := Nat.lt_of_le_of_lt h (by decide)
theorem strs_one (cs : List Nat) : strsOf (cs.map fun c => D.str (S [c])) = some (cs.map fun c => S [c]) := by
  have : (cs.map fun c => D.str (S [c])) = (cs.map fun c => S [c]).map D.str := by rw [List.map_map]; rfl
  rw [this, strsOf_map]
theorem sum_one : ∀ cs : List Nat, ((cs.map fun c => S [c]).map (·.length)).sum = cs.length
  | [] => rfl
  | c :: cs => by
    simp only [List.map_cons, List.sum_cons, List.length_cons, sum_one cs]
    show 1 + _ = _
    omega

theorem words_tail {m : M} {p : Addr} {l : D} {a : Int} {n s : Nat} {bs : List Nat} {f h : Int} {Q : DK} {e3 e9 e10 e11 : Option D} (hp : m p = some l) (hl : PenD l a) (hn : n ≤ 20) (hs : s ≤ bs.length) (hb : ∀ c ∈ bs, c ∈ Lt) (hbl : bs.length ≤ 6)
    (hh : h = 1 ∨ h = 3 ∨ h = 5 ∨ h = 7 ∨ h = 9 ∨ h = 11) (k : ∀ ws, WordsOk n ws → Q (.lst (ws.map .str)) m) :
    r_l_words_7 [some (.ref p), some (.int n), some (.str (S Lt)), e3, some (.str (S bs)), some (.int s), some (.int f), some (.int h), none, e9, e10, e11] m { nx := fun _ m => dropR Q .non m, rt := dropR Q } := by
  simp only [r_l_words_7, r_l_words_6, tSq, DL.tIfS, tBinT, tBin, tV, tK, DL.tSet, tRt, tRtN, tAs, gSb, tFn, tAC, tA0, tDr, tApp, tExt, tPopA, tLstD, tTupD, tLstM, tCl, tMt, tPr, tNx, tSlD, tON, tOS, tIfD, DL.tAndT, DL.tOrT, DL.tNotT, tTru, tChainT, tNeg, tListM, List.map_cons, List.map_nil, List.length_cons, List.length_nil, List.replicate, List.cons_append, List.nil_append, List.getElem?_cons_zero, List.getElem?_cons_succ, List.set_cons_zero, List.set_cons_succ, Option.some.injEq, exists_eq_left', exists_eq_left, D.bl.injEq, D.int.injEq, D.str.injEq, D.lst.injEq, D.ref.injEq, if_true, if_false, Bool.true_eq_false, Bool.false_eq_true, startD, bodyEnds, Nat.reduceSub, Nat.reduceAdd, true_and, and_true, tFo, iRg]
  refine ⟨by decide, fun q hq => ⟨n, rfl, by omega, by omega, ?_⟩⟩
  have pq : p ≠ q := by rintro rfl; rw [hp] at hq; cases hq
  refine forD_inv (fun i env m' => ∃ e9 e10 e11, env = [some (.ref p), some (.int n), some (.str (S Lt)), e3, some (.str (S bs)), some (.int s), some (.int f), some (.int h), some (.ref q), e9, e10, e11] ∧ m' = updM m q (.lst (((List.range i).map fun k => S (fin_ bs s f h k)).map .str)))
    ⟨e9, e10, e11, rfl, rfl⟩ ?_ ?_
  · rintro i d env m' N hd ⟨e9, e10, e11, rfl, rfl⟩ hN
    unfold rngD at hd
    rw [List.getElem?_map] at hd
    obtain ⟨j, ej, rfl⟩ := Option.map_eq_some_iff.mp hd
    have hi : i < n := by
      rcases Nat.lt_or_ge i (List.range (Int.toNat n)).length with z | z
      · simpa using z
      · rw [List.getElem?_eq_none z] at ej; cases ej
    rw [List.getElem?_range (by simpa using hi)] at ej
    cases ej
    have g1 := Int.emod_nonneg (f + h * i) (show (26 : Int) ≠ 0 by decide)
    have g2 := Int.emod_lt_of_pos (f + h * i) (show (0 : Int) < 26 by decide)
    have hsg : L2.atI Lt ((f + h * i) % 26) = some (sign f h i) := by
      have h3 : ((f + h * i) % 26).toNat < Lt.length := by rw [lt_len]; omega
      refine atI_pos g1 ?_
      unfold sign
      rw [List.getD_eq_getElem?_getD, List.getElem?_eq_getElem h3]; rfl
    have hmul : h.natAbs < 2 ^ 64 ∨ ((0 : Int) + (i : Int)).natAbs < 2 ^ 64 := .inl (by rcases hh with rfl | rfl | rfl | rfl | rfl | rfl <;> decide)
    simp only [tgD, gN, r_l_words_4, tSq, DL.tIfS, tBinT, tBin, tV, tK, DL.tSet, tRt, tRtN, tAs, gSb, tFn, tAC, tA0, tDr, tApp, tExt, tPopA, tLstD, tTupD, tLstM, tCl, tMt, tPr, tNx, tSlD, tON, tOS, tIfD, DL.tAndT, DL.tOrT, DL.tNotT, tTru, tChainT, tNeg, tListM, List.map_cons, List.map_nil, List.length_cons, List.length_nil, List.replicate, List.cons_append, List.nil_append, List.getElem?_cons_zero, List.getElem?_cons_succ, List.set_cons_zero, List.set_cons_succ, Option.some.injEq, exists_eq_left', exists_eq_left, D.bl.injEq, D.int.injEq, D.str.injEq, D.lst.injEq, D.ref.injEq, if_true, if_false, Bool.true_eq_false, Bool.false_eq_true, startD, bodyEnds, Nat.reduceSub, Nat.reduceAdd, true_and, and_true]
    simp only [dMul, dAdd, dMod, d2I, look, d1, dInt, if_pos hmul, if_pos (by decide : (0 : Int) < 26), Option.some.injEq, exists_eq_left']
    rw [Int.zero_add]
    refine ⟨_, dIx_S rfl rfl (small (by rw [lt_len]; decide)) hsg, ?_⟩
    simp only [r_l_words_3, tSq, DL.tIfS, tBinT, tBin, tV, tK, DL.tSet, tRt, tRtN, tAs, gSb, tFn, tAC, tA0, tDr, tApp, tExt, tPopA, tLstD, tTupD, tLstM, tCl, tMt, tPr, tNx, tSlD, tON, tOS, tIfD, DL.tAndT, DL.tOrT, DL.tNotT, tTru, tChainT, tNeg, tListM, List.map_cons, List.map_nil, List.length_cons, List.length_nil, List.replicate, List.cons_append, List.nil_append, List.getElem?_cons_zero, List.getElem?_cons_succ, List.set_cons_zero, List.set_cons_succ, Option.some.injEq, exists_eq_left', exists_eq_left, D.bl.injEq, D.int.injEq, D.str.injEq, D.lst.injEq, D.ref.injEq, if_true, if_false, Bool.true_eq_false, Bool.false_eq_true, startD, bodyEnds, Nat.reduceSub, Nat.reduceAdd, true_and, and_true]
    simp only [look, dSl, S_len, if_pos (small (by omega : bs.length ≤ 1000)), Option.some.injEq, exists_eq_left', dAdd, D.int.injEq, D.str.injEq]
    rw [cutS_to (by omega), cutS_from (by omega)]
    simp only [S_len, S_cat, List.length_append, Int.toNat_natCast, List.length_singleton]
    have e1 : (bs.take s).length + 1 ≤ sizeLine := small (by rw [List.length_take]; omega)
    have e2 : (bs.take s).length + 1 + (bs.drop s).length ≤ sizeLine := small (by rw [List.length_take, List.length_drop]; omega)
    simp only [if_pos e1, if_pos e2, Option.some.injEq, exists_eq_left', S_len, List.length_append, List.length_singleton]
    have ew : S (bs.take s ++ [sign f h i]) ++ S (bs.drop s) = S (wd bs s f h i) := S_cat _ _
    rw [ew]
    have lw : (wd bs s f h i).length = bs.length + 1 := by
      unfold wd
      rw [List.length_append, List.length_append, List.length_take, List.length_drop, List.length_singleton]; omega
    simp only [r_l_words_2, tSq, DL.tIfS, tBinT, tBin, tV, tK, DL.tSet, tRt, tRtN, tAs, gSb, tFn, tAC, tA0, tDr, tApp, tExt, tPopA, tLstD, tTupD, tLstM, tCl, tMt, tPr, tNx, tSlD, tON, tOS, tIfD, DL.tAndT, DL.tOrT, DL.tNotT, tTru, tChainT, tNeg, tListM, List.map_cons, List.map_nil, List.length_cons, List.length_nil, List.replicate, List.cons_append, List.nil_append, List.getElem?_cons_zero, List.getElem?_cons_succ, List.set_cons_zero, List.set_cons_succ, Option.some.injEq, exists_eq_left', exists_eq_left, D.bl.injEq, D.int.injEq, D.str.injEq, D.lst.injEq, D.ref.injEq, if_true, if_false, Bool.true_eq_false, Bool.false_eq_true, startD, bodyEnds, Nat.reduceSub, Nat.reduceAdd, true_and, and_true]
    refine ⟨q, _, rfl, updM_same, ?_⟩
    refine barred_ok ?_
    simp only [dIn, dInB_strs (m := updM m q (.lst (((List.range i).map fun k => S (fin_ bs s f h k)).map .str))) (y := .lst (barred.map .str)) (x := S (wd bs s f h i)) (xs := barred) (.inl rfl), Option.map_some, Option.some.injEq, exists_eq_left', d1, look, dInt]
    generalize hz : (if decide (S (wd bs s f h i) ∈ barred) = true then (1 : Int) else 0) = z
    have hzz : (z = 1 ∧ S (wd bs s f h i) ∈ barred) ∨ (z = 0 ∧ S (wd bs s f h i) ∉ barred) := by
      rw [← hz]
      by_cases g : S (wd bs s f h i) ∈ barred
      · exact .inl ⟨by simp [g], g⟩
      · exact .inr ⟨by simp [g], g⟩
    have tl : ∃ t : List Nat, Txt.mul (Str.ofString "x") z = S t ∧ t = (if S (wd bs s f h i) ∈ barred then [120] else []) ∧ t.length ≤ 1 := by
      rcases hzz with ⟨rfl, g⟩ | ⟨rfl, g⟩
      · exact ⟨[120], s_x1, by rw [if_pos g], by decide⟩
      · exact ⟨[], s_x0, by rw [if_neg g], by decide⟩
    obtain ⟨t, et, etl, etn⟩ := tl
    have hb2 : 0 ≤ z ∧ z ≤ 1000 ∧ (Str.ofString "x").length ≤ 1000 := ⟨by rcases hzz with ⟨rfl, _⟩ | ⟨rfl, _⟩ <;> decide, by rcases hzz with ⟨rfl, _⟩ | ⟨rfl, _⟩ <;> decide, by decide +kernel⟩
    simp only [dMul, look, if_pos hb2, Option.some.injEq, exists_eq_left', et, dAdd, S_len, if_pos (small (by omega : (wd bs s f h i).length + t.length ≤ 1000)), S_cat]
    have mm : (((List.range i).map fun k => S (fin_ bs s f h k)).map D.str) ++ [.str (S (fin_ bs s f h i))] = (((List.range (i + 1)).map fun k => S (fin_ bs s f h k)).map .str) := by
      rw [List.range_succ, List.map_append, List.map_append]; rfl
    refine ⟨_, updM_same, by rw [List.length_map, List.length_map, List.length_range]; exact smallLt (by omega), ?_⟩
    refine hN _ _ ⟨_, _, _, rfl, ?_⟩
    rw [updM_over, ← mm]
    unfold fin_; rw [← etl]
  · rintro env m' ⟨e9, e10, e11, rfl, rfl⟩
    have hz : (rngD 0 (Int.toNat n)).length = n := by simp [rngD]
    rw [hz]
    simp only [r_l_words_5, tSq, DL.tIfS, tBinT, tBin, tV, tK, DL.tSet, tRt, tRtN, tAs, gSb, tFn, tAC, tA0, tDr, tApp, tExt, tPopA, tLstD, tTupD, tLstM, tCl, tMt, tPr, tNx, tSlD, tON, tOS, tIfD, DL.tAndT, DL.tOrT, DL.tNotT, tTru, tChainT, tNeg, tListM, List.map_cons, List.map_nil, List.length_cons, List.length_nil, List.replicate, List.cons_append, List.nil_append, List.getElem?_cons_zero, List.getElem?_cons_succ, List.set_cons_zero, List.set_cons_succ, Option.some.injEq, exists_eq_left', exists_eq_left, D.bl.injEq, D.int.injEq, D.str.injEq, D.lst.injEq, D.ref.injEq, if_true, if_false, Bool.true_eq_false, Bool.false_eq_true, startD, bodyEnds, Nat.reduceSub, Nat.reduceAdd, true_and, and_true, tFrz]
    refine ⟨_, updM_same, ?_⟩
    rw [delM_upd hq]
    exact dropR.self (k _ (words_pure hn hs hb hbl hh))
theorem words_mid {m : M} {p : Addr} {l : D} {a : Int} {n : Nat} {bs : List Nat} {Q : DK} {e3 e9 e10 e11 : Option D} (hp : m p = some l) (hl : PenD l a) (ha : a + 4 < 1048576) (hn : n ≤ 20) (hb : ∀ c ∈ bs, c ∈ Lt) (hbl : bs.length ≤ 6)
    (k : ∀ ws l', WordsOk n ws → PenD l' (a + 4) → Q (.lst (ws.map .str)) (updM m p l')) :
    r_l_words_11 [some (.ref p), some (.int n), some (.str (S Lt)), e3, some (.str (S bs)), none, none, none, none, e9, e10, e11] m { nx := fun _ m => dropR Q .non m, rt := dropR Q } := by
  simp only [r_l_words_11, tSq, DL.tIfS, tBinT, tBin, tV, tK, DL.tSet, tRt, tRtN, tAs, gSb, tFn, tAC, tA0, tDr, tApp, tExt, tPopA, tLstD, tTupD, tLstM, tCl, tMt, tPr, tNx, tSlD, tON, tOS, tIfD, DL.tAndT, DL.tOrT, DL.tNotT, tTru, tChainT, tNeg, tListM, List.map_cons, List.map_nil, List.length_cons, List.length_nil, List.replicate, List.cons_append, List.nil_append, List.getElem?_cons_zero, List.getElem?_cons_succ, List.set_cons_zero, List.set_cons_succ, Option.some.injEq, exists_eq_left', exists_eq_left, D.bl.injEq, D.int.injEq, D.str.injEq, D.lst.injEq, D.ref.injEq, if_true, if_false, Bool.true_eq_false, Bool.false_eq_true, startD, bodyEnds, Nat.reduceSub, Nat.reduceAdd, true_and, and_true]
  refine ⟨by decide, ?_⟩
  refine pick_lst (ds := [.str (S bs), .str (S bs), .str (S bs), .str ("quie" : Str), .str ("o" : Str), .str ("erro" : Str), .str ("retur" : Str)]) hp hl (by omega) rfl (fun _ => rfl) (by simp) (by simp) fun d l1 hd h1 => ?_
  have hd2 : ∃ cs : List Nat, d = .str (S cs) ∧ (∀ c ∈ cs, c ∈ Lt) ∧ cs.length ≤ 6 := by
    simp only [List.mem_cons, List.not_mem_nil, or_false] at hd
    rcases hd with rfl | rfl | rfl | rfl | rfl | rfl | rfl
    · exact ⟨bs, rfl, hb, hbl⟩
    · exact ⟨bs, rfl, hb, hbl⟩
    · exact ⟨bs, rfl, hb, hbl⟩
    · exact ⟨_, congrArg D.str s_quie, by decide, by decide⟩
    · exact ⟨_, congrArg D.str s_o, by decide, by decide⟩
    · exact ⟨_, congrArg D.str s_erro, by decide, by decide⟩
    · exact ⟨_, congrArg D.str s_retur, by decide, by decide⟩
  obtain ⟨cs, rfl, hc, hcl⟩ := hd2
  simp only [r_l_words_10, tSq, DL.tIfS, tBinT, tBin, tV, tK, DL.tSet, tRt, tRtN, tAs, gSb, tFn, tAC, tA0, tDr, tApp, tExt, tPopA, tLstD, tTupD, tLstM, tCl, tMt, tPr, tNx, tSlD, tON, tOS, tIfD, DL.tAndT, DL.tOrT, DL.tNotT, tTru, tChainT, tNeg, tListM, List.map_cons, List.map_nil, List.length_cons, List.length_nil, List.replicate, List.cons_append, List.nil_append, List.getElem?_cons_zero, List.getElem?_cons_succ, List.set_cons_zero, List.set_cons_succ, Option.some.injEq, exists_eq_left', exists_eq_left, D.bl.injEq, D.int.injEq, D.str.injEq, D.lst.injEq, D.ref.injEq, if_true, if_false, Bool.true_eq_false, Bool.false_eq_true, startD, bodyEnds, Nat.reduceSub, Nat.reduceAdd, true_and, and_true]
  simp only [d1, look, dLen, S_len, if_pos (small (by omega : cs.length ≤ 1000)), Option.some.injEq, exists_eq_left', dAdd]
  refine draw_ok updM_same h1 (by omega) (by omega) (by omega) fun s l2 s1 s2 h2 => ?_
  rw [updM_over]
  obtain ⟨sn, rfl⟩ := Int.eq_ofNat_of_zero_le s1
  simp only [r_l_words_9, tSq, DL.tIfS, tBinT, tBin, tV, tK, DL.tSet, tRt, tRtN, tAs, gSb, tFn, tAC, tA0, tDr, tApp, tExt, tPopA, tLstD, tTupD, tLstM, tCl, tMt, tPr, tNx, tSlD, tON, tOS, tIfD, DL.tAndT, DL.tOrT, DL.tNotT, tTru, tChainT, tNeg, tListM, List.map_cons, List.map_nil, List.length_cons, List.length_nil, List.replicate, List.cons_append, List.nil_append, List.getElem?_cons_zero, List.getElem?_cons_succ, List.set_cons_zero, List.set_cons_succ, Option.some.injEq, exists_eq_left', exists_eq_left, D.bl.injEq, D.int.injEq, D.str.injEq, D.lst.injEq, D.ref.injEq, if_true, if_false, Bool.true_eq_false, Bool.false_eq_true, startD, bodyEnds, Nat.reduceSub, Nat.reduceAdd, true_and, and_true]
  refine draw_ok updM_same h2 (by omega) (by omega) (by omega) fun f l3 f1 f2 h3 => ?_
  rw [updM_over]
  simp only [r_l_words_8, tSq, DL.tIfS, tBinT, tBin, tV, tK, DL.tSet, tRt, tRtN, tAs, gSb, tFn, tAC, tA0, tDr, tApp, tExt, tPopA, tLstD, tTupD, tLstM, tCl, tMt, tPr, tNx, tSlD, tON, tOS, tIfD, DL.tAndT, DL.tOrT, DL.tNotT, tTru, tChainT, tNeg, tListM, List.map_cons, List.map_nil, List.length_cons, List.length_nil, List.replicate, List.cons_append, List.nil_append, List.getElem?_cons_zero, List.getElem?_cons_succ, List.set_cons_zero, List.set_cons_succ, Option.some.injEq, exists_eq_left', exists_eq_left, D.bl.injEq, D.int.injEq, D.str.injEq, D.lst.injEq, D.ref.injEq, if_true, if_false, Bool.true_eq_false, Bool.false_eq_true, startD, bodyEnds, Nat.reduceSub, Nat.reduceAdd, true_and, and_true]
  refine draw_ok updM_same h3 (by omega) (by omega) (by omega) fun v l4 v1 v2 h4 => ?_
  rw [updM_over]
  refine ⟨.int (2 * v), by simp only [dMul, look]; exact if_pos (.inl (by decide)), .int (2 * v + 1), rfl, ?_⟩
  have hh : 2 * v + 1 = 1 ∨ 2 * v + 1 = 3 ∨ 2 * v + 1 = 5 ∨ 2 * v + 1 = 7 ∨ 2 * v + 1 = 9 ∨ 2 * v + 1 = 11 := by omega
  exact words_tail (l := l4) updM_same h4 hn (by omega) hc hcl hh fun ws hw => k ws l4 hw (h4.mono (by omega))
theorem words_ok {m : M} {p : Addr} {l : D} {a : Int} {n : Nat} {Q : DK} (hp : m p = some l) (hl : PenD l a) (ha : a + 20 < 1048576) (hn : n ≤ 20)
    (k : ∀ ws l', WordsOk n ws → PenD l' (a + 20) → Q (.lst (ws.map .str)) (updM m p l')) : sp_l_words [.ref p, .int n] m Q := by
  refine ⟨rfl, ?_⟩
  show r_l_words_14 _ _ _
  simp only [r_l_words_14, r_l_words_13, tSq, DL.tIfS, tBinT, tBin, tV, tK, DL.tSet, tRt, tRtN, tAs, gSb, tFn, tAC, tA0, tDr, tApp, tExt, tPopA, tLstD, tTupD, tLstM, tCl, tMt, tPr, tNx, tSlD, tON, tOS, tIfD, DL.tAndT, DL.tOrT, DL.tNotT, tTru, tChainT, tNeg, tListM, List.map_cons, List.map_nil, List.length_cons, List.length_nil, List.replicate, List.cons_append, List.nil_append, List.getElem?_cons_zero, List.getElem?_cons_succ, List.set_cons_zero, List.set_cons_succ, Option.some.injEq, exists_eq_left', exists_eq_left, D.bl.injEq, D.int.injEq, D.str.injEq, D.lst.injEq, D.ref.injEq, if_true, if_false, Bool.true_eq_false, Bool.false_eq_true, startD, bodyEnds, Nat.reduceSub, Nat.reduceAdd, true_and, and_true]
  refine ⟨by decide, ?_⟩
  refine pick_lst (ds := [.int 0, .int 0, .int 1, .int 2, .int 4, .int 6]) hp hl (by omega) rfl (fun _ => rfl) (by simp) (by simp) fun d l1 hd h1 => ?_
  have hd2 : ∃ vn : Nat, d = .int vn ∧ vn ≤ 6 := by
    simp only [List.mem_cons, List.not_mem_nil, or_false] at hd
    rcases hd with rfl | rfl | rfl | rfl | rfl | rfl
    · exact ⟨0, rfl, by decide⟩
    · exact ⟨0, rfl, by decide⟩
    · exact ⟨1, rfl, by decide⟩
    · exact ⟨2, rfl, by decide⟩
    · exact ⟨4, rfl, by decide⟩
    · exact ⟨6, rfl, by decide⟩
  obtain ⟨vn, rfl, v2⟩ := hd2
  simp only [r_l_words_12, tSq, DL.tIfS, tBinT, tBin, tV, tK, DL.tSet, tRt, tRtN, tAs, gSb, tFn, tAC, tA0, tDr, tApp, tExt, tPopA, tLstD, tTupD, tLstM, tCl, tMt, tPr, tNx, tSlD, tON, tOS, tIfD, DL.tAndT, DL.tOrT, DL.tNotT, tTru, tChainT, tNeg, tListM, List.map_cons, List.map_nil, List.length_cons, List.length_nil, List.replicate, List.cons_append, List.nil_append, List.getElem?_cons_zero, List.getElem?_cons_succ, List.set_cons_zero, List.set_cons_succ, Option.some.injEq, exists_eq_left', exists_eq_left, D.bl.injEq, D.int.injEq, D.str.injEq, D.lst.injEq, D.ref.injEq, if_true, if_false, Bool.true_eq_false, Bool.false_eq_true, startD, bodyEnds, Nat.reduceSub, Nat.reduceAdd, true_and, and_true, tJoin, tFrz, tLcM, iRg]
  refine ⟨vn, rfl, by omega, by omega, fun r hr => ?_⟩
  have pr : p ≠ r := by rintro rfl; rw [updM_same] at hr; cases hr
  have hr0 : m r = none := by rw [updM_ne pr.symm] at hr; exact hr
  refine lcD_inv (fun i acc m' => ∃ l' cs, m' = updM (updM m p l') r (.lst acc) ∧ acc = cs.map (fun c => D.str (S [c])) ∧ (∀ c ∈ cs, c ∈ Lt) ∧ cs.length = i ∧ PenD l' (a + 1 + i)) ⟨l1, [], rfl, rfl, by simp, rfl, h1.mono (by omega)⟩ ?_ ?_
  · rintro i acc d m' N hd ⟨l', cs, rfl, rfl, hc, hcl, hl'⟩ hN
    have hi : i < vn := by
      have := List.getElem?_eq_some_iff.mp hd
      obtain ⟨z, _⟩ := this
      simpa [rngD] using z
    simp only [tgD, gN, wipeD, tYe, r_l_words_1, tSq, DL.tIfS, tBinT, tBin, tV, tK, DL.tSet, tRt, tRtN, tAs, gSb, tFn, tAC, tA0, tDr, tApp, tExt, tPopA, tLstD, tTupD, tLstM, tCl, tMt, tPr, tNx, tSlD, tON, tOS, tIfD, DL.tAndT, DL.tOrT, DL.tNotT, tTru, tChainT, tNeg, tListM, List.map_cons, List.map_nil, List.length_cons, List.length_nil, List.replicate, List.cons_append, List.nil_append, List.getElem?_cons_zero, List.getElem?_cons_succ, List.set_cons_zero, List.set_cons_succ, Option.some.injEq, exists_eq_left', exists_eq_left, D.bl.injEq, D.int.injEq, D.str.injEq, D.lst.injEq, D.ref.injEq, if_true, if_false, Bool.true_eq_false, Bool.false_eq_true, startD, bodyEnds, Nat.reduceSub, Nat.reduceAdd, true_and, and_true]
    rw [lt_eq]
    refine draw_ok (l := l') (by rw [updM_ne pr, updM_same]) hl' (by omega) (by decide) (by decide) fun v l2 v1 v2 h2 => ?_
    obtain ⟨c, e, hcm⟩ := mem_getElem? (xs := Lt) v1 (by rw [lt_len]; exact v2)
    rw [updM_comm pr.symm, updM_over]
    refine ⟨_, dIx_S rfl rfl (small (by rw [lt_len]; decide)) (atI_pos v1 e), ?_⟩
    refine ⟨_, updM_same, by rw [List.length_map]; exact smallLt (by omega), hN _ _ ⟨l2, cs ++ [c], by rw [updM_over], by rw [List.map_append]; rfl, ?_, by simp [hcl], h2.mono (by omega)⟩⟩
    intro x hx
    rcases List.mem_append.mp hx with hx | hx
    · exact hc x hx
    · rw [List.mem_singleton] at hx; subst hx; exact hcm
  · rintro acc m' ⟨l', cs, rfl, rfl, hc, hcl, hl'⟩
    have hz : (rngD 0 (Int.toNat vn)).length = vn := by simp [rngD]
    rw [hz] at hcl hl'
    refine ⟨_, updM_same, _, _, rfl, strs_one cs, ?_, ?_⟩
    · rw [sum_one, s_nil]
      show _ + _ * 0 ≤ _
      omega
    · have hr2 : updM m p l' r = none := by rw [updM_ne pr.symm]; exact hr0
      rw [delM_upd hr2, s_nil, DL.join_one, lt_eq]
      refine words_mid (l := l') updM_same hl' (by omega) hn hc (by omega) fun ws l2 hw h2 => ?_
      rw [updM_over]
      exact k ws l2 hw (h2.mono (by omega))
end K66
namespace K66
open PySem PySem.Spec PyProof.Rows DL
open SX (S S_len S_cat S_inj S_tl)
theorem some_ok {m : M} {p q : Addr} {l : D} {a : Int} {known : List Str} {Q : DK} (hp : m p = some l) (hq : m q = some (.lst (known.map .str))) (pq : p ≠ q) (h : PenD l a) (ha : a + 3 < 1048576) (hk : known ≠ []) (hk2 : known.length < 1000)
    (k : ∀ bs l', bs ≠ [] → bs.Nodup → (∀ b ∈ bs, b ∈ known) → bs.length ≤ 2 → PenD l' (a + 3) → Q (.tup (bs.map .str)) (updM m p l')) : sp_l_some [.ref p, .ref q] m Q := by
  refine ⟨rfl, ?_⟩
  show r_l_some_2 _ _ _
  have lk : ∀ b, look (updM m p b) (.ref q) = .lst (known.map .str) := fun b => by simp only [look, updM_ne pq.symm, hq, Option.getD_some]
  have lk0 : look m (.ref q) = .lst (known.map .str) := by simp only [look, hq, Option.getD_some]
  simp only [r_l_some_2, tSq, DL.tIfS, tBinT, tBin, tV, tK, DL.tSet, tRt, tRtN, tAs, gSb, tFn, tAC, tA0, tDr, tApp, tExt, tPopA, tLstD, tTupD, tLstM, tCl, tMt, tPr, tNx, tSlD, tON, tOS, tIfD, DL.tAndT, DL.tOrT, DL.tNotT, tTru, tChainT, tNeg, tListM, List.map_cons, List.map_nil, List.length_cons, List.length_nil, List.replicate, List.cons_append, List.nil_append, List.getElem?_cons_zero, List.getElem?_cons_succ, List.set_cons_zero, List.set_cons_succ, Option.some.injEq, exists_eq_left', exists_eq_left, D.bl.injEq, D.int.injEq, D.str.injEq, D.lst.injEq, D.ref.injEq, if_true, if_false, Bool.true_eq_false, Bool.false_eq_true, startD, bodyEnds, Nat.reduceSub, Nat.reduceAdd, true_and, and_true]
  refine pick_lst (ds := known.map .str) hp h (by omega) lk0 lk (fun e => hk (List.map_eq_nil_iff.mp e)) (by rw [List.length_map]; omega) fun d l1 hd h1 => ?_
  obtain ⟨x, hx, rfl⟩ := List.mem_map.mp hd
  refine pick_lst (ds := known.map .str) updM_same h1 (by omega) (lk _) (fun b => by rw [updM_over]; exact lk b) (fun e => hk (List.map_eq_nil_iff.mp e)) (by rw [List.length_map]; omega) fun d l2 hd h2 => ?_
  obtain ⟨y, hy, rfl⟩ := List.mem_map.mp hd
  rw [updM_over]
  refine ⟨.str x, .str y, rfl, ?_⟩
  simp only [r_l_some_1, tSq, DL.tIfS, tBinT, tBin, tV, tK, DL.tSet, tRt, tRtN, tAs, gSb, tFn, tAC, tA0, tDr, tApp, tExt, tPopA, tLstD, tTupD, tLstM, tCl, tMt, tPr, tNx, tSlD, tON, tOS, tIfD, DL.tAndT, DL.tOrT, DL.tNotT, tTru, tChainT, tNeg, tListM, List.map_cons, List.map_nil, List.length_cons, List.length_nil, List.replicate, List.cons_append, List.nil_append, List.getElem?_cons_zero, List.getElem?_cons_succ, List.set_cons_zero, List.set_cons_succ, Option.some.injEq, exists_eq_left', exists_eq_left, D.bl.injEq, D.int.injEq, D.str.injEq, D.lst.injEq, D.ref.injEq, if_true, if_false, Bool.true_eq_false, Bool.false_eq_true, startD, bodyEnds, Nat.reduceSub, Nat.reduceAdd, true_and, and_true]
  simp only [dEq, look, dEqB, Option.map_some, Option.some.injEq, exists_eq_left', D.bl.injEq, decide_eq_true_eq]
  by_cases e : x = y
  · subst e
    rw [if_pos rfl]
    exact ⟨by decide, dropR.self (k [x] l2 (by simp) (by simp) (by simp [hx]) (by simp) (h2.mono (by omega)))⟩
  · rw [if_neg e]
    refine draw_ok updM_same h2 (by omega) (by omega) (by omega) fun v l3 v1 v2 h3 => ?_
    rw [updM_over]
    by_cases g : v = 0
    · subst g
      refine ⟨true, rfl, ?_⟩
      rw [if_pos rfl]
      exact ⟨by decide, dropR.self (k [x] l3 (by simp) (by simp) (by simp [hx]) (by simp) (h3.mono (by omega)))⟩
    · simp only [g, decide_false]
      refine ⟨false, rfl, ?_⟩
      rw [if_neg (by decide)]
      exact ⟨by decide, dropR.self (k [x, y] l3 (by simp) (by simp [e]) (by simp [hx, hy]) (by simp) (h3.mono (by omega)))⟩
theorem classes_ok {m : M} {p : Addr} {l : D} {a : Int} {Q : DK} (hp : m p = some l) (h : PenD l a) (ha : a + 100 < 1048576)
    (k : ∀ rows l', rows.length ≤ 6 → RowsOk rows → (knownOf rows).Nodup → (∀ r ∈ rows, r.2.length ≤ 2) → PenD l' (a + 100) → Q (.tup [.lst (rows.map rowD), .lst ((knownOf rows).map .str)]) (updM m p l')) : sp_l_classes [.ref p, .int 6] m Q := by
  refine ⟨rfl, ?_⟩
  show r_l_classes_6 _ _ _
  simp only [r_l_classes_6, r_l_classes_5, r_l_classes_4, tSq, DL.tIfS, tBinT, tBin, tV, tK, DL.tSet, tRt, tRtN, tAs, gSb, tFn, tAC, tA0, tDr, tApp, tExt, tPopA, tLstD, tTupD, tLstM, tCl, tMt, tPr, tNx, tSlD, tON, tOS, tIfD, DL.tAndT, DL.tOrT, DL.tNotT, tTru, tChainT, tNeg, tListM, List.map_cons, List.map_nil, List.length_cons, List.length_nil, List.replicate, List.cons_append, List.nil_append, List.getElem?_cons_zero, List.getElem?_cons_succ, List.set_cons_zero, List.set_cons_succ, Option.some.injEq, exists_eq_left', exists_eq_left, D.bl.injEq, D.int.injEq, D.str.injEq, D.lst.injEq, D.ref.injEq, if_true, if_false, Bool.true_eq_false, Bool.false_eq_true, startD, bodyEnds, Nat.reduceSub, Nat.reduceAdd, true_and, and_true]
  refine ⟨by decide, fun q hq => ⟨by decide, fun r hr => ?_⟩⟩
  have pq : p ≠ q := by rintro rfl; rw [hp] at hq; cases hq
  have qr : q ≠ r := by rintro rfl; rw [updM_same] at hr; cases hr
  have hr0 : m r = none := by rw [updM_ne qr.symm] at hr; exact hr
  have pr : p ≠ r := by rintro rfl; rw [hp] at hr0; cases hr0
  have m_p : ∀ z b c, updM (updM (updM m p z) q b) r c p = some z := fun z b c => by rw [updM_ne pr, updM_ne pq, updM_same]
  have m_q : ∀ z b c, updM (updM (updM m p z) q b) r c q = some b := fun z b c => by rw [updM_ne qr, updM_same]
  have sw : ∀ z b c z', updM (updM (updM (updM m p z) q b) r c) p z' = updM (updM (updM m p z') q b) r c := fun z b c z' => by
    rw [updM_comm pr.symm, updM_comm pq.symm, updM_over]
  have m0 : updM (updM m q (.lst [])) r (.lst [.str "error", .str "vacant"]) = updM (updM (updM m p l) q (.lst [])) r (.lst [.str "error", .str "vacant"]) := by rw [updM_self hp]
  rw [m0]
  simp only [tFo, iSeq, dSeq, tSq, DL.tIfS, tBinT, tBin, tV, tK, DL.tSet, tRt, tRtN, tAs, gSb, tFn, tAC, tA0, tDr, tApp, tExt, tPopA, tLstD, tTupD, tLstM, tCl, tMt, tPr, tNx, tSlD, tON, tOS, tIfD, DL.tAndT, DL.tOrT, DL.tNotT, tTru, tChainT, tNeg, tListM, List.map_cons, List.map_nil, List.length_cons, List.length_nil, List.replicate, List.cons_append, List.nil_append, List.getElem?_cons_zero, List.getElem?_cons_succ, List.set_cons_zero, List.set_cons_succ, Option.some.injEq, exists_eq_left', exists_eq_left, D.bl.injEq, D.int.injEq, D.str.injEq, D.lst.injEq, D.ref.injEq, if_true, if_false, Bool.true_eq_false, Bool.false_eq_true, startD, bodyEnds, Nat.reduceSub, Nat.reduceAdd, true_and, and_true]
  refine ⟨.int 7, rfl, ?_⟩
  refine draw_ok (m_p _ _ _) h (by omega) (by omega) (by omega) fun v l1 v1 v2 h1 => ?_
  rw [sw]
  obtain ⟨n, rfl⟩ := Int.eq_ofNat_of_zero_le v1
  refine words_ok (m_p _ _ _) h1 (by omega) (by omega) fun ws l2 hw h2 => ?_
  rw [sw]
  have hnd := hw.nd
  have hlen := hw.len
  refine ⟨ws.map .str, rfl, ?_⟩
  refine forD_inv (fun i env m' => ∃ l' rows e4, env = [some (.ref p), some (.int 6), some (.ref q), some (.ref r), e4] ∧ m' = updM (updM (updM m p l') q (.lst (rows.map rowD))) r (.lst ((knownOf rows).map .str)) ∧ PenD l' (a + 21 + 3 * i) ∧ rows.map (·.1) = ws.take i ∧ RowsOk rows ∧ (∀ x ∈ rows, x.2.length ≤ 2))
    ⟨l2, [], none, rfl, rfl, h2.mono (by omega), by simp, RowsOk.nil, by simp⟩ ?_ ?_
  · rintro i d env m' N hd ⟨l', rows, e4, rfl, rfl, hl', hrw, hok, h22⟩ hN
    rw [List.getElem?_map] at hd
    obtain ⟨w, hwi, rfl⟩ := Option.map_eq_some_iff.mp hd
    have hi : i < ws.length := by
      rcases Nat.lt_or_ge i ws.length with z | z
      · exact z
      · rw [List.getElem?_eq_none z] at hwi; cases hwi
    have hlr : rows.length = i := by
      have := congrArg List.length hrw
      rw [List.length_map, List.length_take] at this
      omega
    have klen := knownOf_len rows
    have hkw : ws.take (i + 1) = ws.take i ++ [w] := by
      rw [List.take_add_one, hwi] <;> rfl
    have kE : knownOf rows = knownOf ((ws.take i).map fun w => (w, [])) := by
      unfold knownOf
      rw [hrw, List.map_map]
      congr 1
      exact (List.map_id _).symm
    have ndk : (knownOf rows ++ [w]).Nodup := by
      have e2 : knownOf rows ++ [w] = knownOf ((ws.take (i + 1)).map fun w => (w, [])) := by
        rw [kE, hkw, List.map_append]
        exact (knownOf_snoc _ (w, [])).symm
      rw [e2]
      refine hnd.sublist ?_
      unfold knownOf
      exact List.Sublist.append (.refl _) (((List.take_sublist _ _).map _).map _)
    simp only [tgD, gN, r_l_classes_2, tSq, DL.tIfS, tBinT, tBin, tV, tK, DL.tSet, tRt, tRtN, tAs, gSb, tFn, tAC, tA0, tDr, tApp, tExt, tPopA, tLstD, tTupD, tLstM, tCl, tMt, tPr, tNx, tSlD, tON, tOS, tIfD, DL.tAndT, DL.tOrT, DL.tNotT, tTru, tChainT, tNeg, tListM, List.map_cons, List.map_nil, List.length_cons, List.length_nil, List.replicate, List.cons_append, List.nil_append, List.getElem?_cons_zero, List.getElem?_cons_succ, List.set_cons_zero, List.set_cons_succ, Option.some.injEq, exists_eq_left', exists_eq_left, D.bl.injEq, D.int.injEq, D.str.injEq, D.lst.injEq, D.ref.injEq, if_true, if_false, Bool.true_eq_false, Bool.false_eq_true, startD, bodyEnds, Nat.reduceSub, Nat.reduceAdd, true_and, and_true]
    refine ⟨q, _, rfl, m_q _ _ _, ?_⟩
    have hlk : updM (updM (updM m p l') q (.lst (rows.map rowD))) r (.lst ((knownOf rows).map .str)) r = some (.lst ((knownOf rows).map .str)) := updM_same
    refine ⟨by decide, ?_⟩
    refine some_ok (m_p _ _ _) hlk pr hl' (by omega) (by unfold knownOf; simp) (by omega) fun bs l3 b1 b2 b3 b4 h3 => ?_
    rw [sw]
    refine ⟨_, by simp only [dAdd, look, List.length_map, List.length_cons, List.length_nil]; exact if_pos (small (by omega)), ?_⟩
    refine ⟨rows.map rowD, m_q _ _ _, by rw [List.length_map]; exact smallLt (by omega), ?_⟩
    rw [updM_comm qr.symm, updM_over]
    simp only [r_l_classes_1, tSq, DL.tIfS, tBinT, tBin, tV, tK, DL.tSet, tRt, tRtN, tAs, gSb, tFn, tAC, tA0, tDr, tApp, tExt, tPopA, tLstD, tTupD, tLstM, tCl, tMt, tPr, tNx, tSlD, tON, tOS, tIfD, DL.tAndT, DL.tOrT, DL.tNotT, tTru, tChainT, tNeg, tListM, List.map_cons, List.map_nil, List.length_cons, List.length_nil, List.replicate, List.cons_append, List.nil_append, List.getElem?_cons_zero, List.getElem?_cons_succ, List.set_cons_zero, List.set_cons_succ, Option.some.injEq, exists_eq_left', exists_eq_left, D.bl.injEq, D.int.injEq, D.str.injEq, D.lst.injEq, D.ref.injEq, if_true, if_false, Bool.true_eq_false, Bool.false_eq_true, startD, bodyEnds, Nat.reduceSub, Nat.reduceAdd, true_and, and_true]
    refine ⟨r, _, rfl, updM_same, _, updM_same, by rw [List.length_map]; exact smallLt (by omega), ?_⟩
    rw [updM_over]
    refine hN _ _ ⟨l3, rows ++ [(w, bs)], _, rfl, ?_, h3.mono (by omega), by rw [List.map_append, hrw, hkw]; rfl, hok.snoc ⟨?_, hw.wd w (List.mem_of_getElem? hwi), b1, b2, b3⟩, ?_⟩
    · rw [knownOf_snoc, List.map_append, List.map_append]; rfl
    · intro hm
      exact (List.nodup_append.mp ndk).2.2 w hm w (List.mem_singleton.mpr rfl) rfl
    · intro x hx
      rcases List.mem_append.mp hx with hx | hx
      · exact h22 x hx
      · rw [List.mem_singleton] at hx; subst hx; exact b4
  · rintro env m' ⟨l', rows, e4, rfl, rfl, hl', hrw, hok, h22⟩
    rw [List.length_map] at hl' hrw
    rw [List.take_length] at hrw
    have hlr : rows.length = ws.length := by rw [← hrw, List.length_map]
    have hndR : (knownOf rows).Nodup := by
      have e : knownOf rows = knownOf (ws.map fun w => (w, [])) := by
        unfold knownOf
        rw [hrw, List.map_map]
        congr 1
        exact (List.map_id _).symm
      rw [e]; exact hnd
    simp only [r_l_classes_3, tSq, DL.tIfS, tBinT, tBin, tV, tK, DL.tSet, tRt, tRtN, tAs, gSb, tFn, tAC, tA0, tDr, tApp, tExt, tPopA, tLstD, tTupD, tLstM, tCl, tMt, tPr, tNx, tSlD, tON, tOS, tIfD, DL.tAndT, DL.tOrT, DL.tNotT, tTru, tChainT, tNeg, tListM, List.map_cons, List.map_nil, List.length_cons, List.length_nil, List.replicate, List.cons_append, List.nil_append, List.getElem?_cons_zero, List.getElem?_cons_succ, List.set_cons_zero, List.set_cons_succ, Option.some.injEq, exists_eq_left', exists_eq_left, D.bl.injEq, D.int.injEq, D.str.injEq, D.lst.injEq, D.ref.injEq, if_true, if_false, Bool.true_eq_false, Bool.false_eq_true, startD, bodyEnds, Nat.reduceSub, Nat.reduceAdd, true_and, and_true, tFrz]
    refine ⟨_, m_q _ _ _, ?_⟩
    have hdr : delM (updM (updM (updM m p l') q (.lst (rows.map rowD))) r (.lst ((knownOf rows).map .str))) q r = some (.lst ((knownOf rows).map .str)) := by
      rw [delM_ne qr.symm]; exact updM_same
    refine ⟨_, hdr, by decide, updM m p l', fun b => ?_, k rows l' (by omega) hok hndR h22 (hl'.mono (by omega))⟩
    unfold delM updM
    by_cases b1 : b = r
    · right; subst b1; simp [pr.symm, hr0]
    · by_cases b2 : b = q
      · right; subst b2; simp [pq.symm, hq]
      · left; simp [b1, b2]
end K66
namespace K66
open PySem PySem.Spec PyProof.Rows DL
open SX (S S_len S_cat S_inj S_tl)
theorem ev_ne : ¬ ("error" : Str) = ("vacant" : Str) := by decide +kernel
theorem two_nd : [(Sum.inr ("error" : Str) : L2.Key), .inr ("vacant" : Str)].Nodup := by
  rw [List.nodup_cons]
  refine ⟨fun h => ?_, by simp⟩
  exact ev_ne (Sum.inr.inj (List.mem_singleton.mp h))
theorem nd_len : ∀ (l k : List Str), l.Nodup → (∀ x ∈ l, x ∈ k) → l.length ≤ k.length
  | [], k, _, _ => Nat.zero_le _
  | a :: l, k, h, s => by
    rw [List.nodup_cons] at h
    have ha := s a List.mem_cons_self
    have := nd_len l (k.erase a) h.2 fun x hx => (List.mem_erase_of_ne (fun e => h.1 (by rw [← e]; exact hx))).mpr (s x (List.mem_cons_of_mem _ hx))
    rw [List.length_erase_of_mem ha] at this
    have := List.length_pos_of_mem ha
    rw [List.length_cons]; omega
abbrev Al := List (Str × List Str)
def ulk : Al → Str → Option (List Str)
  | [], _ => none
  | e :: r, x => if e.1 = x then some e.2 else ulk r x
def lD (us : List Str) : D := .lst (us.map .str)
def alD (al : Al) : List (Str × D) := al.map fun e => (e.1, lD e.2)
def keysA (al : Al) : List Str := al.map (·.1)
theorem alD_keys (al : Al) : (alD al).map (·.1) = keysA al := by unfold alD keysA; rw [List.map_map]; rfl
theorem alook_alD : ∀ (al : Al) (x : Str), alook (alD al) x = (ulk al x).map lD
  | [], x => rfl
  | e :: r, x => by
    show (if e.1 = x then some (lD e.2) else alook (alD r) x) = (if e.1 = x then some e.2 else ulk r x).map lD
    rw [alook_alD r x]
    split <;> rfl
theorem ulk_some : ∀ {al : Al} {x : Str}, x ∈ keysA al → ∃ (i : Nat) (us : List Str), ulk al x = some us ∧ al[i]? = some (x, us)
  | e :: r, x, h => by
    by_cases hx : e.1 = x
    · exact ⟨0, e.2, if_pos hx, by rw [← hx]; rfl⟩
    · have h : x ∈ e.1 :: keysA r := h
      rw [List.mem_cons] at h
      obtain ⟨i, us, h1, h2⟩ := ulk_some (h.resolve_left fun z => hx z.symm)
      exact ⟨i + 1, us, (if_neg hx).trans h1, by simpa using h2⟩
structure Entry (before : List Str) (x : Str) (us : List Str) : Prop where
  nd : us.Nodup
  me : x ∈ us
  er : ("error" : Str) ∈ us
  sub : ∀ y ∈ us, y = x ∨ y ∈ before
def UpOk (al : Al) : Prop := ∀ (i : Nat) (x : Str) (us : List Str), al[i]? = some (x, us) → Entry (keysA (al.take i)) x us
def base0 : Al := [(("error" : Str), [("error" : Str)]), (("vacant" : Str), [("vacant" : Str), ("error" : Str)])]
theorem base0_ok : UpOk base0 := fun i x us h => by
  match i, h with
  | 0, h =>
    simp only [base0, List.getElem?_cons_zero, Option.some.injEq, Prod.mk.injEq] at h
    obtain ⟨rfl, rfl⟩ := h
    exact ⟨by simp, by simp, by simp, fun y hy => .inl (by simpa using hy)⟩
  | 1, h =>
    simp only [base0, List.getElem?_cons_succ, List.getElem?_cons_zero, Option.some.injEq, Prod.mk.injEq] at h
    obtain ⟨rfl, rfl⟩ := h
    refine ⟨by decide +kernel, by simp, by simp, fun y hy => ?_⟩
    simp only [List.mem_cons, List.not_mem_nil, or_false] at hy
    rcases hy with rfl | rfl
    · exact .inl rfl
    · exact .inr (by simp [keysA, base0])
  | i + 2, h => simp [base0] at h
def addB (al : Al) (acc : List Str) (b : Str) : List Str := acc ++ ((ulk al b).getD []).filter fun x => decide (x ∉ acc)
def mine (al : Al) (w : Str) (bs : List Str) : List Str := bs.foldl (addB al) [w]
structure Acc (al : Al) (w : Str) (acc : List Str) : Prop where
  nd : acc.Nodup
  me : w ∈ acc
  sub : ∀ y ∈ acc, y = w ∨ y ∈ keysA al
theorem Acc.start (al : Al) (w : Str) : Acc al w [w] := ⟨by simp, by simp, fun y hy => .inl (by simpa using hy)⟩
theorem Acc.add {al : Al} {w b : Str} {acc : List Str} (h : Acc al w acc) (ok : UpOk al) (hb : b ∈ keysA al) : Acc al w (addB al acc b) ∧ ("error" : Str) ∈ addB al acc b := by
  obtain ⟨i, us, h1, h2⟩ := ulk_some hb
  have e := ok i b us h2
  unfold addB
  rw [h1, Option.getD_some]
  refine ⟨⟨?_, List.mem_append_left _ h.me, fun y hy => ?_⟩, ?_⟩
  · rw [List.nodup_append]
    refine ⟨h.nd, e.nd.sublist List.filter_sublist, fun x hx y hy hxy => ?_⟩
    subst hxy
    have := (List.mem_filter.mp hy).2
    simp [hx] at this
  · rcases List.mem_append.mp hy with hy | hy
    · exact h.sub y hy
    · have := e.sub y (List.mem_filter.mp hy).1
      rcases this with rfl | z
      · exact .inr hb
      · exact .inr ((List.take_sublist i al).map (·.1) |>.subset z)
  · by_cases z : ("error" : Str) ∈ acc
    · exact List.mem_append_left _ z
    · exact List.mem_append_right _ (List.mem_filter.mpr ⟨e.er, by simp [z]⟩)
theorem Acc.fold {al : Al} {w : Str} (ok : UpOk al) : ∀ (bs : List Str) (acc : List Str), Acc al w acc → (∀ b ∈ bs, b ∈ keysA al) → Acc al w (bs.foldl (addB al) acc)
  | [], acc, h, _ => h
  | b :: bs, acc, h, hb => Acc.fold ok bs _ (h.add ok (hb b List.mem_cons_self)).1 fun x hx => hb x (List.mem_cons_of_mem _ hx)
theorem addB_mono {al : Al} {x : Str} : ∀ (bs : List Str) (acc : List Str), x ∈ acc → x ∈ bs.foldl (addB al) acc
  | [], acc, h => h
  | b :: bs, acc, h => addB_mono bs _ (List.mem_append_left _ h)
theorem mine_entry {al : Al} {w : Str} {bs : List Str} (ok : UpOk al) (hb : ∀ b ∈ bs, b ∈ keysA al) (hne : bs ≠ []) : Entry (keysA al) w (mine al w bs) := by
  have h := Acc.fold ok bs [w] (.start al w) hb
  refine ⟨h.nd, h.me, ?_, h.sub⟩
  cases bs with
  | nil => exact absurd rfl hne
  | cons b bs =>
    have := ((Acc.start al w).add ok (hb b List.mem_cons_self)).2
    exact addB_mono bs _ this
theorem UpOk.snoc {al : Al} {w : Str} {us : List Str} (ok : UpOk al) (e : Entry (keysA al) w us) : UpOk (al ++ [(w, us)]) := fun i x vs h => by
  rcases Nat.lt_trichotomy i al.length with z | z | z
  · rw [List.getElem?_append_left z] at h
    rw [List.take_append_of_le_length (Nat.le_of_lt z)]
    exact ok i x vs h
  · subst z
    rw [List.getElem?_append_right (Nat.le_refl _), Nat.sub_self] at h
    cases h
    rw [List.take_left]
    exact e
  · rw [List.getElem?_eq_none (by rw [List.length_append]; simp; omega)] at h
    cases h
def upStep (al : Al) (r : Row) : Al := al ++ [(r.1, mine al r.1 r.2)]
def upsL (rows : List Row) : Al := rows.foldl upStep base0
theorem upsL_snoc (rows : List Row) (r : Row) : upsL (rows ++ [r]) = upStep (upsL rows) r := by unfold upsL; rw [List.foldl_append]; rfl
theorem upsL_keys_aux : ∀ (rows : List Row) (al : Al), keysA (rows.foldl upStep al) = keysA al ++ rows.map (·.1)
  | [], al => by simp
  | r :: rows, al => by
    rw [List.foldl_cons, upsL_keys_aux rows, List.map_cons]
    unfold upStep keysA
    simp
theorem upsL_keys (rows : List Row) : keysA (upsL rows) = knownOf rows := upsL_keys_aux rows base0
theorem acc_len {al : Al} {w : Str} {acc : List Str} (h : Acc al w acc) : acc.length ≤ al.length + 1 := by
  have := nd_len acc (w :: keysA al) h.nd fun x hx => by
    rcases h.sub x hx with e | e
    · rw [e]; exact List.mem_cons_self
    · exact List.mem_cons_of_mem _ e
  rw [List.length_cons] at this
  unfold keysA at this
  rwa [List.length_map] at this
theorem entry_len {al : Al} {i : Nat} {x : Str} {us : List Str} (ok : UpOk al) (h : al[i]? = some (x, us)) : us.length ≤ al.length := by
  have e := ok i x us h
  have hi : i < al.length := by
    rcases Nat.lt_or_ge i al.length with z | z
    · exact z
    · rw [List.getElem?_eq_none z] at h; cases h
  have := nd_len us (x :: keysA (al.take i)) e.nd fun y hy => by
    rcases e.sub y hy with z | z
    · rw [z]; exact List.mem_cons_self
    · exact List.mem_cons_of_mem _ z
  rw [List.length_cons] at this
  unfold keysA at this
  rw [List.length_map, List.length_take] at this
  omega
/-- what is not there yet, of a walk -/
def newF (acc : List Str) : D → Option D
  | .str x => if x ∈ acc then none else some (.str x)
  | _ => none
theorem newF_eq (acc us : List Str) : (us.map D.str).filterMap (newF acc) = (us.filter fun x => decide (x ∉ acc)).map .str := by
  induction us with
  | nil => rfl
  | cons u us ih =>
    rw [List.map_cons, List.filterMap_cons, ih]
    by_cases h : u ∈ acc
    · have e : newF acc (.str u) = none := if_pos h
      rw [e, List.filter_cons_of_neg (by simp [h])]
    · have e : newF acc (.str u) = some (.str u) := if_neg h
      rw [e, List.filter_cons_of_pos (by simp [h])]; rfl
theorem dAll_true {α : Type} (xs : List α) : dAll (.lst (xs.map fun _ => D.bl true)) = some (.bl true) := by
  have h : boolsOf (xs.map fun _ => D.bl true) = some (xs.map fun _ => true) := by
    induction xs with
    | nil => rfl
    | cons x xs ih => simp only [List.map_cons, boolsOf, ih, Option.map_some]
  show (boolsOf (xs.map fun _ => D.bl true)).map (fun bs => D.bl (bs.all id)) = _
  rw [h]
  show some (D.bl ((xs.map fun _ => true).all id)) = _
  congr 2
  rw [List.all_eq_true]
  intro b hb
  obtain ⟨_, _, rfl⟩ := List.mem_map.mp hb
  rfl
theorem fm_true {α : Type} (xs : List α) (f : α → D) : (xs.map f).filterMap (fun _ => some (D.bl true)) = xs.map fun _ => D.bl true := by
  induction xs with
  | nil => rfl
  | cons x xs ih => rw [List.map_cons, List.filterMap_cons, ih]; rfl
theorem is_word_ok {m : M} {w : Str} {Q : DK} (hw : Word w) (k : Q (.bl true) m) : sp_is_word [.str w] m Q := by
  obtain ⟨h1, h2, h3, h4⟩ := hw
  refine ⟨rfl, ?_⟩
  show r_is_word_4 _ _ _
  simp only [r_is_word_4, tSq, DL.tIfS, tBinT, tBin, tV, tK, DL.tSet, tRt, tRtN, tAs, gSb, tFn, tAC, tA0, tDr, tApp, tExt, tPopA, tLstD, tTupD, tLstM, tCl, tMt, tPr, tNx, tSlD, tON, tOS, tIfD, DL.tAndT, DL.tOrT, DL.tNotT, tTru, tChainT, tNeg, tListM, List.map_cons, List.map_nil, List.length_cons, List.length_nil, List.replicate, List.cons_append, List.nil_append, List.getElem?_cons_zero, List.getElem?_cons_succ, List.set_cons_zero, List.set_cons_succ, Option.some.injEq, exists_eq_left', exists_eq_left, D.bl.injEq, D.int.injEq, D.str.injEq, D.lst.injEq, D.ref.injEq, if_true, if_false, Bool.true_eq_false, Bool.false_eq_true, startD, bodyEnds, Nat.reduceSub, Nat.reduceAdd, true_and, and_true]
  simp only [dIsi, tyD, clD, look, JB, kb_str_str, Option.map_some, Option.some.injEq, exists_eq_left', dTru, Bool.not_true, Bool.false_eq_true, if_false]
  simp only [d1, dLen, look, if_pos (small (by omega : w.length ≤ 1000)), Option.some.injEq, exists_eq_left', dLe, d2IB, D.bl.injEq, dIn, dInB_strs (m := m) (y := .tup (c_RESERVED.map .str)) (x := w) (xs := c_RESERVED) (.inr rfl), Option.map_some, h3, decide_false]
  have e1 : decide ((1 : Int) ≤ (w.length : Int)) = true := decide_eq_true (by omega)
  have e2 : decide ((w.length : Int) ≤ 8) = true := decide_eq_true (by omega)
  simp only [e1, e2, if_true, Bool.not_true, Bool.false_eq_true, if_false]
  simp only [r_is_word_3, tSq, DL.tIfS, tBinT, tBin, tV, tK, DL.tSet, tRt, tRtN, tAs, gSb, tFn, tAC, tA0, tDr, tApp, tExt, tPopA, tLstD, tTupD, tLstM, tCl, tMt, tPr, tNx, tSlD, tON, tOS, tIfD, DL.tAndT, DL.tOrT, DL.tNotT, tTru, tChainT, tNeg, tListM, List.map_cons, List.map_nil, List.length_cons, List.length_nil, List.replicate, List.cons_append, List.nil_append, List.getElem?_cons_zero, List.getElem?_cons_succ, List.set_cons_zero, List.set_cons_succ, Option.some.injEq, exists_eq_left', exists_eq_left, D.bl.injEq, D.int.injEq, D.str.injEq, D.lst.injEq, D.ref.injEq, if_true, if_false, Bool.true_eq_false, Bool.false_eq_true, startD, bodyEnds, Nat.reduceSub, Nat.reduceAdd, true_and, and_true]
  refine lc_pure (ds := w.cps.toList.map fun c => .str (S [c])) (fun _ => some (.bl true)) (fun R hR => ?_) (by rw [List.length_map, Array.length_toList]; exact smallLt (Nat.le_trans h2 (by decide))) (fun d m1 R hd _ hy _ => ?_) ?_
  · simp only [iSeq, dSeq, tSq, DL.tIfS, tBinT, tBin, tV, tK, DL.tSet, tRt, tRtN, tAs, gSb, tFn, tAC, tA0, tDr, tApp, tExt, tPopA, tLstD, tTupD, tLstM, tCl, tMt, tPr, tNx, tSlD, tON, tOS, tIfD, DL.tAndT, DL.tOrT, DL.tNotT, tTru, tChainT, tNeg, tListM, List.map_cons, List.map_nil, List.length_cons, List.length_nil, List.replicate, List.cons_append, List.nil_append, List.getElem?_cons_zero, List.getElem?_cons_succ, List.set_cons_zero, List.set_cons_succ, Option.some.injEq, exists_eq_left', exists_eq_left, D.bl.injEq, D.int.injEq, D.str.injEq, D.lst.injEq, D.ref.injEq, if_true, if_false, Bool.true_eq_false, Bool.false_eq_true, startD, bodyEnds, Nat.reduceSub, Nat.reduceAdd, true_and, and_true]
    exact hR
  · obtain ⟨c, hc, rfl⟩ := List.mem_map.mp hd
    simp only [tgD, gN, wipeD, tYe, r_is_word_2, tSq, DL.tIfS, tBinT, tBin, tV, tK, DL.tSet, tRt, tRtN, tAs, gSb, tFn, tAC, tA0, tDr, tApp, tExt, tPopA, tLstD, tTupD, tLstM, tCl, tMt, tPr, tNx, tSlD, tON, tOS, tIfD, DL.tAndT, DL.tOrT, DL.tNotT, tTru, tChainT, tNeg, tListM, List.map_cons, List.map_nil, List.length_cons, List.length_nil, List.replicate, List.cons_append, List.nil_append, List.getElem?_cons_zero, List.getElem?_cons_succ, List.set_cons_zero, List.set_cons_succ, Option.some.injEq, exists_eq_left', exists_eq_left, D.bl.injEq, D.int.injEq, D.str.injEq, D.lst.injEq, D.ref.injEq, if_true, if_false, Bool.true_eq_false, Bool.false_eq_true, startD, bodyEnds, Nat.reduceSub, Nat.reduceAdd, true_and, and_true]
    have hcl := h4 c hc
    rw [lt_eq] at hcl ⊢
    have hcl : c ∈ Lt := hcl
    simp only [dIn, dInB, look, in_one_S, Option.map_some, Option.some.injEq, exists_eq_left', hcl, decide_true]
    exact hy _ rfl
  · rw [fm_true]
    exact ⟨_, by simp only [d1, look]; exact dAll_true _, dropR.self k⟩
theorem are_words_ok {m : M} {ws : List Str} {Q : DK} (hn : ws.length ≤ 1000) (hw : ∀ w ∈ ws, Word w) (k : Q (.bl true) m) : sp_are_words [.tup (ws.map .str)] m Q := by
  refine ⟨rfl, ?_⟩
  show r_are_words_2 _ _ _
  simp only [r_are_words_2, tSq, DL.tIfS, tBinT, tBin, tV, tK, DL.tSet, tRt, tRtN, tAs, gSb, tFn, tAC, tA0, tDr, tApp, tExt, tPopA, tLstD, tTupD, tLstM, tCl, tMt, tPr, tNx, tSlD, tON, tOS, tIfD, DL.tAndT, DL.tOrT, DL.tNotT, tTru, tChainT, tNeg, tListM, List.map_cons, List.map_nil, List.length_cons, List.length_nil, List.replicate, List.cons_append, List.nil_append, List.getElem?_cons_zero, List.getElem?_cons_succ, List.set_cons_zero, List.set_cons_succ, Option.some.injEq, exists_eq_left', exists_eq_left, D.bl.injEq, D.int.injEq, D.str.injEq, D.lst.injEq, D.ref.injEq, if_true, if_false, Bool.true_eq_false, Bool.false_eq_true, startD, bodyEnds, Nat.reduceSub, Nat.reduceAdd, true_and, and_true]
  refine lc_pure (ds := ws.map .str) (fun _ => some (.bl true)) (fun R hR => ?_) (by rw [List.length_map]; exact smallLt hn) (fun d m1 R hd _ hy _ => ?_) ?_
  · simp only [iSeq, dSeq, tSq, DL.tIfS, tBinT, tBin, tV, tK, DL.tSet, tRt, tRtN, tAs, gSb, tFn, tAC, tA0, tDr, tApp, tExt, tPopA, tLstD, tTupD, tLstM, tCl, tMt, tPr, tNx, tSlD, tON, tOS, tIfD, DL.tAndT, DL.tOrT, DL.tNotT, tTru, tChainT, tNeg, tListM, List.map_cons, List.map_nil, List.length_cons, List.length_nil, List.replicate, List.cons_append, List.nil_append, List.getElem?_cons_zero, List.getElem?_cons_succ, List.set_cons_zero, List.set_cons_succ, Option.some.injEq, exists_eq_left', exists_eq_left, D.bl.injEq, D.int.injEq, D.str.injEq, D.lst.injEq, D.ref.injEq, if_true, if_false, Bool.true_eq_false, Bool.false_eq_true, startD, bodyEnds, Nat.reduceSub, Nat.reduceAdd, true_and, and_true]
    exact hR
  · obtain ⟨c, hc, rfl⟩ := List.mem_map.mp hd
    simp only [tgD, gN, wipeD, tYe, r_are_words_1, tSq, DL.tIfS, tBinT, tBin, tV, tK, DL.tSet, tRt, tRtN, tAs, gSb, tFn, tAC, tA0, tDr, tApp, tExt, tPopA, tLstD, tTupD, tLstM, tCl, tMt, tPr, tNx, tSlD, tON, tOS, tIfD, DL.tAndT, DL.tOrT, DL.tNotT, tTru, tChainT, tNeg, tListM, List.map_cons, List.map_nil, List.length_cons, List.length_nil, List.replicate, List.cons_append, List.nil_append, List.getElem?_cons_zero, List.getElem?_cons_succ, List.set_cons_zero, List.set_cons_succ, Option.some.injEq, exists_eq_left', exists_eq_left, D.bl.injEq, D.int.injEq, D.str.injEq, D.lst.injEq, D.ref.injEq, if_true, if_false, Bool.true_eq_false, Bool.false_eq_true, startD, bodyEnds, Nat.reduceSub, Nat.reduceAdd, true_and, and_true]
    exact is_word_ok (hw c hc) (hy _ rfl)
  · rw [fm_true]
    exact ⟨_, by simp only [d1, look]; exact dAll_true _, dropR.self k⟩
theorem keysOf_strs : ∀ xs : List Str, keysOf (xs.map D.str) = some (xs.map Sum.inr)
  | [] => rfl
  | x :: xs => by simp only [List.map_cons, keysOf, keyOf, Option.bind_some, keysOf_strs xs, Option.map_some]
theorem fault_none {m : M} {q : Addr} {row : Row} {kn : Int} {known : List Str} {Q : DK} (hq : m q = some (.lst (known.map .str))) (hok : RowOk known row) (hkw : ∀ x ∈ known, x = "error" ∨ x = "vacant" ∨ Word x) (hkn : kn ≠ 30) (hl : known.length ≤ 100) (k : Q .non m) : sp_row_fault [rowD row, .int kn, .ref q] m Q := by
  obtain ⟨w, bs⟩ := row
  obtain ⟨w1, w2, w3, w4, w5⟩ := hok
  have lq : look m (.ref q) = .lst (known.map .str) := by simp only [look, hq, Option.getD_some]
  have wE : Word ("error" : Str) := by
    refine ⟨by decide +kernel, by decide +kernel, by decide +kernel, by decide +kernel⟩
  have wV : Word ("vacant" : Str) := by
    refine ⟨by decide +kernel, by decide +kernel, by decide +kernel, by decide +kernel⟩
  have hall : ∀ x ∈ w :: bs, Word x := by
    intro x hx
    rcases List.mem_cons.mp hx with rfl | hx
    · exact w2
    · rcases hkw x (w5 x hx) with rfl | rfl | h
      · exact wE
      · exact wV
      · exact h
  have hbl : bs.length ≤ 100 := Nat.le_trans (nd_len bs known w4 w5) hl
  have hpos : 0 < bs.length := List.length_pos_iff.mpr w3
  refine ⟨rfl, ?_⟩
  show r_row_fault_11 _ _ _
  simp only [r_row_fault_11, tSq, DL.tIfS, tBinT, tBin, tV, tK, DL.tSet, tRt, tRtN, tAs, gSb, tFn, tAC, tA0, tDr, tApp, tExt, tPopA, tLstD, tTupD, tLstM, tCl, tMt, tPr, tNx, tSlD, tON, tOS, tIfD, DL.tAndT, DL.tOrT, DL.tNotT, tTru, tChainT, tNeg, tListM, List.map_cons, List.map_nil, List.length_cons, List.length_nil, List.replicate, List.cons_append, List.nil_append, List.getElem?_cons_zero, List.getElem?_cons_succ, List.set_cons_zero, List.set_cons_succ, Option.some.injEq, exists_eq_left', exists_eq_left, D.bl.injEq, D.int.injEq, D.str.injEq, D.lst.injEq, D.ref.injEq, if_true, if_false, Bool.true_eq_false, Bool.false_eq_true, startD, bodyEnds, Nat.reduceSub, Nat.reduceAdd, true_and, and_true]
  simp only [dEq, dEqB, look, Option.map_some, Option.some.injEq, exists_eq_left', D.bl.injEq, hkn, decide_false, Bool.false_eq_true, if_false]
  simp only [r_row_fault_10, tSq, DL.tIfS, tBinT, tBin, tV, tK, DL.tSet, tRt, tRtN, tAs, gSb, tFn, tAC, tA0, tDr, tApp, tExt, tPopA, tLstD, tTupD, tLstM, tCl, tMt, tPr, tNx, tSlD, tON, tOS, tIfD, DL.tAndT, DL.tOrT, DL.tNotT, tTru, tChainT, tNeg, tListM, List.map_cons, List.map_nil, List.length_cons, List.length_nil, List.replicate, List.cons_append, List.nil_append, List.getElem?_cons_zero, List.getElem?_cons_succ, List.set_cons_zero, List.set_cons_succ, Option.some.injEq, exists_eq_left', exists_eq_left, D.bl.injEq, D.int.injEq, D.str.injEq, D.lst.injEq, D.ref.injEq, if_true, if_false, Bool.true_eq_false, Bool.false_eq_true, startD, bodyEnds, Nat.reduceSub, Nat.reduceAdd, true_and, and_true]
  simp only [dIsi, tyD, clD, look, rowD, JB, kb_tup_tup, Option.map_some, Option.some.injEq, exists_eq_left', dTru, Bool.not_true, Bool.false_eq_true, if_false]
  have e1 : decide (((bs.length + 1 : Nat) : Int) < 2) = false := decide_eq_false (by omega)
  simp only [d1, dLen, look, List.length_cons, List.length_map, Option.some.injEq, exists_eq_left', dLt, d2IB, D.bl.injEq, e1, Bool.false_eq_true, if_false]
  refine are_words_ok (ws := w :: bs) (by rw [List.length_cons]; omega) hall ?_
  simp only [look, dTru, Option.some.injEq, exists_eq_left', Bool.not_true, Bool.false_eq_true, if_false]
  simp only [r_row_fault_9, tSq, DL.tIfS, tBinT, tBin, tV, tK, DL.tSet, tRt, tRtN, tAs, gSb, tFn, tAC, tA0, tDr, tApp, tExt, tPopA, tLstD, tTupD, tLstM, tCl, tMt, tPr, tNx, tSlD, tON, tOS, tIfD, DL.tAndT, DL.tOrT, DL.tNotT, tTru, tChainT, tNeg, tListM, List.map_cons, List.map_nil, List.length_cons, List.length_nil, List.replicate, List.cons_append, List.nil_append, List.getElem?_cons_zero, List.getElem?_cons_succ, List.set_cons_zero, List.set_cons_succ, Option.some.injEq, exists_eq_left', exists_eq_left, D.bl.injEq, D.int.injEq, D.str.injEq, D.lst.injEq, D.ref.injEq, if_true, if_false, Bool.true_eq_false, Bool.false_eq_true, startD, bodyEnds, Nat.reduceSub, Nat.reduceAdd, true_and, and_true]
  have i1 : dInB m (.str w) (.ref q) = some false := by rw [dInB_strs (.inl lq)]; simp only [w1, decide_false]
  refine ⟨.str w, dIx_tup rfl rfl (atI_pos (by decide) rfl), false, by unfold dIn; rw [i1]; rfl, ?_⟩
  simp only [Bool.false_eq_true, if_false]
  simp only [r_row_fault_8, tSq, DL.tIfS, tBinT, tBin, tV, tK, DL.tSet, tRt, tRtN, tAs, gSb, tFn, tAC, tA0, tDr, tApp, tExt, tPopA, tLstD, tTupD, tLstM, tCl, tMt, tPr, tNx, tSlD, tON, tOS, tIfD, DL.tAndT, DL.tOrT, DL.tNotT, tTru, tChainT, tNeg, tListM, List.map_cons, List.map_nil, List.length_cons, List.length_nil, List.replicate, List.cons_append, List.nil_append, List.getElem?_cons_zero, List.getElem?_cons_succ, List.set_cons_zero, List.set_cons_succ, Option.some.injEq, exists_eq_left', exists_eq_left, D.bl.injEq, D.int.injEq, D.str.injEq, D.lst.injEq, D.ref.injEq, if_true, if_false, Bool.true_eq_false, Bool.false_eq_true, startD, bodyEnds, Nat.reduceSub, Nat.reduceAdd, true_and, and_true]
  refine ⟨1, rfl, .tup (bs.map .str), ?_, ?_⟩
  · simp only [dSl, look]; rw [cut_from (by decide)]; rfl
  simp only [r_row_fault_7, tSq, DL.tIfS, tBinT, tBin, tV, tK, DL.tSet, tRt, tRtN, tAs, gSb, tFn, tAC, tA0, tDr, tApp, tExt, tPopA, tLstD, tTupD, tLstM, tCl, tMt, tPr, tNx, tSlD, tON, tOS, tIfD, DL.tAndT, DL.tOrT, DL.tNotT, tTru, tChainT, tNeg, tListM, List.map_cons, List.map_nil, List.length_cons, List.length_nil, List.replicate, List.cons_append, List.nil_append, List.getElem?_cons_zero, List.getElem?_cons_succ, List.set_cons_zero, List.set_cons_succ, Option.some.injEq, exists_eq_left', exists_eq_left, D.bl.injEq, D.int.injEq, D.str.injEq, D.lst.injEq, D.ref.injEq, if_true, if_false, Bool.true_eq_false, Bool.false_eq_true, startD, bodyEnds, Nat.reduceSub, Nat.reduceAdd, true_and, and_true]
  refine lc_pure (ds := bs.map .str) (fun _ => some (.bl true)) (fun R hR => ?_) (by rw [List.length_map]; exact smallLt (by omega)) (fun d m1 R hd hm hy _ => ?_) ?_
  · simp only [iSeq, dSeq, tSq, DL.tIfS, tBinT, tBin, tV, tK, DL.tSet, tRt, tRtN, tAs, gSb, tFn, tAC, tA0, tDr, tApp, tExt, tPopA, tLstD, tTupD, tLstM, tCl, tMt, tPr, tNx, tSlD, tON, tOS, tIfD, DL.tAndT, DL.tOrT, DL.tNotT, tTru, tChainT, tNeg, tListM, List.map_cons, List.map_nil, List.length_cons, List.length_nil, List.replicate, List.cons_append, List.nil_append, List.getElem?_cons_zero, List.getElem?_cons_succ, List.set_cons_zero, List.set_cons_succ, Option.some.injEq, exists_eq_left', exists_eq_left, D.bl.injEq, D.int.injEq, D.str.injEq, D.lst.injEq, D.ref.injEq, if_true, if_false, Bool.true_eq_false, Bool.false_eq_true, startD, bodyEnds, Nat.reduceSub, Nat.reduceAdd, true_and, and_true]
    exact hR
  · obtain ⟨c, hc, rfl⟩ := List.mem_map.mp hd
    obtain ⟨pp, acc, hpp, rfl⟩ := hm
    have qp : q ≠ pp := by rintro rfl; rw [hq] at hpp; cases hpp
    have lq1 : look (updM m pp (.lst acc)) (.ref q) = .lst (known.map .str) := by simp only [look, updM_ne qp, hq, Option.getD_some]
    simp only [tgD, gN, wipeD, tYe, r_row_fault_4, tSq, DL.tIfS, tBinT, tBin, tV, tK, DL.tSet, tRt, tRtN, tAs, gSb, tFn, tAC, tA0, tDr, tApp, tExt, tPopA, tLstD, tTupD, tLstM, tCl, tMt, tPr, tNx, tSlD, tON, tOS, tIfD, DL.tAndT, DL.tOrT, DL.tNotT, tTru, tChainT, tNeg, tListM, List.map_cons, List.map_nil, List.length_cons, List.length_nil, List.replicate, List.cons_append, List.nil_append, List.getElem?_cons_zero, List.getElem?_cons_succ, List.set_cons_zero, List.set_cons_succ, Option.some.injEq, exists_eq_left', exists_eq_left, D.bl.injEq, D.int.injEq, D.str.injEq, D.lst.injEq, D.ref.injEq, if_true, if_false, Bool.true_eq_false, Bool.false_eq_true, startD, bodyEnds, Nat.reduceSub, Nat.reduceAdd, true_and, and_true]
    have i2 : dInB (updM m pp (.lst acc)) (.str c) (.ref q) = some true := by
      rw [dInB_strs (.inl lq1)]
      have := w5 c hc
      simp only [this, decide_true]
    exact ⟨.bl true, by unfold dIn; rw [i2]; rfl, hy _ rfl⟩
  · rw [fm_true]
    refine ⟨.bl true, by simp only [d1, look]; exact dAll_true _, true, rfl, ?_⟩
    simp only [Bool.not_true, tLenSet, tSq, DL.tIfS, tBinT, tBin, tV, tK, DL.tSet, tRt, tRtN, tAs, gSb, tFn, tAC, tA0, tDr, tApp, tExt, tPopA, tLstD, tTupD, tLstM, tCl, tMt, tPr, tNx, tSlD, tON, tOS, tIfD, DL.tAndT, DL.tOrT, DL.tNotT, tTru, tChainT, tNeg, tListM, List.map_cons, List.map_nil, List.length_cons, List.length_nil, List.replicate, List.cons_append, List.nil_append, List.getElem?_cons_zero, List.getElem?_cons_succ, List.set_cons_zero, List.set_cons_succ, Option.some.injEq, exists_eq_left', exists_eq_left, D.bl.injEq, D.int.injEq, D.str.injEq, D.lst.injEq, D.ref.injEq, if_true, if_false, Bool.true_eq_false, Bool.false_eq_true, startD, bodyEnds, Nat.reduceSub, Nat.reduceAdd, true_and, and_true]
    have ek : keysOf (bs.map D.str) = some (bs.map Sum.inr) := keysOf_strs bs
    have nd2 : (bs.map (Sum.inr : Str → L2.Key)).Nodup := by
      rw [List.nodup_iff_pairwise_ne, List.pairwise_map]
      exact List.Pairwise.imp (fun h e => h (Sum.inr.inj e)) w4
    refine ⟨bs.map .str, bs.map Sum.inr, rfl, ek, by rw [List.length_map]; omega, ?_⟩
    rw [ndK_nodup nd2 _ (Nat.le_refl _), List.length_map]
    simp only [d1, dLen, look, List.length_map, Option.some.injEq, exists_eq_left', dLt, d2IB, D.bl.injEq]
    have e2 : decide ((bs.length : Int) < (bs.length : Int)) = false := decide_eq_false (by omega)
    simp only [e2, Bool.false_eq_true, if_false]
    simp only [r_row_fault_6, tSq, DL.tIfS, tBinT, tBin, tV, tK, DL.tSet, tRt, tRtN, tAs, gSb, tFn, tAC, tA0, tDr, tApp, tExt, tPopA, tLstD, tTupD, tLstM, tCl, tMt, tPr, tNx, tSlD, tON, tOS, tIfD, DL.tAndT, DL.tOrT, DL.tNotT, tTru, tChainT, tNeg, tListM, List.map_cons, List.map_nil, List.length_cons, List.length_nil, List.replicate, List.cons_append, List.nil_append, List.getElem?_cons_zero, List.getElem?_cons_succ, List.set_cons_zero, List.set_cons_succ, Option.some.injEq, exists_eq_left', exists_eq_left, D.bl.injEq, D.int.injEq, D.str.injEq, D.lst.injEq, D.ref.injEq, if_true, if_false, Bool.true_eq_false, Bool.false_eq_true, startD, bodyEnds, Nat.reduceSub, Nat.reduceAdd, true_and, and_true]
    exact dropR.self k
def nsC : List Str := [("rows" : Str), ("names" : Str), ("above" : Str)]
def vsC (rows : List Row) : List D := [.tup (rows.map rowD), .tup ((knownOf rows).map .str), dicA (alD (upsL rows))]
def clsD (C : Addr) (rows : List Row) : D := .ins C nsC (vsC rows)
theorem put1 (d : D) : fputN ("rows" : Str) [] = [("rows" : Str)] ∧ fputV ("rows" : Str) d [] [] = [d] := ⟨rfl, rfl⟩
theorem ne_rn : ¬ ("rows" : Str) = ("names" : Str) := by decide +kernel
theorem ne_ra : ¬ ("rows" : Str) = ("above" : Str) := by decide +kernel
theorem ne_na : ¬ ("names" : Str) = ("above" : Str) := by decide +kernel
theorem put2N : fputN ("names" : Str) [("rows" : Str)] = [("rows" : Str), ("names" : Str)] := by simp only [fputN, if_neg ne_rn]
theorem put2V (d e : D) : fputV ("names" : Str) e [("rows" : Str)] [d] = [d, e] := by simp only [fputV, if_neg ne_rn]
theorem put3N : fputN ("above" : Str) [("rows" : Str), ("names" : Str)] = nsC := by simp only [fputN, if_neg ne_ra, if_neg ne_na]; rfl
theorem put3V (d e f : D) : fputV ("above" : Str) f [("rows" : Str), ("names" : Str)] [d, e] = [d, e, f] := by simp only [fputV, if_neg ne_ra, if_neg ne_na]
theorem first_eq : (c_FIRST.map D.str) = ((knownOf []).map .str) := rfl
theorem init_ok {m : M} {C x : Addr} {rows : List Row} {Q : DK} (hx : m x = some (.ins C [] [])) (hn : rows.length ≤ 30) (hr : RowsOk rows) (k : Q .non (updM m x (clsD C rows))) : sp_Classes_init C (.ref x :: rows.map rowD) m Q := by
  refine ⟨by simp, by simp; exact small (by omega), rfl, ?_⟩
  show r_Classes_init_16 C _ _ _
  simp only [r_Classes_init_16, tSq, DL.tIfS, tBinT, tBin, tV, tK, DL.tSet, tRt, tRtN, tAs, gSb, tFn, tAC, tA0, tDr, tApp, tExt, tPopA, tLstD, tTupD, tLstM, tCl, tMt, tPr, tNx, tSlD, tON, tOS, tIfD, DL.tAndT, DL.tOrT, DL.tNotT, tTru, tChainT, tNeg, tListM, List.map_cons, List.map_nil, List.length_cons, List.length_nil, List.replicate, List.cons_append, List.nil_append, List.getElem?_cons_zero, List.getElem?_cons_succ, List.set_cons_zero, List.set_cons_succ, Option.some.injEq, exists_eq_left', exists_eq_left, D.bl.injEq, D.int.injEq, D.str.injEq, D.lst.injEq, D.ref.injEq, if_true, if_false, Bool.true_eq_false, Bool.false_eq_true, startD, bodyEnds, Nat.reduceSub, Nat.reduceAdd, true_and, and_true, List.take_succ_cons, List.take_zero, List.drop_succ_cons, List.drop_zero]
  refine ⟨.tup (c_FIRST.map .str), c_FIRST.map .str, rfl, rfl, fun n hnn => ?_⟩
  have xn : x ≠ n := by rintro rfl; rw [hx] at hnn; cases hnn
  simp only [r_Classes_init_15, tSq, DL.tIfS, tBinT, tBin, tV, tK, DL.tSet, tRt, tRtN, tAs, gSb, tFn, tAC, tA0, tDr, tApp, tExt, tPopA, tLstD, tTupD, tLstM, tCl, tMt, tPr, tNx, tSlD, tON, tOS, tIfD, DL.tAndT, DL.tOrT, DL.tNotT, tTru, tChainT, tNeg, tListM, List.map_cons, List.map_nil, List.length_cons, List.length_nil, List.replicate, List.cons_append, List.nil_append, List.getElem?_cons_zero, List.getElem?_cons_succ, List.set_cons_zero, List.set_cons_succ, Option.some.injEq, exists_eq_left', exists_eq_left, D.bl.injEq, D.int.injEq, D.str.injEq, D.lst.injEq, D.ref.injEq, if_true, if_false, Bool.true_eq_false, Bool.false_eq_true, startD, bodyEnds, Nat.reduceSub, Nat.reduceAdd, true_and, and_true, tDicM, tPrs]
  intro b hb
  have nb : n ≠ b := by rintro rfl; rw [updM_same] at hb; cases hb
  have hb0 : m b = none := by rw [updM_ne nb.symm] at hb; exact hb
  have xb : x ≠ b := by rintro rfl; rw [hx] at hb0; cases hb0
  refine ⟨by decide, by decide, updM_same, [.inr ("error" : Str), .inr ("vacant" : Str)], rfl, two_nd, by decide, ?_⟩
  rw [updM_over]
  simp only [r_Classes_init_14, tSq, DL.tIfS, tBinT, tBin, tV, tK, DL.tSet, tRt, tRtN, tAs, gSb, tFn, tAC, tA0, tDr, tApp, tExt, tPopA, tLstD, tTupD, tLstM, tCl, tMt, tPr, tNx, tSlD, tON, tOS, tIfD, DL.tAndT, DL.tOrT, DL.tNotT, tTru, tChainT, tNeg, tListM, List.map_cons, List.map_nil, List.length_cons, List.length_nil, List.replicate, List.cons_append, List.nil_append, List.getElem?_cons_zero, List.getElem?_cons_succ, List.set_cons_zero, List.set_cons_succ, Option.some.injEq, exists_eq_left', exists_eq_left, D.bl.injEq, D.int.injEq, D.str.injEq, D.lst.injEq, D.ref.injEq, if_true, if_false, Bool.true_eq_false, Bool.false_eq_true, startD, bodyEnds, Nat.reduceSub, Nat.reduceAdd, true_and, and_true, tFo, iEn]
  refine ⟨rows.map rowD, .inr rfl, ?_⟩
  have eL : (enumD (rows.map rowD)).length = rows.length := by rw [enumD_length, List.length_map]
  refine forD_inv (fun i env m' => ∃ e4 e5 e6 e7 e8 e9, env = [some (.ref x), some (.tup (rows.map rowD)), some (.ref n), some (.ref b), e4, e5, e6, e7, e8, e9] ∧ m' = updM (updM m n (.lst ((knownOf (rows.take i)).map .str))) b (dicA (alD (upsL (rows.take i)))) ∧ UpOk (upsL (rows.take i)))
    ⟨none, none, none, none, none, none, rfl, rfl, base0_ok⟩ ?_ ?_
  · rintro i d env m' N hd ⟨e4, e5, e6, e7, e8, e9, rfl, rfl, hok⟩ hN
    obtain ⟨rd, hrd, rfl⟩ := enumD_get hd
    rw [List.getElem?_map] at hrd
    obtain ⟨row, hri, rfl⟩ := Option.map_eq_some_iff.mp hrd
    have hi : i < rows.length := by
      rcases Nat.lt_or_ge i rows.length with z | z
      · exact z
      · rw [List.getElem?_eq_none z] at hri; cases hri
    have hrow := hr i row hri
    obtain ⟨w, bs⟩ := row
    obtain ⟨w1, w2, w3, w4, w5⟩ := id hrow
    have hkeys := upsL_keys (rows.take i)
    have htk : rows.take (i + 1) = rows.take i ++ [(w, bs)] := by
      rw [List.take_add_one, hri] <;> rfl
    have hkn : knownOf (rows.take (i + 1)) = knownOf (rows.take i) ++ [w] := by rw [htk, knownOf_snoc]
    have klen : (knownOf (rows.take i)).length ≤ 32 := by rw [knownOf_len, List.length_take]; omega
    have hkw : ∀ y ∈ knownOf (rows.take i), y = "error" ∨ y = "vacant" ∨ Word y := by
      intro y hy
      unfold knownOf at hy
      rcases List.mem_append.mp hy with hy | hy
      · simp only [List.mem_cons, List.not_mem_nil, or_false] at hy
        rcases hy with h | h
        · exact .inl h
        · exact .inr (.inl h)
      · obtain ⟨r, hr2, rfl⟩ := List.mem_map.mp hy
        obtain ⟨j, hj⟩ := List.mem_iff_getElem?.mp (List.mem_of_mem_take hr2)
        exact .inr (.inr (hr j r hj).2.1)
    rw [← hkeys] at w1 w5
    have alen : (upsL (rows.take i)).length ≤ 32 := by
      have := congrArg List.length hkeys
      unfold keysA at this
      rw [List.length_map] at this
      omega
    have hup : upsL (rows.take (i + 1)) = upsL (rows.take i) ++ [(w, mine (upsL (rows.take i)) w bs)] := by rw [htk, upsL_snoc]; rfl
    generalize hkk : knownOf (rows.take i) = known at *
    generalize upsL (rows.take i) = al at *
    have m_n : ∀ a c, updM (updM m n a) b c n = some a := fun a c => by rw [updM_ne nb, updM_same]
    have m_b : ∀ a c, updM (updM m n a) b c b = some c := fun a c => updM_same
    refine ⟨[.int i, rowD (w, bs)], rfl, rfl, ?_⟩
    simp only [setL, r_Classes_init_10, tSq, DL.tIfS, tBinT, tBin, tV, tK, DL.tSet, tRt, tRtN, tAs, gSb, tFn, tAC, tA0, tDr, tApp, tExt, tPopA, tLstD, tTupD, tLstM, tCl, tMt, tPr, tNx, tSlD, tON, tOS, tIfD, DL.tAndT, DL.tOrT, DL.tNotT, tTru, tChainT, tNeg, tListM, List.map_cons, List.map_nil, List.length_cons, List.length_nil, List.replicate, List.cons_append, List.nil_append, List.getElem?_cons_zero, List.getElem?_cons_succ, List.set_cons_zero, List.set_cons_succ, Option.some.injEq, exists_eq_left', exists_eq_left, D.bl.injEq, D.int.injEq, D.str.injEq, D.lst.injEq, D.ref.injEq, if_true, if_false, Bool.true_eq_false, Bool.false_eq_true, startD, bodyEnds, Nat.reduceSub, Nat.reduceAdd, true_and, and_true]
    refine fault_none (known := known) (m_n _ _) hrow hkw (by omega) (by omega) ?_
    simp only [r_Classes_init_9, tSq, DL.tIfS, tBinT, tBin, tV, tK, DL.tSet, tRt, tRtN, tAs, gSb, tFn, tAC, tA0, tDr, tApp, tExt, tPopA, tLstD, tTupD, tLstM, tCl, tMt, tPr, tNx, tSlD, tON, tOS, tIfD, DL.tAndT, DL.tOrT, DL.tNotT, tTru, tChainT, tNeg, tListM, List.map_cons, List.map_nil, List.length_cons, List.length_nil, List.replicate, List.cons_append, List.nil_append, List.getElem?_cons_zero, List.getElem?_cons_succ, List.set_cons_zero, List.set_cons_succ, Option.some.injEq, exists_eq_left', exists_eq_left, D.bl.injEq, D.int.injEq, D.str.injEq, D.lst.injEq, D.ref.injEq, if_true, if_false, Bool.true_eq_false, Bool.false_eq_true, startD, bodyEnds, Nat.reduceSub, Nat.reduceAdd, true_and, and_true]
    simp only [dIsNot, Option.some.injEq, exists_eq_left', D.bl.injEq, Bool.false_eq_true, if_false]
    simp only [r_Classes_init_8, tSq, DL.tIfS, tBinT, tBin, tV, tK, DL.tSet, tRt, tRtN, tAs, gSb, tFn, tAC, tA0, tDr, tApp, tExt, tPopA, tLstD, tTupD, tLstM, tCl, tMt, tPr, tNx, tSlD, tON, tOS, tIfD, DL.tAndT, DL.tOrT, DL.tNotT, tTru, tChainT, tNeg, tListM, List.map_cons, List.map_nil, List.length_cons, List.length_nil, List.replicate, List.cons_append, List.nil_append, List.getElem?_cons_zero, List.getElem?_cons_succ, List.set_cons_zero, List.set_cons_succ, Option.some.injEq, exists_eq_left', exists_eq_left, D.bl.injEq, D.int.injEq, D.str.injEq, D.lst.injEq, D.ref.injEq, if_true, if_false, Bool.true_eq_false, Bool.false_eq_true, startD, bodyEnds, Nat.reduceSub, Nat.reduceAdd, true_and, and_true]
    refine ⟨.str w, dIx_tup rfl rfl (atI_pos (by decide) rfl), by decide, fun f hf => ?_⟩
    have bf : b ≠ f := by rintro rfl; rw [updM_same] at hf; cases hf
    have nf : n ≠ f := by rintro rfl; rw [m_n] at hf; cases hf
    simp only [r_Classes_init_7, tSq, DL.tIfS, tBinT, tBin, tV, tK, DL.tSet, tRt, tRtN, tAs, gSb, tFn, tAC, tA0, tDr, tApp, tExt, tPopA, tLstD, tTupD, tLstM, tCl, tMt, tPr, tNx, tSlD, tON, tOS, tIfD, DL.tAndT, DL.tOrT, DL.tNotT, tTru, tChainT, tNeg, tListM, List.map_cons, List.map_nil, List.length_cons, List.length_nil, List.replicate, List.cons_append, List.nil_append, List.getElem?_cons_zero, List.getElem?_cons_succ, List.set_cons_zero, List.set_cons_succ, Option.some.injEq, exists_eq_left', exists_eq_left, D.bl.injEq, D.int.injEq, D.str.injEq, D.lst.injEq, D.ref.injEq, if_true, if_false, Bool.true_eq_false, Bool.false_eq_true, startD, bodyEnds, Nat.reduceSub, Nat.reduceAdd, true_and, and_true, tFo, iSeq]
    refine ⟨1, rfl, .tup (bs.map .str), ?_, bs.map .str, rfl, ?_⟩
    · simp only [dSl, look, rowD]; rw [cut_from (by decide)]; rfl
    refine forD_inv (ds := bs.map .str) (fun j env m' => ∃ e8 e9, env = [some (.ref x), some (.tup (rows.map rowD)), some (.ref n), some (.ref b), some (.int i), some (rowD (w, bs)), some .non, some (.ref f), e8, e9] ∧ m' = updM (updM (updM m n (.lst (known.map .str))) b (dicA (alD al))) f (lD ((bs.take j).foldl (addB al) [w])))
      ⟨e8, e9, rfl, rfl⟩ ?_ ?_
    · rintro j d env m' N2 hd ⟨e8, e9, rfl, rfl⟩ hN2
      rw [List.getElem?_map] at hd
      obtain ⟨bb, hbj, rfl⟩ := Option.map_eq_some_iff.mp hd
      have hbm := w5 bb (List.mem_of_getElem? hbj)
      obtain ⟨bi, us, hus, hix⟩ := ulk_some hbm
      have hacc := Acc.fold hok (bs.take j) [w] (.start al w) fun x hx => w5 x (List.mem_of_mem_take hx)
      have hbt : bs.take (j + 1) = bs.take j ++ [bb] := by
        rw [List.take_add_one, hbj] <;> rfl
      have hadd : (bs.take (j + 1)).foldl (addB al) [w] = addB al ((bs.take j).foldl (addB al) [w]) bb := by rw [hbt, List.foldl_append]; rfl
      generalize (bs.take j).foldl (addB al) [w] = acc at *
      have lus := entry_len hok hix
      have lacc := acc_len hacc
      have hd1 : dIx (updM (updM (updM m n (.lst (known.map .str))) b (dicA (alD al))) f (lD acc)) (.ref b) (.str bb) = some (lD us) := dIx_al (al := alD al) (by simp only [look, updM_ne bf, updM_same, Option.getD_some]) rfl (by rw [alook_alD, hus]; rfl)
      simp only [tgD, gN, r_Classes_init_4, tSq, DL.tIfS, tBinT, tBin, tV, tK, DL.tSet, tRt, tRtN, tAs, gSb, tFn, tAC, tA0, tDr, tApp, tExt, tPopA, tLstD, tTupD, tLstM, tCl, tMt, tPr, tNx, tSlD, tON, tOS, tIfD, DL.tAndT, DL.tOrT, DL.tNotT, tTru, tChainT, tNeg, tListM, List.map_cons, List.map_nil, List.length_cons, List.length_nil, List.replicate, List.cons_append, List.nil_append, List.getElem?_cons_zero, List.getElem?_cons_succ, List.set_cons_zero, List.set_cons_succ, Option.some.injEq, exists_eq_left', exists_eq_left, D.bl.injEq, D.int.injEq, D.str.injEq, D.lst.injEq, D.ref.injEq, if_true, if_false, Bool.true_eq_false, Bool.false_eq_true, startD, bodyEnds, Nat.reduceSub, Nat.reduceAdd, true_and, and_true]
      refine ⟨f, _, rfl, updM_same, ?_⟩
      refine lc_pure (ds := us.map .str) (newF acc) (fun R hR => ?_) (by rw [List.length_map]; exact smallLt (by omega)) (fun d m1 R hd hm hy hno => ?_) ?_
      · simp only [iSeq, tSq, DL.tIfS, tBinT, tBin, tV, tK, DL.tSet, tRt, tRtN, tAs, gSb, tFn, tAC, tA0, tDr, tApp, tExt, tPopA, tLstD, tTupD, tLstM, tCl, tMt, tPr, tNx, tSlD, tON, tOS, tIfD, DL.tAndT, DL.tOrT, DL.tNotT, tTru, tChainT, tNeg, tListM, List.map_cons, List.map_nil, List.length_cons, List.length_nil, List.replicate, List.cons_append, List.nil_append, List.getElem?_cons_zero, List.getElem?_cons_succ, List.set_cons_zero, List.set_cons_succ, Option.some.injEq, exists_eq_left', exists_eq_left, D.bl.injEq, D.int.injEq, D.str.injEq, D.lst.injEq, D.ref.injEq, if_true, if_false, Bool.true_eq_false, Bool.false_eq_true, startD, bodyEnds, Nat.reduceSub, Nat.reduceAdd, true_and, and_true, hd1]
        exact ⟨_, rfl, hR⟩
      · obtain ⟨z, hz, rfl⟩ := List.mem_map.mp hd
        obtain ⟨pp, ac, hpp, rfl⟩ := hm
        have fp : f ≠ pp := by rintro rfl; rw [updM_same] at hpp; cases hpp
        have lf : look (updM (updM (updM (updM m n (.lst (known.map .str))) b (dicA (alD al))) f (lD acc)) pp (.lst ac)) (.ref f) = lD acc := by simp only [look, updM_ne fp, updM_same, Option.getD_some]
        simp only [tgD, gN, wipeD, r_Classes_init_2, r_Classes_init_3, tSq, DL.tIfS, tBinT, tBin, tV, tK, DL.tSet, tRt, tRtN, tAs, gSb, tFn, tAC, tA0, tDr, tApp, tExt, tPopA, tLstD, tTupD, tLstM, tCl, tMt, tPr, tNx, tSlD, tON, tOS, tIfD, DL.tAndT, DL.tOrT, DL.tNotT, tTru, tChainT, tNeg, tListM, List.map_cons, List.map_nil, List.length_cons, List.length_nil, List.replicate, List.cons_append, List.nil_append, List.getElem?_cons_zero, List.getElem?_cons_succ, List.set_cons_zero, List.set_cons_succ, Option.some.injEq, exists_eq_left', exists_eq_left, D.bl.injEq, D.int.injEq, D.str.injEq, D.lst.injEq, D.ref.injEq, if_true, if_false, Bool.true_eq_false, Bool.false_eq_true, startD, bodyEnds, Nat.reduceSub, Nat.reduceAdd, true_and, and_true]
        have i2 := dInB_strs (m := updM (updM (updM (updM m n (.lst (known.map .str))) b (dicA (alD al))) f (lD acc)) pp (.lst ac)) (y := .ref f) (x := z) (xs := acc) (.inl lf)
        simp only [dNotIn, i2, Option.map_some, Option.some.injEq, exists_eq_left', D.bl.injEq]
        by_cases hxa : z ∈ acc
        · simp only [hxa, decide_true, Bool.not_true, Bool.false_eq_true, if_false]
          exact hno (if_pos hxa)
        · simp only [hxa, decide_false, Bool.not_false, if_true]
          exact hy _ (if_neg hxa)
      · rw [newF_eq]
        have hz : acc.length + (us.filter fun x => decide (x ∉ acc)).length ≤ 1000 := by
          have := List.length_filter_le (fun x => decide (x ∉ acc)) us
          omega
        refine ⟨acc.map .str, _, updM_same, rfl, by rw [List.length_map, List.length_map]; exact small hz, hN2 _ _ ⟨some (.str bb), e9, rfl, ?_⟩⟩
        rw [updM_over, hadd, ← List.map_append]
        unfold addB
        rw [hus, Option.getD_some]; rfl
    · rintro env m' ⟨e8, e9, rfl, rfl⟩
      rw [List.length_map, List.take_length]
      simp only [r_Classes_init_6, tSq, DL.tIfS, tBinT, tBin, tV, tK, DL.tSet, tRt, tRtN, tAs, gSb, tFn, tAC, tA0, tDr, tApp, tExt, tPopA, tLstD, tTupD, tLstM, tCl, tMt, tPr, tNx, tSlD, tON, tOS, tIfD, DL.tAndT, DL.tOrT, DL.tNotT, tTru, tChainT, tNeg, tListM, List.map_cons, List.map_nil, List.length_cons, List.length_nil, List.replicate, List.cons_append, List.nil_append, List.getElem?_cons_zero, List.getElem?_cons_succ, List.set_cons_zero, List.set_cons_succ, Option.some.injEq, exists_eq_left', exists_eq_left, D.bl.injEq, D.int.injEq, D.str.injEq, D.lst.injEq, D.ref.injEq, if_true, if_false, Bool.true_eq_false, Bool.false_eq_true, startD, bodyEnds, Nat.reduceSub, Nat.reduceAdd, true_and, and_true, tFrz]
      refine ⟨lD (mine al w bs), updM_same, ?_⟩
      rw [delM_upd hf]
      refine ⟨.str w, dIx_tup rfl rfl (atI_pos (by decide) rfl), ?_⟩
      simp only [dStore, updM_same, dicA]
      refine ⟨.inr w, rfl, by rw [List.length_map]; unfold alD; rw [List.length_map]; exact smallLt (by omega), ?_⟩
      rw [dput_new (by rw [alD_keys]; exact w1)]
      have hme := mine_entry (w := w) hok w5 w3
      simp only [r_Classes_init_5, tSq, DL.tIfS, tBinT, tBin, tV, tK, DL.tSet, tRt, tRtN, tAs, gSb, tFn, tAC, tA0, tDr, tApp, tExt, tPopA, tLstD, tTupD, tLstM, tCl, tMt, tPr, tNx, tSlD, tON, tOS, tIfD, DL.tAndT, DL.tOrT, DL.tNotT, tTru, tChainT, tNeg, tListM, List.map_cons, List.map_nil, List.length_cons, List.length_nil, List.replicate, List.cons_append, List.nil_append, List.getElem?_cons_zero, List.getElem?_cons_succ, List.set_cons_zero, List.set_cons_succ, Option.some.injEq, exists_eq_left', exists_eq_left, D.bl.injEq, D.int.injEq, D.str.injEq, D.lst.injEq, D.ref.injEq, if_true, if_false, Bool.true_eq_false, Bool.false_eq_true, startD, bodyEnds, Nat.reduceSub, Nat.reduceAdd, true_and, and_true]
      refine ⟨n, _, rfl, by rw [updM_ne nb, updM_ne nb, updM_same], .str w, dIx_tup rfl rfl (atI_pos (by decide) rfl), known.map .str, by rw [updM_ne nb, updM_ne nb, updM_same], by rw [List.length_map]; exact smallLt (by omega), ?_⟩
      refine hN _ _ ⟨_, _, _, _, _, _, rfl, ?_, ?_⟩
      · show updM (updM (updM (updM m n (.lst (known.map .str))) b (dicA (alD al))) b _) n _ = _
        rw [updM_over, updM_comm nb.symm, updM_over, hup, hkn]
        unfold alD
        rw [List.map_append, List.map_append]; rfl
      · rw [hup]; exact hok.snoc hme
  · rintro env m' ⟨e4, e5, e6, e7, e8, e9, rfl, rfl, hok⟩
    rw [eL, List.take_length]
    have m_x : ∀ a c, updM (updM m n a) b c x = some (.ins C [] []) := fun a c => by rw [updM_ne xb, updM_ne xn, hx]
    simp only [r_Classes_init_13, r_Classes_init_12, r_Classes_init_11, tSq, DL.tIfS, tBinT, tBin, tV, tK, DL.tSet, tRt, tRtN, tAs, gSb, tFn, tAC, tA0, tDr, tApp, tExt, tPopA, tLstD, tTupD, tLstM, tCl, tMt, tPr, tNx, tSlD, tON, tOS, tIfD, DL.tAndT, DL.tOrT, DL.tNotT, tTru, tChainT, tNeg, tListM, List.map_cons, List.map_nil, List.length_cons, List.length_nil, List.replicate, List.cons_append, List.nil_append, List.getElem?_cons_zero, List.getElem?_cons_succ, List.set_cons_zero, List.set_cons_succ, Option.some.injEq, exists_eq_left', exists_eq_left, D.bl.injEq, D.int.injEq, D.str.injEq, D.lst.injEq, D.ref.injEq, if_true, if_false, Bool.true_eq_false, Bool.false_eq_true, startD, bodyEnds, Nat.reduceSub, Nat.reduceAdd, true_and, and_true, tFlS, tFrz]
    refine ⟨x, [], [], rfl, m_x _ _, by decide, ?_⟩
    have l1 : ∀ d, look (updM (updM (updM m n (.lst ((knownOf rows).map .str))) b (dicA (alD (upsL rows)))) x d) (.ref n) = .lst ((knownOf rows).map .str) := fun d => by simp only [look, updM_ne xn.symm, updM_ne nb, updM_same, Option.getD_some]
    refine ⟨.tup ((knownOf rows).map .str), by simp only [d1, l1, dTuple], x, [("rows" : Str)], [.tup (rows.map rowD)], rfl, updM_same, by simp, ?_⟩
    rw [updM_over]
    refine ⟨dicA (alD (upsL rows)), by rw [updM_ne xb.symm, updM_same], x, [("rows" : Str), ("names" : Str)], [.tup (rows.map rowD), .tup ((knownOf rows).map .str)], rfl, ?_, by simp, ?_⟩
    · unfold delM
      rw [if_neg xb, updM_same, put2N, put2V]
    · rw [put3N, put3V]
      refine ⟨updM m x (clsD C rows), fun z => ?_, k⟩
      unfold updM delM
      by_cases z1 : z = x
      · left; subst z1; simp [clsD, vsC]
      · by_cases z2 : z = b
        · right; subst z2; simp [z1, hb0]
        · by_cases z3 : z = n
          · right; subst z3; simp [z1, hnn]
          · left; simp [z1, z2, z3]
theorem made_ok {m : M} {C : Addr} {rows : List Row} {Q : DK} (hn : rows.length ≤ 30) (hr : RowsOk rows) (k : Q (clsD C rows) m) : sp_Classes_made C [.ref C, .lst (rows.map rowD)] m Q := by
  refine ⟨rfl, ?_⟩
  show r_Classes_made_1 C _ _ _
  simp only [r_Classes_made_1, tSq, DL.tIfS, tBinT, tBin, tV, tK, DL.tSet, tRt, tRtN, tAs, gSb, tFn, tAC, tA0, tDr, tApp, tExt, tPopA, tLstD, tTupD, tLstM, tCl, tMt, tPr, tNx, tSlD, tON, tOS, tIfD, DL.tAndT, DL.tOrT, DL.tNotT, tTru, tChainT, tNeg, tListM, List.map_cons, List.map_nil, List.length_cons, List.length_nil, List.replicate, List.cons_append, List.nil_append, List.getElem?_cons_zero, List.getElem?_cons_succ, List.set_cons_zero, List.set_cons_succ, Option.some.injEq, exists_eq_left', exists_eq_left, D.bl.injEq, D.int.injEq, D.str.injEq, D.lst.injEq, D.ref.injEq, if_true, if_false, Bool.true_eq_false, Bool.false_eq_true, startD, bodyEnds, Nat.reduceSub, Nat.reduceAdd, true_and, and_true, tFrz, tNwF, tNw, tAS]
  refine ⟨rows.map rowD, .inr rfl, fun x hx => ?_⟩
  rw [List.append_nil]
  refine init_ok updM_same hn hr ?_
  rw [updM_over]
  refine ⟨rfl, clsD C rows, updM_same, ?_⟩
  rw [delM_upd hx]
  exact dropR.self k
theorem get_above (C : Addr) (rows : List Row) : fget ("above" : Str) nsC (vsC rows) = some (dicA (alD (upsL rows))) := by
  simp only [nsC, vsC, fget, if_neg ne_ra, if_neg ne_na, if_true]
theorem within_ok {m : M} {C : Addr} {rows : List Row} {one other : Str} {us : List Str} {Q : DK} (hus : ulk (upsL rows) one = some us) (k : Q (.bl (decide (other ∈ us))) m) : sp_Classes_within C [clsD C rows, .str one, .str other] m Q := by
  refine ⟨rfl, ?_⟩
  show r_Classes_within_1 C _ _ _
  simp only [r_Classes_within_1, tSq, DL.tIfS, tBinT, tBin, tV, tK, DL.tSet, tRt, tRtN, tAs, gSb, tFn, tAC, tA0, tDr, tApp, tExt, tPopA, tLstD, tTupD, tLstM, tCl, tMt, tPr, tNx, tSlD, tON, tOS, tIfD, DL.tAndT, DL.tOrT, DL.tNotT, tTru, tChainT, tNeg, tListM, List.map_cons, List.map_nil, List.length_cons, List.length_nil, List.replicate, List.cons_append, List.nil_append, List.getElem?_cons_zero, List.getElem?_cons_succ, List.set_cons_zero, List.set_cons_succ, Option.some.injEq, exists_eq_left', exists_eq_left, D.bl.injEq, D.int.injEq, D.str.injEq, D.lst.injEq, D.ref.injEq, if_true, if_false, Bool.true_eq_false, Bool.false_eq_true, startD, bodyEnds, Nat.reduceSub, Nat.reduceAdd, true_and, and_true, tFl]
  refine ⟨nsC, vsC rows, _, rfl, get_above C rows, lD us, dIx_al (al := alD (upsL rows)) rfl rfl (by rw [alook_alD, hus]; rfl), .bl (decide (other ∈ us)), ?_, dropR.self k⟩
  unfold dIn
  rw [dInB_strs (.inl rfl)]; rfl
/-! words and rows as data -/
theorem word_okS {w : Str} (h : Word w) : okS w := by
  obtain ⟨h1, h2, h3, h4⟩ := h
  refine ⟨?_, h2⟩
  unfold PyData.strOk
  rw [← Array.all_toList, List.all_eq_true]
  intro c hc
  have hc := h4 c hc
  rw [lt_eq] at hc
  have : ∀ c ∈ Lt, decide (c < 0x110000) = true := by decide
  exact this c hc
theorem RowsOk.take {rows : List Row} (h : RowsOk rows) (n : Nat) : RowsOk (rows.take n) := fun i r e => by
  have hi : i < (rows.take n).length := by
    rcases Nat.lt_or_ge i (rows.take n).length with z | z
    · exact z
    · rw [List.getElem?_eq_none z] at e; cases e
  rw [List.length_take] at hi
  rw [List.getElem?_take_of_lt (by omega)] at e
  rw [List.take_take, Nat.min_eq_left (by omega)]
  exact h i r e
theorem known_okS {rows : List Row} (h : RowsOk rows) {x : Str} (hx : x ∈ knownOf rows) : okS x := by
  unfold knownOf at hx
  rcases List.mem_append.mp hx with hx | hx
  · simp only [List.mem_cons, List.not_mem_nil, or_false] at hx
    rcases hx with rfl | rfl <;> exact ⟨by decide +kernel, by decide +kernel⟩
  · obtain ⟨r, hr, rfl⟩ := List.mem_map.mp hx
    obtain ⟨j, hj⟩ := List.mem_iff_getElem?.mp hr
    exact word_okS (h j r hj).2.1
theorem known_take {rows : List Row} {i : Nat} {x : Str} (hx : x ∈ knownOf (rows.take i)) : x ∈ knownOf rows := by
  unfold knownOf at hx ⊢
  rcases List.mem_append.mp hx with hx | hx
  · exact List.mem_append_left _ hx
  · refine List.mem_append_right _ ?_
    obtain ⟨r, hr, rfl⟩ := List.mem_map.mp hx
    exact List.mem_map_of_mem (List.mem_of_mem_take hr)
structure OkRow (r : Row) : Prop where
  w : okS r.1
  b : ∀ b ∈ r.2, okS b
  l : r.2.length ≤ 32
theorem okRows {rows : List Row} (hn : rows.length ≤ 30) (h : RowsOk rows) : ∀ r ∈ rows, OkRow r := fun r hr => by
  obtain ⟨j, hj⟩ := List.mem_iff_getElem?.mp hr
  obtain ⟨h1, h2, h3, h4, h5⟩ := h j r hj
  refine ⟨word_okS h2, fun b hb => known_okS h (known_take (h5 b hb)), ?_⟩
  have := nd_len r.2 _ h4 h5
  rw [knownOf_len, List.length_take] at this
  omega
theorem fit_row {r : Row} {n : Nat} (h : OkRow r) : Fit (rowD r) (n + 1) 710 := by
  have g := FitL.tup (FitL.cons (fit_str (n := n) h.w) (FitL.all (f := D.str) r.2 fun s hs => fit_str (n := n) (h.b s hs)))
  exact g.le (by have := h.l; omega)
theorem fit_rows {rows : List Row} (hn : rows.length ≤ 31) (h : ∀ r ∈ rows, OkRow r) {n : Nat} : Fit (.tup (rows.map rowD)) (n + 2) 25000 :=
  (FitL.tup (FitL.all rows fun r hr => fit_row (n := n) (h r hr))).le (by omega)
theorem fit_names {names : List Str} (hn : names.length ≤ 40) (h : ∀ s ∈ names, okS s) {n : Nat} : Fit (.tup (names.map .str)) (n + 1) 1000 :=
  (FitL.tup (FitL.all (f := D.str) names fun s hs => fit_str (n := n) (h s hs))).le (by omega)
/-! == of rows -/
theorem eqv_strs : ∀ xs ys : List Str, PyData.eqvAll (toPdL (xs.map D.str)) (toPdL (ys.map D.str)) = decide (xs = ys)
  | [], [] => rfl
  | [], _ :: _ => rfl
  | _ :: _, [] => rfl
  | x :: xs, y :: ys => by
    simp only [List.map_cons, toPdL, toPd, PyData.eqvAll, PyData.eqv, eqv_strs xs ys, List.cons.injEq]
    by_cases h : x = y <;> simp [h]
theorem eqv_row (r q : Row) : PyData.eqv (toPd (rowD r)) (toPd (rowD q)) = decide (r = q) := by
  obtain ⟨a, as⟩ := r
  obtain ⟨b, bs⟩ := q
  have := eqv_strs (a :: as) (b :: bs)
  simp only [rowD, toPd, PyData.eqv]
  rw [show (D.str a :: as.map D.str) = (a :: as).map D.str from rfl, show (D.str b :: bs.map D.str) = (b :: bs).map D.str from rfl, this]
  simp [Prod.ext_iff]
theorem eqv_rows : ∀ xs ys : List Row, PyData.eqvAll (toPdL (xs.map rowD)) (toPdL (ys.map rowD)) = decide (xs = ys)
  | [], [] => rfl
  | [], _ :: _ => rfl
  | _ :: _, [] => rfl
  | x :: xs, y :: ys => by
    simp only [List.map_cons, toPdL, PyData.eqvAll, eqv_row, eqv_rows xs ys, List.cons.injEq]
    by_cases h : x = y <;> simp [h]
theorem eq_rows {xs ys : List Row} (hx : xs.length ≤ 31) (hy : ys.length ≤ 31) (ox : ∀ r ∈ xs, OkRow r) (oy : ∀ r ∈ ys, OkRow r) : dEqB (.tup (xs.map rowD)) (.tup (ys.map rowD)) = some (decide (xs = ys)) := by
  unfold dEqB
  simp only
  rw [if_pos ⟨(fit_rows (n := 58) hx ox).dat, (fit_rows (n := 58) hy oy).dat⟩]
  exact congrArg some (eqv_rows xs ys)
/-! the methods -/
theorem get_rowsC (C : Addr) (rows : List Row) : fget ("rows" : Str) nsC (vsC rows) = some (.tup (rows.map rowD)) := by simp only [nsC, vsC, fget, if_true]
theorem get_namesC (C : Addr) (rows : List Row) : fget ("names" : Str) nsC (vsC rows) = some (.tup ((knownOf rows).map .str)) := by simp only [nsC, vsC, fget, if_neg ne_rn, if_true]
theorem isi_cls {m : M} {CB CC CL : Addr} {rows : List Row} : dIsiO (JO (tb_isi CB CC CL)) m [clsD CC rows, .ref CC] = some (.bl true) := by
  have h1 : tyD (look m (clsD CC rows)) = some (.inr CC) := rfl
  have h2 : clD (.ref CC) = some (.inr CC) := rfl
  unfold dIsiO
  simp only [h1, h2]
  have : JO (tb_isi CB CC CL) (.inr CC) (.inr CC) = some true := by
    unfold tb_isi
    simp [JO]
  rw [this]; rfl
theorem eq_cls {m : M} {CB C CL : Addr} {a b : List Row} {Q : DK} (ha : a.length ≤ 30) (hb : b.length ≤ 30) (ra : RowsOk a) (rb : RowsOk b) (k : Q (.bl (decide (a = b))) m) : sp_Classes_eq CB C CL [clsD C a, clsD C b] m Q := by
  refine ⟨rfl, ?_⟩
  show r_Classes_eq_1 CB C CL _ _ _
  simp only [r_Classes_eq_1, tSq, DL.tIfS, tBinT, tBin, tV, tK, DL.tSet, tRt, tRtN, tAs, gSb, tFn, tAC, tA0, tDr, tApp, tExt, tPopA, tLstD, tTupD, tLstM, tCl, tMt, tPr, tNx, tSlD, tON, tOS, tIfD, DL.tAndT, DL.tOrT, DL.tNotT, tTru, tChainT, tNeg, tListM, List.map_cons, List.map_nil, List.length_cons, List.length_nil, List.replicate, List.cons_append, List.nil_append, List.getElem?_cons_zero, List.getElem?_cons_succ, List.set_cons_zero, List.set_cons_succ, Option.some.injEq, exists_eq_left', exists_eq_left, D.bl.injEq, D.int.injEq, D.str.injEq, D.lst.injEq, D.ref.injEq, if_true, if_false, Bool.true_eq_false, Bool.false_eq_true, startD, bodyEnds, Nat.reduceSub, Nat.reduceAdd, true_and, and_true, tFl, tAndV]
  refine ⟨_, isi_cls, true, rfl, ?_⟩
  simp only [if_true]
  refine ⟨_, _, _, rfl, get_rowsC C a, _, _, _, rfl, get_rowsC C b, .bl (decide (a = b)), ?_, dropR.self k⟩
  show (dEqB (.tup (a.map rowD)) (.tup (b.map rowD))).map D.bl = _
  rw [eq_rows (by omega) (by omega) (okRows ha ra) (okRows hb rb)]; rfl
theorem ins_of (m : M) (C : Addr) (rows : List Row) : ∃ ns vs, look m (clsD C rows) = .ins C ns vs := ⟨_, _, rfl⟩
theorem right_cls (m : M) (C : Addr) (rows : List Row) : rightOk C (look m (clsD C rows)) := ⟨_, rfl, fun C' e => by cases e; rfl⟩
end K66
namespace K66
open PySem PySem.Spec PyProof.Rows DL
open SX (S S_len S_cat S_inj S_tl)
/-! what stands above a name, purely -/
def up (rows : List Row) (x : Str) : List Str := (ulk (upsL rows) x).getD []
theorem ulk_app : ∀ {al : Al} {e : Str × List Str} {x : Str}, x ∈ keysA al → ulk (al ++ [e]) x = ulk al x
  | [], e, x, h => by cases h
  | a :: al, e, x, h => by
    show (if a.1 = x then some a.2 else ulk (al ++ [e]) x) = if a.1 = x then some a.2 else ulk al x
    by_cases g : a.1 = x
    · rw [if_pos g, if_pos g]
    · rw [if_neg g, if_neg g]
      refine ulk_app ?_
      rcases List.mem_cons.mp h with z | z
      · exact absurd z.symm g
      · exact z
theorem ulk_last : ∀ {al : Al} {w : Str} {us : List Str}, w ∉ keysA al → ulk (al ++ [(w, us)]) w = some us
  | [], w, us, _ => if_pos rfl
  | a :: al, w, us, h => by
    show (if a.1 = w then some a.2 else ulk (al ++ [(w, us)]) w) = some us
    rw [if_neg fun z => h (by rw [← z]; exact List.mem_cons_self)]
    exact ulk_last fun z => h (List.mem_cons_of_mem _ z)
theorem up_more (rows : List Row) {x : Str} (hx : x ∈ knownOf rows) : ∀ more : List Row, up (rows ++ more) x = up rows x := by
  intro more
  have main : ∀ (n : Nat), up (rows ++ more.take n) x = up rows x := by
    intro n
    induction n with
    | zero => simp
    | succ n ih =>
      cases e : more[n]? with
      | none =>
        rw [List.take_of_length_le (by have := List.getElem?_eq_none_iff.mp e; omega)]
        rw [List.take_of_length_le (by have := List.getElem?_eq_none_iff.mp e; omega)] at ih
        exact ih
      | some r =>
        have et : more.take (n + 1) = more.take n ++ [r] := by rw [List.take_add_one, e]; rfl
        rw [et, ← List.append_assoc]
        unfold up at ih ⊢
        rw [upsL_snoc]
        unfold upStep
        rw [ulk_app (by rw [upsL_keys]; unfold knownOf at hx ⊢; rw [List.map_append]; rcases List.mem_append.mp hx with z | z
                        · exact List.mem_append_left _ z
                        · exact List.mem_append_right _ (List.mem_append_left _ z))]
        exact ih
  have := main more.length
  rwa [List.take_length] at this
theorem fold_mem {al : Al} {y : Str} : ∀ (bs acc : List Str), y ∈ bs.foldl (addB al) acc ↔ y ∈ acc ∨ ∃ b ∈ bs, y ∈ (ulk al b).getD []
  | [], acc => by simp
  | b :: bs, acc => by
    rw [List.foldl_cons, fold_mem bs]
    unfold addB
    rw [List.mem_append, List.mem_filter, decide_eq_true_eq]
    constructor
    · rintro ((h | ⟨h, _⟩) | ⟨c, hc, h⟩)
      · exact .inl h
      · exact .inr ⟨b, List.mem_cons_self, h⟩
      · exact .inr ⟨c, List.mem_cons_of_mem _ hc, h⟩
    · rintro (h | ⟨c, hc, h⟩)
      · exact .inl (.inl h)
      · rcases List.mem_cons.mp hc with rfl | hc
        · by_cases g : y ∈ acc
          · exact .inl (.inl g)
          · exact .inl (.inr ⟨h, g⟩)
        · exact .inr ⟨c, hc, h⟩
theorem mem_known {rows : List Row} {r : Row} (h : r ∈ rows) : r.1 ∈ knownOf rows := List.mem_append_right _ (List.mem_map_of_mem h)
theorem up_row {rows : List Row} (hr : RowsOk rows) {w : Str} {bs : List Str} (h : (w, bs) ∈ rows) (y : Str) : y ∈ up rows w ↔ y = w ∨ ∃ b ∈ bs, y ∈ up rows b := by
  obtain ⟨i, hi⟩ := List.mem_iff_getElem?.mp h
  obtain ⟨hl, he⟩ := List.getElem?_eq_some_iff.mp hi
  have ok := hr i _ hi
  have e1 : rows = rows.take i ++ ((w, bs) :: rows.drop (i + 1)) := by
    rw [← he, ← List.drop_eq_getElem_cons hl, List.take_append_drop]
  have e2 : rows = (rows.take i ++ [(w, bs)]) ++ rows.drop (i + 1) := by rw [List.append_assoc]; exact e1
  have uw : up rows w = mine (upsL (rows.take i)) w bs := by
    have hk : w ∈ knownOf (rows.take i ++ [(w, bs)]) := by
      rw [knownOf_snoc]
      exact List.mem_append_right _ (List.mem_singleton.mpr rfl)
    have z := up_more (rows.take i ++ [(w, bs)]) hk (rows.drop (i + 1))
    rw [← e2] at z
    rw [z]
    unfold up
    rw [upsL_snoc]
    unfold upStep
    rw [ulk_last (by rw [upsL_keys]; exact ok.1)]
    rfl
  have ub : ∀ b ∈ bs, up rows b = (ulk (upsL (rows.take i)) b).getD [] := fun b hb => by
    have hk := ok.2.2.2.2 b hb
    have z := up_more (rows.take i) hk (rows.drop i)
    rw [List.take_append_drop] at z
    exact z
  rw [uw]
  unfold mine
  rw [fold_mem]
  constructor
  · rintro (h | ⟨b, hb, h⟩)
    · exact .inl (by simpa using h)
    · exact .inr ⟨b, hb, by rw [ub b hb]; exact h⟩
  · rintro (h | ⟨b, hb, h⟩)
    · exact .inl (by simpa using h)
    · exact .inr ⟨b, hb, by rw [← ub b hb]; exact h⟩
theorem up_base {x : Str} (hx : x ∈ knownOf []) (rows : List Row) : up rows x = up [] x := by
  have := up_more [] hx rows
  simpa using this
theorem k_error (rows : List Row) : ("error" : Str) ∈ knownOf rows := by unfold knownOf; simp
theorem k_vacant (rows : List Row) : ("vacant" : Str) ∈ knownOf rows := by unfold knownOf; simp
theorem up_error (rows : List Row) : up rows ("error" : Str) = [("error" : Str)] := by rw [up_base (k_error [])]; rfl
theorem up_vacant (rows : List Row) : up rows ("vacant" : Str) = [("vacant" : Str), ("error" : Str)] := by
  rw [up_base (k_vacant [])]
  show (ulk base0 ("vacant" : Str)).getD [] = _
  unfold base0
  simp only [ulk, if_neg ev_ne, if_true, Option.getD_some]
theorem known_ind {rows : List Row} (hr : RowsOk rows) {P : Str → Prop} (h1 : P "error") (h2 : P "vacant") (h3 : ∀ w bs, (w, bs) ∈ rows → (∀ b ∈ bs, P b) → P w) : ∀ x ∈ knownOf rows, P x := by
  have main : ∀ i, i ≤ rows.length → ∀ x ∈ knownOf (rows.take i), P x := by
    intro i
    induction i with
    | zero =>
      intro _ x hx
      simp only [List.take_zero, knownOf, List.map_nil, List.append_nil, List.mem_cons, List.not_mem_nil, or_false] at hx
      rcases hx with rfl | rfl
      · exact h1
      · exact h2
    | succ i ih =>
      intro hi x hx
      have hi2 : rows[i]? = some rows[i] := by simp
      have et : rows.take (i + 1) = rows.take i ++ [rows[i]] := by rw [List.take_add_one, hi2]; rfl
      rw [et, knownOf_snoc] at hx
      rcases List.mem_append.mp hx with hx | hx
      · exact ih (by omega) x hx
      · rw [List.mem_singleton] at hx
        subst hx
        have ok := hr i _ hi2
        exact h3 rows[i].1 rows[i].2 (List.mem_of_getElem? hi2) fun b hb => ih (by omega) b (ok.2.2.2.2 b hb)
  intro x hx
  have := main rows.length (Nat.le_refl _)
  rw [List.take_length] at this
  exact this x hx
theorem not_head {rows : List Row} (hnd : (knownOf rows).Nodup) {w : Str} {bs : List Str} (h : (w, bs) ∈ rows) : w ≠ "error" ∧ w ≠ "vacant" := by
  have hm : w ∈ rows.map (·.1) := List.mem_map.mpr ⟨_, h, rfl⟩
  have hd := (List.nodup_append.mp hnd).2.2
  exact ⟨fun e => hd "error" (by simp) w hm e.symm, fun e => hd "vacant" (by simp) w hm e.symm⟩
theorem head_uniq {rows : List Row} (hnd : (knownOf rows).Nodup) {w : Str} {bs cs : List Str} (h : (w, bs) ∈ rows) (g : (w, cs) ∈ rows) : bs = cs := by
  obtain ⟨i, hi⟩ := List.mem_iff_getElem?.mp h
  obtain ⟨j, hj⟩ := List.mem_iff_getElem?.mp g
  have nd := (List.nodup_append.mp hnd).2.1
  have a1 : (rows.map (·.1))[i]? = some w := by rw [List.getElem?_map, hi]; rfl
  have a2 : (rows.map (·.1))[j]? = some w := by rw [List.getElem?_map, hj]; rfl
  have : i = j := L2.nodup_ix nd a1 a2
  subst this
  rw [hi] at hj
  cases hj
  rfl
theorem up_me {rows : List Row} (hr : RowsOk rows) : ∀ x ∈ knownOf rows, x ∈ up rows x ∧ ("error" : Str) ∈ up rows x := by
  refine known_ind hr (by rw [up_error]; simp) (by rw [up_vacant]; simp) fun w bs h ih => ?_
  refine ⟨(up_row hr h w).mpr (.inl rfl), (up_row hr h _).mpr (.inr ?_)⟩
  obtain ⟨i, hi⟩ := List.mem_iff_getElem?.mp h
  have ok := hr i _ hi
  obtain ⟨b, hb⟩ := List.exists_mem_of_ne_nil _ ok.2.2.1
  exact ⟨b, hb, (ih b hb).2⟩
theorem base_known {rows : List Row} (hr : RowsOk rows) {w b : Str} {bs : List Str} (h : (w, bs) ∈ rows) (hb : b ∈ bs) : b ∈ knownOf rows := by
  obtain ⟨i, hi⟩ := List.mem_iff_getElem?.mp h
  have z := (hr i _ hi).2.2.2.2 b hb
  unfold knownOf at z ⊢
  rcases List.mem_append.mp z with z | z
  · exact List.mem_append_left _ z
  · exact List.mem_append_right _ (((List.take_sublist i rows).map _).subset z)
theorem up_known {rows : List Row} (hr : RowsOk rows) : ∀ x ∈ knownOf rows, ∀ y ∈ up rows x, y ∈ knownOf rows := by
  refine known_ind hr (by rw [up_error]; intro y hy; rw [List.mem_singleton] at hy; subst hy; exact k_error rows) (fun y hy => ?_) fun w bs h ih y hy => ?_
  · rw [up_vacant] at hy
    simp only [List.mem_cons, List.not_mem_nil, or_false] at hy
    rcases hy with rfl | rfl
    · exact k_vacant rows
    · exact k_error rows
  · rcases (up_row hr h y).mp hy with rfl | ⟨b, hb, hy⟩
    · exact mem_known h
    · exact ih b hb y hy
theorem up_trans {rows : List Row} (hr : RowsOk rows) (hnd : (knownOf rows).Nodup) {y b : Str} {bs : List Str} (h : (y, bs) ∈ rows) (hb : b ∈ bs) : ∀ x ∈ knownOf rows, y ∈ up rows x → b ∈ up rows x := by
  have nh := not_head hnd h
  refine known_ind hr (fun hy => ?_) (fun hy => ?_) fun w cs hw ih hy => ?_
  · rw [up_error, List.mem_singleton] at hy
    exact absurd hy nh.1
  · rw [up_vacant] at hy
    simp only [List.mem_cons, List.not_mem_nil, or_false] at hy
    rcases hy with rfl | rfl
    · exact absurd rfl nh.2
    · exact absurd rfl nh.1
  · rcases (up_row hr hw y).mp hy with rfl | ⟨c, hc, hy⟩
    · have := head_uniq hnd h hw
      subst this
      exact (up_row hr hw b).mpr (.inr ⟨b, hb, (up_me hr b (base_known hr h hb)).1⟩)
    · exact (up_row hr hw b).mpr (.inr ⟨c, hc, ih c hc hy⟩)
theorem up_least {rows : List Row} (hr : RowsOk rows) {T : List Str} (he : ("error" : Str) ∈ T) (hc : ∀ w bs, (w, bs) ∈ rows → w ∈ T → ∀ b ∈ bs, b ∈ T) : ∀ x ∈ knownOf rows, x ∈ T → ∀ y ∈ up rows x, y ∈ T := by
  refine known_ind hr (fun _ y hy => ?_) (fun hv y hy => ?_) fun w bs h ih hw y hy => ?_
  · rw [up_error, List.mem_singleton] at hy
    subst hy; exact he
  · rw [up_vacant] at hy
    simp only [List.mem_cons, List.not_mem_nil, or_false] at hy
    rcases hy with rfl | rfl
    · exact hv
    · exact he
  · rcases (up_row hr h y).mp hy with rfl | ⟨b, hb, hy⟩
    · exact hw
    · exact ih b hb (hc w bs h hw b hb) y hy
/-- what a word's row puts behind those that wait -/
def basesOf (rows : List Row) (w : Str) : List Str := (rows.filter fun r => decide (r.1 = w)).flatMap (·.2)
theorem bases_mem {rows : List Row} {w b : Str} : b ∈ basesOf rows w ↔ ∃ bs, (w, bs) ∈ rows ∧ b ∈ bs := by
  unfold basesOf
  rw [List.mem_flatMap]
  constructor
  · rintro ⟨r, hr, hb⟩
    obtain ⟨h1, h2⟩ := List.mem_filter.mp hr
    have h2 := of_decide_eq_true h2
    exact ⟨r.2, by rw [← h2]; exact h1, hb⟩
  · rintro ⟨bs, h, hb⟩
    exact ⟨(w, bs), List.mem_filter.mpr ⟨h, decide_eq_true rfl⟩, hb⟩
theorem bases_len {rows : List Row} (hnd : (rows.map (·.1)).Nodup) (h2 : ∀ r ∈ rows, r.2.length ≤ 2) (w : Str) : (basesOf rows w).length ≤ 2 := by
  induction rows with
  | nil => exact Nat.zero_le _
  | cons r rows ih =>
    rw [List.map_cons, List.nodup_cons] at hnd
    have ih := ih hnd.2 fun x hx => h2 x (List.mem_cons_of_mem _ hx)
    by_cases g : r.1 = w
    · have e : rows.filter (fun r => decide (r.1 = w)) = [] := by
        rw [List.filter_eq_nil_iff]
        intro x hx hd
        have hd := of_decide_eq_true hd
        exact hnd.1 (List.mem_map.mpr ⟨x, hx, hd.trans g.symm⟩)
      unfold basesOf
      rw [List.filter_cons_of_pos (by simpa using g), e]
      simpa using h2 r List.mem_cons_self
    · unfold basesOf at ih ⊢
      rw [List.filter_cons_of_neg (by simpa using g)]
      exact ih
theorem bases_take {rows : List Row} {w : Str} {i : Nat} {r : Row} (h : rows[i]? = some r) : basesOf (rows.take (i + 1)) w = basesOf (rows.take i) w ++ (if r.1 = w then r.2 else []) := by
  have et : rows.take (i + 1) = rows.take i ++ [r] := by rw [List.take_add_one, h]; rfl
  rw [et]
  unfold basesOf
  rw [List.filter_append, List.flatMap_append]
  congr 1
  by_cases g : r.1 = w
  · rw [List.filter_cons_of_pos (by simpa using g), if_pos g]; simp
  · rw [List.filter_cons_of_neg (by simpa using g), if_neg g]; simp
/-- those that are not met -/
def left_ (rows : List Row) (Mt : List Str) : Nat := ((knownOf rows).filter fun x => decide (x ∉ Mt)).length
theorem left_less {rows : List Row} {Mt : List Str} {w : Str} (hw : w ∈ knownOf rows) (hn : w ∉ Mt) : left_ rows (Mt ++ [w]) + 1 ≤ left_ rows Mt := by
  unfold left_
  have e : (knownOf rows).filter (fun x => decide (x ∉ Mt ++ [w])) = ((knownOf rows).filter fun x => decide (x ∉ Mt)).filter fun x => decide (x ≠ w) := by
    rw [List.filter_filter]
    refine List.filter_congr fun x _ => ?_
    by_cases a : x ∈ Mt <;> by_cases b : x = w <;> simp [a, b]
  rw [e]
  refine List.length_filter_lt_length_iff_exists.mpr ⟨w, List.mem_filter.mpr ⟨hw, decide_eq_true hn⟩, by simp⟩
end K66
namespace K66
open PySem PySem.Spec PyProof.Rows DL
open SX (S S_len S_cat S_inj S_tl)
/-- all that stood stands -/
def Ext (m m' : M) : Prop := ∀ b, m b = none ∨ m' b = m b
theorem Ext.refl (m : M) : Ext m m := fun b => .inr rfl
theorem Ext.put {m m' : M} {p : Addr} {d : D} (e : Ext m m') (hp : m p = none) : Ext m (updM m' p d) := fun b => by
  by_cases h : b = p
  · subst h; exact .inl hp
  · rcases e b with z | z
    · exact .inl z
    · exact .inr (by rw [updM_ne h]; exact z)
theorem Ext.free {m m' : M} {p : Addr} (e : Ext m m') (hp : m' p = none) : m p = none := by
  rcases e p with z | z
  · exact z
  · rw [← z]; exact hp
theorem Ext.drop {m m' : M} {Q : DK} {d : D} (e : Ext m m') (q : Q d m) : dropR Q d m' := ⟨m, fun b => (e b).elim (fun z => .inr z) fun z => .inl z.symm, q⟩
theorem datL_strs {xs : List Str} (h : ∀ x ∈ xs, PyData.strOk x = true) (n : Nat) : datL n (xs.map .str) = true := by
  rw [datL_all, List.all_map, List.all_eq_true]
  intro x hx
  show dat n (.str x) = true
  cases n <;> exact h x hx
structure WInv (rows : List Row) (one : Str) (W Mt : List Str) : Prop where
  er : ("error" : Str) ∈ Mt
  at_ : one ∈ W ∨ one ∈ Mt
  w : ∀ x ∈ W, x ∈ up rows one
  mt : ∀ x ∈ Mt, x ∈ up rows one
  cl : ∀ w bs, (w, bs) ∈ rows → w ∈ Mt → ∀ b ∈ bs, b ∈ W ∨ b ∈ Mt
  nd : Mt.Nodup
theorem loop_ok {m : M} {rows : List Row} {one : Str} {other : D} {E : DEnds} (hr : RowsOk rows) (hn : rows.length ≤ 6) (hnd : (knownOf rows).Nodup) (h22 : ∀ r ∈ rows, r.2.length ≤ 2) (hone : one ∈ knownOf rows)
    (hE : ∀ (e5 e6 : Option D) (pw pm : Addr) (m' : M) (Mt : List Str), Ext m m' → m' pm = some (.lst (Mt.map .str)) → (∀ y, y ∈ Mt ↔ y ∈ up rows one) → E.nx [some (.lst (rows.map rowD)), some (.str one), some other, some (.ref pw), some (.ref pm), e5, e6] m') :
    ∀ (n : Nat) (W Mt : List Str) (pw pm : Addr) (e5 e6 : Option D) (m' : M), Ext m m' → m pw = none → m pm = none → pw ≠ pm → m' pw = some (.lst (W.map .str)) → m' pm = some (.lst (Mt.map .str)) → WInv rows one W Mt → W.length + 3 * left_ rows Mt < n → n ≤ 60 →
      whileD (tBinT dNe (tV 3) (tLstD tA0)) r_l_within_6 E n [some (.lst (rows.map rowD)), some (.str one), some other, some (.ref pw), some (.ref pm), e5, e6] m'
  | 0, _, _, _, _, _, _, _, _, _, _, _, _, _, _, h, _ => absurd h (Nat.not_lt_zero _)
  | n + 1, W, Mt, pw, pm, e5, e6, m', ext, fw, fm, ne, hW, hM, I, hf, h60 => by
    have lw : look m' (.ref pw) = .lst (W.map .str) := by simp only [look, hW, Option.getD_some]
    have sk : ∀ x ∈ up rows one, x ∈ knownOf rows := up_known hr one hone
    have sok : ∀ x ∈ W, PyData.strOk x = true := fun x hx => (known_okS hr (sk x (I.w x hx))).1
    have klen := knownOf_len rows
    have lM : Mt.length ≤ 8 := by
      have := nd_len _ _ I.nd fun x hx => sk x (I.mt x hx)
      omega
    have ih := loop_ok hr hn hnd h22 hone hE n
    obtain ⟨WD, hWD⟩ : ∃ WD, WD = whileD (tBinT dNe (tV 3) (tLstD tA0)) r_l_within_6 E n := ⟨_, rfl⟩
    rw [← hWD] at ih
    simp only [whileD]
    rw [← hWD]
    simp only [tSq, DL.tIfS, tBinT, tBin, tV, tK, DL.tSet, tRt, tRtN, tAs, gSb, tFn, tAC, tA0, tDr, tApp, tExt, tPopA, tLstD, tTupD, tLstM, tCl, tMt, tPr, tNx, tSlD, tON, tOS, tIfD, DL.tAndT, DL.tOrT, DL.tNotT, tTru, tChainT, tNeg, tListM, List.map_cons, List.map_nil, List.length_cons, List.length_nil, List.replicate, List.cons_append, List.nil_append, List.getElem?_cons_zero, List.getElem?_cons_succ, List.set_cons_zero, List.set_cons_succ, Option.some.injEq, exists_eq_left', exists_eq_left, D.bl.injEq, D.int.injEq, D.str.injEq, D.lst.injEq, D.ref.injEq, if_true, if_false, Bool.true_eq_false, Bool.false_eq_true, startD, bodyEnds, Nat.reduceSub, Nat.reduceAdd, true_and, and_true]
    have e1 : dNe m' (.ref pw) (.lst []) = some (.bl (!decide (W.map D.str = []))) := by
      unfold dNe
      rw [lw]
      show (dEqB (.lst (W.map .str)) (.lst [])).map _ = _
      rw [dEqB_nil (datL_strs sok 59)]; rfl
    refine ⟨by decide, _, e1, ?_⟩
    rcases List.eq_nil_or_concat W with rfl | ⟨W', x, rfl⟩
    · simp only [List.map_nil, decide_true, Bool.not_true, Bool.false_eq_true, if_false]
      refine hE e5 e6 pw pm m' Mt ext hM fun y => ⟨I.mt y, ?_⟩
      have h1 : one ∈ Mt := I.at_.elim (fun z => by cases z) id
      exact up_least hr I.er (fun w bs h hw b hb => (I.cl w bs h hw b hb).elim (fun z => by cases z) id) one hone h1 y
    · rw [List.concat_eq_append] at *
      have en : ¬ (W' ++ [x]).map D.str = [] := by simp
      simp only [en, decide_false, Bool.not_false, if_true]
      have hx1 := I.w x (by simp)
      have hxk := sk x hx1
      simp only [r_l_within_6, tSq, DL.tIfS, tBinT, tBin, tV, tK, DL.tSet, tRt, tRtN, tAs, gSb, tFn, tAC, tA0, tDr, tApp, tExt, tPopA, tLstD, tTupD, tLstM, tCl, tMt, tPr, tNx, tSlD, tON, tOS, tIfD, DL.tAndT, DL.tOrT, DL.tNotT, tTru, tChainT, tNeg, tListM, List.map_cons, List.map_nil, List.length_cons, List.length_nil, List.replicate, List.cons_append, List.nil_append, List.getElem?_cons_zero, List.getElem?_cons_succ, List.set_cons_zero, List.set_cons_succ, Option.some.injEq, exists_eq_left', exists_eq_left, D.bl.injEq, D.int.injEq, D.str.injEq, D.lst.injEq, D.ref.injEq, if_true, if_false, Bool.true_eq_false, Bool.false_eq_true, startD, bodyEnds, Nat.reduceSub, Nat.reduceAdd, true_and, and_true, tPop0]
      have hlast : ((W' ++ [x]).map D.str)[((W' ++ [x]).map D.str).length - 1]? = some (.str x) := by
        rw [List.map_append]
        simp
      refine ⟨pw, _, .str x, rfl, hW, hlast, ?_⟩
      have hdl : ((W' ++ [x]).map D.str).dropLast = W'.map .str := by rw [List.map_append]; simp
      rw [hdl]
      have hM1 : updM m' pw (.lst (W'.map .str)) pm = some (.lst (Mt.map .str)) := by rw [updM_ne ne.symm]; exact hM
      have lM1 : look (updM m' pw (.lst (W'.map .str))) (.ref pm) = .lst (Mt.map .str) := by simp only [look, hM1, Option.getD_some]
      have ext1 := ext.put (d := .lst (W'.map .str)) fw
      simp only [r_l_within_5, tSq, DL.tIfS, tBinT, tBin, tV, tK, DL.tSet, tRt, tRtN, tAs, gSb, tFn, tAC, tA0, tDr, tApp, tExt, tPopA, tLstD, tTupD, tLstM, tCl, tMt, tPr, tNx, tSlD, tON, tOS, tIfD, DL.tAndT, DL.tOrT, DL.tNotT, tTru, tChainT, tNeg, tListM, List.map_cons, List.map_nil, List.length_cons, List.length_nil, List.replicate, List.cons_append, List.nil_append, List.getElem?_cons_zero, List.getElem?_cons_succ, List.set_cons_zero, List.set_cons_succ, Option.some.injEq, exists_eq_left', exists_eq_left, D.bl.injEq, D.int.injEq, D.str.injEq, D.lst.injEq, D.ref.injEq, if_true, if_false, Bool.true_eq_false, Bool.false_eq_true, startD, bodyEnds, Nat.reduceSub, Nat.reduceAdd, true_and, and_true]
      have e2 : dNotIn (updM m' pw (.lst (W'.map .str))) (.str x) (.ref pm) = some (.bl (!decide (x ∈ Mt))) := by
        unfold dNotIn
        rw [dInB_strs (.inl lM1)]; rfl
      refine ⟨_, e2, ?_⟩
      rw [List.length_append, List.length_singleton] at hf
      by_cases hx : x ∈ Mt
      · simp only [hx, decide_true, Bool.not_true, Bool.false_eq_true, if_false]
        refine ih W' Mt pw pm _ _ _ ext1 fw fm ne updM_same hM1 ⟨I.er, ?_, fun y hy => I.w y (List.mem_append_left _ hy), I.mt, fun w bs h hw b hb => ?_, I.nd⟩ (by omega) (by omega)
        · rcases I.at_ with z | z
          · rcases List.mem_append.mp z with z | z
            · exact .inl z
            · rw [List.mem_singleton] at z; subst z; exact .inr hx
          · exact .inr z
        · rcases I.cl w bs h hw b hb with z | z
          · rcases List.mem_append.mp z with z | z
            · exact .inl z
            · rw [List.mem_singleton] at z; subst z; exact .inr hx
          · exact .inr z
      · simp only [hx, decide_false, Bool.not_false, if_true]
        simp only [r_l_within_4, tSq, DL.tIfS, tBinT, tBin, tV, tK, DL.tSet, tRt, tRtN, tAs, gSb, tFn, tAC, tA0, tDr, tApp, tExt, tPopA, tLstD, tTupD, tLstM, tCl, tMt, tPr, tNx, tSlD, tON, tOS, tIfD, DL.tAndT, DL.tOrT, DL.tNotT, tTru, tChainT, tNeg, tListM, List.map_cons, List.map_nil, List.length_cons, List.length_nil, List.replicate, List.cons_append, List.nil_append, List.getElem?_cons_zero, List.getElem?_cons_succ, List.set_cons_zero, List.set_cons_succ, Option.some.injEq, exists_eq_left', exists_eq_left, D.bl.injEq, D.int.injEq, D.str.injEq, D.lst.injEq, D.ref.injEq, if_true, if_false, Bool.true_eq_false, Bool.false_eq_true, startD, bodyEnds, Nat.reduceSub, Nat.reduceAdd, true_and, and_true]
        refine ⟨pm, _, rfl, hM1, _, hM1, by rw [List.length_map]; exact smallLt (by omega), ?_⟩
        have eM : Mt.map D.str ++ [.str x] = (Mt ++ [x]).map .str := by rw [List.map_append]; rfl
        rw [eM]
        have bl : ∀ i, (basesOf (rows.take i) x).length ≤ 2 := fun i => bases_len (((List.take_sublist i rows).map (·.1)).nodup (List.nodup_append.mp hnd).2.1) (fun r hrr => h22 r (List.mem_of_mem_take hrr)) x
        have hW6 : W'.length ≤ 60 := by omega
        simp only [r_l_within_3, tSq, DL.tIfS, tBinT, tBin, tV, tK, DL.tSet, tRt, tRtN, tAs, gSb, tFn, tAC, tA0, tDr, tApp, tExt, tPopA, tLstD, tTupD, tLstM, tCl, tMt, tPr, tNx, tSlD, tON, tOS, tIfD, DL.tAndT, DL.tOrT, DL.tNotT, tTru, tChainT, tNeg, tListM, List.map_cons, List.map_nil, List.length_cons, List.length_nil, List.replicate, List.cons_append, List.nil_append, List.getElem?_cons_zero, List.getElem?_cons_succ, List.set_cons_zero, List.set_cons_succ, Option.some.injEq, exists_eq_left', exists_eq_left, D.bl.injEq, D.int.injEq, D.str.injEq, D.lst.injEq, D.ref.injEq, if_true, if_false, Bool.true_eq_false, Bool.false_eq_true, startD, bodyEnds, Nat.reduceSub, Nat.reduceAdd, true_and, and_true, tFo, iSeq, dSeq]
        refine forD_inv (fun i env m2 => ∃ p2 e6', env = [some (.lst (rows.map rowD)), some (.str one), some other, some (.ref p2), some (.ref pm), some (.str x), e6'] ∧ Ext m m2 ∧ m p2 = none ∧ p2 ≠ pm ∧ m2 p2 = some (.lst ((W' ++ basesOf (rows.take i) x).map .str)) ∧ m2 pm = some (.lst ((Mt ++ [x]).map .str)))
          ⟨pw, e6, rfl, ext1.put fm, fw, ne, by rw [updM_ne ne, updM_same]; simp [basesOf], updM_same⟩ ?_ ?_
        · rintro i d env m2 N hd ⟨p2, e6', rfl, ext2, f2, ne2, h2, h3⟩ hN
          rw [List.getElem?_map] at hd
          obtain ⟨r, hri, rfl⟩ := Option.map_eq_some_iff.mp hd
          simp only [tgD, gN, r_l_within_2, tSq, DL.tIfS, tBinT, tBin, tV, tK, DL.tSet, tRt, tRtN, tAs, gSb, tFn, tAC, tA0, tDr, tApp, tExt, tPopA, tLstD, tTupD, tLstM, tCl, tMt, tPr, tNx, tSlD, tON, tOS, tIfD, DL.tAndT, DL.tOrT, DL.tNotT, tTru, tChainT, tNeg, tListM, List.map_cons, List.map_nil, List.length_cons, List.length_nil, List.replicate, List.cons_append, List.nil_append, List.getElem?_cons_zero, List.getElem?_cons_succ, List.set_cons_zero, List.set_cons_succ, Option.some.injEq, exists_eq_left', exists_eq_left, D.bl.injEq, D.int.injEq, D.str.injEq, D.lst.injEq, D.ref.injEq, if_true, if_false, Bool.true_eq_false, Bool.false_eq_true, startD, bodyEnds, Nat.reduceSub, Nat.reduceAdd, true_and, and_true]
          refine ⟨.str r.1, dIx_tup rfl rfl (atI_pos (by decide) rfl), decide (r.1 = x), rfl, ?_⟩
          by_cases g : r.1 = x
          · simp only [g, decide_true, if_true]
            simp only [r_l_within_1, tSq, DL.tIfS, tBinT, tBin, tV, tK, DL.tSet, tRt, tRtN, tAs, gSb, tFn, tAC, tA0, tDr, tApp, tExt, tPopA, tLstD, tTupD, tLstM, tCl, tMt, tPr, tNx, tSlD, tON, tOS, tIfD, DL.tAndT, DL.tOrT, DL.tNotT, tTru, tChainT, tNeg, tListM, List.map_cons, List.map_nil, List.length_cons, List.length_nil, List.replicate, List.cons_append, List.nil_append, List.getElem?_cons_zero, List.getElem?_cons_succ, List.set_cons_zero, List.set_cons_succ, Option.some.injEq, exists_eq_left', exists_eq_left, D.bl.injEq, D.int.injEq, D.str.injEq, D.lst.injEq, D.ref.injEq, if_true, if_false, Bool.true_eq_false, Bool.false_eq_true, startD, bodyEnds, Nat.reduceSub, Nat.reduceAdd, true_and, and_true, tAddM]
            refine ⟨1, rfl, .tup (r.2.map .str), by simp only [dSl, look, rowD]; rw [cut_from (by decide)]; rfl, .lst (r.2.map .str), by simp only [d1, look, dList], ?_⟩
            have l2 : look m2 (.ref p2) = .lst ((W' ++ basesOf (rows.take i) x).map .str) := by simp only [look, h2, Option.getD_some]
            have hr2 := h22 r (List.mem_of_getElem? hri)
            have hb2 := bl i
            refine ⟨_, _, l2, rfl, small (by rw [List.length_map, List.length_map, List.length_append]; omega), fun p3 hp3 => ?_⟩
            have n3 : p3 ≠ pm := by rintro rfl; rw [h3] at hp3; cases hp3
            refine hN _ _ ⟨p3, _, rfl, ext2.put (ext2.free hp3), ext2.free hp3, n3, ?_, by rw [updM_ne n3.symm]; exact h3⟩
            rw [updM_same, bases_take hri, if_pos g, ← List.append_assoc, List.map_append (l₁ := W' ++ basesOf (rows.take i) x)]
          · simp only [g, decide_false, Bool.false_eq_true, if_false]
            exact hN _ _ ⟨p2, _, rfl, ext2, f2, ne2, by rw [bases_take hri, if_neg g, List.append_nil]; exact h2, h3⟩
        · rintro env m2 ⟨p2, e6', rfl, ext2, f2, ne2, h2, h3⟩
          rw [List.length_map, List.take_length] at h2
          have b2 := bl rows.length
          rw [List.take_length] at b2
          have ll := left_less hxk hx
          refine ih (W' ++ basesOf rows x) (Mt ++ [x]) p2 pm _ _ m2 ext2 f2 fm ne2 h2 h3 ⟨List.mem_append_left _ I.er, ?_, fun y hy => ?_, fun y hy => ?_, fun w bs h hw b hb => ?_, ?_⟩ (by rw [List.length_append]; omega) (by omega)
          · rcases I.at_ with z | z
            · rcases List.mem_append.mp z with z | z
              · exact .inl (List.mem_append_left _ z)
              · exact .inr (List.mem_append_right _ z)
            · exact .inr (List.mem_append_left _ z)
          · rcases List.mem_append.mp hy with z | z
            · exact I.w y (List.mem_append_left _ z)
            · obtain ⟨bs, h, hb⟩ := bases_mem.mp z
              exact up_trans hr hnd h hb one hone hx1
          · rcases List.mem_append.mp hy with z | z
            · exact I.mt y z
            · rw [List.mem_singleton] at z; subst z; exact hx1
          · rcases List.mem_append.mp hw with z | z
            · rcases I.cl w bs h z b hb with u | u
              · rcases List.mem_append.mp u with u | u
                · exact .inl (List.mem_append_left _ u)
                · exact .inr (List.mem_append_right _ u)
              · exact .inr (List.mem_append_left _ u)
            · rw [List.mem_singleton] at z; subst z
              exact .inl (List.mem_append_right _ (bases_mem.mpr ⟨bs, h, hb⟩))
          · rw [List.nodup_append]
            exact ⟨I.nd, by simp, fun y hy z hz e => hx (by rw [List.mem_singleton] at hz; subst hz; subst e; exact hy)⟩
theorem lwithin_ok {m : M} {rows : List Row} {one other : Str} {Q : DK} (hr : RowsOk rows) (hn : rows.length ≤ 6) (hnd : (knownOf rows).Nodup) (h22 : ∀ r ∈ rows, r.2.length ≤ 2) (hone : one ∈ knownOf rows) (k : Q (.bl (decide (other ∈ up rows one))) m) :
    sp_l_within [.lst (rows.map rowD), .str one, .str other] m Q := by
  refine ⟨rfl, ?_⟩
  show r_l_within_10 _ _ _
  simp only [r_l_within_10, r_l_within_9, r_l_within_8, tSq, DL.tIfS, tBinT, tBin, tV, tK, DL.tSet, tRt, tRtN, tAs, gSb, tFn, tAC, tA0, tDr, tApp, tExt, tPopA, tLstD, tTupD, tLstM, tCl, tMt, tPr, tNx, tSlD, tON, tOS, tIfD, DL.tAndT, DL.tOrT, DL.tNotT, tTru, tChainT, tNeg, tListM, List.map_cons, List.map_nil, List.length_cons, List.length_nil, List.replicate, List.cons_append, List.nil_append, List.getElem?_cons_zero, List.getElem?_cons_succ, List.set_cons_zero, List.set_cons_succ, Option.some.injEq, exists_eq_left', exists_eq_left, D.bl.injEq, D.int.injEq, D.str.injEq, D.lst.injEq, D.ref.injEq, if_true, if_false, Bool.true_eq_false, Bool.false_eq_true, startD, bodyEnds, Nat.reduceSub, Nat.reduceAdd, true_and, and_true, tWh]
  refine ⟨by decide, fun pw hpw => ⟨by decide, fun pm hpm => ⟨60, ?_⟩⟩⟩
  have ne : pw ≠ pm := by rintro rfl; rw [updM_same] at hpm; cases hpm
  have fm : m pm = none := by rw [updM_ne ne.symm] at hpm; exact hpm
  have me := up_me hr one hone
  have hl : left_ rows [("error" : Str)] ≤ 8 := by
    unfold left_
    refine Nat.le_trans (List.length_filter_le _ _) ?_
    rw [knownOf_len]; omega
  refine loop_ok (other := .str other) hr hn hnd h22 hone (fun e5 e6 pw pm m' Mt ext hM hE => ?_) 60 [one] [("error" : Str)] pw pm none none _ (((Ext.refl m).put hpw).put fm) hpw fm ne (by rw [updM_ne ne, updM_same]; rfl) updM_same ⟨by simp, .inl (by simp), fun x hx => ?_, fun x hx => ?_, fun w bs h hw => ?_, by simp⟩ (by simp; omega) (Nat.le_refl _)
  · simp only [r_l_within_7, tSq, DL.tIfS, tBinT, tBin, tV, tK, DL.tSet, tRt, tRtN, tAs, gSb, tFn, tAC, tA0, tDr, tApp, tExt, tPopA, tLstD, tTupD, tLstM, tCl, tMt, tPr, tNx, tSlD, tON, tOS, tIfD, DL.tAndT, DL.tOrT, DL.tNotT, tTru, tChainT, tNeg, tListM, List.map_cons, List.map_nil, List.length_cons, List.length_nil, List.replicate, List.cons_append, List.nil_append, List.getElem?_cons_zero, List.getElem?_cons_succ, List.set_cons_zero, List.set_cons_succ, Option.some.injEq, exists_eq_left', exists_eq_left, D.bl.injEq, D.int.injEq, D.str.injEq, D.lst.injEq, D.ref.injEq, if_true, if_false, Bool.true_eq_false, Bool.false_eq_true, startD, bodyEnds, Nat.reduceSub, Nat.reduceAdd, true_and, and_true]
    have lm : look m' (.ref pm) = .lst (Mt.map .str) := by simp only [look, hM, Option.getD_some]
    refine ⟨.bl (decide (other ∈ Mt)), by unfold dIn; rw [dInB_strs (.inl lm)]; rfl, ext.drop ?_⟩
    have : decide (other ∈ Mt) = decide (other ∈ up rows one) := decide_eq_decide.mpr (hE other)
    rw [this]; exact k
  · rw [List.mem_singleton] at hx; subst hx; exact me.1
  · rw [List.mem_singleton] at hx; subst hx; exact me.2
  · rw [List.mem_singleton] at hw
    exact absurd hw (not_head hnd h).1
end K66
namespace K66
open PySem PySem.Spec PyProof.Rows DL
open SX (S S_len S_cat S_inj S_tl)
/-! what a level by a trail sees -/
def tS (xs : List Str) : D := .tup (xs.map .str)
def pl (L rest : List Str) : Int := if rest.length ≤ L.length ∧ L.drop (L.length - rest.length) = rest then ((L.length - rest.length : Nat) : Int) else -1
def vw (L : List Str) (name : Str) (rest : List Str) : D := .tup [.str name, .int (pl L (name :: rest))]
def causeD (L : List Str) : List Str → D
  | [] => .non
  | name :: rest => vw L name rest
theorem pl_nil (L : List Str) : pl L [] = L.length := by unfold pl; simp
theorem pl_cons {L rest : List Str} {name : Str} : pl L (name :: rest) = if 0 ≤ pl L rest - 1 ∧ L[(pl L rest - 1).toNat]? = some name then pl L rest - 1 else -1 := by
  by_cases h : rest.length ≤ L.length ∧ L.drop (L.length - rest.length) = rest
  · have e : pl L rest = ((L.length - rest.length : Nat) : Int) := if_pos h
    rw [e]
    by_cases g : rest.length < L.length
    · have e2 : (((L.length - rest.length : Nat) : Int) - 1).toNat = L.length - (rest.length + 1) := by omega
      rw [e2]
      have hl : L.length - (rest.length + 1) < L.length := by omega
      have ed : L.drop (L.length - (rest.length + 1)) = L[L.length - (rest.length + 1)] :: rest := by
        rw [List.drop_eq_getElem_cons hl]
        congr 1
        rw [show L.length - (rest.length + 1) + 1 = L.length - rest.length by omega]
        exact h.2
      unfold pl
      rw [List.length_cons, ed, List.getElem?_eq_getElem hl]
      by_cases g2 : L[L.length - (rest.length + 1)] = name
      · rw [if_pos ⟨by omega, by rw [g2]⟩, if_pos ⟨by omega, by rw [g2]⟩]; omega
      · rw [if_neg fun z => g2 (List.cons.inj z.2).1, if_neg fun z => g2 (Option.some.inj z.2)]
    · have : ¬ (0 ≤ ((L.length - rest.length : Nat) : Int) - 1 ∧ L[(((L.length - rest.length : Nat) : Int) - 1).toNat]? = some name) := by omega
      rw [if_neg this]
      unfold pl
      rw [if_neg (by rw [List.length_cons]; omega)]
  · have e : pl L rest = -1 := if_neg h
    rw [e, if_neg (by omega)]
    unfold pl
    refine if_neg fun z => h ⟨by have := z.1; rw [List.length_cons] at this; omega, ?_⟩
    obtain ⟨z1, z2⟩ := z
    rw [List.length_cons] at z1 z2
    have := congrArg (List.drop 1) z2
    rw [List.drop_drop] at this
    rw [show L.length - rest.length = L.length - (rest.length + 1) + 1 by omega]
    exact this
theorem pl_ge (L rest : List Str) : -1 ≤ pl L rest ∧ pl L rest ≤ L.length := by unfold pl; split <;> omega
def levD (CB CC : Addr) (line : List Str) (rows : List Row) : D := .ins CB [("classes" : Str), ("trail" : Str)] [clsD CC rows, tS line]
theorem ne_cm : ¬ ("classes" : Str) = ("trail" : Str) := by decide +kernel
theorem get_cls (CC : Addr) (line : List Str) (rows : List Row) : fget ("classes" : Str) [("classes" : Str), ("trail" : Str)] [clsD CC rows, tS line] = some (clsD CC rows) := by simp only [fget, if_true]
theorem get_trail (CC : Addr) (line : List Str) (rows : List Row) : fget ("trail" : Str) [("classes" : Str), ("trail" : Str)] [clsD CC rows, tS line] = some (tS line) := by simp only [fget, if_neg ne_cm, if_true]
theorem no_at (x : Str) (h : x ≠ "classes" ∧ x ≠ "trail") : x ∉ [("classes" : Str), ("trail" : Str)] := by simp [h]
theorem no_view : ("view" : Str) ∉ [("classes" : Str), ("trail" : Str)] := by decide +kernel
theorem no_name : ("name_of" : Str) ∉ [("classes" : Str), ("trail" : Str)] := by decide +kernel
theorem no_taken : ("taken" : Str) ∉ [("classes" : Str), ("trail" : Str)] := by decide +kernel
theorem no_does : ("does" : Str) ∉ [("classes" : Str), ("trail" : Str)] := by decide +kernel
theorem no_kind : ("KIND" : Str) ∉ [("classes" : Str), ("trail" : Str)] := by decide +kernel
theorem no_within : ("within" : Str) ∉ nsC := by decide +kernel
theorem linit_ok {m : M} {CB CC x : Addr} {line : List Str} {rows : List Row} {Q : DK} (hx : m x = some (.ins CB [] [])) (k : Q .non (updM m x (levD CB CC line rows))) : sp_ByTrail_init CB [.ref x, clsD CC rows, tS line] m Q := by
  refine ⟨rfl, x, [], [], rfl, hx, ?_⟩
  simp only [tSq, DL.tIfS, tBinT, tBin, tV, tK, DL.tSet, tRt, tRtN, tAs, gSb, tFn, tAC, tA0, tDr, tApp, tExt, tPopA, tLstD, tTupD, tLstM, tCl, tMt, tPr, tNx, tSlD, tON, tOS, tIfD, DL.tAndT, DL.tOrT, DL.tNotT, tTru, tChainT, tNeg, tListM, List.map_cons, List.map_nil, List.length_cons, List.length_nil, List.replicate, List.cons_append, List.nil_append, List.getElem?_cons_zero, List.getElem?_cons_succ, List.set_cons_zero, List.set_cons_succ, Option.some.injEq, exists_eq_left', exists_eq_left, D.bl.injEq, D.int.injEq, D.str.injEq, D.lst.injEq, D.ref.injEq, if_true, if_false, Bool.true_eq_false, Bool.false_eq_true, startD, bodyEnds, Nat.reduceSub, Nat.reduceAdd, true_and, and_true]
  refine ⟨rfl, ?_⟩
  show r_Level_init_1 CB _ _ _
  simp only [r_Level_init_1, tSq, DL.tIfS, tBinT, tBin, tV, tK, DL.tSet, tRt, tRtN, tAs, gSb, tFn, tAC, tA0, tDr, tApp, tExt, tPopA, tLstD, tTupD, tLstM, tCl, tMt, tPr, tNx, tSlD, tON, tOS, tIfD, DL.tAndT, DL.tOrT, DL.tNotT, tTru, tChainT, tNeg, tListM, List.map_cons, List.map_nil, List.length_cons, List.length_nil, List.replicate, List.cons_append, List.nil_append, List.getElem?_cons_zero, List.getElem?_cons_succ, List.set_cons_zero, List.set_cons_succ, Option.some.injEq, exists_eq_left', exists_eq_left, D.bl.injEq, D.int.injEq, D.str.injEq, D.lst.injEq, D.ref.injEq, if_true, if_false, Bool.true_eq_false, Bool.false_eq_true, startD, bodyEnds, Nat.reduceSub, Nat.reduceAdd, true_and, and_true, tFlS]
  refine ⟨x, _, _, rfl, hx, show 0 < 1000 by decide, dropR.self ?_⟩
  simp only [r_ByTrail_init_1, tSq, DL.tIfS, tBinT, tBin, tV, tK, DL.tSet, tRt, tRtN, tAs, gSb, tFn, tAC, tA0, tDr, tApp, tExt, tPopA, tLstD, tTupD, tLstM, tCl, tMt, tPr, tNx, tSlD, tON, tOS, tIfD, DL.tAndT, DL.tOrT, DL.tNotT, tTru, tChainT, tNeg, tListM, List.map_cons, List.map_nil, List.length_cons, List.length_nil, List.replicate, List.cons_append, List.nil_append, List.getElem?_cons_zero, List.getElem?_cons_succ, List.set_cons_zero, List.set_cons_succ, Option.some.injEq, exists_eq_left', exists_eq_left, D.bl.injEq, D.int.injEq, D.str.injEq, D.lst.injEq, D.ref.injEq, if_true, if_false, Bool.true_eq_false, Bool.false_eq_true, startD, bodyEnds, Nat.reduceSub, Nat.reduceAdd, true_and, and_true, tFlS]
  refine ⟨x, _, _, rfl, updM_same, show 1 < 1000 by decide, dropR.self ?_⟩
  rw [updM_over]
  have e1 : fputN ("trail" : Str) (fputN ("classes" : Str) []) = [("classes" : Str), ("trail" : Str)] := by
    show fputN ("trail" : Str) [("classes" : Str)] = _
    simp only [fputN, if_neg ne_cm]
  have e2 : fputV ("trail" : Str) (tS line) (fputN ("classes" : Str) []) (fputV ("classes" : Str) (clsD CC rows) [] []) = [clsD CC rows, tS line] := by
    show fputV ("trail" : Str) (tS line) [("classes" : Str)] [clsD CC rows] = _
    simp only [fputV, if_neg ne_cm]
  rw [e1, e2]
  exact k
theorem view_ok {m : M} {CB CC : Addr} {line : List Str} {rows : List Row} {name : Str} {rest : List Str} {Q : DK} (k : Q (vw line name rest) m) :
    sp_ByTrail_view CB [levD CB CC line rows, .str name, causeD line rest] m Q := by
  refine ⟨rfl, ?_⟩
  show r_ByTrail_view_2 CB _ _ _
  have fin : r_ByTrail_view_1 CB [some (levD CB CC line rows), some (.str name), some (causeD line rest), some (.int (pl line rest - 1))] m { nx := fun _ m => dropR Q .non m, rt := dropR Q } := by
    simp only [r_ByTrail_view_1, tSq, DL.tIfS, tBinT, tBin, tV, tK, DL.tSet, tRt, tRtN, tAs, gSb, tFn, tAC, tA0, tDr, tApp, tExt, tPopA, tLstD, tTupD, tLstM, tCl, tMt, tPr, tNx, tSlD, tON, tOS, tIfD, DL.tAndT, DL.tOrT, DL.tNotT, tTru, tChainT, tNeg, tListM, List.map_cons, List.map_nil, List.length_cons, List.length_nil, List.replicate, List.cons_append, List.nil_append, List.getElem?_cons_zero, List.getElem?_cons_succ, List.set_cons_zero, List.set_cons_succ, Option.some.injEq, exists_eq_left', exists_eq_left, D.bl.injEq, D.int.injEq, D.str.injEq, D.lst.injEq, D.ref.injEq, if_true, if_false, Bool.true_eq_false, Bool.false_eq_true, startD, bodyEnds, Nat.reduceSub, Nat.reduceAdd, true_and, and_true]
    simp only [dGe, d2IB, look, Option.some.injEq, exists_eq_left', D.bl.injEq]
    have he : pl line (name :: rest) = _ := pl_cons
    by_cases g : 0 ≤ pl line rest - 1
    · have g' : pl line rest - 1 ≥ 0 := g
      simp only [g', decide_true, if_true]
      have hlt : (pl line rest - 1).toNat < line.length := by have := (pl_ge line rest).2; omega
      simp only [tFl, tSq, DL.tIfS, tBinT, tBin, tV, tK, DL.tSet, tRt, tRtN, tAs, gSb, tFn, tAC, tA0, tDr, tApp, tExt, tPopA, tLstD, tTupD, tLstM, tCl, tMt, tPr, tNx, tSlD, tON, tOS, tIfD, DL.tAndT, DL.tOrT, DL.tNotT, tTru, tChainT, tNeg, tListM, List.map_cons, List.map_nil, List.length_cons, List.length_nil, List.replicate, List.cons_append, List.nil_append, List.getElem?_cons_zero, List.getElem?_cons_succ, List.set_cons_zero, List.set_cons_succ, Option.some.injEq, exists_eq_left', exists_eq_left, D.bl.injEq, D.int.injEq, D.str.injEq, D.lst.injEq, D.ref.injEq, if_true, if_false, Bool.true_eq_false, Bool.false_eq_true, startD, bodyEnds, Nat.reduceSub, Nat.reduceAdd, true_and, and_true]
      refine ⟨_, _, _, rfl, get_trail CC line rows, .str line[(pl line rest - 1).toNat], dIx_tup (ds := line.map .str) rfl rfl (atI_pos g (by rw [List.getElem?_map, List.getElem?_eq_getElem hlt]; rfl)), decide (line[(pl line rest - 1).toNat] = name), rfl, ?_⟩
      by_cases g2 : line[(pl line rest - 1).toNat] = name
      · simp only [g2, decide_true, if_true]
        rw [if_pos ⟨g, by rw [List.getElem?_eq_getElem hlt, g2]⟩] at he
        unfold vw at k
        rw [he] at k
        exact ⟨by decide, dropR.self k⟩
      · simp only [g2, decide_false, Bool.false_eq_true, if_false]
        rw [if_neg fun z => g2 (by have := z.2; rw [List.getElem?_eq_getElem hlt] at this; exact Option.some.inj this)] at he
        unfold vw at k
        rw [he] at k
        first
          | exact ⟨by decide, dropR.self k⟩
          | exact ⟨1, rfl, by decide, dropR.self k⟩
    · have g' : ¬ pl line rest - 1 ≥ 0 := g
      simp only [g', decide_false, Bool.false_eq_true, if_false]
      rw [if_neg fun z => g z.1] at he
      unfold vw at k
      rw [he] at k
      first
        | exact ⟨by decide, dropR.self k⟩
        | exact ⟨1, rfl, by decide, dropR.self k⟩
  simp only [r_ByTrail_view_2, tSq, DL.tIfS, tBinT, tBin, tV, tK, DL.tSet, tRt, tRtN, tAs, gSb, tFn, tAC, tA0, tDr, tApp, tExt, tPopA, tLstD, tTupD, tLstM, tCl, tMt, tPr, tNx, tSlD, tON, tOS, tIfD, DL.tAndT, DL.tOrT, DL.tNotT, tTru, tChainT, tNeg, tListM, List.map_cons, List.map_nil, List.length_cons, List.length_nil, List.replicate, List.cons_append, List.nil_append, List.getElem?_cons_zero, List.getElem?_cons_succ, List.set_cons_zero, List.set_cons_succ, Option.some.injEq, exists_eq_left', exists_eq_left, D.bl.injEq, D.int.injEq, D.str.injEq, D.lst.injEq, D.ref.injEq, if_true, if_false, Bool.true_eq_false, Bool.false_eq_true, startD, bodyEnds, Nat.reduceSub, Nat.reduceAdd, true_and, and_true]
  cases rest with
  | nil =>
    refine ⟨true, rfl, ?_⟩
    simp only [if_true]
    simp only [tFl, tSq, DL.tIfS, tBinT, tBin, tV, tK, DL.tSet, tRt, tRtN, tAs, gSb, tFn, tAC, tA0, tDr, tApp, tExt, tPopA, tLstD, tTupD, tLstM, tCl, tMt, tPr, tNx, tSlD, tON, tOS, tIfD, DL.tAndT, DL.tOrT, DL.tNotT, tTru, tChainT, tNeg, tListM, List.map_cons, List.map_nil, List.length_cons, List.length_nil, List.replicate, List.cons_append, List.nil_append, List.getElem?_cons_zero, List.getElem?_cons_succ, List.set_cons_zero, List.set_cons_succ, Option.some.injEq, exists_eq_left', exists_eq_left, D.bl.injEq, D.int.injEq, D.str.injEq, D.lst.injEq, D.ref.injEq, if_true, if_false, Bool.true_eq_false, Bool.false_eq_true, startD, bodyEnds, Nat.reduceSub, Nat.reduceAdd, true_and, and_true]
    refine ⟨_, _, _, rfl, get_trail CC line rows, .int line.length, by simp only [d1, look, tS, dLen, List.length_map], .int (line.length - 1), rfl, ?_⟩
    rw [pl_nil] at fin
    exact fin
  | cons a t =>
    refine ⟨false, rfl, ?_⟩
    simp only [Bool.false_eq_true, if_false]
    refine ⟨.int (pl line (a :: t)), dIx_tup rfl rfl (atI_pos (by decide) rfl), .int (pl line (a :: t) - 1), rfl, ?_⟩
    exact fin
theorem view2_ok {m : M} {CB CC : Addr} {line : List Str} {rows : List Row} {name : Str} {Q : DK} (k : Q (vw line name []) m) :
    spDft 2 [.non] (sp_ByTrail_view CB) [levD CB CC line rows, .str name] m Q := ⟨rfl, view_ok (rest := []) k⟩
theorem ix_head {m : M} {w : Str} {t : List D} : dIx m (.tup (.str w :: t)) (.int 0) = some (.str w) := dIx_tup rfl rfl (atI_pos (by decide) rfl)
theorem nameof_ok {m : M} {CB CC : Addr} {line : List Str} {rows : List Row} {w : Str} {t : List Str} {Q : DK} (k : Q (.str w) m) : sp_ByTrail_name_of [levD CB CC line rows, vw line w t] m Q := by
  refine ⟨rfl, ?_⟩
  show r_ByTrail_name_of_1 _ _ _
  simp only [r_ByTrail_name_of_1, tSq, DL.tIfS, tBinT, tBin, tV, tK, DL.tSet, tRt, tRtN, tAs, gSb, tFn, tAC, tA0, tDr, tApp, tExt, tPopA, tLstD, tTupD, tLstM, tCl, tMt, tPr, tNx, tSlD, tON, tOS, tIfD, DL.tAndT, DL.tOrT, DL.tNotT, tTru, tChainT, tNeg, tListM, List.map_cons, List.map_nil, List.length_cons, List.length_nil, List.replicate, List.cons_append, List.nil_append, List.getElem?_cons_zero, List.getElem?_cons_succ, List.set_cons_zero, List.set_cons_succ, Option.some.injEq, exists_eq_left', exists_eq_left, D.bl.injEq, D.int.injEq, D.str.injEq, D.lst.injEq, D.ref.injEq, if_true, if_false, Bool.true_eq_false, Bool.false_eq_true, startD, bodyEnds, Nat.reduceSub, Nat.reduceAdd, true_and, and_true]
  exact ⟨_, ix_head, dropR.self k⟩
theorem does_ok {m : M} {CB CC : Addr} {line : List Str} {rows : List Row} {x y : D} {Q : DK} (k : Q (.tup []) m) : sp_ByTrail_does [levD CB CC line rows, x, y] m Q := by
  refine ⟨rfl, ?_⟩
  show r_ByTrail_does_1 _ _ _
  simp only [r_ByTrail_does_1, tSq, DL.tIfS, tBinT, tBin, tV, tK, DL.tSet, tRt, tRtN, tAs, gSb, tFn, tAC, tA0, tDr, tApp, tExt, tPopA, tLstD, tTupD, tLstM, tCl, tMt, tPr, tNx, tSlD, tON, tOS, tIfD, DL.tAndT, DL.tOrT, DL.tNotT, tTru, tChainT, tNeg, tListM, List.map_cons, List.map_nil, List.length_cons, List.length_nil, List.replicate, List.cons_append, List.nil_append, List.getElem?_cons_zero, List.getElem?_cons_succ, List.set_cons_zero, List.set_cons_succ, Option.some.injEq, exists_eq_left', exists_eq_left, D.bl.injEq, D.int.injEq, D.str.injEq, D.lst.injEq, D.ref.injEq, if_true, if_false, Bool.true_eq_false, Bool.false_eq_true, startD, bodyEnds, Nat.reduceSub, Nat.reduceAdd, true_and, and_true]
  exact ⟨by decide, dropR.self k⟩
theorem boolsOf_map (bs : List Bool) : boolsOf (bs.map D.bl) = some bs := by
  induction bs with
  | nil => rfl
  | cons b bs ih => simp only [List.map_cons, boolsOf, ih, Option.map_some]
theorem dAny_map {α : Type} (xs : List α) (f : α → Bool) : dAny (.lst (xs.map fun x => D.bl (f x))) = some (.bl (xs.any f)) := by
  have e : (xs.map fun x => D.bl (f x)) = (xs.map f).map .bl := by rw [List.map_map]; rfl
  rw [e]
  show (boolsOf _).map (fun bs => D.bl (bs.any id)) = _
  rw [boolsOf_map]
  show some (D.bl ((xs.map f).any id)) = _
  rw [List.any_map]; rfl
def inF (us : List Str) : D → Option D
  | .str x => some (.bl (decide (x ∈ us)))
  | _ => none
theorem inF_eq (us xs : List Str) : (xs.map D.str).filterMap (inF us) = xs.map fun x => D.bl (decide (x ∈ us)) := by
  induction xs with
  | nil => rfl
  | cons x xs ih => rw [List.map_cons, List.filterMap_cons, ih]; rfl
theorem up_ulk {rows : List Row} {x : Str} (h : x ∈ knownOf rows) : ulk (upsL rows) x = some (up rows x) := by
  obtain ⟨i, us, e, _⟩ := ulk_some (by rw [upsL_keys]; exact h)
  unfold up; rw [e]; rfl
theorem taken_ok {m : M} {CB CC : Addr} {line : List Str} {rows : List Row} {w : Str} {t xs : List Str} {nv : D} {Q : DK} (hw : w ∈ knownOf rows) (hn : nv = .lst (xs.map .str) ∨ nv = .tup (xs.map .str)) (hl : xs.length ≤ 100)
    (k : Q (.bl (xs.any fun x => decide (x ∈ up rows w))) m) : sp_ByTrail_taken CB CC [levD CB CC line rows, vw line w t, nv] m Q := by
  refine ⟨rfl, ?_⟩
  show r_ByTrail_taken_3 CB CC _ _ _
  simp only [r_ByTrail_taken_3, tSq, DL.tIfS, tBinT, tBin, tV, tK, DL.tSet, tRt, tRtN, tAs, gSb, tFn, tAC, tA0, tDr, tApp, tExt, tPopA, tLstD, tTupD, tLstM, tCl, tMt, tPr, tNx, tSlD, tON, tOS, tIfD, DL.tAndT, DL.tOrT, DL.tNotT, tTru, tChainT, tNeg, tListM, List.map_cons, List.map_nil, List.length_cons, List.length_nil, List.replicate, List.cons_append, List.nil_append, List.getElem?_cons_zero, List.getElem?_cons_succ, List.set_cons_zero, List.set_cons_succ, Option.some.injEq, exists_eq_left', exists_eq_left, D.bl.injEq, D.int.injEq, D.str.injEq, D.lst.injEq, D.ref.injEq, if_true, if_false, Bool.true_eq_false, Bool.false_eq_true, startD, bodyEnds, Nat.reduceSub, Nat.reduceAdd, true_and, and_true]
  refine ⟨_, _, rfl, no_name, nameof_ok ?_⟩
  simp only [r_ByTrail_taken_2, tSq, DL.tIfS, tBinT, tBin, tV, tK, DL.tSet, tRt, tRtN, tAs, gSb, tFn, tAC, tA0, tDr, tApp, tExt, tPopA, tLstD, tTupD, tLstM, tCl, tMt, tPr, tNx, tSlD, tON, tOS, tIfD, DL.tAndT, DL.tOrT, DL.tNotT, tTru, tChainT, tNeg, tListM, List.map_cons, List.map_nil, List.length_cons, List.length_nil, List.replicate, List.cons_append, List.nil_append, List.getElem?_cons_zero, List.getElem?_cons_succ, List.set_cons_zero, List.set_cons_succ, Option.some.injEq, exists_eq_left', exists_eq_left, D.bl.injEq, D.int.injEq, D.str.injEq, D.lst.injEq, D.ref.injEq, if_true, if_false, Bool.true_eq_false, Bool.false_eq_true, startD, bodyEnds, Nat.reduceSub, Nat.reduceAdd, true_and, and_true]
  refine lc_pure (ds := xs.map .str) (inF (up rows w)) (fun R hR => ?_) (by rw [List.length_map]; exact smallLt (by omega)) (fun d m1 R hd hm hy hno => ?_) ?_
  · simp only [iSeq, tSq, DL.tIfS, tBinT, tBin, tV, tK, DL.tSet, tRt, tRtN, tAs, gSb, tFn, tAC, tA0, tDr, tApp, tExt, tPopA, tLstD, tTupD, tLstM, tCl, tMt, tPr, tNx, tSlD, tON, tOS, tIfD, DL.tAndT, DL.tOrT, DL.tNotT, tTru, tChainT, tNeg, tListM, List.map_cons, List.map_nil, List.length_cons, List.length_nil, List.replicate, List.cons_append, List.nil_append, List.getElem?_cons_zero, List.getElem?_cons_succ, List.set_cons_zero, List.set_cons_succ, Option.some.injEq, exists_eq_left', exists_eq_left, D.bl.injEq, D.int.injEq, D.str.injEq, D.lst.injEq, D.ref.injEq, if_true, if_false, Bool.true_eq_false, Bool.false_eq_true, startD, bodyEnds, Nat.reduceSub, Nat.reduceAdd, true_and, and_true]
    rcases hn with rfl | rfl
    · exact ⟨_, rfl, hR⟩
    · exact ⟨_, rfl, hR⟩
  · obtain ⟨x, hx, rfl⟩ := List.mem_map.mp hd
    simp only [tgD, gN, wipeD, tYe, r_ByTrail_taken_1, tSq, DL.tIfS, tBinT, tBin, tV, tK, DL.tSet, tRt, tRtN, tAs, gSb, tFn, tAC, tA0, tDr, tApp, tExt, tPopA, tLstD, tTupD, tLstM, tCl, tMt, tPr, tNx, tSlD, tON, tOS, tIfD, DL.tAndT, DL.tOrT, DL.tNotT, tTru, tChainT, tNeg, tListM, List.map_cons, List.map_nil, List.length_cons, List.length_nil, List.replicate, List.cons_append, List.nil_append, List.getElem?_cons_zero, List.getElem?_cons_succ, List.set_cons_zero, List.set_cons_succ, Option.some.injEq, exists_eq_left', exists_eq_left, D.bl.injEq, D.int.injEq, D.str.injEq, D.lst.injEq, D.ref.injEq, if_true, if_false, Bool.true_eq_false, Bool.false_eq_true, startD, bodyEnds, Nat.reduceSub, Nat.reduceAdd, true_and, and_true, tFl]
    refine ⟨_, _, _, rfl, get_cls CC line rows, _, _, rfl, no_within, within_ok (up_ulk hw) (hy _ rfl)⟩
  · rw [inF_eq]
    simp only [d1, look, dAny_map, Option.some.injEq, exists_eq_left']
    exact dropR.self k
theorem datL_strs' (xs : List Str) (h : ∀ s ∈ xs, okS s) : dat 60 (tS xs) = true := datL_strs (fun x hx => (h x hx).1) 59
theorem eqS {xs ys : List Str} (hx : ∀ s ∈ xs, okS s) (hy : ∀ s ∈ ys, okS s) : dEqB (tS xs) (tS ys) = some (decide (xs = ys)) := by
  have a1 := datL_strs' xs hx
  have a2 := datL_strs' ys hy
  have e := eqv_strs xs ys
  unfold tS at *
  unfold dEqB
  simp only [a1, a2]
  show some (PyData.eqv (toPd (.tup (xs.map D.str))) (toPd (.tup (ys.map D.str)))) = _
  simp only [toPd, PyData.eqv]
  rw [e]
def plF (L rest : List Str) : D → Option D
  | .int i => if L.drop i.toNat = rest then some (.int i) else none
  | _ => none
theorem plF_eq {L rest : List Str} (h : rest ≠ []) : (rngD 0 L.length).filterMap (plF L rest) = if rest.length ≤ L.length ∧ L.drop (L.length - rest.length) = rest then [.int ((L.length - rest.length : Nat) : Int)] else [] := by
  have go : ∀ n, n ≤ L.length → (rngD 0 n).filterMap (plF L rest) = if (rest.length ≤ L.length ∧ L.drop (L.length - rest.length) = rest) ∧ L.length - rest.length < n then [.int ((L.length - rest.length : Nat) : Int)] else [] := by
    intro n
    induction n with
    | zero => intro _; rw [if_neg (by omega)]; rfl
    | succ n ih =>
      intro hn
      have e1 : rngD 0 (n + 1) = rngD 0 n ++ [.int (0 + (n : Nat))] := by
        unfold rngD
        rw [List.range_succ, List.map_append]; rfl
      rw [e1, List.filterMap_append, ih (by omega), Int.zero_add]
      have e2 : [D.int (n : Nat)].filterMap (plF L rest) = if L.drop n = rest then [.int (n : Nat)] else [] := by
        have e0 : plF L rest (.int (n : Nat)) = if L.drop n = rest then some (D.int (n : Nat)) else none := by
          show (if L.drop ((n : Nat) : Int).toNat = rest then some (D.int (n : Nat)) else none) = _
          rw [Int.toNat_natCast]
        by_cases g : L.drop n = rest
        · rw [if_pos g] at e0 ⊢
          rw [List.filterMap_cons_some e0]; rfl
        · rw [if_neg g] at e0 ⊢
          rw [List.filterMap_cons_none e0]; rfl
      rw [e2]
      by_cases g : L.drop n = rest
      · have hl : rest.length = L.length - n := by rw [← g, List.length_drop]
        have e3 : L.length - rest.length = n := by omega
        rw [if_pos g, if_neg (by omega), if_pos ⟨⟨by omega, by rw [e3]; exact g⟩, by omega⟩, e3]; rfl
      · rw [if_neg g, List.append_nil]
        by_cases g2 : rest.length ≤ L.length ∧ L.drop (L.length - rest.length) = rest
        · by_cases g3 : L.length - rest.length < n
          · rw [if_pos ⟨g2, g3⟩, if_pos ⟨g2, by omega⟩]
          · have : L.length - rest.length ≠ n := fun e => g (by rw [← e]; exact g2.2)
            rw [if_neg (by omega), if_neg (by omega)]
        · rw [if_neg fun z => g2 z.1, if_neg fun z => g2 z.1]
  rw [go L.length (Nat.le_refl _)]
  have hp : 0 < rest.length := List.length_pos_iff.mpr h
  by_cases g2 : rest.length ≤ L.length ∧ L.drop (L.length - rest.length) = rest
  · rw [if_pos ⟨g2, by omega⟩, if_pos g2]
  · rw [if_neg fun z => g2 z.1, if_neg g2]
theorem due_ok {m : M} {line rest : List Str} {name : Str} {Q : DK} (hl : line.length ≤ 100) (h1 : ∀ s ∈ line, okS s) (h2 : ∀ s ∈ name :: rest, okS s) (k : Q (vw line name rest) m) : sp_l_due [tS line, tS (name :: rest)] m Q := by
  refine ⟨rfl, ?_⟩
  show r_l_due_4 _ _ _
  simp only [r_l_due_4, tSq, DL.tIfS, tBinT, tBin, tV, tK, DL.tSet, tRt, tRtN, tAs, gSb, tFn, tAC, tA0, tDr, tApp, tExt, tPopA, tLstD, tTupD, tLstM, tCl, tMt, tPr, tNx, tSlD, tON, tOS, tIfD, DL.tAndT, DL.tOrT, DL.tNotT, tTru, tChainT, tNeg, tListM, List.map_cons, List.map_nil, List.length_cons, List.length_nil, List.replicate, List.cons_append, List.nil_append, List.getElem?_cons_zero, List.getElem?_cons_succ, List.set_cons_zero, List.set_cons_succ, Option.some.injEq, exists_eq_left', exists_eq_left, D.bl.injEq, D.int.injEq, D.str.injEq, D.lst.injEq, D.ref.injEq, if_true, if_false, Bool.true_eq_false, Bool.false_eq_true, startD, bodyEnds, Nat.reduceSub, Nat.reduceAdd, true_and, and_true]
  refine lc_pure (ds := rngD 0 line.length) (plF line (name :: rest)) (fun R hR => ?_) (by unfold rngD; rw [List.length_map, List.length_range]; exact smallLt (by omega)) (fun d m1 R hd hm hy hno => ?_) ?_
  · simp only [iRg, tSq, DL.tIfS, tBinT, tBin, tV, tK, DL.tSet, tRt, tRtN, tAs, gSb, tFn, tAC, tA0, tDr, tApp, tExt, tPopA, tLstD, tTupD, tLstM, tCl, tMt, tPr, tNx, tSlD, tON, tOS, tIfD, DL.tAndT, DL.tOrT, DL.tNotT, tTru, tChainT, tNeg, tListM, List.map_cons, List.map_nil, List.length_cons, List.length_nil, List.replicate, List.cons_append, List.nil_append, List.getElem?_cons_zero, List.getElem?_cons_succ, List.set_cons_zero, List.set_cons_succ, Option.some.injEq, exists_eq_left', exists_eq_left, D.bl.injEq, D.int.injEq, D.str.injEq, D.lst.injEq, D.ref.injEq, if_true, if_false, Bool.true_eq_false, Bool.false_eq_true, startD, bodyEnds, Nat.reduceSub, Nat.reduceAdd, true_and, and_true]
    refine ⟨.int line.length, by simp only [d1, look, tS, dLen, List.length_map], line.length, rfl, by omega, by omega, ?_⟩
    rw [Int.toNat_natCast]; exact hR
  · unfold rngD at hd
    obtain ⟨t, ht, rfl⟩ := List.mem_map.mp hd
    simp only [tgD, gN, wipeD, r_l_due_1, r_l_due_2, tSq, DL.tIfS, tBinT, tBin, tV, tK, DL.tSet, tRt, tRtN, tAs, gSb, tFn, tAC, tA0, tDr, tApp, tExt, tPopA, tLstD, tTupD, tLstM, tCl, tMt, tPr, tNx, tSlD, tON, tOS, tIfD, DL.tAndT, DL.tOrT, DL.tNotT, tTru, tChainT, tNeg, tListM, List.map_cons, List.map_nil, List.length_cons, List.length_nil, List.replicate, List.cons_append, List.nil_append, List.getElem?_cons_zero, List.getElem?_cons_succ, List.set_cons_zero, List.set_cons_succ, Option.some.injEq, exists_eq_left', exists_eq_left, D.bl.injEq, D.int.injEq, D.str.injEq, D.lst.injEq, D.ref.injEq, if_true, if_false, Bool.true_eq_false, Bool.false_eq_true, startD, bodyEnds, Nat.reduceSub, Nat.reduceAdd, true_and, and_true]
    rw [Int.zero_add] at *
    have e1 : dSl m1 (tS line) (some (t : Int)) none = some (tS (line.drop t)) := by
      simp only [dSl, look, tS]
      rw [cut_from (by omega), Int.toNat_natCast, List.map_drop]
    have e2 : dEq m1 (tS (line.drop t)) (tS (name :: rest)) = some (.bl (decide (line.drop t = name :: rest))) := by
      show (dEqB (tS (line.drop t)) (tS (name :: rest))).map D.bl = _
      rw [eqS (fun s hs => h1 s (List.mem_of_mem_drop hs)) h2]; rfl
    refine ⟨_, rfl, _, e1, _, e2, ?_⟩
    by_cases g : line.drop t = name :: rest
    · simp only [g, decide_true, if_true]
      refine hy _ (if_pos ?_)
      rw [Int.toNat_natCast]; exact g
    · simp only [g, decide_false, Bool.false_eq_true, if_false]
      refine hno (if_neg ?_)
      rw [Int.toNat_natCast]; exact g
  rw [plF_eq (by simp)]
  by_cases g : (name :: rest).length ≤ line.length ∧ line.drop (line.length - (name :: rest).length) = name :: rest
  · have e : pl line (name :: rest) = _ := if_pos g
    unfold vw at k
    rw [e] at k
    rw [if_pos g]
    generalize ((line.length - (name :: rest).length : Nat) : Int) = z at *
    have dn : dNe m (.lst [.int z]) (.lst []) = some (.bl true) := by
      show (dEqB (.lst [.int z]) (.lst [])).map _ = _
      rw [dEqB_nil (ds := [.int z]) (datL_ints 59 [z])]
      simp
    simp only [r_l_due_3, tSq, DL.tIfS, tBinT, tBin, tV, tK, DL.tSet, tRt, tRtN, tAs, gSb, tFn, tAC, tA0, tDr, tApp, tExt, tPopA, tLstD, tTupD, tLstM, tCl, tMt, tPr, tNx, tSlD, tON, tOS, tIfD, DL.tAndT, DL.tOrT, DL.tNotT, tTru, tChainT, tNeg, tListM, List.map_cons, List.map_nil, List.length_cons, List.length_nil, List.replicate, List.cons_append, List.nil_append, List.getElem?_cons_zero, List.getElem?_cons_succ, List.set_cons_zero, List.set_cons_succ, Option.some.injEq, exists_eq_left', exists_eq_left, D.bl.injEq, D.int.injEq, D.str.injEq, D.lst.injEq, D.ref.injEq, if_true, if_false, Bool.true_eq_false, Bool.false_eq_true, startD, bodyEnds, Nat.reduceSub, Nat.reduceAdd, true_and, and_true]
    refine ⟨_, ix_head, by decide, true, dn, ?_⟩
    simp only [if_true]
    exact ⟨_, dIx_lst rfl rfl (atI_pos (by decide) rfl), by decide, dropR.self k⟩
  · have e : pl line (name :: rest) = _ := if_neg g
    unfold vw at k
    rw [e] at k
    rw [if_neg g]
    have dn : dNe m (.lst []) (.lst []) = some (.bl false) := by
      show (dEqB (.lst []) (.lst [])).map _ = _
      rw [dEqB_nil rfl]
      simp
    simp only [r_l_due_3, tSq, DL.tIfS, tBinT, tBin, tV, tK, DL.tSet, tRt, tRtN, tAs, gSb, tFn, tAC, tA0, tDr, tApp, tExt, tPopA, tLstD, tTupD, tLstM, tCl, tMt, tPr, tNx, tSlD, tON, tOS, tIfD, DL.tAndT, DL.tOrT, DL.tNotT, tTru, tChainT, tNeg, tListM, List.map_cons, List.map_nil, List.length_cons, List.length_nil, List.replicate, List.cons_append, List.nil_append, List.getElem?_cons_zero, List.getElem?_cons_succ, List.set_cons_zero, List.set_cons_succ, Option.some.injEq, exists_eq_left', exists_eq_left, D.bl.injEq, D.int.injEq, D.str.injEq, D.lst.injEq, D.ref.injEq, if_true, if_false, Bool.true_eq_false, Bool.false_eq_true, startD, bodyEnds, Nat.reduceSub, Nat.reduceAdd, true_and, and_true]
    refine ⟨_, ix_head, by decide, false, dn, ?_⟩
    simp only [Bool.false_eq_true, if_false]
    first
      | exact ⟨by decide, dropR.self k⟩
      | exact ⟨1, rfl, by decide, dropR.self k⟩
end K66
namespace K66
open PySem PySem.Spec PyProof.Rows DL
open SX (S S_len S_cat S_inj S_tl)
theorem slS (m : M) (a : List Str) (lo hi : Option Int) : dSl m (tS a) lo hi = some (tS (DL.cutD a lo hi)) := by
  simp only [dSl, look, tS]
  rw [DL.cutD_map]
theorem cut_mem {a : List Str} {lo hi : Option Int} {x : Str} (h : x ∈ DL.cutD a lo hi) : x ∈ a := List.mem_of_mem_drop (List.mem_of_mem_take h)
theorem cut_le (a : List Str) (lo hi : Option Int) : (DL.cutD a lo hi).length ≤ a.length := by
  unfold DL.cutD
  rw [List.length_take, List.length_drop]; omega
theorem addS {m : M} {a b : List Str} (h : a.length + b.length ≤ 1000) : dAdd m (tS a) (tS b) = some (tS (a ++ b)) := by
  simp only [dAdd, look, tS, List.length_map, if_pos (small h)]
  rw [List.map_append]
/-- tuples of words of the line and of the names -/
structure Cd (line names : List Str) (n : Nat) (c : List Str) : Prop where
  len : c.length ≤ n
  kn : ∀ w ∈ c, w ∈ line ∨ w ∈ names
theorem Cd.cut {line names : List Str} {n : Nat} {c : List Str} (h : Cd line names n c) (lo hi : Option Int) : Cd line names n (DL.cutD c lo hi) := ⟨Nat.le_trans (cut_le _ _ _) h.len, fun w hw => h.kn w (cut_mem hw)⟩
theorem Cd.app {line names : List Str} {n k : Nat} {c d : List Str} (h : Cd line names n c) (g : Cd line names k d) : Cd line names (n + k) (c ++ d) := ⟨by rw [List.length_append]; have := h.len; have := g.len; omega, fun w hw => (List.mem_append.mp hw).elim (h.kn w) (g.kn w)⟩
theorem Cd.le {line names : List Str} {n k : Nat} {c : List Str} (h : Cd line names n c) (hk : n ≤ k) : Cd line names k c := ⟨Nat.le_trans h.len hk, h.kn⟩
theorem chain_ok {m : M} {p : Addr} {l : D} {a : Int} {line names : List Str} {Q : DK} (hp : m p = some l) (h : PenD l a) (ha : a + 10 < 1048576) (h1 : line ≠ []) (h12 : line.length ≤ 12) (hn : names ≠ []) (hnl : names.length < 1000) (hol : ∀ s ∈ line, okS s) (hon : ∀ s ∈ names, okS s)
    (k : ∀ c l', c ≠ [] → Cd line names 40 c → PenD l' (a + 10) → Q (tS c) (updM m p l')) : sp_l_chain [.ref p, tS line, .lst (names.map .str)] m Q := by
  refine ⟨rfl, ?_⟩
  show r_l_chain_8 _ _ _
  have lenS : ∀ (m : M) (a : List Str), d1 dLen m [tS a] = some (.int a.length) := fun m a => by simp only [d1, look, tS, dLen, List.length_map]
  have hpos : 0 < line.length := List.length_pos_iff.mpr h1
  simp only [r_l_chain_8, tSq, DL.tIfS, tBinT, tBin, tV, tK, DL.tSet, tRt, tRtN, tAs, gSb, tFn, tAC, tA0, tDr, tApp, tExt, tPopA, tLstD, tTupD, tLstM, tCl, tMt, tPr, tNx, tSlD, tON, tOS, tIfD, DL.tAndT, DL.tOrT, DL.tNotT, tTru, tChainT, tNeg, tListM, List.map_cons, List.map_nil, List.length_cons, List.length_nil, List.replicate, List.cons_append, List.nil_append, List.getElem?_cons_zero, List.getElem?_cons_succ, List.set_cons_zero, List.set_cons_succ, Option.some.injEq, exists_eq_left', exists_eq_left, D.bl.injEq, D.int.injEq, D.str.injEq, D.lst.injEq, D.ref.injEq, if_true, if_false, Bool.true_eq_false, Bool.false_eq_true, startD, bodyEnds, Nat.reduceSub, Nat.reduceAdd, true_and, and_true]
  refine ⟨_, lenS _ _, ?_⟩
  refine draw_ok hp h (by omega) (by omega) (by omega) fun v l1 v1 v2 hl1 => ⟨v, rfl, _, slS _ _ _ _, ?_⟩
  have hrest : DL.cutD line (some v) none = line.drop v.toNat := cut_from v1
  have hrp : 0 < (DL.cutD line (some v) none).length := by rw [hrest, List.length_drop]; omega
  generalize hR : DL.cutD line (some v) none = rest at *
  have cR : Cd line names 12 rest := by rw [← hR]; exact (⟨h12, fun w hw => .inl hw⟩ : Cd line names 12 line).cut _ _
  have cL : Cd line names 12 line := ⟨h12, fun w hw => .inl hw⟩
  have lR := cR.len
  simp only [r_l_chain_7, tSq, DL.tIfS, tBinT, tBin, tV, tK, DL.tSet, tRt, tRtN, tAs, gSb, tFn, tAC, tA0, tDr, tApp, tExt, tPopA, tLstD, tTupD, tLstM, tCl, tMt, tPr, tNx, tSlD, tON, tOS, tIfD, DL.tAndT, DL.tOrT, DL.tNotT, tTru, tChainT, tNeg, tListM, List.map_cons, List.map_nil, List.length_cons, List.length_nil, List.replicate, List.cons_append, List.nil_append, List.getElem?_cons_zero, List.getElem?_cons_succ, List.set_cons_zero, List.set_cons_succ, Option.some.injEq, exists_eq_left', exists_eq_left, D.bl.injEq, D.int.injEq, D.str.injEq, D.lst.injEq, D.ref.injEq, if_true, if_false, Bool.true_eq_false, Bool.false_eq_true, startD, bodyEnds, Nat.reduceSub, Nat.reduceAdd, true_and, and_true]
  refine ⟨_, lenS _ _, ?_⟩
  refine draw_ok updM_same hl1 (by omega) (by omega) (by omega) fun at_ l2 a1 a2 hl2 => ?_
  rw [updM_over]
  simp only [r_l_chain_6, tSq, DL.tIfS, tBinT, tBin, tV, tK, DL.tSet, tRt, tRtN, tAs, gSb, tFn, tAC, tA0, tDr, tApp, tExt, tPopA, tLstD, tTupD, tLstM, tCl, tMt, tPr, tNx, tSlD, tON, tOS, tIfD, DL.tAndT, DL.tOrT, DL.tNotT, tTru, tChainT, tNeg, tListM, List.map_cons, List.map_nil, List.length_cons, List.length_nil, List.replicate, List.cons_append, List.nil_append, List.getElem?_cons_zero, List.getElem?_cons_succ, List.set_cons_zero, List.set_cons_succ, Option.some.injEq, exists_eq_left', exists_eq_left, D.bl.injEq, D.int.injEq, D.str.injEq, D.lst.injEq, D.ref.injEq, if_true, if_false, Bool.true_eq_false, Bool.false_eq_true, startD, bodyEnds, Nat.reduceSub, Nat.reduceAdd, true_and, and_true]
  refine pick_strs updM_same hl2 (by omega) hn (by omega) fun mark l3 hmark hl3 => ?_
  rw [updM_over]
  have cM : Cd line names 1 [mark] := ⟨Nat.le_refl _, fun w hw => .inr (by rw [List.mem_singleton] at hw; subst hw; exact hmark)⟩
  simp only [r_l_chain_5, tSq, DL.tIfS, tBinT, tBin, tV, tK, DL.tSet, tRt, tRtN, tAs, gSb, tFn, tAC, tA0, tDr, tApp, tExt, tPopA, tLstD, tTupD, tLstM, tCl, tMt, tPr, tNx, tSlD, tON, tOS, tIfD, DL.tAndT, DL.tOrT, DL.tNotT, tTru, tChainT, tNeg, tListM, List.map_cons, List.map_nil, List.length_cons, List.length_nil, List.replicate, List.cons_append, List.nil_append, List.getElem?_cons_zero, List.getElem?_cons_succ, List.set_cons_zero, List.set_cons_succ, Option.some.injEq, exists_eq_left', exists_eq_left, D.bl.injEq, D.int.injEq, D.str.injEq, D.lst.injEq, D.ref.injEq, if_true, if_false, Bool.true_eq_false, Bool.false_eq_true, startD, bodyEnds, Nat.reduceSub, Nat.reduceAdd, true_and, and_true]
  refine draw_ok updM_same hl3 (by omega) (by omega) (by omega) fun u l4 u1 u2 hl4 => ⟨u, rfl, _, slS _ _ _ _, ?_⟩
  rw [updM_over]
  have cA := cL.cut none (some u)
  generalize DL.cutD line none (some u) = ahead at *
  have lA := cA.len
  have eM : D.tup [.str mark] = tS [mark] := rfl
  have eMM : D.tup [.str mark, .str mark] = tS [mark, mark] := rfl
  have lc : ∀ lo hi, (DL.cutD rest lo hi).length ≤ 12 := fun lo hi => Nat.le_trans (cut_le _ _ _) lR
  simp only [r_l_chain_4, tSq, DL.tIfS, tBinT, tBin, tV, tK, DL.tSet, tRt, tRtN, tAs, gSb, tFn, tAC, tA0, tDr, tApp, tExt, tPopA, tLstD, tTupD, tLstM, tCl, tMt, tPr, tNx, tSlD, tON, tOS, tIfD, DL.tAndT, DL.tOrT, DL.tNotT, tTru, tChainT, tNeg, tListM, List.map_cons, List.map_nil, List.length_cons, List.length_nil, List.replicate, List.cons_append, List.nil_append, List.getElem?_cons_zero, List.getElem?_cons_succ, List.set_cons_zero, List.set_cons_succ, Option.some.injEq, exists_eq_left', exists_eq_left, D.bl.injEq, D.int.injEq, D.str.injEq, D.lst.injEq, D.ref.injEq, if_true, if_false, Bool.true_eq_false, Bool.false_eq_true, startD, bodyEnds, Nat.reduceSub, Nat.reduceAdd, true_and, and_true]
  rw [eM]
  refine ⟨by decide, _, addS (by simp; omega), _, addS (by omega), at_, rfl, _, slS _ _ _ _, by decide, _, addS (by have := lc none (some at_); simp; omega), .int (at_ + 1), rfl, at_ + 1, rfl, _, slS _ _ _ _, _, addS (by have := lc none (some at_); have := lc (some (at_ + 1)) none; rw [List.length_append]; simp; omega), by decide, _, addS (by simp; omega), by decide, ?_⟩
  simp only [r_l_chain_3, tSq, DL.tIfS, tBinT, tBin, tV, tK, DL.tSet, tRt, tRtN, tAs, gSb, tFn, tAC, tA0, tDr, tApp, tExt, tPopA, tLstD, tTupD, tLstM, tCl, tMt, tPr, tNx, tSlD, tON, tOS, tIfD, DL.tAndT, DL.tOrT, DL.tNotT, tTru, tChainT, tNeg, tListM, List.map_cons, List.map_nil, List.length_cons, List.length_nil, List.replicate, List.cons_append, List.nil_append, List.getElem?_cons_zero, List.getElem?_cons_succ, List.set_cons_zero, List.set_cons_succ, Option.some.injEq, exists_eq_left', exists_eq_left, D.bl.injEq, D.int.injEq, D.str.injEq, D.lst.injEq, D.ref.injEq, if_true, if_false, Bool.true_eq_false, Bool.false_eq_true, startD, bodyEnds, Nat.reduceSub, Nat.reduceAdd, true_and, and_true]
  refine ⟨at_, rfl, _, slS _ _ _ _, at_, rfl, .int (at_ + 1), rfl, at_ + 1, rfl, _, slS _ _ _ _, _, addS (by have := lc none (some at_); have := lc (some at_) (some (at_ + 1)); omega), at_, rfl, _, slS _ _ _ _, _, addS (by have := lc none (some at_); have := lc (some at_) (some (at_ + 1)); have := lc (some at_) none; rw [List.length_append]; omega), ?_⟩
  refine ⟨at_, rfl, _, slS _ _ _ _, .int (at_ + 1), rfl, at_ + 1, rfl, _, slS _ _ _ _, _, addS (by have := lc none (some at_); have := lc (some (at_ + 1)) none; omega), by decide, by decide, ?_⟩
  refine ⟨_, by simp only [dAdd, look, List.length_cons, List.length_nil]; exact if_pos (by decide), ?_⟩
  simp only [r_l_chain_2, tSq, DL.tIfS, tBinT, tBin, tV, tK, DL.tSet, tRt, tRtN, tAs, gSb, tFn, tAC, tA0, tDr, tApp, tExt, tPopA, tLstD, tTupD, tLstM, tCl, tMt, tPr, tNx, tSlD, tON, tOS, tIfD, DL.tAndT, DL.tOrT, DL.tNotT, tTru, tChainT, tNeg, tListM, List.map_cons, List.map_nil, List.length_cons, List.length_nil, List.replicate, List.cons_append, List.nil_append, List.getElem?_cons_zero, List.getElem?_cons_succ, List.set_cons_zero, List.set_cons_succ, Option.some.injEq, exists_eq_left', exists_eq_left, D.bl.injEq, D.int.injEq, D.str.injEq, D.lst.injEq, D.ref.injEq, if_true, if_false, Bool.true_eq_false, Bool.false_eq_true, startD, bodyEnds, Nat.reduceSub, Nat.reduceAdd, true_and, and_true]
  refine pick_lst updM_same hl4 (by omega) rfl (fun _ => rfl) (by simp) (by simp) fun d l5 hd hl5 => ?_
  rw [updM_over]
  have hd2 : ∃ c, d = tS c ∧ Cd line names 40 c := by
    simp only [List.cons_append, List.nil_append, List.mem_cons, List.not_mem_nil, or_false] at hd
    rcases hd with rfl | rfl | rfl | rfl | rfl | rfl | rfl | rfl | rfl | rfl
    · exact ⟨_, rfl, cR.le (by omega)⟩
    · exact ⟨_, rfl, cR.le (by omega)⟩
    · exact ⟨_, rfl, cL.le (by omega)⟩
    · exact ⟨_, rfl, (cM.app cR).le (by omega)⟩
    · exact ⟨_, rfl, (cA.app cR).le (by omega)⟩
    · exact ⟨_, rfl, (((cR.cut _ _).app cM).app (cR.cut _ _)).le (by omega)⟩
    · exact ⟨_, rfl, (cR.app cM).le (by omega)⟩
    · exact ⟨_, rfl, (((cR.cut _ _).app (cR.cut _ _)).app (cR.cut _ _)).le (by omega)⟩
    · exact ⟨_, rfl, ((cR.cut _ _).app (cR.cut _ _)).le (by omega)⟩
    · exact ⟨[mark, mark], rfl, (cM.app cM).le (by omega)⟩
  obtain ⟨c, rfl, hc⟩ := hd2
  have hmk : mark ∈ names := hmark
  simp only [r_l_chain_1, tSq, DL.tIfS, tBinT, tBin, tV, tK, DL.tSet, tRt, tRtN, tAs, gSb, tFn, tAC, tA0, tDr, tApp, tExt, tPopA, tLstD, tTupD, tLstM, tCl, tMt, tPr, tNx, tSlD, tON, tOS, tIfD, DL.tAndT, DL.tOrT, DL.tNotT, tTru, tChainT, tNeg, tListM, List.map_cons, List.map_nil, List.length_cons, List.length_nil, List.replicate, List.cons_append, List.nil_append, List.getElem?_cons_zero, List.getElem?_cons_succ, List.set_cons_zero, List.set_cons_succ, Option.some.injEq, exists_eq_left', exists_eq_left, D.bl.injEq, D.int.injEq, D.str.injEq, D.lst.injEq, D.ref.injEq, if_true, if_false, Bool.true_eq_false, Bool.false_eq_true, startD, bodyEnds, Nat.reduceSub, Nat.reduceAdd, true_and, and_true]
  by_cases g : c = []
  · subst g
    refine ⟨by decide, false, rfl, ?_⟩
    simp only [Bool.false_eq_true, if_false]
    exact ⟨by decide, dropR.self (k [mark] l5 (by simp) (cM.le (by omega)) (hl5.mono (by omega)))⟩
  · have e : dEqB (tS c) (.tup []) = some (decide (c = [])) := eqS (ys := []) (fun s hs => (hc.kn s hs).elim (hol s) (hon s)) (by simp)
    have dn : dNe (updM m p l5) (tS c) (.tup []) = some (.bl true) := by
      show (dEqB (tS c) (.tup [])).map _ = _
      rw [e]
      simp [g]
    refine ⟨by decide, true, dn, ?_⟩
    simp only [if_true]
    exact dropR.self (k c l5 g hc (hl5.mono (by omega)))
/-- one view more -/
theorem seen_turn {m : M} {p CB CC : Addr} {l : D} {a : Int} {line : List Str} {rows : List Row} {chain rest : List Str} {name : Str} {i : Nat} {E : DEnds} (hp : m p = some l) (h : PenD l a) (ha : a + 2 < 1048576) (hi : chain[i]? = some name)
    (hll : line.length ≤ 100) (hol : ∀ s ∈ line, okS s) (ho2 : ∀ s ∈ name :: rest, okS s) (hd : chain.drop i = name :: rest)
    (k : ∀ l', PenD l' (a + 2) → E.nx [some (.ref p), some (levD CB CC line rows), some (tS line), some (tS chain), some (vw line name rest), some (.int i)] (updM m p l')) :
    r_l_views_right_7 CB [some (.ref p), some (levD CB CC line rows), some (tS line), some (tS chain), some (causeD line rest), some (.int i)] m E := by
  have ixS : ∀ m : M, dIx m (tS chain) (.int i) = some (.str name) := fun m => dIx_tup rfl rfl (atI_pos (by omega) (by rw [Int.toNat_natCast, List.getElem?_map, hi]; rfl))
  have fv : Fit (vw line name rest) 60 1000 := (FitL.tup (FitL.cons (fit_str (n := 59) (ho2 name (by simp))) (FitL.cons (fit_int (n := 59) (by have := pl_ge line (name :: rest); omega)) FitL.nil))).le (by decide)
  have es1 : dReprA (vw line name rest) = some (.str (toPd (vw line name rest)).shown) := repr_tup fv (by decide)
  have fin : ∀ l', PenD l' (a + 2) → r_l_views_right_6 CB [some (.ref p), some (levD CB CC line rows), some (tS line), some (tS chain), some (vw line name rest), some (.int i)] (updM m p l') E := fun l' hl' => by
    simp only [r_l_views_right_6, tSq, DL.tIfS, tBinT, tBin, tV, tK, DL.tSet, tRt, tRtN, tAs, gSb, tFn, tAC, tA0, tDr, tApp, tExt, tPopA, tLstD, tTupD, tLstM, tCl, tMt, tPr, tNx, tSlD, tON, tOS, tIfD, DL.tAndT, DL.tOrT, DL.tNotT, tTru, tChainT, tNeg, tListM, List.map_cons, List.map_nil, List.length_cons, List.length_nil, List.replicate, List.cons_append, List.nil_append, List.getElem?_cons_zero, List.getElem?_cons_succ, List.set_cons_zero, List.set_cons_succ, Option.some.injEq, exists_eq_left', exists_eq_left, D.bl.injEq, D.int.injEq, D.str.injEq, D.lst.injEq, D.ref.injEq, if_true, if_false, Bool.true_eq_false, Bool.false_eq_true, startD, bodyEnds, Nat.reduceSub, Nat.reduceAdd, true_and, and_true]
    have et : dSl (updM m p l') (tS chain) (some (i : Int)) none = some (tS (name :: rest)) := by
      rw [slS, show DL.cutD chain (some (i : Int)) none = chain.drop i by rw [cut_from (by omega), Int.toNat_natCast], hd]
    refine ⟨_, es1, i, rfl, _, et, due_ok hll hol ho2 ⟨_, es1, false, ?_, ?_⟩⟩
    · simp only [dNe, look, dEqB, decide_true, Option.map_some]; rfl
    have fs : (reprText name).length ≤ sizeLine := (fit_shown (fit_str (n := 60) (ho2 name (by simp))) (by decide)).2.2
    have er : dReprA (.str name) = some (.str (reprText name)) := if_pos fs
    simp only [Bool.false_eq_true, if_false]
    refine ⟨_, _, rfl, no_name, nameof_ok ⟨_, er, _, ixS _, _, er, false, ?_, ?_⟩⟩
    · simp only [dNe, look, dEqB, decide_true, Option.map_some]; rfl
    simp only [Bool.false_eq_true, if_false]
    exact k l' hl'
  have go : ∀ l1, PenD l1 (a + 1) → r_l_views_right_4 CB [some (.ref p), some (levD CB CC line rows), some (tS line), some (tS chain), some (causeD line rest), some (.int i)] (updM m p l1) { E with nx := fun env' m' => r_l_views_right_6 CB env' m' E } := fun l1 hl1 => by
    simp only [r_l_views_right_4, tSq, DL.tIfS, tBinT, tBin, tV, tK, DL.tSet, tRt, tRtN, tAs, gSb, tFn, tAC, tA0, tDr, tApp, tExt, tPopA, tLstD, tTupD, tLstM, tCl, tMt, tPr, tNx, tSlD, tON, tOS, tIfD, DL.tAndT, DL.tOrT, DL.tNotT, tTru, tChainT, tNeg, tListM, List.map_cons, List.map_nil, List.length_cons, List.length_nil, List.replicate, List.cons_append, List.nil_append, List.getElem?_cons_zero, List.getElem?_cons_succ, List.set_cons_zero, List.set_cons_succ, Option.some.injEq, exists_eq_left', exists_eq_left, D.bl.injEq, D.int.injEq, D.str.injEq, D.lst.injEq, D.ref.injEq, if_true, if_false, Bool.true_eq_false, Bool.false_eq_true, startD, bodyEnds, Nat.reduceSub, Nat.reduceAdd, true_and, and_true]
    refine draw_ok updM_same hl1 (by omega) (by decide) (by decide) fun v l2 v1 v2 h2 => ?_
    rw [updM_over]
    refine ⟨decide (v = 0), rfl, ?_⟩
    by_cases g : v = 0
    · simp only [g, decide_true, if_true, r_l_views_right_2, tSq, DL.tIfS, tBinT, tBin, tV, tK, DL.tSet, tRt, tRtN, tAs, gSb, tFn, tAC, tA0, tDr, tApp, tExt, tPopA, tLstD, tTupD, tLstM, tCl, tMt, tPr, tNx, tSlD, tON, tOS, tIfD, DL.tAndT, DL.tOrT, DL.tNotT, tTru, tChainT, tNeg, tListM, List.map_cons, List.map_nil, List.length_cons, List.length_nil, List.replicate, List.cons_append, List.nil_append, List.getElem?_cons_zero, List.getElem?_cons_succ, List.set_cons_zero, List.set_cons_succ, Option.some.injEq, exists_eq_left', exists_eq_left, D.bl.injEq, D.int.injEq, D.str.injEq, D.lst.injEq, D.ref.injEq, if_true, if_false, Bool.true_eq_false, Bool.false_eq_true, startD, bodyEnds, Nat.reduceSub, Nat.reduceAdd, true_and, and_true]
      simp only [tMtK, tSq, DL.tIfS, tBinT, tBin, tV, tK, DL.tSet, tRt, tRtN, tAs, gSb, tFn, tAC, tA0, tDr, tApp, tExt, tPopA, tLstD, tTupD, tLstM, tCl, tMt, tPr, tNx, tSlD, tON, tOS, tIfD, DL.tAndT, DL.tOrT, DL.tNotT, tTru, tChainT, tNeg, tListM, List.map_cons, List.map_nil, List.length_cons, List.length_nil, List.replicate, List.cons_append, List.nil_append, List.getElem?_cons_zero, List.getElem?_cons_succ, List.set_cons_zero, List.set_cons_succ, Option.some.injEq, exists_eq_left', exists_eq_left, D.bl.injEq, D.int.injEq, D.str.injEq, D.lst.injEq, D.ref.injEq, if_true, if_false, Bool.true_eq_false, Bool.false_eq_true, startD, bodyEnds, Nat.reduceSub, Nat.reduceAdd, true_and, and_true]
      refine ⟨_, _, rfl, no_view, .str name, ixS _, ?_⟩
      show sp_ByTrail_view CB [levD CB CC line rows, .str name, causeD line rest] _ _
      exact view_ok (fin l2 (h2.mono (by omega)))
    · simp only [g, decide_false, Bool.false_eq_true, if_false, r_l_views_right_3, tSq, DL.tIfS, tBinT, tBin, tV, tK, DL.tSet, tRt, tRtN, tAs, gSb, tFn, tAC, tA0, tDr, tApp, tExt, tPopA, tLstD, tTupD, tLstM, tCl, tMt, tPr, tNx, tSlD, tON, tOS, tIfD, DL.tAndT, DL.tOrT, DL.tNotT, tTru, tChainT, tNeg, tListM, List.map_cons, List.map_nil, List.length_cons, List.length_nil, List.replicate, List.cons_append, List.nil_append, List.getElem?_cons_zero, List.getElem?_cons_succ, List.set_cons_zero, List.set_cons_succ, Option.some.injEq, exists_eq_left', exists_eq_left, D.bl.injEq, D.int.injEq, D.str.injEq, D.lst.injEq, D.ref.injEq, if_true, if_false, Bool.true_eq_false, Bool.false_eq_true, startD, bodyEnds, Nat.reduceSub, Nat.reduceAdd, true_and, and_true]
      exact ⟨_, _, rfl, no_view, .str name, ixS _, view_ok (fin l2 (h2.mono (by omega)))⟩
  simp only [r_l_views_right_7, tSq, DL.tIfS, tBinT, tBin, tV, tK, DL.tSet, tRt, tRtN, tAs, gSb, tFn, tAC, tA0, tDr, tApp, tExt, tPopA, tLstD, tTupD, tLstM, tCl, tMt, tPr, tNx, tSlD, tON, tOS, tIfD, DL.tAndT, DL.tOrT, DL.tNotT, tTru, tChainT, tNeg, tListM, List.map_cons, List.map_nil, List.length_cons, List.length_nil, List.replicate, List.cons_append, List.nil_append, List.getElem?_cons_zero, List.getElem?_cons_succ, List.set_cons_zero, List.set_cons_succ, Option.some.injEq, exists_eq_left', exists_eq_left, D.bl.injEq, D.int.injEq, D.str.injEq, D.lst.injEq, D.ref.injEq, if_true, if_false, Bool.true_eq_false, Bool.false_eq_true, startD, bodyEnds, Nat.reduceSub, Nat.reduceAdd, true_and, and_true]
  cases rest with
  | nil =>
    refine ⟨true, rfl, ?_⟩
    simp only [if_true]
    refine draw_ok hp h (by omega) (by decide) (by decide) fun v l1 v1 v2 hl1 => ?_
    refine ⟨decide (v = 0), rfl, ?_⟩
    by_cases g : v = 0
    · simp only [g, decide_true, if_true, r_l_views_right_1, tSq, DL.tIfS, tBinT, tBin, tV, tK, DL.tSet, tRt, tRtN, tAs, gSb, tFn, tAC, tA0, tDr, tApp, tExt, tPopA, tLstD, tTupD, tLstM, tCl, tMt, tPr, tNx, tSlD, tON, tOS, tIfD, DL.tAndT, DL.tOrT, DL.tNotT, tTru, tChainT, tNeg, tListM, List.map_cons, List.map_nil, List.length_cons, List.length_nil, List.replicate, List.cons_append, List.nil_append, List.getElem?_cons_zero, List.getElem?_cons_succ, List.set_cons_zero, List.set_cons_succ, Option.some.injEq, exists_eq_left', exists_eq_left, D.bl.injEq, D.int.injEq, D.str.injEq, D.lst.injEq, D.ref.injEq, if_true, if_false, Bool.true_eq_false, Bool.false_eq_true, startD, bodyEnds, Nat.reduceSub, Nat.reduceAdd, true_and, and_true]
      exact ⟨_, _, rfl, no_view, .str name, ixS _, view2_ok (fin l1 (hl1.mono (by omega)))⟩
    · simp only [g, decide_false, Bool.false_eq_true, if_false]
      exact go l1 hl1
  | cons b t =>
    have go' := go l (h.mono (by omega))
    rw [updM_self hp] at go'
    refine ⟨false, rfl, ?_⟩
    simp only [Bool.false_eq_true, if_false]
    exact go'
theorem views_ok {m : M} {p CB CC : Addr} {l : D} {a : Int} {line : List Str} {rows : List Row} {chain : List Str} {Q : DK} (hp : m p = some l) (h : PenD l a) (ha : a + 100 < 1048576) (hll : line.length ≤ 100) (hol : ∀ s ∈ line, okS s) (hn : chain.length ≤ 40) (hok : ∀ w ∈ chain, okS w)
    (k : ∀ l', PenD l' (a + 100) → Q (.bl true) (updM m p l')) : sp_l_views_right CB [.ref p, levD CB CC line rows, tS line, tS chain] m Q := by
  refine ⟨rfl, ?_⟩
  show r_l_views_right_10 CB _ _ _
  simp only [r_l_views_right_10, r_l_views_right_9, tSq, DL.tIfS, tBinT, tBin, tV, tK, DL.tSet, tRt, tRtN, tAs, gSb, tFn, tAC, tA0, tDr, tApp, tExt, tPopA, tLstD, tTupD, tLstM, tCl, tMt, tPr, tNx, tSlD, tON, tOS, tIfD, DL.tAndT, DL.tOrT, DL.tNotT, tTru, tChainT, tNeg, tListM, List.map_cons, List.map_nil, List.length_cons, List.length_nil, List.replicate, List.cons_append, List.nil_append, List.getElem?_cons_zero, List.getElem?_cons_succ, List.set_cons_zero, List.set_cons_succ, Option.some.injEq, exists_eq_left', exists_eq_left, D.bl.injEq, D.int.injEq, D.str.injEq, D.lst.injEq, D.ref.injEq, if_true, if_false, Bool.true_eq_false, Bool.false_eq_true, startD, bodyEnds, Nat.reduceSub, Nat.reduceAdd, true_and, and_true]
  simp only [tFo, iRg3, tSq, DL.tIfS, tBinT, tBin, tV, tK, DL.tSet, tRt, tRtN, tAs, gSb, tFn, tAC, tA0, tDr, tApp, tExt, tPopA, tLstD, tTupD, tLstM, tCl, tMt, tPr, tNx, tSlD, tON, tOS, tIfD, DL.tAndT, DL.tOrT, DL.tNotT, tTru, tChainT, tNeg, tListM, List.map_cons, List.map_nil, List.length_cons, List.length_nil, List.replicate, List.cons_append, List.nil_append, List.getElem?_cons_zero, List.getElem?_cons_succ, List.set_cons_zero, List.set_cons_succ, Option.some.injEq, exists_eq_left', exists_eq_left, D.bl.injEq, D.int.injEq, D.str.injEq, D.lst.injEq, D.ref.injEq, if_true, if_false, Bool.true_eq_false, Bool.false_eq_true, startD, bodyEnds, Nat.reduceSub, Nat.reduceAdd, true_and, and_true]
  refine ⟨.int chain.length, by simp only [d1, look, tS, dLen, List.length_map], .int (chain.length - 1), rfl, 1, rfl, 1, rfl, ?_⟩
  refine ⟨_, _, rfl, ⟨by omega, by omega, by decide, by decide⟩, ?_⟩
  have et : ((chain.length : Int) - 1 - -1).toNat = chain.length := by omega
  rw [et]
  refine forD_inv (fun t env m' => ∃ l' e5, env = [some (.ref p), some (levD CB CC line rows), some (tS line), some (tS chain), some (causeD line (chain.drop (chain.length - t))), e5] ∧ m' = updM m p l' ∧ PenD l' (a + 2 * t)) ⟨l, none, by simp [causeD], (updM_self hp).symm, h.mono (by omega)⟩ ?_ ?_
  · rintro t d env m' N hd ⟨l', e5, rfl, rfl, hl'⟩ hN
    unfold dnD at hd
    rw [List.getElem?_map] at hd
    obtain ⟨t', ej, rfl⟩ := Option.map_eq_some_iff.mp hd
    have ht : t < chain.length := by
      rcases Nat.lt_or_ge t (List.range chain.length).length with z | z
      · simpa using z
      · rw [List.getElem?_eq_none z] at ej; cases ej
    rw [List.getElem?_range ht] at ej
    cases ej
    have ei : (chain.length : Int) - 1 - (t : Int) = ((chain.length - 1 - t : Nat) : Int) := by omega
    rw [ei]
    obtain ⟨name, hname⟩ : ∃ name, chain[chain.length - 1 - t]? = some name := ⟨_, List.getElem?_eq_getElem (by omega)⟩
    have edrop : chain.drop (chain.length - 1 - t) = name :: chain.drop (chain.length - t) := by
      obtain ⟨hl, he⟩ := List.getElem?_eq_some_iff.mp hname
      rw [List.drop_eq_getElem_cons hl, he]
      congr 2; omega
    have e2 : chain.length - (t + 1) = chain.length - 1 - t := by omega
    simp only [tgD, gN, tSq, DL.tIfS, tBinT, tBin, tV, tK, DL.tSet, tRt, tRtN, tAs, gSb, tFn, tAC, tA0, tDr, tApp, tExt, tPopA, tLstD, tTupD, tLstM, tCl, tMt, tPr, tNx, tSlD, tON, tOS, tIfD, DL.tAndT, DL.tOrT, DL.tNotT, tTru, tChainT, tNeg, tListM, List.map_cons, List.map_nil, List.length_cons, List.length_nil, List.replicate, List.cons_append, List.nil_append, List.getElem?_cons_zero, List.getElem?_cons_succ, List.set_cons_zero, List.set_cons_succ, Option.some.injEq, exists_eq_left', exists_eq_left, D.bl.injEq, D.int.injEq, D.str.injEq, D.lst.injEq, D.ref.injEq, if_true, if_false, Bool.true_eq_false, Bool.false_eq_true, startD, bodyEnds, Nat.reduceSub, Nat.reduceAdd, true_and, and_true]
    refine seen_turn updM_same hl' (by omega) hname hll hol (fun s hs => hok s (by rw [← edrop] at hs; exact List.mem_of_mem_drop hs)) edrop fun l2 h2 => ?_
    rw [updM_over]
    exact hN _ _ ⟨l2, _, by rw [e2, edrop]; rfl, rfl, h2.mono (by omega)⟩
  · rintro env m' ⟨l', e5, rfl, rfl, hl'⟩
    have hz : (dnD ((chain.length : Int) - 1) chain.length).length = chain.length := by simp [dnD]
    rw [hz] at hl'
    simp only [r_l_views_right_8, tSq, DL.tIfS, tBinT, tBin, tV, tK, DL.tSet, tRt, tRtN, tAs, gSb, tFn, tAC, tA0, tDr, tApp, tExt, tPopA, tLstD, tTupD, tLstM, tCl, tMt, tPr, tNx, tSlD, tON, tOS, tIfD, DL.tAndT, DL.tOrT, DL.tNotT, tTru, tChainT, tNeg, tListM, List.map_cons, List.map_nil, List.length_cons, List.length_nil, List.replicate, List.cons_append, List.nil_append, List.getElem?_cons_zero, List.getElem?_cons_succ, List.set_cons_zero, List.set_cons_succ, Option.some.injEq, exists_eq_left', exists_eq_left, D.bl.injEq, D.int.injEq, D.str.injEq, D.lst.injEq, D.ref.injEq, if_true, if_false, Bool.true_eq_false, Bool.false_eq_true, startD, bodyEnds, Nat.reduceSub, Nat.reduceAdd, true_and, and_true]
    exact dropR.self (k l' (hl'.mono (by omega)))
end K66
namespace K66
open PySem PySem.Spec PyProof.Rows DL
open SX (S S_len S_cat S_inj S_tl)
def inK (us : List Str) : D → Option D
  | .str x => if x ∈ us then some (.str x) else none
  | _ => none
theorem inK_eq (us xs : List Str) : (xs.map D.str).filterMap (inK us) = (xs.filter fun x => decide (x ∈ us)).map .str := by
  induction xs with
  | nil => rfl
  | cons x xs ih =>
    rw [List.map_cons, List.filterMap_cons, ih]
    by_cases h : x ∈ us
    · have e : inK us (.str x) = some (.str x) := if_pos h
      rw [e, List.filter_cons_of_pos (by simpa using h)]; rfl
    · have e : inK us (.str x) = none := if_neg h
      rw [e, List.filter_cons_of_neg (by simpa using h)]
theorem any_filter (us xs : List Str) : (!decide ((xs.filter fun x => decide (x ∈ us)).map D.str = [])) = xs.any fun x => decide (x ∈ us) := by
  induction xs with
  | nil => rfl
  | cons x xs ih =>
    by_cases h : x ∈ us
    · rw [List.filter_cons_of_pos (by simpa using h), List.any_cons, decide_eq_true h]; simp
    · rw [List.filter_cons_of_neg (by simpa using h), List.any_cons, decide_eq_false h, Bool.false_or]; exact ih
theorem taken_end {m : M} {CB CC : Addr} {line : List Str} {rows : List Row} {c0 : Str} {ct ws : List Str} {Q : DK} {e0 e2 e3 e4 e7 e10 : Option D} {b : Bool} (hk : c0 ∈ knownOf rows) (hl : ws.length ≤ 10) (hb : b = ws.any fun x => decide (x ∈ up rows c0))
    (k : Q (.bl true) m) : r_l_taken_right_7 CB CC [e0, some (levD CB CC line rows), e2, e3, e4, some (.str c0), some (vw line c0 ct), e7, some (.lst (ws.map .str)), some (.bl b), e10] m { nx := fun _ m => dropR Q .non m, rt := dropR Q } := by
  have fb : ∀ c : Bool, Fit (.lst [.bl c, .bl c]) 60 1000 := fun c => (FitL.lst (FitL.cons (fit_bl (n := 59)) (FitL.cons (fit_bl (n := 59)) FitL.nil))).le (by decide)
  simp only [r_l_taken_right_7, tSq, DL.tIfS, tBinT, tBin, tV, tK, DL.tSet, tRt, tRtN, tAs, gSb, tFn, tAC, tA0, tDr, tApp, tExt, tPopA, tLstD, tTupD, tLstM, tCl, tMt, tPr, tNx, tSlD, tON, tOS, tIfD, DL.tAndT, DL.tOrT, DL.tNotT, tTru, tChainT, tNeg, tListM, List.map_cons, List.map_nil, List.length_cons, List.length_nil, List.replicate, List.cons_append, List.nil_append, List.getElem?_cons_zero, List.getElem?_cons_succ, List.set_cons_zero, List.set_cons_succ, Option.some.injEq, exists_eq_left', exists_eq_left, D.bl.injEq, D.int.injEq, D.str.injEq, D.lst.injEq, D.ref.injEq, if_true, if_false, Bool.true_eq_false, Bool.false_eq_true, startD, bodyEnds, Nat.reduceSub, Nat.reduceAdd, true_and, and_true]
  refine ⟨_, _, rfl, no_taken, taken_ok hk (.inl rfl) (by omega) ?_⟩
  refine ⟨_, _, rfl, no_taken, .tup (ws.map .str), by simp only [d1, look, dTuple], taken_ok hk (.inr rfl) (by omega) ?_⟩
  rw [← hb]
  simp only [d1, look, repr_lst (fb b) (by decide), Option.some.injEq, exists_eq_left']
  refine ⟨by decide, by decide, false, ?_, ?_⟩
  · simp only [dNe, look, dEqB, decide_true, Option.map_some]; rfl
  simp only [Bool.false_eq_true, if_false, r_l_taken_right_6, tSq, DL.tIfS, tBinT, tBin, tV, tK, DL.tSet, tRt, tRtN, tAs, gSb, tFn, tAC, tA0, tDr, tApp, tExt, tPopA, tLstD, tTupD, tLstM, tCl, tMt, tPr, tNx, tSlD, tON, tOS, tIfD, DL.tAndT, DL.tOrT, DL.tNotT, tTru, tChainT, tNeg, tListM, List.map_cons, List.map_nil, List.length_cons, List.length_nil, List.replicate, List.cons_append, List.nil_append, List.getElem?_cons_zero, List.getElem?_cons_succ, List.set_cons_zero, List.set_cons_succ, Option.some.injEq, exists_eq_left', exists_eq_left, D.bl.injEq, D.int.injEq, D.str.injEq, D.lst.injEq, D.ref.injEq, if_true, if_false, Bool.true_eq_false, Bool.false_eq_true, startD, bodyEnds, Nat.reduceSub, Nat.reduceAdd, true_and, and_true]
  refine ⟨_, _, rfl, no_does, does_ok ?_⟩
  refine ⟨_, _, rfl, no_does, does_ok ⟨by decide, ?_⟩⟩
  have fe : Fit (.lst [.tup [], .tup []]) 60 1000 := (FitL.lst (FitL.cons (FitL.tup (n := 58) FitL.nil) (FitL.cons (FitL.tup (n := 58) FitL.nil) FitL.nil))).le (by decide)
  have sh : (toPd (.lst [.tup [], .tup []])).shown = Str.ofString "[(), ()]" := by decide +kernel
  have e1 : dReprA (.lst [.tup [], .tup []]) = some (.str (Str.ofString "[(), ()]")) := by rw [repr_lst fe (by decide), sh]
  simp only [d1, look, e1, Option.some.injEq, exists_eq_left']
  refine ⟨.bl true, by simp only [dEq, look, dEqB, decide_true, Option.map_some], dropR.self k⟩
theorem taken_right_ok {m : M} {p CB CC : Addr} {l : D} {a : Int} {line : List Str} {rows : List Row} {chain : List Str} {Q : DK} (hp : m p = some l) (h : PenD l a) (ha : a + 200 < 1048576) (hr : RowsOk rows) (hn : rows.length ≤ 6) (hnd : (knownOf rows).Nodup) (h22 : ∀ r ∈ rows, r.2.length ≤ 2)
    (hc : chain ≠ []) (hlen : chain.length ≤ 40) (hch : ∀ w ∈ chain, w ∈ knownOf rows) (k : ∀ l', PenD l' (a + 200) → Q (.bl true) (updM m p l')) : sp_l_taken_right CB CC [.ref p, levD CB CC line rows, .lst (rows.map rowD), .lst ((knownOf rows).map .str), tS chain] m Q := by
  refine ⟨rfl, ?_⟩
  show r_l_taken_right_12 CB CC _ _ _
  have klen := knownOf_len rows
  obtain ⟨c0, ct, hcc⟩ := List.exists_cons_of_ne_nil hc
  have hk0 := hch c0 (by rw [hcc]; simp)
  simp only [r_l_taken_right_12, tSq, DL.tIfS, tBinT, tBin, tV, tK, DL.tSet, tRt, tRtN, tAs, gSb, tFn, tAC, tA0, tDr, tApp, tExt, tPopA, tLstD, tTupD, tLstM, tCl, tMt, tPr, tNx, tSlD, tON, tOS, tIfD, DL.tAndT, DL.tOrT, DL.tNotT, tTru, tChainT, tNeg, tListM, List.map_cons, List.map_nil, List.length_cons, List.length_nil, List.replicate, List.cons_append, List.nil_append, List.getElem?_cons_zero, List.getElem?_cons_succ, List.set_cons_zero, List.set_cons_succ, Option.some.injEq, exists_eq_left', exists_eq_left, D.bl.injEq, D.int.injEq, D.str.injEq, D.lst.injEq, D.ref.injEq, if_true, if_false, Bool.true_eq_false, Bool.false_eq_true, startD, bodyEnds, Nat.reduceSub, Nat.reduceAdd, true_and, and_true]
  have e0 : dIx m (tS chain) (.int 0) = some (.str c0) := dIx_tup rfl rfl (atI_pos (by decide) (by rw [hcc]; rfl))
  refine ⟨_, e0, ?_⟩
  simp only [r_l_taken_right_11, r_l_taken_right_10, tSq, DL.tIfS, tBinT, tBin, tV, tK, DL.tSet, tRt, tRtN, tAs, gSb, tFn, tAC, tA0, tDr, tApp, tExt, tPopA, tLstD, tTupD, tLstM, tCl, tMt, tPr, tNx, tSlD, tON, tOS, tIfD, DL.tAndT, DL.tOrT, DL.tNotT, tTru, tChainT, tNeg, tListM, List.map_cons, List.map_nil, List.length_cons, List.length_nil, List.replicate, List.cons_append, List.nil_append, List.getElem?_cons_zero, List.getElem?_cons_succ, List.set_cons_zero, List.set_cons_succ, Option.some.injEq, exists_eq_left', exists_eq_left, D.bl.injEq, D.int.injEq, D.str.injEq, D.lst.injEq, D.ref.injEq, if_true, if_false, Bool.true_eq_false, Bool.false_eq_true, startD, bodyEnds, Nat.reduceSub, Nat.reduceAdd, true_and, and_true]
  simp only [tFo, iRg3, tSq, DL.tIfS, tBinT, tBin, tV, tK, DL.tSet, tRt, tRtN, tAs, gSb, tFn, tAC, tA0, tDr, tApp, tExt, tPopA, tLstD, tTupD, tLstM, tCl, tMt, tPr, tNx, tSlD, tON, tOS, tIfD, DL.tAndT, DL.tOrT, DL.tNotT, tTru, tChainT, tNeg, tListM, List.map_cons, List.map_nil, List.length_cons, List.length_nil, List.replicate, List.cons_append, List.nil_append, List.getElem?_cons_zero, List.getElem?_cons_succ, List.set_cons_zero, List.set_cons_succ, Option.some.injEq, exists_eq_left', exists_eq_left, D.bl.injEq, D.int.injEq, D.str.injEq, D.lst.injEq, D.ref.injEq, if_true, if_false, Bool.true_eq_false, Bool.false_eq_true, startD, bodyEnds, Nat.reduceSub, Nat.reduceAdd, true_and, and_true]
  refine ⟨.int chain.length, by simp only [d1, look, tS, dLen, List.length_map], .int (chain.length - 1), rfl, 1, rfl, 1, rfl, ?_⟩
  refine ⟨_, _, rfl, ⟨by omega, by omega, by decide, by decide⟩, ?_⟩
  have et : ((chain.length : Int) - 1 - -1).toNat = chain.length := by omega
  rw [et]
  refine forD_inv (fun t env m' => ∃ e7, env = [some (.ref p), some (levD CB CC line rows), some (.lst (rows.map rowD)), some (.lst ((knownOf rows).map .str)), some (tS chain), some (.str c0), some (causeD line (chain.drop (chain.length - t))), e7, none, none, none] ∧ m' = m) ⟨none, by simp [causeD], rfl⟩ ?_ ?_
  · rintro t d env m' N hd ⟨e7, rfl, rfl⟩ hN
    unfold dnD at hd
    rw [List.getElem?_map] at hd
    obtain ⟨t', ej, rfl⟩ := Option.map_eq_some_iff.mp hd
    have ht : t < chain.length := by
      rcases Nat.lt_or_ge t (List.range chain.length).length with z | z
      · simpa using z
      · rw [List.getElem?_eq_none z] at ej; cases ej
    rw [List.getElem?_range ht] at ej
    cases ej
    have ei : (chain.length : Int) - 1 - (t : Int) = ((chain.length - 1 - t : Nat) : Int) := by omega
    rw [ei]
    obtain ⟨name, hname⟩ : ∃ name, chain[chain.length - 1 - t]? = some name := ⟨_, List.getElem?_eq_getElem (by omega)⟩
    have edrop : chain.drop (chain.length - 1 - t) = name :: chain.drop (chain.length - t) := by
      obtain ⟨hl, he⟩ := List.getElem?_eq_some_iff.mp hname
      rw [List.drop_eq_getElem_cons hl, he]
      congr 2; omega
    have e2 : chain.length - (t + 1) = chain.length - 1 - t := by omega
    simp only [tgD, gN, r_l_taken_right_1, tSq, DL.tIfS, tBinT, tBin, tV, tK, DL.tSet, tRt, tRtN, tAs, gSb, tFn, tAC, tA0, tDr, tApp, tExt, tPopA, tLstD, tTupD, tLstM, tCl, tMt, tPr, tNx, tSlD, tON, tOS, tIfD, DL.tAndT, DL.tOrT, DL.tNotT, tTru, tChainT, tNeg, tListM, List.map_cons, List.map_nil, List.length_cons, List.length_nil, List.replicate, List.cons_append, List.nil_append, List.getElem?_cons_zero, List.getElem?_cons_succ, List.set_cons_zero, List.set_cons_succ, Option.some.injEq, exists_eq_left', exists_eq_left, D.bl.injEq, D.int.injEq, D.str.injEq, D.lst.injEq, D.ref.injEq, if_true, if_false, Bool.true_eq_false, Bool.false_eq_true, startD, bodyEnds, Nat.reduceSub, Nat.reduceAdd, true_and, and_true]
    have ixS : dIx m' (tS chain) (.int ((chain.length - 1 - t : Nat) : Int)) = some (.str name) := dIx_tup rfl rfl (atI_pos (by omega) (by rw [Int.toNat_natCast, List.getElem?_map, hname]; rfl))
    refine ⟨_, _, rfl, no_view, .str name, ixS, view_ok ?_⟩
    exact hN _ _ ⟨_, by rw [e2, edrop]; rfl, rfl⟩
  · rintro env m' ⟨e7, rfl, rfl⟩
    have hz : (dnD ((chain.length : Int) - 1) chain.length).length = chain.length := by simp [dnD]
    rw [hz, Nat.sub_self, List.drop_zero, hcc]
    have ecz : causeD line (c0 :: ct) = vw line c0 ct := rfl
    rw [ecz]
    simp only [r_l_taken_right_9, tFrz, tLcM, iRg, tSq, DL.tIfS, tBinT, tBin, tV, tK, DL.tSet, tRt, tRtN, tAs, gSb, tFn, tAC, tA0, tDr, tApp, tExt, tPopA, tLstD, tTupD, tLstM, tCl, tMt, tPr, tNx, tSlD, tON, tOS, tIfD, DL.tAndT, DL.tOrT, DL.tNotT, tTru, tChainT, tNeg, tListM, List.map_cons, List.map_nil, List.length_cons, List.length_nil, List.replicate, List.cons_append, List.nil_append, List.getElem?_cons_zero, List.getElem?_cons_succ, List.set_cons_zero, List.set_cons_succ, Option.some.injEq, exists_eq_left', exists_eq_left, D.bl.injEq, D.int.injEq, D.str.injEq, D.lst.injEq, D.ref.injEq, if_true, if_false, Bool.true_eq_false, Bool.false_eq_true, startD, bodyEnds, Nat.reduceSub, Nat.reduceAdd, true_and, and_true]
    refine draw_ok hp h (by omega) (by decide) (by decide) fun v l2 v1 v2 h2 => ?_
    obtain ⟨vn, rfl⟩ := Int.eq_ofNat_of_zero_le v1
    refine ⟨vn, rfl, by omega, by omega, fun r hr0 => ?_⟩
    have pr : p ≠ r := by rintro rfl; rw [updM_same] at hr0; cases hr0
    have hr1 : m' r = none := by rw [updM_ne pr.symm] at hr0; exact hr0
    refine lcD_inv (fun j acc mm => ∃ l' ws, mm = updM (updM m' p l') r (.lst acc) ∧ acc = ws.map D.str ∧ ws.length = j ∧ PenD l' (a + 1 + j)) ⟨l2, [], rfl, rfl, rfl, h2.mono (by omega)⟩ ?_ ?_
    · rintro j acc d mm N hd ⟨l', ws, rfl, rfl, hj, hl'⟩ hN
      have hj2 : j < vn := by
        obtain ⟨z, _⟩ := List.getElem?_eq_some_iff.mp hd
        simpa [rngD] using z
      simp only [tgD, gN, wipeD, tYe, r_l_taken_right_2, tSq, DL.tIfS, tBinT, tBin, tV, tK, DL.tSet, tRt, tRtN, tAs, gSb, tFn, tAC, tA0, tDr, tApp, tExt, tPopA, tLstD, tTupD, tLstM, tCl, tMt, tPr, tNx, tSlD, tON, tOS, tIfD, DL.tAndT, DL.tOrT, DL.tNotT, tTru, tChainT, tNeg, tListM, List.map_cons, List.map_nil, List.length_cons, List.length_nil, List.replicate, List.cons_append, List.nil_append, List.getElem?_cons_zero, List.getElem?_cons_succ, List.set_cons_zero, List.set_cons_succ, Option.some.injEq, exists_eq_left', exists_eq_left, D.bl.injEq, D.int.injEq, D.str.injEq, D.lst.injEq, D.ref.injEq, if_true, if_false, Bool.true_eq_false, Bool.false_eq_true, startD, bodyEnds, Nat.reduceSub, Nat.reduceAdd, true_and, and_true]
      refine pick_strs (by rw [updM_ne pr, updM_same]) hl' (by omega) (by unfold knownOf; simp) (by omega) fun x l3 hx h3 => ?_
      rw [updM_comm pr.symm, updM_over]
      refine ⟨_, updM_same, by rw [List.length_map]; exact smallLt (by omega), hN _ _ ⟨l3, ws ++ [x], by rw [updM_over], by rw [List.map_append]; rfl, by simp [hj], h3.mono (by omega)⟩⟩
    · rintro acc mm ⟨l', ws, rfl, rfl, hj, hl'⟩
      have hz : (rngD 0 (Int.toNat vn)).length = vn := by simp [rngD]
      rw [hz] at hj hl'
      refine ⟨_, updM_same, ?_⟩
      have hr2 : updM m' p l' r = none := by rw [updM_ne pr.symm]; exact hr1
      rw [delM_upd hr2]
      simp only [r_l_taken_right_8, tSq, DL.tIfS, tBinT, tBin, tV, tK, DL.tSet, tRt, tRtN, tAs, gSb, tFn, tAC, tA0, tDr, tApp, tExt, tPopA, tLstD, tTupD, tLstM, tCl, tMt, tPr, tNx, tSlD, tON, tOS, tIfD, DL.tAndT, DL.tOrT, DL.tNotT, tTru, tChainT, tNeg, tListM, List.map_cons, List.map_nil, List.length_cons, List.length_nil, List.replicate, List.cons_append, List.nil_append, List.getElem?_cons_zero, List.getElem?_cons_succ, List.set_cons_zero, List.set_cons_succ, Option.some.injEq, exists_eq_left', exists_eq_left, D.bl.injEq, D.int.injEq, D.str.injEq, D.lst.injEq, D.ref.injEq, if_true, if_false, Bool.true_eq_false, Bool.false_eq_true, startD, bodyEnds, Nat.reduceSub, Nat.reduceAdd, true_and, and_true]
      refine lc_pure (ds := ws.map .str) (inK (up rows c0)) (fun R hR => ?_) (by rw [List.length_map]; exact smallLt (by omega)) (fun d m1 R hd hm hy hno => ?_) ?_
      · simp only [iSeq, dSeq, tSq, DL.tIfS, tBinT, tBin, tV, tK, DL.tSet, tRt, tRtN, tAs, gSb, tFn, tAC, tA0, tDr, tApp, tExt, tPopA, tLstD, tTupD, tLstM, tCl, tMt, tPr, tNx, tSlD, tON, tOS, tIfD, DL.tAndT, DL.tOrT, DL.tNotT, tTru, tChainT, tNeg, tListM, List.map_cons, List.map_nil, List.length_cons, List.length_nil, List.replicate, List.cons_append, List.nil_append, List.getElem?_cons_zero, List.getElem?_cons_succ, List.set_cons_zero, List.set_cons_succ, Option.some.injEq, exists_eq_left', exists_eq_left, D.bl.injEq, D.int.injEq, D.str.injEq, D.lst.injEq, D.ref.injEq, if_true, if_false, Bool.true_eq_false, Bool.false_eq_true, startD, bodyEnds, Nat.reduceSub, Nat.reduceAdd, true_and, and_true]
        exact hR
      · obtain ⟨x, hx, rfl⟩ := List.mem_map.mp hd
        simp only [tgD, gN, wipeD, r_l_taken_right_3, r_l_taken_right_4, tSq, DL.tIfS, tBinT, tBin, tV, tK, DL.tSet, tRt, tRtN, tAs, gSb, tFn, tAC, tA0, tDr, tApp, tExt, tPopA, tLstD, tTupD, tLstM, tCl, tMt, tPr, tNx, tSlD, tON, tOS, tIfD, DL.tAndT, DL.tOrT, DL.tNotT, tTru, tChainT, tNeg, tListM, List.map_cons, List.map_nil, List.length_cons, List.length_nil, List.replicate, List.cons_append, List.nil_append, List.getElem?_cons_zero, List.getElem?_cons_succ, List.set_cons_zero, List.set_cons_succ, Option.some.injEq, exists_eq_left', exists_eq_left, D.bl.injEq, D.int.injEq, D.str.injEq, D.lst.injEq, D.ref.injEq, if_true, if_false, Bool.true_eq_false, Bool.false_eq_true, startD, bodyEnds, Nat.reduceSub, Nat.reduceAdd, true_and, and_true]
        refine lwithin_ok hr hn hnd h22 hk0 ⟨_, rfl, ?_⟩
        by_cases g : x ∈ up rows c0
        · simp only [g, decide_true, if_true]
          exact hy _ (if_pos g)
        · simp only [g, decide_false, Bool.false_eq_true, if_false]
          exact hno (if_neg g)
      · rw [inK_eq]
        have dn : dNe (updM m' p l') (.lst ((ws.filter fun x => decide (x ∈ up rows c0)).map .str)) (.lst []) = some (.bl (ws.any fun x => decide (x ∈ up rows c0))) := by
          unfold dNe
          show (dEqB (.lst _) (.lst [])).map _ = _
          rw [dEqB_nil (datL_strs (fun x hx => (known_okS hr (up_known hr c0 hk0 x (of_decide_eq_true (List.mem_filter.mp hx).2))).1) 59), Option.map_some, any_filter]
        refine ⟨by decide, _, dn, ?_⟩
        exact taken_end hk0 (by omega) rfl (k l' (hl'.mono (by omega)))
end K66
namespace K66
open PySem PySem.Spec PyProof.Rows DL
open SX (S S_len S_cat S_inj S_tl)
theorem isi_lev {m : M} {CB CC CL : Addr} {line : List Str} {rows : List Row} : dIsiO (JO (tb_isi CB CC CL)) m [levD CB CC line rows, .ref CL] = some (.bl true) := by
  have h1 : tyD (look m (levD CB CC line rows)) = some (.inr CB) := rfl
  have h2 : clD (.ref CL) = some (.inr CL) := rfl
  unfold dIsiO
  simp only [h1, h2]
  have : JO (tb_isi CB CC CL) (.inr CB) (.inr CL) = some true := by
    unfold tb_isi
    by_cases g : CB = CC ∧ CL = CC
    · simp [JO, g]
    · have g' : ¬CC = CB ∨ ¬CC = CL := by
        by_cases z : CC = CB
        · exact .inr fun e => g ⟨z.symm, e.symm⟩
        · exact .inl z
      simp [JO]
      exact ⟨_, _, .inr ⟨g', rfl, rfl⟩⟩
  rw [this]; rfl
/-- words drawn out of others -/
theorem comp_ok {m : M} {p : Addr} {l : D} {a : Int} {n : Nat} {xs : List Str} {env : DL.Env} {te : DTE} {i : Nat} {Q : DK} (h : PenD l a) (ha : a + n < 1048576) (hn : n ≤ 30)
    (ht : ∀ (d : D) (m1 : M) (l' : D) (b : Int) (R : DK), m1 p = some l' → PenD l' b → b < 1048576 → (∀ x l2, x ∈ xs → PenD l2 (b + 1) → R (.str x) (updM m1 p l2)) → te (env.set i (some d)) m1 R)
    (k : ∀ (ws : List Str) (l' : D), ws.length = n → (∀ w ∈ ws, w ∈ xs) → PenD l' (a + n) → Q (.lst (ws.map .str)) (updM m p l')) :
    ∀ r, updM m p l r = none → lcD r (.one i) tYe te env (fun m2 => ∃ c, m2 r = some c ∧ Q c (delM m2 r)) (rngD 0 n) (updM (updM m p l) r (.lst [])) := by
  intro r hr0
  have pr : p ≠ r := by rintro rfl; rw [updM_same] at hr0; cases hr0
  have hr1 : m r = none := by rw [updM_ne pr.symm] at hr0; exact hr0
  refine lcD_inv (fun j acc m' => ∃ l' ws, m' = updM (updM m p l') r (.lst acc) ∧ acc = ws.map D.str ∧ ws.length = j ∧ (∀ w ∈ ws, w ∈ xs) ∧ PenD l' (a + j)) ⟨l, [], rfl, rfl, rfl, by simp, h.mono (by omega)⟩ ?_ ?_
  · rintro j acc d m' N hd ⟨l', ws, rfl, rfl, hj, hwk, hl'⟩ hN
    have hj2 : j < n := by
      obtain ⟨z, _⟩ := List.getElem?_eq_some_iff.mp hd
      simpa [rngD] using z
    simp only [tgD, gN, tYe, if_true]
    refine ht d _ l' (a + j) _ (by rw [updM_ne pr, updM_same]) hl' (by omega) fun x l3 hx h3 => ?_
    rw [updM_comm pr.symm, updM_over]
    refine ⟨_, updM_same, by rw [List.length_map]; exact smallLt (by omega), hN _ _ ⟨l3, ws ++ [x], by rw [updM_over], by rw [List.map_append]; rfl, by simp [hj], fun w hw => ?_, h3.mono (by omega)⟩⟩
    rcases List.mem_append.mp hw with z | z
    · exact hwk w z
    · rw [List.mem_singleton] at z; subst z; exact hx
  · rintro acc m' ⟨l', ws, rfl, rfl, hj, hwk, hl'⟩
    have hz : (rngD 0 n).length = n := by simp [rngD]
    rw [hz] at hj hl'
    refine ⟨_, updM_same, ?_⟩
    have hr2 : updM m p l' r = none := by rw [updM_ne pr.symm]; exact hr1
    rw [delM_upd hr2]
    exact k ws l' hj hwk hl'
theorem again_ok {m : M} {p CB CC : Addr} {l : D} {a : Int} {line few : List Str} {rows : List Row} {e0 e2 e8 e9 e10 : Option D} {E : DEnds} (hp : m p = some l) (h : PenD l a) (ha : a + 400 < 1048576) (h1 : line ≠ []) (h12 : line.length ≤ 12) (hf : few ≠ []) (hfl : few.length ≤ 10)
    (hlk : ∀ w ∈ line, w ∈ knownOf rows) (hfk : ∀ w ∈ few, w ∈ knownOf rows) (hr : RowsOk rows) (hn : rows.length ≤ 6) (hnd : (knownOf rows).Nodup) (h22 : ∀ r ∈ rows, r.2.length ≤ 2)
    (k : ∀ l' e9, PenD l' (a + 400) → E.nx [e0, some (.ref p), e2, some (.lst (rows.map rowD)), some (.lst ((knownOf rows).map .str)), some (.lst (few.map .str)), some (tS line), some (levD CB CC line rows), e8, e9, e10] (updM m p l')) :
    r_law_8 CB CC [e0, some (.ref p), e2, some (.lst (rows.map rowD)), some (.lst ((knownOf rows).map .str)), some (.lst (few.map .str)), some (tS line), some (levD CB CC line rows), e8, e9, e10] m E := by
  have klen := knownOf_len rows
  have oks : ∀ w ∈ knownOf rows, okS w := fun w hw => known_okS hr hw
  simp only [r_law_8, tSq, DL.tIfS, tBinT, tBin, tV, tK, DL.tSet, tRt, tRtN, tAs, gSb, tFn, tAC, tA0, tDr, tApp, tExt, tPopA, tLstD, tTupD, tLstM, tCl, tMt, tPr, tNx, tSlD, tON, tOS, tIfD, DL.tAndT, DL.tOrT, DL.tNotT, tTru, tChainT, tNeg, tListM, List.map_cons, List.map_nil, List.length_cons, List.length_nil, List.replicate, List.cons_append, List.nil_append, List.getElem?_cons_zero, List.getElem?_cons_succ, List.set_cons_zero, List.set_cons_succ, Option.some.injEq, exists_eq_left', exists_eq_left, D.bl.injEq, D.int.injEq, D.str.injEq, D.lst.injEq, D.ref.injEq, if_true, if_false, Bool.true_eq_false, Bool.false_eq_true, startD, bodyEnds, Nat.reduceSub, Nat.reduceAdd, true_and, and_true]
  refine ⟨by decide, ?_⟩
  refine pick_lst (ds := [.lst (few.map .str), .lst ((knownOf rows).map .str)]) hp h (by omega) rfl (fun _ => rfl) (by simp) (by simp) fun d l1 hd hl1 => ?_
  have hd2 : ∃ ns : List Str, d = .lst (ns.map .str) ∧ ns ≠ [] ∧ ns.length < 1000 ∧ ∀ w ∈ ns, w ∈ knownOf rows := by
    simp only [List.mem_cons, List.not_mem_nil, or_false] at hd
    rcases hd with rfl | rfl
    · exact ⟨few, rfl, hf, by omega, hfk⟩
    · exact ⟨knownOf rows, rfl, by unfold knownOf; simp, by omega, fun w hw => hw⟩
  obtain ⟨ns, rfl, n1, n2, n3⟩ := hd2
  refine chain_ok updM_same hl1 (by omega) h1 h12 n1 n2 (fun s hs => oks s (hlk s hs)) (fun s hs => oks s (n3 s hs)) fun c l2 hc hcd hl2 => ?_
  rw [updM_over]
  have ck : ∀ w ∈ c, w ∈ knownOf rows := fun w hw => (hcd.kn w hw).elim (hlk w) (n3 w)
  simp only [r_law_7, tSq, DL.tIfS, tBinT, tBin, tV, tK, DL.tSet, tRt, tRtN, tAs, gSb, tFn, tAC, tA0, tDr, tApp, tExt, tPopA, tLstD, tTupD, tLstM, tCl, tMt, tPr, tNx, tSlD, tON, tOS, tIfD, DL.tAndT, DL.tOrT, DL.tNotT, tTru, tChainT, tNeg, tListM, List.map_cons, List.map_nil, List.length_cons, List.length_nil, List.replicate, List.cons_append, List.nil_append, List.getElem?_cons_zero, List.getElem?_cons_succ, List.set_cons_zero, List.set_cons_succ, Option.some.injEq, exists_eq_left', exists_eq_left, D.bl.injEq, D.int.injEq, D.str.injEq, D.lst.injEq, D.ref.injEq, if_true, if_false, Bool.true_eq_false, Bool.false_eq_true, startD, bodyEnds, Nat.reduceSub, Nat.reduceAdd, true_and, and_true]
  refine views_ok updM_same hl2 (by omega) (by omega) (fun s hs => oks s (hlk s hs)) hcd.len (fun s hs => oks s (ck s hs)) fun l3 hl3 => ?_
  rw [updM_over]
  refine ⟨true, rfl, ?_⟩
  simp only [Bool.not_true, Bool.false_eq_true, if_false]
  simp only [r_law_6, tSq, DL.tIfS, tBinT, tBin, tV, tK, DL.tSet, tRt, tRtN, tAs, gSb, tFn, tAC, tA0, tDr, tApp, tExt, tPopA, tLstD, tTupD, tLstM, tCl, tMt, tPr, tNx, tSlD, tON, tOS, tIfD, DL.tAndT, DL.tOrT, DL.tNotT, tTru, tChainT, tNeg, tListM, List.map_cons, List.map_nil, List.length_cons, List.length_nil, List.replicate, List.cons_append, List.nil_append, List.getElem?_cons_zero, List.getElem?_cons_succ, List.set_cons_zero, List.set_cons_succ, Option.some.injEq, exists_eq_left', exists_eq_left, D.bl.injEq, D.int.injEq, D.str.injEq, D.lst.injEq, D.ref.injEq, if_true, if_false, Bool.true_eq_false, Bool.false_eq_true, startD, bodyEnds, Nat.reduceSub, Nat.reduceAdd, true_and, and_true]
  refine taken_right_ok updM_same hl3 (by omega) hr hn hnd h22 hc hcd.len ck fun l4 hl4 => ?_
  rw [updM_over]
  refine ⟨true, rfl, ?_⟩
  simp only [Bool.not_true, Bool.false_eq_true, if_false]
  exact k l4 _ (hl4.mono (by omega))
theorem turn_ok {m : M} {p CB CC CL : Addr} {l : D} {a : Int} {sc : D} {e3 e4 e5 e6 e7 e8 e9 e10 : Option D} {i : D} {E : DEnds} (hp : m p = some l) (h : PenD l a) (ha : a + 10000 < 1048576)
    (k : ∀ env' m' l', (∃ f2 f3 f4 f5 f6 f7 f8 f9 f10, env' = [some sc, some (.ref p), f2, f3, f4, f5, f6, f7, f8, f9, f10]) → m' p = some l' → PenD l' (a + 10000) → E.nx env' m') :
    r_law_14 CB CC CL [some sc, some (.ref p), some i, e3, e4, e5, e6, e7, e8, e9, e10] m E := by
  simp only [r_law_14, tSq, DL.tIfS, tBinT, tBin, tV, tK, DL.tSet, tRt, tRtN, tAs, gSb, tFn, tAC, tA0, tDr, tApp, tExt, tPopA, tLstD, tTupD, tLstM, tCl, tMt, tPr, tNx, tSlD, tON, tOS, tIfD, DL.tAndT, DL.tOrT, DL.tNotT, tTru, tChainT, tNeg, tListM, List.map_cons, List.map_nil, List.length_cons, List.length_nil, List.replicate, List.cons_append, List.nil_append, List.getElem?_cons_zero, List.getElem?_cons_succ, List.set_cons_zero, List.set_cons_succ, Option.some.injEq, exists_eq_left', exists_eq_left, D.bl.injEq, D.int.injEq, D.str.injEq, D.lst.injEq, D.ref.injEq, if_true, if_false, Bool.true_eq_false, Bool.false_eq_true, startD, bodyEnds, Nat.reduceSub, Nat.reduceAdd, true_and, and_true]
  refine classes_ok hp h (by omega) fun rows l1 hn hr hnd h22 hl1 => ?_
  have klen := knownOf_len rows
  have kne : knownOf rows ≠ [] := by unfold knownOf; simp
  simp only [tgD, gN, tSq, DL.tIfS, tBinT, tBin, tV, tK, DL.tSet, tRt, tRtN, tAs, gSb, tFn, tAC, tA0, tDr, tApp, tExt, tPopA, tLstD, tTupD, tLstM, tCl, tMt, tPr, tNx, tSlD, tON, tOS, tIfD, DL.tAndT, DL.tOrT, DL.tNotT, tTru, tChainT, tNeg, tListM, List.map_cons, List.map_nil, List.length_cons, List.length_nil, List.replicate, List.cons_append, List.nil_append, List.getElem?_cons_zero, List.getElem?_cons_succ, List.set_cons_zero, List.set_cons_succ, Option.some.injEq, exists_eq_left', exists_eq_left, D.bl.injEq, D.int.injEq, D.str.injEq, D.lst.injEq, D.ref.injEq, if_true, if_false, Bool.true_eq_false, Bool.false_eq_true, startD, bodyEnds, Nat.reduceSub, Nat.reduceAdd, true_and, and_true]
  refine ⟨_, rfl, rfl, ?_⟩
  simp only [setL, tSq, DL.tIfS, tBinT, tBin, tV, tK, DL.tSet, tRt, tRtN, tAs, gSb, tFn, tAC, tA0, tDr, tApp, tExt, tPopA, tLstD, tTupD, tLstM, tCl, tMt, tPr, tNx, tSlD, tON, tOS, tIfD, DL.tAndT, DL.tOrT, DL.tNotT, tTru, tChainT, tNeg, tListM, List.map_cons, List.map_nil, List.length_cons, List.length_nil, List.replicate, List.cons_append, List.nil_append, List.getElem?_cons_zero, List.getElem?_cons_succ, List.set_cons_zero, List.set_cons_succ, Option.some.injEq, exists_eq_left', exists_eq_left, D.bl.injEq, D.int.injEq, D.str.injEq, D.lst.injEq, D.ref.injEq, if_true, if_false, Bool.true_eq_false, Bool.false_eq_true, startD, bodyEnds, Nat.reduceSub, Nat.reduceAdd, true_and, and_true]
  simp only [r_law_13, tFrz, tLcM, iRg, tSq, DL.tIfS, tBinT, tBin, tV, tK, DL.tSet, tRt, tRtN, tAs, gSb, tFn, tAC, tA0, tDr, tApp, tExt, tPopA, tLstD, tTupD, tLstM, tCl, tMt, tPr, tNx, tSlD, tON, tOS, tIfD, DL.tAndT, DL.tOrT, DL.tNotT, tTru, tChainT, tNeg, tListM, List.map_cons, List.map_nil, List.length_cons, List.length_nil, List.replicate, List.cons_append, List.nil_append, List.getElem?_cons_zero, List.getElem?_cons_succ, List.set_cons_zero, List.set_cons_succ, Option.some.injEq, exists_eq_left', exists_eq_left, D.bl.injEq, D.int.injEq, D.str.injEq, D.lst.injEq, D.ref.injEq, if_true, if_false, Bool.true_eq_false, Bool.false_eq_true, startD, bodyEnds, Nat.reduceSub, Nat.reduceAdd, true_and, and_true]
  refine draw_ok updM_same hl1 (by omega) (by decide) (by decide) fun v l2 v1 v2 hl2 => ⟨.int (1 + v), rfl, ?_⟩
  rw [updM_over]
  obtain ⟨n, hn1⟩ := Int.eq_ofNat_of_zero_le (show 0 ≤ 1 + v by omega)
  rw [hn1]
  refine ⟨n, rfl, by omega, by omega, ?_⟩
  rw [Int.toNat_natCast]
  refine comp_ok (n := n) (xs := knownOf rows) (Q := fun d m => r_law_12 CB CC CL [some sc, some (.ref p), some i, some (.lst (rows.map rowD)), some (.lst ((knownOf rows).map .str)), some d, e6, e7, e8, e9, e10] m E) hl2 (by omega) (by omega) (fun d m1 l' b R q1 q2 q3 q4 => ?_) fun few l3 f1 f2 hl3 => ?_
  · simp only [wipeD, r_law_1, tSq, DL.tIfS, tBinT, tBin, tV, tK, DL.tSet, tRt, tRtN, tAs, gSb, tFn, tAC, tA0, tDr, tApp, tExt, tPopA, tLstD, tTupD, tLstM, tCl, tMt, tPr, tNx, tSlD, tON, tOS, tIfD, DL.tAndT, DL.tOrT, DL.tNotT, tTru, tChainT, tNeg, tListM, List.map_cons, List.map_nil, List.length_cons, List.length_nil, List.replicate, List.cons_append, List.nil_append, List.getElem?_cons_zero, List.getElem?_cons_succ, List.set_cons_zero, List.set_cons_succ, Option.some.injEq, exists_eq_left', exists_eq_left, D.bl.injEq, D.int.injEq, D.str.injEq, D.lst.injEq, D.ref.injEq, if_true, if_false, Bool.true_eq_false, Bool.false_eq_true, startD, bodyEnds, Nat.reduceSub, Nat.reduceAdd, true_and, and_true]
    exact pick_strs q1 q2 q3 kne (by omega) q4
  have fne : few ≠ [] := fun e => by subst e; simp at f1; omega
  simp only [r_law_12, tFrz, tLcM, iRg, tSq, DL.tIfS, tBinT, tBin, tV, tK, DL.tSet, tRt, tRtN, tAs, gSb, tFn, tAC, tA0, tDr, tApp, tExt, tPopA, tLstD, tTupD, tLstM, tCl, tMt, tPr, tNx, tSlD, tON, tOS, tIfD, DL.tAndT, DL.tOrT, DL.tNotT, tTru, tChainT, tNeg, tListM, List.map_cons, List.map_nil, List.length_cons, List.length_nil, List.replicate, List.cons_append, List.nil_append, List.getElem?_cons_zero, List.getElem?_cons_succ, List.set_cons_zero, List.set_cons_succ, Option.some.injEq, exists_eq_left', exists_eq_left, D.bl.injEq, D.int.injEq, D.str.injEq, D.lst.injEq, D.ref.injEq, if_true, if_false, Bool.true_eq_false, Bool.false_eq_true, startD, bodyEnds, Nat.reduceSub, Nat.reduceAdd, true_and, and_true]
  refine draw_ok updM_same hl3 (by omega) (by decide) (by decide) fun v l4 v1 v2 hl4 => ⟨.int (1 + v), rfl, ?_⟩
  rw [updM_over]
  obtain ⟨n2, hn2⟩ := Int.eq_ofNat_of_zero_le (show 0 ≤ 1 + v by omega)
  rw [hn2]
  refine ⟨n2, rfl, by omega, by omega, ?_⟩
  rw [Int.toNat_natCast]
  refine comp_ok (n := n2) (xs := few) (Q := fun d m => ∃ d', d1 dTuple m [d] = some d' ∧ r_law_11 CB CC CL [some sc, some (.ref p), some i, some (.lst (rows.map rowD)), some (.lst ((knownOf rows).map .str)), some (.lst (few.map .str)), some d', e7, e8, e9, e10] m E) hl4 (by omega) (by omega) (fun d m1 l' b R q1 q2 q3 q4 => ?_) fun line l5 g1 g2 hl5 => ?_
  · simp only [wipeD, r_law_2, tSq, DL.tIfS, tBinT, tBin, tV, tK, DL.tSet, tRt, tRtN, tAs, gSb, tFn, tAC, tA0, tDr, tApp, tExt, tPopA, tLstD, tTupD, tLstM, tCl, tMt, tPr, tNx, tSlD, tON, tOS, tIfD, DL.tAndT, DL.tOrT, DL.tNotT, tTru, tChainT, tNeg, tListM, List.map_cons, List.map_nil, List.length_cons, List.length_nil, List.replicate, List.cons_append, List.nil_append, List.getElem?_cons_zero, List.getElem?_cons_succ, List.set_cons_zero, List.set_cons_succ, Option.some.injEq, exists_eq_left', exists_eq_left, D.bl.injEq, D.int.injEq, D.str.injEq, D.lst.injEq, D.ref.injEq, if_true, if_false, Bool.true_eq_false, Bool.false_eq_true, startD, bodyEnds, Nat.reduceSub, Nat.reduceAdd, true_and, and_true]
    exact pick_strs q1 q2 q3 fne (by omega) q4
  have lne : line ≠ [] := fun e => by subst e; simp at g1; omega
  refine ⟨tS line, by simp only [d1, look, dTuple, tS], ?_⟩
  simp only [r_law_11, tSq, DL.tIfS, tBinT, tBin, tV, tK, DL.tSet, tRt, tRtN, tAs, gSb, tFn, tAC, tA0, tDr, tApp, tExt, tPopA, tLstD, tTupD, tLstM, tCl, tMt, tPr, tNx, tSlD, tON, tOS, tIfD, DL.tAndT, DL.tOrT, DL.tNotT, tTru, tChainT, tNeg, tListM, List.map_cons, List.map_nil, List.length_cons, List.length_nil, List.replicate, List.cons_append, List.nil_append, List.getElem?_cons_zero, List.getElem?_cons_succ, List.set_cons_zero, List.set_cons_succ, Option.some.injEq, exists_eq_left', exists_eq_left, D.bl.injEq, D.int.injEq, D.str.injEq, D.lst.injEq, D.ref.injEq, if_true, if_false, Bool.true_eq_false, Bool.false_eq_true, startD, bodyEnds, Nat.reduceSub, Nat.reduceAdd, true_and, and_true, tNwK, tCm, tFrz]
  refine made_ok (by omega) hr ?_
  first | refine ⟨rfl, ?_⟩ | skip
  intro x hx
  have px : p ≠ x := by rintro rfl; rw [updM_same] at hx; cases hx
  have hx0 : m x = none := by rw [updM_ne px.symm] at hx; exact hx
  show sp_ByTrail_init CB [.ref x, clsD CC rows, tS line] _ _
  refine linit_ok updM_same ?_
  refine ⟨rfl, ?_⟩
  rw [updM_over]
  refine ⟨_, updM_same, ?_⟩
  rw [delM_upd hx]
  simp only [r_law_10, tSq, DL.tIfS, tBinT, tBin, tV, tK, DL.tSet, tRt, tRtN, tAs, gSb, tFn, tAC, tA0, tDr, tApp, tExt, tPopA, tLstD, tTupD, tLstM, tCl, tMt, tPr, tNx, tSlD, tON, tOS, tIfD, DL.tAndT, DL.tOrT, DL.tNotT, tTru, tChainT, tNeg, tListM, List.map_cons, List.map_nil, List.length_cons, List.length_nil, List.replicate, List.cons_append, List.nil_append, List.getElem?_cons_zero, List.getElem?_cons_succ, List.set_cons_zero, List.set_cons_succ, Option.some.injEq, exists_eq_left', exists_eq_left, D.bl.injEq, D.int.injEq, D.str.injEq, D.lst.injEq, D.ref.injEq, if_true, if_false, Bool.true_eq_false, Bool.false_eq_true, startD, bodyEnds, Nat.reduceSub, Nat.reduceAdd, true_and, and_true, tOwnT, tCm, tFl, tKi]
  refine ⟨_, isi_lev, true, rfl, ?_⟩
  simp only [Bool.not_true, Bool.false_eq_true, if_false]
  refine ⟨_, _, _, rfl, get_cls CC line rows, made_ok (by omega) hr ⟨ins_of _ CC rows, right_cls _ CC rows, eq_cls (by omega) (by omega) hr hr ⟨_, rfl, ?_⟩⟩⟩
  simp only [decide_true, Bool.not_true, Bool.false_eq_true, if_false]
  refine ⟨_, _, rfl, no_kind, false, by simp only [dNe, look, dEqB, decide_true, Option.map_some]; rfl, ?_⟩
  simp only [Bool.false_eq_true, if_false]
  simp only [r_law_9, tSq, DL.tIfS, tBinT, tBin, tV, tK, DL.tSet, tRt, tRtN, tAs, gSb, tFn, tAC, tA0, tDr, tApp, tExt, tPopA, tLstD, tTupD, tLstM, tCl, tMt, tPr, tNx, tSlD, tON, tOS, tIfD, DL.tAndT, DL.tOrT, DL.tNotT, tTru, tChainT, tNeg, tListM, List.map_cons, List.map_nil, List.length_cons, List.length_nil, List.replicate, List.cons_append, List.nil_append, List.getElem?_cons_zero, List.getElem?_cons_succ, List.set_cons_zero, List.set_cons_succ, Option.some.injEq, exists_eq_left', exists_eq_left, D.bl.injEq, D.int.injEq, D.str.injEq, D.lst.injEq, D.ref.injEq, if_true, if_false, Bool.true_eq_false, Bool.false_eq_true, startD, bodyEnds, Nat.reduceSub, Nat.reduceAdd, true_and, and_true, tFo, iRg]
  refine ⟨8, rfl, by decide, by decide, ?_⟩
  refine forD_inv (fun t env m' => ∃ l' f8 f9 f10, env = [some sc, some (.ref p), some i, some (.lst (rows.map rowD)), some (.lst ((knownOf rows).map .str)), some (.lst (few.map .str)), some (tS line), some (levD CB CC line rows), f8, f9, f10] ∧ m' = updM m p l' ∧ PenD l' (a + 130 + 400 * t)) ⟨l5, _, _, _, rfl, rfl, hl5.mono (by omega)⟩ ?_ ?_
  · rintro t d env m' N hd ⟨l', f8, f9, f10, rfl, rfl, hl'⟩ hN
    have ht : t < 8 := by
      obtain ⟨z, _⟩ := List.getElem?_eq_some_iff.mp hd
      simpa [rngD] using z
    simp only [tgD, gN, tSq, DL.tIfS, tBinT, tBin, tV, tK, DL.tSet, tRt, tRtN, tAs, gSb, tFn, tAC, tA0, tDr, tApp, tExt, tPopA, tLstD, tTupD, tLstM, tCl, tMt, tPr, tNx, tSlD, tON, tOS, tIfD, DL.tAndT, DL.tOrT, DL.tNotT, tTru, tChainT, tNeg, tListM, List.map_cons, List.map_nil, List.length_cons, List.length_nil, List.replicate, List.cons_append, List.nil_append, List.getElem?_cons_zero, List.getElem?_cons_succ, List.set_cons_zero, List.set_cons_succ, Option.some.injEq, exists_eq_left', exists_eq_left, D.bl.injEq, D.int.injEq, D.str.injEq, D.lst.injEq, D.ref.injEq, if_true, if_false, Bool.true_eq_false, Bool.false_eq_true, startD, bodyEnds, Nat.reduceSub, Nat.reduceAdd, true_and, and_true]
    refine again_ok updM_same hl' (by omega) lne (by omega) fne (by omega) (fun w hw => f2 w (g2 w hw)) f2 hr hn hnd h22 fun l6 e9 h6 => ?_
    rw [updM_over]
    exact hN _ _ ⟨l6, _, _, _, rfl, rfl, h6.mono (by omega)⟩
  · rintro env m' ⟨l', f8, f9, f10, rfl, rfl, hl'⟩
    have hz : (rngD 0 (Int.toNat 8)).length = 8 := by simp [rngD]
    rw [hz] at hl'
    exact k _ _ l' ⟨_, _, _, _, _, _, _, _, _, rfl⟩ updM_same (hl'.mono (by omega))
theorem law_ok {m : M} {CB CC CL : Addr} {ns : List Int} : sp_law CB CC CL [.scr ns] m fun d _ => d = .bl true := by
  refine ⟨rfl, ?_⟩
  show r_law_17 CB CC CL _ _ _
  simp only [r_law_17, tSq, DL.tIfS, tBinT, tBin, tV, tK, DL.tSet, tRt, tRtN, tAs, gSb, tFn, tAC, tA0, tDr, tApp, tExt, tPopA, tLstD, tTupD, tLstM, tCl, tMt, tPr, tNx, tSlD, tON, tOS, tIfD, DL.tAndT, DL.tOrT, DL.tNotT, tTru, tChainT, tNeg, tListM, List.map_cons, List.map_nil, List.length_cons, List.length_nil, List.replicate, List.cons_append, List.nil_append, List.getElem?_cons_zero, List.getElem?_cons_succ, List.set_cons_zero, List.set_cons_succ, Option.some.injEq, exists_eq_left', exists_eq_left, D.bl.injEq, D.int.injEq, D.str.injEq, D.lst.injEq, D.ref.injEq, if_true, if_false, Bool.true_eq_false, Bool.false_eq_true, startD, bodyEnds, Nat.reduceSub, Nat.reduceAdd, true_and, and_true]
  refine pen_ok fun p l hp0 hl0 => ?_
  simp only [r_law_16, tSq, DL.tIfS, tBinT, tBin, tV, tK, DL.tSet, tRt, tRtN, tAs, gSb, tFn, tAC, tA0, tDr, tApp, tExt, tPopA, tLstD, tTupD, tLstM, tCl, tMt, tPr, tNx, tSlD, tON, tOS, tIfD, DL.tAndT, DL.tOrT, DL.tNotT, tTru, tChainT, tNeg, tListM, List.map_cons, List.map_nil, List.length_cons, List.length_nil, List.replicate, List.cons_append, List.nil_append, List.getElem?_cons_zero, List.getElem?_cons_succ, List.set_cons_zero, List.set_cons_succ, Option.some.injEq, exists_eq_left', exists_eq_left, D.bl.injEq, D.int.injEq, D.str.injEq, D.lst.injEq, D.ref.injEq, if_true, if_false, Bool.true_eq_false, Bool.false_eq_true, startD, bodyEnds, Nat.reduceSub, Nat.reduceAdd, true_and, and_true, tFo, iRg]
  refine ⟨6, rfl, by decide, by decide, ?_⟩
  refine forD_inv (fun i env m' => ∃ l', (∃ f2 f3 f4 f5 f6 f7 f8 f9 f10, env = [some (.scr ns), some (.ref p), f2, f3, f4, f5, f6, f7, f8, f9, f10]) ∧ m' p = some l' ∧ PenD l' (10000 * i)) ⟨l, ⟨_, _, _, _, _, _, _, _, _, rfl⟩, updM_same, hl0.mono (by omega)⟩ ?_ ?_
  · rintro i d env m' N hd ⟨l', ⟨f2, f3, f4, f5, f6, f7, f8, f9, f10, rfl⟩, hp', hl'⟩ hN
    have hi2 : i < 6 := by
      obtain ⟨z, _⟩ := List.getElem?_eq_some_iff.mp hd
      simpa [rngD] using z
    simp only [tgD, gN, tSq, DL.tIfS, tBinT, tBin, tV, tK, DL.tSet, tRt, tRtN, tAs, gSb, tFn, tAC, tA0, tDr, tApp, tExt, tPopA, tLstD, tTupD, tLstM, tCl, tMt, tPr, tNx, tSlD, tON, tOS, tIfD, DL.tAndT, DL.tOrT, DL.tNotT, tTru, tChainT, tNeg, tListM, List.map_cons, List.map_nil, List.length_cons, List.length_nil, List.replicate, List.cons_append, List.nil_append, List.getElem?_cons_zero, List.getElem?_cons_succ, List.set_cons_zero, List.set_cons_succ, Option.some.injEq, exists_eq_left', exists_eq_left, D.bl.injEq, D.int.injEq, D.str.injEq, D.lst.injEq, D.ref.injEq, if_true, if_false, Bool.true_eq_false, Bool.false_eq_true, startD, bodyEnds, Nat.reduceSub, Nat.reduceAdd, true_and, and_true]
    refine turn_ok hp' hl' (by omega) fun env' m2 l2 he hp2 h2 => ?_
    exact hN _ _ ⟨l2, he, hp2, h2.mono (by omega)⟩
  · rintro env m' ⟨l', ⟨f2, f3, f4, f5, f6, f7, f8, f9, f10, rfl⟩, hp', hl'⟩
    simp only [r_law_15, tSq, DL.tIfS, tBinT, tBin, tV, tK, DL.tSet, tRt, tRtN, tAs, gSb, tFn, tAC, tA0, tDr, tApp, tExt, tPopA, tLstD, tTupD, tLstM, tCl, tMt, tPr, tNx, tSlD, tON, tOS, tIfD, DL.tAndT, DL.tOrT, DL.tNotT, tTru, tChainT, tNeg, tListM, List.map_cons, List.map_nil, List.length_cons, List.length_nil, List.replicate, List.cons_append, List.nil_append, List.getElem?_cons_zero, List.getElem?_cons_succ, List.set_cons_zero, List.set_cons_succ, Option.some.injEq, exists_eq_left', exists_eq_left, D.bl.injEq, D.int.injEq, D.str.injEq, D.lst.injEq, D.ref.injEq, if_true, if_false, Bool.true_eq_false, Bool.false_eq_true, startD, bodyEnds, Nat.reduceSub, Nat.reduceAdd, true_and, and_true, tKc, tAndV]
    refine ⟨.bl true, by simp only [dEq, look, dEqB, decide_true, Option.map_some], true, rfl, ?_⟩
    simp only [if_true]
    exact ⟨.bl true, by simp only [dEq, look, dEqB, decide_true, Option.map_some], dropR.self rfl⟩
end K66
namespace K66
open PySem PySem.Spec PyProof.Rows L2 DL
/-! ### the facts of the top that the walk asks for -/
set_option maxHeartbeats 4000000 in
theorem all_mk {l : PySem.W.OpenLaw} {w : World} {K : PySem.W.Frag} {h : Heap} {mg : Str → Option Value} {fa C_ByTrail C_Classes C_Level : Addr} (X : K.In h) (G : h.Ns mainGlobals mg) (hfa : mg "law" = some (.ref fa))
    {t_LONGEST : Tok}
    {r_RESERVED : Addr} {dd_RESERVED : Option Addr} {it_RESERVED : Array Value} {n_RESERVED : Nat} {sl_RESERVED : Array (Option Value)}
    {t_LETTERS : Tok}
    {t_MOST_ROWS : Tok}
    {r_FIRST : Addr} {dd_FIRST : Option Addr} {it_FIRST : Array Value} {n_FIRST : Nat} {sl_FIRST : Array (Option Value)}
    {tk_ki_ByTrail_KIND : Tok}
    {tk_kc_ByTrail_KIND : Tok}
    {tk_kc_Level_KIND : Tok}
    {f_l_pen : Addr} {od_l_pen an_l_pen : Option Addr} {sl_l_pen : Array (Option Value)} {oc_l_pen kV_l_pen dc_l_pen pm_l_pen cd_l_pen ct_l_pen : Value}
    {f_l_draw : Addr} {od_l_draw an_l_draw : Option Addr} {sl_l_draw : Array (Option Value)} {oc_l_draw kV_l_draw dc_l_draw pm_l_draw cd_l_draw ct_l_draw : Value}
    {f_l_pick : Addr} {od_l_pick an_l_pick : Option Addr} {sl_l_pick : Array (Option Value)} {oc_l_pick kV_l_pick dc_l_pick pm_l_pick cd_l_pick ct_l_pick : Value}
    {f_l_barred : Addr} {od_l_barred an_l_barred : Option Addr} {sl_l_barred : Array (Option Value)} {oc_l_barred kV_l_barred dc_l_barred pm_l_barred cd_l_barred ct_l_barred : Value}
    {f_l_words : Addr} {od_l_words an_l_words : Option Addr} {sl_l_words : Array (Option Value)} {oc_l_words kV_l_words dc_l_words pm_l_words cd_l_words ct_l_words : Value}
    {f_l_some : Addr} {od_l_some an_l_some : Option Addr} {sl_l_some : Array (Option Value)} {oc_l_some kV_l_some dc_l_some pm_l_some cd_l_some ct_l_some : Value}
    {f_l_classes : Addr} {od_l_classes an_l_classes : Option Addr} {sl_l_classes : Array (Option Value)} {oc_l_classes kV_l_classes dc_l_classes pm_l_classes cd_l_classes ct_l_classes : Value}
    {f_Level_init : Addr} {od_Level_init an_Level_init : Option Addr} {sl_Level_init : Array (Option Value)} {oc_Level_init kV_Level_init dc_Level_init pm_Level_init cd_Level_init ct_Level_init : Value}
    {f_ByTrail_init : Addr} {od_ByTrail_init an_ByTrail_init : Option Addr} {sl_ByTrail_init : Array (Option Value)} {oc_ByTrail_init kV_ByTrail_init dc_ByTrail_init pm_ByTrail_init ct_ByTrail_init : Value}
    {cc_ByTrail_init cda_ByTrail_init : Addr} {vcl_ByTrail_init ccl_ByTrail_init : Value} {vcd_ByTrail_init ccd_ByTrail_init : Option Addr} {vvs_ByTrail_init : Array Value} {vsl_ByTrail_init csl_ByTrail_init : Array (Option Value)} {file_ByTrail_init : Str} {tf_ByTrail_init : Tok}
    {f_is_word : Addr} {od_is_word an_is_word : Option Addr} {sl_is_word : Array (Option Value)} {oc_is_word kV_is_word dc_is_word pm_is_word cd_is_word ct_is_word : Value}
    {f_are_words : Addr} {od_are_words an_are_words : Option Addr} {sl_are_words : Array (Option Value)} {oc_are_words kV_are_words dc_are_words pm_are_words cd_are_words ct_are_words : Value}
    {f_row_fault : Addr} {od_row_fault an_row_fault : Option Addr} {sl_row_fault : Array (Option Value)} {oc_row_fault kV_row_fault dc_row_fault pm_row_fault cd_row_fault ct_row_fault : Value}
    {f_Classes_init : Addr} {od_Classes_init an_Classes_init : Option Addr} {sl_Classes_init : Array (Option Value)} {oc_Classes_init kV_Classes_init dc_Classes_init pm_Classes_init cd_Classes_init ct_Classes_init : Value}
    {f_Classes_made : Addr} {od_Classes_made an_Classes_made : Option Addr} {sl_Classes_made : Array (Option Value)} {oc_Classes_made kV_Classes_made dc_Classes_made pm_Classes_made cd_Classes_made ct_Classes_made : Value}
    {p_Classes_made : Addr} {rest_Classes_made : List Value}
    {f_Classes_eq : Addr} {od_Classes_eq an_Classes_eq : Option Addr} {sl_Classes_eq : Array (Option Value)} {oc_Classes_eq kV_Classes_eq dc_Classes_eq pm_Classes_eq cd_Classes_eq ct_Classes_eq : Value}
    {f_l_chain : Addr} {od_l_chain an_l_chain : Option Addr} {sl_l_chain : Array (Option Value)} {oc_l_chain kV_l_chain dc_l_chain pm_l_chain cd_l_chain ct_l_chain : Value}
    {f_ByTrail_view : Addr} {od_ByTrail_view an_ByTrail_view : Option Addr} {sl_ByTrail_view : Array (Option Value)} {oc_ByTrail_view kV_ByTrail_view dc_ByTrail_view pm_ByTrail_view cd_ByTrail_view ct_ByTrail_view : Value}
    {T_ByTrail_view : Addr} {tcl_ByTrail_view : Value} {tcd_ByTrail_view : Option Addr} {tit_ByTrail_view : Array Value} {tn_ByTrail_view : Nat} {tsl_ByTrail_view : Array (Option Value)}
    {f_l_due : Addr} {od_l_due an_l_due : Option Addr} {sl_l_due : Array (Option Value)} {oc_l_due kV_l_due dc_l_due pm_l_due cd_l_due ct_l_due : Value}
    {f_ByTrail_name_of : Addr} {od_ByTrail_name_of an_ByTrail_name_of : Option Addr} {sl_ByTrail_name_of : Array (Option Value)} {oc_ByTrail_name_of kV_ByTrail_name_of dc_ByTrail_name_of pm_ByTrail_name_of cd_ByTrail_name_of ct_ByTrail_name_of : Value}
    {f_l_views_right : Addr} {od_l_views_right an_l_views_right : Option Addr} {sl_l_views_right : Array (Option Value)} {oc_l_views_right kV_l_views_right dc_l_views_right pm_l_views_right cd_l_views_right ct_l_views_right : Value}
    {f_l_within : Addr} {od_l_within an_l_within : Option Addr} {sl_l_within : Array (Option Value)} {oc_l_within kV_l_within dc_l_within pm_l_within cd_l_within ct_l_within : Value}
    {f_Classes_within : Addr} {od_Classes_within an_Classes_within : Option Addr} {sl_Classes_within : Array (Option Value)} {oc_Classes_within kV_Classes_within dc_Classes_within pm_Classes_within cd_Classes_within ct_Classes_within : Value}
    {f_ByTrail_taken : Addr} {od_ByTrail_taken an_ByTrail_taken : Option Addr} {sl_ByTrail_taken : Array (Option Value)} {oc_ByTrail_taken kV_ByTrail_taken dc_ByTrail_taken pm_ByTrail_taken cd_ByTrail_taken ct_ByTrail_taken : Value}
    {f_ByTrail_does : Addr} {od_ByTrail_does an_ByTrail_does : Option Addr} {sl_ByTrail_does : Array (Option Value)} {oc_ByTrail_does kV_ByTrail_does dc_ByTrail_does pm_ByTrail_does cd_ByTrail_does ct_ByTrail_does : Value}
    {f_l_taken_right : Addr} {od_l_taken_right an_l_taken_right : Option Addr} {sl_l_taken_right : Array (Option Value)} {oc_l_taken_right kV_l_taken_right dc_l_taken_right pm_l_taken_right cd_l_taken_right ct_l_taken_right : Value}
    {f_law : Addr} {od_law an_law : Option Addr} {sl_law : Array (Option Value)} {oc_law kV_law dc_law pm_law cd_law ct_law : Value}
    (zz_list : PySem.W.nsIn K mainGlobals "list" = some none)
    (zz_int : PySem.W.nsIn K mainGlobals "int" = some none)
    (zz_len : PySem.W.nsIn K mainGlobals "len" = some none)
    (zz_abs : PySem.W.nsIn K mainGlobals "abs" = some none)
    (zz_range : PySem.W.nsIn K mainGlobals "range" = some none)
    (zz_super : PySem.W.nsIn K mainGlobals "super" = some none)
    (zz_str : PySem.W.nsIn K mainGlobals "str" = some none)
    (zz_isinstance : PySem.W.nsIn K mainGlobals "isinstance" = some none)
    (zz_all : PySem.W.nsIn K mainGlobals "all" = some none)
    (zz_tuple : PySem.W.nsIn K mainGlobals "tuple" = some none)
    (zz_set : PySem.W.nsIn K mainGlobals "set" = some none)
    (zz_enumerate : PySem.W.nsIn K mainGlobals "enumerate" = some none)
    (zz_repr : PySem.W.nsIn K mainGlobals "repr" = some none)
    (zz_any : PySem.W.nsIn K mainGlobals "any" = some none)
    (aC_ByTrail : PySem.W.nsIn K mainGlobals "ByTrail" = some (some (.ref C_ByTrail)))
    (pg_ByTrail : PySem.W.plainGet K C_ByTrail Str.empty = true)
    (hd_ByTrail : PySem.W.hasDictIn K C_ByTrail = true)
    (po_ByTrail : PySem.W.plainOver K C_ByTrail = true)
    (sa_ByTrail : PySem.W.findIn K (.ref C_ByTrail) "__setattr__" = some (some (.builtin "object.__setattr__")))
    (aC_Classes : PySem.W.nsIn K mainGlobals "Classes" = some (some (.ref C_Classes)))
    (pg_Classes : PySem.W.plainGet K C_Classes Str.empty = true)
    (hd_Classes : PySem.W.hasDictIn K C_Classes = true)
    (po_Classes : PySem.W.plainOver K C_Classes = true)
    (sa_Classes : PySem.W.findIn K (.ref C_Classes) "__setattr__" = some (some (.builtin "object.__setattr__")))
    (aC_Level : PySem.W.nsIn K mainGlobals "Level" = some (some (.ref C_Level)))
    (pg_Level : PySem.W.plainGet K C_Level Str.empty = true)
    (hd_Level : PySem.W.hasDictIn K C_Level = true)
    (po_Level : PySem.W.plainOver K C_Level = true)
    (sa_Level : PySem.W.findIn K (.ref C_Level) "__setattr__" = some (some (.builtin "object.__setattr__")))
    (ha_ByTrail : PySem.W.findIn K (.ref C_ByTrail) "__class__" = some (some (.builtin "object.__class__")))
    (hm_ByTrail : PySem.W.mroIn K C_ByTrail (.type "object") = some true)
    (ha_Classes : PySem.W.findIn K (.ref C_Classes) "__class__" = some (some (.builtin "object.__class__")))
    (hm_Classes : PySem.W.mroIn K C_Classes (.type "object") = some true)
    (hn_ob : PySem.W.specialIn K (.builtin "object.__class__") "__get__" = some (some (.builtin "getset_descriptor.__get__")))
    (ht_ob : PySem.W.takesIn K (.builtin "object.__class__") = some true)
    (ji1 : PySem.W.subIn K (.ref C_ByTrail) (.ref C_Level) = some true)
    (ki_Level : PySem.W.isClsIn K C_Level = true)
    (kt_Level : PySem.W.typeIn K (.ref C_Level) = some (.type "type"))
    (jn1 : (Value.ref C_ByTrail == Value.ref C_Level) = false)
    (nf_Classes_NoneType : PySem.W.subIn K (.type "NoneType") (.ref C_Classes) = some false)
    (nf_Classes_bool : PySem.W.subIn K (.type "bool") (.ref C_Classes) = some false)
    (nf_Classes_int : PySem.W.subIn K (.type "int") (.ref C_Classes) = some false)
    (nf_Classes_str : PySem.W.subIn K (.type "str") (.ref C_Classes) = some false)
    (nf_Classes_tuple : PySem.W.subIn K (.type "tuple") (.ref C_Classes) = some false)
    (nf_Classes_list : PySem.W.subIn K (.type "list") (.ref C_Classes) = some false)
    (nf_Classes_dict : PySem.W.subIn K (.type "dict") (.ref C_Classes) = some false)
    (mo_Classes : PySem.W.mroIn K C_Classes (.type "object") = some true)
    (ne_Classes : PySem.W.findIn K (.ref C_Classes) "__ne__" = some (some (.builtin "object.__ne__")))
    (fn_ByTrail_classes : PySem.W.findIn K (.ref C_ByTrail) "classes" = some none)
    (fn_ByTrail_trail : PySem.W.findIn K (.ref C_ByTrail) "trail" = some none)
    (a_LONGEST : PySem.W.nsIn K mainGlobals "LONGEST" = some (some (.int 8 t_LONGEST)))
    (a_RESERVED : PySem.W.nsIn K mainGlobals "RESERVED" = some (some (.ref r_RESERVED)))
    (l_RESERVED : K.lookup r_RESERVED = some ⟨.type "tuple", dd_RESERVED, .seq it_RESERVED n_RESERVED, sl_RESERVED⟩)
    (hz_RESERVED : it_RESERVED.size ≤ sizeLine) (hv_RESERVED : StrVals c_RESERVED it_RESERVED.toList)
    (a_LETTERS : PySem.W.nsIn K mainGlobals "LETTERS" = some (some (.str "abcdefghijklmnopqrstuvwxyz" t_LETTERS)))
    (a_MOST_ROWS : PySem.W.nsIn K mainGlobals "MOST_ROWS" = some (some (.int 30 t_MOST_ROWS)))
    (a_FIRST : PySem.W.nsIn K mainGlobals "FIRST" = some (some (.ref r_FIRST)))
    (l_FIRST : K.lookup r_FIRST = some ⟨.type "tuple", dd_FIRST, .seq it_FIRST n_FIRST, sl_FIRST⟩)
    (hz_FIRST : it_FIRST.size ≤ sizeLine) (hv_FIRST : StrVals c_FIRST it_FIRST.toList)
    (fn_Classes_rows : PySem.W.findIn K (.ref C_Classes) "rows" = some none)
    (fn_Classes_names : PySem.W.findIn K (.ref C_Classes) "names" = some none)
    (fn_Classes_above : PySem.W.findIn K (.ref C_Classes) "above" = some none)
    (ka_ki_ByTrail_KIND : PySem.W.findIn K (.ref C_ByTrail) "KIND" = some (some (.str "trail" tk_ki_ByTrail_KIND)))
    (kg_ki_ByTrail_KIND : PySem.W.specialIn K (.str "trail" tk_ki_ByTrail_KIND) "__get__" = some none)
    (rd_ByTrail : PySem.W.readsIn K C_ByTrail (.type "type") = true)
    (ga_ByTrail : PySem.W.specialIn K (.ref C_ByTrail) "__getattribute__" = some (some (.builtin "type.__getattribute__")))
    (ka_kc_ByTrail_KIND : PySem.W.findCls K (.ref C_ByTrail) (.type "type") "KIND" = some (.val (.str "trail" tk_kc_ByTrail_KIND)))
    (rd_Level : PySem.W.readsIn K C_Level (.type "type") = true)
    (ga_Level : PySem.W.specialIn K (.ref C_Level) "__getattribute__" = some (some (.builtin "type.__getattribute__")))
    (ka_kc_Level_KIND : PySem.W.findCls K (.ref C_Level) (.type "type") "KIND" = some (.val (.str "class" tk_kc_Level_KIND)))
    (at_l_pen : PySem.W.nsIn K mainGlobals "_law_pen" = some (some (.ref f_l_pen)))
    (lk_l_pen : K.lookup f_l_pen = some ⟨oc_l_pen, od_l_pen, .func (PySem.W.fnOf "_law_pen" "_law_pen" (defArgs s_l_pen) (defBody s_l_pen) (defScope s_l_pen) .none kV_l_pen dc_l_pen pm_l_pen an_l_pen cd_l_pen ct_l_pen), sl_l_pen⟩)
    (cd2_l_pen : PySem.W.codeIn K cd_l_pen "_law_pen" = true)
    (kp_l_pen : PySem.W.keepIn K (.ref f_l_pen) = true)
    (at_l_draw : PySem.W.nsIn K mainGlobals "_law_draw" = some (some (.ref f_l_draw)))
    (lk_l_draw : K.lookup f_l_draw = some ⟨oc_l_draw, od_l_draw, .func (PySem.W.fnOf "_law_draw" "_law_draw" (defArgs s_l_draw) (defBody s_l_draw) (defScope s_l_draw) .none kV_l_draw dc_l_draw pm_l_draw an_l_draw cd_l_draw ct_l_draw), sl_l_draw⟩)
    (cd2_l_draw : PySem.W.codeIn K cd_l_draw "_law_draw" = true)
    (kp_l_draw : PySem.W.keepIn K (.ref f_l_draw) = true)
    (at_l_pick : PySem.W.nsIn K mainGlobals "_law_pick" = some (some (.ref f_l_pick)))
    (lk_l_pick : K.lookup f_l_pick = some ⟨oc_l_pick, od_l_pick, .func (PySem.W.fnOf "_law_pick" "_law_pick" (defArgs s_l_pick) (defBody s_l_pick) (defScope s_l_pick) .none kV_l_pick dc_l_pick pm_l_pick an_l_pick cd_l_pick ct_l_pick), sl_l_pick⟩)
    (cd2_l_pick : PySem.W.codeIn K cd_l_pick "_law_pick" = true)
    (kp_l_pick : PySem.W.keepIn K (.ref f_l_pick) = true)
    (at_l_barred : PySem.W.nsIn K mainGlobals "_law_barred" = some (some (.ref f_l_barred)))
    (lk_l_barred : K.lookup f_l_barred = some ⟨oc_l_barred, od_l_barred, .func (PySem.W.fnOf "_law_barred" "_law_barred" (defArgs s_l_barred) (defBody s_l_barred) (defScope s_l_barred) .none kV_l_barred dc_l_barred pm_l_barred an_l_barred cd_l_barred ct_l_barred), sl_l_barred⟩)
    (cd2_l_barred : PySem.W.codeIn K cd_l_barred "_law_barred" = true)
    (kp_l_barred : PySem.W.keepIn K (.ref f_l_barred) = true)
    (at_l_words : PySem.W.nsIn K mainGlobals "_law_words" = some (some (.ref f_l_words)))
    (lk_l_words : K.lookup f_l_words = some ⟨oc_l_words, od_l_words, .func (PySem.W.fnOf "_law_words" "_law_words" (defArgs s_l_words) (defBody s_l_words) (defScope s_l_words) .none kV_l_words dc_l_words pm_l_words an_l_words cd_l_words ct_l_words), sl_l_words⟩)
    (cd2_l_words : PySem.W.codeIn K cd_l_words "_law_words" = true)
    (kp_l_words : PySem.W.keepIn K (.ref f_l_words) = true)
    (at_l_some : PySem.W.nsIn K mainGlobals "_law_some" = some (some (.ref f_l_some)))
    (lk_l_some : K.lookup f_l_some = some ⟨oc_l_some, od_l_some, .func (PySem.W.fnOf "_law_some" "_law_some" (defArgs s_l_some) (defBody s_l_some) (defScope s_l_some) .none kV_l_some dc_l_some pm_l_some an_l_some cd_l_some ct_l_some), sl_l_some⟩)
    (cd2_l_some : PySem.W.codeIn K cd_l_some "_law_some" = true)
    (kp_l_some : PySem.W.keepIn K (.ref f_l_some) = true)
    (at_l_classes : PySem.W.nsIn K mainGlobals "_law_classes" = some (some (.ref f_l_classes)))
    (lk_l_classes : K.lookup f_l_classes = some ⟨oc_l_classes, od_l_classes, .func (PySem.W.fnOf "_law_classes" "_law_classes" (defArgs s_l_classes) (defBody s_l_classes) (defScope s_l_classes) .none kV_l_classes dc_l_classes pm_l_classes an_l_classes cd_l_classes ct_l_classes), sl_l_classes⟩)
    (cd2_l_classes : PySem.W.codeIn K cd_l_classes "_law_classes" = true)
    (kp_l_classes : PySem.W.keepIn K (.ref f_l_classes) = true)
    (at_Level_init : PySem.W.findIn K (.ref C_Level) "__init__" = some (some (.ref f_Level_init)))
    (fi_Level_init : PySem.W.isFn K (.ref f_Level_init) = true)
    (lk_Level_init : K.lookup f_Level_init = some ⟨oc_Level_init, od_Level_init, .func (PySem.W.fnOf "__init__" "Level.__init__" (defArgs s_Level_init) (defBody s_Level_init) (defScope s_Level_init) .none kV_Level_init dc_Level_init pm_Level_init an_Level_init cd_Level_init ct_Level_init), sl_Level_init⟩)
    (cd2_Level_init : PySem.W.codeIn K cd_Level_init "Level.__init__" = true)
    (kp_Level_init : PySem.W.keepIn K (.ref f_Level_init) = true)
    (mk2_Level : PySem.W.makesIn K C_Level = true)
    (kc_Level : PySem.W.keepIn K (.ref C_Level) = true)
    (at_ByTrail_init : PySem.W.findIn K (.ref C_ByTrail) "__init__" = some (some (.ref f_ByTrail_init)))
    (fi_ByTrail_init : PySem.W.isFn K (.ref f_ByTrail_init) = true)
    (lk_ByTrail_init : K.lookup f_ByTrail_init = some ⟨oc_ByTrail_init, od_ByTrail_init, .func (PySem.W.ksFn "__init__" "ByTrail.__init__" (defArgs s_ByTrail_init) (defBody s_ByTrail_init) (defScope s_ByTrail_init) .none kV_ByTrail_init dc_ByTrail_init pm_ByTrail_init an_ByTrail_init (.ref cda_ByTrail_init) ct_ByTrail_init cc_ByTrail_init), sl_ByTrail_init⟩)
    (cd2_ByTrail_init : PySem.W.codeIn K (.ref cda_ByTrail_init) "ByTrail.__init__" = true)
    (vl_ByTrail_init : K.lookup cda_ByTrail_init = some ⟨vcl_ByTrail_init, vcd_ByTrail_init, .fields vvs_ByTrail_init, vsl_ByTrail_init⟩)
    (v2_ByTrail_init : vvs_ByTrail_init[2]? = some (.str file_ByTrail_init tf_ByTrail_init))
    (cl2_ByTrail_init : K.lookup cc_ByTrail_init = some ⟨ccl_ByTrail_init, ccd_ByTrail_init, .cell (some (.ref C_ByTrail)), csl_ByTrail_init⟩)
    (fl_ByTrail_init : ((l.prog.main.file : Str) == file_ByTrail_init) = true)
    (tp_ByTrail_init : (l.prog.main.scope.names.lookup ("super" : Str)).isSome = false)
    (ic_ByTrail_init : PySem.W.isClsIn K C_ByTrail = true)
    (ms_ByTrail_init : PySem.W.mroIn K C_ByTrail (.ref C_ByTrail) = some true)
    (ks_ByTrail_init : PySem.W.ks_superIn K C_ByTrail C_ByTrail "__init__" = some (some (.ref f_Level_init)))
    (fn_ByTrail_init : PySem.W.fnIn K f_Level_init = true)
    (oq_ByTrail_init : PySem.W.nsIn K cStatics "thirdparty.any" = some none)
    (kp_ByTrail_init : PySem.W.keepIn K (.ref f_ByTrail_init) = true)
    (mk2_ByTrail : PySem.W.makesIn K C_ByTrail = true)
    (kc_ByTrail : PySem.W.keepIn K (.ref C_ByTrail) = true)
    (at_is_word : PySem.W.nsIn K mainGlobals "is_word" = some (some (.ref f_is_word)))
    (lk_is_word : K.lookup f_is_word = some ⟨oc_is_word, od_is_word, .func (PySem.W.fnOf "is_word" "is_word" (defArgs s_is_word) (defBody s_is_word) (defScope s_is_word) .none kV_is_word dc_is_word pm_is_word an_is_word cd_is_word ct_is_word), sl_is_word⟩)
    (cd2_is_word : PySem.W.codeIn K cd_is_word "is_word" = true)
    (kp_is_word : PySem.W.keepIn K (.ref f_is_word) = true)
    (at_are_words : PySem.W.nsIn K mainGlobals "are_words" = some (some (.ref f_are_words)))
    (lk_are_words : K.lookup f_are_words = some ⟨oc_are_words, od_are_words, .func (PySem.W.fnOf "are_words" "are_words" (defArgs s_are_words) (defBody s_are_words) (defScope s_are_words) .none kV_are_words dc_are_words pm_are_words an_are_words cd_are_words ct_are_words), sl_are_words⟩)
    (cd2_are_words : PySem.W.codeIn K cd_are_words "are_words" = true)
    (kp_are_words : PySem.W.keepIn K (.ref f_are_words) = true)
    (at_row_fault : PySem.W.nsIn K mainGlobals "row_fault" = some (some (.ref f_row_fault)))
    (lk_row_fault : K.lookup f_row_fault = some ⟨oc_row_fault, od_row_fault, .func (PySem.W.fnOf "row_fault" "row_fault" (defArgs s_row_fault) (defBody s_row_fault) (defScope s_row_fault) .none kV_row_fault dc_row_fault pm_row_fault an_row_fault cd_row_fault ct_row_fault), sl_row_fault⟩)
    (cd2_row_fault : PySem.W.codeIn K cd_row_fault "row_fault" = true)
    (kp_row_fault : PySem.W.keepIn K (.ref f_row_fault) = true)
    (at_Classes_init : PySem.W.findIn K (.ref C_Classes) "__init__" = some (some (.ref f_Classes_init)))
    (fi_Classes_init : PySem.W.isFn K (.ref f_Classes_init) = true)
    (lk_Classes_init : K.lookup f_Classes_init = some ⟨oc_Classes_init, od_Classes_init, .func (PySem.W.fnOf "__init__" "Classes.__init__" (defArgs s_Classes_init) (defBody s_Classes_init) (defScope s_Classes_init) .none kV_Classes_init dc_Classes_init pm_Classes_init an_Classes_init cd_Classes_init ct_Classes_init), sl_Classes_init⟩)
    (cd2_Classes_init : PySem.W.codeIn K cd_Classes_init "Classes.__init__" = true)
    (kp_Classes_init : PySem.W.keepIn K (.ref f_Classes_init) = true)
    (mk2_Classes : PySem.W.makesIn K C_Classes = true)
    (kc_Classes : PySem.W.keepIn K (.ref C_Classes) = true)
    (rd_Classes : PySem.W.readsIn K C_Classes (.type "type") = true)
    (ga_Classes : PySem.W.specialIn K (.ref C_Classes) "__getattribute__" = some (some (.builtin "type.__getattribute__")))
    (at_Classes_made : PySem.W.findCls K (.ref C_Classes) (.type "type") "made" = some (.get (.builtin "classmethod.__get__") (.ref p_Classes_made) .none (.ref C_Classes)))
    (rc_Classes_made : PySem.W.recIn K p_Classes_made "classmethod" = some (.ref f_Classes_made :: rest_Classes_made))
    (fi_Classes_made : PySem.W.fnIn K f_Classes_made = true)
    (lk_Classes_made : K.lookup f_Classes_made = some ⟨oc_Classes_made, od_Classes_made, .func (PySem.W.fnOf "made" "Classes.made" (defArgs s_Classes_made) (defBody s_Classes_made) (defScope s_Classes_made) .none kV_Classes_made dc_Classes_made pm_Classes_made an_Classes_made cd_Classes_made ct_Classes_made), sl_Classes_made⟩)
    (cd2_Classes_made : PySem.W.codeIn K cd_Classes_made "Classes.made" = true)
    (kp_Classes_made : PySem.W.keepIn K (.ref f_Classes_made) = true)
    (at_Classes_eq : PySem.W.findIn K (.ref C_Classes) "__eq__" = some (some (.ref f_Classes_eq)))
    (fi_Classes_eq : PySem.W.isFn K (.ref f_Classes_eq) = true)
    (lk_Classes_eq : K.lookup f_Classes_eq = some ⟨oc_Classes_eq, od_Classes_eq, .func (PySem.W.fnOf "__eq__" "Classes.__eq__" (defArgs s_Classes_eq) (defBody s_Classes_eq) (defScope s_Classes_eq) .none kV_Classes_eq dc_Classes_eq pm_Classes_eq an_Classes_eq cd_Classes_eq ct_Classes_eq), sl_Classes_eq⟩)
    (cd2_Classes_eq : PySem.W.codeIn K cd_Classes_eq "Classes.__eq__" = true)
    (kp_Classes_eq : PySem.W.keepIn K (.ref f_Classes_eq) = true)
    (at_l_chain : PySem.W.nsIn K mainGlobals "_law_chain" = some (some (.ref f_l_chain)))
    (lk_l_chain : K.lookup f_l_chain = some ⟨oc_l_chain, od_l_chain, .func (PySem.W.fnOf "_law_chain" "_law_chain" (defArgs s_l_chain) (defBody s_l_chain) (defScope s_l_chain) .none kV_l_chain dc_l_chain pm_l_chain an_l_chain cd_l_chain ct_l_chain), sl_l_chain⟩)
    (cd2_l_chain : PySem.W.codeIn K cd_l_chain "_law_chain" = true)
    (kp_l_chain : PySem.W.keepIn K (.ref f_l_chain) = true)
    (at_ByTrail_view : PySem.W.findIn K (.ref C_ByTrail) "view" = some (some (.ref f_ByTrail_view)))
    (fi_ByTrail_view : PySem.W.isFn K (.ref f_ByTrail_view) = true)
    (lk_ByTrail_view : K.lookup f_ByTrail_view = some ⟨oc_ByTrail_view, od_ByTrail_view, .func (PySem.W.fnOf "view" "ByTrail.view" (defArgs s_ByTrail_view) (defBody s_ByTrail_view) (defScope s_ByTrail_view) (.ref T_ByTrail_view) kV_ByTrail_view dc_ByTrail_view pm_ByTrail_view an_ByTrail_view cd_ByTrail_view ct_ByTrail_view), sl_ByTrail_view⟩)
    (cd2_ByTrail_view : PySem.W.codeIn K cd_ByTrail_view "ByTrail.view" = true)
    (kp_ByTrail_view : PySem.W.keepIn K (.ref f_ByTrail_view) = true)
    (lt_ByTrail_view : K.lookup T_ByTrail_view = some ⟨tcl_ByTrail_view, tcd_ByTrail_view, .seq tit_ByTrail_view tn_ByTrail_view, tsl_ByTrail_view⟩)
    (tv_ByTrail_view : Vals [V.non] tit_ByTrail_view.toList)
    (at_l_due : PySem.W.nsIn K mainGlobals "_law_due" = some (some (.ref f_l_due)))
    (lk_l_due : K.lookup f_l_due = some ⟨oc_l_due, od_l_due, .func (PySem.W.fnOf "_law_due" "_law_due" (defArgs s_l_due) (defBody s_l_due) (defScope s_l_due) .none kV_l_due dc_l_due pm_l_due an_l_due cd_l_due ct_l_due), sl_l_due⟩)
    (cd2_l_due : PySem.W.codeIn K cd_l_due "_law_due" = true)
    (kp_l_due : PySem.W.keepIn K (.ref f_l_due) = true)
    (at_ByTrail_name_of : PySem.W.findIn K (.ref C_ByTrail) "name_of" = some (some (.ref f_ByTrail_name_of)))
    (fi_ByTrail_name_of : PySem.W.isFn K (.ref f_ByTrail_name_of) = true)
    (lk_ByTrail_name_of : K.lookup f_ByTrail_name_of = some ⟨oc_ByTrail_name_of, od_ByTrail_name_of, .func (PySem.W.fnOf "name_of" "ByTrail.name_of" (defArgs s_ByTrail_name_of) (defBody s_ByTrail_name_of) (defScope s_ByTrail_name_of) .none kV_ByTrail_name_of dc_ByTrail_name_of pm_ByTrail_name_of an_ByTrail_name_of cd_ByTrail_name_of ct_ByTrail_name_of), sl_ByTrail_name_of⟩)
    (cd2_ByTrail_name_of : PySem.W.codeIn K cd_ByTrail_name_of "ByTrail.name_of" = true)
    (kp_ByTrail_name_of : PySem.W.keepIn K (.ref f_ByTrail_name_of) = true)
    (at_l_views_right : PySem.W.nsIn K mainGlobals "_law_views_right" = some (some (.ref f_l_views_right)))
    (lk_l_views_right : K.lookup f_l_views_right = some ⟨oc_l_views_right, od_l_views_right, .func (PySem.W.fnOf "_law_views_right" "_law_views_right" (defArgs s_l_views_right) (defBody s_l_views_right) (defScope s_l_views_right) .none kV_l_views_right dc_l_views_right pm_l_views_right an_l_views_right cd_l_views_right ct_l_views_right), sl_l_views_right⟩)
    (cd2_l_views_right : PySem.W.codeIn K cd_l_views_right "_law_views_right" = true)
    (kp_l_views_right : PySem.W.keepIn K (.ref f_l_views_right) = true)
    (at_l_within : PySem.W.nsIn K mainGlobals "_law_within" = some (some (.ref f_l_within)))
    (lk_l_within : K.lookup f_l_within = some ⟨oc_l_within, od_l_within, .func (PySem.W.fnOf "_law_within" "_law_within" (defArgs s_l_within) (defBody s_l_within) (defScope s_l_within) .none kV_l_within dc_l_within pm_l_within an_l_within cd_l_within ct_l_within), sl_l_within⟩)
    (cd2_l_within : PySem.W.codeIn K cd_l_within "_law_within" = true)
    (kp_l_within : PySem.W.keepIn K (.ref f_l_within) = true)
    (at_Classes_within : PySem.W.findIn K (.ref C_Classes) "within" = some (some (.ref f_Classes_within)))
    (fi_Classes_within : PySem.W.isFn K (.ref f_Classes_within) = true)
    (lk_Classes_within : K.lookup f_Classes_within = some ⟨oc_Classes_within, od_Classes_within, .func (PySem.W.fnOf "within" "Classes.within" (defArgs s_Classes_within) (defBody s_Classes_within) (defScope s_Classes_within) .none kV_Classes_within dc_Classes_within pm_Classes_within an_Classes_within cd_Classes_within ct_Classes_within), sl_Classes_within⟩)
    (cd2_Classes_within : PySem.W.codeIn K cd_Classes_within "Classes.within" = true)
    (kp_Classes_within : PySem.W.keepIn K (.ref f_Classes_within) = true)
    (at_ByTrail_taken : PySem.W.findIn K (.ref C_ByTrail) "taken" = some (some (.ref f_ByTrail_taken)))
    (fi_ByTrail_taken : PySem.W.isFn K (.ref f_ByTrail_taken) = true)
    (lk_ByTrail_taken : K.lookup f_ByTrail_taken = some ⟨oc_ByTrail_taken, od_ByTrail_taken, .func (PySem.W.fnOf "taken" "Level.taken" (defArgs s_ByTrail_taken) (defBody s_ByTrail_taken) (defScope s_ByTrail_taken) .none kV_ByTrail_taken dc_ByTrail_taken pm_ByTrail_taken an_ByTrail_taken cd_ByTrail_taken ct_ByTrail_taken), sl_ByTrail_taken⟩)
    (cd2_ByTrail_taken : PySem.W.codeIn K cd_ByTrail_taken "Level.taken" = true)
    (kp_ByTrail_taken : PySem.W.keepIn K (.ref f_ByTrail_taken) = true)
    (at_ByTrail_does : PySem.W.findIn K (.ref C_ByTrail) "does" = some (some (.ref f_ByTrail_does)))
    (fi_ByTrail_does : PySem.W.isFn K (.ref f_ByTrail_does) = true)
    (lk_ByTrail_does : K.lookup f_ByTrail_does = some ⟨oc_ByTrail_does, od_ByTrail_does, .func (PySem.W.fnOf "does" "Level.does" (defArgs s_ByTrail_does) (defBody s_ByTrail_does) (defScope s_ByTrail_does) .none kV_ByTrail_does dc_ByTrail_does pm_ByTrail_does an_ByTrail_does cd_ByTrail_does ct_ByTrail_does), sl_ByTrail_does⟩)
    (cd2_ByTrail_does : PySem.W.codeIn K cd_ByTrail_does "Level.does" = true)
    (kp_ByTrail_does : PySem.W.keepIn K (.ref f_ByTrail_does) = true)
    (at_l_taken_right : PySem.W.nsIn K mainGlobals "_law_taken_right" = some (some (.ref f_l_taken_right)))
    (lk_l_taken_right : K.lookup f_l_taken_right = some ⟨oc_l_taken_right, od_l_taken_right, .func (PySem.W.fnOf "_law_taken_right" "_law_taken_right" (defArgs s_l_taken_right) (defBody s_l_taken_right) (defScope s_l_taken_right) .none kV_l_taken_right dc_l_taken_right pm_l_taken_right an_l_taken_right cd_l_taken_right ct_l_taken_right), sl_l_taken_right⟩)
    (cd2_l_taken_right : PySem.W.codeIn K cd_l_taken_right "_law_taken_right" = true)
    (kp_l_taken_right : PySem.W.keepIn K (.ref f_l_taken_right) = true)
    (at_law : PySem.W.nsIn K mainGlobals "law" = some (some (.ref f_law)))
    (lk_law : K.lookup f_law = some ⟨oc_law, od_law, .func (PySem.W.fnOf "law" "law" (defArgs s_law) (defBody s_law) (defScope s_law) .none kV_law dc_law pm_law an_law cd_law ct_law), sl_law⟩)
    (cd2_law : PySem.W.codeIn K cd_law "law" = true)
    (kp_law : PySem.W.keepIn K (.ref f_law) = true)
    : ∀ base : Heap, K.In base → base.Ns mainGlobals mg → FnG l.prog w K mg base CX0 7 fa (liftSp K (fun ds m R => ∀ C_ByTrail : Addr, ∀ C_Classes : Addr, ∀ C_Level : Addr, (sp_law C_ByTrail C_Classes C_Level) ds m R)) := by
  intro base _ _
  have z_list := PySem.W.mg_none_of X G zz_list
  have z_int := PySem.W.mg_none_of X G zz_int
  have z_len := PySem.W.mg_none_of X G zz_len
  have z_abs := PySem.W.mg_none_of X G zz_abs
  have z_range := PySem.W.mg_none_of X G zz_range
  have z_super := PySem.W.mg_none_of X G zz_super
  have z_str := PySem.W.mg_none_of X G zz_str
  have z_isinstance := PySem.W.mg_none_of X G zz_isinstance
  have z_all := PySem.W.mg_none_of X G zz_all
  have z_tuple := PySem.W.mg_none_of X G zz_tuple
  have z_set := PySem.W.mg_none_of X G zz_set
  have z_enumerate := PySem.W.mg_none_of X G zz_enumerate
  have z_repr := PySem.W.mg_none_of X G zz_repr
  have z_any := PySem.W.mg_none_of X G zz_any
  have mg_ByTrail := PySem.W.mg_of X G aC_ByTrail
  have cl_ByTrail : Cls K C_ByTrail := ⟨pg_ByTrail, hd_ByTrail, po_ByTrail, sa_ByTrail⟩
  have mg_Classes := PySem.W.mg_of X G aC_Classes
  have g_Classes : GV K mg "Classes" (.ref C_Classes) := gv_ref mg_Classes
  have cl_Classes : Cls K C_Classes := ⟨pg_Classes, hd_Classes, po_Classes, sa_Classes⟩
  have mg_Level := PySem.W.mg_of X G aC_Level
  have g_Level : GV K mg "Level" (.ref C_Level) := gv_ref mg_Level
  have cl_Level : Cls K C_Level := ⟨pg_Level, hd_Level, po_Level, sa_Level⟩
  have nf_Classes : NF K C_Classes := by
    intro T hT
    simp only [List.mem_cons, List.not_mem_nil, or_false] at hT
    rcases hT with rfl | rfl | rfl | rfl | rfl | rfl | rfl
    · exact nf_Classes_NoneType
    · exact nf_Classes_bool
    · exact nf_Classes_int
    · exact nf_Classes_str
    · exact nf_Classes_tuple
    · exact nf_Classes_list
    · exact nf_Classes_dict
  have ji : JOk K (JO (tb_isi C_ByTrail C_Classes C_Level)) := jo_ok (by
    intro e he
    simp only [tb_isi, List.mem_cons, List.not_mem_nil, or_false] at he
    rcases he with rfl | rfl
    · exact ⟨kit_self, fun C e => by cases e; exact ⟨cl_Classes, ha_Classes, hn_ob, ht_ob, hm_Classes⟩⟩
    · exact ⟨(kit_own jn1 ki_Level kt_Level ji1), fun C e => by cases e; exact ⟨cl_ByTrail, ha_ByTrail, hn_ob, ht_ob, hm_ByTrail⟩⟩)
  have n_ByTrail_classes : NoAttr K C_ByTrail "classes" := fn_ByTrail_classes
  have n_ByTrail_trail : NoAttr K C_ByTrail "trail" := fn_ByTrail_trail
  have g_LONGEST : GV K mg "LONGEST" (.int 8) := gv_int (PySem.W.mg_of X G a_LONGEST)
  have g_RESERVED : GV K mg "RESERVED" (.tup (c_RESERVED.map .str)) := gv_strs (PySem.W.mg_of X G a_RESERVED) l_RESERVED hz_RESERVED hv_RESERVED
  have g_LETTERS : GV K mg "LETTERS" (.str "abcdefghijklmnopqrstuvwxyz") := gv_str (PySem.W.mg_of X G a_LETTERS)
  have g_MOST_ROWS : GV K mg "MOST_ROWS" (.int 30) := gv_int (PySem.W.mg_of X G a_MOST_ROWS)
  have g_FIRST : GV K mg "FIRST" (.tup (c_FIRST.map .str)) := gv_strs (PySem.W.mg_of X G a_FIRST) l_FIRST hz_FIRST hv_FIRST
  have n_Classes_rows : NoAttr K C_Classes "rows" := fn_Classes_rows
  have n_Classes_names : NoAttr K C_Classes "names" := fn_Classes_names
  have n_Classes_above : NoAttr K C_Classes "above" := fn_Classes_above
  have ki_ByTrail_KIND : KonD K C_ByTrail "KIND" (.str "trail") := ⟨.str "trail", _, ⟨ka_ki_ByTrail_KIND, ⟨_, rfl⟩, kg_ki_ByTrail_KIND, by decide +kernel⟩, fun m H => by simp only [Rep]⟩
  have kc_ByTrail_KIND : CvlD K C_ByTrail "KIND" (.str "trail") := ⟨_, .str "trail", _, ⟨rd_ByTrail, ga_ByTrail⟩, ⟨ka_kc_ByTrail_KIND, ⟨_, rfl⟩⟩, fun m H => by simp only [Rep]⟩
  have kc_Level_KIND : CvlD K C_Level "KIND" (.str "class") := ⟨_, .str "class", _, ⟨rd_Level, ga_Level⟩, ⟨ka_kc_Level_KIND, ⟨_, rfl⟩⟩, fun m H => by simp only [Rep]⟩
  have F_l_pen := fun_mk (st := s_l_pen) lk_l_pen cd2_l_pen kp_l_pen
  have c_l_pen : CalW l.prog w K mg base "_law_pen" 1 sp_l_pen := ⟨_, PySem.W.mg_of X G at_l_pen, kp_l_pen, K66.f_l_pen (P := l.prog) (w := w) (base := base) z_list F_l_pen⟩
  have F_l_draw := fun_mk (st := s_l_draw) lk_l_draw cd2_l_draw kp_l_draw
  have c_l_draw : CalW l.prog w K mg base "_law_draw" 1 sp_l_draw := ⟨_, PySem.W.mg_of X G at_l_draw, kp_l_draw, K66.f_l_draw (P := l.prog) (w := w) (base := base) z_int z_len z_abs F_l_draw⟩
  have F_l_pick := fun_mk (st := s_l_pick) lk_l_pick cd2_l_pick kp_l_pick
  have c_l_pick : CalW l.prog w K mg base "_law_pick" 2 sp_l_pick := ⟨_, PySem.W.mg_of X G at_l_pick, kp_l_pick, K66.f_l_pick (P := l.prog) (w := w) (base := base) c_l_draw z_len F_l_pick⟩
  have F_l_barred := fun_mk (st := s_l_barred) lk_l_barred cd2_l_barred kp_l_barred
  have c_l_barred : CalW l.prog w K mg base "_law_barred" 1 sp_l_barred := ⟨_, PySem.W.mg_of X G at_l_barred, kp_l_barred, K66.f_l_barred (P := l.prog) (w := w) (base := base)  F_l_barred⟩
  have F_l_words := fun_mk (st := s_l_words) lk_l_words cd2_l_words kp_l_words
  have c_l_words : CalW l.prog w K mg base "_law_words" 3 sp_l_words := ⟨_, PySem.W.mg_of X G at_l_words, kp_l_words, K66.f_l_words (P := l.prog) (w := w) (base := base) c_l_pick z_range c_l_draw z_len z_int c_l_barred F_l_words⟩
  have F_l_some := fun_mk (st := s_l_some) lk_l_some cd2_l_some kp_l_some
  have c_l_some : CalW l.prog w K mg base "_law_some" 3 sp_l_some := ⟨_, PySem.W.mg_of X G at_l_some, kp_l_some, K66.f_l_some (P := l.prog) (w := w) (base := base) c_l_pick c_l_draw F_l_some⟩
  have F_l_classes := fun_mk (st := s_l_classes) lk_l_classes cd2_l_classes kp_l_classes
  have c_l_classes : CalW l.prog w K mg base "_law_classes" 4 sp_l_classes := ⟨_, PySem.W.mg_of X G at_l_classes, kp_l_classes, K66.f_l_classes (P := l.prog) (w := w) (base := base) c_l_words c_l_draw c_l_some F_l_classes⟩
  have F_Level_init := fun_mk (st := s_Level_init) lk_Level_init cd2_Level_init kp_Level_init
  have mk_Level : CalCW l.prog w K mg base C_Level 1 (sp_Level_init C_ByTrail) := ⟨_, ⟨mk2_Level, at_Level_init, fi_Level_init, kc_Level⟩, K66.f_Level_init (P := l.prog) (w := w) (base := base) cl_ByTrail n_ByTrail_classes F_Level_init⟩
  have F_ByTrail_init : FunS K "__init__" "ByTrail.__init__" s_ByTrail_init C_ByTrail file_ByTrail_init f_ByTrail_init cc_ByTrail_init cda_ByTrail_init _ := ⟨⟨_, _, _, _, _, _, _, _, rfl, lk_ByTrail_init⟩, cd2_ByTrail_init, ⟨_, _, _, _, _, vl_ByTrail_init, v2_ByTrail_init⟩, ⟨_, _, _, cl2_ByTrail_init⟩⟩
  have su_ByTrail_init : SupW l.prog w K mg base C_ByTrail 1 (sp_Level_init C_ByTrail) := ⟨_, ⟨Option.isSome_iff_exists.mp ic_ByTrail_init, ms_ByTrail_init, ks_ByTrail_init, beq_iff_eq.mp fi_Level_init, fn_ByTrail_init, oq_ByTrail_init, z_super⟩, K66.f_Level_init (P := l.prog) (w := w) (base := base) cl_ByTrail n_ByTrail_classes F_Level_init⟩
  have mk_ByTrail : CalCW l.prog w K mg base C_ByTrail 2 (sp_ByTrail_init C_ByTrail) := ⟨_, ⟨mk2_ByTrail, at_ByTrail_init, fi_ByTrail_init, kc_ByTrail⟩, K66.f_ByTrail_init (P := l.prog) (w := w) (base := base) cl_ByTrail n_ByTrail_trail su_ByTrail_init F_ByTrail_init fl_ByTrail_init tp_ByTrail_init⟩
  have mkk_ByTrail_trail_classes : CalCKW l.prog w K mg base C_ByTrail 2 ["trail", "classes"] [0, 2, 1] (sp_ByTrail_init C_ByTrail) := ⟨_, ⟨mk2_ByTrail, at_ByTrail_init, fi_ByTrail_init, kc_ByTrail⟩, K66.fk_ByTrail_init_trail_classes (P := l.prog) (w := w) (base := base) cl_ByTrail n_ByTrail_trail su_ByTrail_init F_ByTrail_init fl_ByTrail_init tp_ByTrail_init⟩
  have F_is_word := fun_mk (st := s_is_word) lk_is_word cd2_is_word kp_is_word
  have c_is_word : CalW l.prog w K mg base "is_word" 1 sp_is_word := ⟨_, PySem.W.mg_of X G at_is_word, kp_is_word, K66.f_is_word (P := l.prog) (w := w) (base := base) z_str z_isinstance z_len g_LONGEST g_RESERVED g_LETTERS z_all F_is_word⟩
  have F_are_words := fun_mk (st := s_are_words) lk_are_words cd2_are_words kp_are_words
  have c_are_words : CalW l.prog w K mg base "are_words" 2 sp_are_words := ⟨_, PySem.W.mg_of X G at_are_words, kp_are_words, K66.f_are_words (P := l.prog) (w := w) (base := base) c_is_word z_all F_are_words⟩
  have F_row_fault := fun_mk (st := s_row_fault) lk_row_fault cd2_row_fault kp_row_fault
  have c_row_fault : CalW l.prog w K mg base "row_fault" 3 sp_row_fault := ⟨_, PySem.W.mg_of X G at_row_fault, kp_row_fault, K66.f_row_fault (P := l.prog) (w := w) (base := base) g_MOST_ROWS z_tuple z_isinstance z_len c_are_words z_all z_set F_row_fault⟩
  have F_Classes_init := fun_mk (st := s_Classes_init) lk_Classes_init cd2_Classes_init kp_Classes_init
  have mk_Classes : CalCW l.prog w K mg base C_Classes 4 (sp_Classes_init C_Classes) := ⟨_, ⟨mk2_Classes, at_Classes_init, fi_Classes_init, kc_Classes⟩, K66.f_Classes_init (P := l.prog) (w := w) (base := base) g_FIRST z_list z_enumerate c_row_fault cl_Classes n_Classes_rows z_tuple n_Classes_names n_Classes_above F_Classes_init⟩
  have F_Classes_made := fun_mk (st := s_Classes_made) lk_Classes_made cd2_Classes_made kp_Classes_made
  have k_Classes_made : CalKW l.prog w K mg base C_Classes "made" 6 (sp_Classes_made C_Classes) := ⟨_, _, _, ⟨rd_Classes, ga_Classes⟩, ⟨at_Classes_made, ⟨_, rc_Classes_made⟩, fi_Classes_made⟩, K66.f_Classes_made (P := l.prog) (w := w) (base := base) mk_Classes F_Classes_made⟩
  have F_Classes_eq := fun_mk (st := s_Classes_eq) lk_Classes_eq cd2_Classes_eq kp_Classes_eq
  have m_Classes___eq__ : CalMW l.prog w K mg base C_Classes "__eq__" 1 (sp_Classes_eq C_ByTrail C_Classes C_Level) := ⟨_, ⟨at_Classes_eq, fi_Classes_eq, kp_Classes_eq⟩, K66.f_Classes_eq (P := l.prog) (w := w) (base := base) ji g_Classes z_isinstance cl_Classes n_Classes_rows F_Classes_eq⟩
  have F_l_chain := fun_mk (st := s_l_chain) lk_l_chain cd2_l_chain kp_l_chain
  have c_l_chain : CalW l.prog w K mg base "_law_chain" 3 sp_l_chain := ⟨_, PySem.W.mg_of X G at_l_chain, kp_l_chain, K66.f_l_chain (P := l.prog) (w := w) (base := base) c_l_draw z_len c_l_pick F_l_chain⟩
  have F_ByTrail_view : FunV K "view" "ByTrail.view" s_ByTrail_view [V.non] f_ByTrail_view _ := ⟨_, _, _, _, _, _, _, _, _, _, _, _, tn_ByTrail_view, rfl, lk_ByTrail_view, cd2_ByTrail_view, lt_ByTrail_view, by simp, tv_ByTrail_view⟩
  have m_ByTrail_view : CalMW l.prog w K mg base C_ByTrail "view" 1 (sp_ByTrail_view C_ByTrail) := ⟨_, ⟨at_ByTrail_view, fi_ByTrail_view, kp_ByTrail_view⟩, K66.f_ByTrail_view (P := l.prog) (w := w) (base := base) cl_ByTrail n_ByTrail_trail z_len F_ByTrail_view⟩
  have md2_ByTrail_view : CalMW l.prog w K mg base C_ByTrail "view" 1 (spDft 2 [.non] (sp_ByTrail_view C_ByTrail)) := ⟨_, ⟨at_ByTrail_view, fi_ByTrail_view, kp_ByTrail_view⟩, K66.fd2_ByTrail_view (P := l.prog) (w := w) (base := base) cl_ByTrail n_ByTrail_trail z_len F_ByTrail_view⟩
  have mk_ByTrail_view_cause_name : CalMKW l.prog w K mg base C_ByTrail "view" 1 1 ["cause", "name"] [0, 2, 1] (sp_ByTrail_view C_ByTrail) := ⟨_, ⟨at_ByTrail_view, fi_ByTrail_view, kp_ByTrail_view⟩, K66.fk_ByTrail_view_cause_name cl_ByTrail n_ByTrail_trail z_len F_ByTrail_view⟩
  have F_l_due := fun_mk (st := s_l_due) lk_l_due cd2_l_due kp_l_due
  have c_l_due : CalW l.prog w K mg base "_law_due" 1 sp_l_due := ⟨_, PySem.W.mg_of X G at_l_due, kp_l_due, K66.f_l_due (P := l.prog) (w := w) (base := base) z_len z_range F_l_due⟩
  have F_ByTrail_name_of := fun_mk (st := s_ByTrail_name_of) lk_ByTrail_name_of cd2_ByTrail_name_of kp_ByTrail_name_of
  have m_ByTrail_name_of : CalMW l.prog w K mg base C_ByTrail "name_of" 1 sp_ByTrail_name_of := ⟨_, ⟨at_ByTrail_name_of, fi_ByTrail_name_of, kp_ByTrail_name_of⟩, K66.f_ByTrail_name_of (P := l.prog) (w := w) (base := base)  F_ByTrail_name_of⟩
  have F_l_views_right := fun_mk (st := s_l_views_right) lk_l_views_right cd2_l_views_right kp_l_views_right
  have c_l_views_right : CalW l.prog w K mg base "_law_views_right" 2 (sp_l_views_right C_ByTrail) := ⟨_, PySem.W.mg_of X G at_l_views_right, kp_l_views_right, K66.f_l_views_right (P := l.prog) (w := w) (base := base) z_len z_range c_l_draw cl_ByTrail md2_ByTrail_view mk_ByTrail_view_cause_name m_ByTrail_view z_repr c_l_due m_ByTrail_name_of F_l_views_right⟩
  have F_l_within := fun_mk (st := s_l_within) lk_l_within cd2_l_within kp_l_within
  have c_l_within : CalW l.prog w K mg base "_law_within" 1 sp_l_within := ⟨_, PySem.W.mg_of X G at_l_within, kp_l_within, K66.f_l_within (P := l.prog) (w := w) (base := base) z_list F_l_within⟩
  have F_Classes_within := fun_mk (st := s_Classes_within) lk_Classes_within cd2_Classes_within kp_Classes_within
  have m_Classes_within : CalMW l.prog w K mg base C_Classes "within" 1 (sp_Classes_within C_Classes) := ⟨_, ⟨at_Classes_within, fi_Classes_within, kp_Classes_within⟩, K66.f_Classes_within (P := l.prog) (w := w) (base := base) cl_Classes n_Classes_above F_Classes_within⟩
  have F_ByTrail_taken := fun_mk (st := s_ByTrail_taken) lk_ByTrail_taken cd2_ByTrail_taken kp_ByTrail_taken
  have m_ByTrail_taken : CalMW l.prog w K mg base C_ByTrail "taken" 2 (sp_ByTrail_taken C_ByTrail C_Classes) := ⟨_, ⟨at_ByTrail_taken, fi_ByTrail_taken, kp_ByTrail_taken⟩, K66.f_ByTrail_taken (P := l.prog) (w := w) (base := base) cl_ByTrail m_ByTrail_name_of cl_Classes n_ByTrail_classes m_Classes_within z_any F_ByTrail_taken⟩
  have F_ByTrail_does := fun_mk (st := s_ByTrail_does) lk_ByTrail_does cd2_ByTrail_does kp_ByTrail_does
  have m_ByTrail_does : CalMW l.prog w K mg base C_ByTrail "does" 1 sp_ByTrail_does := ⟨_, ⟨at_ByTrail_does, fi_ByTrail_does, kp_ByTrail_does⟩, K66.f_ByTrail_does (P := l.prog) (w := w) (base := base)  F_ByTrail_does⟩
  have F_l_taken_right := fun_mk (st := s_l_taken_right) lk_l_taken_right cd2_l_taken_right kp_l_taken_right
  have c_l_taken_right : CalW l.prog w K mg base "_law_taken_right" 3 (sp_l_taken_right C_ByTrail C_Classes) := ⟨_, PySem.W.mg_of X G at_l_taken_right, kp_l_taken_right, K66.f_l_taken_right (P := l.prog) (w := w) (base := base) z_len z_range cl_ByTrail m_ByTrail_view c_l_draw c_l_pick c_l_within m_ByTrail_taken z_tuple z_repr m_ByTrail_does F_l_taken_right⟩
  have F_law := fun_mk (st := s_law) lk_law cd2_law kp_law
  have e := hfa.symm.trans (PySem.W.mg_of X G at_law)
  cases e
  exact FnG.imp (K66.f_law (P := l.prog) (w := w) (base := base) c_l_pen z_range c_l_classes c_l_draw c_l_pick z_tuple mg_ByTrail mkk_ByTrail_trail_classes k_Classes_made mg_Classes ji g_Level z_isinstance m_Classes___eq__ nf_Classes cl_ByTrail n_ByTrail_classes mo_Classes ne_Classes ki_ByTrail_KIND c_l_chain c_l_views_right c_l_taken_right kc_ByTrail_KIND kc_Level_KIND mg_Level F_law) (liftSp_imp fun ds m R q => q _ _ _)
end K66
open PySem PySem.W PyProof.Rows
set_option maxRecDepth 100000 in
set_option maxHeartbeats 0 in
theorem PySem.Challenge.cw_whatleaves_k66_views_by_trail_holds : PySem.Challenge.rw_whatleaves_k66_views_by_trail.Holds := by
  w_on; o_law; k_head; (case hw => w_witness2)
  k_fill
  refine DL.walk_ofG (l := PySem.Challenge.rw_whatleaves_k66_views_by_trail) (n := 63) (k := 7) (sp := (fun ds m R => ∀ C_ByTrail : Addr, ∀ C_Classes : Addr, ∀ C_Level : Addr, K66.sp_law C_ByTrail C_Classes C_Level ds m R)) rfl (by decide) rfl ⟨rfl, by decide, by decide⟩ (fun w h Y => PySem.W.kIn_of Y) ?F (fun ns _ _ _ _ => K66.law_ok)
  case F =>
    intro w mg fa h KX G hmg
    refine' K66.all_mk KX G hmg ?zz_list ?zz_int ?zz_len ?zz_abs ?zz_range ?zz_super ?zz_str ?zz_isinstance ?zz_all ?zz_tuple ?zz_set ?zz_enumerate ?zz_repr ?zz_any ?aC_ByTrail ?pg_ByTrail ?hd_ByTrail ?po_ByTrail ?sa_ByTrail ?aC_Classes ?pg_Classes ?hd_Classes ?po_Classes ?sa_Classes ?aC_Level ?pg_Level ?hd_Level ?po_Level ?sa_Level ?ha_ByTrail ?hm_ByTrail ?ha_Classes ?hm_Classes ?hn_ob ?ht_ob ?ji1 ?ki_Level ?kt_Level ?jn1 ?nf_Classes_NoneType ?nf_Classes_bool ?nf_Classes_int ?nf_Classes_str ?nf_Classes_tuple ?nf_Classes_list ?nf_Classes_dict ?mo_Classes ?ne_Classes ?fn_ByTrail_classes ?fn_ByTrail_trail ?a_LONGEST ?a_RESERVED ?l_RESERVED ?hz_RESERVED ?hv_RESERVED ?a_LETTERS ?a_MOST_ROWS ?a_FIRST ?l_FIRST ?hz_FIRST ?hv_FIRST ?fn_Classes_rows ?fn_Classes_names ?fn_Classes_above ?ka_ki_ByTrail_KIND ?kg_ki_ByTrail_KIND ?rd_ByTrail ?ga_ByTrail ?ka_kc_ByTrail_KIND ?rd_Level ?ga_Level ?ka_kc_Level_KIND ?at_l_pen ?lk_l_pen ?cd2_l_pen ?kp_l_pen ?at_l_draw ?lk_l_draw ?cd2_l_draw ?kp_l_draw ?at_l_pick ?lk_l_pick ?cd2_l_pick ?kp_l_pick ?at_l_barred ?lk_l_barred ?cd2_l_barred ?kp_l_barred ?at_l_words ?lk_l_words ?cd2_l_words ?kp_l_words ?at_l_some ?lk_l_some ?cd2_l_some ?kp_l_some ?at_l_classes ?lk_l_classes ?cd2_l_classes ?kp_l_classes ?at_Level_init ?fi_Level_init ?lk_Level_init ?cd2_Level_init ?kp_Level_init ?mk2_Level ?kc_Level ?at_ByTrail_init ?fi_ByTrail_init ?lk_ByTrail_init ?cd2_ByTrail_init ?vl_ByTrail_init ?v2_ByTrail_init ?cl2_ByTrail_init ?fl_ByTrail_init ?tp_ByTrail_init ?ic_ByTrail_init ?ms_ByTrail_init ?ks_ByTrail_init ?fn_ByTrail_init ?oq_ByTrail_init ?kp_ByTrail_init ?mk2_ByTrail ?kc_ByTrail ?at_is_word ?lk_is_word ?cd2_is_word ?kp_is_word ?at_are_words ?lk_are_words ?cd2_are_words ?kp_are_words ?at_row_fault ?lk_row_fault ?cd2_row_fault ?kp_row_fault ?at_Classes_init ?fi_Classes_init ?lk_Classes_init ?cd2_Classes_init ?kp_Classes_init ?mk2_Classes ?kc_Classes ?rd_Classes ?ga_Classes ?at_Classes_made ?rc_Classes_made ?fi_Classes_made ?lk_Classes_made ?cd2_Classes_made ?kp_Classes_made ?at_Classes_eq ?fi_Classes_eq ?lk_Classes_eq ?cd2_Classes_eq ?kp_Classes_eq ?at_l_chain ?lk_l_chain ?cd2_l_chain ?kp_l_chain ?at_ByTrail_view ?fi_ByTrail_view ?lk_ByTrail_view ?cd2_ByTrail_view ?kp_ByTrail_view ?lt_ByTrail_view ?tv_ByTrail_view ?at_l_due ?lk_l_due ?cd2_l_due ?kp_l_due ?at_ByTrail_name_of ?fi_ByTrail_name_of ?lk_ByTrail_name_of ?cd2_ByTrail_name_of ?kp_ByTrail_name_of ?at_l_views_right ?lk_l_views_right ?cd2_l_views_right ?kp_l_views_right ?at_l_within ?lk_l_within ?cd2_l_within ?kp_l_within ?at_Classes_within ?fi_Classes_within ?lk_Classes_within ?cd2_Classes_within ?kp_Classes_within ?at_ByTrail_taken ?fi_ByTrail_taken ?lk_ByTrail_taken ?cd2_ByTrail_taken ?kp_ByTrail_taken ?at_ByTrail_does ?fi_ByTrail_does ?lk_ByTrail_does ?cd2_ByTrail_does ?kp_ByTrail_does ?at_l_taken_right ?lk_l_taken_right ?cd2_l_taken_right ?kp_l_taken_right ?at_law ?lk_law ?cd2_law ?kp_law
    (case zz_list => k_is)
    (case zz_int => k_is)
    (case zz_len => k_is)
    (case zz_abs => k_is)
    (case zz_range => k_is)
    (case zz_super => k_is)
    (case zz_str => k_is)
    (case zz_isinstance => k_is)
    (case zz_all => k_is)
    (case zz_tuple => k_is)
    (case zz_set => k_is)
    (case zz_enumerate => k_is)
    (case zz_repr => k_is)
    (case zz_any => k_is)
    (case aC_ByTrail => k_is)
    (case pg_ByTrail => k_is)
    (case hd_ByTrail => k_is)
    (case po_ByTrail => k_is)
    (case sa_ByTrail => k_is)
    (case aC_Classes => k_is)
    (case pg_Classes => k_is)
    (case hd_Classes => k_is)
    (case po_Classes => k_is)
    (case sa_Classes => k_is)
    (case aC_Level => k_is)
    (case pg_Level => k_is)
    (case hd_Level => k_is)
    (case po_Level => k_is)
    (case sa_Level => k_is)
    (case ha_ByTrail => k_is)
    (case hm_ByTrail => k_is)
    (case ha_Classes => k_is)
    (case hm_Classes => k_is)
    (case hn_ob => k_is)
    (case ht_ob => k_is)
    (case ji1 => k_is)
    (case ki_Level => k_is)
    (case kt_Level => k_is)
    (case nf_Classes_NoneType => k_is)
    (case nf_Classes_bool => k_is)
    (case nf_Classes_int => k_is)
    (case nf_Classes_str => k_is)
    (case nf_Classes_tuple => k_is)
    (case nf_Classes_list => k_is)
    (case nf_Classes_dict => k_is)
    (case mo_Classes => k_is)
    (case ne_Classes => k_is)
    (case fn_ByTrail_classes => k_is)
    (case fn_ByTrail_trail => k_is)
    (case a_LONGEST => k_is)
    (case a_RESERVED => k_is)
    (case l_RESERVED => k_is)
    (case a_LETTERS => k_is)
    (case a_MOST_ROWS => k_is)
    (case a_FIRST => k_is)
    (case l_FIRST => k_is)
    (case fn_Classes_rows => k_is)
    (case fn_Classes_names => k_is)
    (case fn_Classes_above => k_is)
    (case ka_ki_ByTrail_KIND => k_is)
    (case kg_ki_ByTrail_KIND => k_is)
    (case rd_ByTrail => k_is)
    (case ga_ByTrail => k_is)
    (case ka_kc_ByTrail_KIND => k_is)
    (case rd_Level => k_is)
    (case ga_Level => k_is)
    (case ka_kc_Level_KIND => k_is)
    (case at_l_pen => k_is)
    (case lk_l_pen => k_is)
    (case cd2_l_pen => k_is)
    (case kp_l_pen => k_is)
    (case at_l_draw => k_is)
    (case lk_l_draw => k_is)
    (case cd2_l_draw => k_is)
    (case kp_l_draw => k_is)
    (case at_l_pick => k_is)
    (case lk_l_pick => k_is)
    (case cd2_l_pick => k_is)
    (case kp_l_pick => k_is)
    (case at_l_barred => k_is)
    (case lk_l_barred => k_is)
    (case cd2_l_barred => k_is)
    (case kp_l_barred => k_is)
    (case at_l_words => k_is)
    (case lk_l_words => k_is)
    (case cd2_l_words => k_is)
    (case kp_l_words => k_is)
    (case at_l_some => k_is)
    (case lk_l_some => k_is)
    (case cd2_l_some => k_is)
    (case kp_l_some => k_is)
    (case at_l_classes => k_is)
    (case lk_l_classes => k_is)
    (case cd2_l_classes => k_is)
    (case kp_l_classes => k_is)
    (case at_Level_init => k_is)
    (case fi_Level_init => k_is)
    (case lk_Level_init => k_is)
    (case cd2_Level_init => k_is)
    (case kp_Level_init => k_is)
    (case mk2_Level => k_is)
    (case kc_Level => k_is)
    (case at_ByTrail_init => k_is)
    (case fi_ByTrail_init => k_is)
    (case lk_ByTrail_init => k_is)
    (case cd2_ByTrail_init => k_is)
    (case vl_ByTrail_init => k_is)
    (case cl2_ByTrail_init => k_is)
    (case ic_ByTrail_init => k_is)
    (case ms_ByTrail_init => k_is)
    (case fn_ByTrail_init => k_is)
    (case oq_ByTrail_init => k_is)
    (case kp_ByTrail_init => k_is)
    (case mk2_ByTrail => k_is)
    (case kc_ByTrail => k_is)
    (case at_is_word => k_is)
    (case lk_is_word => k_is)
    (case cd2_is_word => k_is)
    (case kp_is_word => k_is)
    (case at_are_words => k_is)
    (case lk_are_words => k_is)
    (case cd2_are_words => k_is)
    (case kp_are_words => k_is)
    (case at_row_fault => k_is)
    (case lk_row_fault => k_is)
    (case cd2_row_fault => k_is)
    (case kp_row_fault => k_is)
    (case at_Classes_init => k_is)
    (case fi_Classes_init => k_is)
    (case lk_Classes_init => k_is)
    (case cd2_Classes_init => k_is)
    (case kp_Classes_init => k_is)
    (case mk2_Classes => k_is)
    (case kc_Classes => k_is)
    (case rd_Classes => k_is)
    (case ga_Classes => k_is)
    (case at_Classes_made => k_is)
    (case rc_Classes_made => k_is)
    (case fi_Classes_made => k_is)
    (case lk_Classes_made => k_is)
    (case cd2_Classes_made => k_is)
    (case kp_Classes_made => k_is)
    (case at_Classes_eq => k_is)
    (case fi_Classes_eq => k_is)
    (case lk_Classes_eq => k_is)
    (case cd2_Classes_eq => k_is)
    (case kp_Classes_eq => k_is)
    (case at_l_chain => k_is)
    (case lk_l_chain => k_is)
    (case cd2_l_chain => k_is)
    (case kp_l_chain => k_is)
    (case at_ByTrail_view => k_is)
    (case fi_ByTrail_view => k_is)
    (case lk_ByTrail_view => k_is)
    (case cd2_ByTrail_view => k_is)
    (case kp_ByTrail_view => k_is)
    (case lt_ByTrail_view => k_is)
    (case at_l_due => k_is)
    (case lk_l_due => k_is)
    (case cd2_l_due => k_is)
    (case kp_l_due => k_is)
    (case at_ByTrail_name_of => k_is)
    (case fi_ByTrail_name_of => k_is)
    (case lk_ByTrail_name_of => k_is)
    (case cd2_ByTrail_name_of => k_is)
    (case kp_ByTrail_name_of => k_is)
    (case at_l_views_right => k_is)
    (case lk_l_views_right => k_is)
    (case cd2_l_views_right => k_is)
    (case kp_l_views_right => k_is)
    (case at_l_within => k_is)
    (case lk_l_within => k_is)
    (case cd2_l_within => k_is)
    (case kp_l_within => k_is)
    (case at_Classes_within => k_is)
    (case fi_Classes_within => k_is)
    (case lk_Classes_within => k_is)
    (case cd2_Classes_within => k_is)
    (case kp_Classes_within => k_is)
    (case at_ByTrail_taken => k_is)
    (case fi_ByTrail_taken => k_is)
    (case lk_ByTrail_taken => k_is)
    (case cd2_ByTrail_taken => k_is)
    (case kp_ByTrail_taken => k_is)
    (case at_ByTrail_does => k_is)
    (case fi_ByTrail_does => k_is)
    (case lk_ByTrail_does => k_is)
    (case cd2_ByTrail_does => k_is)
    (case kp_ByTrail_does => k_is)
    (case at_l_taken_right => k_is)
    (case lk_l_taken_right => k_is)
    (case cd2_l_taken_right => k_is)
    (case kp_l_taken_right => k_is)
    (case at_law => k_is)
    (case lk_law => k_is)
    (case cd2_law => k_is)
    (case kp_law => k_is)
    (case jn1 => rfl)
    (case hz_RESERVED => decide); (case hv_RESERVED => repeat constructor)
    (case hz_FIRST => decide); (case hv_FIRST => repeat constructor)
    (case v2_ByTrail_init => rfl)
    (case fl_ByTrail_init => first | rfl | decide +kernel)
    (case tp_ByTrail_init => first | rfl | decide +kernel)
    (case ks_ByTrail_init => ks_is)
    (case tv_ByTrail_view => repeat constructor)
