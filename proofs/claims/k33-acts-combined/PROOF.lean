import PyProof.Rows.All
import Wide.All
import OpenK.AllK
import Wide.FinOn
import HandS.ForMost
import HandS.Lambda
import KE.KDictKeyed
import HandS.Deep
import HandS.TupAny
import HandS.Style
import HandS.TupLe
import HandS.TupMul
import HandS.Strs
import HandS.StrMore
import HandS.IsInst
import HandS.Flow
import HandS.More
import HandS.Star
import HandS.ClsMeth
import KE.GoesMore
import HandS.SetFor
import HandS.Codes
import HandS.SetTxt0
import HandS.Set
import HandS.SortRule
import HandS.WideBits
import HandS.Iter
import HandS.Defaults
import KE.KSuper
import KE.RegKSuper
import HandS.ExcInit
import HandS.ExcOwn
import HandS.ExcField
import HandS.ExcIs
import HandS.WordsExc
import HandS.Words
import KE.KExcIs
import HandS.Spec
import KE.SortData
import HandS.EndOwn
import KE.DataFind
import KE.SortKeyHeap
import HandS.SortKw
import PyProof.DictFindH
import HandS.DictComp
import HandS.TupLen
import HandS.Conv
import KE.DataCmp
import KE.DatumOrd
import PySem.Challenge.RW_whatleaves_k33_acts_combined
set_option Elab.async false
set_option linter.all false
set_option maxRecDepth 100000
set_option autoImplicit false
/-! ### DL1: data as trees over the abstract heap -/
namespace DL
open PySem PySem.Spec PyProof.Rows L2

inductive D where
  | non | bl (b : Bool) | int (i : Int) | str (x : Str)
  | tup (xs : List D) | lst (xs : List D) | dic (ks vs : List D)
  | ins (C : Addr) (ns : List Str) (vs : List D)
  | ref (a : Addr) | ty (n : String) | scr (ns : List Int)
  /-- a caught exception of the class at C, its fields -/
  | exc (C : Addr) (ns : List Str) (vs : List D)
  /-- a def's table of code objects, each of them of the name q -/
  | tab (q : Str)
  /-- a lambda at f, its code object at c of the name q; ds, vs: what its maker's names stand for -/
  | clo (f c : Addr) (q : Str) (ds : List D) (vs : List V)
  /-- a dict whose keys are tuples of data, nested -/
  | dky (P : Program) (w : World) (ks vs : List D)

abbrev M := Addr → Option D
def updM (m : M) (a : Addr) (d : D) : M := fun b => if b = a then some d else m b
def delM (m : M) (a : Addr) : M := fun b => if b = a then none else m b
theorem updM_same {m : M} {a : Addr} {d : D} : updM m a d a = some d := by simp [updM]
theorem updM_ne {m : M} {a b : Addr} {d : D} (h : b ≠ a) : updM m a d b = m b := by simp [updM, h]
theorem updM_upd {m : M} {a : Addr} {d d' : D} : updM (updM m a d) a d' = updM m a d' := by
  funext b; simp only [updM]; split <;> rfl
theorem delM_same {m : M} {a : Addr} : delM m a a = none := by simp [delM]
theorem delM_ne {m : M} {a b : Addr} (h : b ≠ a) : delM m a b = m b := by simp [delM, h]

/-- a written tuple, list -/
def TupK (K : PySem.W.Frag) (a : Addr) (xs : List V) : Prop :=
  ∃ (o : Obj) (its : Array Value) (n : Nat), K.lookup a = some o ∧ o.cls = .type "tuple" ∧ o.data = .seq its n ∧ its.size ≤ sizeLine ∧ Vals xs its.toList
def TupAt (K : PySem.W.Frag) (m : M) (H : Hp) (a : Addr) (vs : List V) : Prop := (m a = none ∧ H a = some (.tup vs)) ∨ TupK K a vs
def LstAt (m : M) (H : Hp) (a : Addr) (vs : List V) : Prop := m a = none ∧ H a = some (.lst vs)
/-- the script -/
def ScrAt (K : PySem.W.Frag) (m : M) (H : Hp) (a : Addr) (vs : List V) : Prop := (m a = none ∧ Rd H a (.lst vs)) ∨
  ∃ (o : Obj) (its : Array Value) (n : Nat), K.lookup a = some o ∧ o.cls = .type "list" ∧ o.dict = none ∧ o.data = .seq its n ∧ its.size ≤ sizeLine ∧ Vals vs its.toList
theorem ScrAt.sq {K : PySem.W.Frag} {m : M} {H : Hp} {a : Addr} {vs : List V} (h : ScrAt K m H a vs) : SqL K H a vs := by
  rcases h with ⟨_, h⟩ | h
  · exact .inl h
  · exact .inr h
theorem ScrAt.of {K : PySem.W.Frag} {m : M} {H : Hp} {a : Addr} {vs : List V} (n : m a = none) (h : SqL K H a vs) : ScrAt K m H a vs := by
  rcases h with h | h
  · exact .inl ⟨n, h⟩
  · exact .inr h
def kD : Key → D
  | .inl i => .int i
  | .inr x => .str x
def DicAt (H : Hp) (a : Addr) (ks : List D) (vs : List V) : Prop :=
  ∃ kvs : List (Key × V), Rd H a (.dK kvs) ∧ ks = kvs.map (fun kv => kD kv.1) ∧ vs = kvs.map (·.2)

mutual
/-- data as keys -/
def keyD : D → NestedKey
  | .bl b => .num (if b = true then 1 else 0)
  | .int i => .num i
  | .str x => .text x
  | .tup ds => .tup (keyDs ds)
  | _ => .none
def keyDs : List D → List NestedKey
  | [] => []
  | d :: ds => keyD d :: keyDs ds
end
mutual
/-- data that may be a part of a key -/
def okKey : Nat → D → Bool
  | _, .non => true
  | _, .bl _ => true
  | _, .int _ => true
  | _, .str _ => true
  | n + 1, .tup ds => okKeyL n ds
  | _, _ => false
def okKeyL : Nat → List D → Bool
  | _, [] => true
  | n, d :: ds => okKey n d && okKeyL n ds
end
def isTupD : D → Bool
  | .tup _ => true
  | _ => false
/-- a tuple that may be a key -/
def tupKey (d : D) : Bool := isTupD d && okKey 8 d
abbrev KEnt := NestedKey × Addr × Value
/-- a dict's object by its entries -/
def KdO (P : Program) (w : World) (a : Addr) (xs : List KEnt) : HO := .ext fun h => (a == sysModules) = false ∧ xs.length ≤ sizeLine ∧ (xs.map (·.1)).Nodup ∧ ∃ o es ep, h.get? a = some o ∧ o.ExactDict ∧ o.data = .dict es ep ∧ es.toList = xs.map (entryOfKey (nestedKind P w))
/-- the object of a caught exception -/
def XO (a C dd : Addr) : HO := .ext fun h => ∃ (oe : Obj) (vs : Array Value), h.get? a = some oe ∧ oe.cls = .ref C ∧ oe.dict = some dd ∧ oe.data = .fields vs
mutual
def Rep (K : PySem.W.Frag) (m : M) (H : Hp) : D → V → Prop
  | .non, v => v = .non
  | .bl b, v => v = .bl b
  | .int i, v => v = .int i
  | .str x, v => v = .str x
  | .ty n, v => v = .ty n
  | .ref a, v => v = .ref a
  | .scr ns, v => ∃ a, v = .ref a ∧ ScrAt K m H a (ns.map V.int)
  | .tup ds, v => ∃ a vs, v = .ref a ∧ TupAt K m H a vs ∧ RepL K m H ds vs
  | .lst ds, v => ∃ a vs, v = .ref a ∧ LstAt m H a vs ∧ RepL K m H ds vs
  | .dic ks ds, v => ∃ a vs, v = .ref a ∧ m a = none ∧ DicAt H a ks vs ∧ RepL K m H ds vs
  | .ins C ns ds, v => ∃ a dx fs, v = .ref a ∧ m a = none ∧ H a = some (.ins C dx fs) ∧ fs.map (·.1) = ns ∧ RepL K m H ds (fs.map (·.2))
  | .clo f c q ds vs, v => v = .ref f ∧ m c = none ∧ H c = some (LamX.CodeO c q) ∧ RepL K m H ds vs
  | .tab q, v => ∃ a ps, v = .ref a ∧ m a = none ∧ H a = some (.tbl ps)
  | .dky P w ks ds, v => ∃ (a : Addr) (xs : List KEnt) (ws : List V), v = .ref a ∧ m a = none ∧ H a = some (KdO P w a xs) ∧ xs.map (·.1) = ks.map keyD ∧ ks.all tupKey = true ∧ RepL K m H ks (xs.map fun x => .ref x.2.1) ∧ RepL K m H ds ws ∧ Vals ws (xs.map (·.2.2))
  | .exc C ns ds, v => ∃ a dd fs, v = .ref a ∧ m a = none ∧ H a = some (XO a C dd) ∧ m dd = none ∧ H dd = some (.xd fs) ∧ fs.map (·.1) = ns ∧ RepL K m H ds (fs.map (·.2))
def RepL (K : PySem.W.Frag) (m : M) (H : Hp) : List D → List V → Prop
  | [], vs => vs = []
  | d :: ds, vs => ∃ v r, vs = v :: r ∧ Rep K m H d v ∧ RepL K m H ds r
end

/-- what stands at a mutable place -/
def MRep (K : PySem.W.Frag) (m : M) (H : Hp) (a : Addr) : D → Prop
  | .lst ds => ∃ vs, H a = some (.lst vs) ∧ RepL K m H ds vs
  | .dic ks ds => ∃ kvs : List (Key × V), H a = some (.dK kvs) ∧ ks = kvs.map (fun kv => kD kv.1) ∧ RepL K m H ds (kvs.map (·.2))
  | .ins C ns ds => ∃ dx fs, H a = some (.ins C dx fs) ∧ fs.map (·.1) = ns ∧ RepL K m H ds (fs.map (·.2))
  | .tab q => ∃ ps : Array Value, H a = some (.tbl ps) ∧ TriplesOk ps.toList ∧ ∀ (pos : Pos) (cv : Value), codeAmong pos ps.toList = some cv → ∃ c, cv = .ref c ∧ m c = none ∧ H c = some (LamX.CodeO c q)
  | .dky P w ks ds => ∃ (xs : List KEnt) (ws : List V), H a = some (KdO P w a xs) ∧ xs.map (·.1) = ks.map keyD ∧ ks.all tupKey = true ∧ RepL K m H ks (xs.map fun x => .ref x.2.1) ∧ RepL K m H ds ws ∧ Vals ws (xs.map (·.2.2))
  | _ => False
def Sim (K : PySem.W.Frag) (m : M) (H : Hp) : Prop := ∀ a d, m a = some d → MRep K m H a d

def strip : HO → HO
  | .frz _ (.dK k) => .dK k
  | .frz _ (.dT k) => .dT k
  | .tbl _ => .tbl #[]
  | u => u
theorem strip_lst {u : HO} {vs : List V} (h : strip u = .lst vs) : u = .lst vs := by
  unfold strip at h; split at h <;> first | exact h | cases h
theorem strip_tup {u : HO} {vs : List V} (h : strip u = .tup vs) : u = .tup vs := by
  unfold strip at h; split at h <;> first | exact h | cases h
theorem strip_ins {u : HO} {C dx fs} (h : strip u = .ins C dx fs) : u = .ins C dx fs := by
  unfold strip at h; split at h <;> first | exact h | cases h
theorem strip_frzl {u : HO} {o : Obj} {vs : List V} (h : strip u = .frz o (.lst vs)) : u = .frz o (.lst vs) := by
  unfold strip at h; split at h <;> first | exact h | cases h
theorem strip_tbl {u : HO} {ps} (h : strip u = .tbl ps) : ∃ qs, u = .tbl qs := by
  unfold strip at h; split at h
  · cases h
  · cases h
  · exact ⟨_, rfl⟩
  · exact ⟨_, h⟩
theorem strip_CodeO {u : HO} {c q} (h : strip u = LamX.CodeO c q) : u = LamX.CodeO c q := by
  unfold strip at h; split at h
  · unfold LamX.CodeO at h; cases h
  · unfold LamX.CodeO at h; cases h
  · unfold LamX.CodeO at h; cases h
  · exact h
theorem strip_xd {u : HO} {fs} (h : strip u = .xd fs) : u = .xd fs := by
  unfold strip at h; split at h <;> first | exact h | cases h
theorem strip_XO {u : HO} {a C dd} (h : strip u = XO a C dd) : u = XO a C dd := by
  unfold strip at h; split at h
  · unfold XO at h; cases h
  · unfold XO at h; cases h
  · unfold XO at h; cases h
  · exact h
theorem strip_KdO {u : HO} {P w a xs} (h : strip u = KdO P w a xs) : u = KdO P w a xs := by
  unfold strip at h; split at h
  · unfold KdO at h; cases h
  · unfold KdO at h; cases h
  · unfold KdO at h; cases h
  · exact h
theorem strip_dK {u : HO} {k} (h : strip u = .dK k) : u = .dK k ∨ ∃ o, u = .frz o (.dK k) := by
  unfold strip at h; split at h <;> first | (cases h; exact .inr ⟨_, rfl⟩) | exact .inl h | cases h
theorem strip_dT {u : HO} {k} (h : strip u = .dT k) : u = .dT k ∨ ∃ o, u = .frz o (.dT k) := by
  unfold strip at h; split at h <;> first | (cases h; exact .inr ⟨_, rfl⟩) | exact .inl h | cases h

/-- what is not mutable stays -/
def Lk (u u' : HO) : Prop := u' = u ∨ (∃ o k, u = .dK k ∧ u' = .frz o (.dK k)) ∨ ∃ ps more, u = .tbl ps ∧ u' = .tbl (ps ++ more)
theorem Lk.trans {u v w : HO} (a : Lk u v) (b : Lk v w) : Lk u w := by
  rcases a with rfl | ⟨o, k, rfl, rfl⟩ | ⟨ps, more, rfl, rfl⟩
  · exact b
  · rcases b with rfl | ⟨o', k', e, _⟩ | ⟨_, _, e, _⟩
    · exact .inr (.inl ⟨o, k, rfl, rfl⟩)
    · cases e
    · cases e
  · rcases b with rfl | ⟨o', k', e, _⟩ | ⟨ps', more', e, rfl⟩
    · exact .inr (.inr ⟨ps, more, rfl, rfl⟩)
    · cases e
    · cases e
      exact .inr (.inr ⟨ps, more ++ more', rfl, by rw [Array.append_assoc]⟩)
theorem Lk.strip {u v : HO} (a : Lk u v) : strip v = strip u := by
  rcases a with rfl | ⟨o, k, rfl, rfl⟩ | ⟨_, _, rfl, rfl⟩ <;> rfl
theorem Lk.lst {vs : List V} {v : HO} (a : Lk (.lst vs) v) : v = .lst vs := by
  rcases a with rfl | ⟨o, k, e, _⟩ | ⟨_, _, e, _⟩
  · rfl
  · cases e
  · cases e
theorem Lk.tup {vs : List V} {v : HO} (a : Lk (.tup vs) v) : v = .tup vs := by
  rcases a with rfl | ⟨o, k, e, _⟩ | ⟨_, _, e, _⟩
  · rfl
  · cases e
  · cases e
theorem Lk.frz {o : Obj} {u v : HO} (a : Lk (.frz o u) v) : v = .frz o u := by
  rcases a with rfl | ⟨o, k, e, _⟩ | ⟨_, _, e, _⟩
  · rfl
  · cases e
  · cases e
theorem Lk.ext {φ : Heap → Prop} {v : HO} (a : Lk (.ext φ) v) : v = .ext φ := by
  rcases a with rfl | ⟨o, k, e, _⟩ | ⟨_, _, e, _⟩
  · rfl
  · cases e
  · cases e
def Fr (m : M) (H : Hp) (m' : M) (H' : Hp) : Prop := ∀ a u, m a = none → H a = some u → m' a = none ∧ ∃ u', H' a = some u' ∧ Lk u u'
theorem Fr.refl {m : M} {H : Hp} : Fr m H m H := fun _ u n h => ⟨n, u, h, .inl rfl⟩
theorem Fr.trans {m m1 m2 : M} {H H1 H2 : Hp} (a : Fr m H m1 H1) (b : Fr m1 H1 m2 H2) : Fr m H m2 H2 := fun c u n h => by
  obtain ⟨n1, u1, h1, e1⟩ := a c u n h
  obtain ⟨n2, u2, h2, e2⟩ := b c u1 n1 h1
  exact ⟨n2, u2, h2, e1.trans e2⟩
theorem Fr.lst {m m1 : M} {H H1 : Hp} (f : Fr m H m1 H1) {a : Addr} {vs : List V} (n : m a = none) (h : H a = some (.lst vs)) : m1 a = none ∧ H1 a = some (.lst vs) := by
  obtain ⟨n1, u1, h1, e1⟩ := f a _ n h
  exact ⟨n1, by rw [h1, e1.lst]⟩
theorem Fr.tup {m m1 : M} {H H1 : Hp} (f : Fr m H m1 H1) {a : Addr} {vs : List V} (n : m a = none) (h : H a = some (.tup vs)) : m1 a = none ∧ H1 a = some (.tup vs) := by
  obtain ⟨n1, u1, h1, e1⟩ := f a _ n h
  exact ⟨n1, by rw [h1, e1.tup]⟩
theorem Fr.frz {m m1 : M} {H H1 : Hp} (f : Fr m H m1 H1) {a : Addr} {o : Obj} {u : HO} (n : m a = none) (h : H a = some (.frz o u)) : m1 a = none ∧ H1 a = some (.frz o u) := by
  obtain ⟨n1, u1, h1, e1⟩ := f a _ n h
  exact ⟨n1, by rw [h1, e1.frz]⟩
theorem rd_dK_strip {H : Hp} {a : Addr} {k} : Rd H a (.dK k) ↔ ∃ u, H a = some u ∧ strip u = .dK k := by
  constructor
  · rintro (h | ⟨o, h⟩)
    · exact ⟨_, h, rfl⟩
    · exact ⟨_, h, rfl⟩
  · rintro ⟨u, h, e⟩
    rcases strip_dK e with rfl | ⟨o, rfl⟩
    · exact .inl h
    · exact .inr ⟨o, h⟩
theorem dicAt_of {H H' : Hp} {a : Addr} {ks : List D} {vs : List V} (k : ∀ u, H a = some u → ∃ u', H' a = some u' ∧ strip u' = strip u) (h : DicAt H a ks vs) : DicAt H' a ks vs := by
  obtain ⟨kvs, h, e⟩ := h
  obtain ⟨u, h, e1⟩ := rd_dK_strip.mp h
  obtain ⟨u', h', e2⟩ := k u h
  exact ⟨kvs, rd_dK_strip.mpr ⟨u', h', e2.trans e1⟩, e⟩
/-- .. up to locks -/
def FrL (m : M) (H : Hp) (m' : M) (H' : Hp) : Prop := ∀ a u, m a = none → H a = some u → m' a = none ∧ ∃ u', H' a = some u' ∧ strip u' = strip u
theorem Fr.l {m m' : M} {H H' : Hp} (f : Fr m H m' H') : FrL m H m' H' := fun a u n h => let ⟨n1, u', h', e⟩ := f a u n h; ⟨n1, u', h', e.strip⟩

mutual
theorem Rep.monoL {K : PySem.W.Frag} {m m' : M} {H H' : Hp} (f : FrL m H m' H') : ∀ (d : D) (v : V), Rep K m H d v → Rep K m' H' d v
  | .non, v, h => h
  | .bl b, v, h => h
  | .int i, v, h => h
  | .str x, v, h => h
  | .ty n, v, h => h
  | .ref a, v, h => h
  | .scr ns, v, h => by
    simp only [Rep] at h ⊢
    obtain ⟨a, e, h1⟩ := h
    refine ⟨a, e, ?_⟩
    rcases h1 with ⟨n, (h1 | ⟨o, h1⟩)⟩ | h1
    · obtain ⟨n', u, h', e'⟩ := f a _ n h1
      exact .inl ⟨n', .inl (by rw [h', strip_lst (e'.trans rfl)])⟩
    · obtain ⟨n', u, h', e'⟩ := f a _ n h1
      exact .inl ⟨n', .inr ⟨o, by rw [h', strip_frzl (e'.trans rfl)]⟩⟩
    · exact .inr h1
  | .tup ds, v, h => by
    simp only [Rep] at h ⊢
    obtain ⟨a, vs, e, h1, h2⟩ := h
    refine ⟨a, vs, e, ?_, RepL.monoL f ds vs h2⟩
    rcases h1 with ⟨n, h1⟩ | h1
    · obtain ⟨n', u, h', e'⟩ := f a _ n h1
      exact .inl ⟨n', by rw [h', strip_tup (e'.trans rfl)]⟩
    · exact .inr h1
  | .lst ds, v, h => by
    simp only [Rep] at h ⊢
    obtain ⟨a, vs, e, h1, h2⟩ := h
    obtain ⟨n', u, h', e'⟩ := f a _ h1.1 h1.2
    exact ⟨a, vs, e, ⟨n', by rw [h', strip_lst (e'.trans rfl)]⟩, RepL.monoL f ds vs h2⟩
  | .dic ks ds, v, h => by
    simp only [Rep] at h ⊢
    obtain ⟨a, vs, e, n, h1, h2⟩ := h
    refine ⟨a, vs, e, ?_, dicAt_of (fun u h => (f a u n h).2) h1, RepL.monoL f ds vs h2⟩
    obtain ⟨kvs, (q | ⟨o, q⟩), _⟩ := h1 <;> exact (f a _ n q).1
  | .ins C ns ds, v, h => by
    simp only [Rep] at h ⊢
    obtain ⟨a, dx, fs, e, n, h1, h2, h3⟩ := h
    obtain ⟨n', u, h', e'⟩ := f a _ n h1
    exact ⟨a, dx, fs, e, n', by rw [h', strip_ins (e'.trans rfl)], h2, RepL.monoL f ds _ h3⟩
  | .clo f' c q ds vs, v, h => by
    simp only [Rep] at h ⊢
    obtain ⟨e, n, h1, h2⟩ := h
    obtain ⟨n', u', h', e'⟩ := f c _ n h1
    exact ⟨e, n', by rw [h', strip_CodeO (e'.trans rfl)], RepL.monoL f ds vs h2⟩
  | .tab q, v, h => by
    simp only [Rep] at h ⊢
    obtain ⟨a, ps, e, n, h1⟩ := h
    obtain ⟨n', u', h', e'⟩ := f a _ n h1
    obtain ⟨qs, rfl⟩ := strip_tbl e'
    exact ⟨a, qs, e, n', h'⟩
  | .dky P w ks ds, v, h => by
    simp only [Rep] at h ⊢
    obtain ⟨a, xs, ws, e, n, h1, h2, h3, h4, h5, h6⟩ := h
    obtain ⟨n', u', h', e'⟩ := f a _ n h1
    exact ⟨a, xs, ws, e, n', by rw [h', strip_KdO (e'.trans rfl)], h2, h3, RepL.monoL f ks _ h4, RepL.monoL f ds _ h5, h6⟩
  | .exc C ns ds, v, h => by
    simp only [Rep] at h ⊢
    obtain ⟨a, dd, fs, e, n, h1, nd, hd, h2, h3⟩ := h
    obtain ⟨n', u, h', e'⟩ := f a _ n h1
    obtain ⟨nd', u2, hd', e2⟩ := f dd _ nd hd
    exact ⟨a, dd, fs, e, n', by rw [h', strip_XO (e'.trans rfl)], nd', by rw [hd', strip_xd (e2.trans rfl)], h2, RepL.monoL f ds _ h3⟩
theorem RepL.monoL {K : PySem.W.Frag} {m m' : M} {H H' : Hp} (f : FrL m H m' H') : ∀ (ds : List D) (vs : List V), RepL K m H ds vs → RepL K m' H' ds vs
  | [], vs, h => h
  | d :: ds, vs, h => by
    simp only [RepL] at h ⊢
    obtain ⟨v, r, e, h1, h2⟩ := h
    exact ⟨v, r, e, Rep.monoL f d v h1, RepL.monoL f ds r h2⟩
end

theorem Rep.mono {K : PySem.W.Frag} {m m' : M} {H H' : Hp} (f : Fr m H m' H') (d : D) (v : V) (h : Rep K m H d v) : Rep K m' H' d v := Rep.monoL f.l d v h
theorem RepL.mono {K : PySem.W.Frag} {m m' : M} {H H' : Hp} (f : Fr m H m' H') (d : List D) (v : List V) (h : RepL K m H d v) : RepL K m' H' d v := RepL.monoL f.l d v h

section
variable {K : PySem.W.Frag} {m m' : M} {H H' : Hp}
theorem RepL.length : ∀ {ds : List D} {vs : List V}, RepL K m H ds vs → ds.length = vs.length
  | [], vs, h => by simp only [RepL] at h; subst h; rfl
  | d :: ds, vs, h => by
    simp only [RepL] at h
    obtain ⟨v, r, rfl, _, h2⟩ := h
    simp [RepL.length h2]
theorem RepL.nil : RepL K m H [] [] := by simp only [RepL]
theorem RepL.cons {d : D} {ds : List D} {v : V} {vs : List V} (h1 : Rep K m H d v) (h2 : RepL K m H ds vs) : RepL K m H (d :: ds) (v :: vs) := by
  simp only [RepL]; exact ⟨v, vs, rfl, h1, h2⟩
theorem RepL.get : ∀ {ds : List D} {vs : List V} {i : Nat} {d : D}, RepL K m H ds vs → ds[i]? = some d → ∃ v, vs[i]? = some v ∧ Rep K m H d v
  | [], vs, i, d, h, e => by simp at e
  | d0 :: ds, vs, 0, d, h, e => by
    simp only [RepL] at h
    obtain ⟨v, r, rfl, h1, h2⟩ := h
    simp at e; subst e
    exact ⟨v, rfl, h1⟩
  | d0 :: ds, vs, i + 1, d, h, e => by
    simp only [RepL] at h
    obtain ⟨v, r, rfl, h1, h2⟩ := h
    simp at e
    obtain ⟨v', e', h'⟩ := RepL.get h2 e
    exact ⟨v', by simpa using e', h'⟩
theorem RepL.get' : ∀ {ds : List D} {vs : List V} {i : Nat} {v : V}, RepL K m H ds vs → vs[i]? = some v → ∃ d, ds[i]? = some d ∧ Rep K m H d v
  | [], vs, i, v, h, e => by simp only [RepL] at h; subst h; simp at e
  | d0 :: ds, vs, 0, v, h, e => by
    simp only [RepL] at h
    obtain ⟨v0, r, rfl, h1, h2⟩ := h
    simp at e; subst e
    exact ⟨d0, rfl, h1⟩
  | d0 :: ds, vs, i + 1, v, h, e => by
    simp only [RepL] at h
    obtain ⟨v0, r, rfl, h1, h2⟩ := h
    simp at e
    obtain ⟨v', e', h'⟩ := RepL.get' h2 e
    exact ⟨v', by simpa using e', h'⟩
theorem RepL.append : ∀ {ds es : List D} {vs ws : List V}, RepL K m H ds vs → RepL K m H es ws → RepL K m H (ds ++ es) (vs ++ ws)
  | [], es, vs, ws, h, g => by simp only [RepL] at h; subst h; exact g
  | d :: ds, es, vs, ws, h, g => by
    simp only [RepL] at h
    obtain ⟨v, r, rfl, h1, h2⟩ := h
    exact .cons h1 (RepL.append h2 g)
theorem RepL.take : ∀ {ds : List D} {vs : List V} (n : Nat), RepL K m H ds vs → RepL K m H (ds.take n) (vs.take n)
  | ds, vs, 0, h => by simp [RepL]
  | [], vs, n + 1, h => by simp only [RepL] at h; subst h; simp [RepL]
  | d :: ds, vs, n + 1, h => by
    simp only [RepL] at h
    obtain ⟨v, r, rfl, h1, h2⟩ := h
    exact .cons h1 (RepL.take n h2)
theorem RepL.drop : ∀ {ds : List D} {vs : List V} (n : Nat), RepL K m H ds vs → RepL K m H (ds.drop n) (vs.drop n)
  | ds, vs, 0, h => h
  | [], vs, n + 1, h => by simp only [RepL] at h; subst h; simp [RepL]
  | d :: ds, vs, n + 1, h => by
    simp only [RepL] at h
    obtain ⟨v, r, rfl, h1, h2⟩ := h
    exact RepL.drop n h2
theorem RepL.set : ∀ {ds : List D} {vs : List V} (i : Nat) {d : D} {v : V}, RepL K m H ds vs → Rep K m H d v → RepL K m H (ds.set i d) (vs.set i v)
  | [], vs, i, d, v, h, g => by simp only [RepL] at h; subst h; simp [RepL]
  | d0 :: ds, vs, 0, d, v, h, g => by
    simp only [RepL] at h
    obtain ⟨v0, r, rfl, h1, h2⟩ := h
    exact .cons g h2
  | d0 :: ds, vs, i + 1, d, v, h, g => by
    simp only [RepL] at h
    obtain ⟨v0, r, rfl, h1, h2⟩ := h
    exact .cons h1 (RepL.set i h2 g)
theorem RepL.reverse {ds : List D} {vs : List V} (h : RepL K m H ds vs) : RepL K m H ds.reverse vs.reverse := by
  induction ds generalizing vs with
  | nil => simp only [RepL] at h; subst h; simp [RepL]
  | cons d ds ih =>
    simp only [RepL] at h
    obtain ⟨v, r, rfl, h1, h2⟩ := h
    rw [List.reverse_cons, List.reverse_cons]
    exact RepL.append (ih h2) (.cons h1 .nil)
theorem RepL.snoc {ds : List D} {vs : List V} {d : D} {v : V} (h : RepL K m H ds vs) (g : Rep K m H d v) : RepL K m H (ds ++ [d]) (vs ++ [v]) := h.append (.cons g .nil)
theorem RepL.map_int : ∀ (ns : List Int), RepL K m H (ns.map D.int) (ns.map V.int)
  | [] => by simp [RepL]
  | n :: ns => .cons (by simp only [Rep]) (RepL.map_int ns)
theorem RepL.map_str : ∀ (ns : List Str), RepL K m H (ns.map D.str) (ns.map V.str)
  | [] => by simp [RepL]
  | n :: ns => .cons (by simp only [Rep]) (RepL.map_str ns)

theorem MRep.monoL {a : Addr} {d : D} (f : FrL m H m' H') (h : MRep K m H a d) (k : ∀ u, H a = some u → H' a = some u) : MRep K m' H' a d := by
  cases d with
  | lst ds =>
    obtain ⟨vs, h1, h2⟩ := h
    exact ⟨vs, k _ h1, RepL.monoL f _ _ h2⟩
  | dic ks ds =>
    obtain ⟨kvs, h1, h2, h3⟩ := h
    exact ⟨kvs, k _ h1, h2, RepL.monoL f _ _ h3⟩
  | ins C ns ds =>
    obtain ⟨dx, fs, h1, h2, h3⟩ := h
    exact ⟨dx, fs, k _ h1, h2, RepL.monoL f _ _ h3⟩
  | dky P w ks ds =>
    obtain ⟨xs, ws, h1, h2, h3, h4, h5, h6⟩ := h
    exact ⟨xs, ws, k _ h1, h2, h3, RepL.monoL f _ _ h4, RepL.monoL f _ _ h5, h6⟩
  | tab q =>
    obtain ⟨ps, h1, h2, h3⟩ := h
    refine ⟨ps, k _ h1, h2, fun pos cv hc => ?_⟩
    obtain ⟨c, e, n, hh⟩ := h3 pos cv hc
    obtain ⟨n', u', h', e'⟩ := f c _ n hh
    exact ⟨c, e, n', by rw [h', strip_CodeO (e'.trans rfl)]⟩
  | _ => exact h.elim
theorem MRep.mono {a : Addr} {d : D} (f : Fr m H m' H') (h : MRep K m H a d) (k : ∀ u, H a = some u → H' a = some u) : MRep K m' H' a d := h.monoL f.l k
theorem Sim.monoL (s : Sim K m H) (f : FrL m H m H') (k : ∀ a u, m a ≠ none → H a = some u → H' a = some u) : Sim K m H' := fun a d e => (s a d e).monoL f (k a · (by rw [e]; exact fun z => nomatch z))
theorem Sim.free (s : Sim K m H) {a : Addr} (h : H a = none) : m a = none := by
  cases e : m a with
  | none => rfl
  | some d =>
    have q := s a d e
    cases d with
    | lst ds => obtain ⟨vs, h1, _⟩ := q; rw [h] at h1; cases h1
    | dic ks ds =>
      obtain ⟨kvs, h1, _⟩ := q; rw [h] at h1; cases h1
    | ins C ns ds => obtain ⟨dx, fs, h1, _⟩ := q; rw [h] at h1; cases h1
    | tab n => obtain ⟨ps, h1, _⟩ := q; rw [h] at h1; cases h1
    | dky P w ks ds => obtain ⟨xs, ws, h1, _⟩ := q; rw [h] at h1; cases h1
    | _ => exact q.elim
/-- a new object, laid: the store as it is -/
theorem Fr.laid (s : Sim K m H) {p : Addr} {o : HO} (hp : H p = none) : Fr m H m (upd H p o) := fun a u n h =>
  ⟨n, u, by rw [upd_ne (ne_of_none h hp)]; exact h, .inl rfl⟩
theorem Sim.laid (s : Sim K m H) {p : Addr} {o : HO} (hp : H p = none) : Sim K m (upd H p o) := fun a d e => by
  refine (s a d e).mono (Fr.laid s hp) fun u hu => ?_
  rw [upd_ne (ne_of_none hu hp)]; exact hu
/-- .. as a mutable one -/
theorem Fr.laidM (s : Sim K m H) {p : Addr} {o : HO} {d : D} (hp : H p = none) : Fr m H (updM m p d) (upd H p o) := fun a u n h => by
  have ne := ne_of_none h hp
  exact ⟨by rw [updM_ne ne]; exact n, u, by rw [upd_ne ne]; exact h, .inl rfl⟩
theorem Sim.laidM (s : Sim K m H) {p : Addr} {o : HO} {d : D} (hp : H p = none) (r : MRep K (updM m p d) (upd H p o) p d) : Sim K (updM m p d) (upd H p o) := fun a d' e => by
  by_cases ha : a = p
  · subst ha
    rw [updM_same] at e; cases e; exact r
  · rw [updM_ne ha] at e
    exact (s a d' e).mono (Fr.laidM s hp) fun u hu => by rw [upd_ne ha]; exact hu
/-- a mutable object changed -/
theorem Fr.write {p : Addr} {o : HO} {d d0 : D} (hp : m p = some d0) : Fr m H (updM m p d) (upd H p o) := fun a u n h => by
  have ne : a ≠ p := by rintro rfl; rw [hp] at n; cases n
  exact ⟨by rw [updM_ne ne]; exact n, u, by rw [upd_ne ne]; exact h, .inl rfl⟩
theorem Sim.write (s : Sim K m H) {p : Addr} {o : HO} {d d0 : D} (hp : m p = some d0) (r : MRep K (updM m p d) (upd H p o) p d) : Sim K (updM m p d) (upd H p o) := fun a d' e => by
  by_cases ha : a = p
  · subst ha
    rw [updM_same] at e; cases e; exact r
  · rw [updM_ne ha] at e
    exact (s a d' e).mono (Fr.write hp) fun u hu => by rw [upd_ne ha]; exact hu
/-- a mutable object is from now on a tree -/
theorem Fr.frozen {p : Addr} : Fr m H (delM m p) H := fun a u n h => by
  refine ⟨?_, u, h, .inl rfl⟩
  unfold delM; split
  · rfl
  · exact n
theorem Sim.frozen (s : Sim K m H) {p : Addr} : Sim K (delM m p) H := fun a d e => by
  by_cases ha : a = p
  · subst ha; rw [delM_same] at e; cases e
  · rw [delM_ne ha] at e
    exact (s a d e).mono Fr.frozen fun u hu => hu
theorem rep_frozen (s : Sim K m H) {p : Addr} {d : D} (hp : m p = some d) : Rep K (delM m p) H d (.ref p) := by
  have q := s p d hp
  have q := q.mono (Fr.frozen (p := p)) fun u hu => hu
  cases d with
  | lst ds => obtain ⟨vs, h1, h2⟩ := q; simp only [Rep]; exact ⟨p, vs, rfl, ⟨delM_same, h1⟩, h2⟩
  | dic ks ds => obtain ⟨kvs, h1, h2, h3⟩ := q; simp only [Rep]; exact ⟨p, _, rfl, delM_same, ⟨kvs, .inl h1, h2, rfl⟩, h3⟩
  | ins C ns ds => obtain ⟨dx, fs, h1, h2, h3⟩ := q; simp only [Rep]; exact ⟨p, dx, fs, rfl, delM_same, h1, h2, h3⟩
  | tab n => obtain ⟨ps, h1, _⟩ := q; simp only [Rep]; exact ⟨p, ps, rfl, delM_same, h1⟩
  | dky P w ks ds => obtain ⟨xs, ws, h1, h2⟩ := q; simp only [Rep]; exact ⟨p, xs, ws, rfl, delM_same, h1, h2⟩
  | _ => exact q.elim
end

/-! ### the state and the readings -/
abbrev Env := List (Option D)
structure EnvOk (K : PySem.W.Frag) (m : M) (H : Hp) (σ : L2.St) (env : Env) : Prop where
  len : σ.length = env.length
  get : ∀ (i : Nat) (d : D), env[i]? = some (some d) → ∃ v, σ[i]? = some (some v) ∧ Rep K m H d v
section
variable {K : PySem.W.Frag} {m m' : M} {H H' : Hp} {σ : L2.St} {env : Env}
theorem EnvOk.mono (h : EnvOk K m H σ env) (f : Fr m H m' H') : EnvOk K m' H' σ env :=
  ⟨h.len, fun i d e => let ⟨v, e1, r⟩ := h.get i d e; ⟨v, e1, Rep.mono f d v r⟩⟩
theorem EnvOk.set (h : EnvOk K m H σ env) (i : Nat) {d : D} {v : V} (r : Rep K m H d v) : EnvOk K m H (σ.set i (some v)) (env.set i (some d)) := by
  refine ⟨by simp [h.len], fun j d' e => ?_⟩
  by_cases hj : j = i
  · subst hj
    have hl : j < env.length := by
      rcases Nat.lt_or_ge j env.length with q | q
      · exact q
      · rw [List.getElem?_eq_none (by simpa using q)] at e; cases e
    rw [List.getElem?_set_self hl] at e
    cases e
    exact ⟨v, by rw [List.getElem?_set_self (by rw [h.len]; exact hl)], r⟩
  · rw [List.getElem?_set_ne (Ne.symm hj)] at e
    obtain ⟨v', e1, r'⟩ := h.get j d' e
    exact ⟨v', by rw [List.getElem?_set_ne (Ne.symm hj)]; exact e1, r'⟩
theorem EnvOk.unset (h : EnvOk K m H σ env) (i : Nat) : EnvOk K m H (σ.set i none) (env.set i none) := by
  refine ⟨by simp [h.len], fun j d' e => ?_⟩
  by_cases hj : j = i
  · subst hj
    rcases Nat.lt_or_ge j env.length with q | q
    · rw [List.getElem?_set_self q] at e; cases e
    · rw [List.getElem?_eq_none (by simpa using q)] at e; cases e
  · rw [List.getElem?_set_ne (Ne.symm hj)] at e
    obtain ⟨v', e1, r'⟩ := h.get j d' e
    exact ⟨v', by rw [List.getElem?_set_ne (Ne.symm hj)]; exact e1, r'⟩
def wipeD (env : Env) : List Nat → Env
  | [] => env
  | v :: vs => (wipeD env vs).set v none
theorem EnvOk.wipe (h : EnvOk K m H σ env) : ∀ vs : List Nat, EnvOk K m H (L2.wipe σ vs) (wipeD env vs)
  | [] => h
  | v :: vs => (EnvOk.wipe h vs).unset v
def startD (n : Nat) (ds : List D) : Env := ds.map some ++ List.replicate (n - ds.length) none
theorem EnvOk.start {N : List Str} {ds : List D} {vs : List V} (r : RepL K m H ds vs) : EnvOk K m H (L2.start N vs) (startD N.length ds) := by
  have l := r.length
  unfold L2.start startD
  refine ⟨by simp [l], fun i d e => ?_⟩
  by_cases hi : i < ds.length
  · rw [List.getElem?_append_left (by simpa using hi), List.getElem?_map] at e
    cases q : ds[i]? with
    | none => rw [q] at e; cases e
    | some d' =>
      rw [q] at e; cases e
      obtain ⟨v, e1, r1⟩ := r.get q
      exact ⟨v, by rw [List.getElem?_append_left (by simp; omega), List.getElem?_map, e1]; rfl, r1⟩
  · rw [List.getElem?_append_right (by simpa using hi), List.getElem?_replicate] at e
    split at e <;> cases e
end

abbrev DK := D → M → Prop
abbrev DTE := Env → M → DK → Prop
abbrev DTT := Env → M → (Bool → M → Prop) → Prop
abbrev DTA := Env → M → (List D → M → Prop) → Prop
structure DEnds where
  nx : Env → M → Prop
  rt : DK
  bk : Env → M → Prop := fun _ _ => False
  ct : Env → M → Prop := fun _ _ => False
  /-- what is raised: its class, its fields -/
  ex : Addr → List Str → List D → Env → M → Prop := fun _ _ _ _ _ => False
abbrev DTS := Env → M → DEnds → Prop
abbrev DTG := D → Env → M → (Env → M → Prop) → Prop
/-- what a def promises -/
abbrev DSp := List D → M → DK → Prop

def liftE (K : PySem.W.Frag) (t : DTE) : TE := fun σ H Q => ∃ env m R, EnvOk K m H σ env ∧ Sim K m H ∧ t env m R ∧
  ∀ d m' v H', R d m' → Fr m H m' H' → Sim K m' H' → Rep K m' H' d v → Q v H'
def liftT (K : PySem.W.Frag) (t : DTT) : TT := fun σ H Q => ∃ env m R, EnvOk K m H σ env ∧ Sim K m H ∧ t env m R ∧
  ∀ b m' H', R b m' → Fr m H m' H' → Sim K m' H' → Q b H'
def liftA (K : PySem.W.Frag) (t : DTA) : TA := fun σ H Q => ∃ env m R, EnvOk K m H σ env ∧ Sim K m H ∧ t env m R ∧
  ∀ ds m' vs H', R ds m' → Fr m H m' H' → Sim K m' H' → RepL K m' H' ds vs → Q vs H'
def liftS (K : PySem.W.Frag) (t : DTS) : TS := fun D σ H => ∃ env m E, EnvOk K m H σ env ∧ Sim K m H ∧ t env m E ∧
  (∀ env' m' σ' H', E.nx env' m' → EnvOk K m' H' σ' env' → Sim K m' H' → Fr m H m' H' → D.nx σ' H') ∧
  (∀ d m' v H', E.rt d m' → Fr m H m' H' → Sim K m' H' → Rep K m' H' d v → D.rt v H') ∧
  (∀ env' m' σ' H', E.bk env' m' → EnvOk K m' H' σ' env' → Sim K m' H' → Fr m H m' H' → D.bk σ' H') ∧
  (∀ env' m' σ' H', E.ct env' m' → EnvOk K m' H' σ' env' → Sim K m' H' → Fr m H m' H' → D.ct σ' H')
def liftG (K : PySem.W.Frag) (t : DTG) : TG := fun v σ H Q => ∃ d env m R, Rep K m H d v ∧ EnvOk K m H σ env ∧ Sim K m H ∧ t d env m R ∧
  ∀ env' m' σ' H', R env' m' → EnvOk K m' H' σ' env' → Sim K m' H' → Fr m H m' H' → Q σ' H'
def liftSp (K : PySem.W.Frag) (sp : DSp) : Sp := fun vs H Q _ => ∃ ds m R, RepL K m H ds vs ∧ Sim K m H ∧ sp ds m R ∧
  ∀ d m' v H', R d m' → Fr m H m' H' → Sim K m' H' → Rep K m' H' d v → Q v H'

structure DE (X : Cx) (e : Expr) (t : DTE) : Prop where run : PE X e (liftE X.K t)
structure DT (X : Cx) (e : Expr) (t : DTT) : Prop where run : PT X e (liftT X.K t)
structure DA (X : Cx) (es : List Expr) (t : DTA) : Prop where run : PA X es (liftA X.K t)
structure DS (X : Cx) (st : Stmt) (t : DTS) : Prop where run : PS X st (liftS X.K t)
structure DSs (X : Cx) (st : List Stmt) (t : DTS) : Prop where run : PSs X st (liftS X.K t)
structure DG (X : Cx) (e : Expr) (t : DTG) : Prop where run : PG X e (liftG X.K t)

theorem PE.weak {X : Cx} {e : Expr} {t t' : TE} (h : PE X e t) (k : ∀ σ H Q, t' σ H Q → t σ H Q) : PE X e t' := ⟨fun pins s σ H Q I q => h.run pins s σ H Q I (k σ H Q q)⟩
theorem PT.weak {X : Cx} {e : Expr} {t t' : TT} (h : PT X e t) (k : ∀ σ H Q, t' σ H Q → t σ H Q) : PT X e t' := ⟨fun pins s σ H Q I q => h.run pins s σ H Q I (k σ H Q q)⟩
theorem PA.weak {X : Cx} {e : List Expr} {t t' : TA} (h : PA X e t) (k : ∀ σ H Q, t' σ H Q → t σ H Q) : PA X e t' := ⟨fun pos pins s σ H Q I q => h.run pos pins s σ H Q I (k σ H Q q)⟩
theorem PS.weak {X : Cx} {e : Stmt} {t t' : TS} (h : PS X e t) (k : ∀ D σ H, t' D σ H → t D σ H) : PS X e t' := ⟨fun pins s σ H D I q => h.run pins s σ H D I (k D σ H q)⟩
theorem PSs.weak {X : Cx} {e : List Stmt} {t t' : TS} (h : PSs X e t) (k : ∀ D σ H, t' D σ H → t D σ H) : PSs X e t' := ⟨fun pins s σ H D I q => h.run pins s σ H D I (k D σ H q)⟩
theorem PG.weak {X : Cx} {e : Expr} {t t' : TG} (h : PG X e t) (k : ∀ v σ H Q, t' v σ H Q → t v σ H Q) : PG X e t' := ⟨fun pins s σ H v u Q I r q => h.run pins s σ H v u Q I r (k v σ H Q q)⟩
end DL
/-! ### DL2: rules of expressions over trees -/
namespace DL
open PySem PySem.Spec PyProof.Rows L2

def look (m : M) : D → D
  | .ref p => (m p).getD (.ref p)
  | d => d
/-- the content of a value -/
def Cont (K : PySem.W.Frag) (m : M) (H : Hp) : D → V → Prop
  | .lst ds, v => ∃ a vs, v = .ref a ∧ H a = some (.lst vs) ∧ RepL K m H ds vs
  | .dic ks ds, v => ∃ a vs, v = .ref a ∧ DicAt H a ks vs ∧ RepL K m H ds vs
  | .ins C ns ds, v => ∃ a dx fs, v = .ref a ∧ H a = some (.ins C dx fs) ∧ fs.map (·.1) = ns ∧ RepL K m H ds (fs.map (·.2))
  | .tab _, v => ∃ a, v = .ref a
  | .dky P w ks ds, v => ∃ (a : Addr) (xs : List KEnt) (ws : List V), v = .ref a ∧ H a = some (KdO P w a xs) ∧ xs.map (·.1) = ks.map keyD ∧ ks.all tupKey = true ∧ RepL K m H ks (xs.map fun x => .ref x.2.1) ∧ RepL K m H ds ws ∧ Vals ws (xs.map (·.2.2))
  | d, v => Rep K m H d v
section
variable {K : PySem.W.Frag} {m m' : M} {H H' : Hp}
theorem cont_of (s : Sim K m H) {x : D} {v : V} (r : Rep K m H x v) : Cont K m H (look m x) v := by
  cases x with
  | ref p =>
    simp only [Rep] at r
    subst r
    cases e : m p with
    | none => simp only [look, e, Option.getD_none, Cont, Rep]
    | some d =>
      simp only [look, e, Option.getD_some]
      have q := s p d e
      cases d with
      | lst ds => obtain ⟨vs, h1, h2⟩ := q; exact ⟨p, vs, rfl, h1, h2⟩
      | dic ks ds => obtain ⟨kvs, h1, h2, h3⟩ := q; exact ⟨p, _, rfl, ⟨kvs, .inl h1, h2, rfl⟩, h3⟩
      | ins C ns ds => obtain ⟨dx, fs, h1, h2, h3⟩ := q; exact ⟨p, dx, fs, rfl, h1, h2, h3⟩
      | tab n => exact ⟨p, rfl⟩
      | dky P w ks ds => obtain ⟨xs, ws, h1, h2⟩ := q; exact ⟨p, xs, ws, rfl, h1, h2⟩
      | _ => exact q.elim
  | lst ds => simp only [Rep] at r; obtain ⟨a, vs, e, h1, h2⟩ := r; exact ⟨a, vs, e, h1.2, h2⟩
  | dic ks ds => simp only [Rep] at r; obtain ⟨a, vs, e, h0, h1, h2⟩ := r; exact ⟨a, vs, e, h1, h2⟩
  | ins C ns ds => simp only [Rep] at r; obtain ⟨a, dx, fs, e, h0, h1, h2, h3⟩ := r; exact ⟨a, dx, fs, e, h1, h2, h3⟩
  | tup ds => exact r
  | tab n => simp only [Rep] at r; obtain ⟨a, ps, e, _⟩ := r; exact ⟨a, e⟩
  | dky P w ks ds => simp only [Rep] at r; obtain ⟨a, xs, ws, e, _, h⟩ := r; exact ⟨a, xs, ws, e, h⟩
  | _ => exact r
theorem cont_int {i : Int} {v : V} (c : Cont K m H (.int i) v) : v = .int i := by simpa only [Cont, Rep] using c
theorem cont_bl {i : Bool} {v : V} (c : Cont K m H (.bl i) v) : v = .bl i := by simpa only [Cont, Rep] using c
theorem cont_str {i : Str} {v : V} (c : Cont K m H (.str i) v) : v = .str i := by simpa only [Cont, Rep] using c
theorem cont_non {v : V} (c : Cont K m H .non v) : v = .non := by simpa only [Cont, Rep] using c
theorem tupAt_sq {a : Addr} {vs : List V} (h : TupAt K m H a vs) : SqT K H a vs := by
  rcases h with ⟨_, h⟩ | h
  · exact .inl (.inl h)
  · exact .inr h
theorem cont_tup {ds : List D} {v : V} (c : Cont K m H (.tup ds) v) : ∃ a vs, v = .ref a ∧ TupAt K m H a vs ∧ RepL K m H ds vs := by simpa only [Cont, Rep] using c
theorem cont_lst {ds : List D} {v : V} (c : Cont K m H (.lst ds) v) : ∃ a vs, v = .ref a ∧ H a = some (.lst vs) ∧ RepL K m H ds vs := c
theorem cont_dic {ks ds : List D} {v : V} (c : Cont K m H (.dic ks ds) v) : ∃ a vs, v = .ref a ∧ DicAt H a ks vs ∧ RepL K m H ds vs := c
theorem cont_scr {ns : List Int} {v : V} (c : Cont K m H (.scr ns) v) : ∃ a, v = .ref a ∧ SqL K H a (ns.map V.int) := by
  simp only [Cont, Rep] at c
  obtain ⟨a, e, h⟩ := c
  exact ⟨a, e, h.sq⟩

theorem rep_int {i : Int} : Rep K m H (.int i) (.int i) := by simp only [Rep]
theorem rep_bl {i : Bool} : Rep K m H (.bl i) (.bl i) := by simp only [Rep]
theorem rep_str {i : Str} : Rep K m H (.str i) (.str i) := by simp only [Rep]
theorem rep_non : Rep K m H .non .non := by simp only [Rep]
theorem rep_ref {a : Addr} : Rep K m H (.ref a) (.ref a) := by simp only [Rep]
theorem rep_ty {a : String} : Rep K m H (.ty a) (.ty a) := by simp only [Rep]
/-- new ones -/
theorem new_tup (s : Sim K m H) {p : Addr} {ds : List D} {vs : List V} (hp : H p = none) (r : RepL K m H ds vs) : Rep K m (upd H p (.tup vs)) (.tup ds) (.ref p) := by
  simp only [Rep]; exact ⟨p, vs, rfl, .inl ⟨s.free hp, upd_same⟩, RepL.mono (Fr.laid s hp) _ _ r⟩
theorem new_lst (s : Sim K m H) {p : Addr} {ds : List D} {vs : List V} (hp : H p = none) (r : RepL K m H ds vs) : Rep K m (upd H p (.lst vs)) (.lst ds) (.ref p) := by
  simp only [Rep]; exact ⟨p, vs, rfl, ⟨s.free hp, upd_same⟩, RepL.mono (Fr.laid s hp) _ _ r⟩
theorem new_lstM (s : Sim K m H) {p : Addr} {ds : List D} {vs : List V} (hp : H p = none) (r : RepL K m H ds vs) : Sim K (updM m p (.lst ds)) (upd H p (.lst vs)) :=
  Sim.laidM s hp ⟨vs, upd_same, RepL.mono (Fr.laidM s hp) _ _ r⟩
end

/-! ### names, constants -/
def tV (i : Nat) : DTE := fun env m Q => ∃ d, env[i]? = some (some d) ∧ Q d m
def tK (d : D) : DTE := fun _ m Q => Q d m
section
variable {X : Cx} {e a b : Expr} {ta tb : DTE} {pos : Pos}
theorem dv (i : Nat) {x : Str} {pos : Pos} (hN : X.N[i]? = some x := by rfl) (hv : Vis X.env.scope x := by first | exact Or.inl rfl | exact Or.inr (Or.inl rfl) | exact Or.inr (Or.inr rfl)) (hd : (x == ("__debug__" : Str)) = false := by decide)
    (hcd : (x == ("__classdict__" : Str)) = false := by decide) : DE X (.Name x pos) (tV i) := ⟨PE.weak (pe_var hN hv hd hcd) fun σ H Q h => by
  obtain ⟨env, m, R, eo, s, ⟨d, e, r⟩, k⟩ := h
  obtain ⟨v, e1, rp⟩ := eo.get i d e
  exact ⟨v, e1, k d m v H r Fr.refl s rp⟩⟩
theorem de_c {d : D} {v : V} (h : PE X e (tC v)) (r : ∀ m H, Rep X.K m H d v) : DE X e (tK d) := ⟨PE.weak h fun σ H Q h => by
  obtain ⟨env, m, R, eo, s, r', k⟩ := h
  exact k d m v H r' Fr.refl s (r m H)⟩
theorem de_int {i : Int} {j pos} : DE X (.Constant (.int i) j pos) (tK (.int i)) := de_c pe_int fun _ _ => rep_int
theorem de_bl {b j pos} : DE X (.Constant (.bool b) j pos) (tK (.bl b)) := de_c pe_bl fun _ _ => rep_bl
theorem de_non {j pos} : DE X (.Constant .none j pos) (tK .non) := de_c pe_non fun _ _ => rep_non
theorem de_str {x j pos} : DE X (.Constant (.str x) j pos) (tK (.str x)) := de_c pe_str fun _ _ => rep_str
theorem de_glob {x : Str} {d : D} {v : V} {u : Value} {pos : Pos} (hm : X.mg x = some u) (r : RelV v u) (rd : ∀ m H, Rep X.K m H d v) (hg : Gl X x := by rfl) (hd : (x == ("__debug__" : Str)) = false := by decide) : DE X (.Name x pos) (tK d) :=
  de_c (pe_glob hg hm r hd) rd

/-! ### operators by values -/
def liftOp (K : PySem.W.Frag) (f : M → D → D → Option D) : R2 := fun v u H Q => ∃ x y m d, Rep K m H x v ∧ Rep K m H y u ∧ Sim K m H ∧ f m x y = some d ∧
  ∀ w H', Fr m H m H' → Sim K m H' → Rep K m H' d w → Q w H'
theorem opW {g : Value → Value → Sem Value} {r r' : R2} (h : OpR X g r) (k : ∀ x y H Q, r' x y H Q → r x y H Q) : OpR X g r' := fun pins s σ H x y v u Q I rx ry q => h pins s σ H x y v u Q I rx ry (k _ _ _ _ q)
def DOp (X : Cx) (g : Value → Value → Sem Value) (f : M → D → D → Option D) : Prop := OpR X g (liftOp X.K f)
def tBin (f : M → D → D → Option D) (ta tb : DTE) : DTE := fun env m Q => ta env m fun x m1 => tb env m1 fun y m2 => ∃ d, f m2 x y = some d ∧ Q d m2
def tBinT (f : M → D → D → Option D) (ta tb : DTE) : DTT := fun env m Q => ta env m fun x m1 => tb env m1 fun y m2 => ∃ b, f m2 x y = some (.bl b) ∧ Q b m2
theorem bin_lift {f : M → D → D → Option D} {σ : L2.St} {H : Hp} {Q : VK} (h : liftE X.K (tBin f ta tb) σ H Q) : tOp (liftOp X.K f) (liftE X.K ta) (liftE X.K tb) σ H Q := by
  obtain ⟨env, m, R, eo, s, h, k⟩ := h
  refine ⟨env, m, _, eo, s, h, fun x m1 v H1 h1 f1 s1 r1 => ?_⟩
  refine ⟨env, m1, _, eo.mono f1, s1, h1, fun y m2 u H2 h2 f2 s2 r2 => ?_⟩
  obtain ⟨d, e, h2⟩ := h2
  exact ⟨x, y, m2, d, Rep.mono f2 _ _ r1, r2, s2, e, fun w H' f3 s3 r3 => k d m2 w H' h2 ((f1.trans f2).trans f3) s3 r3⟩
theorem de_op {op : Operator} {f : M → D → D → Option D} (ho : DOp X (binaryOp op) f) (ha : DE X a ta) (hb : DE X b tb) : DE X (.BinOp a op b pos) (tBin f ta tb) :=
  ⟨PE.weak (pe_op ho ha.run hb.run) fun _ _ _ h => bin_lift h⟩
theorem de_cmp {op : CmpOp} {f : M → D → D → Option D} (ho : DOp X (compareOp op) f) (ha : DE X a ta) (hb : DE X b tb) (hm : behindInMarks op b = false := by first | exact nomark _ | rfl) : DE X (.Compare a [op] [b] pos) (tBin f ta tb) :=
  ⟨PE.weak (pe_cmpR ho ha.run hb.run hm) fun _ _ _ h => bin_lift h⟩
theorem dt_cmp {op : CmpOp} {f : M → D → D → Option D} (ho : DOp X (compareOp op) f) (ha : DE X a ta) (hb : DE X b tb) (hm : behindInMarks op b = false := by first | exact nomark _ | rfl) : DT X (.Compare a [op] [b] pos) (tBinT f ta tb) :=
  ⟨PT.weak (pt_cmpR ho ha.run hb.run hm) fun σ H Q h => by
    obtain ⟨env, m, R, eo, s, h, k⟩ := h
    refine ⟨env, m, _, eo, s, h, fun x m1 v H1 h1 f1 s1 r1 => ?_⟩
    refine ⟨env, m1, _, eo.mono f1, s1, h1, fun y m2 u H2 h2 f2 s2 r2 => ?_⟩
    obtain ⟨b, e, h2⟩ := h2
    refine ⟨x, y, m2, .bl b, Rep.mono f2 _ _ r1, r2, s2, e, fun w H' f3 s3 r3 => ⟨b, ?_, k b m2 H' h2 ((f1.trans f2).trans f3) s3⟩⟩
    simpa only [Rep] using r3⟩
/-- a < b < c -/
def tChainT (f g : M → D → D → Option D) (ta tb tc : DTE) : DTT := fun env m Q => ta env m fun x m1 => tb env m1 fun y m2 => ∃ b, f m2 x y = some (.bl b) ∧
  if b = true then tc env m2 fun z m3 => ∃ c, g m3 y z = some (.bl c) ∧ Q c m3 else Q false m2
theorem dt_chain {op op' : CmpOp} {f g : M → D → D → Option D} {c : Expr} {tc : DTE} (ho : DOp X (compareOp op) f) (ho' : DOp X (compareOp op') g) (ha : DE X a ta) (hb : DE X b tb) (hc : DE X c tc)
    (hm : lastMarks [op, op'] [b, c] = false := by with_unfolding_all rfl) :
    DT X (.Compare a [op, op'] [b, c] pos) (tChainT f g ta tb tc) :=
  ⟨PT.weak (pt_chain ho ho' ha.run hb.run hc.run hm) fun σ H Q h => by
    obtain ⟨env, m, R, eo, s, h, k⟩ := h
    refine ⟨env, m, _, eo, s, h, fun x m1 v H1 h1 f1 s1 r1 => ?_⟩
    refine ⟨env, m1, _, eo.mono f1, s1, h1, fun y m2 u H2 h2 f2 s2 r2 => ?_⟩
    obtain ⟨b, e, h2⟩ := h2
    refine ⟨x, y, m2, .bl b, Rep.mono f2 _ _ r1, r2, s2, e, fun w H' f3 s3 r3 => ?_⟩
    have e3 : w = .bl b := by simpa only [Rep] using r3
    subst e3
    refine ⟨b, rfl, ?_⟩
    have f13 := (f1.trans f2).trans f3
    cases b with
    | false =>
      simp only [Bool.false_eq_true, if_false] at h2 ⊢
      exact ⟨false, rfl, k false m2 H' h2 f13 s3⟩
    | true =>
      simp only [if_true] at h2 ⊢
      refine ⟨env, m2, _, eo.mono f13, s3, h2, fun z m4 u4 H4 h4 f4 s4 r4 => ?_⟩
      obtain ⟨c, e4, h4⟩ := h4
      refine ⟨y, z, m4, .bl c, Rep.mono (f3.trans f4) _ _ r2, r4, s4, e4, fun w5 H5 f5 s5 r5 => ⟨c, ?_, k c m4 H5 h4 ((f13.trans f4).trans f5) s5⟩⟩
      simpa only [Rep] using r5⟩
theorem DOp.of {g : Value → Value → Sem Value} {f : M → D → D → Option D} {r : R2} (h : OpR X g r)
    (k : ∀ x y m d v u H Q, Cont X.K m H (look m x) v → Cont X.K m H (look m y) u → Rep X.K m H x v → Rep X.K m H y u → Sim X.K m H → f m x y = some d → (∀ w H', Fr m H m H' → Sim X.K m H' → Rep X.K m H' d w → Q w H') → r v u H Q) : DOp X g f :=
  opW h fun v u H Q ⟨x, y, m, d, rx, ry, s, e, q⟩ => k x y m d v u H Q (cont_of s rx) (cont_of s ry) rx ry s e q

/-! ### + - * // % ** -/
def dAdd (m : M) (x y : D) : Option D := match look m x, look m y with
  | .int i, .int j => some (.int (i + j))
  | .str i, .str j => if i.length + j.length ≤ sizeLine then some (.str (i ++ j)) else none
  | .lst i, .lst j => if i.length + j.length ≤ sizeLine then some (.lst (i ++ j)) else none
  | .tup i, .tup j => if i.length + j.length ≤ sizeLine then some (.tup (i ++ j)) else none
  | _, _ => none
theorem do_add : DOp X (binaryOp .Add) dAdd := by
  refine DOp.of (op_add.or (op_add_str.or (op_cat.or op_catA))) fun x y m d v u H Q cx cy rx ry s e q => ?_
  unfold dAdd at e
  generalize look m x = cX at cx e
  generalize look m y = cY at cy e
  split at e
  · cases e
    rw [cont_int cx, cont_int cy]
    exact .inl ⟨_, _, rfl, rfl, q _ _ Fr.refl s rep_int⟩
  · split at e
    · rename_i hl; cases e
      rw [cont_str cx, cont_str cy]
      exact .inr (.inl ⟨_, _, rfl, rfl, hl, q _ _ Fr.refl s rep_str⟩)
    · cases e
  · split at e
    · rename_i hl; cases e
      obtain ⟨a, vs, rfl, ha, r1⟩ := cont_lst cx
      obtain ⟨b, us, rfl, hb, r2⟩ := cont_lst cy
      exact .inr (.inr (.inl ⟨a, b, vs, us, rfl, rfl, ha, hb, by rw [← r1.length, ← r2.length]; exact hl, fun p hp => q _ _ (Fr.laid s hp) (s.laid hp) (new_lst s hp (r1.append r2))⟩))
    · cases e
  · split at e
    · rename_i hl; cases e
      obtain ⟨a, vs, rfl, ha, r1⟩ := cont_tup cx
      obtain ⟨b, us, rfl, hb, r2⟩ := cont_tup cy
      refine .inr (.inr (.inr ⟨a, b, vs, us, rfl, rfl, tupAt_sq ha, tupAt_sq hb, by rw [← r1.length, ← r2.length]; exact hl, fun hv => ?_, fun hv hu => ?_, fun hv hu p hp => q _ _ (Fr.laid s hp) (s.laid hp) (new_tup s hp (r1.append r2))⟩))
      · subst hv
        have z := r1.length
        rw [List.length_nil, List.length_eq_zero_iff] at z
        subst z
        exact q _ _ Fr.refl s (by simp only [List.nil_append, Rep]; exact ⟨b, us, rfl, hb, r2⟩)
      · subst hu
        have z := r2.length
        rw [List.length_nil, List.length_eq_zero_iff] at z
        subst z
        exact q _ _ Fr.refl s (by simp only [List.append_nil, Rep]; exact ⟨a, vs, rfl, ha, r1⟩)
    · cases e
  · cases e
def d2I (f : Int → Int → Option D) (m : M) (x y : D) : Option D := match look m x, look m y with
  | .int i, .int j => f i j
  | _, _ => none
theorem do_2I {g : Value → Value → Sem Value} {f : Int → Int → Option D} {C : Int → Int → Prop} {h : Int → Int → V} (ho : OpR X g (rI C h)) (k : ∀ i j d, f i j = some d → C i j ∧ ∀ m H, Rep X.K m H d (h i j)) : DOp X g (d2I f) := by
  refine DOp.of ho fun x y m d v u H Q cx cy rx ry s e q => ?_
  unfold d2I at e
  generalize look m x = cX at cx e
  generalize look m y = cY at cy e
  split at e
  · obtain ⟨c, r⟩ := k _ _ _ e
    rw [cont_int cx, cont_int cy]
    exact ⟨_, _, rfl, rfl, c, q _ _ Fr.refl s (r m H)⟩
  · cases e
theorem do_2I0 {g : Value → Value → Sem Value} {f : Int → Int → Option D} {h : Int → Int → V} (ho : OpR X g (rI0 h)) (k : ∀ i j d, f i j = some d → ∀ m H, Rep X.K m H d (h i j)) : DOp X g (d2I f) := by
  refine DOp.of ho fun x y m d v u H Q cx cy rx ry s e q => ?_
  unfold d2I at e
  generalize look m x = cX at cx e
  generalize look m y = cY at cy e
  split at e
  · rw [cont_int cx, cont_int cy]
    exact ⟨_, _, rfl, rfl, q _ _ Fr.refl s (k _ _ _ e m H)⟩
  · cases e
abbrev dSub := d2I fun i j => some (.int (i - j))
theorem do_sub : DOp X (binaryOp .Sub) dSub := do_2I0 op_sub fun i j d e m H => by cases e; exact rep_int
abbrev dMod := d2I fun i j => if 0 < j then some (.int (i % j)) else none
theorem do_mod : DOp X (binaryOp .Mod) dMod := do_2I op_mod fun i j d e => by
  split at e
  · cases e; exact ⟨by assumption, fun _ _ => rep_int⟩
  · cases e
abbrev dDiv := d2I fun i j => if 0 < j ∧ j < 1073741824 then some (.int (i / j)) else none
theorem do_div : DOp X (binaryOp .FloorDiv) dDiv := do_2I op_fdiv fun i j d e => by
  split at e
  · cases e; exact ⟨by assumption, fun _ _ => rep_int⟩
  · cases e
abbrev dPow := d2I fun i j => if 0 ≤ j ∧ j ≤ 1000000 ∧ i.natAbs < 2 ^ 64 then some (.int (i ^ j.toNat)) else none
theorem do_pow : DOp X (binaryOp .Pow) dPow := do_2I op_pow fun i j d e => by
  split at e
  · cases e; exact ⟨by assumption, fun _ _ => rep_int⟩
  · cases e
abbrev dShl := d2I fun i j => if 0 ≤ j ∧ j ≤ 1000000 ∧ i.natAbs < 2 ^ 64 then some (.int (i * 2 ^ j.toNat)) else none
theorem do_shl : DOp X (binaryOp .LShift) dShl := do_2I op_shl fun i j d e => by
  split at e
  · cases e; exact ⟨by assumption, fun _ _ => rep_int⟩
  · cases e
abbrev dShr := d2I fun i j => if 0 ≤ j then some (.int (i / 2 ^ j.toNat)) else none
theorem do_shr : DOp X (binaryOp .RShift) dShr := do_2I op_shr fun i j d e => by
  split at e
  · cases e; exact ⟨by assumption, fun _ _ => rep_int⟩
  · cases e
abbrev dAnd := d2I fun i j => some (.int (Builtin.bitAnd i j))
theorem do_and : DOp X (binaryOp .BitAnd) dAnd := do_2I0 op_and fun i j d e m H => by cases e; exact rep_int
abbrev dOr := d2I fun i j => some (.int (Builtin.bitOr i j))
theorem do_or : DOp X (binaryOp .BitOr) dOr := do_2I0 op_or fun i j d e m H => by cases e; exact rep_int
abbrev dXor := d2I fun i j => some (.int (Builtin.bitXor i j))
theorem do_xor : DOp X (binaryOp .BitXor) dXor := do_2I0 op_xor fun i j d e m H => by cases e; exact rep_int
end
end DL
/-! ### DL3: equality, membership, items, slices, conversions -/
namespace DL
open PySem PySem.Spec PyProof.Rows L2

mutual
def toPd : D → PyData
  | .non => .none
  | .bl b => .bool b
  | .int i => .int i
  | .str x => .str x
  | .tup xs => .tuple (toPdL xs)
  | .lst xs => .list (toPdL xs)
  | .dic _ _ => .none
  | .ins _ _ _ => .none
  | .ref _ => .none
  | .ty _ => .none
  | .scr _ => .none
  | .exc _ _ _ => .none
  | .tab _ => .none
  | .dky _ _ _ _ => .none
  | .clo _ _ _ _ _ => .none
def toPdL : List D → List PyData
  | [] => []
  | d :: ds => toPd d :: toPdL ds
end
mutual
/-- data of at most this depth -/
def dat : Nat → D → Bool
  | _, .non => true
  | _, .bl _ => true
  | _, .int _ => true
  | _, .str x => PySem.PyData.strOk x
  | n + 1, .tup xs => datL n xs
  | n + 1, .lst xs => datL n xs
  | _, _ => false
def datL : Nat → List D → Bool
  | _, [] => true
  | n, d :: ds => dat n d && datL n ds
end
theorem toPdL_map (xs : List D) : toPdL xs = xs.map toPd := by
  induction xs with
  | nil => rfl
  | cons d ds ih => rw [List.map_cons, ← ih]; rfl
theorem datL_all (n : Nat) (xs : List D) : datL n xs = xs.all (dat n) := by
  induction xs with
  | nil => rfl
  | cons d ds ih => rw [List.all_cons, ← ih]; rfl
mutual
theorem dat_lay : ∀ (n : Nat) (d : D), dat n d = true → (toPd d).canLay0 = true ∧ (toPd d).depth ≤ n
  | n, .non, h => by simp [toPd, PyData.canLay0, PyData.depth]
  | n, .bl _, h => by simp [toPd, PyData.canLay0, PyData.depth]
  | n, .int _, h => by simp [toPd, PyData.canLay0, PyData.depth]
  | n, .str _, h => by simp only [dat] at h; simp [toPd, PyData.canLay0, PyData.depth, h]
  | n + 1, .tup xs, h => by
    simp only [dat] at h
    obtain ⟨h1, h2⟩ := dat_layL n xs h
    simp only [toPd, PyData.canLay0, PyData.depth]
    exact ⟨h1, by omega⟩
  | n + 1, .lst xs, h => by
    simp only [dat] at h
    obtain ⟨h1, h2⟩ := dat_layL n xs h
    simp only [toPd, PyData.canLay0, PyData.depth]
    exact ⟨h1, by omega⟩
  | 0, .tup xs, h => by simp only [dat] at h; cases h
  | 0, .lst xs, h => by simp only [dat] at h; cases h
  | n, .dic _ _, h => by cases n <;> simp only [dat] at h <;> cases h
  | n, .ins _ _ _, h => by cases n <;> simp only [dat] at h <;> cases h
  | n, .ref _, h => by cases n <;> simp only [dat] at h <;> cases h
  | n, .ty _, h => by cases n <;> simp only [dat] at h <;> cases h
  | n, .scr _, h => by cases n <;> simp only [dat] at h <;> cases h
  | n, .exc _ _ _, h => by cases n <;> simp only [dat] at h <;> cases h
  | n, .tab _, h => by cases n <;> simp only [dat] at h <;> cases h
  | n, .clo _ _ _ _ _, h => by cases n <;> simp only [dat] at h <;> cases h
  | n, .dky _ _ _ _, h => by cases n <;> simp only [dat] at h <;> cases h
theorem dat_layL : ∀ (n : Nat) (ds : List D), datL n ds = true → PyData.canLayAll0 (toPdL ds) = true ∧ PyData.depthAll (toPdL ds) ≤ n
  | n, [], h => by simp [toPdL, PyData.canLayAll0, PyData.depthAll]
  | n, d :: ds, h => by
    simp only [datL, Bool.and_eq_true] at h
    obtain ⟨h1, h2⟩ := dat_lay n d h.1
    obtain ⟨h3, h4⟩ := dat_layL n ds h.2
    simp only [toPdL, PyData.canLayAll0, PyData.depthAll, Bool.and_eq_true]
    exact ⟨⟨h1, h3⟩, by omega⟩
end
theorem dat_shaped {n : Nat} {d : D} (hn : n ≤ 64) (h : dat n d = true) : SeqAt.shaped (toPd d) = true := by
  obtain ⟨h1, h2⟩ := dat_lay n d h
  unfold SeqAt.shaped
  rw [h1, decide_eq_true (by omega)]; rfl
section
variable {K : PySem.W.Frag} {m : M} {H : Hp}
mutual
theorem rep_dp (s : Sim K m H) : ∀ (n : Nat) (d : D) (v : V), dat n d = true → Rep K m H d v → Dp K H v (toPd d)
  | n, .non, v, _, r => by simp only [Rep] at r; subst r; exact .non
  | n, .bl _, v, _, r => by simp only [Rep] at r; subst r; exact .bl _
  | n, .int _, v, _, r => by simp only [Rep] at r; subst r; exact .int _
  | n, .str _, v, _, r => by simp only [Rep] at r; subst r; exact .str _
  | n + 1, .tup xs, v, h, r => by
    simp only [dat] at h
    simp only [Rep] at r
    obtain ⟨a, vs, rfl, h1, h2⟩ := r
    exact .tup (tupAt_sq h1) (rep_dpL s n xs vs h h2)
  | n + 1, .lst xs, v, h, r => by
    simp only [dat] at h
    simp only [Rep] at r
    obtain ⟨a, vs, rfl, h1, h2⟩ := r
    exact .lst (.of h1.2) (rep_dpL s n xs vs h h2)
  | 0, .tup xs, _, h, _ => by simp only [dat] at h; cases h
  | 0, .lst xs, _, h, _ => by simp only [dat] at h; cases h
  | n, .dic _ _, _, h, _ => by cases n <;> simp only [dat] at h <;> cases h
  | n, .ins _ _ _, _, h, _ => by cases n <;> simp only [dat] at h <;> cases h
  | n, .ref _, _, h, _ => by cases n <;> simp only [dat] at h <;> cases h
  | n, .ty _, _, h, _ => by cases n <;> simp only [dat] at h <;> cases h
  | n, .scr _, _, h, _ => by cases n <;> simp only [dat] at h <;> cases h
  | n, .exc _ _ _, _, h, _ => by cases n <;> simp only [dat] at h <;> cases h
  | n, .tab _, _, h, _ => by cases n <;> simp only [dat] at h <;> cases h
  | n, .clo _ _ _ _ _, _, h, _ => by cases n <;> simp only [dat] at h <;> cases h
  | n, .dky _ _ _ _, _, h, _ => by cases n <;> simp only [dat] at h <;> cases h
theorem rep_dpL (s : Sim K m H) : ∀ (n : Nat) (ds : List D) (vs : List V), datL n ds = true → RepL K m H ds vs → DpAll K H vs (toPdL ds)
  | n, [], vs, _, r => by simp only [RepL] at r; subst r; exact .nil
  | n, d :: ds, vs, h, r => by
    simp only [datL, Bool.and_eq_true] at h
    simp only [RepL] at r
    obtain ⟨v, r', rfl, h1, h2⟩ := r
    exact .cons (rep_dp s n d v h.1 h1) (rep_dpL s n ds r' h.2 h2)
end
theorem cont_dp (s : Sim K m H) {n : Nat} {d : D} {v : V} (h : dat n d = true) (c : Cont K m H d v) : Dp K H v (toPd d) := by
  cases d with
  | lst xs =>
    obtain ⟨a, vs, rfl, h1, h2⟩ := c
    cases n with
    | zero => simp only [dat] at h; cases h
    | succ n => simp only [dat] at h; exact .lst (.of h1) (rep_dpL s n xs vs h h2)
  | dic _ _ => cases n <;> simp only [dat] at h <;> cases h
  | ins _ _ _ => cases n <;> simp only [dat] at h <;> cases h
  | tup xs => exact rep_dp s n _ v h c
  | tab _ => cases n <;> simp only [dat] at h <;> cases h
  | dky _ _ _ _ => cases n <;> simp only [dat] at h <;> cases h
  | _ => exact rep_dp s n _ v h c
end

def eqvD (x y : D) : Bool := PyData.eqv (toPd x) (toPd y)
def dEqB (x y : D) : Option Bool := match x, y with
  | .int i, .int j => some (decide (i = j))
  | .str i, .str j => some (decide (i = j))
  | .bl i, .bl j => some (decide (i = j))
  | .non, .non => some true
  | .non, .int _ => some false
  | .int _, .non => some false
  | .non, .str _ => some false
  | .str _, .non => some false
  | .non, .bl _ => some false
  | .bl _, .non => some false
  | .int _, .str _ => some false
  | .str _, .int _ => some false
  | .bl _, .str _ => some false
  | .str _, .bl _ => some false
  | x, y => if dat 60 x = true ∧ dat 60 y = true then some (eqvD x y) else none
def dEq (m : M) (x y : D) : Option D := (dEqB (look m x) (look m y)).map .bl
def dNe (m : M) (x y : D) : Option D := (dEqB (look m x) (look m y)).map fun b => .bl (!b)
section
variable {X : Cx}
theorem do_eqneg (hu : X.A.units + 65 < cLine) : DOp X (compareOp .Eq) dEq ∧ DOp X (compareOp .NotEq) dNe := by
  have main : ∀ (neg : Bool) (x y : D) (m : M) (d : D) (v u : V) (H : Hp) (Q : VK), Cont X.K m H (look m x) v → Cont X.K m H (look m y) u → Sim X.K m H →
      (dEqB (look m x) (look m y)).map (fun b => D.bl (neg ^^ b)) = some d → (∀ w H', Fr m H m H' → Sim X.K m H' → Rep X.K m H' d w → Q w H') →
      (scal v u = true ∧ Q (.bl (neg ^^ decide (v = u))) H) ∨ ∃ p q, Dp X.K H v p ∧ Dp X.K H u q ∧ SeqAt.shaped p = true ∧ SeqAt.shaped q = true ∧ Q (.bl (neg ^^ PyData.eqv p q)) H := by
    intro neg x y m d v u H Q cx cy s e q
    generalize look m x = cX at cx e
    generalize look m y = cY at cy e
    unfold dEqB at e
    split at e <;> (try (cases e))
    · rw [cont_int cx, cont_int cy]; exact .inl ⟨rfl, by simpa using q _ _ Fr.refl s rep_bl⟩
    · rw [cont_str cx, cont_str cy]; exact .inl ⟨rfl, by simpa using q _ _ Fr.refl s rep_bl⟩
    · rw [cont_bl cx, cont_bl cy]; exact .inl ⟨rfl, by simpa using q _ _ Fr.refl s rep_bl⟩
    · rw [cont_non cx, cont_non cy]; exact .inl ⟨rfl, by simpa using q _ _ Fr.refl s rep_bl⟩
    · rw [cont_non cx, cont_int cy]; exact .inl ⟨rfl, by simpa using q _ _ Fr.refl s rep_bl⟩
    · rw [cont_int cx, cont_non cy]; exact .inl ⟨rfl, by simpa using q _ _ Fr.refl s rep_bl⟩
    · rw [cont_non cx, cont_str cy]; exact .inl ⟨rfl, by simpa using q _ _ Fr.refl s rep_bl⟩
    · rw [cont_str cx, cont_non cy]; exact .inl ⟨rfl, by simpa using q _ _ Fr.refl s rep_bl⟩
    · rw [cont_non cx, cont_bl cy]; exact .inl ⟨rfl, by simpa using q _ _ Fr.refl s rep_bl⟩
    · rw [cont_bl cx, cont_non cy]; exact .inl ⟨rfl, by simpa using q _ _ Fr.refl s rep_bl⟩
    · rw [cont_int cx, cont_str cy]; exact .inl ⟨rfl, by simpa using q _ _ Fr.refl s rep_bl⟩
    · rw [cont_str cx, cont_int cy]; exact .inl ⟨rfl, by simpa using q _ _ Fr.refl s rep_bl⟩
    · rw [cont_bl cx, cont_str cy]; exact .inl ⟨rfl, by simpa using q _ _ Fr.refl s rep_bl⟩
    · rw [cont_str cx, cont_bl cy]; exact .inl ⟨rfl, by simpa using q _ _ Fr.refl s rep_bl⟩
    · split at e
      · rename_i h
        cases e
        exact .inr ⟨_, _, cont_dp s h.1 cx, cont_dp s h.2 cy, dat_shaped (by decide) h.1, dat_shaped (by decide) h.2, q _ _ Fr.refl s rep_bl⟩
      · cases e
  constructor
  · refine DOp.of (op_eq.or (op_eqD (by omega))) fun x y m d v u H Q cx cy rx ry s e q => ?_
    have := main false x y m d v u H Q cx cy s (by simpa [dEq] using e) q
    simpa only [Bool.false_xor, rEq, rEqD] using this
  · refine DOp.of (op_ne.or (op_neD (by omega))) fun x y m d v u H Q cx cy rx ry s e q => ?_
    have := main true x y m d v u H Q cx cy s (by simpa [dNe] using e) q
    simpa only [Bool.true_xor, rNe, rNeD] using this
theorem do_eq (hu : X.A.units + 65 < cLine) : DOp X (compareOp .Eq) dEq := (do_eqneg hu).1
theorem do_ne (hu : X.A.units + 65 < cLine) : DOp X (compareOp .NotEq) dNe := (do_eqneg hu).2

/-! ### order -/
def d2IB (f : Int → Int → Bool) (g : Str → Str → Bool) (m : M) (x y : D) : Option D := match look m x, look m y with
  | .int i, .int j => some (.bl (f i j))
  | .str i, .str j => some (.bl (g i j))
  | _, _ => none
theorem do_2IB {h : Value → Value → Sem Value} {f : Int → Int → Bool} {g : Str → Str → Bool} (ho : OpR X h (rI0 fun i j => .bl (f i j)))
    (hs : OpR X h (fun x y H Q => ∃ i j, x = .str i ∧ y = .str j ∧ Q (.bl (g i j)) H)) : DOp X h (d2IB f g) := by
  refine DOp.of (ho.or hs) fun x y m d v u H Q cx cy rx ry s e q => ?_
  unfold d2IB at e
  generalize look m x = cX at cx e
  generalize look m y = cY at cy e
  split at e
  · cases e; rw [cont_int cx, cont_int cy]; exact .inl ⟨_, _, rfl, rfl, q _ _ Fr.refl s rep_bl⟩
  · cases e; rw [cont_str cx, cont_str cy]; exact .inr ⟨_, _, rfl, rfl, q _ _ Fr.refl s rep_bl⟩
  · cases e
def ltS (i j : Str) : Bool := decide (i.cps.toList < j.cps.toList)
abbrev dLt := d2IB (fun i j => decide (i < j)) (fun i j => ltS i j)
abbrev dGt := d2IB (fun i j => decide (j < i)) (fun i j => ltS j i)
abbrev dLe := d2IB (fun i j => decide (i ≤ j)) (fun i j => !ltS j i)
abbrev dGe := d2IB (fun i j => decide (j ≤ i)) (fun i j => !ltS i j)
theorem do_lt : DOp X (compareOp .Lt) dLt := do_2IB op_lt op_lt_str
theorem do_gt : DOp X (compareOp .Gt) dGt := do_2IB op_gt op_gt_str
theorem do_le : DOp X (compareOp .LtE) dLe := do_2IB op_le op_le_str
theorem do_ge : DOp X (compareOp .GtE) dGe := do_2IB op_ge op_ge_str
/-! ### is -/
def dIs (m : M) (x y : D) : Option D := match x, y with
  | .non, .non => some (.bl true)
  | .bl a, .bl b => some (.bl (decide (a = b)))
  | x, .non => some (.bl false)
  | _, _ => none
def dIsNot (m : M) (x y : D) : Option D := match x, y with
  | .non, .non => some (.bl false)
  | .bl a, .bl b => some (.bl (!decide (a = b)))
  | x, .non => some (.bl true)
  | _, _ => none
theorem rep_ne_non {K : PySem.W.Frag} {m : M} {H : Hp} {x : D} {v : V} (r : Rep K m H x v) (h : x ≠ .non) : v ≠ .non := by
  intro e; subst e
  cases x with
  | non => exact h rfl
  | tup _ => simp only [Rep] at r; obtain ⟨_, _, e, _⟩ := r; cases e
  | lst _ => simp only [Rep] at r; obtain ⟨_, _, e, _⟩ := r; cases e
  | dic _ _ => simp only [Rep] at r; obtain ⟨_, _, e, _⟩ := r; cases e
  | ins _ _ _ => simp only [Rep] at r; obtain ⟨_, _, _, e, _⟩ := r; cases e
  | scr _ => simp only [Rep] at r; obtain ⟨_, e, _⟩ := r; cases e
  | exc _ _ _ => simp only [Rep] at r; obtain ⟨_, _, _, e, _⟩ := r; cases e
  | tab _ => simp only [Rep] at r; obtain ⟨_, _, e, _⟩ := r; cases e
  | dky _ _ _ _ => simp only [Rep] at r; obtain ⟨_, _, _, e, _⟩ := r; cases e
  | clo _ _ _ _ _ => simp only [Rep] at r; obtain ⟨e, _⟩ := r; cases e
  | _ => simp only [Rep] at r; cases r
theorem do_is : DOp X (compareOp .Is) dIs := opW (op_isN.or op_isBl) fun v u H Q ⟨x, y, m, d, rx, ry, s, e, q⟩ => by
  unfold dIs at e
  split at e
  · cases e
    simp only [Rep] at rx ry; subst rx; subst ry
    exact .inl ⟨rfl, q _ _ Fr.refl s rep_bl⟩
  · cases e
    simp only [Rep] at rx ry; subst rx; subst ry
    exact .inr ⟨_, _, rfl, rfl, q _ _ Fr.refl s rep_bl⟩
  · rename_i h
    cases e
    simp only [Rep] at ry; subst ry
    refine .inl ⟨rfl, ?_⟩
    rw [decide_eq_false (rep_ne_non rx h)]
    exact q _ _ Fr.refl s rep_bl
  · cases e
theorem do_isnot : DOp X (compareOp .IsNot) dIsNot := opW (op_notN.or op_notBl) fun v u H Q ⟨x, y, m, d, rx, ry, s, e, q⟩ => by
  unfold dIsNot at e
  split at e
  · cases e
    simp only [Rep] at rx ry; subst rx; subst ry
    exact .inl ⟨rfl, q _ _ Fr.refl s rep_bl⟩
  · cases e
    simp only [Rep] at rx ry; subst rx; subst ry
    exact .inr ⟨_, _, rfl, rfl, q _ _ Fr.refl s rep_bl⟩
  · rename_i h
    cases e
    simp only [Rep] at ry; subst ry
    refine .inl ⟨rfl, ?_⟩
    rw [decide_eq_false (rep_ne_non rx h)]
    exact q _ _ Fr.refl s rep_bl
  · cases e
end
end DL
/-! ### DL4: membership, items, slices -/
namespace DL
open PySem PySem.Spec PyProof.Rows L2

def keyOf : D → Option Key
  | .int i => some (.inl i)
  | .str x => some (.inr x)
  | _ => none
theorem keyOf_eq {d : D} {k : Key} (h : keyOf d = some k) : d = kD k := by
  cases d <;> simp [keyOf] at h <;> subst h <;> rfl
theorem keyOf_kD (k : Key) : keyOf (kD k) = some k := by cases k <;> rfl
theorem kD_inj {a b : Key} (h : kD a = kD b) : a = b := by
  cases a <;> cases b <;> simp [kD] at h <;> subst h <;> rfl
theorem rep_kD {K : PySem.W.Frag} {m : M} {H : Hp} {k : Key} {v : V} (r : Rep K m H (kD k) v) : v = kV k := by
  cases k <;> simpa only [kD, Rep, kV] using r
/-- the value at a key -/
def dlook : List D → List D → Key → Option D
  | k :: ks, v :: vs, q => if keyOf k = some q then some v else dlook ks vs q
  | _, _, _ => none
/-- what a store makes of the keys, of the values -/
def isKey (q : Key) (k : D) : Bool := decide (keyOf k = some q)
def dputK (ks : List D) (q : Key) : List D := if ks.any (isKey q) = true then ks else ks ++ [kD q]
def dputV (ks vs : List D) (q : Key) (d : D) : List D := if ks.any (isKey q) = true then List.zipWith (fun k v => if isKey q k = true then d else v) ks vs else vs ++ [d]
section
variable {K : PySem.W.Frag} {m : M} {H : Hp}
theorem dlook_V : ∀ {kvs : List (Key × V)} {ds : List D}, RepL K m H ds (kvs.map (·.2)) → ∀ q : Key, (valV kvs q = none ∧ dlook (kvs.map fun kv => kD kv.1) ds q = none) ∨
    ∃ d v, dlook (kvs.map fun kv => kD kv.1) ds q = some d ∧ valV kvs q = some v ∧ Rep K m H d v
  | [], ds, r, q => by
    left
    cases ds with
    | nil => simp [dlook, valV]
    | cons d ds => simp [dlook, valV]
  | kv :: kvs, ds, r, q => by
    cases ds with
    | nil => simp only [List.map_cons, RepL] at r; cases r
    | cons d ds =>
      simp only [List.map_cons, RepL] at r
      obtain ⟨v, r', e, h1, h2⟩ := r
      cases e
      simp only [List.map_cons, dlook, keyOf_kD, Option.some.injEq]
      by_cases hq : kv.1 = q
      · right
        simp only [hq, if_true]
        exact ⟨d, kv.2, rfl, valV_pos hq, h1⟩
      · simp only [hq, if_false]
        rw [valV_neg hq]
        exact dlook_V h2 q
theorem any_isKey (q : Key) : ∀ kvs : List (Key × V), (kvs.any fun kv => decide (kv.1 = q)) = (kvs.map fun kv => kD kv.1).any (isKey q)
  | [] => rfl
  | kv :: kvs => by
    have e : isKey q (kD kv.1) = decide (kv.1 = q) := by unfold isKey; rw [keyOf_kD]; simp
    rw [List.any_cons, List.map_cons, List.any_cons, any_isKey q kvs, e]
theorem putK_map (q : Key) (v : V) (kvs : List (Key × V)) : (putK kvs q v).map (fun kv => kD kv.1) = dputK (kvs.map fun kv => kD kv.1) q := by
  unfold putK dputK
  rw [any_isKey q kvs]
  split
  · rw [List.map_map]
    refine List.map_congr_left fun kv hk => ?_
    simp only [Function.comp]
    split <;> rfl
  · rw [List.map_append]; rfl
theorem putV_rep (q : Key) {v : V} {d : D} (rd : Rep K m H d v) (kvs : List (Key × V)) (ds : List D) (r : RepL K m H ds (kvs.map (·.2))) :
    RepL K m H (dputV (kvs.map fun kv => kD kv.1) ds q d) ((putK kvs q v).map (·.2)) := by
  unfold putK dputV
  rw [any_isKey q kvs]
  split
  · rename_i hh; clear hh
    induction kvs generalizing ds with
    | nil => simp [RepL]
    | cons kv kvs ih =>
      cases ds with
      | nil => simp only [List.map_cons, RepL] at r; cases r
      | cons d0 ds =>
        simp only [List.map_cons, RepL] at r
        obtain ⟨v0, r', e, h1, h2⟩ := r
        cases e
        have e : isKey q (kD kv.1) = decide (kv.1 = q) := by unfold isKey; rw [keyOf_kD]; simp
        simp only [List.map_cons, List.zipWith_cons_cons, e]
        refine .cons ?_ (ih ds h2)
        by_cases hq : kv.1 = q
        · simpa [hq] using rd
        · simpa [hq] using h1
  · rw [List.map_append]
    exact r.snoc rd
end

def flatD : D → Bool
  | .non => true
  | .bl _ => true
  | .int _ => true
  | .str _ => true
  | _ => false
theorem flat_V {K : PySem.W.Frag} {m : M} {H : Hp} {d : D} {v : V} (h : flatD d = true) (r : Rep K m H d v) : flatV v = true ∧ ∀ {d' : D} {v' : V}, flatD d' = true → Rep K m H d' v' → eqV v v' = eqvD d d' := by
  cases d with
  | non | bl _ | int _ | str _ =>
    simp only [Rep] at r; subst r
    refine ⟨rfl, fun {d' v'} h' r' => ?_⟩
    cases d' with
    | non | bl _ | int _ | str _ => simp only [Rep] at r'; subst r'; simp [eqV, eqvD, toPd, PyData.eqv]
    | _ => cases h'
  | _ => cases h
theorem flat_inV {K : PySem.W.Frag} {m : M} {H : Hp} {x : D} {v : V} (hx : flatD x = true) (rx : Rep K m H x v) : ∀ {ds : List D} {vs : List V}, ds.all flatD = true → RepL K m H ds vs →
    vs.all flatV = true ∧ inV v vs = ds.any fun y => eqvD y x
  | [], vs, _, r => by simp only [RepL] at r; subst r; exact ⟨rfl, rfl⟩
  | d :: ds, vs, h, r => by
    simp only [RepL] at r
    obtain ⟨u, r', rfl, h1, h2⟩ := r
    simp only [List.all_cons, Bool.and_eq_true] at h
    obtain ⟨i1, i2⟩ := flat_inV hx rx h.2 h2
    obtain ⟨f1, f2⟩ := flat_V h.1 h1
    refine ⟨by simp [f1, i1], ?_⟩
    unfold inV at i2 ⊢
    simp only [List.any_cons, i2, f2 hx rx]
def strIn (x z : Str) : Bool := !(Builtin.Str.occurrences z x 0 z.length 1).isEmpty
def dInB (m : M) (x y : D) : Option Bool := match look m y with
  | .lst ds => if (flatD x = true ∧ ds.all flatD = true) ∨ (dat 60 x = true ∧ datL 59 ds = true) then some (ds.any fun y => eqvD y x) else none
  | .tup ds => if (flatD x = true ∧ ds.all flatD = true) ∨ (dat 60 x = true ∧ datL 59 ds = true) then some (ds.any fun y => eqvD y x) else none
  | .dic ks vs => (keyOf x).map fun k => (dlook ks vs k).isSome
  | .str z => match x with
    | .str a => some (strIn a z)
    | _ => none
  | _ => none
def dIn (m : M) (x y : D) : Option D := (dInB m x y).map .bl
def dNotIn (m : M) (x y : D) : Option D := (dInB m x y).map fun b => .bl (!b)
section
variable {X : Cx}
def rInT (K : PySem.W.Frag) (neg : Bool) : R2 := fun x y H Q => ∃ d ds, Dp K H x d ∧ (Dp K H y (.tuple ds) ∨ Dp K H y (.list ds)) ∧ SeqAt.shaped d = true ∧ SeqAt.shaped (.list ds) = true ∧ Q (.bl (neg ^^ ds.any fun z => PyData.eqv z d)) H
theorem shaped_tl {ds : List PyData} (h : SeqAt.shaped (.list ds) = true) : SeqAt.shaped (.tuple ds) = true := by
  unfold SeqAt.shaped at h ⊢
  exact h
theorem op_inT (hu : X.A.units + 65 < cLine) : OpR X (compareOp .In) (rInT X.K false) := by
  intro pins s σ H x y v u Q I rx ry h
  obtain ⟨d, ds, hd, he, sd, se, q⟩ := h
  simp only [Bool.false_xor] at q
  obtain ⟨as, r1⟩ := Dp.reads I d x v hd rx
  rcases he with he | he
  · obtain ⟨bs, r2⟩ := Dp.reads I (.tuple ds) y u he ry
    exact SeqAt.in_tuple_reads r2 r1 (SeqAt.canLay_of_shaped se) (SeqAt.canLay_of_shaped sd) (PyProof.Rows.room_in_shaped sd hu) ⟨.bl _, H, I, rfl, q⟩
  · obtain ⟨bs, r2⟩ := Dp.reads I (.list ds) y u he ry
    exact SeqAt.in_list_reads r2 r1 (SeqAt.canLay_of_shaped se) (SeqAt.canLay_of_shaped sd) (PyProof.Rows.room_in_shaped sd hu) ⟨.bl _, H, I, rfl, q⟩
theorem op_notInT (hu : X.A.units + 65 < cLine) : OpR X (compareOp .NotIn) (rInT X.K true) := by
  intro pins s σ H x y v u Q I rx ry h
  obtain ⟨d, ds, hd, he, sd, se, q⟩ := h
  simp only [Bool.true_xor] at q
  obtain ⟨as, r1⟩ := Dp.reads I d x v hd rx
  rcases he with he | he
  · obtain ⟨bs, r2⟩ := Dp.reads I (.tuple ds) y u he ry
    exact SeqAt.notIn_tuple_reads r2 r1 (SeqAt.canLay_of_shaped se) (SeqAt.canLay_of_shaped sd) (PyProof.Rows.room_in_shaped sd hu) ⟨.bl _, H, I, rfl, q⟩
  · obtain ⟨bs, r2⟩ := Dp.reads I (.list ds) y u he ry
    exact SeqAt.notIn_list_reads r2 r1 (SeqAt.canLay_of_shaped se) (SeqAt.canLay_of_shaped sd) (PyProof.Rows.room_in_shaped sd hu) ⟨.bl _, H, I, rfl, q⟩
def rInDict (neg : Bool) : R2 := fun x y H Q => ∃ a o, y = .ref a ∧ DGet H a x o ∧ Q (.bl (neg ^^ o.isSome)) H
theorem op_inDict (hu : X.A.units + 65 < cLine) : OpR X (compareOp .In) (rInDict false) := by
  intro pins s σ H x y v u Q I rx ry h
  obtain ⟨a, o, rfl, g, q⟩ := h
  cases ry
  simp only [Bool.false_xor] at q
  exact d_in (by omega) I g rx fun s' I' => ⟨.bl _, H, I', rfl, q⟩
theorem op_notInDict (hu : X.A.units + 65 < cLine) : OpR X (compareOp .NotIn) (rInDict true) := by
  intro pins s σ H x y v u Q I rx ry h
  obtain ⟨a, o, rfl, g, q⟩ := h
  cases ry
  simp only [Bool.true_xor] at q
  exact d_notIn (by omega) I g rx fun s' I' => ⟨.bl _, H, I', rfl, q⟩
theorem datL_shaped {ds : List D} (h : datL 59 ds = true) : SeqAt.shaped (.list (toPdL ds)) = true := by
  have := dat_shaped (n := 60) (d := .lst ds) (by decide) (by simpa only [dat] using h)
  simpa only [toPd] using this
theorem in_main (neg : Bool) {x y : D} {m : M} {b : Bool} {v u : V} {H : Hp} {Q : VK} (cy : Cont X.K m H (look m y) u) (rx : Rep X.K m H x v) (s : Sim X.K m H) (e : dInB m x y = some b) (q : Q (.bl (neg ^^ b)) H) :
    rIn X.K neg v u H Q ∨ rInT X.K neg v u H Q ∨ rInDict neg v u H Q ∨ ∃ i j, v = .str i ∧ u = .str j ∧ Q (.bl (neg ^^ strIn i j)) H := by
  unfold dInB at e
  generalize look m y = cY at cy e
  have seq : ∀ (ds : List D) (p : Addr) (vs : List V), u = .ref p → (SqL X.K H p vs ∨ SqT X.K H p vs) → RepL X.K m H ds vs →
      ((flatD x = true ∧ ds.all flatD = true) ∨ (dat 60 x = true ∧ datL 59 ds = true)) → b = (ds.any fun y => eqvD y x) → rIn X.K neg v u H Q ∨ rInT X.K neg v u H Q := by
    intro ds p vs hu hs r hc hb
    rcases hc with ⟨h1, h2⟩ | ⟨h1, h2⟩
    · obtain ⟨f1, f2⟩ := flat_inV h1 rx h2 r
      refine .inl ⟨p, vs, hu, hs, (flat_V h1 rx).1, f1, ?_⟩
      rw [f2, ← hb]
      cases neg <;> simpa using q
    · refine .inr ⟨toPd x, toPdL ds, rep_dp s 60 x v h1 rx, ?_, dat_shaped (by decide) h1, datL_shaped h2, ?_⟩
      · subst hu
        rcases hs with z | z
        · exact .inr (.lst z (rep_dpL s 59 ds vs h2 r))
        · exact .inl (.tup z (rep_dpL s 59 ds vs h2 r))
      · have e1 : ((toPdL ds).any fun z => PyData.eqv z (toPd x)) = b := by
          rw [hb, toPdL_map, List.any_map]; rfl
        rw [e1]
        exact q
  split at e
  · split at e
    · cases e
      obtain ⟨p, vs, hu, hp, r⟩ := cont_lst cy
      exact (seq _ p vs hu (.inl (.of hp)) r (by assumption) rfl).elim .inl fun z => .inr (.inl z)
    · cases e
  · split at e
    · cases e
      obtain ⟨p, vs, hu, hp, r⟩ := cont_tup cy
      exact (seq _ p vs hu (.inr (tupAt_sq hp)) r (by assumption) rfl).elim .inl fun z => .inr (.inl z)
    · cases e
  · rename_i ks vs
    cases ek : keyOf x with
    | none => rw [ek] at e; cases e
    | some k =>
      rw [ek] at e
      simp only [Option.map_some, Option.some.injEq] at e
      have ex := keyOf_eq ek
      subst ex
      have ev := rep_kD rx
      subst ev
      obtain ⟨a, ws, rfl, ⟨kvs, hd, rfl, rfl⟩, r⟩ := cont_dic cy
      refine .inr (.inr (.inl ⟨a, valV kvs k, rfl, .inl ⟨kvs, k, hd, rfl, rfl⟩, ?_⟩))
      rcases dlook_V r k with ⟨h1, h2⟩ | ⟨d, v, h1, h2, _⟩
      · rw [h1]; rw [h2] at e; subst e; exact q
      · rw [h2]; rw [h1] at e; subst e; exact q
  · split at e
    · cases e
      simp only [Rep] at rx
      exact .inr (.inr (.inr ⟨_, _, rx, cont_str cy, q⟩))
    · cases e
  · cases e
theorem do_in (hu : X.A.units + 65 < cLine) : DOp X (compareOp .In) dIn := by
  refine DOp.of (op_in_seq.or ((op_inT hu).or ((op_inDict hu).or op_in_str))) fun x y m d v u H Q cx cy rx ry s e q => ?_
  unfold dIn at e
  cases eb : dInB m x y with
  | none => rw [eb] at e; cases e
  | some b =>
    rw [eb] at e; cases e
    have := in_main (neg := false) (Q := Q) cy rx s eb (by simpa using q _ _ Fr.refl s rep_bl)
    simpa only [strIn, Bool.false_xor] using this
theorem do_notin (hu : X.A.units + 65 < cLine) : DOp X (compareOp .NotIn) dNotIn := by
  refine DOp.of (op_notIn_seq.or ((op_notInT hu).or ((op_notInDict hu).or op_notIn_str))) fun x y m d v u H Q cx cy rx ry s e q => ?_
  unfold dNotIn at e
  cases eb : dInB m x y with
  | none => rw [eb] at e; cases e
  | some b =>
    rw [eb] at e; cases e
    have := in_main (neg := true) (Q := Q) cy rx s eb (by simpa using q _ _ Fr.refl s rep_bl)
    simpa only [strIn, Bool.true_xor] using this

/-! ### items -/
def dIx (m : M) (x y : D) : Option D := match look m x with
  | .lst ds => match look m y with
    | .int i => atI ds i
    | _ => none
  | .tup ds => match look m y with
    | .int i => atI ds i
    | _ => none
  | .str z => match look m y with
    | .int i => if z.length ≤ sizeLine then (atI z.cps.toList i).map fun c => .str ⟨#[c]⟩ else none
    | _ => none
  | .dic ks vs => (keyOf y).bind fun k => dlook ks vs k
  | _ => none
theorem ix_dict (hu : X.A.units + 65 < cLine) : IxR X (fun x y H Q => ∃ a v, x = .ref a ∧ DGet H a y (some v) ∧ Q v H) := by
  intro value slice pins s σ H x y v u Q I rx ry h hs
  obtain ⟨a, z, rfl, g, q⟩ := h
  cases rx
  have hT := dict_typeIs I g
  unfold subscriptTail
  refine wpAny_bind ?_
  rw [getitemInPython_of_ne hT.not_modules]
  refine wpAny_bind (wpAny_specialOf hT PySem.F.slot_dict_getitem.lookup ?_)
  have fin : wpAny (model X.prog X.w) X.A (subscripted slice false (.ref a) u) (fun r s₃ => wpAny (model X.prog X.w) X.A (letTemporaryGo value (.ref a) r >>= fun _ => pure r) (EP X pins σ Q) X.xe s₃) X.xe s := by
    rw [hs]
    exact wpAny_operating (wpAny_mono (d_getItem (Q := EP X pins σ Q) (by omega) I g ry fun w' s3 I3 rw' => ⟨z, H, I3, rw', q⟩) (fun r s₃ h₃ => wpAny_bind (wpAny_letTemporaryGo (wpAny_pure h₃))) fun _ _ x => x)
  first
    | exact wpAny_pure (wpAny_bind fin)
    | exact wpAny_bind (wpAny_pure (wpAny_bind fin))
    | exact wpAny_bind fin
theorem repL_atI {K : PySem.W.Frag} {m : M} {H : Hp} {ds : List D} {vs : List V} {i : Int} {d : D} (r : RepL K m H ds vs) (e : atI ds i = some d) : ∃ v, atI vs i = some v ∧ Rep K m H d v := by
  unfold atI at e ⊢
  rw [← r.length]
  cases h : ixN ds.length i with
  | none => rw [h] at e; cases e
  | some j =>
    rw [h] at e
    exact r.get e
theorem ixW {r r' : R2} (h : IxR X r) (k : ∀ x y H Q, r' x y H Q → r x y H Q) : IxR X r' := fun value slice pins s σ H x y v u Q I rx ry q hs => h value slice pins s σ H x y v u Q I rx ry (k _ _ _ _ q) hs
theorem ix_main (hu : X.A.units + 65 < cLine) : IxR X (liftOp X.K dIx) := ixW (ix_seq.or (ix_dict hu)) fun v u H Q ⟨x, y, m, d, rx, ry, s, e, q⟩ => by
  have cx := cont_of s rx
  have cy := cont_of s ry
  unfold dIx at e
  generalize look m x = cX at cx e
  split at e
  · split at e
    · rename_i ey
      rw [ey] at cy
      obtain ⟨p, vs, rfl, hp, r⟩ := cont_lst cx
      obtain ⟨w, h1, h2⟩ := repL_atI r e
      exact .inl (.inl ⟨p, vs, _, w, rfl, cont_int cy, .of hp, h1, q _ _ Fr.refl s h2⟩)
    · cases e
  · split at e
    · rename_i ey
      rw [ey] at cy
      obtain ⟨p, vs, rfl, hp, r⟩ := cont_tup cx
      obtain ⟨w, h1, h2⟩ := repL_atI r e
      exact .inl (.inr (.inl ⟨p, vs, _, w, rfl, cont_int cy, tupAt_sq hp, h1, q _ _ Fr.refl s h2⟩))
    · cases e
  · split at e
    · rename_i ey
      rw [ey] at cy
      split at e
      · rename_i hz
        obtain ⟨c, ec, rfl⟩ := Option.map_eq_some_iff.mp e
        exact .inl (.inr (.inr ⟨_, _, c, cont_str cx, cont_int cy, hz, ec, q _ _ Fr.refl s rep_str⟩))
      · cases e
    · cases e
  · cases ek : keyOf y with
    | none => rw [ek] at e; cases e
    | some k =>
      rw [ek] at e
      simp only [Option.bind_some] at e
      have ex := keyOf_eq ek
      subst ex
      have ev := rep_kD ry
      subst ev
      obtain ⟨a, ws, rfl, ⟨kvs, hd, rfl, rfl⟩, r⟩ := cont_dic cx
      rcases dlook_V r k with ⟨h1, h2⟩ | ⟨d', v, h1, h2, h3⟩
      · rw [h2] at e; cases e
      · rw [h1] at e; cases e
        exact .inr ⟨a, v, rfl, .inl ⟨kvs, k, hd, rfl, h2.symm⟩, q _ _ Fr.refl s h3⟩
  · cases e
theorem de_ix {a b : Expr} {ta tb : DTE} {pos : Pos} (hu : X.A.units + 65 < cLine) (ha : DE X a ta) (hb : DE X b tb) (hs : PlainIx b := by exact fun _ _ => rfl) : DE X (.Subscript a b pos) (tBin dIx ta tb) :=
  ⟨PE.weak (pe_ix (ix_main hu) ha.run hb.run hs) fun _ _ _ h => bin_lift h⟩

/-! ### slices -/
def cutD {α : Type} (xs : List α) (lo hi : Option Int) : List α := (xs.drop (HT.sIx xs.length 0 lo)).take (HT.sIx xs.length xs.length hi - HT.sIx xs.length 0 lo)
theorem cutD_map {α β : Type} (f : α → β) (ns : List α) (lo hi : Option Int) : (cutD ns lo hi).map f = cutD (ns.map f) lo hi := by
  unfold cutD; simp [List.map_take, List.map_drop]
theorem cutD_whole {α : Type} {ds : List α} {n : Nat} {lo hi : Option Int} (hl : ds.length = n) (h1 : HT.sIx n 0 lo = 0) (h2 : HT.sIx n n hi = n) : cutD ds lo hi = ds := by
  unfold cutD
  rw [hl, h1, h2]
  simp only [List.drop_zero, Nat.sub_zero]
  rw [← hl, List.take_length]
theorem cutD_rep {K : PySem.W.Frag} {m : M} {H : Hp} {ds : List D} {vs : List V} (r : RepL K m H ds vs) (lo hi : Option Int) : RepL K m H (cutD ds lo hi) (cutV vs lo hi) := by
  unfold cutD cutV
  rw [← r.length]
  exact (r.drop _).take _
def dSl (m : M) (x : D) (lo hi : Option Int) : Option D := match look m x with
  | .lst ds => some (.lst (cutD ds lo hi))
  | .tup ds => some (.tup (cutD ds lo hi))
  | .scr ns => some (.lst ((cutD ns lo hi).map .int))
  | .str z => if z.length ≤ sizeLine then some (.str (cutS z lo hi)) else none
  | _ => none
def liftSl (K : PySem.W.Frag) : V → Option Int → Option Int → Hp → VK → Prop := fun v lo hi H Q => ∃ x m d, Rep K m H x v ∧ Sim K m H ∧ dSl m x lo hi = some d ∧ ∀ w H', Fr m H m H' → Sim K m H' → Rep K m H' d w → Q w H'
theorem slW {r r' : V → Option Int → Option Int → Hp → VK → Prop} (h : SlR X r) (k : ∀ x lo hi H Q, r' x lo hi H Q → r x lo hi H Q) : SlR X r' := fun pins s σ H x v vl vu lo hi sl Q I rx hs pl pu q => h pins s σ H x v vl vu lo hi sl Q I rx hs pl pu (k _ _ _ _ _ q)
theorem sl_main : SlR X (liftSl X.K) := slW (sl_list.or (sl_tupA.or sl_str)) fun v lo hi H Q ⟨x, m, d, rx, s, e, q⟩ => by
  have cx := cont_of s rx
  unfold dSl at e
  generalize look m x = cX at cx e
  split at e
  · cases e
    obtain ⟨p, vs, rfl, hp, r⟩ := cont_lst cx
    exact .inl ⟨p, vs, rfl, .of hp, fun p' hp' => q _ _ (Fr.laid s hp') (s.laid hp') (new_lst s hp' (cutD_rep r lo hi))⟩
  · cases e
    obtain ⟨p, vs, rfl, hp, r⟩ := cont_tup cx
    refine .inr (.inl ⟨p, vs, rfl, tupAt_sq hp, fun ⟨h1, h2⟩ => ?_, fun _ p' hp' => q _ _ (Fr.laid s hp') (s.laid hp') (new_tup s hp' (cutD_rep r lo hi))⟩)
    refine q _ _ Fr.refl s ?_
    rw [cutD_whole r.length h1 h2]
    simp only [Rep]
    exact ⟨p, vs, rfl, hp, r⟩
  · cases e
    obtain ⟨a, rfl, h⟩ := cont_scr cx
    refine .inl ⟨a, _, rfl, h, fun p' hp' => q _ _ (Fr.laid s hp') (s.laid hp') ?_⟩
    rw [cutD_map]
    exact new_lst s hp' (cutD_rep (RepL.map_int _) lo hi)
  · split at e
    · rename_i hz; cases e
      exact .inr (.inr ⟨_, cont_str cx, hz, q _ _ Fr.refl s rep_str⟩)
    · cases e
  · cases e
abbrev DTO := Env → M → (Option Int → M → Prop) → Prop
def liftO (K : PySem.W.Frag) (t : DTO) : TO := fun σ H Q => ∃ env m R, EnvOk K m H σ env ∧ Sim K m H ∧ t env m R ∧ ∀ o m' H', R o m' → Fr m H m' H' → Sim K m' H' → Q o H'
structure DO (X : Cx) (e : Option Expr) (t : DTO) : Prop where run : PO X e (liftO X.K t)
theorem PO.weak {e : Option Expr} {t t' : TO} (h : PO X e t) (k : ∀ σ H Q, t' σ H Q → t σ H Q) : PO X e t' := ⟨fun pins s σ H Q I q => h.run pins s σ H Q I (k σ H Q q)⟩
def tON : DTO := fun _ m Q => Q none m
def tOS (te : DTE) : DTO := fun env m Q => te env m fun d m1 => ∃ i, look m1 d = .int i ∧ Q (some i) m1
theorem do_none : DO X none tON := ⟨PO.weak po_none fun σ H Q h => by
  obtain ⟨env, m, R, eo, s, h, k⟩ := h
  exact k none m H h Fr.refl s⟩
theorem do_some {e : Expr} {te : DTE} (h : DE X e te) : DO X (some e) (tOS te) := ⟨PO.weak (po_some h.run) fun σ H Q h => by
  obtain ⟨env, m, R, eo, s, h, k⟩ := h
  refine ⟨env, m, _, eo, s, h, fun d m1 v H1 h1 f1 s1 r1 => ?_⟩
  obtain ⟨i, e, h1⟩ := h1
  have c := cont_of s1 r1
  rw [e] at c
  exact ⟨i, cont_int c, k (some i) m1 H1 h1 f1 s1⟩⟩
def tSlD (te : DTE) (tl th : DTO) : DTE := fun env m Q => te env m fun x m1 => tl env m1 fun lo m2 => th env m2 fun hi m3 => ∃ d, dSl m3 x lo hi = some d ∧ Q d m3
theorem de_slice {e : Expr} {lo hi : Option Expr} {te : DTE} {tl th : DTO} {p2 pos : Pos} (he : DE X e te) (hl : DO X lo tl) (hh : DO X hi th) : DE X (.Subscript e (.Slice lo hi none p2) pos) (tSlD te tl th) :=
  ⟨PE.weak (pe_slice sl_main he.run hl.run hh.run) fun σ H Q h => by
    obtain ⟨env, m, R, eo, s, h, k⟩ := h
    refine ⟨env, m, _, eo, s, h, fun x m1 v H1 h1 f1 s1 r1 => ?_⟩
    refine ⟨env, m1, _, eo.mono f1, s1, h1, fun lo m2 H2 h2 f2 s2 => ?_⟩
    refine ⟨env, m2, _, eo.mono (f1.trans f2), s2, h2, fun hi m3 H3 h3 f3 s3 => ?_⟩
    obtain ⟨d, e, h3⟩ := h3
    exact ⟨x, m3, d, Rep.mono (f2.trans f3) _ _ r1, s3, e, fun w H' f4 s4 r4 => k d m3 w H' h3 (((f1.trans f2).trans f3).trans f4) s4 r4⟩⟩
end
end DL
/-! ### DL5: tests, displays, statements, loops -/
namespace DL
open PySem PySem.Spec PyProof.Rows L2

section
variable {X : Cx} {e a b : Expr} {es rest : List Expr} {te ta tb : DTE} {pos : Pos}
/-! arguments, displays -/
def tA0 : DTA := fun _ m Q => Q [] m
def tAC (ta : DTE) (tr : DTA) : DTA := fun env m Q => ta env m fun d m1 => tr env m1 fun ds m2 => Q (d :: ds) m2
theorem da_nil : DA X [] tA0 := ⟨PA.weak pa_nil fun σ H Q h => by
  obtain ⟨env, m, R, eo, s, h, k⟩ := h
  exact k [] m [] H h Fr.refl s .nil⟩
theorem da_cons {tr : DTA} (ha : DE X e ta) (hr : DA X es tr) (hs : starEach (e :: es) X.env = (false, eval e X.env) :: starEach es X.env := by rfl) : DA X (e :: es) (tAC ta tr) := ⟨PA.weak (pa_cons ha.run hr.run hs) fun σ H Q h => by
  obtain ⟨env, m, R, eo, s, h, k⟩ := h
  refine ⟨env, m, _, eo, s, h, fun d m1 v H1 h1 f1 s1 r1 => ?_⟩
  refine ⟨env, m1, _, eo.mono f1, s1, h1, fun ds m2 vs H2 h2 f2 s2 r2 => ?_⟩
  exact k (d :: ds) m2 (v :: vs) H2 h2 (f1.trans f2) s2 (.cons (Rep.mono f2 _ _ r1) r2)⟩
def tTupD (t : DTA) : DTE := fun env m Q => t env m fun ds m1 => ds.length ≤ sizeLine ∧ Q (.tup ds) m1
def tLstD (t : DTA) : DTE := fun env m Q => t env m fun ds m1 => ds.length ≤ sizeLine ∧ Q (.lst ds) m1
def tLstM (t : DTA) : DTE := fun env m Q => t env m fun ds m1 => ds.length ≤ sizeLine ∧ ∀ p, m1 p = none → Q (.ref p) (updM m1 p (.lst ds))
theorem de_tup {x1 : Nat} {t : DTA} (h : DA X es t) : DE X (.Tuple es x1 pos) (tTupD t) := ⟨PE.weak (pe_tup h.run) fun σ H Q h => by
  obtain ⟨env, m, R, eo, s, h, k⟩ := h
  refine ⟨env, m, _, eo, s, h, fun ds m1 vs H1 h1 f1 s1 r1 => ?_⟩
  obtain ⟨hl, h1⟩ := h1
  exact ⟨by rw [← r1.length]; exact hl, fun p hp => k _ m1 _ _ h1 (f1.trans (Fr.laid s1 hp)) (s1.laid hp) (new_tup s1 hp r1)⟩⟩
theorem de_lst {t : DTA} (h : DA X es t) : DE X (.List es pos) (tLstD t) := ⟨PE.weak (pe_lst h.run) fun σ H Q h => by
  obtain ⟨env, m, R, eo, s, h, k⟩ := h
  refine ⟨env, m, _, eo, s, h, fun ds m1 vs H1 h1 f1 s1 r1 => ?_⟩
  obtain ⟨hl, h1⟩ := h1
  exact ⟨by rw [← r1.length]; exact hl, fun p hp => k _ m1 _ _ h1 (f1.trans (Fr.laid s1 hp)) (s1.laid hp) (new_lst s1 hp r1)⟩⟩
theorem de_lstM {t : DTA} (h : DA X es t) : DE X (.List es pos) (tLstM t) := ⟨PE.weak (pe_lst h.run) fun σ H Q h => by
  obtain ⟨env, m, R, eo, s, h, k⟩ := h
  refine ⟨env, m, _, eo, s, h, fun ds m1 vs H1 h1 f1 s1 r1 => ?_⟩
  obtain ⟨hl, h1⟩ := h1
  exact ⟨by rw [← r1.length]; exact hl, fun p hp => k _ _ _ _ (h1 p (s1.free hp)) (f1.trans (Fr.laidM s1 hp)) (new_lstM s1 hp r1) rep_ref⟩⟩
/-- a mutable object from now on a tree -/
def tFrz (te : DTE) : DTE := fun env m Q => te env m fun d m1 => match d with
  | .ref p => ∃ c, m1 p = some c ∧ Q c (delM m1 p)
  | d => Q d m1
theorem de_frz (h : DE X e te) : DE X e (tFrz te) := ⟨PE.weak h.run fun σ H Q h => by
  obtain ⟨env, m, R, eo, s, h, k⟩ := h
  refine ⟨env, m, _, eo, s, h, fun d m1 v H1 h1 f1 s1 r1 => ?_⟩
  split at h1
  · obtain ⟨c, e, h1⟩ := h1
    simp only [Rep] at r1
    subst r1
    exact k c _ _ H1 h1 (f1.trans Fr.frozen) s1.frozen (rep_frozen s1 e)
  · exact k _ m1 v H1 h1 f1 s1 r1⟩

/-! tests -/
def dTru : D → Option Bool
  | .non => some false
  | .bl b => some b
  | .int i => some (i != 0)
  | .str x => if x.length ≤ sizeLine then some ((x.length : Int) != 0) else none
  | .lst ds => some (!ds.isEmpty)
  | .tup ds => some (!ds.isEmpty)
  | _ => none
theorem isEmpty_rep {K : PySem.W.Frag} {m : M} {H : Hp} {ds : List D} {vs : List V} (r : RepL K m H ds vs) : vs.isEmpty = ds.isEmpty := by
  have l := r.length
  cases ds <;> cases vs <;> simp_all
theorem truV {K : PySem.W.Frag} {m : M} {H : Hp} {d : D} {v : V} {b : Bool} (c : Cont K m H d v) (h : dTru d = some b) : TruV K v H b := by
  cases d with
  | non => rw [cont_non c]; cases h; rfl
  | bl _ => rw [cont_bl c]; cases h; rfl
  | int _ => rw [cont_int c]; cases h; rfl
  | str _ =>
    rw [cont_str c]
    simp only [dTru] at h
    split at h
    · cases h; exact ⟨by assumption, rfl⟩
    · cases h
  | lst ds =>
    obtain ⟨p, vs, rfl, hp, r⟩ := cont_lst c
    cases h
    exact .inl ⟨vs, .of hp, by rw [isEmpty_rep r]⟩
  | tup ds =>
    obtain ⟨p, vs, rfl, hp, r⟩ := cont_tup c
    cases h
    exact .inr (.inl ⟨vs, tupAt_sq hp, by rw [isEmpty_rep r]⟩)
  | _ => cases h
def tTru (te : DTE) : DTT := fun env m Q => te env m fun d m1 => ∃ b, dTru (look m1 d) = some b ∧ Q b m1
theorem dt_truth (h : DE X e te) (he : ∀ whole, isTrue e X.env whole = (do let v ← whole; standAt e.pos; holding [v] (truthy v)) := by intro _; rfl) : DT X e (tTru te) := ⟨PT.weak (pt_truth h.run he) fun σ H Q h => by
  obtain ⟨env, m, R, eo, s, h, k⟩ := h
  refine ⟨env, m, _, eo, s, h, fun d m1 v H1 h1 f1 s1 r1 => ?_⟩
  obtain ⟨b, e, h1⟩ := h1
  exact ⟨b, truV (cont_of s1 r1) e, k b m1 H1 h1 f1 s1⟩⟩
structure DW (X : Cx) (e : Expr) (t : DTT) : Prop where run : PW X e (liftT X.K t)
theorem PW.weak {t t' : TT} (h : PW X e t) (k : ∀ σ H Q, t' σ H Q → t σ H Q) : PW X e t' := ⟨fun wh pins s σ H Q I q => h.run wh pins s σ H Q I (k σ H Q q)⟩
theorem DW.dt {t : DTT} (h : DW X e t) : DT X e t := ⟨h.run.pt⟩
def tAndT (t u : DTT) : DTT := fun env m Q => t env m fun c m1 => if c = true then u env m1 Q else Q false m1
def tOrT (t u : DTT) : DTT := fun env m Q => t env m fun c m1 => if c = true then Q true m1 else u env m1 Q
def tNotT (t : DTT) : DTT := fun env m Q => t env m fun c m1 => Q (!c) m1
variable {t u : DTT}
theorem dw_and1 (ha : DT X a t) : DW X (.BoolOp .And [a] pos) t := ⟨pw_and1 ha.run⟩
theorem dw_or1 (ha : DT X a t) : DW X (.BoolOp .Or [a] pos) t := ⟨pw_or1 ha.run⟩
theorem dw_and (ha : DT X a t) (hb : DW X (.BoolOp .And (b :: rest) pos) u) : DW X (.BoolOp .And (a :: b :: rest) pos) (tAndT t u) := ⟨PW.weak (pw_and ha.run hb.run) fun σ H Q h => by
  obtain ⟨env, m, R, eo, s, h, k⟩ := h
  refine ⟨env, m, _, eo, s, h, fun c m1 H1 h1 f1 s1 => ?_⟩
  cases c with
  | true =>
    simp only [if_true] at h1 ⊢
    exact ⟨env, m1, R, eo.mono f1, s1, h1, fun b m2 H2 h2 f2 s2 => k b m2 H2 h2 (f1.trans f2) s2⟩
  | false =>
    simp only [Bool.false_eq_true, if_false] at h1 ⊢
    exact k false m1 H1 h1 f1 s1⟩
theorem dw_or (ha : DT X a t) (hb : DW X (.BoolOp .Or (b :: rest) pos) u) : DW X (.BoolOp .Or (a :: b :: rest) pos) (tOrT t u) := ⟨PW.weak (pw_or ha.run hb.run) fun σ H Q h => by
  obtain ⟨env, m, R, eo, s, h, k⟩ := h
  refine ⟨env, m, _, eo, s, h, fun c m1 H1 h1 f1 s1 => ?_⟩
  cases c with
  | false =>
    simp only [Bool.false_eq_true, if_false] at h1 ⊢
    exact ⟨env, m1, R, eo.mono f1, s1, h1, fun b m2 H2 h2 f2 s2 => k b m2 H2 h2 (f1.trans f2) s2⟩
  | true =>
    simp only [if_true] at h1 ⊢
    exact k true m1 H1 h1 f1 s1⟩
theorem dt_not (ha : DT X a t) : DT X (.UnaryOp .Not a pos) (tNotT t) := ⟨PT.weak (pt_not ha.run) fun σ H Q h => by
  obtain ⟨env, m, R, eo, s, h, k⟩ := h
  exact ⟨env, m, _, eo, s, h, fun c m1 H1 h1 f1 s1 => k (!c) m1 H1 h1 f1 s1⟩⟩
/-- as values -/
def tOrV (ta tb : DTE) : DTE := fun env m Q => ta env m fun d m1 => ∃ b, dTru (look m1 d) = some b ∧ if b = true then Q d m1 else tb env m1 Q
def tAndV (ta tb : DTE) : DTE := fun env m Q => ta env m fun d m1 => ∃ b, dTru (look m1 d) = some b ∧ if b = true then tb env m1 Q else Q d m1
def tNotV (ta : DTE) : DTE := fun env m Q => ta env m fun d m1 => ∃ b, dTru (look m1 d) = some b ∧ Q (.bl (!b)) m1
theorem de_one {op : BoolOp} (h : DE X a ta) : DE X (.BoolOp op [a] pos) ta := ⟨pe_one h.run⟩
theorem de_or (ha : DE X a ta) (hb : DE X (.BoolOp .Or (b :: rest) pos) tb) : DE X (.BoolOp .Or (a :: b :: rest) pos) (tOrV ta tb) := ⟨PE.weak (pe_orT ha.run hb.run) fun σ H Q h => by
  obtain ⟨env, m, R, eo, s, h, k⟩ := h
  refine ⟨env, m, _, eo, s, h, fun d m1 v H1 h1 f1 s1 r1 => ?_⟩
  obtain ⟨c, e, h1⟩ := h1
  refine ⟨c, truV (cont_of s1 r1) e, ?_⟩
  cases c with
  | false =>
    simp only [Bool.false_eq_true, if_false] at h1 ⊢
    exact ⟨env, m1, R, eo.mono f1, s1, h1, fun b m2 v2 H2 h2 f2 s2 r2 => k b m2 v2 H2 h2 (f1.trans f2) s2 r2⟩
  | true =>
    simp only [if_true] at h1 ⊢
    exact k d m1 v H1 h1 f1 s1 r1⟩
theorem de_and (ha : DE X a ta) (hb : DE X (.BoolOp .And (b :: rest) pos) tb) : DE X (.BoolOp .And (a :: b :: rest) pos) (tAndV ta tb) := ⟨PE.weak (pe_andT ha.run hb.run) fun σ H Q h => by
  obtain ⟨env, m, R, eo, s, h, k⟩ := h
  refine ⟨env, m, _, eo, s, h, fun d m1 v H1 h1 f1 s1 r1 => ?_⟩
  obtain ⟨c, e, h1⟩ := h1
  refine ⟨c, truV (cont_of s1 r1) e, ?_⟩
  cases c with
  | true =>
    simp only [if_true] at h1 ⊢
    exact ⟨env, m1, R, eo.mono f1, s1, h1, fun b m2 v2 H2 h2 f2 s2 r2 => k b m2 v2 H2 h2 (f1.trans f2) s2 r2⟩
  | false =>
    simp only [Bool.false_eq_true, if_false] at h1 ⊢
    exact k d m1 v H1 h1 f1 s1 r1⟩
theorem de_not (ha : DE X a ta) : DE X (.UnaryOp .Not a pos) (tNotV ta) := ⟨PE.weak (pe_notT ha.run) fun σ H Q h => by
  obtain ⟨env, m, R, eo, s, h, k⟩ := h
  refine ⟨env, m, _, eo, s, h, fun d m1 v H1 h1 f1 s1 r1 => ?_⟩
  obtain ⟨c, e, h1⟩ := h1
  exact ⟨c, truV (cont_of s1 r1) e, k (.bl (!c)) m1 _ H1 h1 f1 s1 rep_bl⟩⟩
def tIfD (t : DTT) (ta tb : DTE) : DTE := fun env m Q => t env m fun c m1 => if c = true then ta env m1 Q else tb env m1 Q
theorem de_if {c : Expr} (hc : DT X c t) (ha : DE X a ta) (hb : DE X b tb) : DE X (.IfExp c a b pos) (tIfD t ta tb) := ⟨PE.weak (pe_ifExp hc.run ha.run hb.run) fun σ H Q h => by
  obtain ⟨env, m, R, eo, s, h, k⟩ := h
  refine ⟨env, m, _, eo, s, h, fun c m1 H1 h1 f1 s1 => ?_⟩
  cases c with
  | true =>
    simp only [if_true] at h1 ⊢
    exact ⟨env, m1, R, eo.mono f1, s1, h1, fun b m2 v2 H2 h2 f2 s2 r2 => k b m2 v2 H2 h2 (f1.trans f2) s2 r2⟩
  | false =>
    simp only [Bool.false_eq_true, if_false] at h1 ⊢
    exact ⟨env, m1, R, eo.mono f1, s1, h1, fun b m2 v2 H2 h2 f2 s2 r2 => k b m2 v2 H2 h2 (f1.trans f2) s2 r2⟩⟩

/-! built-ins by values -/
def liftC (K : PySem.W.Frag) (f : M → List D → Option D) : List V → Hp → VK → Prop := fun vs H Q => ∃ ds m d, RepL K m H ds vs ∧ Sim K m H ∧ f m ds = some d ∧ ∀ w H', Fr m H m H' → Sim K m H' → Rep K m H' d w → Q w H'
def DCall (X : Cx) (g : Value) (f : M → List D → Option D) : Prop := CallR X g (liftC X.K f)
theorem callW {g : Value} {r r' : List V → Hp → VK → Prop} (h : CallR X g r) (k : ∀ x H Q, r' x H Q → r x H Q) : CallR X g r' := fun pins s σ H x us Q I r q => h pins s σ H x us Q I r (k _ _ _ q)
def tFn (f : M → List D → Option D) (t : DTA) : DTE := fun env m Q => t env m fun ds m1 => ∃ d, f m1 ds = some d ∧ Q d m1
theorem fn_lift {f : M → List D → Option D} {t : DTA} {σ : L2.St} {H : Hp} {Q : VK} (h : liftE X.K (tFn f t) σ H Q) : tCB (liftC X.K f) (liftA X.K t) σ H Q := by
  obtain ⟨env, m, R, eo, s, h, k⟩ := h
  refine ⟨env, m, _, eo, s, h, fun ds m1 vs H1 h1 f1 s1 r1 => ?_⟩
  obtain ⟨d, e, h1⟩ := h1
  exact ⟨ds, m1, d, r1, s1, e, fun w H' f2 s2 r2 => k d m1 w H' h1 (f1.trans f2) s2 r2⟩
theorem de_fn {id : String} {f : M → List D → Option D} {t : DTA} {x : Str} {p : Pos} (hc : DCall X (.builtin id) f) (hm : X.mg x = none) (hv : bootBuiltins x = some (.builtin id)) (ha : DA X (e :: es) t) (hg : Gl X x := by rfl) (hn : x ≠ "__name__" := by decide) (hdb : (x == ("__debug__" : Str)) = false := by decide)
    (he : starEach (e :: es) X.env = (false, eval e X.env) :: starEach es X.env := by rfl) (hpl : (backTo pos (starEach es X.env)).any (·.1) = false := by rfl) : DE X (.Call (.Name x p) (e :: es) [] pos) (tFn f t) :=
  ⟨PE.weak (pe_callB hc hg hm hv ha.run hn hdb he hpl) fun _ _ _ h => fn_lift h⟩
theorem de_ty {T : String} {f : M → List D → Option D} {t : DTA} {x : Str} {p : Pos} (hc : DCall X (.type T) f) (hm : X.mg x = none) (hv : bootBuiltins x = some (.type T)) (ha : DA X (e :: es) t) (hg : Gl X x := by rfl) (hn : x ≠ "__name__" := by decide) (hdb : (x == ("__debug__" : Str)) = false := by decide)
    (he : starEach (e :: es) X.env = (false, eval e X.env) :: starEach es X.env := by rfl) (hpl : (backTo pos (starEach es X.env)).any (·.1) = false := by rfl) : DE X (.Call (.Name x p) (e :: es) [] pos) (tFn f t) :=
  ⟨PE.weak (pe_callTy hc hg hm hv ha.run hn hdb he hpl) fun _ _ _ h => fn_lift h⟩
def d1 (f : D → Option D) (m : M) : List D → Option D
  | [x] => f (look m x)
  | _ => none
theorem repL1 {K : PySem.W.Frag} {m : M} {H : Hp} {x : D} {vs : List V} (r : RepL K m H [x] vs) : ∃ v, vs = [v] ∧ Rep K m H x v := by
  simp only [RepL] at r
  obtain ⟨v, r', e, h1, h2⟩ := r
  subst h2
  exact ⟨v, e, h1⟩
theorem dc_1 {g : Value} {f : D → Option D} {r : List V → Hp → VK → Prop} (ho : CallR X g r)
    (k : ∀ c m d v H Q, Cont X.K m H c v → Sim X.K m H → f c = some d → (∀ w H', Fr m H m H' → Sim X.K m H' → Rep X.K m H' d w → Q w H') → r [v] H Q) : DCall X g (d1 f) :=
  callW ho fun vs H Q ⟨ds, m, d, r, s, e, q⟩ => by
    cases ds with
    | nil => cases e
    | cons x ds =>
      cases ds with
      | cons _ _ => cases e
      | nil =>
        obtain ⟨v, rfl, r1⟩ := repL1 r
        exact k _ m d v H Q (cont_of s r1) s e q
def dLen : D → Option D
  | .lst ds => some (.int ds.length)
  | .tup ds => some (.int ds.length)
  | .str x => if x.length ≤ sizeLine then some (.int x.length) else none
  | .dic ks vs => some (.int vs.length)
  | _ => none
theorem call_lenDR : CallR X (.builtin "len") (fun xs H Q => ∃ a kvs, xs = [V.ref a] ∧ Rd H a (.dK kvs) ∧ Q (.int kvs.length) H) := by
  intro pins s σ H xs us Q I r h
  obtain ⟨a, kvs, rfl, hd, q⟩ := h
  obtain rfl := Vals.ref1 r
  exact d_len I hd fun t s' I' => ⟨.int _, H, I', ⟨t, rfl⟩, q⟩
theorem dc_len : DCall X (.builtin "len") (d1 dLen) := dc_1 (call_len.or call_lenDR) fun c m d v H Q cc s e q => by
  unfold dLen at e
  split at e
  · cases e
    obtain ⟨p, vs, rfl, hp, r⟩ := cont_lst cc
    refine .inl ⟨_, vs.length, rfl, .inl ⟨vs, .of hp, rfl⟩, ?_⟩
    rw [← r.length]
    exact q _ _ Fr.refl s rep_int
  · cases e
    obtain ⟨p, vs, rfl, hp, r⟩ := cont_tup cc
    refine .inl ⟨_, vs.length, rfl, .inr ⟨vs, tupAt_sq hp, rfl⟩, ?_⟩
    rw [← r.length]
    exact q _ _ Fr.refl s rep_int
  · split at e
    · cases e
      rw [cont_str cc]
      exact .inl ⟨_, _, rfl, ⟨by assumption, rfl⟩, q _ _ Fr.refl s rep_int⟩
    · cases e
  · cases e
    obtain ⟨p, vs, rfl, ⟨kvs, hd, rfl, rfl⟩, r⟩ := cont_dic cc
    refine .inr ⟨p, kvs, rfl, hd, ?_⟩
    have l := r.length
    rw [List.length_map] at l
    rw [← l]
    exact q _ _ Fr.refl s rep_int
  · cases e
def dInt : D → Option D
  | .int i => some (.int i)
  | .bl b => some (.int (if b then 1 else 0))
  | _ => none
theorem dc_int : DCall X (.type "int") (d1 dInt) := dc_1 call_int1 fun c m d v H Q cc s e q => by
  unfold dInt at e
  split at e
  · cases e; rw [cont_int cc]; exact .inl ⟨_, rfl, q _ _ Fr.refl s rep_int⟩
  · cases e; rw [cont_bl cc]; exact .inr ⟨_, rfl, q _ _ Fr.refl s rep_int⟩
  · cases e
def dAbs : D → Option D
  | .int i => some (.int (if i < 0 then -i else i))
  | _ => none
theorem dc_abs : DCall X (.builtin "abs") (d1 dAbs) := dc_1 call_abs fun c m d v H Q cc s e q => by
  unfold dAbs at e
  split at e
  · cases e; rw [cont_int cc]; exact ⟨_, rfl, q _ _ Fr.refl s rep_int⟩
  · cases e
def dList : D → Option D
  | .lst ds => some (.lst ds)
  | .tup ds => some (.lst ds)
  | .dic ks _ => some (.lst ks)
  | _ => none
theorem rep_kk {K : PySem.W.Frag} {m : M} {H : Hp} (k : Key) : Rep K m H (kD k) (kV k) := by cases k <;> simp only [kD, kV, Rep]
theorem repL_keys {K : PySem.W.Frag} {m : M} {H : Hp} : ∀ kvs : List (Key × V), RepL K m H (kvs.map fun kv => kD kv.1) (kvs.map fun kv => kV kv.1)
  | [] => .nil
  | kv :: kvs => .cons (rep_kk kv.1) (repL_keys kvs)
theorem dc_list (hc : X.calm = true) : DCall X (.type "list") (d1 dList) := dc_1 (call_list_of.or (call_listD hc)) fun c m d v H Q cc s e q => by
  unfold dList at e
  split at e
  · cases e
    obtain ⟨p, vs, rfl, hp, r⟩ := cont_lst cc
    exact .inl ⟨p, vs, rfl, .inl (.of hp), fun l hl => q _ _ (Fr.laid s hl) (s.laid hl) (new_lst s hl r)⟩
  · cases e
    obtain ⟨p, vs, rfl, hp, r⟩ := cont_tup cc
    exact .inl ⟨p, vs, rfl, .inr (tupAt_sq hp), fun l hl => q _ _ (Fr.laid s hl) (s.laid hl) (new_lst s hl r)⟩
  · cases e
    obtain ⟨p, vs, rfl, ⟨kvs, hd, rfl, rfl⟩, r⟩ := cont_dic cc
    exact .inr ⟨p, kvs, rfl, hd, fun l hl => q _ _ (Fr.laid s hl) (s.laid hl) (new_lst s hl (repL_keys kvs))⟩
  · cases e
def dTuple : D → Option D
  | .lst ds => some (.tup ds)
  | .tup ds => some (.tup ds)
  | _ => none
theorem dc_tuple : DCall X (.type "tuple") (d1 dTuple) := dc_1 call_tuple_of fun c m d v H Q cc s e q => by
  unfold dTuple at e
  split at e
  · cases e
    obtain ⟨p, vs, rfl, hp, r⟩ := cont_lst cc
    exact ⟨p, vs, rfl, .inl ⟨.of hp, fun l hl => q _ _ (Fr.laid s hl) (s.laid hl) (new_tup s hl r)⟩⟩
  · cases e
    obtain ⟨p, vs, rfl, hp, r⟩ := cont_tup cc
    exact ⟨p, vs, rfl, .inr ⟨tupAt_sq hp, q _ _ Fr.refl s (by simp only [Rep]; exact ⟨p, vs, rfl, hp, r⟩)⟩⟩
  · cases e
def boolsOf : List D → Option (List Bool)
  | [] => some []
  | .bl b :: ds => (boolsOf ds).map (b :: ·)
  | _ => none
theorem boolsOf_rep {K : PySem.W.Frag} {m : M} {H : Hp} : ∀ {ds : List D} {bs : List Bool} {vs : List V}, boolsOf ds = some bs → RepL K m H ds vs → vs = bs.map V.bl
  | [], bs, vs, e, r => by simp only [boolsOf, Option.some.injEq] at e; subst e; simp only [RepL] at r; exact r
  | d :: ds, bs, vs, e, r => by
    simp only [RepL] at r
    obtain ⟨v, r', rfl, h1, h2⟩ := r
    cases d with
    | bl b =>
      simp only [boolsOf, Option.map_eq_some_iff] at e
      obtain ⟨bs', e', rfl⟩ := e
      simp only [Rep] at h1
      rw [h1, boolsOf_rep e' h2]; rfl
    | _ => simp [boolsOf] at e
def dAll : D → Option D
  | .lst ds => (boolsOf ds).map fun bs => .bl (bs.all id)
  | _ => none
def dAny : D → Option D
  | .lst ds => (boolsOf ds).map fun bs => .bl (bs.any id)
  | _ => none
theorem dc_all (hc : X.calm = true) : DCall X (.builtin "all") (d1 dAll) := dc_1 (cr_all hc) fun c m d v H Q cc s e q => by
  unfold dAll at e
  split at e
  · obtain ⟨bs, eb, rfl⟩ := Option.map_eq_some_iff.mp e
    obtain ⟨p, vs, rfl, hp, r⟩ := cont_lst cc
    have := boolsOf_rep eb r
    subst this
    exact ⟨p, bs, rfl, .of hp, q _ _ Fr.refl s rep_bl⟩
  · cases e
theorem dc_any (hc : X.calm = true) : DCall X (.builtin "any") (d1 dAny) := dc_1 (cr_any hc) fun c m d v H Q cc s e q => by
  unfold dAny at e
  split at e
  · obtain ⟨bs, eb, rfl⟩ := Option.map_eq_some_iff.mp e
    obtain ⟨p, vs, rfl, hp, r⟩ := cont_lst cc
    have := boolsOf_rep eb r
    subst this
    exact ⟨p, bs, rfl, .of hp, q _ _ Fr.refl s rep_bl⟩
  · cases e
end
end DL
/-! ### DL6: statements, loops, comprehensions -/
namespace DL
open PySem PySem.Spec PyProof.Rows L2

section
variable {X : Cx} {e a b tg iter : Expr} {es : List Expr} {st : Stmt} {rest body : List Stmt} {te ta tb : DTE} {t u : DTS} {pos : Pos}
/-! statements -/
def tNx : DTS := fun env m E => E.nx env m
def tSq (t u : DTS) : DTS := fun env m E => t env m { E with nx := fun env' m' => u env' m' E }
theorem dss_nil : DSs X [] tNx := ⟨PSs.weak pss_nil fun D σ H h => by
  obtain ⟨env, m, E, eo, s, h, k1, _⟩ := h
  exact k1 env m σ H h eo s Fr.refl⟩
theorem dss_cons (h1 : DS X st t) (h2 : DSs X rest u) : DSs X (st :: rest) (tSq t u) := ⟨PSs.weak (pss_cons h1.run h2.run) fun D σ H h => by
  obtain ⟨env, m, E, eo, s, h, k1, k2, k3, k4⟩ := h
  refine ⟨env, m, _, eo, s, h, fun env' m' σ' H' h' eo' s' f' => ?_, k2, k3, k4⟩
  exact ⟨env', m', E, eo', s', h', fun env2 m2 σ2 H2 a1 a2 a3 a4 => k1 env2 m2 σ2 H2 a1 a2 a3 (f'.trans a4), fun d m2 v H2 a1 a2 a3 a4 => k2 d m2 v H2 a1 (f'.trans a2) a3 a4,
    fun env2 m2 σ2 H2 a1 a2 a3 a4 => k3 env2 m2 σ2 H2 a1 a2 a3 (f'.trans a4), fun env2 m2 σ2 H2 a1 a2 a3 a4 => k4 env2 m2 σ2 H2 a1 a2 a3 (f'.trans a4)⟩⟩
theorem dss_one (h1 : DS X st t) : DSs X [st] t := ⟨pss_one h1.run⟩
def tBrk : DTS := fun env m E => E.bk env m
def tCnt : DTS := fun env m E => E.ct env m
def tNev : DTS := fun _ _ _ => False
theorem ds_pass : DS X (.Pass pos) tNx := ⟨PS.weak ps_pass fun D σ H h => by
  obtain ⟨env, m, E, eo, s, h, k1, _⟩ := h
  exact k1 env m σ H h eo s Fr.refl⟩
theorem ds_break : DS X (.Break pos) tBrk := ⟨PS.weak ps_break fun D σ H h => by
  obtain ⟨env, m, E, eo, s, h, k1, k2, k3, k4⟩ := h
  exact k3 env m σ H h eo s Fr.refl⟩
theorem ds_continue : DS X (.Continue pos) tCnt := ⟨PS.weak ps_continue fun D σ H h => by
  obtain ⟨env, m, E, eo, s, h, k1, k2, k3, k4⟩ := h
  exact k4 env m σ H h eo s Fr.refl⟩
theorem ds_never : DS X st tNev := ⟨⟨fun pins s σ H D I h => by obtain ⟨_, _, _, _, _, z, _⟩ := h; exact z.elim⟩⟩
theorem dss_never {sts : List Stmt} : DSs X sts tNev := ⟨⟨fun pins s σ H D I h => by obtain ⟨_, _, _, _, _, z, _⟩ := h; exact z.elim⟩⟩
def tDr (te : DTE) : DTS := fun env m E => te env m fun _ m1 => E.nx env m1
theorem ds_expr (he : DE X e te) (hs : swapsWith e none pos.line X.env = pure false := by rfl) : DS X (.Expr e pos) (tDr te) := ⟨PS.weak (ps_expr he.run hs) fun D σ H h => by
  obtain ⟨env, m, E, eo, s, h, k1, k2, k3, k4⟩ := h
  exact ⟨env, m, _, eo, s, h, fun d m1 v H1 h1 f1 s1 r1 => k1 env m1 σ H1 h1 (eo.mono f1) s1 f1⟩⟩
def tRt (te : DTE) : DTS := fun env m E => te env m E.rt
theorem ds_ret (he : DE X e te) : DS X (.Return (some e) pos) (tRt te) := ⟨PS.weak (ps_ret he.run) fun D σ H h => by
  obtain ⟨env, m, E, eo, s, h, k1, k2, k3, k4⟩ := h
  exact ⟨env, m, _, eo, s, h, fun d m1 v H1 h1 f1 s1 r1 => k2 d m1 v H1 h1 f1 s1 r1⟩⟩
def tRtN : DTS := fun _ m E => E.rt .non m
theorem ds_retN : DS X (.Return none pos) tRtN := ⟨PS.weak ps_retN fun D σ H h => by
  obtain ⟨env, m, E, eo, s, h, k1, k2, k3, k4⟩ := h
  exact k2 .non m .non H h Fr.refl s rep_non⟩
def tIfS (c : DTT) (t u : DTS) : DTS := fun env m E => c env m fun b m1 => if b = true then t env m1 E else u env m1 E
theorem ds_if {c : Expr} {sa sb : List Stmt} {tc : DTT} (hc : DT X c tc) (ha : DSs X sa t) (hb : DSs X sb u) : DS X (.If c sa sb pos) (tIfS tc t u) := ⟨PS.weak (ps_if hc.run ha.run hb.run) fun D σ H h => by
  obtain ⟨env, m, E, eo, s, h, k1, k2, k3, k4⟩ := h
  refine ⟨env, m, _, eo, s, h, fun c m1 H1 h1 f1 s1 => ?_⟩
  have go : ∀ {t : DTS}, t env m1 E → liftS X.K t D σ H1 := fun {t} h1 => ⟨env, m1, E, eo.mono f1, s1, h1, fun env2 m2 σ2 H2 a1 a2 a3 a4 => k1 env2 m2 σ2 H2 a1 a2 a3 (f1.trans a4), fun d m2 v H2 a1 a2 a3 a4 => k2 d m2 v H2 a1 (f1.trans a2) a3 a4,
    fun env2 m2 σ2 H2 a1 a2 a3 a4 => k3 env2 m2 σ2 H2 a1 a2 a3 (f1.trans a4), fun env2 m2 σ2 H2 a1 a2 a3 a4 => k4 env2 m2 σ2 H2 a1 a2 a3 (f1.trans a4)⟩
  cases c with
  | true => simp only [if_true] at h1 ⊢; exact go h1
  | false => simp only [Bool.false_eq_true, if_false] at h1 ⊢; exact go h1⟩
def tSet (i : Nat) (te : DTE) : DTS := fun env m E => te env m fun d m1 => E.nx (env.set i (some d)) m1
theorem set_lift {i : Nat} {tr : TE} (hw : ∀ σ H Q, liftE X.K te σ H Q → tr σ H Q) {D : Ends} {σ : L2.St} {H : Hp} (h : liftS X.K (tSet i te) D σ H) : tAsg tr (gName i) D σ H := by
  obtain ⟨env, m, E, eo, s, h, k1, k2, k3, k4⟩ := h
  refine hw _ _ _ ⟨env, m, _, eo, s, h, fun d m1 v H1 h1 f1 s1 r1 => ?_⟩
  exact k1 _ m1 _ H1 h1 ((eo.mono f1).set i r1) s1 f1
theorem ds_set {i : Nat} {x : Str} {pos' : Pos} (he : DE X e te) (hN : X.N.Nodup) (hi : X.N[i]? = some x := by rfl) (hx : Loc X.env.scope x := by first | exact Or.inl rfl | exact Or.inr rfl) (hs : swapsWith e (some (.Name x pos')) pos.line X.env = pure false := by rfl)
    (hf : X.fn x = true ∨ X.env.scope.names.lookup x = some .local := by first | exact .inl rfl | exact .inr rfl) :
    DS X (.Assign [.Name x pos'] e pos) (tSet i te) := ⟨PS.weak (ps_set hN hi hx he.run hs hf) fun D σ H h => set_lift (fun _ _ _ q => q) h⟩
/-! targets -/
def gN (i : Nat) : DTG := fun d env m Q => Q (env.set i (some d)) m
theorem dg_name {i : Nat} {x : Str} (hN : X.N.Nodup) (hi : X.N[i]? = some x := by rfl) (hx : Loc X.env.scope x := by first | exact Or.inl rfl | exact Or.inr rfl)
    (hf : X.fn x = true ∨ X.env.scope.names.lookup x = some .local := by first | exact .inl rfl | exact .inr rfl) : DG X (.Name x pos) (gN i) := ⟨PG.weak (pg_name hN hi hx hf) fun v σ H Q h => by
  obtain ⟨d, env, m, R, r, eo, s, h, k⟩ := h
  exact k _ m _ H h (eo.set i r) s Fr.refl⟩
/-- the names of a tuple target -/
def setL : List Nat → List D → Env → Env
  | i :: is, d :: ds, env => setL is ds (env.set i (some d))
  | _, _, env => env
def setLV : List Nat → List V → L2.St → L2.St
  | i :: is, d :: ds, env => setLV is ds (env.set i (some d))
  | _, _, env => env
theorem EnvOk.setL {K : PySem.W.Frag} {m : M} {H : Hp} : ∀ {is : List Nat} {ds : List D} {vs : List V} {σ : L2.St} {env : Env}, RepL K m H ds vs → EnvOk K m H σ env → EnvOk K m H (setLV is vs σ) (DL.setL is ds env)
  | [], ds, vs, σ, env, r, eo => by cases ds <;> cases vs <;> exact eo
  | i :: is, [], vs, σ, env, r, eo => by simp only [RepL] at r; subst r; exact eo
  | i :: is, d :: ds, vs, σ, env, r, eo => by
    simp only [RepL] at r
    obtain ⟨v, r', rfl, h1, h2⟩ := r
    exact EnvOk.setL (is := is) (ds := ds) (vs := r') h2 (eo.set i h1)
def gNames : List Nat → TGs
  | [] => gNil
  | i :: is => gCons (gName i) (gNames is)
theorem gNames_of {σ : L2.St} {H : Hp} {Q : L2.St → Hp → Prop} : ∀ {is : List Nat} {vs : List V} {σ : L2.St}, vs.length = is.length → Q (setLV is vs σ) H → gNames is vs σ H Q
  | [], [], σ, _, q => ⟨rfl, q⟩
  | i :: is, v :: vs, σ, hl, q => ⟨v, vs, rfl, gNames_of (σ := σ) (by simpa using hl) q⟩
/-- a target: a name, or names in a tuple -/
inductive Tgt where
  | one (i : Nat)
  | many (is : List Nat)
def Tgt.ix : Tgt → List Nat
  | .one i => [i]
  | .many is => is
def tgD : Tgt → DTG
  | .one i => gN i
  | .many is => fun d env m Q => ∃ ds, look m d = .tup ds ∧ ds.length = is.length ∧ Q (setL is ds env) m
def tgR (K : PySem.W.Frag) : Tgt → TG
  | .one i => gName i
  | .many is => gTup K is.length (gNames is)
theorem wipe_set {vs : List Nat} {i : Nat} (h : i ∈ vs) (σ : L2.St) (v : Option V) : L2.wipe (σ.set i v) vs = L2.wipe σ vs := by
  induction vs with
  | nil => cases h
  | cons j vs ih =>
    show (L2.wipe (σ.set i v) vs).set j none = (L2.wipe σ vs).set j none
    have comm : ∀ ws : List Nat, (i ∈ ws → L2.wipe (σ.set i v) ws = L2.wipe σ ws) → ¬ i ∈ ws → L2.wipe (σ.set i v) ws = (L2.wipe σ ws).set i v := by
      intro ws
      induction ws with
      | nil => intro _ _; rfl
      | cons k ws ih2 =>
        intro _ hn
        simp only [List.mem_cons, not_or] at hn
        show (L2.wipe (σ.set i v) ws).set k none = ((L2.wipe σ ws).set k none).set i v
        rw [ih2 (fun z => absurd z hn.2) hn.2, List.set_comm _ _ hn.1]
    by_cases hv : i ∈ vs
    · rw [ih hv]
    · have hij : i = j := by
        rcases List.mem_cons.mp h with z | z
        · exact z
        · exact absurd z hv
      subst hij
      rw [comm vs ih hv, List.set_set]
theorem wipe_setLV {vs : List Nat} : ∀ {is : List Nat} {ws : List V} {σ : L2.St}, (∀ i ∈ is, i ∈ vs) → L2.wipe (setLV is ws σ) vs = L2.wipe σ vs
  | [], ws, σ, _ => by cases ws <;> rfl
  | i :: is, [], σ, _ => rfl
  | i :: is, w :: ws, σ, h => by
    show L2.wipe (setLV is ws (σ.set i (some w))) vs = _
    rw [wipe_setLV fun j hj => h j (List.mem_cons_of_mem _ hj), wipe_set (h i List.mem_cons_self)]
/-- what a target's store does, in full -/
theorem tg_run {K : PySem.W.Frag} {g : Tgt} {d : D} {v : V} {env : Env} {m : M} {H : Hp} {σ : L2.St} {R : Env → M → Prop} {Q : L2.St → Hp → Prop} (r : Rep K m H d v) (eo : EnvOk K m H σ env) (s : Sim K m H) (h : tgD g d env m R)
    (k : ∀ env' σ', R env' m → EnvOk K m H σ' env' → (∀ vs, (∀ i ∈ g.ix, i ∈ vs) → L2.wipe σ' vs = L2.wipe σ vs) → Q σ' H) : tgR K g v σ H Q := by
  cases g with
  | one i => exact k _ _ h (eo.set i r) fun vs hv => wipe_set (hv i List.mem_cons_self) _ _
  | many is =>
    obtain ⟨ds, e, hl, h⟩ := h
    have c := cont_of s r
    rw [e] at c
    obtain ⟨a, vs, rfl, ha, rl⟩ := cont_tup c
    have hl2 : vs.length = is.length := by rw [← rl.length]; exact hl
    refine ⟨a, vs, rfl, tupAt_sq ha, hl2, gNames_of (σ := σ) hl2 (k _ _ h (EnvOk.setL rl eo) fun ws hw => wipe_setLV hw)⟩
structure DGt (X : Cx) (e : Expr) (g : Tgt) : Prop where run : PG X e (tgR X.K g)
theorem dgt_one {i : Nat} {x : Str} (hN : X.N.Nodup) (hi : X.N[i]? = some x := by rfl) (hx : Loc X.env.scope x := by first | exact Or.inl rfl | exact Or.inr rfl)
    (hf : X.fn x = true ∨ X.env.scope.names.lookup x = some .local := by first | exact .inl rfl | exact .inr rfl) : DGt X (.Name x pos) (.one i) := ⟨pg_name hN hi hx hf⟩
structure DGn (X : Cx) (es : List Expr) (is : List Nat) : Prop where run : PGs X es (gNames is)
theorem dgn_nil : DGn X [] [] := ⟨pgs_nil⟩
theorem dgn_cons {i : Nat} {is : List Nat} {x : Str} (hr : DGn X es is) (hN : X.N.Nodup) (hi : X.N[i]? = some x := by rfl) (hx : Loc X.env.scope x := by first | exact Or.inl rfl | exact Or.inr rfl)
    (hf : X.fn x = true ∨ X.env.scope.names.lookup x = some .local := by first | exact .inl rfl | exact .inr rfl) (hs : (assignEach (.Name x pos :: es) X.env).map (·.2) = assign (.Name x pos) X.env :: (assignEach es X.env).map (·.2) := by rfl) :
    DGn X (.Name x pos :: es) (i :: is) := ⟨pgs_cons (pg_name hN hi hx hf) hr.run hs⟩
theorem dgt_many {is : List Nat} {k : Nat} (hc : X.calm = true) (h : DGn X es is) (hn : (assignEach es X.env).length = is.length := by rfl) (hst : (assignEach es X.env).findIdx? (·.1) = none := by rfl) : DGt X (.Tuple es k pos) (.many is) :=
  ⟨pg_tup hc h.run hn hst⟩
theorem DGt.dg {g : Tgt} (h : DGt X e g) : DG X e (tgD g) := ⟨PG.weak h.run fun v σ H Q h => by
  obtain ⟨d, env, m, R, r, eo, s, h, k⟩ := h
  exact tg_run r eo s h fun env' σ' h' eo' _ => k env' m σ' H h' eo' s Fr.refl⟩
def tAs (te : DTE) (g : DTG) : DTS := fun env m E => te env m fun d m1 => g d env m1 E.nx
theorem ds_asg {g : DTG} (he : DE X e te) (hg : DG X tg g) (hs : swapsWithSole [tg] e pos.line X.env = pure false := by rfl) (hw : swappedStores [tg] e X.env = pure none := by rfl)
    (h1 : (assignEach [tg] X.env).map (·.2) = [assign tg X.env] := by rfl) : DS X (.Assign [tg] e pos) (tAs te g) := ⟨PS.weak (ps_asg he.run hg.run hs hw h1) fun D σ H h => by
  obtain ⟨env, m, E, eo, s, h, k1, k2, k3, k4⟩ := h
  refine ⟨env, m, _, eo, s, h, fun d m1 v H1 h1 f1 s1 r1 => ?_⟩
  exact ⟨d, env, m1, _, r1, eo.mono f1, s1, h1, fun env' m' σ' H' a1 a2 a3 a4 => k1 env' m' σ' H' a1 a2 a3 (f1.trans a4)⟩⟩
def tPr (i j : Nat) (ta : DTA) : DTS := fun env m E => ta env m fun ds m1 => ∃ x y, ds = [x, y] ∧ E.nx ((env.set i (some x)).set j (some y)) m1
theorem ds_par {i j : Nat} {x y : Str} {px py pt : Pos} {kt k2 : Nat} {pt2 : Pos} {ta : DTA} (ha : DA X [a, b] ta) (hc : X.calm = true) (hN : X.N.Nodup) (hi : X.N[i]? = some x := by rfl) (hj : X.N[j]? = some y := by rfl) (hij : i ≠ j := by decide)
    (hx : X.env.scope.names.lookup x = some .local := by rfl) (hy : X.env.scope.names.lookup y = some .local := by rfl)
    (hw : swappedStores [.Tuple [.Name x px, .Name y py] kt pt] (.Tuple [a, b] k2 pt2) X.env = pure (some [x, y]) := by rfl)
    (hs : swapsWithSole [.Tuple [.Name x px, .Name y py] kt pt] (.Tuple [a, b] k2 pt2) pos.line X.env = pure false := by rfl) :
    DS X (.Assign [.Tuple [.Name x px, .Name y py] kt pt] (.Tuple [a, b] k2 pt2) pos) (tPr i j ta) := ⟨PS.weak (ps_par hc hN hi hj hij hx hy ha.run hw hs) fun D σ H h => by
  obtain ⟨env, m, E, eo, s, h, k1, k2, k3, k4⟩ := h
  refine ⟨env, m, _, eo, s, h, fun ds m1 vs H1 h1 f1 s1 r1 => ?_⟩
  obtain ⟨x, y, rfl, h1⟩ := h1
  simp only [RepL] at r1
  obtain ⟨v, r', rfl, q1, v2, r2, rfl, q2, rfl⟩ := r1
  exact ⟨v, v2, rfl, k1 _ m1 _ H1 h1 (((eo.mono f1).set i q1).set j q2) s1 f1⟩⟩
/-! stores -/
def dStore (m : M) (o i d : D) (Q : M → Prop) : Prop := match o with
  | .ref p => match m p with
    | some (.lst ds) => ∃ k j, look m i = .int k ∧ ixN ds.length k = some j ∧ Q (updM m p (.lst (ds.set j d)))
    | some (.dic ks vs) => ∃ k, keyOf i = some k ∧ vs.length < sizeLine ∧ Q (updM m p (.dic (dputK ks k) (dputV ks vs k d)))
    | _ => False
  | _ => False
theorem set_dict (hu : X.A.units + 65 < cLine) : PSet X (fun o i v H Q => ∃ a H', o = .ref a ∧ DPut H a i v H' ∧ Q H') := by
  intro pins s σ H o i v ov iv u Q I ro ri rv h
  obtain ⟨a, H', rfl, g, q⟩ := h
  cases ro
  exact d_setItem (by omega) I g ri rv fun s' I' => ⟨H', I', q⟩
theorem PSet.or {r r' : V → V → V → Hp → (Hp → Prop) → Prop} (h : PSet X r) (h' : PSet X r') : PSet X (fun o i v H Q => r o i v H Q ∨ r' o i v H Q) := by
  intro pins s σ H o i v ov iv u Q I ro ri rv q
  rcases q with q | q
  · exact h pins s σ H o i v ov iv u Q I ro ri rv q
  · exact h' pins s σ H o i v ov iv u Q I ro ri rv q
def gSb (to ti : DTE) : DTG := fun d env m Q => to env m fun o m1 => ti env m1 fun i m2 => dStore m2 o i d fun m3 => Q env m3
theorem store_main {K : PySem.W.Frag} {m : M} {o i d : D} {ov iv v : V} {H : Hp} {R : M → Prop} {Q : Hp → Prop} (s : Sim K m H) (ro : Rep K m H o ov) (ri : Rep K m H i iv) (rv : Rep K m H d v) (h : dStore m o i d R)
    (k : ∀ m' H', R m' → Fr m H m' H' → Sim K m' H' → Q H') : rSetL ov iv v H Q ∨ ∃ a H', ov = .ref a ∧ DPut H a iv v H' ∧ Q H' := by
  unfold dStore at h
  split at h
  · simp only [Rep] at ro; subst ro
    split at h
    · rename_i p _ ds hp
      obtain ⟨kk, j, e1, e2, h⟩ := h
      have ci := cont_of s ri
      rw [e1] at ci
      obtain ⟨vs, h1, r1⟩ := s p _ hp
      refine .inl ⟨p, vs, kk, j, rfl, cont_int ci, h1, by rw [← r1.length]; exact e2, k _ _ h (Fr.write hp) (s.write hp ⟨_, upd_same, ?_⟩)⟩
      exact RepL.set j (RepL.mono (Fr.write hp) _ _ r1) (Rep.mono (Fr.write hp) _ _ rv)
    · rename_i p _ ks ds hp
      obtain ⟨kk, e1, hl, h⟩ := h
      have ei := keyOf_eq e1
      subst ei
      have := rep_kD ri
      subst this
      obtain ⟨kvs', hd', rfl, r1⟩ := s p _ hp
      refine .inr ⟨p, _, rfl, DPut.k (k := kk) hd' (by have := r1.length; rw [List.length_map] at this; omega), k _ _ h (Fr.write hp) (s.write hp ⟨_, upd_same, (putK_map kk v kvs').symm, ?_⟩)⟩
      exact putV_rep kk (Rep.mono (Fr.write hp) _ _ rv) kvs' ds (RepL.mono (Fr.write hp) _ _ r1)
    · exact h.elim
  · exact h.elim
end
end DL
/-! ### DL7: stores, fields, loops, comprehensions -/
namespace DL
open PySem PySem.Spec PyProof.Rows L2

section
variable {X : Cx} {e a b o i tg iter elt : Expr} {es ifs : List Expr} {st : Stmt} {rest body : List Stmt} {te ta tb to ti : DTE} {t u : DTS} {pos pos' : Pos}
theorem dg_sub (hu : X.A.units + 65 < cLine) (ho : DE X o to) (hi : DE X i ti)
    (ha : ∀ v, assign (.Subscript o i pos) X.env v = (do
      let ov ← holding [v] (eval o X.env)
      let iv ← holding [v, ov] (eval i X.env)
      standAt pos
      holding [v, ov, iv] (setItem ov iv v)
      release [v, ov, iv] []) := by intro _; rfl) : DG X (.Subscript o i pos) (gSb to ti) := ⟨PG.weak (pg_sub ho.run hi.run (PSet.or set_list (set_dict hu)) ha) fun v σ H Q h => by
  obtain ⟨d, env, m, R, r, eo, s, h, k⟩ := h
  refine ⟨env, m, _, eo, s, h, fun o m1 ov H1 h1 f1 s1 r1 => ?_⟩
  refine ⟨env, m1, _, eo.mono f1, s1, h1, fun i m2 iv H2 h2 f2 s2 r2 => ?_⟩
  have f12 := f1.trans f2
  exact store_main s2 (Rep.mono f2 _ _ r1) r2 (Rep.mono f12 _ _ r) h2 fun m' H' a1 a2 a3 => k env m' σ H' a1 (eo.mono (f12.trans a2)) a3 (f12.trans a2)⟩
/-! fields -/
def fget (f : Str) : List Str → List D → Option D
  | g :: ns, d :: ds => if g = f then some d else fget f ns ds
  | _, _ => none
def fputN (f : Str) : List Str → List Str
  | [] => [f]
  | g :: ns => if g = f then g :: ns else g :: fputN f ns
def fputV (f : Str) (d : D) : List Str → List D → List D
  | g :: ns, v :: ds => if g = f then d :: ds else v :: fputV f d ns ds
  | _, _ => [d]
theorem fget_rep {K : PySem.W.Frag} {m : M} {H : Hp} {f : Str} {d : D} : ∀ {fs : List (Str × V)} {ds : List D}, RepL K m H ds (fs.map (·.2)) → fget f (fs.map (·.1)) ds = some d → ∃ v, fs.lookup f = some v ∧ Rep K m H d v
  | [], ds, r, e => by cases ds <;> simp [fget] at e
  | p :: fs, [], r, e => by simp [fget] at e
  | p :: fs, d0 :: ds, r, e => by
    simp only [List.map_cons, RepL] at r
    obtain ⟨v, r', ev, h1, h2⟩ := r
    cases ev
    simp only [List.map_cons, fget] at e
    by_cases hf : p.1 = f
    · simp only [hf, if_true, Option.some.injEq] at e
      subst e
      refine ⟨p.2, ?_, h1⟩
      rw [← hf]
      obtain ⟨p1, p2⟩ := p
      simp [List.lookup]
    · simp only [hf, if_false] at e
      obtain ⟨v, e1, r1⟩ := fget_rep h2 e
      refine ⟨v, ?_, r1⟩
      obtain ⟨p1, p2⟩ := p
      have : (f == p1) = false := beq_eq_false_iff_ne.mpr fun z => hf z.symm
      simp only [List.lookup, this]
      exact e1
theorem fput_N (f : Str) (v : V) : ∀ fs : List (Str × V), (putF f v fs).map (·.1) = fputN f (fs.map (·.1))
  | [] => rfl
  | (g, x) :: r => by
    simp only [putF, List.map_cons, fputN]
    split
    · rfl
    · simp only [List.map_cons, fput_N f v r]
theorem fput_V {K : PySem.W.Frag} {m : M} {H : Hp} (f : Str) {v : V} {d : D} (rd : Rep K m H d v) : ∀ {fs : List (Str × V)} {ds : List D}, RepL K m H ds (fs.map (·.2)) → RepL K m H (fputV f d (fs.map (·.1)) ds) ((putF f v fs).map (·.2))
  | [], ds, r => by cases ds <;> exact .cons rd .nil
  | p :: fs, [], r => by simp only [List.map_cons, RepL] at r; cases r
  | (g, x) :: fs, d0 :: ds, r => by
    simp only [List.map_cons, RepL] at r
    obtain ⟨v', r', ev, h1, h2⟩ := r
    cases ev
    simp only [putF, List.map_cons, fputV]
    split
    · exact .cons rd h2
    · exact .cons h1 (fput_V f rd h2)
def tFl (C : Addr) (f : Str) (te : DTE) : DTE := fun env m Q => te env m fun x m1 => ∃ ns vs d, look m1 x = .ins C ns vs ∧ fget f ns vs = some d ∧ Q d m1
theorem de_fld {f : Str} (C : Addr) (he : DE X e te) (c : Cls X.K C) (n : NoAttr X.K C f) (hb : attributeBase e f X.env (eval e X.env) = eval e X.env := by rfl) : DE X (.Attribute e f pos) (tFl C f te) := ⟨PE.weak (pe_fld he.run hb) fun σ H Q h => by
  obtain ⟨env, m, R, eo, s, h, k⟩ := h
  refine ⟨env, m, _, eo, s, h, fun x m1 v H1 h1 f1 s1 r1 => ?_⟩
  obtain ⟨ns, vs, d, e1, e2, h1⟩ := h1
  have cc := cont_of s1 r1
  rw [e1] at cc
  obtain ⟨a, dx, fs, rfl, h2, rfl, r2⟩ := cc
  obtain ⟨v, e3, r3⟩ := fget_rep r2 e2
  exact ⟨a, C, dx, fs, v, rfl, h2, c, n, e3, k d m1 v H1 h1 f1 s1 r3⟩⟩
def tFlS (C : Addr) (f : Str) (ta tv : DTE) : DTS := fun env m E => tv env m fun d m1 => ta env m1 fun o m2 => ∃ p ns vs, o = .ref p ∧ m2 p = some (.ins C ns vs) ∧ vs.length < 1000 ∧ E.nx env (updM m2 p (.ins C (fputN f ns) (fputV f d ns vs)))
theorem ds_fld {f : Str} {value : Expr} {tv : DTE} (C : Addr) (ha : DE X o ta) (hv : DE X value tv) (c : Cls X.K C) (n : NoAttr X.K C f) (hs : swapsWith value (some (.Attribute o f pos')) pos.line X.env = pure false := by rfl) :
    DS X (.Assign [.Attribute o f pos'] value pos) (tFlS C f ta tv) := ⟨PS.weak (ps_fld ha.run hv.run hs) fun D σ H h => by
  obtain ⟨env, m, E, eo, s, h, k1, k2, k3, k4⟩ := h
  refine ⟨env, m, _, eo, s, h, fun d m1 v H1 h1 f1 s1 r1 => ?_⟩
  refine ⟨env, m1, _, eo.mono f1, s1, h1, fun x m2 w H2 h2 f2 s2 r2 => ?_⟩
  obtain ⟨p, ns, vs, rfl, hp, hl, h2⟩ := h2
  simp only [Rep] at r2
  subst r2
  obtain ⟨dx, fs, h3, rfl, r3⟩ := s2 p _ hp
  have fw : Fr m2 H2 (updM m2 p (.ins C (fputN f (fs.map (·.1))) (fputV f d (fs.map (·.1)) vs))) (upd H2 p (.ins C dx (putF f v fs))) := Fr.write hp
  refine ⟨p, C, dx, fs, rfl, h3, c, n, by have := r3.length; rw [List.length_map] at this; omega, k1 env _ σ _ h2 (eo.mono ((f1.trans f2).trans fw)) ?_ ((f1.trans f2).trans fw)⟩
  refine s2.write hp ⟨dx, _, upd_same, fput_N f v fs, ?_⟩
  exact fput_V f (Rep.mono fw _ _ (Rep.mono f2 _ _ r1)) (RepL.mono fw _ _ r3)⟩
/-! what is walked -/
def Items (K : PySem.W.Frag) (J : It) (ds : List D) (m0 : M) (H0 : Hp) : Prop := ∀ (i : Nat) (m : M) (H : Hp), Fr m0 H0 m H → Sim K m H →
  (∀ d, ds[i]? = some d → J.go i H ∧ ∀ x H', J.yld i H x H' → Fr m H m H' ∧ Sim K m H' ∧ Rep K m H' d x) ∧ (i = ds.length → J.stop i H)
abbrev DTI := Env → M → (List D → M → Prop) → Prop
def liftI (K : PySem.W.Frag) (t : DTI) : TI := fun σ H R => ∃ env m RR, EnvOk K m H σ env ∧ Sim K m H ∧ t env m RR ∧ ∀ ds m' J H', RR ds m' → Fr m H m' H' → Sim K m' H' → Items K J ds m' H' → R J H'
structure DI (X : Cx) (tg e : Expr) (t : DTI) : Prop where run : PI X tg e (liftI X.K t)
theorem PI.weak {tg e : Expr} {t t' : TI} (h : PI X tg e t) (k : ∀ σ H R, t' σ H R → t σ H R) : PI X tg e t' := ⟨fun pins s σ H R I q => h.run pins s σ H R I (k σ H R q)⟩
def dSeq : D → Option (List D)
  | .lst ds => some ds
  | .tup ds => some ds
  | .str x => some (x.cps.toList.map fun c => .str ⟨#[c]⟩)
  | .dic ks _ => some ks
  | _ => none
def iSeq (te : DTE) : DTI := fun env m Q => te env m fun d m1 => ∃ ds, dSeq d = some ds ∧ Q ds m1
theorem items_list {K : PySem.W.Frag} {m0 : M} {H0 : Hp} {a : Addr} {ds : List D} {vs : List V} (n : m0 a = none) (h : H0 a = some (.lst vs)) (r : RepL K m0 H0 ds vs) : Items K (Itl K a) ds m0 H0 := fun i m H f s => by
  obtain ⟨n', h'⟩ := f.lst n h
  have inj : ∀ ys, SqL K H a ys → (Rd H a (.lst ys) → ys = vs) := fun ys _ z => by
    rcases z with z | ⟨o, z⟩
    · rw [h'] at z; cases z; rfl
    · rw [h'] at z; cases z
  refine ⟨fun d e => ?_, fun hl => ⟨vs, .of h', by rw [← r.length, hl]; exact Nat.le_refl _⟩⟩
  obtain ⟨v, e1, r1⟩ := r.get e
  refine ⟨⟨vs, v, .of h', e1⟩, fun x H' y => ?_⟩
  obtain ⟨eH, y⟩ := y
  subst eH
  have := y vs (.of h')
  rw [e1] at this; cases this
  exact ⟨Fr.refl, s, Rep.mono f _ _ r1⟩
theorem items_tup {K : PySem.W.Frag} {m0 : M} {H0 : Hp} {a : Addr} {ds : List D} {vs : List V} (h : TupAt K m0 H0 a vs) (r : RepL K m0 H0 ds vs) : Items K (Itt K a) ds m0 H0 := fun i m H f s => by
  have h' : SqT K H a vs := by
    rcases h with ⟨n, h⟩ | h
    · exact .inl (.inl (f.tup n h).2)
    · exact .inr h
  refine ⟨fun d e => ?_, fun hl => ⟨vs, h', by rw [← r.length, hl]; exact Nat.le_refl _⟩⟩
  obtain ⟨v, e1, r1⟩ := r.get e
  refine ⟨⟨vs, v, h', e1⟩, fun x H' y => ?_⟩
  obtain ⟨eH, y⟩ := y
  subst eH
  have := y vs h'
  rw [e1] at this; cases this
  exact ⟨Fr.refl, s, Rep.mono f _ _ r1⟩
theorem items_str {K : PySem.W.Frag} {m0 : M} {H0 : Hp} {x : Str} : Items K (Its x) (x.cps.toList.map fun c => .str ⟨#[c]⟩) m0 H0 := fun i m H f s => by
  refine ⟨fun d e => ?_, fun hl => ?_⟩
  rotate_left
  · rw [List.length_map, Array.length_toList] at hl; exact Nat.le_of_eq hl.symm
  rw [List.getElem?_map] at e
  obtain ⟨c, ec, rfl⟩ := Option.map_eq_some_iff.mp e
  have hi : i < x.cps.size := by
    rcases Nat.lt_or_ge i x.cps.toList.length with z | z
    · simpa using z
    · rw [List.getElem?_eq_none z] at ec; cases ec
  refine ⟨hi, fun y H' q => ?_⟩
  obtain ⟨rfl, c', ec', rfl⟩ := q
  rw [Array.getElem?_toList] at ec
  rw [ec] at ec'; cases ec'
  exact ⟨Fr.refl, s, rep_str⟩
theorem items_dic {K : PySem.W.Frag} {m0 : M} {H0 : Hp} {a : Addr} {o : Obj} {kvs : List (Key × V)} (n : m0 a = none) (h : H0 a = some (.frz o (.dK kvs))) : Items K (Itk a o kvs) (kvs.map fun kv => kD kv.1) m0 H0 := fun i m H f s => by
  obtain ⟨n', h'⟩ := f.frz n h
  refine ⟨fun d e => ?_, fun hl => ⟨h', by rw [hl, List.length_map]; exact Nat.le_refl _⟩⟩
  rw [List.getElem?_map] at e
  obtain ⟨kv, ek, rfl⟩ := Option.map_eq_some_iff.mp e
  have hi : i < kvs.length := by
    rcases Nat.lt_or_ge i kvs.length with z | z
    · exact z
    · rw [List.getElem?_eq_none z] at ek; cases ek
  refine ⟨⟨h', hi⟩, fun x H' y => ?_⟩
  obtain ⟨eH, k, v, e1, rfl⟩ := y
  subst eH
  rw [ek] at e1; cases e1
  exact ⟨Fr.refl, s, rep_kk _⟩
theorem Fr.locked {m : M} {H : Hp} {a : Addr} {o : Obj} {kvs : List (Key × V)} (h : H a = some (.dK kvs)) : Fr m H m (upd H a (.frz o (.dK kvs))) := fun b u nb hb => by
  by_cases e : b = a
  · subst e
    rw [h] at hb; cases hb
    exact ⟨nb, _, upd_same, .inr (.inl ⟨o, kvs, rfl, rfl⟩)⟩
  · exact ⟨nb, u, by rw [upd_ne e]; exact hb, .inl rfl⟩
theorem Sim.locked {K : PySem.W.Frag} {m : M} {H : Hp} {a : Addr} {o : Obj} {kvs : List (Key × V)} (s : Sim K m H) (n : m a = none) (h : H a = some (.dK kvs)) : Sim K m (upd H a (.frz o (.dK kvs))) :=
  s.monoL (Fr.locked h).l fun b u nb hb => by
    have e : b ≠ a := fun z => nb (by rw [z]; exact n)
    rw [upd_ne e]; exact hb
theorem di_seq (he : DE X e te) : DI X tg e (iSeq te) := ⟨⟨fun pins s σ H R I h => by
  obtain ⟨env, m, RR, eo, sm, h, k⟩ := h
  have h0 : liftE X.K te σ H (fun x H1 => (∃ a, x = .ref a ∧ (∃ xs, SqL X.K H1 a xs) ∧ R (Itl X.K a) H1) ∨ (∃ a, x = .ref a ∧ (∃ xs, SqT X.K H1 a xs) ∧ R (Itt X.K a) H1) ∨ (∃ y, x = .str y ∧ R (Its y) H1) ∨ ∃ a kvs, x = .ref a ∧ ((∃ o, H1 a = some (.frz o (.dK kvs)) ∧ R (Itk a o kvs) H1) ∨ (H1 a = some (.dK kvs) ∧ ∀ o, R (Itk a o kvs) (upd H1 a (.frz o (.dK kvs)))))) := by
    refine ⟨env, m, _, eo, sm, h, fun d m1 v H1 h1 f1 s1 r1 => ?_⟩
    obtain ⟨ds, e1, h1⟩ := h1
    unfold dSeq at e1
    split at e1
    · cases e1
      simp only [Rep] at r1
      obtain ⟨a, vs, rfl, ⟨n, h2⟩, r2⟩ := r1
      exact .inl ⟨a, rfl, ⟨vs, .of h2⟩, k _ m1 _ H1 h1 f1 s1 (items_list n h2 r2)⟩
    · cases e1
      simp only [Rep] at r1
      obtain ⟨a, vs, rfl, h2, r2⟩ := r1
      exact .inr (.inl ⟨a, rfl, ⟨vs, tupAt_sq h2⟩, k _ m1 _ H1 h1 f1 s1 (items_tup h2 r2)⟩)
    · cases e1
      simp only [Rep] at r1
      subst r1
      exact .inr (.inr (.inl ⟨_, rfl, k _ m1 _ H1 h1 f1 s1 items_str⟩))
    · cases e1
      simp only [Rep] at r1
      obtain ⟨a, vs, rfl, n, ⟨kvs, h2, rfl, rfl⟩, r2⟩ := r1
      refine .inr (.inr (.inr ⟨a, kvs, rfl, ?_⟩))
      rcases h2 with h2 | ⟨o, h2⟩
      · refine .inr ⟨h2, fun o => k _ m1 _ _ h1 (f1.trans (Fr.locked h2)) (s1.locked n h2) (items_dic n upd_same)⟩
      · exact .inl ⟨o, h2, k _ m1 _ H1 h1 f1 s1 (items_dic n h2)⟩
    · cases e1
  refine thn (he.run.run pins s σ H _ I h0) fun v s1 ⟨x, H1, I1, r1, q1⟩ => ?_
  rcases q1 with ⟨a, rfl, ⟨xs, hq⟩, q⟩ | ⟨a, rfl, ⟨xs, hq⟩, q⟩ | ⟨y, rfl, q⟩ | ⟨d, kvs, rfl, q⟩
  · cases r1
    obtain ⟨its, rv, p, hz⟩ := I1.list hq
    refine wpAny_pyIter_list p.isList ?_
    refine ⟨s1.heap.objs.size, [s1.heap.objs.size], _, _, H1, rfl, I1.kept (t' := s1.toks) fun b o e => Heap.get?_push_of_some _ e, turn_list a _, ⟨_, Heap.get?_push_size _ rfl, rfl, rfl⟩, fun b hb => ?_, q⟩
    have e : b = s1.heap.objs.size := by simpa using hb
    subst e
    exact I1.fpOk (Nat.le_refl _) (I1.hok.fresh (Nat.le_refl _))
  · cases r1
    obtain ⟨its, rv, p, hz⟩ := I1.tuple hq
    refine wpAny_pyIter_tuple (show s1.heap.IsTuple a its.toArray from p) ?_
    refine ⟨s1.heap.objs.size, [s1.heap.objs.size], _, _, H1, rfl, I1.kept (t' := s1.toks) fun b o e => Heap.get?_push_of_some _ e, turn_tuple a _, ⟨_, Heap.get?_push_size _ rfl, rfl, rfl⟩, fun b hb => ?_, q⟩
    have e : b = s1.heap.objs.size := by simpa using hb
    subst e
    exact I1.fpOk (Nat.le_refl _) (I1.hok.fresh (Nat.le_refl _))
  · obtain ⟨t, rfl⟩ := r1
    cases ha : y.cps.all (· < 128)
    · exact wpAny_pyIter_wide ha (pi_one (tk := s1.toks) I1 _ (turn_str _ y t "str_iterator" (.inr rfl)) ⟨_, Heap.get?_push_size _ rfl, rfl, rfl⟩ q)
    · exact wpAny_pyIter_ascii ha (pi_one (tk := s1.toks) I1 _ (turn_str _ y t "str_ascii_iterator" (.inl rfl)) ⟨_, Heap.get?_push_size _ rfl, rfl, rfl⟩ q)
  · cases r1
    have key : ∀ (o : Obj) (H2 : Hp) (I2 : Inv X pins σ H2 s1) (hd : H2 d = some (.frz o (.dK kvs))) (q : R (Itk d o kvs) H2), wpAny (model X.prog X.w) X.A (pyIter (.ref d)) (PIE X pins σ tg R) X.xe s1 := by
      intro o H2 I2 hd q
      obtain ⟨hs, hgd, hx, es, ep, vs, hdt, hsz, kv, hm⟩ := I2.frzK hd
      refine iter_keys hs hgd hx hdt (pi_one (tk := s1.toks) I2 _ (turn_keys _ hdt) ⟨_, Heap.get?_push_size _ rfl, rfl, ?_⟩ q)
      rw [hsz] <;> rfl
    rcases q with ⟨o, hd, q⟩ | ⟨hd, q⟩
    · exact key o H1 I1 hd q
    · obtain ⟨od, I2⟩ := I1.lock hd trivial
      exact key od _ I2 upd_same (q od)⟩⟩
/-- range -/
def rngD (lo : Int) (n : Nat) : List D := (List.range n).map fun (i : Nat) => D.int (lo + i)
theorem items_rng {K : PySem.W.Frag} {m0 : M} {H0 : Hp} {lo : Int} {n : Nat} : Items K (Itr lo n) (rngD lo n) m0 H0 := fun i m H f s => by
  refine ⟨fun d e => ?_, fun hl => ?_⟩
  rotate_left
  · unfold rngD at hl; rw [List.length_map, List.length_range] at hl; exact Nat.le_of_eq hl.symm
  unfold rngD at e
  rw [List.getElem?_map] at e
  obtain ⟨j, ej, rfl⟩ := Option.map_eq_some_iff.mp e
  have hi : i < n := by
    rcases Nat.lt_or_ge i (List.range n).length with z | z
    · simpa using z
    · rw [List.getElem?_eq_none z] at ej; cases ej
  rw [List.getElem?_range hi] at ej
  cases ej
  refine ⟨hi, fun y H' q => ?_⟩
  obtain ⟨rfl, rfl⟩ := q
  exact ⟨Fr.refl, s, rep_int⟩
def iRg (ta : DTA) : DTI := fun env m Q => ta env m fun ds m1 => (∃ j, ds = [.int j] ∧ -(2 ^ 62) ≤ j ∧ j < 2 ^ 62 ∧ Q (rngD 0 j.toNat) m1)
def iRg2 (ta : DTA) : DTI := fun env m Q => ta env m fun ds m1 => (∃ i j, ds = [.int i, .int j] ∧ (-(2 ^ 62) ≤ i ∧ i < 2 ^ 62 ∧ -(2 ^ 62) ≤ j ∧ j < 2 ^ 62) ∧ Q (rngD i (j - i).toNat) m1)
theorem di_range {p : Pos} {ta : DTA} (hm : X.mg "range" = none) (ha : DA X [a] ta) (hg : Gl X "range" := by rfl) (hs : starEach [a] X.env = [(false, eval a X.env)] := by rfl) : DI X tg (.Call (.Name "range" p) [a] [] pos) (iRg ta) :=
  ⟨PI.weak (pi_range1 hg hm ha.run hs) fun σ H R h => by
    obtain ⟨env, m, RR, eo, s, h, k⟩ := h
    refine ⟨env, m, _, eo, s, h, fun ds m1 vs H1 h1 f1 s1 r1 => ?_⟩
    obtain ⟨j, rfl, b1, b2, h1⟩ := h1
    obtain ⟨v, rfl, r2⟩ := repL1 r1
    simp only [Rep] at r2
    subst r2
    exact ⟨j, rfl, b1, b2, k _ m1 _ H1 h1 f1 s1 items_rng⟩⟩
theorem di_range2 {p : Pos} {ta : DTA} (hm : X.mg "range" = none) (ha : DA X [a, b] ta) (hg : Gl X "range" := by rfl) (hs : starEach [a, b] X.env = [(false, eval a X.env), (false, eval b X.env)] := by rfl) (hs2 : starEach [b] X.env = [(false, eval b X.env)] := by rfl) :
    DI X tg (.Call (.Name "range" p) [a, b] [] pos) (iRg2 ta) :=
  ⟨PI.weak (pi_range2 hg hm ha.run hs hs2) fun σ H R h => by
    obtain ⟨env, m, RR, eo, s, h, k⟩ := h
    refine ⟨env, m, _, eo, s, h, fun ds m1 vs H1 h1 f1 s1 r1 => ?_⟩
    obtain ⟨i, j, rfl, b1, h1⟩ := h1
    simp only [RepL] at r1
    obtain ⟨v, r', rfl, q1, v2, r2, rfl, q2, rfl⟩ := r1
    simp only [Rep] at q1 q2
    subst q1; subst q2
    exact ⟨i, j, rfl, b1, k _ m1 _ H1 h1 f1 s1 items_rng⟩⟩
/-! for -/
def forD (g : Tgt) (tb : DTS) (E : DEnds) : List D → Env → M → Prop
  | [], env, m => E.nx env m
  | d :: ds, env, m => tgD g d env m fun env' m' => tb env' m' { E with nx := forD g tb E ds, ct := forD g tb E ds, bk := E.nx }
def tFo (ti : DTI) (g : Tgt) (tb : DTS) : DTS := fun env m E => ti env m fun ds m1 => forD g tb E ds env m1
theorem for_core {g : Tgt} {tb : DTS} {De : Ends} {σ : L2.St} {env : Env} {m1 : M} {H1 : Hp} {J : It} {ds : List D} {E : DEnds} (eo : EnvOk X.K m1 H1 σ env) (s1 : Sim X.K m1 H1) (it : Items X.K J ds m1 H1) (h1 : forD g tb E ds env m1)
    (k1 : ∀ env' m' σ' H', E.nx env' m' → EnvOk X.K m' H' σ' env' → Sim X.K m' H' → Fr m1 H1 m' H' → De.nx σ' H') (k2 : ∀ d m' v H', E.rt d m' → Fr m1 H1 m' H' → Sim X.K m' H' → Rep X.K m' H' d v → De.rt v H') :
    ∃ W : Nat → Nat → L2.St → Hp → Prop, (∃ n, W 0 n σ H1) ∧ ∀ i n σ H, W i n σ H → (J.stop i H ∧ De.nx σ H) ∨ (J.go i H ∧ ∃ N : L2.St → Hp → Prop, (∀ σ' H', N σ' H' → ∃ n', n' < n ∧ W (i + 1) n' σ' H') ∧
      ∀ x H', J.yld i H x H' → tgR X.K g x σ H' fun σ2 H2 => liftS X.K tb { De with nx := N, ct := N, bk := De.nx } σ2 H2) := by
  refine ⟨fun i n σ H => n = ds.length - i ∧ i ≤ ds.length ∧ ∃ env m, EnvOk X.K m H σ env ∧ Sim X.K m H ∧ Fr m1 H1 m H ∧ forD g tb E (ds.drop i) env m, ⟨_, rfl, Nat.zero_le _, env, m1, eo, s1, Fr.refl, h1⟩, ?_⟩
  rintro i n σ2 H2 ⟨rfl, hi, env2, m2, eo2, s2, f2, h2⟩
  obtain ⟨go, stop⟩ := it i m2 H2 f2 s2
  by_cases hlt : i < ds.length
  · obtain ⟨g1, g2⟩ := go ds[i] (by simp [hlt])
    have ed : ds.drop i = ds[i] :: ds.drop (i + 1) := List.drop_eq_getElem_cons hlt
    rw [ed] at h2
    refine .inr ⟨g1, fun σ' H' => ∃ env m, EnvOk X.K m H' σ' env ∧ Sim X.K m H' ∧ Fr m1 H1 m H' ∧ forD g tb E (ds.drop (i + 1)) env m, fun σ' H' q => ⟨ds.length - (i + 1), by omega, rfl, hlt, q⟩, fun x H' y => ?_⟩
    obtain ⟨f3, s3, r3⟩ := g2 x H' y
    have h2 : tgD g ds[i] env2 m2 _ := h2
    refine tg_run r3 (eo2.mono f3) s3 h2 fun env4 σ4 h4 eo4 _ => ?_
    have f13 := f2.trans f3
    exact ⟨env4, m2, _, eo4, s3, h4, fun env' m' σ' H' a1 a2 a3 a4 => ⟨env', m', a2, a3, f13.trans a4, a1⟩, fun d m' v H' a1 a2 a3 a4 => k2 d m' v H' a1 (f13.trans a2) a3 a4,
      fun env' m' σ' H' a1 a2 a3 a4 => k1 env' m' σ' H' a1 a2 a3 (f13.trans a4), fun env' m' σ' H' a1 a2 a3 a4 => ⟨env', m', a2, a3, f13.trans a4, a1⟩⟩
  · have e : i = ds.length := by omega
    subst e
    rw [List.drop_length] at h2
    exact .inl ⟨stop rfl, k1 env2 m2 σ2 H2 h2 eo2 s2 f2⟩
theorem for_lift {g : Tgt} {tb : DTS} {ti : DTI} {D : Ends} {σ : L2.St} {H : Hp} (h : liftS X.K (tFo ti g tb) D σ H) : tFor (liftI X.K ti) (tgR X.K g) (liftS X.K tb) D σ H := by
  obtain ⟨env, m, E, eo, s, h, k1, k2, k3, k4⟩ := h
  refine ⟨env, m, _, eo, s, h, fun ds m1 J H1 h1 f1 s1 it => ?_⟩
  exact for_core (eo.mono f1) s1 it h1 (fun env' m' σ' H' a1 a2 a3 a4 => k1 env' m' σ' H' a1 a2 a3 (f1.trans a4)) fun d m' v H' a1 a2 a3 a4 => k2 d m' v H' a1 (f1.trans a2) a3 a4
theorem ds_for {ti : DTI} {g : Tgt} {tb : DTS} (hi : DI X tg iter ti) (hg : DGt X tg g) (hb : DSs X body tb) (hc : X.calm = true) (hp : PassesOwn (model X.prog X.w) X.A X.env X.xe) (hs : ∀ x, foldedSetIterable iter X.env x = pure x := by intro _; rfl) :
    DS X (.For tg iter body [] pos) (tFo ti g tb) := ⟨PS.weak (ps_for hp hc hi.run hg.run hb.run hs) fun D σ H h => for_lift h⟩
/-! while -/
def whileD (c : DTT) (tb : DTS) (E : DEnds) : Nat → Env → M → Prop
  | 0, _, _ => False
  | n + 1, env, m => c env m fun b m1 => if b = true then tb env m1 { E with nx := whileD c tb E n, ct := whileD c tb E n, bk := E.nx } else E.nx env m1
def tWh (c : DTT) (tb : DTS) : DTS := fun env m E => ∃ n, whileD c tb E n env m
theorem ds_while {c : Expr} {tc : DTT} {tb : DTS} (hc : DT X c tc) (hb : DSs X body tb) (hp : PassesOwn (model X.prog X.w) X.A X.env X.xe) : DS X (.While c body [] pos) (tWh tc tb) := ⟨PS.weak (ps_while hp hc.run hb.run) fun D σ H h => by
  obtain ⟨env, m, E, eo, s, ⟨n, h⟩, k1, k2, k3, k4⟩ := h
  refine ⟨fun n σ' H' => ∃ env' m', EnvOk X.K m' H' σ' env' ∧ Sim X.K m' H' ∧ Fr m H m' H' ∧ whileD tc tb E n env' m', ⟨n, env, m, eo, s, Fr.refl, h⟩, ?_⟩
  rintro n σ2 H2 ⟨env2, m2, eo2, s2, f2, h2⟩
  cases n with
  | zero => exact h2.elim
  | succ n =>
    refine ⟨env2, m2, _, eo2, s2, h2, fun b m3 H3 h3 f3 s3 => ?_⟩
    cases b with
    | true =>
      simp only [if_true] at h3 ⊢
      refine ⟨fun σ' H' => ∃ env' m', EnvOk X.K m' H' σ' env' ∧ Sim X.K m' H' ∧ Fr m H m' H' ∧ whileD tc tb E n env' m', fun σ' H' q => ⟨n, Nat.lt_succ_self n, q⟩, ?_⟩
      have f23 := f2.trans f3
      exact ⟨env2, m3, _, eo2.mono f3, s3, h3, fun env' m' σ' H' a1 a2 a3 a4 => ⟨env', m', a2, a3, f23.trans a4, a1⟩, fun d m' v H' a1 a2 a3 a4 => k2 d m' v H' a1 (f23.trans a2) a3 a4,
        fun env' m' σ' H' a1 a2 a3 a4 => k1 env' m' σ' H' a1 a2 a3 (f23.trans a4), fun env' m' σ' H' a1 a2 a3 a4 => ⟨env', m', a2, a3, f23.trans a4, a1⟩⟩
    | false =>
      simp only [Bool.false_eq_true, if_false] at h3 ⊢
      exact k1 env2 m3 σ2 H3 h3 (eo2.mono f3) s3 (f2.trans f3)⟩
/-! comprehensions -/
structure DTs (X : Cx) (es : List Expr) (t : DTT) : Prop where run : PTs X es (liftT X.K t)
def tYe : DTT := fun _ m Q => Q true m
theorem dts_nil : DTs X [] tYe := ⟨⟨fun pins s σ H Q I h => by
  obtain ⟨env, m, R, eo, sm, h, k⟩ := h
  exact (pts_nil (X := X)).run pins s σ H Q I (k true m H h Fr.refl sm)⟩⟩
theorem dts_one {c : Expr} {t : DTT} (h : DT X c t) : DTs X [c] t := ⟨pts_one h.run⟩
/-- the new list stands at p -/
def lcD (p : Addr) (g : Tgt) (tt : DTT) (te : DTE) (env : Env) (Q : M → Prop) : List D → M → Prop
  | [], m => Q m
  | d :: ds, m => tgD g d env m fun env' m' => tt env' m' fun b m2 => if b = true then te env' m2 fun y m3 => ∃ acc, m3 p = some (.lst acc) ∧ acc.length < sizeLine ∧ lcD p g tt te env Q ds (updM m3 p (.lst (acc ++ [y]))) else lcD p g tt te env Q ds m2
def tLcM (ti : DTI) (g : Tgt) (tt : DTT) (te : DTE) (vs : List Nat) : DTE := fun env m Q => ti env m fun ds m1 => ∀ p, m1 p = none → lcD p g tt te (wipeD env vs) (fun m2 => Q (.ref p) m2) ds (updM m1 p (.lst []))
theorem wipe_sub {vs : List Nat} : ∀ {ws : List Nat} {σ : L2.St}, (∀ i ∈ ws, i ∈ vs) → L2.wipe (L2.wipe σ ws) vs = L2.wipe σ vs
  | [], σ, _ => rfl
  | i :: ws, σ, h => by
    show L2.wipe ((L2.wipe σ ws).set i none) vs = _
    rw [wipe_set (h i List.mem_cons_self), wipe_sub fun j hj => h j (List.mem_cons_of_mem _ hj)]
theorem lc_core {g : Tgt} {tt : DTT} {vs : List Nat} (hg : ∀ i ∈ g.ix, i ∈ vs) {σ : L2.St} {env : Env} {m1 : M} {H1 : Hp} {J : It} {ds : List D} {Q : VK} {R : DK} (eo : EnvOk X.K m1 H1 σ env) (s1 : Sim X.K m1 H1) (it : Items X.K J ds m1 H1)
    (h1 : ∀ p, m1 p = none → lcD p g tt te (wipeD env vs) (fun m2 => R (.ref p) m2) ds (updM m1 p (.lst []))) (k : ∀ d m' v H', R d m' → Fr m1 H1 m' H' → Sim X.K m' H' → Rep X.K m' H' d v → Q v H') :
    ∀ Dz, H1 Dz = none → ∃ W : Nat → Nat → Hp → Prop, (∃ n, W 0 n (upd H1 Dz (.lst []))) ∧ ∀ i n H, W i n H → (J.stop i H ∧ Q (.ref Dz) H) ∨ (J.go i H ∧ ∃ Nx : Hp → Prop, (∀ H', Nx H' → ∃ n', n' < n ∧ W (i + 1) n' H') ∧
      ∀ x H', J.yld i H x H' → tgR X.K g x (L2.wipe σ vs) H' fun σ2 H2 => L2.wipe σ2 vs = L2.wipe σ vs ∧ liftT X.K tt σ2 H2 fun b H3 =>
        if b = true then liftE X.K te σ2 H3 fun y H4 => ∃ acc, H4 Dz = some (.lst acc) ∧ acc.length < sizeLine ∧ Nx (upd H4 Dz (.lst (acc ++ [y]))) else Nx H3) := by
  intro D hD
  have mD : m1 D = none := s1.free hD
  refine ⟨fun i n H => n = ds.length - i ∧ i ≤ ds.length ∧ ∃ m, Sim X.K m H ∧ Fr m1 H1 m H ∧ lcD D g tt te (wipeD env vs) (fun m2 => R (.ref D) m2) (ds.drop i) m,
    ⟨_, rfl, Nat.zero_le _, _, new_lstM s1 hD .nil, Fr.laidM s1 hD, h1 D mD⟩, ?_⟩
  rintro i n H2 ⟨rfl, hi, m2, s2, f2, h2⟩
  obtain ⟨go, stop⟩ := it i m2 H2 f2 s2
  by_cases hlt : i < ds.length
  · obtain ⟨g1, g2⟩ := go ds[i] (by simp [hlt])
    have ed : ds.drop i = ds[i] :: ds.drop (i + 1) := List.drop_eq_getElem_cons hlt
    rw [ed] at h2
    refine .inr ⟨g1, fun H' => ∃ m, Sim X.K m H' ∧ Fr m1 H1 m H' ∧ lcD D g tt te (wipeD env vs) (fun m2 => R (.ref D) m2) (ds.drop (i + 1)) m,
      fun H' q => ⟨ds.length - (i + 1), by omega, rfl, hlt, q⟩, fun x H' y => ?_⟩
    obtain ⟨f3, s3, r3⟩ := g2 x H' y
    have h2 : tgD g ds[i] (wipeD env vs) m2 _ := h2
    refine tg_run r3 (((eo.mono f2).wipe vs).mono f3) s3 h2 fun env4 σ4 h4 eo4 wp => ?_
    refine ⟨by rw [wp vs hg]; exact wipe_sub fun i hi => hi, env4, m2, _, eo4, s3, h4, fun b m5 H5 h5 f5 s5 => ?_⟩
    have f35 := f3.trans f5
    cases b with
    | true =>
      simp only [if_true] at h5 ⊢
      refine ⟨env4, m5, _, eo4.mono f5, s5, h5, fun z m6 zv H6 h6 f6 s6 r6 => ?_⟩
      obtain ⟨acc, ea, hz, h6⟩ := h6
      obtain ⟨ws, hD6, ra⟩ := s6 D _ ea
      have fw : Fr m6 H6 (updM m6 D (.lst (acc ++ [z]))) (upd H6 D (.lst (ws ++ [zv]))) := Fr.write ea
      exact ⟨ws, hD6, by rw [← ra.length]; exact hz, _, s6.write (d := .lst (acc ++ [z])) ea ⟨_, upd_same, RepL.mono fw _ _ (ra.snoc r6)⟩, (f2.trans (f35.trans f6)).trans fw, h6⟩
    | false =>
      simp only [Bool.false_eq_true, if_false] at h5 ⊢
      exact ⟨m5, s5, f2.trans f35, h5⟩
  · have e : i = ds.length := by omega
    subst e
    rw [List.drop_length] at h2
    exact .inl ⟨stop rfl, k (.ref D) m2 _ H2 h2 f2 s2 rep_ref⟩
theorem lc_lift {g : Tgt} {tt : DTT} {ti : DTI} {vs : List Nat} (hg : ∀ i ∈ g.ix, i ∈ vs) {σ : L2.St} {H : Hp} {Q : VK} (h : liftE X.K (tLcM ti g tt te vs) σ H Q) : L2.tLc (liftI X.K ti) (tgR X.K g) (liftT X.K tt) (liftE X.K te) vs σ H Q := by
  obtain ⟨env, m, R, eo, s, h, k⟩ := h
  refine ⟨env, m, _, eo, s, h, fun ds m1 J H1 h1 f1 s1 it => ?_⟩
  exact lc_core hg (eo.mono f1) s1 it h1 fun d m' v H' a1 a2 a3 a4 => k d m' v H' a1 (f1.trans a2) a3 a4
theorem frz_lift {K : PySem.W.Frag} {te : DTE} {σ : L2.St} {H : Hp} {Q : VK} (h : liftE K (tFrz te) σ H Q) : liftE K te σ H Q := by
  obtain ⟨env, m, R, eo, s, h, k⟩ := h
  refine ⟨env, m, _, eo, s, h, fun d m1 v H1 h1 f1 s1 r1 => ?_⟩
  split at h1
  · obtain ⟨c, e, h1⟩ := h1
    simp only [Rep] at r1
    subst r1
    exact k c _ _ H1 h1 (f1.trans Fr.frozen) s1.frozen (rep_frozen s1 e)
  · exact k _ m1 v H1 h1 f1 s1 r1
abbrev Blk (X : Cx) (scope : Scope) (s : Shared) (H : Hp) (C : Addr) (cl : List (Str × Addr)) (fp : List Addr) : Cx := X.blk s H scope (compEnvC scope cl C X.env) fp
theorem de_lc {scope : Scope} {own : List (Str × Nat)} {ti : DTI} {g : Tgt} {tt : DTT} (hi : DI X tg iter ti) (ok : BlkOk X.N X.env.scope scope own) (hN : X.N.Nodup) (hc : X.calm = true)
    (hg : ∀ (s : Shared) (H : Hp) (C : Addr) (cl : List (Str × Addr)) (fp : List Addr), DGt (Blk X scope s H C cl fp) tg g) (ht : ∀ (s : Shared) (H : Hp) (C : Addr) (cl : List (Str × Addr)) (fp : List Addr), DTs (Blk X scope s H C cl fp) ifs tt)
    (he : ∀ (s : Shared) (H : Hp) (C : Addr) (cl : List (Str × Addr)) (fp : List Addr), DE (Blk X scope s H C cl fp) elt te) (hv : ∀ i ∈ g.ix, i ∈ own.map (·.2) := by decide) (hs : ∀ x, foldedSetIterable iter X.env x = pure x := by intro _; rfl) :
    DE X (.ListComp elt [⟨tg, iter, ifs, 0⟩] scope pos) (tLcM ti g tt te (own.map (·.2))) :=
  ⟨PE.weak (pe_lc hc hN hi.run ok (fun s H C cl fp => (hg s H C cl fp).run) (fun s H C cl fp => (ht s H C cl fp).run) (fun s H C cl fp => (he s H C cl fp).run) hs) fun σ H Q h => lc_lift hv h⟩
theorem ds_setLc {j : Nat} {y : Str} {py spos : Pos} {scope : Scope} {own : List (Str × Nat)} {ti : DTI} {g : Tgt} {tt : DTT} (hi : DI X tg iter ti) (ok : BlkOk X.N X.env.scope scope own) (hN : X.N.Nodup) (hc : X.calm = true)
    (hg : ∀ (s : Shared) (H : Hp) (C : Addr) (cl : List (Str × Addr)) (fp : List Addr), DGt (Blk X scope s H C cl fp) tg g) (ht : ∀ (s : Shared) (H : Hp) (C : Addr) (cl : List (Str × Addr)) (fp : List Addr), DTs (Blk X scope s H C cl fp) ifs tt)
    (he : ∀ (s : Shared) (H : Hp) (C : Addr) (cl : List (Str × Addr)) (fp : List Addr), DE (Blk X scope s H C cl fp) elt te) (fz : Bool)
    (hsw : swapsWith (.ListComp elt [⟨tg, iter, ifs, 0⟩] scope pos) (some (.Name y py)) spos.line X.env = pure true) (hv : ∀ i ∈ g.ix, i ∈ own.map (·.2) := by decide) (hy : X.N[j]? = some y := by rfl) (hyl : X.env.scope.names.lookup y = some .local := by rfl)
    (hs : ∀ x, foldedSetIterable iter X.env x = pure x := by intro _; rfl) :
    DS X (.Assign [.Name y py] (.ListComp elt [⟨tg, iter, ifs, 0⟩] scope pos) spos) (tSet j (if fz = true then tFrz (tLcM ti g tt te (own.map (·.2))) else tLcM ti g tt te (own.map (·.2)))) :=
  ⟨PS.weak (ps_setLc hc hN hy hyl hsw hi.run ok (fun s H C cl fp => (hg s H C cl fp).run) (fun s H C cl fp => (ht s H C cl fp).run) (fun s H C cl fp => (he s H C cl fp).run) hs) fun D σ H h =>
    set_lift (fun σ H Q q => lc_lift hv (by
      cases fz with
      | true => exact frz_lift q
      | false => exact q)) h⟩
end
end DL
/-! ### DL8: defs, calls, methods, classes -/
namespace DL
open PySem PySem.Spec PyProof.Rows L2

/-- room for calls, and no guard runs -/
structure RoomG (k : Nat) (A : Around) : Prop where
  r : Room k A
  g : A.guards = some []
theorem RoomG.mono {j k : Nat} {A : Around} (r : RoomG k A) (h : j ≤ k) : RoomG j A := ⟨r.r.mono h, r.g⟩
theorem RoomG.make {k : Nat} {A : Around} (r : RoomG (k + 1) A) (C : Addr) (us : List Value) (kw : List (Str × Value)) : RoomG k (A.under (.builtin "type.__call__" ⟨.ref C :: us, kw⟩)) :=
  ⟨r.r.make C us kw, by
    have g := r.g
    first
      | exact g
      | (simp only [Around.under, g]; rfl)
      | (simp [Around.under, Code.guards, Code.isGuard, pushGuards, g])⟩
/-- a promise by positional values, where no guard runs -/
def FnG (P : Program) (w : World) (K : PySem.W.Frag) (mg : Str → Option Value) (base : Heap) (CX : CXT) (k : Nat) (f : Addr) (sp : Sp) : Prop :=
  ∀ (A : Around) (outer : List PySem.Env) (s : Shared) (H : Hp) (us : List Value) (vs : List V) (Q : VK) (E : XK), RoomG k A → Env0 P w K mg base A outer s H → Vals vs us → sp vs H Q E →
    codeAny (model P w) A (.call (.ref f) ⟨us, []⟩) (CR CX outer P w H s Q E) s
theorem FnG.imp {P : Program} {w : World} {K : PySem.W.Frag} {mg : Str → Option Value} {base : Heap} {CX : CXT} {k : Nat} {f : Addr} {sp sp' : Sp} (F : FnG P w K mg base CX k f sp) (h : ∀ vs H Q E, sp' vs H Q E → sp vs H Q E) : FnG P w K mg base CX k f sp' :=
  fun A outer s H us vs Q E hr e0 r q => F A outer s H us vs Q E hr e0 r (h _ _ _ _ q)
theorem FnG.mono {P : Program} {w : World} {K : PySem.W.Frag} {mg : Str → Option Value} {base : Heap} {CX : CXT} {j k : Nat} {f : Addr} {sp : Sp} (F : FnG P w K mg base CX j f sp) (h : j ≤ k) : FnG P w K mg base CX k f sp :=
  fun A outer s H us vs Q E hr e0 r q => F A outer s H us vs Q E (hr.mono h) e0 r q
/-- the ends of a def's body -/
def bodyEnds (R : DK) : DEnds := { nx := fun _ m => R .non m, rt := R }
section
variable {P : Program} {w : World} {K : PySem.W.Frag} {mg : Str → Option Value} {base : Heap}
theorem liftSp_imp {sp sp' : DSp} (h : ∀ ds m R, sp' ds m R → sp ds m R) : ∀ vs H Q E, liftSp K sp' vs H Q E → liftSp K sp vs H Q E := fun vs H Q E ⟨ds, m, R, r, s, q, k⟩ => ⟨ds, m, R, r, s, h _ _ _ q, k⟩
theorem body_lift {N : List Str} {t : DTS} {ds : List D} {vs : List V} {m : M} {R : DK} {H : Hp} {Q : VK} (r : RepL K m H ds vs) (s : Sim K m H) (h : t (startD N.length ds) m (bodyEnds R))
    (k : ∀ d m' v H', R d m' → Fr m H m' H' → Sim K m' H' → Rep K m' H' d v → Q v H') : liftS K t { nx := fun _ H' => Q .non H', rt := Q } (L2.start N vs) H :=
  ⟨_, m, _, EnvOk.start r, s, h, fun env' m' σ' H' a1 a2 a3 a4 => k .non m' .non H' a1 a4 a3 rep_non, fun d m' v H' a1 a2 a3 a4 => k d m' v H' a1 a2 a3 a4, fun _ _ _ _ z => z.elim, fun _ _ _ _ z => z.elim⟩
theorem fn_mk {x qual : Str} {st : Stmt} {f : Addr} {fd : FuncData} {N ps : List Str} {k : Nat} {sp : DSp} {t : DTS} (F : Fun K x qual st f fd) (S : FnScope N ps (defScope st)) (hb : Binds K fd ps []) (hn : ∀ ds m R, sp ds m R → ds.length = ps.length)
    (hbody : ∀ (cdv : Value) (A : Around) (outer : List PySem.Env) (s : Shared) (H : Hp) (E : XK), RoomG k (A.deeper (envOfC qual (defScope st) s.heap.objs.size f cdv)) → DSs (cxOf CX0 P w K mg base N qual (defScope st) f cdv A outer s H E).nox (defBody st) t)
    (hsp : ∀ ds m R, sp ds m R → t (startD N.length ds) m (bodyEnds R)) : FnG P w K mg base CX0 (k + 1) f (liftSp K sp) := by
  obtain ⟨oc, od, kV, doc, pm, an, cdv, ct, osl, rfl, lk, hcd⟩ := F.ex
  intro A outer s H us vs Q E hr e0 rv ⟨ds, m, R, r, sm, q, kq⟩
  have hl : vs.length = ps.length := by rw [← r.length]; exact hn _ _ _ q
  have kin : K.In s.heap := e0.mod.kin.keeps fun b o e => (e0.bs b o e).1
  have lu : (us ++ ([] : List Value)).length = ps.length := by rw [List.append_nil, ← rv.length]; exact hl
  have hb1 := hb s us kin lu
  rw [List.append_nil] at hb1
  refine StX.run_bnd lk hcd S hr.r e0 (G := fun xs H2 => xs = vs ∧ H2 = H) (fun A' Ex Q' h => hb1 _ _ _ _ (h s H vs us e0 Un.refl rfl (fun _ _ z => z) rv hl ⟨rfl, rfl⟩)) fun s2 H2 xs g hr' => ?_
  obtain ⟨rfl, rfl⟩ := g
  exact ⟨_, (hbody cdv A outer s2 _ E ⟨hr', hr.g⟩).run.nox, body_lift r sm (hsp _ _ _ q) kq⟩
/-- with *rest behind n parameters -/
def spRest (n : Nat) (sp : DSp) : DSp := fun ds m R => n ≤ ds.length ∧ (ds.drop n).length ≤ sizeLine ∧ sp (ds.take n ++ [.tup (ds.drop n)]) m R
theorem fn_mkS {x qual : Str} {st : Stmt} {f : Addr} {fd : FuncData} {N ps : List Str} {pv : Str} {k : Nat} {sp : DSp} {t : DTS} (F : Fun K x qual st f fd) (S : FnScope N (ps ++ [pv]) (defScope st))
    (hb : ∀ (kV doc pm : Value) (an : Option Addr) (cdv ct : Value) (us rest : List Value), us.length = ps.length → bindArgs (PySem.W.fnOf x qual (defArgs st) (defBody st) (defScope st) .none kV doc pm an cdv ct) ⟨us ++ rest, []⟩ = (newTuple rest >>= fun t => pure (ps.zip us ++ [(pv, t)])))
    (hbody : ∀ (cdv : Value) (A : Around) (outer : List PySem.Env) (s : Shared) (H : Hp) (E : XK), RoomG k (A.deeper (envOfC qual (defScope st) s.heap.objs.size f cdv)) → DSs (cxOf CX0 P w K mg base N qual (defScope st) f cdv A outer s H E).nox (defBody st) t)
    (hsp : ∀ ds m R, sp ds m R → t (startD N.length ds) m (bodyEnds R)) : FnG P w K mg base CX0 (k + 1) f (liftSp K (spRest ps.length sp)) := by
  obtain ⟨oc, od, kV, doc, pm, an, cdv, ct, osl, rfl, lk, hcd⟩ := F.ex
  intro A outer s H us vs Q E hr e0 rv ⟨ds, m, R, r, sm, ⟨hn, hz, q⟩, kq⟩
  have lr := r.length
  have lv := rv.length
  have hH : H s.heap.objs.size = none := e0.hok.fresh (Nat.le_refl _)
  have ud : (us.take ps.length).length = ps.length := by rw [List.length_take]; omega
  have eus : us = us.take ps.length ++ us.drop ps.length := (List.take_append_drop _ _).symm
  rw [eus]
  have zr : (vs.drop ps.length).length ≤ sizeLine := by rw [List.length_drop] at hz ⊢; omega
  have rd := rv.drop ps.length
  have rt := rv.take ps.length
  have lw : (vs.take ps.length).length = ps.length := by rw [List.length_take]; omega
  refine StX.run_bnd lk hcd S hr.r e0 (G := fun xs H2 => ∃ p, H p = none ∧ xs = vs.take ps.length ++ [V.ref p] ∧ H2 = upd H p (.tup (vs.drop ps.length))) (fun A' Ex Q' h => ?_) fun s2 H2 xs g hr' => ?_
  · rw [hb kV doc pm an cdv ct _ (us.drop ps.length) ud]
    refine wpAny_bind (wpAny_newTuple (wpAny_pure ?_) (by rw [← rd.length]; exact zr))
    have ok : ObjOk P w (upd H s.heap.objs.size (.tup (vs.drop ps.length))) (s.heap.push ({ cls := .type "tuple", data := .seq (us.drop ps.length).toArray } : Obj)) s.heap.objs.size (.tup (vs.drop ps.length)) :=
      ⟨zr, _, rd, ⟨_, Heap.get?_push_size _ rfl, rfl, _, rfl⟩⟩
    have un : Un (frs outer) [] H (upd H s.heap.objs.size (.tup (vs.drop ps.length))) s.heap (s.heap.push ({ cls := .type "tuple", data := .seq (us.drop ps.length).toArray } : Obj)) := StX.un_laid hH
    have z := h _ _ (vs.take ps.length ++ [V.ref s.heap.objs.size]) (us.take ps.length ++ [Value.ref s.heap.objs.size]) (StX.env0_laid e0 ok) un rfl (fun _ _ z => z.elim) (rt.append (.cons rfl .nil)) (by rw [List.length_append, List.length_append, lw]; rfl) ⟨_, hH, rfl, rfl⟩
    rwa [List.zip_append ud.symm] at z
  · obtain ⟨p, hp, rfl, rfl⟩ := g
    refine ⟨_, (hbody cdv A outer s2 _ E ⟨hr', hr.g⟩).run.nox, body_lift (ds := ds.take ps.length ++ [.tup (ds.drop ps.length)]) ?_ (sm.laid hp) (hsp _ _ _ q) fun d m' v H' a1 a2 a3 a4 => kq d m' v H' a1 ((Fr.laid sm hp).trans a2) a3 a4⟩
    exact RepL.append (RepL.mono (Fr.laid sm hp) _ _ (r.take _)) (.cons (new_tup sm hp (r.drop _)) .nil)
end

/-- a def of the module that may be called -/
structure Cal (X : Cx) (x : Str) (k : Nat) (sp : DSp) : Prop where
  ex : ∃ f, X.mg x = some (.ref f) ∧ PySem.W.keepIn X.K (.ref f) = true ∧ FnG X.prog X.w X.K X.mg X.base CX0 k f (liftSp X.K sp)
/-- a method of the class at C -/
structure CalM (X : Cx) (C : Addr) (m : Str) (k : Nat) (sp : DSp) : Prop where
  ex : ∃ f, Meth X.K C m f ∧ FnG X.prog X.w X.K X.mg X.base CX0 k f (liftSp X.K sp)
/-- the making of an instance -/
structure CalC (X : Cx) (C : Addr) (k : Nat) (sp : DSp) : Prop where
  ex : ∃ f, Mk X.K C f ∧ FnG X.prog X.w X.K X.mg X.base CX0 k f (liftSp X.K sp)
/-- a class method of the class at C -/
structure CalK (X : Cx) (C : Addr) (m : Str) (k : Nat) (sp : DSp) : Prop where
  ex : ∃ mc p g, ClX.CRead X.K C mc ∧ ClX.CMet X.K C mc m p g ∧ FnG X.prog X.w X.K X.mg X.base CX0 k g (liftSp X.K sp)
section
variable {X : Cx} {k : Nat} {sp : DSp} {C : Addr} {x m : Str} {p pos apos : Pos} {e o : Expr} {es : List Expr} {te ta : DTE} {t : DTA}
def tCl (sp : DSp) (t : DTA) : DTE := fun env m Q => t env m fun ds m1 => sp ds m1 Q
theorem run_fnC {pins : List (Addr × Obj)} {σ : L2.St} {H : Hp} {s : Shared} {CX : CXT} {f : Addr} {sp : Sp} {E : XK} {Q : VK} {us : List Value} {vs : List V} (F : FnG X.prog X.w X.K X.mg X.base CX k f sp) (hr : RoomG k X.A) (hx : Passes CX X E) (I : Inv X pins σ H s) (r : Vals vs us)
    (q : sp vs H Q E) : codeAny (model X.prog X.w) X.A (.call (.ref f) ⟨us, []⟩) (fun r s' => match r with | .ok (.ret v) => EP X pins σ Q v s' | .ok _ => False | .error e => X.xe e s') s :=
  codeAny_mono (F X.A X.stack s H us vs Q E hr I.env0 r q) fun res s' h => match res, h with
    | .error e, h => hx pins σ H s e s' I h
    | .ok (.ret u), h => I.after h
    | .ok .next, h => h.elim
    | .ok .brk, h => h.elim
    | .ok .cont, h => h.elim
theorem run_fnG {pins : List (Addr × Obj)} {σ : L2.St} {H : Hp} {s : Shared} {CX : CXT} {f : Addr} {sp : Sp} {E : XK} {Q : VK} {us : List Value} {vs : List V} (F : FnG X.prog X.w X.K X.mg X.base CX k f sp) (hr : RoomG k X.A) (hx : Passes CX X E) (I : Inv X pins σ H s) (r : Vals vs us)
    (q : sp vs H Q E) : wpAny (model X.prog X.w) X.A (call (.ref f) us) (EP X pins σ Q) X.xe s := wpAny_call (run_fnC F hr hx I r q)
/-- a new instance, its __init__ by the promise -/
theorem run_makeG {pins : List (Addr × Obj)} {σ : L2.St} {H : Hp} {s : Shared} {CX : CXT} {f : Addr} {sp : Sp} {E : XK} {Q : VK} {us : List Value} {vs : List V} (M0 : Mk X.K C f) (F : FnG X.prog X.w X.K X.mg X.base CX k f sp) (hr : RoomG (k + 1) X.A) (hx : Passes CX X E) (I : Inv X pins σ H s) (r : Vals vs us)
    (h : ∀ x dx, H x = none → H dx = none → dx ≠ x → sp (V.ref x :: vs) (upd (upd H dx (.own x)) x (.ins C dx [])) (fun v H2 => v = .non ∧ Q (.ref x) H2) E) : wpAny (model X.prog X.w) X.A (call (.ref C) us) (EP X pins σ Q) X.xe s := by
  have J := Inv.made (C := C) I
  have q := h (s.heap.objs.size + 1) s.heap.objs.size (I.hok.fresh (Nat.le_succ _)) (I.hok.fresh (Nat.le_refl _)) (Nat.ne_of_lt (Nat.lt_succ_self _))
  refine wpAny_call (make_map (f := f) I.kIn M0.makes M0.init (beq_iff_eq.mp M0.fn) (codeAny_mono (F _ X.stack _ _ (Value.ref (s.heap.objs.size + 1) :: us) _ _ E (hr.make C us []) (J.env0.make C us []) (show Vals (V.ref (s.heap.objs.size + 1) :: vs) (Value.ref (s.heap.objs.size + 1) :: us) from .cons rfl r) q) fun res s' h => ?_))
  match res, h with
  | .error e, h => exact hx pins σ _ _ e s' J h
  | .ok (.ret u), h =>
    obtain ⟨v, H', J', rv, ev, q'⟩ := J.after h
    subst ev
    exact ⟨rv, V.ref (s.heap.objs.size + 1), H', J', rfl, q'⟩
  | .ok .next, h => exact h.elim
  | .ok .brk, h => exact h.elim
  | .ok .cont, h => exact h.elim
theorem pe_callR {f : Addr} {sp : Sp} {E : XK} {t : TA} {CX : CXT} (F : FnG X.prog X.w X.K X.mg X.base CX k f sp) (hr : RoomG k X.A) (hk : PySem.W.keepIn X.K (.ref f) = true) (hg : Gl X x) (hm : X.mg x = some (.ref f)) (hx : Passes CX X E) (ha : PA X (e :: es) t)
    (hd : (x == ("__debug__" : Str)) = false := by decide) (he : starEach (e :: es) X.env = (false, eval e X.env) :: starEach es X.env := by rfl) (hpl : (backTo pos (starEach es X.env)).any (·.1) = false := by rfl) :
    PE X (.Call (.Name x p) (e :: es) [] pos) (fun σ H Q => t σ H fun vs H1 => sp vs H1 Q E) := by
  refine ⟨fun pins s σ H Q I h => ?_⟩
  refine wpAny_Call_Name_kw (ld_glob I hg hm ?_ hd)
  refine PySem.W.callWith_K (h₀ := X.base) I.ok.mod.kin hk (thn (ha.run pos pins s σ H _ I h) fun us s1 ⟨vs, H1, I1, r, q⟩ => ⟨I1.kIn, ?_⟩) he hpl
  exact run_fnG F hr hx I1 r q
theorem pe_callR0 {f : Addr} {sp : Sp} {E : XK} {CX : CXT} (F : FnG X.prog X.w X.K X.mg X.base CX k f sp) (hr : RoomG k X.A) (hk : PySem.W.keepIn X.K (.ref f) = true) (hg : Gl X x) (hm : X.mg x = some (.ref f)) (hx : Passes CX X E)
    (hd : (x == ("__debug__" : Str)) = false := by decide) : PE X (.Call (.Name x p) [] [] pos) (fun σ H Q => sp [] H Q E) := by
  refine ⟨fun pins s σ H Q I h => ?_⟩
  refine wpAny_Call_Name_kw (ld_glob I hg hm ?_ hd)
  exact PySem.W.callWith_K0 I.kIn hk (run_fnG F hr hx I .nil h)
theorem cl_lift {σ : L2.St} {H : Hp} {Q : VK} (h : liftE X.K (tCl sp t) σ H Q) : liftA X.K t σ H fun vs H1 => liftSp X.K sp vs H1 Q E0 := by
  obtain ⟨env, m, R, eo, s, h, k⟩ := h
  refine ⟨env, m, _, eo, s, h, fun ds m1 vs H1 h1 f1 s1 r1 => ?_⟩
  exact ⟨ds, m1, R, r1, s1, h1, fun d m' v H' a1 a2 a3 a4 => k d m' v H' a1 (f1.trans a2) a3 a4⟩
theorem de_call (c : Cal X x k sp) (hr : RoomG k X.A) (ha : DA X (e :: es) t) (hg : Gl X x := by rfl) (hd : (x == ("__debug__" : Str)) = false := by decide) (he : starEach (e :: es) X.env = (false, eval e X.env) :: starEach es X.env := by rfl)
    (hpl : (backTo pos (starEach es X.env)).any (·.1) = false := by rfl) : DE X (.Call (.Name x p) (e :: es) [] pos) (tCl sp t) := by
  obtain ⟨f, h1, h2, F⟩ := c.ex
  exact ⟨PE.weak (pe_callR F hr h2 hg h1 pass0 ha.run hd he hpl) fun σ H Q h => cl_lift h⟩
theorem de_call0 (c : Cal X x k sp) (hr : RoomG k X.A) (hg : Gl X x := by rfl) (hd : (x == ("__debug__" : Str)) = false := by decide) : DE X (.Call (.Name x p) [] [] pos) (tCl sp tA0) := by
  obtain ⟨f, h1, h2, F⟩ := c.ex
  exact ⟨PE.weak (pe_callR0 F hr h2 hg h1 pass0 hd) fun σ H Q h => by
    obtain ⟨env, m, R, eo, s, h, k⟩ := h
    exact ⟨[], m, R, .nil, s, h, fun d m' v H' a1 a2 a3 a4 => k d m' v H' a1 a2 a3 a4⟩⟩
/-! methods -/
def tMt (C : Addr) (m : Str) (sp : DSp) (ta : DTE) (t : DTA) : DTE := fun env st Q => ta env st fun o m1 => ∃ ns vs, look m1 o = .ins C ns vs ∧ m ∉ ns ∧ t env m1 fun ds m2 => sp (o :: ds) m2 Q
theorem lookup_none {α : Type} {f : Str} : ∀ {fs : List (Str × α)}, f ∉ fs.map (·.1) → fs.lookup f = none
  | [], _ => rfl
  | (g, v) :: fs, h => by
    simp only [List.map_cons, List.mem_cons, not_or] at h
    have : (f == g) = false := beq_eq_false_iff_ne.mpr h.1
    simp only [List.lookup, this]
    exact lookup_none h.2
theorem pe_methG {C f : Addr} {sp : Sp} {E : XK} {CX : CXT} {ta : TE} {t : TA} {pl : Sem Bool} (he : PE X o ta) (c : Cls X.K C) (hm : Meth X.K C m f) (F : FnG X.prog X.w X.K X.mg X.base CX k f sp) (hr : RoomG k X.A) (hx : Passes CX X E) (ha : PA X (e :: es) t)
    (hst : starEach (e :: es) X.env = (false, eval e X.env) :: starEach es X.env := by rfl) (hpl : (backTo pos (starEach es X.env)).any (·.1) = false := by rfl)
    (ht : eval (.Call (.Attribute o m apos) (e :: es) [] pos) X.env = (do
      let ov ← eval o X.env
      standAt apos.atName
      let (f, first) ← holding [ov] (getMethod ov m pl)
      callWith pos f first (backTo pos (starEach (e :: es) X.env)) (backToKw pos (keywordEach [] X.env))) := by rfl) :
    PE X (.Call (.Attribute o m apos) (e :: es) [] pos) (tMethR C m sp E ta t) := by
  refine ⟨fun pins s σ H Q I h => PySem.W.methodCall_KW (pl := pl) (thn (he.run pins s σ H _ I h) fun u s1 hx1 => ?_) ht⟩
  obtain ⟨x, H1, I1, rx, a, dx, fs, rfl, ea, l, q⟩ := hx1
  obtain rfl : u = Value.ref a := rx
  refine getmeth_ok I1 ea c hm l (PySem.W.callWith_K (first := [.ref a]) (h₀ := X.base) I.ok.mod.kin hm.kp (thn (ha.run pos pins s1 σ H1 _ I1 q) fun us s2 hx2 => ?_) hst hpl)
  obtain ⟨vs, H2, I2, r, q2⟩ := hx2
  exact ⟨I2.kIn, run_fnG (us := .ref a :: us) (vs := .ref a :: vs) F hr hx I2 (.cons rfl r) q2⟩
theorem de_meth {pl : Sem Bool} (c : CalM X C m k sp) (hc : Cls X.K C) (hr : RoomG k X.A) (ho : DE X o ta) (ha : DA X (e :: es) t)
    (hst : starEach (e :: es) X.env = (false, eval e X.env) :: starEach es X.env := by rfl) (hpl : (backTo pos (starEach es X.env)).any (·.1) = false := by rfl)
    (ht : eval (.Call (.Attribute o m apos) (e :: es) [] pos) X.env = (do
      let ov ← eval o X.env
      standAt apos.atName
      let (f, first) ← holding [ov] (getMethod ov m pl)
      callWith pos f first (backTo pos (starEach (e :: es) X.env)) (backToKw pos (keywordEach [] X.env))) := by rfl) :
    DE X (.Call (.Attribute o m apos) (e :: es) [] pos) (tMt C m sp ta t) := by
  obtain ⟨f, hm, F⟩ := c.ex
  refine ⟨PE.weak (pe_methG ho.run hc hm F hr pass0 ha.run hst hpl ht) fun σ H Q h => ?_⟩
  obtain ⟨env, mm, R, eo, s, h, k⟩ := h
  refine ⟨env, mm, _, eo, s, h, fun d m1 v H1 h1 f1 s1 r1 => ?_⟩
  obtain ⟨ns, vs, e1, hn, h1⟩ := h1
  have cc := cont_of s1 r1
  rw [e1] at cc
  obtain ⟨a, dx, fs, rfl, h2, rfl, r2⟩ := cc
  refine ⟨a, dx, fs, rfl, h2, lookup_none hn, env, m1, _, eo.mono f1, s1, h1, fun ds m2 ws H2 h3 f2 s2 r3 => ?_⟩
  exact ⟨d :: ds, m2, R, .cons (Rep.mono f2 _ _ r1) r3, s2, h3, fun d' m' v H' a1 a2 a3 a4 => k d' m' v H' a1 ((f1.trans f2).trans a2) a3 a4⟩
theorem pe_methR0 {C f : Addr} {sp : Sp} {E : XK} {CX : CXT} {ta : TE} {pl : Sem Bool} (he : PE X o ta) (c : Cls X.K C) (hm : Meth X.K C m f) (F : FnG X.prog X.w X.K X.mg X.base CX k f sp) (hr : RoomG k X.A) (hx : Passes CX X E)
    (ht : eval (.Call (.Attribute o m apos) [] [] pos) X.env = (do
      let ov ← eval o X.env
      standAt apos.atName
      let (f, first) ← holding [ov] (getMethod ov m pl)
      callWith pos f first (backTo pos (starEach [] X.env)) (backToKw pos (keywordEach [] X.env))) := by rfl) :
    PE X (.Call (.Attribute o m apos) [] [] pos) (tMethR C m sp E ta tNil) := by
  refine ⟨fun pins s σ H Q I h => ?_⟩
  refine PySem.W.methodCall_KW (pl := pl) (thn (he.run pins s σ H _ I h) fun u s1 ⟨x, H1, I1, rx, a, dx, fs, ex, ea, l, q⟩ => ?_) ht
  subst ex
  obtain rfl : u = Value.ref a := rx
  refine getmeth_ok I1 ea c hm l ?_
  exact PySem.W.callWith_K0 (first := [.ref a]) I1.kIn hm.kp (run_fnG (us := [.ref a]) (vs := [.ref a]) F hr hx I1 (.cons rfl .nil) q)
theorem de_meth0 {pl : Sem Bool} (c : CalM X C m k sp) (hc : Cls X.K C) (hr : RoomG k X.A) (ho : DE X o ta)
    (ht : eval (.Call (.Attribute o m apos) [] [] pos) X.env = (do
      let ov ← eval o X.env
      standAt apos.atName
      let (f, first) ← holding [ov] (getMethod ov m pl)
      callWith pos f first (backTo pos (starEach [] X.env)) (backToKw pos (keywordEach [] X.env))) := by rfl) :
    DE X (.Call (.Attribute o m apos) [] [] pos) (tMt C m sp ta tA0) := by
  obtain ⟨f, hm, F⟩ := c.ex
  refine ⟨PE.weak (pe_methR0 ho.run hc hm F hr pass0 ht) fun σ H Q h => ?_⟩
  obtain ⟨env, mm, R, eo, s, h, k⟩ := h
  refine ⟨env, mm, _, eo, s, h, fun d m1 v H1 h1 f1 s1 r1 => ?_⟩
  obtain ⟨ns, vs, e1, hn, h1⟩ := h1
  have cc := cont_of s1 r1
  rw [e1] at cc
  obtain ⟨a, dx, fs, rfl, h2, rfl, r2⟩ := cc
  exact ⟨a, dx, fs, rfl, h2, lookup_none hn, [d], m1, R, .cons r1 .nil, s1, h1, fun d' m' v H' a1 a2 a3 a4 => k d' m' v H' a1 (f1.trans a2) a3 a4⟩
/-! class methods -/
theorem pe_cmethG {C g q : Addr} {mc : Value} {sp : Sp} {E : XK} {CX : CXT} {ta : TE} {t : TA} {pl : Sem Bool} (he : PE X o ta) (r : ClX.CRead X.K C mc) (c : ClX.CMet X.K C mc m q g) (F : FnG X.prog X.w X.K X.mg X.base CX k g sp) (hr : RoomG k X.A) (hx : Passes CX X E) (ha : PA X (e :: es) t)
    (hst : starEach (e :: es) X.env = (false, eval e X.env) :: starEach es X.env := by rfl) (hpl : (backTo pos (starEach es X.env)).any (·.1) = false := by rfl)
    (ht : eval (.Call (.Attribute o m apos) (e :: es) [] pos) X.env = (do
      let ov ← eval o X.env
      standAt apos.atName
      let (f, first) ← holding [ov] (getMethod ov m pl)
      callWith pos f first (backTo pos (starEach (e :: es) X.env)) (backToKw pos (keywordEach [] X.env))) := by rfl) :
    PE X (.Call (.Attribute o m apos) (e :: es) [] pos) (ClX.tCMeth C sp E ta t) := by
  refine ⟨fun pins s σ H Q I h => PySem.W.methodCall_KW (pl := pl) (thn (he.run pins s σ H _ I h) fun u s1 hx1 => ?_) ht⟩
  obtain ⟨x, H1, I1, rx, rfl, q⟩ := hx1
  obtain rfl : u = Value.ref C := rx
  refine ClX.getmethcm_ok I1 r c fun s2 I2 => ?_
  refine ClX.callwith_cm I2 (ClX.base_none I1 (Nat.le_refl _)) c.fi (thn (ha.run pos _ s2 σ H1 _ I2 q) fun us s3 hx3 => ?_) hst hpl
  obtain ⟨vs, H2, I3, rv, q2⟩ := hx3
  refine ⟨⟨ClX.pin_at I3, I3.kIn⟩, ?_⟩
  exact thn (wpAny_call (PySem.W.method_call (ClX.pin_at I3) (run_fnC (us := .ref C :: us) (vs := .ref C :: vs) F hr hx I3 (.cons rfl rv) q2))) fun _ _ y => ClX.unpinE y
def tCm (C : Addr) (sp : DSp) (t : DTA) : DTE := fun env st Q => t env st fun ds m2 => sp (.ref C :: ds) m2 Q
theorem de_cmeth {pl : Sem Bool} {cx : Str} {cp : Pos} (c : CalK X C m k sp) (hr : RoomG k X.A) (hm : X.mg cx = some (.ref C)) (ha : DA X (e :: es) t) (hg : Gl X cx := by rfl) (hd : (cx == ("__debug__" : Str)) = false := by decide)
    (hst : starEach (e :: es) X.env = (false, eval e X.env) :: starEach es X.env := by rfl) (hpl : (backTo pos (starEach es X.env)).any (·.1) = false := by rfl)
    (ht : eval (.Call (.Attribute (.Name cx cp) m apos) (e :: es) [] pos) X.env = (do
      let ov ← eval (.Name cx cp) X.env
      standAt apos.atName
      let (f, first) ← holding [ov] (getMethod ov m pl)
      callWith pos f first (backTo pos (starEach (e :: es) X.env)) (backToKw pos (keywordEach [] X.env))) := by rfl) :
    DE X (.Call (.Attribute (.Name cx cp) m apos) (e :: es) [] pos) (tCm C sp t) := by
  obtain ⟨mc, q, g, h1, h2, F⟩ := c.ex
  refine ⟨PE.weak (pe_cmethG (pe_glob (v := .ref C) hg hm rfl hd) h1 h2 F hr pass0 ha.run hst hpl ht) fun σ H Q h => ?_⟩
  obtain ⟨env, mm, R, eo, s, h, k⟩ := h
  refine ⟨rfl, env, mm, _, eo, s, h, fun ds m1 vs H1 h1 f1 s1 r1 => ?_⟩
  exact ⟨.ref C :: ds, m1, R, .cons rep_ref r1, s1, h1, fun d' m' v H' a1 a2 a3 a4 => k d' m' v H' a1 (f1.trans a2) a3 a4⟩
/-! instances -/
/-- a new instance, mutable -/
def tNw (C : Addr) (sp : DSp) (t : DTA) : DTE := fun env st Q => t env st fun ds m1 => ∀ x, m1 x = none → sp (.ref x :: ds) (updM m1 x (.ins C [] [])) fun d m2 => d = .non ∧ Q (.ref x) m2
theorem nw_lift {ds : List D} {m1 : M} {vs : List V} {H1 : Hp} {R : DK} {Q : VK} (s1 : Sim X.K m1 H1) (r1 : RepL X.K m1 H1 ds vs)
    (h : ∀ x, m1 x = none → sp (.ref x :: ds) (updM m1 x (.ins C [] [])) fun d m2 => d = .non ∧ R (.ref x) m2)
    (k : ∀ d m' v H', R d m' → Fr m1 H1 m' H' → Sim X.K m' H' → Rep X.K m' H' d v → Q v H') :
    ∀ x dx, H1 x = none → H1 dx = none → dx ≠ x → liftSp X.K sp (V.ref x :: vs) (upd (upd H1 dx (.own x)) x (.ins C dx [])) (fun v H2 => v = .non ∧ Q (.ref x) H2) E0 := by
  intro x dx hx hdx ne
  have f0 := Fr.laid (o := .own x) s1 hdx
  have s2 := s1.laid (o := .own x) hdx
  have hx' : upd H1 dx (.own x) x = none := by rw [upd_ne ne.symm]; exact hx
  have f2 := Fr.laidM (o := .ins C dx []) (d := .ins C [] []) s2 hx'
  have s3 := Sim.laidM (o := .ins C dx []) (d := .ins C [] []) s2 hx' ⟨dx, [], upd_same, rfl, .nil⟩
  refine ⟨.ref x :: ds, _, _, .cons rep_ref (RepL.mono (f0.trans f2) _ _ r1), s3, h x (s1.free hx), fun d m' v H' a1 a2 a3 a4 => ?_⟩
  obtain ⟨rfl, a1⟩ := a1
  exact ⟨by simpa only [Rep] using a4, k _ m' _ H' a1 ((f0.trans f2).trans a2) a3 rep_ref⟩
theorem pe_makeG {f : Addr} {sp : Sp} {E : XK} {CX : CXT} {t : TA} (M0 : Mk X.K C f) (F : FnG X.prog X.w X.K X.mg X.base CX k f sp) (hr : RoomG (k + 1) X.A) (hg : Gl X x) (hm : X.mg x = some (.ref C)) (hx : Passes CX X E) (ha : PA X (e :: es) t) (hdb : (x == ("__debug__" : Str)) = false := by decide)
    (he : starEach (e :: es) X.env = (false, eval e X.env) :: starEach es X.env := by rfl) (hpl : (backTo pos (starEach es X.env)).any (·.1) = false := by rfl) : PE X (.Call (.Name x p) (e :: es) [] pos) (StX.tMakeR C sp E t) := by
  refine ⟨fun pins s σ H Q I h => wpAny_Call_Name_kw (ld_glob I hg hm ?_ hdb)⟩
  refine PySem.W.callWith_K (h₀ := X.base) I.ok.mod.kin M0.kp (thn (ha.run pos pins s σ H _ I h) fun us s1 hx1 => ?_) he hpl
  obtain ⟨vs, H1, I1, r, q⟩ := hx1
  exact ⟨I1.kIn, run_makeG M0 F hr hx I1 r q⟩
theorem de_new (c : CalC X C k sp) (hr : RoomG (k + 1) X.A) (hm : X.mg x = some (.ref C)) (ha : DA X (e :: es) t) (hg : Gl X x := by rfl) (hd : (x == ("__debug__" : Str)) = false := by decide)
    (he : starEach (e :: es) X.env = (false, eval e X.env) :: starEach es X.env := by rfl) (hpl : (backTo pos (starEach es X.env)).any (·.1) = false := by rfl) : DE X (.Call (.Name x p) (e :: es) [] pos) (tNw C sp t) := by
  obtain ⟨f, M0, F⟩ := c.ex
  refine ⟨PE.weak (pe_makeG M0 F hr hg hm pass0 ha.run hd he hpl) fun σ H Q h => ?_⟩
  obtain ⟨env, mm, R, eo, s, h, k⟩ := h
  refine ⟨env, mm, _, eo, s, h, fun ds m1 vs H1 h1 f1 s1 r1 => ?_⟩
  exact nw_lift s1 r1 h1 fun d m' v H' a1 a2 a3 a4 => k d m' v H' a1 (f1.trans a2) a3 a4
theorem pe_makeR0 {f : Addr} {sp : Sp} {E : XK} {CX : CXT} (M0 : Mk X.K C f) (F : FnG X.prog X.w X.K X.mg X.base CX k f sp) (hr : RoomG (k + 1) X.A) (hg : Gl X x) (hm : X.mg x = some (.ref C)) (hx : Passes CX X E) (hdb : (x == ("__debug__" : Str)) = false := by decide) :
    PE X (.Call (.Name x p) [] [] pos) (StX.tMakeR C sp E tNil) := by
  refine ⟨fun pins s σ H Q I h => ?_⟩
  refine wpAny_Call_Name_kw (ld_glob I hg hm ?_ hdb)
  exact PySem.W.callWith_K0 I.kIn M0.kp (run_makeG (us := []) M0 F hr hx I .nil h)
theorem de_new0 (c : CalC X C k sp) (hr : RoomG (k + 1) X.A) (hm : X.mg x = some (.ref C)) (hg : Gl X x := by rfl) (hd : (x == ("__debug__" : Str)) = false := by decide) : DE X (.Call (.Name x p) [] [] pos) (tNw C sp tA0) := by
  obtain ⟨f, M0, F⟩ := c.ex
  refine ⟨PE.weak (pe_makeR0 M0 F hr hg hm pass0 hd) fun σ H Q h => ?_⟩
  obtain ⟨env, mm, R, eo, s, h, k⟩ := h
  exact nw_lift s .nil h fun d m' v H' a1 a2 a3 a4 => k d m' v H' a1 a2 a3 a4
/-! starred arguments -/
def tAS (ta : DTE) (tr : DTA) : DTA := fun env m Q => ta env m fun d m1 => ∃ xs, (look m1 d = .tup xs ∨ look m1 d = .lst xs) ∧ tr env m1 fun ds m2 => Q (xs ++ ds) m2
theorem star_items {K : PySem.W.Frag} {m : M} {H : Hp} {d : D} {v : V} {xs : List D} (c : Cont K m H (look m d) v) (h : look m d = .tup xs ∨ look m d = .lst xs) : ∃ p vs, v = .ref p ∧ (SqT K H p vs ∨ SqL K H p vs) ∧ RepL K m H xs vs := by
  rcases h with e | e <;> rw [e] at c
  · obtain ⟨a, vs, rfl, h, r⟩ := cont_tup c
    exact ⟨a, vs, rfl, .inl (tupAt_sq h), r⟩
  · obtain ⟨a, vs, rfl, h, r⟩ := cont_lst c
    exact ⟨a, vs, rfl, .inr (.of h), r⟩
theorem da_star {tr : DTA} {sp_ : Pos} (ha : DE X e ta) (hr : DA X es tr) (hs : starEach (.Starred e sp_ :: es) X.env = (true, eval e X.env) :: starEach es X.env := by rfl) : DA X (.Starred e sp_ :: es) (tAS ta tr) := ⟨PA.weak (StX.pa_star ha.run hr.run hs) fun σ H Q h => by
  obtain ⟨env, m, R, eo, s, h, k⟩ := h
  refine ⟨env, m, _, eo, s, h, fun d m1 v H1 h1 f1 s1 r1 => ?_⟩
  obtain ⟨xs, e1, h1⟩ := h1
  obtain ⟨q, vs, rfl, hq, rx⟩ := star_items (cont_of s1 r1) e1
  refine ⟨q, vs, rfl, hq, env, m1, _, eo.mono f1, s1, h1, fun ds m2 ws H2 h2 f2 s2 r2 => ?_⟩
  exact k (xs ++ ds) m2 (vs ++ ws) H2 h2 (f1.trans f2) s2 (RepL.append (RepL.mono f2 _ _ rx) r2)⟩
/-- x(e, .., *y) -/
theorem pe_callSG {f : Addr} {sp : Sp} {E : XK} {CX : CXT} {t : TA} (F : FnG X.prog X.w X.K X.mg X.base CX k f sp) (hr : RoomG k X.A) (hk : PySem.W.keepIn X.K (.ref f) = true) (hg : Gl X x) (hm : X.mg x = some (.ref f)) (hx : Passes CX X E) (ha : PA X (e :: es) t) (hd : (x == ("__debug__" : Str)) = false := by decide)
    (he : starEach (e :: es) X.env = (false, eval e X.env) :: starEach es X.env := by rfl) (hst : (backTo pos (starEach es X.env)).any (·.1) = true := by rfl) :
    PE X (.Call (.Name x p) (e :: es) [] pos) (fun σ H Q => t σ H fun vs H1 => sp vs H1 Q E) := by
  refine ⟨fun pins s σ H Q I h => wpAny_Call_Name_kw (ld_glob I hg hm ?_ hd)⟩
  refine PySem.W.callWith_S2 (h₀ := X.base) I.ok.mod.kin hk (thn (ha.run pos pins s σ H _ I h) fun us s1 hx1 => ?_) he hst
  obtain ⟨vs, H1, I1, r, q⟩ := hx1
  exact ⟨I1.kIn, run_fnG F hr hx I1 r q⟩
theorem pe_callS1G {f : Addr} {sp : Sp} {E : XK} {CX : CXT} {te : TE} {sp_ : Pos} (F : FnG X.prog X.w X.K X.mg X.base CX k f sp) (hr : RoomG k X.A) (hk : PySem.W.keepIn X.K (.ref f) = true) (hg : Gl X x) (hm : X.mg x = some (.ref f)) (hx : Passes CX X E) (he : PE X e te) (hd : (x == ("__debug__" : Str)) = false := by decide)
    (hst : starEach [.Starred e sp_] X.env = [(true, eval e X.env)] := by rfl) :
    PE X (.Call (.Name x p) [.Starred e sp_] [] pos) (fun σ H Q => te σ H fun y H1 => ∃ a xs, y = V.ref a ∧ (SqT X.K H1 a xs ∨ SqL X.K H1 a xs) ∧ sp xs H1 Q E) := by
  refine ⟨fun pins s σ H Q I h => wpAny_Call_Name_kw (ld_glob I hg hm ?_ hd)⟩
  refine PySem.W.callWith_S (h₀ := X.base) I.ok.mod.kin hk (thn (he.run pins s σ H _ I h) fun v s1 hx1 => ?_) hst
  obtain ⟨y, H1, I1, ry, a, xs, rfl, hxs, q⟩ := hx1
  obtain rfl : v = Value.ref a := ry
  exact StX.star_any I1 hxs fun us s2 I2 rv => ⟨I2.kIn, run_fnG F hr hx I2 rv q⟩
theorem de_callS2 (c : Cal X x k sp) (hr : RoomG k X.A) (ha : DA X (e :: es) t) (hg : Gl X x := by rfl) (hd : (x == ("__debug__" : Str)) = false := by decide) (he : starEach (e :: es) X.env = (false, eval e X.env) :: starEach es X.env := by rfl)
    (hst : (backTo pos (starEach es X.env)).any (·.1) = true := by rfl) : DE X (.Call (.Name x p) (e :: es) [] pos) (tCl sp t) := by
  obtain ⟨f, h1, h2, F⟩ := c.ex
  exact ⟨PE.weak (pe_callSG F hr h2 hg h1 pass0 ha.run hd he hst) fun σ H Q h => cl_lift h⟩
/-- x(*y) -/
theorem de_callS1 {sp_ : Pos} (c : Cal X x k sp) (hr : RoomG k X.A) (ha : DE X e ta) (hg : Gl X x := by rfl) (hd : (x == ("__debug__" : Str)) = false := by decide) (hst : starEach [.Starred e sp_] X.env = [(true, eval e X.env)] := by rfl) :
    DE X (.Call (.Name x p) [.Starred e sp_] [] pos) (tCl sp (tAS ta tA0)) := by
  obtain ⟨f, h1, h2, F⟩ := c.ex
  refine ⟨PE.weak (pe_callS1G F hr h2 hg h1 pass0 ha.run hd hst) fun σ H Q h => ?_⟩
  obtain ⟨env, m, R, eo, s, h, k⟩ := h
  refine ⟨env, m, _, eo, s, h, fun d m1 v H1 h1 f1 s1 r1 => ?_⟩
  obtain ⟨xs, e1, h1⟩ := h1
  obtain ⟨q, vs, rfl, hq, rx⟩ := star_items (cont_of s1 r1) e1
  have h1 : sp (xs ++ []) m1 R := h1
  rw [List.append_nil] at h1
  exact ⟨q, vs, rfl, hq, xs, m1, R, rx, s1, h1, fun d m' v H' a1 a2 a3 a4 => k d m' v H' a1 (f1.trans a2) a3 a4⟩
/-- C(*y), C a class, by a global or by a name of the def -/
theorem pe_newS {f : Addr} {sp : Sp} {E : XK} {CX : CXT} {fe : Expr} {te tf : TE} {sp_ : Pos} (M0 : Mk X.K C f) (F : FnG X.prog X.w X.K X.mg X.base CX k f sp) (hr : RoomG (k + 1) X.A) (hx : Passes CX X E) (hf : PE X (.Name x p) tf) (he : PE X e te)
    (hst : starEach [.Starred e sp_] X.env = [(true, eval e X.env)] := by rfl) :
    PE X (.Call (.Name x p) [.Starred e sp_] [] pos) (fun σ H Q => tf σ H fun z H0 => z = .ref C ∧ te σ H0 fun y H1 => ∃ a xs, y = V.ref a ∧ (SqT X.K H1 a xs ∨ SqL X.K H1 a xs) ∧ ∀ x dx, H1 x = Option.none → H1 dx = Option.none → dx ≠ x →
      sp (V.ref x :: xs) (upd (upd H1 dx (.own x)) x (.ins C dx [])) (fun v H2 => v = .non ∧ Q (.ref x) H2) E) := by
  refine ⟨fun pins s σ H Q I h => ?_⟩
  refine wpAny_Call_Name_kw (thn (hf.run pins s σ H _ I h) fun u s0 ⟨z, H0, I0, rz, ez, q0⟩ => ?_)
  subst ez
  obtain rfl : u = Value.ref C := rz
  refine PySem.W.callWith_S (h₀ := X.base) I.ok.mod.kin M0.kp (thn (he.run pins s0 σ H0 _ I0 q0) fun v s1 ⟨y, H1, I1, ry, a, xs, ey, hxs, q⟩ => ?_) hst
  subst ey
  obtain rfl : v = Value.ref a := ry
  exact StX.star_any I1 hxs fun us s2 I2 rv => ⟨I2.kIn, run_makeG M0 F hr hx I2 rv q⟩
def tNwF (C : Addr) (sp : DSp) (tf : DTE) (t : DTA) : DTE := fun env st Q => tf env st fun z m0 => z = .ref C ∧ tNw C sp t env m0 Q
theorem de_newS {tf : DTE} {sp_ : Pos} (c : CalC X C k sp) (hr : RoomG (k + 1) X.A) (hf : DE X (.Name x p) tf) (ha : DE X e ta) (hst : starEach [.Starred e sp_] X.env = [(true, eval e X.env)] := by rfl) :
    DE X (.Call (.Name x p) [.Starred e sp_] [] pos) (tNwF C sp tf (tAS ta tA0)) := by
  obtain ⟨f, M0, F⟩ := c.ex
  refine ⟨PE.weak (pe_newS (fe := e) M0 F hr pass0 hf.run ha.run hst) fun σ H Q h => ?_⟩
  obtain ⟨env, m, R, eo, s, h, k⟩ := h
  refine ⟨env, m, _, eo, s, h, fun z m0 v0 H0 h0 f0 s0 r0 => ?_⟩
  obtain ⟨rfl, h0⟩ := h0
  refine ⟨by simpa only [Rep] using r0, env, m0, _, eo.mono f0, s0, h0, fun d m1 v H1 h1 f1 s1 r1 => ?_⟩
  obtain ⟨xs, e1, h1⟩ := h1
  obtain ⟨q, vs, rfl, hq, rx⟩ := star_items (cont_of s1 r1) e1
  refine ⟨q, vs, rfl, hq, nw_lift s1 rx (fun x hx => ?_) fun d m' v H' a1 a2 a3 a4 => k d m' v H' a1 ((f0.trans f1).trans a2) a3 a4⟩
  have := h1 x hx
  rw [List.append_nil] at this
  exact this
end
end DL
/-! ### DL9: the end of a row -/
namespace DL
open PySem PySem.Spec PyProof.Rows L2
theorem callerG {k : Nat} (h : Room k callerA) : RoomG k callerA := ⟨h, rfl⟩
/-- what the law's def promises at its call -/
theorem law_callG {P : Program} {w : World} {K : PySem.W.Frag} {mg mb : Str → Option Value} {k : Nat} {fa a : Addr} {sp : DSp} {s1 : Shared} {vs : List Value} {ns : List Int}
    (KX : K.In s1.heap) (hns : s1.heap.Ns mainGlobals mg) (hb : s1.heap.Ns builtinsNs mb) (hbb : ∀ x : Str, x ≠ "__name__" → mb x = bootBuiltins x) (hlim : s1.heap.NoLimit) (hg : s1.gens = #[])
    (ha : s1.heap.get? a = some { cls := .type "list", data := .seq vs.toArray }) (hi : IntsAre vs ns) (hl : ns.length ≤ sizeLine) (hr : Room k callerA)
    (F : ∀ base : Heap, K.In base → base.Ns mainGlobals mg → FnG P w K mg base CX0 k fa (liftSp K sp)) (hsp : sp [.scr ns] (fun _ => none) fun d _ => d = .bl true) :
    codeAny (model P w) callerA (.call (.ref fa) ⟨[.ref a], []⟩) (fun r s' => r = .ok (.ret (.bool true)) ∧ OldK s1.heap s'.heap ∧ s'.os = s1.os ∧ AllBare s'.gens) s1 := by
  have rv := vals_ints hi
  have main : ∀ H : Hp, (∀ b u, H b = some u → b = a ∧ ∃ o xs, u = .frz o (.lst xs)) → SqL K H a (ns.map V.int) → HOk P w H s1.heap → (H a ≠ none → K.lookup a = none) →
      codeAny (model P w) callerA (.call (.ref fa) ⟨[.ref a], []⟩) (fun r s' => r = .ok (.ret (.bool true)) ∧ OldK s1.heap s'.heap ∧ s'.os = s1.os ∧ AllBare s'.gens) s1 := by
    intro H only hS ok hK
    have untr : ∀ {b : Addr} {o : Obj}, s1.heap.get? b = some o → (b = a → H a = none) → H b = none := fun {b o} _ z => by
      cases q : H b with
      | none => rfl
      | some u =>
        obtain ⟨rfl, _⟩ := only b u q
        rw [z rfl] at q; cases q
    have seen : ∀ {b : Addr} {o : Obj}, s1.heap.get? b = some o → (b = a → H a = none) → (hidT s1.heap H).get? b = some o := fun e z => hidT_get e (untr e z)
    have names : ∀ {b : Addr} {m : Str → Option Value}, s1.heap.Ns b m → (hidT s1.heap H).Ns b m := by
      rintro b m ⟨o, es, ep, e, d, r⟩
      refine ⟨o, es, ep, seen e (fun z => ?_), d, r⟩
      exfalso
      subst z
      rw [ha] at e
      cases e
      have d : Data.seq vs.toArray _ = Data.dict es ep := d
      cases d
    have kin : K.In (hidT s1.heap H) := fun b o e => seen (KX b o e) fun z => by
      subst z
      cases q : H b with
      | none => rfl
      | some u =>
        have := hK (by rw [q]; exact fun z => nomatch z)
        rw [this] at e; cases e
    have mod : Mod K mg (hidT s1.heap H) := ⟨kin, names hns, ⟨mb, names hb, hbb⟩, let ⟨mc, h1, h2⟩ := hlim; ⟨mc, names h1, h2⟩⟩
    have e0 : Env0 P w K mg (hidT s1.heap H) callerA [] s1 H := ⟨rfl, mod, fun b o e => of_hidT e, Nat.le_of_eq (hidT_size _ _), trivial, fun b z => absurd (show b ∈ ([] : List Addr) from z) (by simp), ok, .of_eq hg⟩
    have q : liftSp K sp [.ref a] H (fun v _ => v = .bl true) E0 := by
      refine ⟨[.scr ns], fun _ => none, fun d _ => d = .bl true, .cons (by simp only [Rep]; exact ⟨a, rfl, .of rfl hS⟩) .nil, fun b d z => (by cases z), hsp, fun d m' v H' a1 _ _ a4 => ?_⟩
      have a1 : d = .bl true := a1
      subst a1
      simpa only [Rep] using a4
    refine codeAny_mono (F _ kin (names hns) callerA [] s1 H [.ref a] [.ref a] _ E0 (callerG hr) e0 (.cons rfl .nil) q) fun r s' h => ?_
    match r, h with
    | .error e, h => exact h.elim
    | .ok .next, h => exact h.elim
    | .ok .brk, h => exact h.elim
    | .ok .cont, h => exact h.elim
    | .ok (.ret u), h =>
      obtain ⟨v, H', os, bare, un, hok', r', q⟩ := h
      have q : v = .bl true := q
      subst q
      obtain rfl : u = Value.bool true := r'
      refine ⟨rfl, OldK.of_keep fun b o e => ?_, os, bare⟩
      cases q : H b with
      | none => exact un.keep b o e q (fun z => absurd (show b ∈ ([] : List Addr) from z) (by simp)) (by simp)
      | some u =>
        obtain ⟨_, ob, xs, rfl⟩ := only b u q
        obtain ⟨e1, _⟩ := ok b _ q
        obtain ⟨e2, _⟩ := hok' b _ (un.frzs b ob _ q)
        rw [e] at e1; cases e1
        exact e2
  cases hk : K.lookup a with
  | some o =>
    have e := KX a o hk
    rw [ha] at e
    cases e
    exact main (fun _ => none) (fun _ _ z => (by cases z)) (.inr ⟨_, vs.toArray, _, hk, rfl, rfl, rfl, by rw [List.size_toArray, hi.length]; exact hl, by simpa using rv⟩) (fun _ _ z => (by cases z)) fun z => absurd rfl z
  | none =>
    have at_ : ∀ b u, (fun b => if b = a then some (HO.frz { cls := .type "list", data := .seq vs.toArray } (.lst (ns.map V.int))) else none) b = some u → b = a ∧ u = HO.frz { cls := .type "list", data := .seq vs.toArray } (.lst (ns.map V.int)) := fun b u z => by
      by_cases hb : b = a
      · simp only [hb, if_true, Option.some.injEq] at z
        exact ⟨hb, z.symm⟩
      · simp only [hb, if_false] at z; cases z
    refine main (fun b => if b = a then some (.frz { cls := .type "list", data := .seq vs.toArray } (.lst (ns.map V.int))) else none) (fun b u z => ⟨(at_ b u z).1, _, _, (at_ b u z).2⟩) (.inl (.inr ⟨{ cls := .type "list", data := .seq vs.toArray }, if_pos rfl⟩)) (fun b u z => ?_) fun _ => hk
    obtain ⟨rfl, rfl⟩ := at_ b u z
    exact ⟨ha, by rw [List.length_map]; exact hl, vs, _, rv, ha⟩
/-- the goal that k_head leaves, by the promise of the law's def -/
theorem walk_ofG {l : PySem.W.OpenLaw} {n k : Nat} {q : Program} {loose : List Str} {XP : (Str → Option Value) → Heap → Prop} {YP : World → Heap → Prop} {d : DefRec} {K : Params → PySem.W.Frag} {sp : DSp}
    (hn : l.most = some n) (hn2 : n ≤ sizeLine) (hdf : d.params.defaults = []) (hr : Room k callerA) (hY : ∀ (w : World) (h : Heap), YP w h → (K w.params).In h)
    (F : ∀ (w : World) (mg : Str → Option Value) (fa : Addr) (h : Heap), (K w.params).In h → h.Ns mainGlobals mg → mg d.name = some (.ref fa) →
      ∀ base : Heap, (K w.params).In base → base.Ns mainGlobals mg → FnG l.prog w (K w.params) mg base CX0 k fa (liftSp (K w.params) sp))
    (hsp : ∀ ns : List Int, ns.length ≤ n → sp [.scr ns] (fun _ => none) fun d _ => d = .bl true) : PySem.W.WalkO q loose XP YP l.row.toRowW d [] (fun f vs => PySem.call f vs) := by
  refine Att.attach_call hn hdf fun w s₀ s₁ mg mb fa o pm cd doc a vs ns G Y ho hd hcd hmg hobj hints hlen hg => ?_
  have KX := hY w _ Y
  exact law_callG KX G.T.g G.T.b G.T.builtins G.T.nolimit hg hobj hints (Nat.le_trans hlen hn2) hr (F w mg fa _ KX G.T.g hmg) (hsp ns hlen)
end DL
/-! ### DL10: methods of lists and texts, displays of dicts, products -/
namespace DL
open PySem PySem.Spec PyProof.Rows L2

section
variable {X : Cx} {e a b o : Expr} {es : List Expr} {te ta tb to : DTE} {pos apos cpos : Pos}
/-! lists -/
def tApp (to te : DTE) : DTE := fun env m Q => to env m fun o m1 => ∃ p d0, o = .ref p ∧ m1 p = some (.lst d0) ∧ te env m1 fun d m2 => ∃ ds, m2 p = some (.lst ds) ∧ ds.length < sizeLine ∧ Q .non (updM m2 p (.lst (ds ++ [d])))
theorem de_app (ho : DE X o to) (he : DE X e te) (hbase : attributeBase o "append" X.env (eval o X.env) = eval o X.env := by rfl)
    (hfew : ((backTo cpos (starEach [e] X.env)).all (fun x => !x.1) && (backToKw cpos (keywordEach [] X.env)).all (fun x => x.1.isSome) && decide ([e].length + ([] : List Keyword).length + (if ([] : List Keyword).isEmpty then 0 else 1) < 30)) = true := by rfl)
    (hline : (apos.endLine == cpos.line) = true := by rfl) (hs : starEach [e] X.env = (false, eval e X.env) :: starEach [] X.env := by rfl) (hplain : (backTo cpos (starEach [] X.env)).any (·.1) = false := by rfl) :
    DE X (.Call (.Attribute o "append" apos) [e] [] cpos) (tApp to te) := ⟨PE.weak (pe_bm PySem.F.plainAttrs_list PySem.F.slot_list_append PySem.F.type_list_append mt_append ho.run (pa_cons he.run pa_nil hs) hbase hfew hline hs hplain) fun σ H Q h => by
  obtain ⟨env, m, R, eo, s, h, k⟩ := h
  refine ⟨env, m, _, eo, s, h, fun x m1 v H1 h1 f1 s1 r1 => ?_⟩
  obtain ⟨p, d0, rfl, e0, h1⟩ := h1
  simp only [Rep] at r1
  subst r1
  obtain ⟨v0, hv0, _⟩ := s1 p _ e0
  refine ⟨.inl ⟨rfl, v0, .of hv0⟩, env, m1, _, eo.mono f1, s1, h1, fun d m2 w H2 h2 f2 s2 r2 => ?_⟩
  obtain ⟨ds, e2, hl, h2⟩ := h2
  obtain ⟨vs, hv, rl⟩ := s2 p _ e2
  have fw : Fr m2 H2 (updM m2 p (.lst (ds ++ [d]))) (upd H2 p (.lst (vs ++ [w]))) := Fr.write e2
  exact ⟨p, vs, w, rfl, rfl, hv, by rw [← rl.length]; exact hl, k _ _ _ _ h2 ((f1.trans f2).trans fw) (s2.write (d := .lst (ds ++ [d])) e2 ⟨_, upd_same, RepL.mono fw _ _ (rl.snoc r2)⟩) rep_non⟩⟩
def tExt (to te : DTE) : DTE := fun env m Q => to env m fun o m1 => ∃ p d0, o = .ref p ∧ m1 p = some (.lst d0) ∧ te env m1 fun d m2 => ∃ ds es, m2 p = some (.lst ds) ∧ look m2 d = .lst es ∧ ds.length + es.length ≤ sizeLine ∧ Q .non (updM m2 p (.lst (ds ++ es)))
theorem de_ext (ho : DE X o to) (he : DE X e te) (hbase : attributeBase o "extend" X.env (eval o X.env) = eval o X.env := by rfl)
    (hfew : ((backTo cpos (starEach [e] X.env)).all (fun x => !x.1) && (backToKw cpos (keywordEach [] X.env)).all (fun x => x.1.isSome) && decide ([e].length + ([] : List Keyword).length + (if ([] : List Keyword).isEmpty then 0 else 1) < 30)) = true := by rfl)
    (hline : (apos.endLine == cpos.line) = true := by rfl) (hs : starEach [e] X.env = (false, eval e X.env) :: starEach [] X.env := by rfl) (hplain : (backTo cpos (starEach [] X.env)).any (·.1) = false := by rfl) :
    DE X (.Call (.Attribute o "extend" apos) [e] [] cpos) (tExt to te) := ⟨PE.weak (pe_bm PySem.F.plainAttrs_list PySem.F.slot_list_extend PySem.F.type_list_extend mt_extend ho.run (pa_cons he.run pa_nil hs) hbase hfew hline hs hplain) fun σ H Q h => by
  obtain ⟨env, m, R, eo, s, h, k⟩ := h
  refine ⟨env, m, _, eo, s, h, fun x m1 v H1 h1 f1 s1 r1 => ?_⟩
  obtain ⟨p, d0, rfl, e0, h1⟩ := h1
  simp only [Rep] at r1
  subst r1
  obtain ⟨v0, hv0, _⟩ := s1 p _ e0
  refine ⟨.inl ⟨rfl, v0, .of hv0⟩, env, m1, _, eo.mono f1, s1, h1, fun d m2 w H2 h2 f2 s2 r2 => ?_⟩
  obtain ⟨ds, es, e2, e3, hl, h2⟩ := h2
  obtain ⟨vs, hv, rl⟩ := s2 p _ e2
  have cc := cont_of s2 r2
  rw [e3] at cc
  obtain ⟨q, us, rfl, hq, rq⟩ := cont_lst cc
  have fw : Fr m2 H2 (updM m2 p (.lst (ds ++ es))) (upd H2 p (.lst (vs ++ us))) := Fr.write e2
  exact ⟨p, q, vs, us, rfl, rfl, hv, hq, by rw [← rl.length, ← rq.length]; exact hl, k _ _ _ _ h2 ((f1.trans f2).trans fw) (s2.write (d := .lst (ds ++ es)) e2 ⟨_, upd_same, RepL.mono fw _ _ (rl.append rq)⟩) rep_non⟩⟩
def tPop0 (to : DTE) : DTE := fun env m Q => to env m fun o m1 => ∃ p ds d, o = .ref p ∧ m1 p = some (.lst ds) ∧ ds[ds.length - 1]? = some d ∧ Q d (updM m1 p (.lst ds.dropLast))
theorem RepL.dropLast {K : PySem.W.Frag} {m : M} {H : Hp} {ds : List D} {vs : List V} (r : RepL K m H ds vs) : RepL K m H ds.dropLast vs.dropLast := by
  rw [List.dropLast_eq_take, List.dropLast_eq_take, ← r.length]
  exact r.take _
theorem RepL.eraseIdx {K : PySem.W.Frag} {m : M} {H : Hp} : ∀ {ds : List D} {vs : List V} (i : Nat), RepL K m H ds vs → RepL K m H (ds.eraseIdx i) (vs.eraseIdx i)
  | [], vs, i, r => by simp only [RepL] at r; subst r; simp [RepL]
  | d :: ds, vs, 0, r => by
    simp only [RepL] at r
    obtain ⟨v, r', rfl, h1, h2⟩ := r
    exact h2
  | d :: ds, vs, i + 1, r => by
    simp only [RepL] at r
    obtain ⟨v, r', rfl, h1, h2⟩ := r
    exact .cons h1 (RepL.eraseIdx i h2)
theorem de_pop0 (ho : DE X o to) (hbase : attributeBase o "pop" X.env (eval o X.env) = eval o X.env := by rfl) (hline : (apos.endLine == cpos.line) = true := by rfl) :
    DE X (.Call (.Attribute o "pop" apos) [] [] cpos) (tPop0 to) := ⟨PE.weak (pe_bm0 PySem.F.plainAttrs_list PySem.F.slot_list_pop PySem.F.type_list_pop mt_pop ho.run hbase hline) fun σ H Q h => by
  obtain ⟨env, m, R, eo, s, h, k⟩ := h
  refine ⟨env, m, _, eo, s, h, fun x m1 v H1 h1 f1 s1 r1 => ?_⟩
  obtain ⟨p, ds, d, rfl, e1, e2, h1⟩ := h1
  simp only [Rep] at r1
  subst r1
  obtain ⟨vs, hv, rl⟩ := s1 p _ e1
  obtain ⟨w, ew, rw'⟩ := rl.get e2
  rw [rl.length] at ew
  have fw : Fr m1 H1 (updM m1 p (.lst ds.dropLast)) (upd H1 p (.lst vs.dropLast)) := Fr.write e1
  exact ⟨.inl ⟨rfl, vs, .of hv⟩, p, vs, w, rfl, rfl, hv, ew, k _ _ _ _ h1 (f1.trans fw) (s1.write (d := .lst ds.dropLast) e1 ⟨_, upd_same, RepL.mono fw _ _ rl.dropLast⟩) (Rep.mono fw _ _ rw')⟩⟩
def tPopA (to te : DTE) : DTE := fun env m Q => to env m fun o m1 => ∃ p d0, o = .ref p ∧ m1 p = some (.lst d0) ∧ te env m1 fun i m2 => ∃ ds j n d, m2 p = some (.lst ds) ∧ look m2 i = .int j ∧ -(2 ^ 63) ≤ j ∧ j < 2 ^ 63 ∧ seqIndex? j ds.length = some n ∧ ds[n]? = some d ∧ Q d (updM m2 p (.lst (ds.eraseIdx n)))
theorem de_popA (ho : DE X o to) (he : DE X e te) (hbase : attributeBase o "pop" X.env (eval o X.env) = eval o X.env := by rfl)
    (hfew : ((backTo cpos (starEach [e] X.env)).all (fun x => !x.1) && (backToKw cpos (keywordEach [] X.env)).all (fun x => x.1.isSome) && decide ([e].length + ([] : List Keyword).length + (if ([] : List Keyword).isEmpty then 0 else 1) < 30)) = true := by rfl)
    (hline : (apos.endLine == cpos.line) = true := by rfl) (hs : starEach [e] X.env = (false, eval e X.env) :: starEach [] X.env := by rfl) (hplain : (backTo cpos (starEach [] X.env)).any (·.1) = false := by rfl) :
    DE X (.Call (.Attribute o "pop" apos) [e] [] cpos) (tPopA to te) := ⟨PE.weak (pe_bm PySem.F.plainAttrs_list PySem.F.slot_list_pop PySem.F.type_list_pop mt_popAt ho.run (pa_cons he.run pa_nil hs) hbase hfew hline hs hplain) fun σ H Q h => by
  obtain ⟨env, m, R, eo, s, h, k⟩ := h
  refine ⟨env, m, _, eo, s, h, fun x m1 v H1 h1 f1 s1 r1 => ?_⟩
  obtain ⟨p, d0, rfl, e0, h1⟩ := h1
  simp only [Rep] at r1
  subst r1
  obtain ⟨v0, hv0, _⟩ := s1 p _ e0
  refine ⟨.inl ⟨rfl, v0, .of hv0⟩, env, m1, _, eo.mono f1, s1, h1, fun i m2 w H2 h2 f2 s2 r2 => ?_⟩
  obtain ⟨ds, j, n, d, e2, e3, b1, b2, e4, e5, h2⟩ := h2
  obtain ⟨vs, hv, rl⟩ := s2 p _ e2
  have cc := cont_of s2 r2
  rw [e3] at cc
  have := cont_int cc
  subst this
  obtain ⟨z, ez, rz⟩ := rl.get e5
  have fw : Fr m2 H2 (updM m2 p (.lst (ds.eraseIdx n))) (upd H2 p (.lst (vs.eraseIdx n))) := Fr.write e2
  exact ⟨p, vs, j, n, z, rfl, rfl, hv, b1, b2, by rw [← rl.length]; exact e4, ez, k _ _ _ _ h2 ((f1.trans f2).trans fw) (s2.write (d := .lst (ds.eraseIdx n)) e2 ⟨_, upd_same, RepL.mono fw _ _ (rl.eraseIdx n)⟩) (Rep.mono fw _ _ rz)⟩⟩
/-! xs[::-1] -/
def tRevD (te : DTE) : DTE := fun env m Q => te env m fun d m1 => ∃ ds, look m1 d = .lst ds ∧ Q (.lst ds.reverse) m1
theorem de_rev {k : Nat} {p1 p2 p3 : Pos} (he : DE X e te) : DE X (.Subscript e (.Slice none none (some (.UnaryOp .USub (.Constant (.int 1) k p1) p2)) p3) pos) (tRevD te) := ⟨PE.weak (pe_revL he.run) fun σ H Q h => by
  obtain ⟨env, m, R, eo, s, h, k⟩ := h
  refine ⟨env, m, _, eo, s, h, fun d m1 v H1 h1 f1 s1 r1 => ?_⟩
  obtain ⟨ds, e1, h1⟩ := h1
  have cc := cont_of s1 r1
  rw [e1] at cc
  obtain ⟨q, us, rfl, hq, rq⟩ := cont_lst cc
  exact ⟨q, us, rfl, .of hq, fun p hp => k _ _ _ _ h1 (f1.trans (Fr.laid s1 hp)) (s1.laid hp) (new_lst s1 hp rq.reverse)⟩⟩
/-! texts -/
def strsOf : List D → Option (List Str)
  | [] => some []
  | .str x :: ds => (strsOf ds).map (x :: ·)
  | _ => none
theorem strsOf_rep {K : PySem.W.Frag} {m : M} {H : Hp} : ∀ {ds : List D} {ys : List Str} {vs : List V}, strsOf ds = some ys → RepL K m H ds vs → vs = ys.map V.str
  | [], ys, vs, e, r => by simp only [strsOf, Option.some.injEq] at e; subst e; simp only [RepL] at r; exact r
  | d :: ds, ys, vs, e, r => by
    simp only [RepL] at r
    obtain ⟨v, r', rfl, h1, h2⟩ := r
    cases d with
    | str x =>
      simp only [strsOf, Option.map_eq_some_iff] at e
      obtain ⟨ys', e', rfl⟩ := e
      simp only [Rep] at h1
      rw [h1, strsOf_rep e' h2]; rfl
    | _ => simp [strsOf] at e
theorem strsOf_map (ys : List Str) : strsOf (ys.map D.str) = some ys := by
  induction ys with
  | nil => rfl
  | cons y ys ih => simp only [List.map_cons, strsOf, ih, Option.map_some]
def tJoin (to te : DTE) : DTE := fun env m Q => to env m fun x m1 => ∃ z, x = .str z ∧ te env m1 fun d m2 => ∃ ds ys, look m2 d = .lst ds ∧ strsOf ds = some ys ∧ (ys.map (·.length)).sum + ys.length * z.length ≤ 16777216 ∧ Q (.str (Txt.join z ys)) m2
theorem de_join (ho : DE X o to) (he : DE X e te) (hs : starEach [e] X.env = [(false, eval e X.env)] := by rfl) (hbase : attributeBase o "join" X.env (eval o X.env) = eval o X.env := by rfl) (hline : (apos.endLine == pos.line) = true := by rfl) :
    DE X (.Call (.Attribute o "join" apos) [e] [] pos) (tJoin to te) := ⟨PE.weak (pe_join ho.run he.run hs hbase hline) fun σ H Q h => by
  obtain ⟨env, m, R, eo, s, h, k⟩ := h
  refine ⟨env, m, _, eo, s, h, fun x m1 v H1 h1 f1 s1 r1 => ?_⟩
  obtain ⟨z, rfl, h1⟩ := h1
  simp only [Rep] at r1
  subst r1
  refine ⟨⟨z, rfl⟩, env, m1, _, eo.mono f1, s1, h1, fun d m2 w H2 h2 f2 s2 r2 => ?_⟩
  obtain ⟨ds, ys, e1, e2, hl, h2⟩ := h2
  have cc := cont_of s2 r2
  rw [e1] at cc
  obtain ⟨q, us, rfl, hq, rq⟩ := cont_lst cc
  have := strsOf_rep e2 rq
  subst this
  exact ⟨z, q, ys, rfl, rfl, .inl (.of hq), hl, k _ _ _ _ h2 (f1.trans f2) s2 rep_str⟩⟩
def tSplit (to te : DTE) : DTE := fun env m Q => to env m fun x m1 => ∃ z, x = .str z ∧ te env m1 fun d m2 => ∃ y, d = .str y ∧ (y.length == 0) = false ∧ z.length + 2 ≤ sizeLine ∧ Q (.lst ((Txt.split z y).map .str)) m2
theorem de_split (ho : DE X o to) (he : DE X e te) (hs : starEach [e] X.env = [(false, eval e X.env)] := by rfl) (hbase : attributeBase o "split" X.env (eval o X.env) = eval o X.env := by rfl) (hline : (apos.endLine == pos.line) = true := by rfl) :
    DE X (.Call (.Attribute o "split" apos) [e] [] pos) (tSplit to te) := ⟨PE.weak (pe_split ho.run he.run hs hbase hline) fun σ H Q h => by
  obtain ⟨env, m, R, eo, s, h, k⟩ := h
  refine ⟨env, m, _, eo, s, h, fun x m1 v H1 h1 f1 s1 r1 => ?_⟩
  obtain ⟨z, rfl, h1⟩ := h1
  simp only [Rep] at r1
  subst r1
  refine ⟨⟨z, rfl⟩, env, m1, _, eo.mono f1, s1, h1, fun d m2 w H2 h2 f2 s2 r2 => ?_⟩
  obtain ⟨y, rfl, hy, hz, h2⟩ := h2
  simp only [Rep] at r2
  subst r2
  exact ⟨z, y, rfl, rfl, hy, hz, fun p hp => k _ _ _ _ h2 ((f1.trans f2).trans (Fr.laid s2 hp)) (s2.laid hp) (new_lst s2 hp (RepL.map_str _))⟩⟩
/-! dicts -/
def tPrs : List (DTE × DTE) → Env → M → (List (D × D) → M → Prop) → Prop
  | [], _, m, Q => Q [] m
  | (tk, tv) :: r, env, m, Q => tk env m fun x m1 => tv env m1 fun y m2 => tPrs r env m2 fun ps m3 => Q ((x, y) :: ps) m3
structure DPs (X : Cx) (pos : Pos) (keys : List (Option Expr)) (values : List Expr) (trs : List (DTE × DTE)) : Prop where
  run : PPs X pos keys values (trs.map fun t => (liftE X.K t.1, liftE X.K t.2))
theorem dps_nil : DPs X pos [] [] [] := ⟨pps_nil⟩
theorem dps_cons {k v : Expr} {ks : List (Option Expr)} {vs : List Expr} {tk tv : DTE} {trs : List (DTE × DTE)} (hk : DE X k tk) (hv : DE X v tv) (hr : DPs X pos ks vs trs) : DPs X pos (some k :: ks) (v :: vs) ((tk, tv) :: trs) := ⟨pps_cons hk.run hv.run hr.run⟩
theorem prs_lift {K : PySem.W.Frag} {σ : L2.St} {env : Env} {Q : List (V × V) → Hp → Prop} : ∀ {trs : List (DTE × DTE)} {m : M} {H : Hp} {R : List (D × D) → M → Prop}, EnvOk K m H σ env → Sim K m H → tPrs trs env m R →
    (∀ ps m' vs H', R ps m' → Fr m H m' H' → Sim K m' H' → RepL K m' H' (ps.map (·.1)) (vs.map (·.1)) → RepL K m' H' (ps.map (·.2)) (vs.map (·.2)) → Q vs H') → tPairs (trs.map fun t => (liftE K t.1, liftE K t.2)) σ H Q
  | [], m, H, R, eo, s, h, k => k [] m [] H h Fr.refl s .nil .nil
  | (tk, tv) :: trs, m, H, R, eo, s, h, k => by
    refine ⟨env, m, _, eo, s, h, fun x m1 xv H1 h1 f1 s1 r1 => ?_⟩
    refine ⟨env, m1, _, eo.mono f1, s1, h1, fun y m2 yv H2 h2 f2 s2 r2 => ?_⟩
    refine prs_lift (eo.mono (f1.trans f2)) s2 h2 fun ps m' vs H' a1 a2 a3 a4 a5 => ?_
    exact k ((x, y) :: ps) m' ((xv, yv) :: vs) H' a1 ((f1.trans f2).trans a2) a3 (.cons (Rep.mono (f2.trans a2) _ _ r1) a4) (.cons (Rep.mono a2 _ _ r2) a5)
def keysOf : List D → Option (List Key)
  | [] => some []
  | d :: ds => (keyOf d).bind fun k => (keysOf ds).map (k :: ·)
theorem keysOf_eq : ∀ {ds : List D} {ks : List Key}, keysOf ds = some ks → ds = ks.map kD
  | [], ks, h => by simp [keysOf] at h; subst h; rfl
  | d :: ds, ks, h => by
    simp only [keysOf, Option.bind_eq_some_iff, Option.map_eq_some_iff] at h
    obtain ⟨k, h1, ks', h2, rfl⟩ := h
    rw [List.map_cons, ← keyOf_eq h1, ← keysOf_eq h2]
theorem repL_kV {K : PySem.W.Frag} {m : M} {H : Hp} : ∀ {ks : List Key} {vs : List V}, RepL K m H (ks.map kD) vs → vs = ks.map kV
  | [], vs, r => by simp only [List.map_nil, RepL] at r; exact r
  | k :: ks, vs, r => by
    simp only [List.map_cons, RepL] at r
    obtain ⟨v, r', rfl, h1, h2⟩ := r
    rw [rep_kD h1, repL_kV h2]; rfl
theorem merge_nodup : ∀ (more kvs : List (Key × V)), ((kvs ++ more).map (·.1)).Nodup → mergeK kvs more = kvs ++ more
  | [], kvs, _ => by simp [mergeK]
  | p :: more, kvs, nd => by
    have e : putK kvs p.1 p.2 = kvs ++ [p] := by
      unfold putK
      have : (kvs.any fun kv => decide (kv.1 = p.1)) = false := by
        rw [List.any_eq_false]
        intro kv hk
        simp only [decide_eq_true_eq]
        intro q
        rw [List.map_append, List.map_cons, List.nodup_append] at nd
        exact nd.2.2 kv.1 (List.mem_map.mpr ⟨kv, hk, rfl⟩) p.1 List.mem_cons_self q
      rw [this]; rfl
    show mergeK (putK kvs p.1 p.2) more = _
    rw [e, merge_nodup more (kvs ++ [p]) (by simpa using nd)]
    simp
theorem zip_keys : ∀ {ks : List Key} {vs : List (V × V)}, vs.map (·.1) = ks.map kV → vs = (ks.zip (vs.map (·.2))).map fun kv => (kV kv.1, kv.2)
  | [], [], _ => rfl
  | [], _ :: _, h => by simp at h
  | _ :: _, [], h => by simp at h
  | k :: ks, v :: vs, h => by
    simp only [List.map_cons, List.cons.injEq] at h
    simp only [List.map_cons, List.zip_cons_cons, List.map_cons]
    rw [← zip_keys h.2, ← h.1]
/-- a display; its keys are unlike -/
def tDicM (trs : List (DTE × DTE)) : DTE := fun env m Q => ∀ p, m p = none → tPrs trs env (updM m p (.dic [] [])) fun ps m2 => m2 p = some (.dic [] []) ∧ ∃ ks, keysOf (ps.map (·.1)) = some ks ∧ ks.Nodup ∧ ps.length ≤ 15 ∧ Q (.ref p) (updM m2 p (.dic (ps.map (·.1)) (ps.map (·.2))))
theorem de_dic {keys : List (Option Expr)} {values : List Expr} {trs : List (DTE × DTE)} (h : DPs X pos keys values trs) (hall : keys.all (·.isSome) = true := by rfl) (hl : keys.length = values.length := by rfl) (h0 : keys ≠ [] := by exact fun z => by cases z) (h15 : keys.length ≤ 15 := by decide) :
    DE X (.Dict keys values pos) (tDicM trs) := ⟨PE.weak (pe_disp h.run hall hl h0 h15) fun σ H Q h => by
  obtain ⟨env, m, R, eo, s, h, k⟩ := h
  intro p hp
  have f1 : Fr m H (updM m p (.dic [] [])) (upd H p (.dK [])) := Fr.laidM s hp
  have s1 : Sim X.K (updM m p (.dic [] [])) (upd H p (.dK [])) := Sim.laidM s hp ⟨[], upd_same, rfl, .nil⟩
  refine prs_lift (eo.mono f1) s1 (h p (s.free hp)) fun ps m2 vs H2 h2 f2 s2 r1 r2 => ?_
  obtain ⟨e2, ks, ek, nd, hl, h2⟩ := h2
  obtain ⟨kvs0, hd, ek0, _⟩ := s2 p _ e2
  have e0 : kvs0 = [] := by
    cases kvs0 with
    | nil => rfl
    | cons _ _ => cases ek0
  subst e0
  have ek := keysOf_eq ek
  rw [ek] at r1
  have ev := repL_kV r1
  have lks : ks.length = vs.length := by
    have := congrArg List.length ev
    simpa using this.symm
  refine ⟨hd, ks.zip (vs.map (·.2)), ?_, by rw [List.length_zip, List.length_map, lks, Nat.min_self]; have := congrArg List.length ek; simp only [List.length_map] at this; omega, ?_⟩
  · exact zip_keys ev
  · have lz : (ks.zip (vs.map (·.2))).map (·.1) = ks := List.map_fst_zip (by rw [List.length_map, lks]; exact Nat.le_refl _)
    have lz2 : (ks.zip (vs.map (·.2))).map (·.2) = vs.map (·.2) := List.map_snd_zip (by rw [List.length_map, lks]; exact Nat.le_refl _)
    rw [merge_nodup _ [] (by rw [List.nil_append, lz]; exact nd), List.nil_append]
    have fw : Fr m2 H2 (updM m2 p (.dic (ps.map (·.1)) (ps.map (·.2)))) (upd H2 p (.dK (ks.zip (vs.map (·.2))))) := Fr.write e2
    refine k _ _ _ _ h2 ((f1.trans f2).trans fw) (s2.write (d := .dic (ps.map (·.1)) (ps.map (·.2))) e2 ⟨_, upd_same, ?_, ?_⟩) rep_ref
    · rw [ek, ← lz, List.map_map]
      rw [lz]; rfl
    · rw [lz2]; exact RepL.mono fw _ _ r2⟩
/-- {} -/
def tDic0 : DTE := fun _ m Q => ∀ p, m p = none → Q (.ref p) (updM m p (.dic [] []))
theorem de_dic0 : DE X (.Dict [] [] pos) tDic0 := ⟨PE.weak pe_dnewK fun σ H Q h => by
  obtain ⟨env, m, R, eo, s, h, k⟩ := h
  exact fun p hp => k _ _ _ _ (h p (s.free hp)) (Fr.laidM s hp) (Sim.laidM s hp ⟨[], upd_same, rfl, .nil⟩) rep_ref⟩
end
end DL
/-! ### DL11: enumerate -/
namespace DL
open PySem PySem.Spec PyProof.Rows L2
open AutoSeq1 (wpAny_loadPart')

theorem meets_enumT (l : Addr) (items : Array Value) (n : Nat) (dct : Option Addr) (sl : Array (Option Value)) :
    Meets (Builtin.«enumerate.__new__» ⟨[.type "enumerate", .ref l], []⟩) (fun _ R s => s.heap.get? l = some { cls := .type "tuple", dict := dct, data := .seq items n, slots := sl } ∧
      R (.ok (.ret (.ref (s.heap.push { cls := .type "tuple_iterator", data := .fields #[.ref l, .int 0 0] }).objs.size)))
        { s with heap := (s.heap.push { cls := .type "tuple_iterator", data := .fields #[.ref l, .int 0 0] }).push { cls := .type "enumerate", data := .fields #[.none, .bool false, .ref s.heap.objs.size, rawInt 0, .none, .none] } }) :=
  .of_wp fun prog w A R s h => by
    obtain ⟨hp, g, d, tk, os⟩ := s
    obtain ⟨hl, h⟩ := h
    have hsub := sub_enumerate
    have hL : Heap.IsTuple (Shared.heap ⟨hp, g, d, tk, os⟩) l items := ⟨_, hl, rfl, n, rfl⟩
    wp_walk using wpAny_loadPart' hl
    refine wpAny_stack_any fun st => wpAny_pure ?_
    split
    · rename_i c _ _ _ _ _
      cases (c == Value.type "enumerate") <;> (wp_walk using wpAny_loadPart' hl, wpAny_pyIter_tuple hL; exact ⟨_, rfl, h⟩)
    · wp_walk using wpAny_loadPart' hl, wpAny_pyIter_tuple hL
      exact ⟨_, rfl, h⟩
theorem call_enumT {prog : Program} {w : World} {A : Around} {E : Value → Shared → Prop} {s : Shared} {l : Addr} {items : Array Value} {Q : Value → Shared → Prop} (hL : s.heap.IsTuple l items)
    (h : ∀ h', IsEnum h' (s.heap.objs.size + 1) s.heap.objs.size 0 .none → h'.IsTupleIter s.heap.objs.size l 0 → (∀ b o, s.heap.get? b = some o → h'.get? b = some o) → Q (.ref (s.heap.objs.size + 1)) { s with heap := h' }) :
    wpAny (model prog w) A (call (.type "enumerate") [.ref l]) Q E s := by
  obtain ⟨⟨c, dct, dt, sl⟩, hl, hc, n, hd⟩ := hL
  have hc : c = .type "tuple" := hc
  have hd : dt = .seq items n := hd
  subst hc hd
  refine callType_new F.called_enumerate (by decide) (F.typeCall_enumerate_1 _) (F.newCall_enumerate_1 _) (fun obj => F.args_object_init_2 obj _) F.entry_enumerate_new (meets_enumT l items n dct sl) ⟨hl, ?_⟩
  have hz : (s.heap.push { cls := .type "tuple_iterator", data := .fields #[.ref l, .int 0 0] }).objs.size = s.heap.objs.size + 1 := Heap.size_push ..
  show _ ∧ _
  rw [hz]
  have he : IsEnum ((s.heap.push { cls := .type "tuple_iterator", data := .fields #[.ref l, .int 0 0] }).push { cls := .type "enumerate", data := .fields #[.none, .bool false, .ref s.heap.objs.size, rawInt 0, .none, .none] }) (s.heap.objs.size + 1) s.heap.objs.size 0 .none := by
    have q := Heap.get?_push_size (s.heap.push { cls := .type "tuple_iterator", data := .fields #[.ref l, .int 0 0] }) (o := { cls := .type "enumerate", data := .fields #[.none, .bool false, .ref s.heap.objs.size, rawInt 0, .none, .none] }) rfl
    rwa [hz] at q
  exact ⟨⟨_, he, rfl⟩, h _ he ⟨_, Heap.get?_push_of_some _ (Heap.get?_push_size _ rfl), rfl, rfl⟩ fun b o x => Heap.get?_push_of_some _ (Heap.get?_push_of_some _ x)⟩
def IteT (K : PySem.W.Frag) (a : Addr) : It where
  go := fun i H => ∃ (xs : List V) (x : V), SqT K H a xs ∧ xs[i]? = some x
  yld := fun i H v H' => ∃ T x, v = .ref T ∧ H T = none ∧ H' = upd H T (.tup [.int (i : Nat), x]) ∧ ∀ xs, SqT K H a xs → xs[i]? = some x
  stop := fun i H => ∃ xs : List V, SqT K H a xs ∧ i = xs.length
theorem turn_enumT {P : Program} {w : World} {K : PySem.W.Frag} {elts : List Expr} {kk : Nat} {tpos : Pos} (a e it : Addr) :
    Turn P w K (.Tuple elts kk tpos) (IteT K a) [e, it] e (fun i h => (∃ old, IsEnum h e it ((i : Nat) : Int) old) ∧ h.IsTupleIter it a i ∧ e ≠ it) where
  mem := List.mem_cons_self
  obj := by
    rintro i h ⟨⟨old, he⟩, ⟨o, ho, hc, hd⟩, _⟩ b hb
    rcases List.mem_cons.mp hb with rfl | hb
    · exact ⟨_, he, fun v q => nomatch q⟩
    · obtain rfl : b = it := by simpa using hb
      exact ⟨o, ho, fun v q => by rw [hd] at q; cases q⟩
  keep := by
    rintro i h h' ⟨⟨old, he⟩, hi, hne⟩ k
    exact ⟨⟨old, k e List.mem_cons_self _ he⟩, hi.at fun o q => k it (List.mem_cons_of_mem _ List.mem_cons_self) o q, hne⟩
  item := by
    intro X hP hw hK hc i pins s σ H E I hf st hg
    subst hP hw hK
    obtain ⟨⟨old, he⟩, hit, hne⟩ := st
    obtain ⟨xs, x, hq, hx⟩ := hg
    obtain ⟨its, rv, p, hz⟩ := I.tuple hq
    obtain ⟨u, hu, ru⟩ := rv.get hx
    have hel : e < s.heap.objs.size := Heap.lt_size he
    have hil : it < s.heap.objs.size := by obtain ⟨_, q, _⟩ := hit; exact Heap.lt_size q
    have pt : s.heap.IsTuple a its.toArray := p
    have hat : a ≠ it := by
      rintro rfl
      obtain ⟨o1, h1, c1, _⟩ := pt
      obtain ⟨o2, h2, c2, _⟩ := hit
      rw [h1] at h2; cases h2
      have z : Value.type "tuple" = Value.type "tuple_iterator" := c1.symm.trans c2
      injection z with z
      exact absurd z (by decide)
    have hae : e ≠ a := by
      rintro rfl
      obtain ⟨o1, h1, c1, _⟩ := pt
      rw [he] at h1; cases h1
      have z : Value.type "enumerate" = Value.type "tuple" := c1
      injection z with z
      exact absurd z (by decide)
    have hi : i < its.toArray.size := by
      rw [List.size_toArray]
      rcases Nat.lt_or_ge i its.length with z | z
      · exact z
      · rw [List.getElem?_eq_none z] at hu; cases hu
    refine wpAny_pyNext_enum_itemD (Draws.tuple (A := X.A.in1) (show X.A.in1.handled = none from I.ok.hd hc) it a hat its.toArray) he ⟨hit, pt⟩ hi hne (by simp [hne, hae]) fun y h' tk hy ho st' hT hsz hk => ?_
    have ey : y = u := by
      have hy : its.toArray[i]? = some y := hy
      rw [List.getElem?_toArray, hu] at hy
      exact (Option.some.inj hy).symm
    subst ey
    refine ⟨_, rfl, wpAny_letOwnedTupleGo_enum (s := { s with heap := h', toks := tk + 1 }) ho fun h'' he' sb => ?_⟩
    have hT2 := (sb.2 _ (Nat.ne_of_gt hel)).trans hT
    have new : ObjOk X.prog X.w (upd H s.heap.objs.size (.tup [.int (i : Nat), x])) h'' s.heap.objs.size (.tup [.int (i : Nat), x]) :=
      ⟨by show 2 ≤ sizeLine; decide, [.int i tk, y], .cons ⟨_, rfl⟩ (.cons ru .nil), ⟨_, hT2, rfl, _, rfl⟩⟩
    have J : Inv X pins σ (upd H s.heap.objs.size (.tup [.int (i : Nat), x])) { s with heap := h'', toks := tk + 1 } :=
      I.turnedNew (ch := [e, it]) (fun b ob hb q => (sb.2 b (fun z => hb (by simp [z]))).trans (hk b ob (fun z => hb (by simp [z])) (fun z => hb (by simp [z])) q)) hf (Nat.le_refl _) new
    refine ⟨.ref s.heap.objs.size, _, J, rfl, ⟨_, x, rfl, I.hok.fresh (Nat.le_refl _), rfl, fun ys hy => by rw [I.tuple_inj hy hq]; exact hx⟩, ⟨⟨y, ?_⟩, st'.1.at fun o q => (sb.2 it (Ne.symm hne)).trans q, hne⟩, fun b hb => ?_⟩
    · have e1 : ((i + 1 : Nat) : Int) = (i : Int) + 1 := by omega
      rw [e1]; exact he'
    · have hb' : b < s.heap.objs.size := by
        rcases List.mem_cons.mp hb with rfl | hb
        · exact hel
        · obtain rfl : b = it := by simpa using hb
          exact hil
      rw [upd_ne (Nat.ne_of_lt hb')]
      exact (hf b hb).1
  done := by
    intro X hP hw hK hc i pins s σ H E I hf st hg
    subst hP hw hK
    obtain ⟨⟨old, he⟩, hit, hne⟩ := st
    obtain ⟨xs, hq, hx⟩ := hg
    obtain ⟨its, rv, p, hz⟩ := I.tuple hq
    obtain ⟨f0, f1, f2, f3, f4, f5⟩ := hf it (List.mem_cons_of_mem _ List.mem_cons_self)
    have pt : s.heap.IsTuple a its.toArray := p
    have hat : a ≠ it := by
      rintro rfl
      obtain ⟨o1, h1, c1, _⟩ := pt
      obtain ⟨o2, h2, c2, _⟩ := hit
      rw [h1] at h2; cases h2
      have z : Value.type "tuple" = Value.type "tuple_iterator" := c1.symm.trans c2
      injection z with z
      exact absurd z (by decide)
    have e1 : i = its.toArray.size := by rw [List.size_toArray, ← rv.length]; exact hx
    subst e1
    exact wpAny_pyNext_enum_endD (Draws.tuple (A := X.A.in1) (show X.A.in1.handled = none from I.ok.hd hc) it a hat its.toArray) he ⟨hit, pt⟩ fun h' eb => ⟨rfl, I.turned (t' := s.toks) (fun b o hb q => eb b o hb q) f0 f1 f3 f4 f5⟩
  self := fun A i s Q E st h => let ⟨⟨_, he⟩, _⟩ := st; wpAny_pyIter_enum he h
section
variable {X : Cx} {e tg : Expr} {es elts : List Expr} {te : DTE} {p pos tpos : Pos} {kk : Nat}
/-- enumerate over a list, a tuple -/
def enumD (ds : List D) : List D := (List.range ds.length).zipWith (fun (i : Nat) d => D.tup [.int i, d]) ds
def iEn (te : DTE) : DTI := fun env m Q => te env m fun d m1 => ∃ ds, (d = .lst ds ∨ d = .tup ds) ∧ Q (enumD ds) m1
theorem enumD_get {ds : List D} {i : Nat} {d : D} (h : (enumD ds)[i]? = some d) : ∃ x, ds[i]? = some x ∧ d = .tup [.int (i : Nat), x] := by
  unfold enumD at h
  rw [List.getElem?_zipWith] at h
  split at h
  · rename_i a b h1 h2
    have hi : i < ds.length := by
      rcases Nat.lt_or_ge i ds.length with z | z
      · exact z
      · rw [List.getElem?_eq_none z] at h2; cases h2
    rw [List.getElem?_range hi] at h1
    cases h1
    cases h
    exact ⟨b, h2, rfl⟩
  · cases h
theorem enumD_length (ds : List D) : (enumD ds).length = ds.length := by unfold enumD; simp
theorem two_tup {K : PySem.W.Frag} {m : M} {H : Hp} {x : D} {v : V} {i : Int} {T : Addr} (s : Sim K m H) (hT : H T = none) (r : Rep K m H x v) : Fr m H m (upd H T (.tup [.int i, v])) ∧ Sim K m (upd H T (.tup [.int i, v])) ∧ Rep K m (upd H T (.tup [.int i, v])) (.tup [.int i, x]) (.ref T) :=
  ⟨Fr.laid s hT, s.laid hT, new_tup s hT (.cons rep_int (.cons r .nil))⟩
theorem items_enumL {K : PySem.W.Frag} {m0 : M} {H0 : Hp} {a : Addr} {ds : List D} {vs : List V} (n : m0 a = none) (h : H0 a = some (.lst vs)) (r : RepL K m0 H0 ds vs) : Items K (Ite K a) (enumD ds) m0 H0 := fun i m H f s => by
  obtain ⟨n', h'⟩ := f.lst n h
  refine ⟨fun d e => ?_, fun hl => ⟨vs, .of h', by rw [← r.length, hl, enumD_length]; exact Nat.le_refl _⟩⟩
  obtain ⟨x, ex, rfl⟩ := enumD_get e
  obtain ⟨v, e1, r1⟩ := r.get ex
  refine ⟨⟨vs, v, .of h', e1⟩, fun y H' q => ?_⟩
  obtain ⟨T, z, rfl, hT, rfl, hz⟩ := q
  have := hz vs (.of h')
  rw [e1] at this; cases this
  exact two_tup s hT (Rep.mono f _ _ r1)
theorem items_enumT {K : PySem.W.Frag} {m0 : M} {H0 : Hp} {a : Addr} {ds : List D} {vs : List V} (h : TupAt K m0 H0 a vs) (r : RepL K m0 H0 ds vs) : Items K (IteT K a) (enumD ds) m0 H0 := fun i m H f s => by
  have h' : SqT K H a vs := by
    rcases h with ⟨n, h⟩ | h
    · exact .inl (.inl (f.tup n h).2)
    · exact .inr h
  refine ⟨fun d e => ?_, fun hl => ⟨vs, h', by rw [← r.length, hl, enumD_length]⟩⟩
  obtain ⟨x, ex, rfl⟩ := enumD_get e
  obtain ⟨v, e1, r1⟩ := r.get ex
  refine ⟨⟨vs, v, h', e1⟩, fun y H' q => ?_⟩
  obtain ⟨T, z, rfl, hT, rfl, hz⟩ := q
  have := hz vs h'
  rw [e1] at this; cases this
  exact two_tup s hT (Rep.mono f _ _ r1)
theorem di_enum (hm : X.mg "enumerate" = none) (he : DE X e te) (hg : Gl X "enumerate" := by rfl) (hs : starEach [e] X.env = [(false, eval e X.env)] := by rfl) : DI X (.Tuple elts kk tpos) (.Call (.Name "enumerate" p) [e] [] pos) (iEn te) := ⟨⟨fun pins s σ H R I h => by
  obtain ⟨env, m, RR, eo, sm, h, k⟩ := h
  have h0 : liftE X.K te σ H (fun x H1 => (∃ a xs, x = .ref a ∧ SqL X.K H1 a xs ∧ R (Ite X.K a) H1) ∨ ∃ a xs, x = .ref a ∧ SqT X.K H1 a xs ∧ R (IteT X.K a) H1) := by
    refine ⟨env, m, _, eo, sm, h, fun d m1 v H1 h1 f1 s1 r1 => ?_⟩
    obtain ⟨ds, (rfl | rfl), h1⟩ := h1
    · simp only [Rep] at r1
      obtain ⟨a, vs, rfl, ⟨n, h2⟩, r2⟩ := r1
      exact .inl ⟨a, vs, rfl, .of h2, k _ m1 _ H1 h1 f1 s1 (items_enumL n h2 r2)⟩
    · simp only [Rep] at r1
      obtain ⟨a, vs, rfl, h2, r2⟩ := r1
      exact .inr ⟨a, vs, rfl, tupAt_sq h2, k _ m1 _ H1 h1 f1 s1 (items_enumT h2 r2)⟩
  have args : PA X [e] _ := pa_cons he.run pa_nil hs
  refine Call_ (ld_blt I hg hm boot_enumerate (PyProof.Rows.callWith_type1 (thn (args.run pos pins s σ H (fun vs H1 => ∃ x, vs = [x] ∧ ((∃ a xs, x = .ref a ∧ SqL X.K H1 a xs ∧ R (Ite X.K a) H1) ∨ ∃ a xs, x = .ref a ∧ SqT X.K H1 a xs ∧ R (IteT X.K a) H1)) I ?_) fun us s1 hx => ?_) hs rfl))
  · obtain ⟨env', m', R', a1, a2, a3, a4⟩ := h0
    exact ⟨env', m', R', a1, a2, a3, fun d m1 v H1 b1 b2 b3 b4 => ⟨v, rfl, a4 d m1 v H1 b1 b2 b3 b4⟩⟩
  · obtain ⟨vs, H1, I1, r1, x, rfl, q⟩ := hx
    rcases q with ⟨a, xs, rfl, hq, q⟩ | ⟨a, xs, rfl, hq, q⟩
    · obtain rfl := Vals.ref1 r1
      obtain ⟨its, rv, pl, hz⟩ := I1.list hq
      refine call_enumerate_list pl.isList fun h' he' hit hsz hk => wpAny_pyIter_enum he' ?_
      have J : Inv X pins σ H1 { s1 with heap := h' } := I1.kept (t' := s1.toks) hk
      refine ⟨s1.heap.objs.size + 1, [s1.heap.objs.size + 1, s1.heap.objs.size], _, _, H1, rfl, J, turn_enum a (s1.heap.objs.size + 1) s1.heap.objs.size, ⟨⟨.none, he'⟩, hit, Nat.succ_ne_self _⟩, fun b hb => ?_, q⟩
      have hle : s1.heap.objs.size ≤ b := by
        rcases List.mem_cons.mp hb with e | hb
        · rw [e]; exact Nat.le_add_right _ _
        · rw [List.mem_singleton.mp hb]; exact Nat.le_refl _
      exact I1.fpOk hle (I1.hok.fresh hle)
    · obtain rfl := Vals.ref1 r1
      obtain ⟨its, rv, pt, hz⟩ := I1.tuple hq
      refine call_enumT (show s1.heap.IsTuple a its.toArray from pt) fun h' he' hit hk => wpAny_pyIter_enum he' ?_
      have J : Inv X pins σ H1 { s1 with heap := h' } := I1.kept (t' := s1.toks) hk
      refine ⟨s1.heap.objs.size + 1, [s1.heap.objs.size + 1, s1.heap.objs.size], _, _, H1, rfl, J, turn_enumT a (s1.heap.objs.size + 1) s1.heap.objs.size, ⟨⟨.none, he'⟩, hit, Nat.succ_ne_self _⟩, fun b hb => ?_, q⟩
      have hle : s1.heap.objs.size ≤ b := by
        rcases List.mem_cons.mp hb with e | hb
        · rw [e]; exact Nat.le_add_right _ _
        · rw [List.mem_singleton.mp hb]; exact Nat.le_refl _
      exact I1.fpOk hle (I1.hok.fresh hle)⟩⟩
end
end DL
/-! ### DL12: products -/
namespace DL
open PySem PySem.Spec PyProof.Rows L2

/-- a tuple times one is itself -/
theorem tup_mul1 (l : Addr) (items : Array Value) (n : Nat) (dd : Option Addr) (sl : Array (Option Value)) (u : Tok) :
    Meets (Builtin.«tuple.__mul__» ⟨[.ref l, .int 1 u], []⟩) (fun _ R s => s.heap.get? l = some { cls := .type "tuple", dict := dd, data := .seq items n, slots := sl } ∧ R (.ok (.ret (Value.ref l))) s) :=
  .of_wp fun prog w A R s h => by
    obtain ⟨hp, g, d, tk, os⟩ := s
    obtain ⟨hl, h⟩ := h
    have f1 := AutoSeq1.idx_int
    have c1 : (items.isEmpty || (1 : Int) == 1) = true := by simp
    wp_walk using wpAny_loadPart' hl
    repeat (first
      | (refine wpAny_ite_true (decide_eq_true c1) ?_; wp_walk using wpAny_loadPart' hl)
      | (refine wpAny_ite_false (decide_eq_false (by decide)) ?_; wp_walk using wpAny_loadPart' hl))
    exact ⟨_, rfl, h⟩
/-- .. times none is the empty one -/
theorem tup_mul0 (l : Addr) (items : Array Value) (n : Nat) (dd : Option Addr) (sl : Array (Option Value)) (u : Tok) (c : items.isEmpty = false) :
    Meets (Builtin.«tuple.__mul__» ⟨[.ref l, .int 0 u], []⟩) (fun _ R s => s.heap.get? l = some { cls := .type "tuple", dict := dd, data := .seq items n, slots := sl } ∧
      R (.ok (.ret (Value.ref s.heap.objs.size))) { s with heap := s.heap.push { cls := Value.type "tuple", data := Data.seq #[] }, toks := s.toks }) :=
  .of_wp fun prog w A R s h => by
    obtain ⟨hp, g, d, tk, os⟩ := s
    obtain ⟨hl, h⟩ := h
    have f1 := AutoSeq1.idx_int
    have c1 : (items.isEmpty || (0 : Int) == 1) = false := by rw [c]; rfl
    have c2 : (decide ((0 : Int) ≤ 0) || items.isEmpty) = true := by rw [c]; rfl
    wp_walk using wpAny_loadPart' hl
    repeat (first
      | (refine wpAny_ite_false (decide_eq_false (by rw [c1]; exact Bool.false_ne_true)) ?_; wp_walk using wpAny_loadPart' hl)
      | (refine wpAny_ite_true (decide_eq_true c2) ?_; wp_walk using wpAny_loadPart' hl)
      | (refine wpAny_ite_false (decide_eq_false (by decide)) ?_; wp_walk using wpAny_loadPart' hl))
    exact ⟨_, rfl, h⟩
def rRepT01 (K : PySem.W.Frag) : R2 := fun x y H Q => ∃ l xs, x = .ref l ∧ SqT K H l xs ∧ xs ≠ [] ∧ ((y = .int 1 ∧ Q (.ref l) H) ∨ (y = .int 0 ∧ ∀ p, H p = none → Q (.ref p) (upd H p (.tup []))))
section
variable {X : Cx}
theorem op_repT01 : OpR X (binaryOp .Mult) (rRepT01 X.K) := by
  intro pins s σ H x y v u Q I rx ry h
  obtain ⟨l, xs, rfl, hT, hne, h⟩ := h
  cases rx
  obtain ⟨its, r, ⟨⟨cls, dd, data, sl⟩, ho, hc, n, hd⟩, hs⟩ := I.tuple hT
  simp only at hc hd
  subst hc hd
  have hi : its.toArray.isEmpty = false := by
    cases its with
    | nil => exact absurd (List.eq_nil_of_length_eq_zero r.length) hne
    | cons a b => rfl
  rcases h with ⟨rfl, q⟩ | ⟨rfl, q⟩
  · obtain ⟨t, rfl⟩ := ry
    refine wpAny_binaryOp_repeat_ref (T := "tuple") (U := "int") (by decide) ⟨_, ho, rfl⟩ (fun s' => typeIs_int s' 1 t) noFill_tuple_mul F.fills_int_mul F.slot_int_rmul repeat_tuple F.slot_int_index.lookup
      (call_meets F.slot_int_rmul (typeIs_int s 1 t) F.entry_int_rmul (F.args_int_rmul_2 _ _) (int_rmul_tuple 1 t l its.toArray n dd sl)
        ⟨ho, rfl, ⟨_, ho, rfl⟩, call_meets F.slot_tuple_mul ⟨_, ho, rfl⟩ F.entry_tuple_mul (F.args_tuple_mul_2 _ _) (tup_mul1 l its.toArray n dd sl t) ⟨ho, ?_⟩⟩)
    exact ⟨.ref l, H, I, rfl, q⟩
  · obtain ⟨t, rfl⟩ := ry
    refine wpAny_binaryOp_repeat_ref (T := "tuple") (U := "int") (by decide) ⟨_, ho, rfl⟩ (fun s' => typeIs_int s' 0 t) noFill_tuple_mul F.fills_int_mul F.slot_int_rmul repeat_tuple F.slot_int_index.lookup
      (call_meets F.slot_int_rmul (typeIs_int s 0 t) F.entry_int_rmul (F.args_int_rmul_2 _ _) (int_rmul_tuple 0 t l its.toArray n dd sl)
        ⟨ho, rfl, ⟨_, ho, rfl⟩, call_meets F.slot_tuple_mul ⟨_, ho, rfl⟩ F.entry_tuple_mul (F.args_tuple_mul_2 _ _) (tup_mul0 l its.toArray n dd sl t hi) ⟨ho, ?_⟩⟩)
    refine ⟨.ref s.heap.objs.size, _, I.laid (t' := s.toks) (o := .tup []) (fun b ob q => Heap.get?_push_of_some _ q) (Nat.le_refl _) ?_, rfl, q _ (I.hok.fresh (Nat.le_refl _))⟩
    exact ⟨Nat.zero_le _, [], .nil, IsTup.new _ _⟩
def rRepS : R2 := fun x y H Q => ∃ a k, x = .str a ∧ y = .int k ∧ 0 ≤ k ∧ k ≤ 1000 ∧ a.length ≤ 1000 ∧ Q (.str (Txt.mul a k)) H
theorem op_repS : OpR X (binaryOp .Mult) rRepS := by
  intro pins s σ H x y v u Q I rx ry h
  obtain ⟨a, k, rfl, rfl, h1, h2, h3, q⟩ := h
  obtain ⟨t, rfl⟩ := rx
  obtain ⟨t', rfl⟩ := ry
  exact SB.mul (mulOk_of 1000 1000 h3 (by omega) (by omega) (by decide) (by decide)) fun t'' k' => ⟨.str _, H, I.tok _, ⟨_, rfl⟩, q⟩
/-- x * y -/
def dMul (m : M) (x y : D) : Option D := match look m x, look m y with
  | .int i, .int j => if i.natAbs < 2 ^ 64 ∨ j.natAbs < 2 ^ 64 then some (.int (i * j)) else none
  | .str a, .int j => if 0 ≤ j ∧ j ≤ 1000 ∧ a.length ≤ 1000 then some (.str (Txt.mul a j)) else none
  | .tup ds, .int j => if 0 ≤ j ∧ j ≤ 1000 ∧ ds.length ≤ 1000 ∧ ds ≠ [] then some (.tup (List.replicate j.toNat ds).flatten) else none
  | .lst ds, .int j => if 0 ≤ j ∧ j ≤ 1000 ∧ ds.length ≤ 1000 then some (.lst (List.replicate j.toNat ds).flatten) else none
  | _, _ => none
theorem RepL.rep {K : PySem.W.Frag} {m : M} {H : Hp} {ds : List D} {vs : List V} (r : RepL K m H ds vs) : ∀ n : Nat, RepL K m H (List.replicate n ds).flatten (List.replicate n vs).flatten
  | 0 => .nil
  | n + 1 => by
    rw [List.replicate_succ, List.replicate_succ, List.flatten_cons, List.flatten_cons]
    exact r.append (r.rep n)
theorem do_mul : DOp X (binaryOp .Mult) dMul := by
  refine DOp.of (op_mul.or (op_repS.or (op_rep.or (op_repT01.or op_repT)))) fun x y m d v u H Q cx cy rx ry s e q => ?_
  unfold dMul at e
  generalize look m x = cX at cx e
  generalize look m y = cY at cy e
  split at e
  · split at e
    · rename_i hc; cases e
      rw [cont_int cx, cont_int cy]
      refine .inl ⟨_, _, rfl, rfl, ?_, q _ _ Fr.refl s rep_int⟩
      rcases hc with hc | hc
      · exact .inl (by omega)
      · exact .inr (by omega)
    · cases e
  · split at e
    · rename_i hc; cases e
      rw [cont_str cx, cont_int cy]
      exact .inr (.inl ⟨_, _, rfl, rfl, hc.1, hc.2.1, hc.2.2, q _ _ Fr.refl s rep_str⟩)
    · cases e
  · split at e
    · rename_i j hc; cases e
      rw [cont_int cy]
      obtain ⟨a, vs, rfl, ha, r1⟩ := cont_tup cx
      have l1 := r1.length
      have vne : vs ≠ [] := fun z => hc.2.2.2 (List.eq_nil_of_length_eq_zero (by rw [l1, z]; rfl))
      rcases (by omega : j = 0 ∨ j = 1 ∨ 2 ≤ j) with rfl | rfl | hj
      · refine .inr (.inr (.inr (.inl ⟨a, vs, rfl, tupAt_sq ha, vne, .inr ⟨rfl, fun p hp => q _ _ (Fr.laid s hp) (s.laid hp) ?_⟩⟩)))
        exact new_tup s hp .nil
      · refine .inr (.inr (.inr (.inl ⟨a, vs, rfl, tupAt_sq ha, vne, .inl ⟨rfl, q _ _ Fr.refl s ?_⟩⟩)))
        simp only [Rep]
        exact ⟨a, vs, rfl, ha, by simpa using r1⟩
      · exact .inr (.inr (.inr (.inr ⟨a, j, vs, rfl, rfl, tupAt_sq ha, vne, hj, hc.2.1, by omega, fun p hp => q _ _ (Fr.laid s hp) (s.laid hp) (new_tup s hp (r1.rep _))⟩)))
    · cases e
  · split at e
    · rename_i j hc; cases e
      rw [cont_int cy]
      obtain ⟨a, vs, rfl, ha, r1⟩ := cont_lst cx
      have l1 := r1.length
      refine .inr (.inr (.inl ⟨a, j, vs, rfl, rfl, ha, by omega, by omega, ?_, fun p hp => q _ _ (Fr.laid s hp) (s.laid hp) (new_lst s hp (r1.rep _))⟩))
      rw [sizeLine_eq]
      have a1 : vs.length * j.toNat ≤ 1000 * 1000 := Nat.mul_le_mul (by omega) (by omega)
      omega
    · cases e
  · cases e
end
end DL
/-! ### DL13: how many a set of keys has -/
namespace DL
open PySem PySem.Spec PyProof.Rows L2

def hasK (ks : List Key) (x : Key) : Bool := ks.any fun k => decide (x = k)
theorem hasK_iff {ks : List Key} {x : Key} : hasK ks x = true ↔ x ∈ ks := by
  unfold hasK
  rw [List.any_eq_true]
  constructor
  · rintro ⟨y, h, e⟩
    rw [of_decide_eq_true e]; exact h
  · intro h
    exact ⟨x, h, decide_eq_true rfl⟩
theorem hasK_snoc (ks : List Key) (y x : Key) : hasK (ks ++ [y]) x = (hasK ks x || decide (x = y)) := by
  unfold hasK; simp
theorem scan_of {k : Key} {u : Value} (r : RelV (kV k) u) : u.scannable = true := by
  cases k <;> (obtain ⟨t, rfl⟩ := r; rfl)
/-- how many unlike ones the first i keys are -/
def ndK (ks : List Key) : Nat → Nat
  | 0 => 0
  | i + 1 => ndK ks i + if hasK (ks.take i) (ks.getD i (.inl 0)) = true then 0 else 1
theorem ndK_le (ks : List Key) : ∀ i, ndK ks i ≤ i
  | 0 => Nat.le_refl _
  | i + 1 => by
    have := ndK_le ks i
    unfold ndK
    split <;> omega
theorem ndK_nodup {ks : List Key} (h : ks.Nodup) : ∀ i, i ≤ ks.length → ndK ks i = i
  | 0, _ => rfl
  | i + 1, hi => by
    have hlt : i < ks.length := hi
    have ih := ndK_nodup h i (Nat.le_of_lt hlt)
    have no : ¬ hasK (ks.take i) (ks.getD i (.inl 0)) = true := fun hm => by
      rw [hasK_iff] at hm
      rw [List.getD_eq_getElem?_getD, List.getElem?_eq_getElem hlt] at hm
      obtain ⟨j, hj, e⟩ := List.getElem_of_mem hm
      have hji : j < i := by rw [List.length_take] at hj; omega
      rw [List.getElem_take] at e
      exact absurd e (List.pairwise_iff_getElem.mp h j i (by omega) hlt hji)
    unfold ndK
    rw [if_neg no, ih]
section
variable {prog : Program} {w : World} {A : Around} {R : Result → Shared → Prop} {I : Addr} {fp wr : List Addr} {G : Array GenState → Array GenState → Prop} {n : Nat} {P : Nat → Value → Prop} {St : Nat → Shared → Prop}
theorem setOf_from {K : Type} [DecidableEq K] {knd : PySem.KeyKind prog w K} {h h' : Heap} {a : Addr} {S : K → Bool} {n : Nat} (q : h.SetOf knd a S n) (k : ∀ o, h.get? a = some o → h'.get? a = some o) : h'.SetOf knd a S n := by
  obtain ⟨o, es, ep, t, ho, r⟩ := q
  exact ⟨o, es, ep, t, k o ho, r⟩
theorem loopK (W : WalksS prog w A.in1 I fp wr G n P St) (S : Addr) (hS : S ∉ fp) (ks : List Key) (hn : n < 4000) (val : ∀ i v, P i v → RelV (kV (ks.getD i (.inl 0))) v) :
    ∀ (k i : Nat) (s : Shared), n - i = k → i ≤ n → St i s → s.heap.SetOf (mixKind prog w) S (hasK (ks.take i)) (ndK ks i) → n ≤ ks.length →
      (∀ s', Moved (S :: wr) G s s' → s'.heap.SetOf (mixKind prog w) S (hasK (ks.take n)) (ndK ks n) → R (.ok (.ret .none)) s') →
      codeAny (model prog w) A (.builtin "set.update.loop" ⟨[.ref S, .ref I], []⟩) R s := by
  have hSw : S ∉ wr := fun h => hS (W.sub _ h)
  have hsub : ∀ b ∈ wr, b ∈ S :: wr := fun b hb => List.mem_cons_of_mem _ hb
  intro k
  induction k with
  | zero =>
    intro i s hk hi st q hl fin
    obtain rfl : i = n := by omega
    refine codeAny_builtin PyProof.Rows.F.entry_set_update_loop ?_
    rw [Around.under_plainId PyProof.Rows.F.plain_set_update_loop _]
    show wpAny _ A.in1 (pyNext (.ref I) >>= _) _ _ s
    refine wpAny_bind (W.done s _ _ st fun s' m => ?_)
    show wpAny _ A.in1 (ret Value.none) _ _ s'
    exact wpAny_pure (fin s' (m.mono hsub) (setOf_from q fun o => m.heap S o hSw))
  | succ k ih =>
    intro i s hk hi st q hl fin
    have hlt : i < n := by omega
    refine codeAny_builtin PyProof.Rows.F.entry_set_update_loop ?_
    rw [Around.under_plainId PyProof.Rows.F.plain_set_update_loop _]
    show wpAny _ A.in1 (pyNext (.ref I) >>= _) _ _ s
    refine wpAny_bind (W.item i s _ _ hlt st fun v s' hv st' m => ?_)
    have rv := val i v hv
    have q1 := setOf_from q fun o => m.heap S o hSw
    show wpAny _ A.in1 (holding [v] (setAdd S v) >>= _) _ _ s'
    refine wpAny_bind (wpAny_holding ?_)
    unfold setAdd
    refine wpAny_holding (wpAny_bind ((mixKind prog w).pyHash (k := ks.getD i (.inl 0)) (kV_is rv) ?_))
    refine wpAny_setAddHashed_of (knd := mixKind prog w) (s := { s' with toks := s'.toks + 1 }) (kV_is rv) (scan_of rv) q1 (by have := ndK_le ks i; unfold scanBound; omega) fun h' sb q2 => ?_
    have q3 : h'.SetOf (mixKind prog w) S (hasK (ks.take (i + 1))) (ndK ks (i + 1)) := by
      have hl2 : i < ks.length := by omega
      have e : ks.take (i + 1) = ks.take i ++ [ks.getD i (.inl 0)] := by
        rw [List.take_add_one, List.getD_eq_getElem?_getD, List.getElem?_eq_getElem hl2] <;> rfl
      have e1 : hasK (ks.take (i + 1)) = fun x => hasK (ks.take i) x || decide (x = ks.getD i (.inl 0)) := by
        funext x; rw [e, hasK_snoc]
      have e2 : ndK ks (i + 1) = if hasK (ks.take i) (ks.getD i (.inl 0)) = true then ndK ks i else ndK ks i + 1 := by
        show ndK ks i + _ = _
        by_cases hm : hasK (ks.take i) (ks.getD i (.inl 0)) = true
        · rw [if_pos hm, if_pos hm, Nat.add_zero]
        · rw [if_neg hm, if_neg hm]
      rw [e1, e2]
      exact q2
    refine wpAny_pure ⟨plainId_quiet PyProof.Rows.F.plain_set_update_loop _, ih (i + 1) _ (by omega) hlt (W.frame _ s' _ _ st' (Nat.le_succ _) fun b hb o e => ?_) q3 hl fun s'' m2 q4 => ?_⟩
    · rw [sb.2 b (fun h : b = S => hS (by rw [← h]; exact hb))]; exact e
    · refine fin s'' (Moved.trans W.gtrans ((m.mono hsub).then_heap (Nat.le_succ _) fun b o hb e => ?_) m2) q4
      rw [sb.2 b (fun h : b = S => hb (by rw [h]; exact List.mem_cons_self))]; exact e
end
section
variable {prog : Program} {w : World} {A : Around} {E : Value → Shared → Prop} {s : Shared}
end
def emptySet (led : Bool) : Obj := { cls := .type "set", dict := none, data := .set #[] 0 (.fresh 0 0 led) }
section
variable {prog : Program} {w : World} {A : Around} {E : Value → Shared → Prop} {s : Shared}
set_option maxHeartbeats 3200000 in
theorem set_gen {l : Addr} {Mv : Shared → Prop} {Q : Value → Shared → Prop} (hh : A.handled = none)
    (hinit : ∀ (B : Around) (led : Bool), led = (!w.params.followText "set-order") → B.handled = none → codeAny (model prog w) B (.call (.builtin "set.__init__") ⟨[.ref s.heap.objs.size, .ref l], []⟩) (wants (fun r s' => r = .none ∧ Mv s') E) { s with heap := s.heap.push (emptySet led) })
    (h : ∀ s', Mv s' → Q (.ref s.heap.objs.size) s') : wpAny (model prog w) A (call (.type "set") [.ref l]) Q E s := by
  obtain ⟨c, tl, hmro⟩ := PySem.F.called_set.mro
  have hmade := PySem.F.called_set.made
  have hsub := PySem.F.called_set.sub
  refine wpAny_call (codeAny_of_tree ?_)
  show wpAny _ _ (callAny (.type "set") _) _ _ _
  refine wpAny_pure ⟨Code.quiet_builtin _ (by decide +kernel), codeAny_builtin PySem.F.entry_type_call ?_⟩
  rw [Around.under_plain (weight_type_call_type "set" [.ref l] []) rfl]
  have h1 := PySem.F.called_set.notType
  have h2 := PySem.F.called_set.canCreate
  have hct := PySem.F.typeCall_set_1 (.ref l)
  repeat (any_goals (first | assumption | wp_step))
  refine codeAny_mono (L2.code_set_led1 (.ref l) (E := E) (Q₁ := fun obj s1 => obj = .ref s.heap.objs.size ∧ s1 = { s with heap := s.heap.push (emptySet (!w.params.followText "set-order")) }) ⟨rfl, rfl⟩) fun r s1 hr => ?_
  cases r with
  | error e => exact hr
  | ok fl =>
    cases fl with
    | ret obj =>
      obtain ⟨rfl, rfl⟩ := hr
      generalize hled : (!w.params.followText "set-order") = led
      have hS : (s.heap.push (emptySet led)).get? s.heap.objs.size = some (emptySet led) := Heap.get?_push_size _ rfl
      have hT : Shared.TypeIs { s with heap := s.heap.push (emptySet led) } (.ref s.heap.objs.size) "set" := ⟨_, hS, rfl⟩
      have hli := PySem.F.called_set.init.lookup
      have hbi := PySem.F.called_set.init.bind (.ref s.heap.objs.size)
      repeat (any_goals (first | assumption | wp_step))
      refine codeAny_mono (hinit _ led hled.symm (by simp [hh])) fun r2 s2 hr2 => ?_
      cases r2 with
      | error e => exact hr2
      | ok fl2 =>
        cases fl2 with
        | ret r =>
          obtain ⟨rfl, hM⟩ := hr2
          repeat (any_goals (first | assumption | wp_step))
          exact h _ hM
        | _ => exact hr2.elim
    | _ => exact hr.elim
/-- set.__init__ of a new set with one list or tuple, down to the walk -/
theorem init_gen {B : Around} {l : Addr} {T : String} {R : Result → Shared → Prop} {led : Bool} {dd : Option Addr} {items : Array Value} {n : Nat} {sl : Array (Option Value)} {s : Shared} {S : Addr}
    (hS : s.heap.get? S = some (emptySet led)) (hl : s.heap.get? l = some { cls := .type T, dict := dd, data := .seq items n, slots := sl })
    (hsls : isSubtype (.type T) (.type "set") = pure false) (hslf : isSubtype (.type T) (.type "frozenset") = pure false) (hne : (Value.type T == Value.type "dict") = false)
    (h : wpAny (model prog w) B.in1 (pyIter (.ref l)) (fun it s' => wpAny (model prog w) B.in1 (runValue (.builtin "set.update.loop" ⟨[.ref S, it], []⟩)) (fun _ s2 => R (.ok (.ret .none)) s2) (fun e s2 => R (.error e) s2) s') (fun e s' => R (.error e) s') s) :
    codeAny (model prog w) B (.call (.builtin "set.__init__") ⟨[.ref S, .ref l], []⟩) R s := by
  have hT : Shared.TypeIs s (.ref S) "set" := ⟨_, hS, rfl⟩
  refine codeAny_call_builtin PySem.F.called_set.init.plain PySem.F.entry_set_init (check_set_init_1 hT ?_)
  unfold Builtin.«set.__init__» noKeywords Builtin.Frozenset.updateFrom
  generalize hPI : pyIter = PI
  wp_walk
  subst hPI
  refine wpAny_mono h (fun it s' q => wpAny_bind (wpAny_mono q (fun v s2 q2 => wpAny_pure (wpAny_pure q2)) fun _ _ e => e)) fun _ _ e => e
end
section
variable {prog : Program} {w : World} {A : Around} {E : Value → Shared → Prop} {s : Shared}
theorem vals_at : ∀ {ks : List Key} {us : List Value}, Vals (ks.map kV) us → ∀ (i : Nat) (v : Value), us[i]? = some v → RelV (kV (ks.getD i (.inl 0))) v
  | [], _, .nil, i, v, h => by simp at h
  | k :: ks, _, .cons r t, 0, v, h => by simp at h; subst h; exact r
  | k :: ks, _, .cons r t, i + 1, v, h => by
    simp only [List.getElem?_cons_succ] at h
    exact vals_at t i v h
/-- the walk of set(x) down to its loop, x a tuple of keys -/
theorem call_setT {l : Addr} {items : Array Value} {ks : List Key} {Q : Value → Shared → Prop} (hh : A.handled = none) (hl : s.heap.IsTuple l items) (hi : Vals (ks.map kV) items.toList) (hn : ks.length < 4000)
    (h : ∀ (h' : Heap) (tk : Nat), h'.SetOf (mixKind prog w) s.heap.objs.size (hasK (ks.take ks.length)) (ndK ks ks.length) → (∀ b o, b < s.heap.objs.size → s.heap.get? b = some o → h'.get? b = some o) → Q (.ref s.heap.objs.size) { s with heap := h', toks := tk }) :
    wpAny (model prog w) A (call (.type "set") [.ref l]) Q E s := by
  have hsz : ks.length = items.size := by
    have := hi.length
    rw [List.length_map, Array.length_toList] at this
    exact this
  refine set_gen (Mv := fun s' => ∃ h' tk, s' = { s with heap := h', toks := tk } ∧ h'.SetOf (mixKind prog w) s.heap.objs.size (hasK (ks.take ks.length)) (ndK ks ks.length) ∧ ∀ b o, b < s.heap.objs.size → s.heap.get? b = some o → h'.get? b = some o) hh (fun B led hled hB => ?_) (fun s' ⟨h', tk, e, hS, hk⟩ => by subst e; exact h h' tk hS hk)
  obtain ⟨⟨ocls, odict, odata, oslots⟩, hol, hcl, nl, hdl⟩ := hl
  simp only at hcl hdl
  subst hcl hdl
  have hS : (s.heap.push (emptySet led)).get? s.heap.objs.size = some (emptySet led) := Heap.get?_push_size _ rfl
  have hol' : (s.heap.push (emptySet led)).get? l = some { cls := .type "tuple", dict := odict, data := .seq items nl, slots := oslots } := Heap.get?_push_of_some _ hol
  have hl1 : (s.heap.push (emptySet led)).IsTuple l items := ⟨_, hol', rfl, nl, rfl⟩
  refine init_gen (s := { s with heap := s.heap.push (emptySet led) }) hS hol' PySem.F.sub_tuple_set PySem.F.sub_tuple_frozenset (by decide) ?_
  refine wpAny_pyIter_tuple hl1 (wpAny_runValue ?_)
  have hlS : l < s.heap.objs.size := Heap.lt_size hol
  have big : (s.heap.push (emptySet led)).objs.size = s.heap.objs.size + 1 := Heap.size_push _ _
  have hSf : s.heap.objs.size ∉ [(s.heap.push (emptySet led)).objs.size, l] := by
    rw [big]
    simp only [List.mem_cons, List.not_mem_nil, or_false, not_or]
    exact ⟨Nat.ne_of_lt (Nat.lt_succ_self _), Nat.ne_of_gt hlS⟩
  refine loopK (Walks.tuple (A := B.in1.in1) (by simp [hB]) _ l (by rw [big]; exact Nat.ne_of_lt (Nat.lt_succ_of_lt hlS)) items).toS s.heap.objs.size hSf ks (by omega) (fun i v hv => vals_at hi i v (by rw [Array.getElem?_toList]; exact hv))
    (items.size - 0) 0 _ (by omega) (Nat.zero_le _) ⟨⟨_, Heap.get?_push_size _ rfl, rfl, rfl⟩, hl1.push _⟩ ?_ (by omega) fun s' m q => ?_
  · have hg : ((s.heap.push (emptySet led)).push { cls := .type "tuple_iterator", data := .fields #[.ref l, .int 0 0] }).get? s.heap.objs.size = some (emptySet led) := Heap.get?_push_of_some _ hS
    have e0 : hasK (ks.take 0) = fun _ => false := by funext x; rfl
    rw [e0]
    exact ⟨_, #[], 0, _, hg, ⟨rfl, rfl, rfl⟩, rfl, (fun e he => by simp at he), (fun k => by simp), (by decide), (by rfl), rfl⟩
  · obtain ⟨h', g', d', tk', os'⟩ := s'
    have eg : g' = s.gens := m.gens
    have ed : d' = s.drawn := m.drawn
    have eo : os' = s.os := m.os
    subst eg ed eo
    rw [← hsz] at q
    refine ⟨rfl, h', tk', rfl, q, fun b o hb e => ?_⟩
    refine m.heap b o ?_ (Heap.get?_push_of_some _ (Heap.get?_push_of_some _ e))
    simp only [List.mem_cons, List.not_mem_nil, or_false, not_or]
    have := big
    exact ⟨Nat.ne_of_lt hb, by rw [big]; exact Nat.ne_of_lt (Nat.lt_succ_of_lt hb)⟩
end
section
variable {X : Cx} {a : Expr} {ta : DTE} {p p2 q pos : Pos}
/-- len(set(xs)), xs a tuple of keys -/
def tLenSet (ta : DTE) : DTE := fun env m Q => ta env m fun d m1 => ∃ ds ks, look m1 d = .tup ds ∧ keysOf ds = some ks ∧ ks.length < 4000 ∧ Q (.int (ndK ks ks.length)) m1
theorem de_lenSet (hc : X.calm = true) (hm : X.mg "len" = none) (hm2 : X.mg "set" = none) (ha : DE X a ta) (hg : Gl X "len" := by rfl) (hg2 : Gl X "set" := by rfl)
    (na : starEach [a] X.env = (false, eval a X.env) :: starEach [] X.env := by rfl) : DE X (.Call (.Name "len" p) [.Call (.Name "set" p2) [a] [] q] [] pos) (tLenSet ta) := by
  refine ⟨⟨fun pins s σ H Q I h => ?_⟩⟩
  obtain ⟨env, m, R, eo, sm, h, k⟩ := h
  have h0 : liftE X.K ta σ H (fun x H1 => ∃ (l : Addr) (ks : List Key), x = .ref l ∧ SqT X.K H1 l (ks.map kV) ∧ ks.length < 4000 ∧ Q (.int (ndK ks ks.length)) H1) := by
    refine ⟨env, m, _, eo, sm, h, fun d m1 v H1 h1 f1 s1 r1 => ?_⟩
    obtain ⟨ds, ks, e1, e2, hz, h1⟩ := h1
    have cc := cont_of s1 r1
    rw [e1] at cc
    obtain ⟨l, vs, rfl, hp, r2⟩ := cont_tup cc
    have e3 := keysOf_eq e2
    subst e3
    have e4 := repL_kV r2
    subst e4
    exact ⟨l, ks, rfl, tupAt_sq hp, hz, k _ m1 _ H1 h1 f1 s1 rep_int⟩
  refine Call_ (ld_blt I hg hm boot_len ?_)
  refine PyProof.Rows.callWith_builtin1 (PyProof.Rows.args_cons ?_ rfl) rfl rfl
  refine Call_ (ld_blt I hg2 hm2 boot_set ?_)
  refine PyProof.Rows.callWith_type1 (PyProof.Rows.args_cons (thn (ha.run.run pins s σ H _ I h0) fun v s1 ⟨x, H1, I1, r1, q1⟩ => PyProof.Rows.args_nil ?_) na) na rfl
  obtain ⟨l, ks, rfl, hq, hz, q1⟩ := q1
  cases r1
  obtain ⟨its, r, pl, hz2⟩ := I1.tuple hq
  refine call_setT (I1.ok.hd hc) pl (by simpa using r) hz fun h' tk hS hk => PyProof.Rows.args_nil ?_
  obtain ⟨o, es, ep, t, ho, hex, hd, _, _, _, hf, hn⟩ := hS
  have I2 : Inv X pins σ H1 { s1 with heap := h', toks := tk } := I1.kept fun b o e => hk b o (Heap.lt_size e) e
  have := ndK_le ks ks.length
  exact call_len_set ho hex hd hf (by rw [hn]; omega) ⟨.int _, H1, I2.tok _, ⟨_, by rw [hn]⟩, q1⟩
end
end DL
/-! ### DL14: repr, isinstance -/
namespace DL
open PySem PySem.Spec PyProof.Rows L2
section
variable {X : Cx} {pos : Pos}
theorem de_bty {x : Str} {T : String} (hm : X.mg x = none) (hv : bootBuiltins x = some (.type T)) (hg : Gl X x := by rfl) (hn : x ≠ "__name__" := by decide) (hd : (x == ("__debug__" : Str)) = false := by decide) : DE X (.Name x pos) (tK (.ty T)) :=
  de_c (pe_bltn (v := .ty T) hg hm hv rfl hn hd) fun m H => by simp only [Rep]
/-- repr of lists, tuples -/
def dRepr : D → Option D
  | .lst ds => if dat 60 (.lst ds) = true ∧ (toPd (.lst ds)).showable = true ∧ (toPd (.lst ds)).shown.length ≤ sizeLine then some (.str (toPd (.lst ds)).shown) else none
  | .tup ds => if dat 60 (.tup ds) = true ∧ (toPd (.tup ds)).showable = true ∧ (toPd (.tup ds)).shown.length ≤ sizeLine then some (.str (toPd (.tup ds)).shown) else none
  | _ => none
theorem call_reprD (hg : X.A.guards = some []) (hu : X.A.units + 65 < cLine) : CallR X (.builtin "repr") (fun xs H Q => ∃ a d, xs = [.ref a] ∧ Dp X.K H (.ref a) d ∧ SeqAt.shaped d = true ∧ d.depth ≤ 60 ∧ d.hasDict = false ∧ d.showable = true ∧ d.shown.length ≤ sizeLine ∧ Q (.str d.shown) H) := by
  intro pins s σ H xs us Q I r h
  obtain ⟨a, d, rfl, hd, sh, dp, nd, hs, hz, q⟩ := h
  obtain rfl := Vals.ref1 r
  obtain ⟨as, r1⟩ := Dp.reads I d (.ref a) (.ref a) hd rfl
  refine repr_of_reads' r1 hs (PyData.noDict_hsm nd) hg (by omega) (fun _ _ e => e) (fun h' u tk hk => ?_) hz
  exact ⟨.str _, H, I.kept (t' := tk) hk, ⟨_, rfl⟩, q⟩
theorem dc_repr (hg : X.A.guards = some []) (hu : X.A.units + 65 < cLine) : DCall X (.builtin "repr") (d1 dRepr) := dc_1 (call_reprD hg hu) fun c m d v H Q cc s e q => by
  have main : ∀ c, dat 60 c = true → (toPd c).showable = true → (toPd c).shown.length ≤ sizeLine → d = .str (toPd c).shown → Cont X.K m H c v → (∃ a, v = .ref a) → ∃ a d, [v] = [V.ref a] ∧ Dp X.K H (.ref a) d ∧ SeqAt.shaped d = true ∧ d.depth ≤ 60 ∧ d.hasDict = false ∧ d.showable = true ∧ d.shown.length ≤ sizeLine ∧ Q (.str d.shown) H := by
    rintro c h1 h2 h3 rfl cc ⟨a, rfl⟩
    obtain ⟨l1, l2⟩ := dat_lay 60 c h1
    exact ⟨a, toPd c, rfl, cont_dp s h1 cc, dat_shaped (by decide) h1, l2, PyData.hasDict_of_canLay _ l1, h2, h3, q _ _ Fr.refl s rep_str⟩
  unfold dRepr at e
  split at e
  · split at e
    · rename_i hc; cases e
      exact main _ hc.1 hc.2.1 hc.2.2 rfl cc (by obtain ⟨a, vs, e, _⟩ := cont_lst cc; exact ⟨a, e⟩)
    · cases e
  · split at e
    · rename_i hc; cases e
      exact main _ hc.1 hc.2.1 hc.2.2 rfl cc (by obtain ⟨a, vs, e, _⟩ := cont_tup cc; exact ⟨a, e⟩)
    · cases e
  · cases e

/-! isinstance -/
abbrev Ty := Sum String Addr
def tyD : D → Option Ty
  | .non => some (.inl "NoneType")
  | .bl _ => some (.inl "bool")
  | .int _ => some (.inl "int")
  | .str _ => some (.inl "str")
  | .tup _ => some (.inl "tuple")
  | .lst _ => some (.inl "list")
  | .scr _ => some (.inl "list")
  | .dic _ _ => some (.inl "dict")
  | .ins C _ _ => some (.inr C)
  | _ => none
def clD : D → Option Ty
  | .ty n => some (.inl n)
  | .ref C => some (.inr C)
  | _ => none
def valT : Ty → Value
  | .inl n => .type n
  | .inr C => .ref C
structure InsT (K : PySem.W.Frag) (C : Addr) : Prop where
  cl : Cls K C
  ha : PySem.W.findIn K (.ref C) "__class__" = some (some (.builtin "object.__class__"))
  hn : PySem.W.specialIn K (.builtin "object.__class__") "__get__" = some (some (.builtin "getset_descriptor.__get__"))
  htk : PySem.W.takesIn K (.builtin "object.__class__") = some true
  hm : PySem.W.mroIn K C (.type "object") = some true
theorem cont_ty {K : PySem.W.Frag} {m : M} {H : Hp} {c : D} {v : V} {t : Ty} (cc : Cont K m H c v) (e : tyD c = some t) (hi : ∀ C, t = .inr C → InsT K C) : TyX K H v (valT t) := by
  unfold tyD at e
  split at e
  · cases e; rw [cont_non cc]; exact .base .non
  · cases e; rw [cont_bl cc]; exact .base (.bl _)
  · cases e; rw [cont_int cc]; exact .base (.int _)
  · cases e; rw [cont_str cc]; exact .base (.str _)
  · cases e
    obtain ⟨a, vs, rfl, h, _⟩ := cont_tup cc
    rcases h with ⟨_, h⟩ | ⟨o, its, n, h1, h2, _⟩
    · exact .base (.tup h)
    · exact .kTuple h1 h2
  · cases e
    obtain ⟨a, vs, rfl, h, _⟩ := cont_lst cc
    exact .base (.lst h)
  · cases e
    obtain ⟨a, rfl, h⟩ := cont_scr cc
    rcases h with (h | ⟨o, h⟩) | ⟨o, its, n, h1, h2, _⟩
    · exact .base (.lst h)
    · exact .base (.frz h)
    · exact .kList h1 h2
  · cases e
    obtain ⟨a, vs, rfl, ⟨kvs, (h | ⟨o, h⟩), _⟩, _⟩ := cont_dic cc
    · exact .base (.dK h)
    · exact .fDict h
  · cases e
    obtain ⟨a, dx, fs, rfl, h, _⟩ := cc
    have i := hi _ rfl
    exact .base (.ins h i.cl i.ha i.hn i.htk i.hm)
  · cases e
def dIsi (J : Ty → Ty → Option Bool) (m : M) : List D → Option D
  | [x, c] => match tyD (look m x), clD (look m c) with
    | some t, some u => (J t u).map .bl
    | _, _ => none
  | _ => none
def JOk (K : PySem.W.Frag) (J : Ty → Ty → Option Bool) : Prop := ∀ t u b, J t u = some b → PySem.W.kitOne K (valT t) (valT u) = some b ∧ ∀ C, t = .inr C → InsT K C
theorem dc_isi {J : Ty → Ty → Option Bool} (hJ : JOk X.K J) : DCall X (.builtin "isinstance") (dIsi J) := callW call_isi fun vs H Q ⟨ds, m, d, r, s, e, q⟩ => by
  unfold dIsi at e
  split at e
  · simp only [RepL] at r
    obtain ⟨v1, r', rfl, h1, v2, r2, rfl, h2, rfl⟩ := r
    split at e
    · rename_i t u e1 e2
      obtain ⟨b, eb, rfl⟩ := Option.map_eq_some_iff.mp e
      obtain ⟨k1, k2⟩ := hJ t u b eb
      have c1 := cont_ty (cont_of s h1) e1 k2
      have c2 := cont_of s h2
      refine ⟨v1, v2, valT t, valT u, b, rfl, ?_, c1, k1, q _ _ Fr.refl s rep_bl⟩
      unfold clD at e2
      split at e2
      · rename_i e3; cases e2
        rw [e3] at c2
        simp only [Cont, Rep] at c2
        rw [c2]; exact .ty _
      · rename_i e3; cases e2
        rw [e3] at c2
        simp only [Cont, Rep] at c2
        rw [c2]; exact .own _
      · cases e2
    · cases e
  · cases e
/-- built-in types alone -/
def JB : Ty → Ty → Option Bool
  | .inl a, .inl b => kitB a b
  | _, _ => none
theorem jb_ok {K : PySem.W.Frag} : JOk K JB := fun t u b e => by
  unfold JB at e
  split at e
  · exact ⟨kit_ty e, fun C z => nomatch z⟩
  · cases e
theorem kb_str_str : kitB "str" "str" = some true := by decide +kernel
theorem kb_tup_str : kitB "tuple" "str" = some false := by decide +kernel
theorem kb_lst_str : kitB "list" "str" = some false := by decide +kernel
theorem kb_int_str : kitB "int" "str" = some false := by decide +kernel
theorem kb_bl_str : kitB "bool" "str" = some false := by decide +kernel
theorem kb_non_str : kitB "NoneType" "str" = some false := by decide +kernel
theorem kb_tup_tup : kitB "tuple" "tuple" = some true := by decide +kernel
theorem kb_str_tup : kitB "str" "tuple" = some false := by decide +kernel
theorem kb_lst_tup : kitB "list" "tuple" = some false := by decide +kernel
theorem kb_int_tup : kitB "int" "tuple" = some false := by decide +kernel
theorem kb_bl_tup : kitB "bool" "tuple" = some false := by decide +kernel
theorem kb_non_tup : kitB "NoneType" "tuple" = some false := by decide +kernel
end
end DL
/-! ### DL15: calls by names of parameters -/
namespace DL
open PySem PySem.Spec PyProof.Rows L2

def permL {α : Type} (is : List Nat) (xs : List α) : List α := is.filterMap fun i => xs[i]?
theorem permL_vals {vs : List V} {us : List Value} (r : Vals vs us) : ∀ is : List Nat, Vals (permL is vs) (permL is us)
  | [] => .nil
  | i :: is => by
    have ih := permL_vals r is
    unfold permL at ih ⊢
    rw [List.filterMap_cons, List.filterMap_cons]
    cases e : vs[i]? with
    | none =>
      have : us[i]? = none := by
        rw [List.getElem?_eq_none_iff] at e ⊢
        rw [← r.length]; exact e
      rw [this]; exact ih
    | some v =>
      obtain ⟨u, hu, ru⟩ := r.get e
      rw [hu]; exact .cons ru ih
theorem permL_rep {K : PySem.W.Frag} {m : M} {H : Hp} {ds : List D} {vs : List V} (r : RepL K m H ds vs) : ∀ is : List Nat, RepL K m H (permL is ds) (permL is vs)
  | [] => .nil
  | i :: is => by
    have ih := permL_rep r is
    unfold permL at ih ⊢
    rw [List.filterMap_cons, List.filterMap_cons]
    cases e : ds[i]? with
    | none =>
      have : vs[i]? = none := by
        rw [List.getElem?_eq_none_iff] at e ⊢
        rw [← r.length]; exact e
      rw [this]; exact ih
    | some d =>
      obtain ⟨v, hv, rv⟩ := r.get e
      rw [hv]; exact .cons rv ih
/-- a promise for calls with n values by position and these names behind -/
def FnGK (P : Program) (w : World) (K : PySem.W.Frag) (mg : Str → Option Value) (base : Heap) (CX : CXT) (k : Nat) (f : Addr) (n : Nat) (ks : List Str) (is : List Nat) (sp : Sp) : Prop :=
  ∀ (A : Around) (outer : List PySem.Env) (s : Shared) (H : Hp) (us ws : List Value) (vs zs : List V) (Q : VK) (E : XK), RoomG k A → Env0 P w K mg base A outer s H → Vals vs us → Vals zs ws → vs.length = n → zs.length = ks.length → sp (permL is (vs ++ zs)) H Q E →
    codeAny (model P w) A (.call (.ref f) ⟨us, ks.zip ws⟩) (CR CX outer P w H s Q E) s
theorem FnGK.imp {P : Program} {w : World} {K : PySem.W.Frag} {mg : Str → Option Value} {base : Heap} {CX : CXT} {k : Nat} {f : Addr} {n : Nat} {ks : List Str} {is : List Nat} {sp sp' : Sp} (F : FnGK P w K mg base CX k f n ks is sp) (h : ∀ vs H Q E, sp' vs H Q E → sp vs H Q E) : FnGK P w K mg base CX k f n ks is sp' :=
  fun A outer s H us ws vs zs Q E hr e0 rv rz ln lz q => F A outer s H us ws vs zs Q E hr e0 rv rz ln lz (h _ _ _ _ q)
theorem fn_mkK {P : Program} {w : World} {K : PySem.W.Frag} {mg : Str → Option Value} {base : Heap} {x qual : Str} {st : Stmt} {f : Addr} {fd : FuncData} {N ps ks : List Str} {is : List Nat} {n k : Nat} {sp : DSp} {t : DTS} (F : Fun K x qual st f fd) (S : FnScope N ps (defScope st))
    (hb : ∀ (kV doc pm : Value) (an : Option Addr) (cdv ct : Value) (us ws : List Value), us.length = n → ws.length = ks.length → bindArgs (PySem.W.fnOf x qual (defArgs st) (defBody st) (defScope st) .none kV doc pm an cdv ct) ⟨us, ks.zip ws⟩ = pure (ps.zip (permL is (us ++ ws))))
    (hn : ∀ ds m R, sp ds m R → ds.length = ps.length)
    (hbody : ∀ (cdv : Value) (A : Around) (outer : List PySem.Env) (s : Shared) (H : Hp) (E : XK), RoomG k (A.deeper (envOfC qual (defScope st) s.heap.objs.size f cdv)) → DSs (cxOf CX0 P w K mg base N qual (defScope st) f cdv A outer s H E).nox (defBody st) t)
    (hsp : ∀ ds m R, sp ds m R → t (startD N.length ds) m (bodyEnds R)) : FnGK P w K mg base CX0 (k + 1) f n ks is (liftSp K sp) := by
  obtain ⟨oc, od, kV, doc, pm, an, cdv, ct, osl, rfl, lk, hcd⟩ := F.ex
  intro A outer s H us ws vs zs Q E hr e0 rv rz ln lz ⟨ds, m, R, r, sm, q, kq⟩
  have hb1 := hb kV doc pm an cdv ct us ws (by rw [← rv.length]; exact ln) (by rw [← rz.length]; exact lz)
  have rp := permL_vals (rv.append rz) is
  have hl : (permL is (vs ++ zs)).length = ps.length := by rw [← r.length]; exact hn _ _ _ q
  refine StX.run_bnd lk hcd S hr.r e0 (G := fun xs H2 => xs = permL is (vs ++ zs) ∧ H2 = H) (fun A' Ex Q' h => ?_) fun s2 H2 xs g hr' => ?_
  · rw [hb1]
    exact wpAny_pure (h s H _ _ e0 Un.refl rfl (fun _ _ z => z) rp hl ⟨rfl, rfl⟩)
  · obtain ⟨rfl, rfl⟩ := g
    exact ⟨_, (hbody cdv A outer s2 _ E ⟨hr', hr.g⟩).run.nox, body_lift r sm (hsp _ _ _ q) kq⟩
structure CalMK (X : Cx) (C : Addr) (m : Str) (k : Nat) (n : Nat) (ks : List Str) (is : List Nat) (sp : DSp) : Prop where
  ex : ∃ f, Meth X.K C m f ∧ FnGK X.prog X.w X.K X.mg X.base CX0 k f n ks is (liftSp X.K sp)
structure CalFK (X : Cx) (x : Str) (k : Nat) (n : Nat) (ks : List Str) (is : List Nat) (sp : DSp) : Prop where
  ex : ∃ f, X.mg x = some (.ref f) ∧ PySem.W.keepIn X.K (.ref f) = true ∧ FnGK X.prog X.w X.K X.mg X.base CX0 k f n ks is (liftSp X.K sp)
structure DK_ (X : Cx) (kws : List Keyword) (t : DTA) : Prop where run : PK X kws (liftA X.K t)
section
variable {X : Cx} {k n : Nat} {ks : List Str} {is : List Nat} {sp : DSp} {C : Addr} {x m : Str} {nm : Option Str} {kpos p pos apos : Pos} {e o : Expr} {kws : List Keyword} {te ta : DTE} {t : DTA}
theorem PK.weak {t t' : TA} (h : PK X kws t) (k : ∀ σ H Q, t' σ H Q → t σ H Q) : PK X kws t' := ⟨fun pos pins s σ H Q I q => h.run pos pins s σ H Q I (k σ H Q q)⟩
theorem dk_nil : DK_ X [] tA0 := ⟨PK.weak pk_nil fun σ H Q h => by
  obtain ⟨env, m, R, eo, s, h, k⟩ := h
  exact k [] m [] H h Fr.refl s .nil⟩
theorem dk_cons (ha : DE X e te) (hr : DK_ X kws t) : DK_ X (⟨nm, e, kpos⟩ :: kws) (tAC te t) := ⟨PK.weak (pk_cons ha.run hr.run) fun σ H Q h => by
  obtain ⟨env, m, R, eo, s, h, k⟩ := h
  refine ⟨env, m, _, eo, s, h, fun d m1 v H1 h1 f1 s1 r1 => ?_⟩
  refine ⟨env, m1, _, eo.mono f1, s1, h1, fun ds m2 vs H2 h2 f2 s2 r2 => ?_⟩
  exact k (d :: ds) m2 (v :: vs) H2 h2 (f1.trans f2) s2 (.cons (Rep.mono f2 _ _ r1) r2)⟩
theorem run_fnGK {pins : List (Addr × Obj)} {σ : L2.St} {H : Hp} {s : Shared} {CX : CXT} {f : Addr} {sp : Sp} {E : XK} {Q : VK} {us ws : List Value} {vs zs : List V} (F : FnGK X.prog X.w X.K X.mg X.base CX k f n ks is sp) (hr : RoomG k X.A) (hx : Passes CX X E) (I : Inv X pins σ H s) (r : Vals vs us) (rz : Vals zs ws)
    (ln : vs.length = n) (lz : zs.length = ks.length) (q : sp (permL is (vs ++ zs)) H Q E) : wpAny (model X.prog X.w) X.A (call (.ref f) us (ks.zip ws)) (EP X pins σ Q) X.xe s := wpAny_call (
  codeAny_mono (F X.A X.stack s H us ws vs zs Q E hr I.env0 r rz ln lz q) fun res s' h => match res, h with
    | .error e, h => hx pins σ H s e s' I h
    | .ok (.ret u), h => I.after h
    | .ok .next, h => h.elim
    | .ok .brk, h => h.elim
    | .ok .cont, h => h.elim)
/-- o.m(x = .., ..) -/
def tMtK (C : Addr) (m : Str) (ks : List Str) (is : List Nat) (sp : DSp) (ta : DTE) (t : DTA) : DTE := fun env st Q => ta env st fun o m1 => ∃ ns vs, look m1 o = .ins C ns vs ∧ m ∉ ns ∧ t env m1 fun ds m2 => ds.length = ks.length ∧ sp (permL is (o :: ds)) m2 Q
theorem de_methK {pl : Sem Bool} (c : CalMK X C m k 1 ks is sp) (hc : Cls X.K C) (hr : RoomG k X.A) (ho : DE X o ta) (ha : DK_ X kws t) (hall : (backToKw pos (keywordEach kws X.env)).all (·.1.isSome) = true := by rfl) (hks : (backToKw pos (keywordEach kws X.env)).filterMap (·.1) = ks := by rfl)
    (hpl : ((backTo pos (starEach [] X.env)).any (·.1) || (backToKw pos (keywordEach kws X.env)).any (·.1.isNone)) = false := by rfl)
    (ht : eval (.Call (.Attribute o m apos) [] kws pos) X.env = (do
      let ov ← eval o X.env
      standAt apos.atName
      let (f, first) ← holding [ov] (getMethod ov m pl)
      callWith pos f first (backTo pos (starEach [] X.env)) (backToKw pos (keywordEach kws X.env))) := by rfl) :
    DE X (.Call (.Attribute o m apos) [] kws pos) (tMtK C m ks is sp ta t) := by
  obtain ⟨f, hm, F⟩ := c.ex
  refine ⟨⟨fun pins s σ H Q I h => ?_⟩⟩
  obtain ⟨env, mm, R, eo, sm, h, kq⟩ := h
  have h0 : liftE X.K ta σ H (fun x H1 => ∃ a dx fs, x = .ref a ∧ H1 a = some (.ins C dx fs) ∧ fs.lookup m = none ∧ liftA X.K t σ H1 fun zs H2 => zs.length = ks.length ∧ liftSp X.K sp (permL is (.ref a :: zs)) H2 Q E0) := by
    refine ⟨env, mm, _, eo, sm, h, fun d m1 v H1 h1 f1 s1 r1 => ?_⟩
    obtain ⟨ns, vs, e1, hn, h1⟩ := h1
    have cc := cont_of s1 r1
    rw [e1] at cc
    obtain ⟨a, dx, fs, rfl, h2, rfl, r2⟩ := cc
    refine ⟨a, dx, fs, rfl, h2, lookup_none hn, env, m1, _, eo.mono f1, s1, h1, fun ds m2 ws H2 h3 f2 s2 r3 => ?_⟩
    obtain ⟨hl, h3⟩ := h3
    refine ⟨by rw [← r3.length]; exact hl, permL is (d :: ds), m2, R, permL_rep (.cons (Rep.mono f2 _ _ r1) r3) is, s2, h3, fun d' m' v H' a1 a2 a3 a4 => kq d' m' v H' a1 ((f1.trans f2).trans a2) a3 a4⟩
  refine PySem.W.methodCall_KW (pl := pl) (thn (ho.run.run pins s σ H _ I h0) fun u s1 hx1 => ?_) ht
  obtain ⟨x, H1, I1, rx, a, dx, fs, rfl, ea, l, q⟩ := hx1
  obtain rfl : u = Value.ref a := rx
  refine getmeth_ok I1 ea hc hm l (PySem.W.callWith_KW0 (first := [.ref a]) (h₀ := X.base) I.ok.mod.kin hm.kp hall (thn (ha.run.run pos pins s1 σ H1 _ I1 q) fun us s2 hx2 => ?_) hpl)
  obtain ⟨zs, H2, I2, r, hl, q2⟩ := hx2
  rw [hks]
  exact ⟨I2.kIn, run_fnGK (us := [.ref a]) (vs := [.ref a]) F hr pass0 I2 (.cons rfl .nil) r rfl hl q2⟩
end
end DL
/-! ### DL16: what a module's top has made -/
namespace DL
open PySem PySem.Spec PyProof.Rows L2
theorem RoomG.hu {k : Nat} {A : Around} (r : RoomG k A) : A.units + 65 < cLine := by
  have := r.r.un
  omega
section
variable {X : Cx} {e : Expr} {te : DTE} {pos : Pos}
/-- -x -/
def tNeg (te : DTE) : DTE := fun env m Q => te env m fun d m1 => ∃ i, look m1 d = .int i ∧ Q (.int (-i)) m1
theorem de_neg (he : DE X e te) : DE X (.UnaryOp .USub e pos) (tNeg te) := ⟨PE.weak (pe_un un_neg he.run) fun σ H Q h => by
  obtain ⟨env, m, R, eo, s, h, k⟩ := h
  refine ⟨env, m, _, eo, s, h, fun d m1 v H1 h1 f1 s1 r1 => ?_⟩
  obtain ⟨i, e1, h1⟩ := h1
  have cc := cont_of s1 r1
  rw [e1] at cc
  exact ⟨i, cont_int cc, k _ m1 _ H1 h1 f1 s1 rep_int⟩⟩
/-- list(x), to be changed -/
def tListM (te : DTA) : DTE := fun env m Q => te env m fun xs m1 => ∃ x ds, xs = [x] ∧ dList (look m1 x) = some (.lst ds) ∧ ∀ p, m1 p = none → Q (.ref p) (updM m1 p (.lst ds))
theorem de_listM {p : Pos} {t : DTA} (hc : X.calm = true) (hm : X.mg "list" = none) (ha : DA X [e] t) (hg : Gl X "list" := by rfl)
    (he : starEach [e] X.env = (false, eval e X.env) :: starEach [] X.env := by rfl) (hpl : (backTo pos (starEach [] X.env)).any (·.1) = false := by rfl) : DE X (.Call (.Name "list" p) [e] [] pos) (tListM t) :=
  ⟨PE.weak (pe_callTy (call_list_of.or (call_listD hc)) hg hm (by decide +kernel) ha.run (by decide) (by decide) he hpl) fun σ H Q h => by
    obtain ⟨env, m, R, eo, s, h, k⟩ := h
    refine ⟨env, m, _, eo, s, h, fun xs m1 vs H1 h1 f1 s1 r1 => ?_⟩
    obtain ⟨x, ds, rfl, e1, h1⟩ := h1
    obtain ⟨v, rfl, r2⟩ := repL1 r1
    have cc := cont_of s1 r2
    generalize look m1 x = c at cc e1
    unfold dList at e1
    split at e1
    · cases e1
      obtain ⟨q, vs, rfl, hp, r⟩ := cont_lst cc
      exact .inl ⟨q, vs, rfl, .inl (.of hp), fun l hl => k _ _ _ _ (h1 l (s1.free hl)) (f1.trans (Fr.laidM s1 hl)) (new_lstM s1 hl r) rep_ref⟩
    · cases e1
      obtain ⟨q, vs, rfl, hp, r⟩ := cont_tup cc
      exact .inl ⟨q, vs, rfl, .inr (tupAt_sq hp), fun l hl => k _ _ _ _ (h1 l (s1.free hl)) (f1.trans (Fr.laidM s1 hl)) (new_lstM s1 hl r) rep_ref⟩
    · cases e1
      obtain ⟨q, vs, rfl, ⟨kvs, hd, rfl, rfl⟩, r⟩ := cont_dic cc
      exact .inr ⟨q, kvs, rfl, hd, fun l hl => k _ _ _ _ (h1 l (s1.free hl)) (f1.trans (Fr.laidM s1 hl)) (new_lstM s1 hl (repL_keys kvs)) rep_ref⟩
    · cases e1⟩
end
section
variable {X : Cx} {elt tg iter : Expr} {ifs : List Expr} {pos : Pos}
theorem ds_setLcF {j : Nat} {y : Str} {py spos : Pos} {scope : Scope} {own : List (Str × Nat)} {ti : DTI} {g : Tgt} {tt : DTT} {te : DTE} (hi : DI X tg iter ti) (ok : BlkOk X.N X.env.scope scope own) (hN : X.N.Nodup) (hc : X.calm = true)
    (hg : ∀ (s : Shared) (H : Hp) (C : Addr) (cl : List (Str × Addr)) (fp : List Addr), DGt (Blk X scope s H C cl fp) tg g) (ht : ∀ (s : Shared) (H : Hp) (C : Addr) (cl : List (Str × Addr)) (fp : List Addr), DTs (Blk X scope s H C cl fp) ifs tt)
    (he : ∀ (s : Shared) (H : Hp) (C : Addr) (cl : List (Str × Addr)) (fp : List Addr), DE (Blk X scope s H C cl fp) elt te)
    (hsw : swapsWith (.ListComp elt [⟨tg, iter, ifs, 0⟩] scope pos) (some (.Name y py)) spos.line X.env = pure true) (hv : ∀ i ∈ g.ix, i ∈ own.map (·.2) := by decide) (hy : X.N[j]? = some y := by rfl) (hyl : X.env.scope.names.lookup y = some .local := by rfl)
    (hs : ∀ x, foldedSetIterable iter X.env x = pure x := by intro _; rfl) :
    DS X (.Assign [.Name y py] (.ListComp elt [⟨tg, iter, ifs, 0⟩] scope pos) spos) (tSet j (tFrz (tLcM ti g tt te (own.map (·.2))))) := ds_setLc hi ok hN hc hg ht he true hsw hv hy hyl hs
theorem ds_setLcM {j : Nat} {y : Str} {py spos : Pos} {scope : Scope} {own : List (Str × Nat)} {ti : DTI} {g : Tgt} {tt : DTT} {te : DTE} (hi : DI X tg iter ti) (ok : BlkOk X.N X.env.scope scope own) (hN : X.N.Nodup) (hc : X.calm = true)
    (hg : ∀ (s : Shared) (H : Hp) (C : Addr) (cl : List (Str × Addr)) (fp : List Addr), DGt (Blk X scope s H C cl fp) tg g) (ht : ∀ (s : Shared) (H : Hp) (C : Addr) (cl : List (Str × Addr)) (fp : List Addr), DTs (Blk X scope s H C cl fp) ifs tt)
    (he : ∀ (s : Shared) (H : Hp) (C : Addr) (cl : List (Str × Addr)) (fp : List Addr), DE (Blk X scope s H C cl fp) elt te)
    (hsw : swapsWith (.ListComp elt [⟨tg, iter, ifs, 0⟩] scope pos) (some (.Name y py)) spos.line X.env = pure true) (hv : ∀ i ∈ g.ix, i ∈ own.map (·.2) := by decide) (hy : X.N[j]? = some y := by rfl) (hyl : X.env.scope.names.lookup y = some .local := by rfl)
    (hs : ∀ x, foldedSetIterable iter X.env x = pure x := by intro _; rfl) :
    DS X (.Assign [.Name y py] (.ListComp elt [⟨tg, iter, ifs, 0⟩] scope pos) spos) (tSet j (tLcM ti g tt te (own.map (·.2)))) := ds_setLc hi ok hN hc hg ht he false hsw hv hy hyl hs
end
/-! facts of the top, apart from the frame -/
/-- the module's constant x is d -/
def GV (K : PySem.W.Frag) (mg : Str → Option Value) (x : Str) (d : D) : Prop := ∃ u v, mg x = some u ∧ RelV v u ∧ ∀ m H, Rep K m H d v
theorem de_gv {X : Cx} {x : Str} {d : D} {pos : Pos} (h : GV X.K X.mg x d) (hg : Gl X x := by rfl) (hd : (x == ("__debug__" : Str)) = false := by decide) : DE X (.Name x pos) (tK d) := by
  obtain ⟨u, v, h1, h2, h3⟩ := h
  exact de_glob h1 h2 h3 hg hd
theorem gv_int {K : PySem.W.Frag} {mg : Str → Option Value} {x : Str} {i : Int} {t : Tok} (h : mg x = some (.int i t)) : GV K mg x (.int i) := ⟨_, .int i, h, ⟨_, rfl⟩, fun m H => rep_int⟩
theorem gv_str {K : PySem.W.Frag} {mg : Str → Option Value} {x : Str} {i : Str} {t : Tok} (h : mg x = some (.str i t)) : GV K mg x (.str i) := ⟨_, .str i, h, ⟨_, rfl⟩, fun m H => rep_str⟩
theorem gv_ref {K : PySem.W.Frag} {mg : Str → Option Value} {x : Str} {C : Addr} (h : mg x = some (.ref C)) : GV K mg x (.ref C) := ⟨_, .ref C, h, rfl, fun m H => rep_ref⟩
inductive StrVals : List Str → List Value → Prop
  | nil : StrVals [] []
  | cons {x : Str} {t : Tok} {xs : List Str} {us : List Value} (h : StrVals xs us) : StrVals (x :: xs) (.str x t :: us)
theorem StrVals.vals : ∀ {xs : List Str} {us : List Value}, StrVals xs us → Vals (xs.map V.str) us
  | _, _, .nil => .nil
  | _, _, .cons h => .cons ⟨_, rfl⟩ h.vals
theorem gv_strs {K : PySem.W.Frag} {mg : Str → Option Value} {x : Str} {a : Addr} {dd : Option Addr} {its : Array Value} {n : Nat} {sl : Array (Option Value)} {xs : List Str} (h : mg x = some (.ref a)) (l : K.lookup a = some ⟨.type "tuple", dd, .seq its n, sl⟩) (hz : its.size ≤ sizeLine) (hv : StrVals xs its.toList) : GV K mg x (.tup (xs.map .str)) :=
  ⟨_, .ref a, h, rfl, fun m H => by simp only [Rep]; exact ⟨a, _, rfl, .inr ⟨_, its, n, l, rfl, rfl, hz, hv.vals⟩, RepL.map_str xs⟩⟩
section
variable (P : Program) (w : World) (K : PySem.W.Frag) (mg : Str → Option Value) (base : Heap)
def CalW (x : Str) (k : Nat) (sp : DSp) : Prop := ∃ f, mg x = some (.ref f) ∧ PySem.W.keepIn K (.ref f) = true ∧ FnG P w K mg base CX0 k f (liftSp K sp)
def CalMW (C : Addr) (m : Str) (k : Nat) (sp : DSp) : Prop := ∃ f, Meth K C m f ∧ FnG P w K mg base CX0 k f (liftSp K sp)
def CalCW (C : Addr) (k : Nat) (sp : DSp) : Prop := ∃ f, Mk K C f ∧ FnG P w K mg base CX0 k f (liftSp K sp)
def CalKW (C : Addr) (m : Str) (k : Nat) (sp : DSp) : Prop := ∃ mc p g, ClX.CRead K C mc ∧ ClX.CMet K C mc m p g ∧ FnG P w K mg base CX0 k g (liftSp K sp)
def CalMKW (C : Addr) (m : Str) (k : Nat) (n : Nat) (ks : List Str) (is : List Nat) (sp : DSp) : Prop := ∃ f, Meth K C m f ∧ FnGK P w K mg base CX0 k f n ks is (liftSp K sp)
end
/-- what is mutable may be forgotten at the end -/
def dropR (R : DK) : DK := fun d m => ∃ m', (∀ b, m' b = m b ∨ m' b = none) ∧ R d m'
theorem dropR.self {R : DK} {d : D} {m : M} (h : R d m) : dropR R d m := ⟨m, fun b => .inl rfl, h⟩
def dropSp (sp : DSp) : DSp := fun ds m R => sp ds m (dropR R)
theorem lift_drop {K : PySem.W.Frag} {sp : DSp} : ∀ vs H Q E, liftSp K (dropSp sp) vs H Q E → liftSp K sp vs H Q E := fun vs H Q E ⟨ds, m, R, r, s, q, k⟩ => by
  refine ⟨ds, m, dropR R, r, s, q, fun d m' v H' h f s' rv => ?_⟩
  obtain ⟨m2, hm, h⟩ := h
  have f2 : Fr m' H' m2 H' := fun a u n hu => ⟨by rcases hm a with e | e <;> rw [e]; exact n, u, hu, .inl rfl⟩
  refine k d m2 v H' h (f.trans f2) (fun a d0 e => ?_) (Rep.mono f2 _ _ rv)
  rcases hm a with z | z
  · rw [z] at e
    exact (s' a d0 e).mono f2 fun u hu => hu
  · rw [z] at e; cases e
/-- the promise of a def by its reading -/
def spOf0 (n N : Nat) (t : DTS) : DSp := fun ds m R => ds.length = n ∧ t (startD N ds) m (bodyEnds R)
def spOf (n N : Nat) (t : DTS) : DSp := dropSp (spOf0 n N t)
end DL
/-! ### DL17: for the readings: loops by invariants, stores -/
namespace DL
open PySem PySem.Spec PyProof.Rows

theorem forD_inv {g : Tgt} {tb : DTS} {E : DEnds} {ds : List D} {env : Env} {m : M} (I : Nat → Env → M → Prop) (h0 : I 0 env m)
    (step : ∀ (i : Nat) (d : D) (env : Env) (m : M) (N : Env → M → Prop), ds[i]? = some d → I i env m → (∀ env m, I (i + 1) env m → N env m) → tgD g d env m fun env' m' => tb env' m' { E with nx := N, ct := N, bk := E.nx })
    (done : ∀ env m, I ds.length env m → E.nx env m) : forD g tb E ds env m := by
  have main : ∀ (k i : Nat) (env : Env) (m : M), ds.length - i = k → i ≤ ds.length → I i env m → forD g tb E (ds.drop i) env m := by
    intro k
    induction k with
    | zero =>
      intro i env m hk hi h
      obtain rfl : i = ds.length := by omega
      rw [List.drop_length]
      exact done env m h
    | succ k ih =>
      intro i env m hk hi h
      have hlt : i < ds.length := by omega
      rw [List.drop_eq_getElem_cons hlt]
      exact step i ds[i] env m _ (by simp [hlt]) h fun env' m' h' => ih (i + 1) env' m' (by omega) hlt h'
  exact main _ 0 env m rfl (Nat.zero_le _) h0
theorem lcD_inv {p : Addr} {g : Tgt} {tt : DTT} {te : DTE} {env : Env} {Q : M → Prop} {ds : List D} {m : M} (I : Nat → List D → M → Prop) (h0 : I 0 [] m)
    (step : ∀ (i : Nat) (acc : List D) (d : D) (m : M) (N : M → Prop), ds[i]? = some d → I i acc m → (∀ acc m, I (i + 1) acc m → N m) → tgD g d env m fun env' m' => tt env' m' fun b m2 => if b = true then te env' m2 fun y m3 => ∃ acc, m3 p = some (.lst acc) ∧ acc.length < sizeLine ∧ N (updM m3 p (.lst (acc ++ [y]))) else N m2)
    (done : ∀ acc m, I ds.length acc m → Q m) : lcD p g tt te env Q ds m := by
  have main : ∀ (k i : Nat) (acc : List D) (m : M), ds.length - i = k → i ≤ ds.length → I i acc m → lcD p g tt te env Q (ds.drop i) m := by
    intro k
    induction k with
    | zero =>
      intro i acc m hk hi h
      obtain rfl : i = ds.length := by omega
      rw [List.drop_length]
      exact done acc m h
    | succ k ih =>
      intro i acc m hk hi h
      have hlt : i < ds.length := by omega
      rw [List.drop_eq_getElem_cons hlt]
      exact step i acc ds[i] m _ (by simp [hlt]) h fun acc' m' h' => ih (i + 1) acc' m' (by omega) hlt h'
  exact main _ 0 [] m rfl (Nat.zero_le _) h0
theorem updM_over {m : M} {a : Addr} {d d' : D} : updM (updM m a d) a d' = updM m a d' := updM_upd
theorem delM_upd {m : M} {a : Addr} {d : D} (h : m a = none) : delM (updM m a d) a = m := by
  funext b
  unfold delM updM
  by_cases e : b = a
  · subst e; simp [h]
  · simp [e]
theorem updM_comm {m : M} {a b : Addr} {d e : D} (h : a ≠ b) : updM (updM m a d) b e = updM (updM m b e) a d := by
  funext c
  unfold updM
  by_cases h1 : c = a
  · by_cases h2 : c = b
    · exact absurd (h1.symm.trans h2) h
    · simp [h1, h]
  · simp [h1]
theorem updM_self {m : M} {a : Addr} {d : D} (h : m a = some d) : updM m a d = m := by
  funext b
  unfold updM
  by_cases e : b = a
  · subst e; simp [h]
  · simp [e]
/-- a comprehension that changes nothing, frozen -/
theorem lc_pure {ti : DTI} {g : Tgt} {tt : DTT} {te : DTE} {vs : List Nat} {env : Env} {m : M} {Q : DK} {ds : List D} (F : D → Option D) (hi : ∀ R : List D → M → Prop, R ds m → ti env m R) (hl : ds.length < sizeLine)
    (step : ∀ (d : D) (m1 : M) (R : Bool → DK), d ∈ ds → (∃ p acc, m p = none ∧ m1 = updM m p (.lst acc)) → (∀ y, F d = some y → R true y m1) → (F d = none → R false .non m1) →
      tgD g d (wipeD env vs) m1 fun env' m' => tt env' m' fun b m2 => if b = true then te env' m2 (R true) else R false .non m2)
    (hQ : Q (.lst (ds.filterMap F)) m) : tFrz (tLcM ti g tt te vs) env m Q := by
  refine hi _ fun p hp => ?_
  refine lcD_inv (ds := ds) (fun i acc m' => m' = updM m p (.lst acc) ∧ acc = (ds.take i).filterMap F) ⟨rfl, by simp⟩ (fun i acc d m' N hd ⟨hm, ha⟩ hN => ?_) fun acc m' h => ?_
  · subst hm
    have hmem : d ∈ ds := List.mem_of_getElem? hd
    have hlt : i < ds.length := by
      rcases Nat.lt_or_ge i ds.length with z | z
      · exact z
      · rw [List.getElem?_eq_none z] at hd; cases hd
    have hacc : acc.length ≤ i := by
      rw [ha]
      exact Nat.le_trans (List.length_filterMap_le _ _) (by rw [List.length_take]; omega)
    have et : ds.take (i + 1) = ds.take i ++ [d] := by
      rw [List.take_add_one, hd] <;> rfl
    have := step d _ (fun b y m3 => if b = true then ∃ acc, m3 p = some (.lst acc) ∧ acc.length < sizeLine ∧ N (updM m3 p (.lst (acc ++ [y]))) else N m3) hmem ⟨p, acc, hp, rfl⟩ (fun y e => ?_) fun e => ?_
    · simpa using this
    · simp only [if_true]
      refine ⟨acc, updM_same, by omega, hN (acc ++ [y]) _ ⟨by rw [updM_over], ?_⟩⟩
      rw [et, List.filterMap_append, ha]
      simp [e]
    · simp only [Bool.false_eq_true, if_false]
      refine hN acc _ ⟨rfl, ?_⟩
      rw [et, List.filterMap_append, ha]
      simp [e]
  · obtain ⟨rfl, h⟩ := h
    rw [List.take_length] at h
    subst h
    refine ⟨_, updM_same, ?_⟩
    rw [delM_upd hp]
    exact hQ
theorem dEqB_nil {ds : List D} (h : datL 59 ds = true) : dEqB (.lst ds) (.lst []) = some (decide (ds = [])) := by
  unfold dEqB
  simp only [dat, h, datL]
  cases ds with
  | nil => simp [eqvD, toPd, toPdL]; rfl
  | cons d ds => simp [eqvD, toPd, toPdL]; rfl
theorem datL_ints (n : Nat) (cells : List Int) : datL n (cells.map .int) = true := by
  rw [datL_all]
  simp [dat]
end DL
/-! ### DL18: texts by their signs, values -/
namespace DL
open PySem PySem.Spec PyProof.Rows
open SX (S S_len S_cat S_inj S_tl)

theorem str_S (x : Str) : x = S x.cps.toList := (S_tl x).symm
theorem cutS_to {a : List Nat} {i : Int} (h : 0 ≤ i) : L2.cutS (S a) none (some i) = S (a.take i.toNat) := by rw [C8.cutS_slice, SX.slice_to h]
theorem cutS_from {a : List Nat} {i : Int} (h : 0 ≤ i) : L2.cutS (S a) (some i) none = S (a.drop i.toNat) := by rw [C8.cutS_slice, SX.slice_from h]
theorem join_one (cs : List Nat) : Txt.join (S []) (cs.map fun c => S [c]) = S cs := by
  have e : (cs.map fun c => S [c]) = (cs.map fun c => [c]).map S := by rw [List.map_map]; rfl
  rw [e, SX.join_S]
  congr 1
  induction cs with
  | nil => rfl
  | cons c cs ih =>
    cases cs with
    | nil => rfl
    | cons d cs =>
      have ih' : TL.joinL [] (List.map (fun c => [c]) (d :: cs)) = d :: cs := by
        refine ih ?_
        rw [List.map_map]; rfl
      show [c] ++ ([] ++ TL.joinL [] (List.map (fun c => [c]) (d :: cs))) = _
      rw [ih']; rfl
theorem in_one_S (a : List Nat) (c : Nat) : strIn (S [c]) (S a) = decide (c ∈ a) := SX.in_one a c
theorem cut_to {α : Type} {xs : List α} {i : Int} (h : 0 ≤ i) : cutD xs none (some i) = xs.take i.toNat := by
  unfold cutD HT.sIx
  simp only [if_neg (by omega : ¬ i < 0), List.drop_zero, Nat.sub_zero]
  rw [Nat.min_comm]
  rcases Nat.le_total xs.length i.toNat with z | z
  · rw [Nat.min_eq_left z, List.take_length, List.take_of_length_le z]
  · rw [Nat.min_eq_right z]
theorem cut_from {α : Type} {xs : List α} {i : Int} (h : 0 ≤ i) : cutD xs (some i) none = xs.drop i.toNat := by
  unfold cutD HT.sIx
  simp only [if_neg (by omega : ¬ i < 0)]
  rcases Nat.le_total xs.length i.toNat with z | z
  · rw [Nat.min_eq_right z, Nat.sub_self, List.take_zero, List.drop_of_length_le z]
  · rw [Nat.min_eq_left z, List.take_of_length_le (by rw [List.length_drop]; omega)]
theorem cut_but {α : Type} {xs : List α} : cutD xs none (some (-1)) = xs.dropLast := by
  unfold cutD HT.sIx
  simp only [if_pos (by decide : (-1 : Int) < 0), List.drop_zero, Nat.sub_zero]
  rw [List.dropLast_eq_take]
  congr 1
  omega
theorem atI_pos {α : Type} {xs : List α} {i : Int} {x : α} (h0 : 0 ≤ i) (h : xs[i.toNat]? = some x) : L2.atI xs i = some x := by
  unfold L2.atI L2.ixN
  have hlt : i.toNat < xs.length := by
    rcases Nat.lt_or_ge i.toNat xs.length with z | z
    · exact z
    · rw [List.getElem?_eq_none z] at h; cases h
  rw [if_pos h0, if_pos (by omega)]
  exact h
theorem atI_last {α : Type} {xs : List α} {x : α} (h : xs.getLast? = some x) : L2.atI xs (-1) = some x := by
  have hl : xs ≠ [] := by rintro rfl; cases h
  have hp : 0 < xs.length := List.length_pos_iff.mpr hl
  unfold L2.atI L2.ixN
  rw [if_neg (by decide), if_pos (by omega)]
  rw [List.getLast?_eq_getElem?] at h
  have e : ((-1 : Int) + (xs.length : Int)).toNat = xs.length - 1 := by omega
  show xs[_]? = _
  rw [e]; exact h
theorem mem_getElem? {α : Type} {xs : List α} {i : Int} (h0 : 0 ≤ i) (h1 : i < xs.length) : ∃ x, xs[i.toNat]? = some x ∧ x ∈ xs := by
  have hlt : i.toNat < xs.length := by omega
  exact ⟨xs[i.toNat], List.getElem?_eq_getElem hlt, List.getElem_mem hlt⟩
theorem dIx_lst {m : M} {x y : D} {ds : List D} {i : Int} {d : D} (hx : look m x = .lst ds) (hy : look m y = .int i) (h : L2.atI ds i = some d) : dIx m x y = some d := by
  unfold dIx; rw [hx]; simp only [hy]; exact h
theorem dIx_tup {m : M} {x y : D} {ds : List D} {i : Int} {d : D} (hx : look m x = .tup ds) (hy : look m y = .int i) (h : L2.atI ds i = some d) : dIx m x y = some d := by
  unfold dIx; rw [hx]; simp only [hy]; exact h
theorem dIx_S {m : M} {x y : D} {a : List Nat} {i : Int} {c : Nat} (hx : look m x = .str (S a)) (hy : look m y = .int i) (hz : a.length ≤ sizeLine) (h : L2.atI a i = some c) : dIx m x y = some (.str (S [c])) := by
  unfold dIx; rw [hx]; simp only [hy]
  rw [if_pos (by rw [S_len]; exact hz)]
  show (L2.atI a i).map _ = _
  rw [h]; rfl
theorem dIx_dic {m : M} {x y : D} {ks vs : List D} {k : L2.Key} {d : D} (hx : look m x = .dic ks vs) (hy : keyOf y = some k) (h : dlook ks vs k = some d) : dIx m x y = some d := by
  unfold dIx; rw [hx]; simp only [hy]; exact h
/-- eqvD of texts -/
theorem eqvD_str (a b : Str) : eqvD (.str a) (.str b) = decide (a = b) := by
  show (PyData.eqv (.str a) (.str b)) = _
  simp only [PyData.eqv]
  by_cases e : a = b
  · subst e; simp
  · simp only [e, decide_false]
    exact beq_eq_false_iff_ne.mpr e
theorem dInB_strs {m : M} {y : D} {x : Str} {xs : List Str} (hy : look m y = .lst (xs.map .str) ∨ look m y = .tup (xs.map .str)) : dInB m (.str x) y = some (decide (x ∈ xs)) := by
  have hf : (flatD (.str x) = true ∧ (xs.map D.str).all flatD = true) := ⟨rfl, by rw [List.all_map]; simp [flatD]⟩
  have he : ((xs.map D.str).any fun y => eqvD y (.str x)) = decide (x ∈ xs) := by
    rw [List.any_map]
    clear hf hy
    induction xs with
    | nil => rfl
    | cons z zs ih =>
      rw [List.any_cons, ih]
      show (eqvD (.str z) (.str x) || _) = _
      rw [eqvD_str]
      by_cases e : z = x
      · subst e; simp
      · have e' : x ≠ z := fun q => e q.symm
        simp [e, e']
  unfold dInB
  rcases hy with hy | hy <;> rw [hy] <;> simp only <;> rw [if_pos (.inl hf), he]
end DL
/-! ### DL19: dicts by texts -/
namespace DL
open PySem PySem.Spec PyProof.Rows
def alook : List (Str × D) → Str → Option D
  | [], _ => none
  | e :: r, x => if e.1 = x then some e.2 else alook r x
def dicA (al : List (Str × D)) : D := .dic (al.map fun e => .str e.1) (al.map (·.2))
theorem dlook_al : ∀ (al : List (Str × D)) (x : Str), dlook (al.map fun e => .str e.1) (al.map (·.2)) (.inr x) = alook al x
  | [], x => rfl
  | e :: r, x => by
    show (if keyOf (.str e.1) = some (.inr x) then some e.2 else dlook (r.map fun e => .str e.1) (r.map (·.2)) (.inr x)) = (if e.1 = x then some e.2 else alook r x)
    rw [dlook_al r x]
    by_cases h : e.1 = x
    · rw [if_pos h, if_pos (by rw [h]; rfl)]
    · rw [if_neg h, if_neg (fun z => h (by simp only [keyOf, Option.some.injEq] at z; exact Sum.inr.inj z))]
theorem alook_mem : ∀ {al : List (Str × D)} {x : Str}, x ∈ al.map (·.1) → ∃ d, alook al x = some d ∧ (x, d) ∈ al
  | e :: r, x, h => by
    by_cases hx : e.1 = x
    · exact ⟨e.2, if_pos hx, by rw [← hx]; exact List.mem_cons_self⟩
    · rw [List.map_cons, List.mem_cons] at h
      obtain ⟨d, h1, h2⟩ := alook_mem (h.resolve_left fun z => hx z.symm)
      exact ⟨d, (if_neg hx).trans h1, List.mem_cons_of_mem _ h2⟩
theorem alook_none : ∀ {al : List (Str × D)} {x : Str}, x ∉ al.map (·.1) → alook al x = none
  | [], x, h => rfl
  | e :: r, x, h => by
    rw [List.map_cons, List.mem_cons, not_or] at h
    exact (if_neg fun z => h.1 z.symm).trans (alook_none h.2)
theorem alook_append : ∀ {al bl : List (Str × D)} {x : Str}, alook (al ++ bl) x = (alook al x).or (alook bl x)
  | [], bl, x => rfl
  | e :: r, bl, x => by
    show (if e.1 = x then some e.2 else alook (r ++ bl) x) = _
    rw [alook_append]
    show _ = (if e.1 = x then some e.2 else alook r x).or _
    split <;> rfl
theorem any_isKey_al : ∀ (al : List (Str × D)) (x : Str), (al.map fun e => D.str e.1).any (isKey (.inr x)) = decide (x ∈ al.map (·.1))
  | [], x => rfl
  | e :: r, x => by
    rw [List.map_cons, List.any_cons, any_isKey_al r x, List.map_cons]
    have : isKey (.inr x) (.str e.1) = decide (e.1 = x) := by
      unfold isKey
      simp only [keyOf, Option.some.injEq]
      by_cases h : e.1 = x
      · rw [h]; simp
      · have : ¬ (Sum.inr e.1 : L2.Key) = Sum.inr x := fun z => h (Sum.inr.inj z)
        simp [h, this]
    rw [this]
    by_cases h : e.1 = x
    · simp [h]
    · have h' : x ≠ e.1 := fun z => h z.symm
      simp [h, h']
theorem dput_new {al : List (Str × D)} {x : Str} {d : D} (h : x ∉ al.map (·.1)) : D.dic (dputK (al.map fun e => .str e.1) (.inr x)) (dputV (al.map fun e => .str e.1) (al.map (·.2)) (.inr x) d) = dicA (al ++ [(x, d)]) := by
  have e := any_isKey_al al x
  have e2 : ¬ (al.map fun e => D.str e.1).any (isKey (.inr x)) = true := by rw [e]; simpa using h
  unfold dputK dputV dicA
  rw [if_neg e2, if_neg e2, List.map_append, List.map_append]
  rfl
theorem dInB_dic {m : M} {y : D} {x : Str} {al : List (Str × D)} (hy : look m y = dicA al) : dInB m (.str x) y = some (alook al x).isSome := by
  unfold dInB
  rw [hy]
  show (keyOf (.str x)).map _ = _
  simp only [keyOf, Option.map_some]
  rw [dlook_al]
theorem dIx_al {m : M} {y x : D} {z : Str} {al : List (Str × D)} {d : D} (hy : look m y = dicA al) (hx : x = .str z) (h : alook al z = some d) : dIx m y x = some d := by
  subst hx
  exact dIx_dic hy rfl (by rw [dlook_al]; exact h)
/-- a display with two keys -/
theorem two_keys : keysOf [D.str ("error" : Str), D.str ("vacant" : Str)] = some [.inr ("error" : Str), .inr ("vacant" : Str)] := rfl
end DL
/-! ### DL20: sorted(set(xs)), xs a list of texts -/
namespace DL
open PySem PySem.Spec PyProof.Rows L2
open PySem.Froz (SD sObj addTx tailTx TxOk)
/-- a set of the texts l that can be walked -/
structure TxR (P : Program) (w : World) (D : SD) (l : List Str) : Prop where
  ok : TxOk P w D l
  nd : l.Nodup
  ris : L2.Ris D.2.2.place.toList
  led : w.params.followText "set-order" = true ∨ D.2.2.led = true
section
variable {P : Program} {w : World} {A : Around} {E : Value → Shared → Prop} {s : Shared}
theorem tail_rl {ep : Nat} {es1 : Array (Int × Value)} {t2 : SetTable} {b : Bool} (r : L2.Ris t2.place.toList) : L2.Ris (tailTx ep es1 t2 b).2.2.place.toList ∧ (tailTx ep es1 t2 b).2.2.led = t2.led := by
  unfold tailTx
  split
  · exact ⟨L2.relayAll_ris _ _ _, L2.relayAll_led _ _ _⟩
  · exact ⟨r, rfl⟩
theorem TxR.add {D : SD} {l : List Str} {k : Str} (u : Tok) (R : TxR P w D l) (hk : k ∉ l) : TxR P w (addTx (hashStr w k) (.str k u) D) (k :: l) := by
  have r1 := L2.layNew_ris D.2.2 D.1 (hashStr w k) (.str k u) R.ris
  have l1 := L2.layNew_led D.2.2 D.1 (hashStr w k) (.str k u)
  have r2 : L2.Ris (if (layNew D.2.2 D.1 (hashStr w k) (.str k u)).2.1.plain = true then { (layNew D.2.2 D.1 (hashStr w k) (.str k u)).2.1 with plain := false } else (layNew D.2.2 D.1 (hashStr w k) (.str k u)).2.1).place.toList := by
    split <;> exact r1
  have l2 : (if (layNew D.2.2 D.1 (hashStr w k) (.str k u)).2.1.plain = true then { (layNew D.2.2 D.1 (hashStr w k) (.str k u)).2.1 with plain := false } else (layNew D.2.2 D.1 (hashStr w k) (.str k u)).2.1).led = D.2.2.led := by
    split <;> exact l1
  have t := tail_rl (ep := D.2.1) (es1 := (layNew D.2.2 D.1 (hashStr w k) (.str k u)).1) (b := (layNew D.2.2 D.1 (hashStr w k) (.str k u)).2.2.1) r2
  exact ⟨PySem.Froz.add_ok u R.ok, List.nodup_cons.mpr ⟨hk, R.nd⟩, t.1, R.led.imp id fun z => by
    show (tailTx _ _ _ _).2.2.led = true
    rw [t.2, l2]; exact z⟩
/-- a text that is there already -/
theorem add_old {a : Addr} {T : String} {D : SD} {l : List Str} {k : Str} {u : Tok} {Q : Bool → Shared → Prop} (ho : s.heap.get? a = some (sObj T D)) (F : TxOk P w D l) (hk : k ∈ l) (hb : l.length + 1 < scanBound)
    (h : Q false s) : wpAny (model P w) A (setAddHashed a (.str k u) (hashStr w k)) Q E s := by
  obtain ⟨es, ep, t⟩ := D
  have hd : (sObj T (es, ep, t)).data = .set es ep t := rfl
  have hf : t.fits es.size = true := F.fit
  have hel : ElemsOf (PySem.strKind P w) es.toList := F.el
  have hsz : es.size = l.length := F.sz
  have hb0 : es.size < scanBound := by omega
  have hkey : (PySem.strKind P w).is k (.str k u) = true := PySem.Froz.is_str k u
  unfold setAddHashed setAddHashedIn
  refine wpAny_holding (wpAny_bind (wpAny_setState_of ho hd hf ?_))
  dsimp only
  rw [byScan_of rfl hb0 hel]
  simp only [↓reduceIte]
  unfold setAddByScan
  refine wpAny_bind ?_
  refine wpAny_bind (wpAny_rule ?_)
  refine wpAny_bind (wpAny_setScan_of (knd := PySem.strKind P w) (k := k) hkey ho hd hf hel ?_)
  cases hr : List.findIdx? (fun e => (PySem.strKind P w).is k e.2) es.toList with
  | some j =>
    dsimp only
    exact wpAny_pure (wpAny_pure h)
  | none =>
    obtain ⟨e, he, hp⟩ := (F.mem k).mp hk
    have := List.findIdx?_eq_none_iff.mp hr e he
    rw [hp] at this; cases this
end
section
variable {prog : Program} {w : World} {A : Around} {R : Result → Shared → Prop} {I : Addr} {fp wr : List Addr} {G : Array GenState → Array GenState → Prop} {n : Nat} {Pv : Nat → Value → Prop} {St : Nat → Shared → Prop}
theorem loopT (W : WalksS prog w A.in1 I fp wr G n Pv St) (S : Addr) (hS : S ∉ fp) (xs : List Str) (hn : n < 4000) (hlx : n ≤ xs.length) (val : ∀ i v, Pv i v → ∃ t x, xs[i]? = some x ∧ v = .str x t) :
    ∀ (k i : Nat) (s : Shared) (D : SD) (l : List Str), n - i = k → i ≤ n → St i s → s.heap.get? S = some (sObj "set" D) → TxR prog w D l → (∀ x, x ∈ l ↔ x ∈ xs.take i) → l.length ≤ i →
      (∀ s' D' l', Moved (S :: wr) G s s' → s'.heap.get? S = some (sObj "set" D') → TxR prog w D' l' → (∀ x, x ∈ l' ↔ x ∈ xs.take n) → l'.length ≤ n → R (.ok (.ret .none)) s') →
      codeAny (model prog w) A (.builtin "set.update.loop" ⟨[.ref S, .ref I], []⟩) R s := by
  have hSw : S ∉ wr := fun h => hS (W.sub _ h)
  have hsub : ∀ b ∈ wr, b ∈ S :: wr := fun b hb => List.mem_cons_of_mem _ hb
  intro k
  induction k with
  | zero =>
    intro i s D l hk hi st q T mem ln fin
    obtain rfl : i = n := by omega
    refine codeAny_builtin PyProof.Rows.F.entry_set_update_loop ?_
    rw [Around.under_plainId PyProof.Rows.F.plain_set_update_loop _]
    show wpAny _ A.in1 (pyNext (.ref I) >>= _) _ _ s
    refine wpAny_bind (W.done s _ _ st fun s' m => ?_)
    show wpAny _ A.in1 (ret Value.none) _ _ s'
    exact wpAny_pure (fin s' D l (m.mono hsub) (m.heap S _ hSw q) T mem ln)
  | succ k ih =>
    intro i s D l hk hi st q T mem ln fin
    have hlt : i < n := by omega
    refine codeAny_builtin PyProof.Rows.F.entry_set_update_loop ?_
    rw [Around.under_plainId PyProof.Rows.F.plain_set_update_loop _]
    show wpAny _ A.in1 (pyNext (.ref I) >>= _) _ _ s
    refine wpAny_bind (W.item i s _ _ hlt st fun v s' hv st' m => ?_)
    obtain ⟨t, x, hx, rfl⟩ := val i v hv
    have q1 := m.heap S _ hSw q
    have etk : xs.take (i + 1) = xs.take i ++ [x] := by
      rw [List.take_add_one, hx] <;> rfl
    show wpAny _ A.in1 (holding [Value.str x t] (setAdd S (.str x t)) >>= _) _ _ s'
    refine wpAny_bind (wpAny_holding ?_)
    unfold setAdd
    refine wpAny_holding (wpAny_bind ((PySem.strKind prog w).pyHash (k := x) (PySem.Froz.is_str x t) ?_))
    have room : l.length + 1 < scanBound := by unfold scanBound; omega
    by_cases hm : x ∈ l
    · refine add_old (s := { s' with toks := s'.toks + 1 }) q1 T.ok hm room ?_
      refine wpAny_pure ⟨plainId_quiet PyProof.Rows.F.plain_set_update_loop _, ih (i + 1) _ D l (by omega) hlt (W.frame _ s' s'.heap _ st' (Nat.le_succ _) fun b hb o e => e) q1 T (fun y => ?_) (by omega) fun s'' D' l' m2 q4 T4 mem4 ln4 => ?_⟩
      · rw [etk, List.mem_append, List.mem_singleton, mem y]
        constructor
        · exact .inl
        · rintro (h | rfl)
          · exact h
          · exact (mem y).mp hm
      · exact fin s'' D' l' (Moved.trans W.gtrans ((m.mono hsub).then_heap (Nat.le_succ _) fun b o hb e => e) m2) q4 T4 mem4 ln4
    · refine PySem.Froz.add_x (s := { s' with toks := s'.toks + 1 }) q1 T.ok hm room ?_
      have sb := Heap.SameBut.update s'.heap S (fun _ => sObj "set" (addTx (hashStr w x) (.str x t) D))
      refine wpAny_pure ⟨plainId_quiet PyProof.Rows.F.plain_set_update_loop _, ih (i + 1) _ (addTx (hashStr w x) (.str x t) D) (x :: l) (by omega) hlt (W.frame _ s' _ _ st' (Nat.le_succ _) fun b hb o e => ?_) (PySem.Froz.get_upd _ q1 rfl) (T.add t hm) (fun y => ?_) (by rw [List.length_cons]; omega) fun s'' D' l' m2 q4 T4 mem4 ln4 => ?_⟩
      · rw [sb.2 b (fun h : b = S => hS (by rw [← h]; exact hb))]; exact e
      · rw [etk, List.mem_append, List.mem_singleton, List.mem_cons, mem y]
        exact or_comm
      · refine fin s'' D' l' (Moved.trans W.gtrans ((m.mono hsub).then_heap (Nat.le_succ _) fun b o hb e => ?_) m2) q4 T4 mem4 ln4
        rw [sb.2 b (fun h : b = S => hb (by rw [h]; exact List.mem_cons_self))]; exact e
end
section
variable {prog : Program} {w : World} {A : Around} {E : Value → Shared → Prop} {s : Shared}
theorem vals_str : ∀ {xs : List Str} {us : List Value} {i : Nat} {v : Value}, Vals (xs.map V.str) us → us[i]? = some v → ∃ t x, xs[i]? = some x ∧ v = .str x t
  | [], _, i, v, .nil, h => by simp at h
  | x :: xs, _, 0, v, .cons r t, h => by
    simp at h; subst h
    obtain ⟨u, rfl⟩ := r
    exact ⟨u, x, rfl, rfl⟩
  | x :: xs, _, i + 1, v, .cons r t, h => by
    simp only [List.getElem?_cons_succ] at h ⊢
    exact vals_str t h
/-- .. x a list of texts: a set that can be walked -/
theorem call_setL {l : Addr} {items : Array Value} {xs : List Str} {Q : Value → Shared → Prop} (hh : A.handled = none) (hl : s.heap.IsList l items) (hi : Vals (xs.map V.str) items.toList) (hn : xs.length < 4000)
    (h : ∀ (h' : Heap) (tk : Nat) (D : SD) (zs : List Str), h'.get? s.heap.objs.size = some (sObj "set" D) → TxR prog w D zs → (∀ x, x ∈ zs ↔ x ∈ xs) → zs.length ≤ xs.length → (∀ b o, b < s.heap.objs.size → s.heap.get? b = some o → h'.get? b = some o) → Q (.ref s.heap.objs.size) { s with heap := h', toks := tk }) :
    wpAny (model prog w) A (call (.type "set") [.ref l]) Q E s := by
  have hsz : xs.length = items.size := by
    have := hi.length
    rw [List.length_map, Array.length_toList] at this
    exact this
  refine set_gen (Mv := fun s' => ∃ h' tk D zs, s' = { s with heap := h', toks := tk } ∧ h'.get? s.heap.objs.size = some (sObj "set" D) ∧ TxR prog w D zs ∧ (∀ x, x ∈ zs ↔ x ∈ xs) ∧ zs.length ≤ xs.length ∧ ∀ b o, b < s.heap.objs.size → s.heap.get? b = some o → h'.get? b = some o) hh (fun B led hled hB => ?_) (fun s' ⟨h', tk, D, zs, e, h1, h2, h3, h4, hk⟩ => by subst e; exact h h' tk D zs h1 h2 h3 h4 hk)
  obtain ⟨⟨ocls, odict, odata, oslots⟩, hol, hcl, nl, hdl⟩ := hl
  simp only at hcl hdl
  subst hcl hdl
  have hS : (s.heap.push (emptySet led)).get? s.heap.objs.size = some (emptySet led) := Heap.get?_push_size _ rfl
  have hol' : (s.heap.push (emptySet led)).get? l = some { cls := .type "list", dict := odict, data := .seq items nl, slots := oslots } := Heap.get?_push_of_some _ hol
  have hl1 : (s.heap.push (emptySet led)).IsList l items := ⟨_, hol', rfl, nl, rfl⟩
  refine init_gen (s := { s with heap := s.heap.push (emptySet led) }) hS hol' PySem.F.sub_list_set PySem.F.sub_list_frozenset (by decide) ?_
  refine wpAny_pyIter_list hl1 (wpAny_runValue ?_)
  have hlS : l < s.heap.objs.size := Heap.lt_size hol
  have big : (s.heap.push (emptySet led)).objs.size = s.heap.objs.size + 1 := Heap.size_push _ _
  have hSf : s.heap.objs.size ∉ [(s.heap.push (emptySet led)).objs.size, l] := by
    rw [big]
    simp only [List.mem_cons, List.not_mem_nil, or_false, not_or]
    exact ⟨Nat.ne_of_lt (Nat.lt_succ_self _), Nat.ne_of_gt hlS⟩
  refine loopT (Walks.list (A := B.in1.in1) (by simp [hB]) _ l (by rw [big]; exact Nat.ne_of_lt (Nat.lt_succ_of_lt hlS)) items).toS s.heap.objs.size hSf xs (by omega) (by omega) (fun i v hv => vals_str hi (by rw [Array.getElem?_toList]; exact hv))
    (items.size - 0) 0 _ (#[], 0, .fresh 0 0 led) [] (by omega) (Nat.zero_le _) ⟨⟨_, Heap.get?_push_size _ rfl, rfl, rfl⟩, hl1.push _⟩ ?_ ?_ (by simp) (Nat.zero_le _) fun s' D' l' m q T mem ln => ?_
  · exact Heap.get?_push_of_some _ hS
  · refine ⟨PySem.Froz.TxOk.nil rfl, List.nodup_nil, List.Pairwise.nil, ?_⟩
    show _ ∨ led = true
    rw [hled]
    cases w.params.followText "set-order"
    · exact .inr rfl
    · exact .inl rfl
  · obtain ⟨h', g', d', tk', os'⟩ := s'
    have eg : g' = s.gens := m.gens
    have ed : d' = s.drawn := m.drawn
    have eo : os' = s.os := m.os
    subst eg ed eo
    rw [← hsz, List.take_length] at mem
    refine ⟨rfl, h', tk', D', l', rfl, q, T, mem, by omega, fun b o hb e => ?_⟩
    refine m.heap b o ?_ (Heap.get?_push_of_some _ (Heap.get?_push_of_some _ e))
    simp only [List.mem_cons, List.not_mem_nil, or_false, not_or]
    have := big
    exact ⟨Nat.ne_of_lt hb, by rw [big]; exact Nat.ne_of_lt (Nat.lt_succ_of_lt hb)⟩
end
section
variable {P : Program} {w : World} {A : Around} {E : Value → Shared → Prop} {s : Shared}
theorem strs_of : ∀ (l : List Value), (∀ v ∈ l, ∃ k tk, v = Value.str k tk) → ∃ xs : List Str, StrsAre l xs
  | [], _ => ⟨[], .nil⟩
  | v :: r, h => by
    obtain ⟨k, tk, rfl⟩ := h v List.mem_cons_self
    obtain ⟨xs, hx⟩ := strs_of r fun u hu => h u (List.mem_cons_of_mem _ hu)
    exact ⟨k :: xs, .cons k tk hx⟩
theorem strs_mem : ∀ {l : List Value} {xs : List Str} {x : Str}, StrsAre l xs → (x ∈ xs ↔ ∃ tk, Value.str x tk ∈ l)
  | _, _, x, .nil => by simp
  | _, _, x, .cons y t r => by
    rw [List.mem_cons, strs_mem r]
    constructor
    · rintro (rfl | ⟨tk, h⟩)
      · exact ⟨t, List.mem_cons_self⟩
      · exact ⟨tk, List.mem_cons_of_mem _ h⟩
    · rintro ⟨tk, h⟩
      rcases List.mem_cons.mp h with e | h
      · cases e; exact .inl rfl
      · exact .inr ⟨tk, h⟩
theorem isStr_of {P : Program} {w : World} {k : Str} {v : Value} (h : (PySem.strKind P w).is k v = true) : ∃ y tk, v = Value.str y tk := by
  have h : Value.isStrOf k v = true := h
  cases v with
  | str y tk => exact ⟨y, tk, rfl⟩
  | _ => simp [Value.isStrOf] at h
/-- sorted(found), found a set of texts -/
theorem sorted_setT {a : Addr} {D : SD} {l : List Str} {Q : Value → Shared → Prop} (ho : s.heap.get? a = some (sObj "set" D)) (T : TxR P w D l) (hh : A.handled = none) (h64 : l.length < 64)
    (hQ : ∀ s' p (out : Array Value) (c : Nat) (ys : List Str), (∀ b o, s.heap.get? b = some o → s'.heap.get? b = some o) → s'.gens = s.gens → s'.os = s.os → s.heap.objs.size ≤ p →
      s'.heap.get? p = some (seqObj "list" out c) → StrsAre out.toList ys → ys.length = l.length → (∀ x, x ∈ ys ↔ x ∈ l) → sortedS ys = true → Q (.ref p) s') :
    wpAny (model P w) A (call (.builtin "sorted") [.ref a]) Q E s := by
  obtain ⟨es, ep, t⟩ := D
  have hsz : es.size = l.length := T.ok.sz
  have hel : ElemsOf (PySem.strKind P w) es.toList := T.ok.el
  refine Calls.call_function_entry kind_sorted plain_sorted entry_sorted (args_sorted1 _) ?_
  unfold Builtin.«sorted»
  refine wpAny_bind (m := checkCount "sorted" 1 1 _) (wpAny_pure ?_)
  refine wpAny_bind (L2.collect_set (A := A.in1) hh ⟨_, ho, rfl, rfl⟩ T.ok.fit (by rw [hsz]; unfold scanBound; omega) T.ris T.led fun s1 vs k1 hz g1 o1 pm => ?_)
  have hvl : vs.length = l.length := by rw [pm.length_eq, List.length_map, Array.length_toList]; exact hsz
  have hstr : ∀ v ∈ vs, ∃ k tk, v = Value.str k tk := fun v hv => by
    obtain ⟨e, he, q⟩ := List.mem_map.mp (pm.mem_iff.mp hv)
    obtain ⟨⟨k, hk, _⟩, _⟩ := hel e he
    rw [← q]
    exact isStr_of hk
  obtain ⟨xs, hS⟩ := strs_of vs hstr
  refine wpAny_bind (wpAny_newList ?_ (by rw [hvl, sizeLine_eq]; omega))
  have hoL : (s1.heap.push (seqObj "list" vs.toArray 0)).get? s1.heap.objs.size = some (seqObj "list" vs.toArray 0) := Heap.get?_push_size _ rfl
  refine wpAny_bind (wpAny_holding (wpAny_call_entry slot_list_sort ⟨_, hoL, rfl⟩ entry_list_sort (list_sort_treeK strKind_oneLt hoL hS.keysOf (fun v1 v2 rest e => keyKind_strs (by rw [← e]; exact hS)) (by rw [hvl]; exact h64) fun st' hp hs => ⟨_, rfl, ?_⟩) (args_list_sort _)))
  obtain ⟨ys, y1, y2, y3⟩ := sorted_out_str hS hp hs
  obtain ⟨c, hc⟩ := sortedHeap_at (vs := vs) (out := (arrOf st').map (·.2)) hoL
  have lx : xs.length = vs.length := (StrsAre.length hS).symm
  refine wpAny_pure ⟨_, rfl, hQ _ s1.heap.objs.size _ c ys (fun b u e => ?_) g1 o1 hz hc y1 (by rw [y2.length_eq, lx, hvl]) (fun x => ?_) y3⟩
  · have q := k1 b u e
    have hlt := Heap.lt_size q
    show (sortedHeap (s1.heap.push (seqObj "list" vs.toArray 0)) s1.heap.objs.size vs _).get? b = some u
    rw [sortedHeap_old (Nat.ne_of_lt hlt) (by rw [size_push']; exact Nat.lt_succ_of_lt hlt)]
    exact Heap.get?_push_of_some _ q
  · rw [y2.mem_iff, strs_mem hS, T.ok.mem x]
    constructor
    · rintro ⟨tk, h⟩
      obtain ⟨e, he, q⟩ := List.mem_map.mp (pm.mem_iff.mp h)
      exact ⟨e, he, by rw [q]; exact PySem.Froz.is_str x tk⟩
    · rintro ⟨e, he, hk⟩
      obtain ⟨y, tk, q⟩ := isStr_of hk
      have : y = x := by
        rw [q] at hk
        exact ((PySem.strKind P w).inj (.str y tk) x y hk (PySem.Froz.is_str y tk)).symm
      subst this
      exact ⟨tk, pm.mem_iff.mpr (List.mem_map.mpr ⟨e, he, q⟩)⟩
end
section
variable {X : Cx} {a : Expr} {ta : DTE} {p p2 q pos : Pos}
/-- sorted(set(xs)), xs a list of fewer than 64 texts -/
def tSortSet (ta : DTE) : DTE := fun env m Q => ta env m fun d m1 => ∃ xs : List Str, look m1 d = .lst (xs.map .str) ∧ xs.length < 64 ∧ ∀ ys : List Str, (∀ x, x ∈ ys ↔ x ∈ xs) → sortedS ys = true → ys.Nodup → Q (.lst (ys.map .str)) m1
theorem nodup_of_same : ∀ (ys l : List Str), l.Nodup → ys.length = l.length → (∀ x, x ∈ ys ↔ x ∈ l) → ys.Nodup
  | [], _, _, _, _ => List.nodup_nil
  | y :: ys, l, nd, hl, hm => by
    have hy : y ∈ l := (hm y).mp List.mem_cons_self
    have hp := List.length_pos_of_mem hy
    have el : (l.erase y).length = ys.length := by
      rw [List.length_erase_of_mem hy, ← hl, List.length_cons]; omega
    have nde : (l.erase y).Nodup := nd.erase y
    have sub : ∀ x, x ∈ l.erase y → x ∈ ys := fun x hx => by
      have hne : x ≠ y := fun e => by
        rw [e] at hx
        exact (List.Nodup.not_mem_erase nd) hx
      rcases List.mem_cons.mp ((hm x).mpr (List.mem_of_mem_erase hx)) with e | e
      · exact absurd e hne
      · exact e
    -- y is not behind: else the erased list would hold all of ys
    have hny : y ∉ ys := fun h => by
      have big : l.length ≤ ys.length := by
        have : ∀ (l k : List Str), l.Nodup → (∀ x ∈ l, x ∈ k) → l.length ≤ k.length := by
          intro l
          induction l with
          | nil => intro k _ _; exact Nat.zero_le _
          | cons a l ih =>
            intro k h s
            rw [List.nodup_cons] at h
            have ha := s a List.mem_cons_self
            have := ih (k.erase a) h.2 fun x hx => (List.mem_erase_of_ne (fun e => h.1 (by rw [← e]; exact hx))).mpr (s x (List.mem_cons_of_mem _ hx))
            rw [List.length_erase_of_mem ha] at this
            have := List.length_pos_of_mem ha
            rw [List.length_cons]; omega
        refine this l ys nd fun x hx => ?_
        rcases List.mem_cons.mp ((hm x).mpr hx) with e | e
        · rw [e]; exact h
        · exact e
      rw [List.length_cons] at hl
      omega
    refine List.nodup_cons.mpr ⟨hny, nodup_of_same ys (l.erase y) nde el.symm fun x => ⟨fun hx => ?_, sub x⟩⟩
    have hne : x ≠ y := fun e => hny (by rw [← e]; exact hx)
    exact (List.mem_erase_of_ne hne).mpr ((hm x).mp (List.mem_cons_of_mem _ hx))
theorem de_sortSet (hc : X.calm = true) (hm : X.mg "sorted" = none) (hm2 : X.mg "set" = none) (ha : DE X a ta) (hg : Gl X "sorted" := by rfl) (hg2 : Gl X "set" := by rfl)
    (na : starEach [a] X.env = (false, eval a X.env) :: starEach [] X.env := by rfl) : DE X (.Call (.Name "sorted" p) [.Call (.Name "set" p2) [a] [] q] [] pos) (tSortSet ta) := by
  refine ⟨⟨fun pins s σ H Q I h => ?_⟩⟩
  obtain ⟨env, m, R, eo, sm, h, k⟩ := h
  have h0 : liftE X.K ta σ H (fun x H1 => ∃ (l : Addr) (xs : List Str), x = .ref l ∧ SqL X.K H1 l (xs.map V.str) ∧ xs.length < 64 ∧ ∀ ys : List Str, (∀ x, x ∈ ys ↔ x ∈ xs) → sortedS ys = true → ys.Nodup → ∀ p, H1 p = none → Q (.ref p) (upd H1 p (.lst (ys.map V.str)))) := by
    refine ⟨env, m, _, eo, sm, h, fun d m1 v H1 h1 f1 s1 r1 => ?_⟩
    obtain ⟨xs, e1, hz, h1⟩ := h1
    have cc := cont_of s1 r1
    rw [e1] at cc
    obtain ⟨l, vs, rfl, hp, r2⟩ := cont_lst cc
    have e4 : vs = xs.map V.str := strsOf_rep (strsOf_map xs) r2
    subst e4
    exact ⟨l, xs, rfl, .of hp, hz, fun ys a1 a2 a3 p hp2 => k _ m1 _ _ (h1 ys a1 a2 a3) (f1.trans (Fr.laid s1 hp2)) (s1.laid hp2) (new_lst s1 hp2 (RepL.map_str ys))⟩
  refine Call_ (ld_blt I hg hm boot_sorted ?_)
  refine PyProof.Rows.callWith_builtin1 (PyProof.Rows.args_cons ?_ rfl) rfl rfl
  refine Call_ (ld_blt I hg2 hm2 boot_set ?_)
  refine PyProof.Rows.callWith_type1 (PyProof.Rows.args_cons (thn (ha.run.run pins s σ H _ I h0) fun v s1 ⟨x, H1, I1, r1, q1⟩ => PyProof.Rows.args_nil ?_) na) na rfl
  obtain ⟨l, xs, rfl, hq, hz, q1⟩ := q1
  cases r1
  obtain ⟨its, r, pl, hz2⟩ := I1.list hq
  refine call_setL (I1.ok.hd hc) pl.isList (by simpa using r) (by omega) fun h' tk D zs hS T mem ln hk => PyProof.Rows.args_nil ?_
  have I2 : Inv X pins σ H1 { s1 with heap := h', toks := tk } := I1.kept fun b o e => hk b o (Heap.lt_size e) e
  refine sorted_setT (s := { s1 with heap := h', toks := tk }) hS T (I1.ok.hd hc) (by omega) fun s' p out c ys k1 g o hp hob hst hl hmem hsrt => ?_
  have hlen : (ys.map V.str).length ≤ sizeLine := by rw [List.length_map, hl, sizeLine_eq]; omega
  have hn : H1 p = none := I2.hok.fresh hp
  have J : Inv X pins σ (upd H1 p (.lst (ys.map V.str))) { s1 with heap := s'.heap, gens := s'.gens, drawn := s'.drawn, toks := s'.toks } :=
    Inv.call (s := { s1 with heap := h', toks := tk }) (ch := []) I2 (Un.laid k1 hp hn) (I2.hok.laid k1 hp ⟨hlen, out.toList, c, vals_of_strs hst, hob⟩) (by rw [g]; exact I2.bare) (fun _ z => nomatch z)
  have e : s' = { s1 with heap := s'.heap, gens := s'.gens, drawn := s'.drawn, toks := s'.toks } := by
    cases s'
    cases s1
    cases o
    rfl
  rw [e]
  exact ⟨.ref p, _, J, rfl, q1 ys (fun x => (hmem x).trans (mem x)) hsrt (nodup_of_same ys zs T.nd hl hmem) p hn⟩
/-- sorted(xs) -/
def dSorted : D → Option (List Str)
  | .lst ds => strsOf ds
  | _ => none
end
end DL
/-! ### DL21: comprehensions with two for -/
namespace DL
open PySem PySem.Spec PyProof.Rows L2
section
variable {X : Cx} {tg iter elt tg1 iter1 : Expr} {ifs ifs1 : List Expr} {te : DTE} {pos : Pos}
theorem in_core {g : Tgt} {tt : DTT} {vs : List Nat} (hg : ∀ i ∈ g.ix, i ∈ vs) {σ : L2.St} {env : Env} {m1 : M} {H1 : Hp} {J : It} {ds : List D} {Dz : Addr} {N : Hp → Prop} {R : M → Prop} (eo : EnvOk X.K m1 H1 σ env) (s1 : Sim X.K m1 H1) (it : Items X.K J ds m1 H1)
    (h1 : lcD Dz g tt te (wipeD env vs) R ds m1) (k : ∀ m' H', R m' → Fr m1 H1 m' H' → Sim X.K m' H' → N H') :
    ∃ W : Nat → Nat → Hp → Prop, (∃ n, W 0 n H1) ∧ ∀ i n H, W i n H → (J.stop i H ∧ N H) ∨ (J.go i H ∧ ∃ Nx : Hp → Prop, (∀ H', Nx H' → ∃ n', n' < n ∧ W (i + 1) n' H') ∧
      ∀ x H', J.yld i H x H' → tgR X.K g x (L2.wipe σ vs) H' fun σ2 H2 => L2.wipe σ2 vs = L2.wipe σ vs ∧ liftT X.K tt σ2 H2 fun b H3 =>
        if b = true then liftE X.K te σ2 H3 fun y H4 => ∃ acc, H4 Dz = some (.lst acc) ∧ acc.length < sizeLine ∧ Nx (upd H4 Dz (.lst (acc ++ [y]))) else Nx H3) := by
  refine ⟨fun i n H => n = ds.length - i ∧ i ≤ ds.length ∧ ∃ m, Sim X.K m H ∧ Fr m1 H1 m H ∧ lcD Dz g tt te (wipeD env vs) R (ds.drop i) m, ⟨_, rfl, Nat.zero_le _, m1, s1, Fr.refl, h1⟩, ?_⟩
  rintro i n H2 ⟨rfl, hi, m2, s2, f2, h2⟩
  obtain ⟨go, stop⟩ := it i m2 H2 f2 s2
  by_cases hlt : i < ds.length
  · obtain ⟨g1, g2⟩ := go ds[i] (by simp [hlt])
    have ed : ds.drop i = ds[i] :: ds.drop (i + 1) := List.drop_eq_getElem_cons hlt
    rw [ed] at h2
    refine .inr ⟨g1, fun H' => ∃ m, Sim X.K m H' ∧ Fr m1 H1 m H' ∧ lcD Dz g tt te (wipeD env vs) R (ds.drop (i + 1)) m, fun H' q => ⟨ds.length - (i + 1), by omega, rfl, hlt, q⟩, fun x H' y => ?_⟩
    obtain ⟨f3, s3, r3⟩ := g2 x H' y
    have h2 : tgD g ds[i] (wipeD env vs) m2 _ := h2
    refine tg_run r3 (((eo.mono f2).wipe vs).mono f3) s3 h2 fun env4 σ4 h4 eo4 wp => ?_
    refine ⟨by rw [wp vs hg]; exact wipe_sub fun i hi => hi, env4, m2, _, eo4, s3, h4, fun b m5 H5 h5 f5 s5 => ?_⟩
    have f35 := f3.trans f5
    cases b with
    | true =>
      simp only [if_true] at h5 ⊢
      refine ⟨env4, m5, _, eo4.mono f5, s5, h5, fun z m6 zv H6 h6 f6 s6 r6 => ?_⟩
      obtain ⟨acc, ea, hz, h6⟩ := h6
      obtain ⟨ws, hD6, ra⟩ := s6 Dz _ ea
      have fw : Fr m6 H6 (updM m6 Dz (.lst (acc ++ [z]))) (upd H6 Dz (.lst (ws ++ [zv]))) := Fr.write ea
      exact ⟨ws, hD6, by rw [← ra.length]; exact hz, _, s6.write (d := .lst (acc ++ [z])) ea ⟨_, upd_same, RepL.mono fw _ _ (ra.snoc r6)⟩, (f2.trans (f35.trans f6)).trans fw, h6⟩
    | false =>
      simp only [Bool.false_eq_true, if_false] at h5 ⊢
      exact ⟨m5, s5, f2.trans f35, h5⟩
  · have e : i = ds.length := by omega
    subst e
    rw [List.drop_length] at h2
    exact .inl ⟨stop rfl, k m2 H2 h2 f2 s2⟩
def lcD2 (p : Addr) (g : Tgt) (tt : DTT) (ti1 : DTI) (g1 : Tgt) (tt1 : DTT) (te : DTE) (vs1 : List Nat) (env : Env) (Q : M → Prop) : List D → M → Prop
  | [], m => Q m
  | d :: ds, m => tgD g d env m fun env' m' => tt env' m' fun b m2 => if b = true then ti1 env' m2 fun es m3 => lcD p g1 tt1 te (wipeD env' vs1) (fun m4 => lcD2 p g tt ti1 g1 tt1 te vs1 env Q ds m4) es m3 else lcD2 p g tt ti1 g1 tt1 te vs1 env Q ds m2
def tLcM2 (ti : DTI) (g : Tgt) (tt : DTT) (ti1 : DTI) (g1 : Tgt) (tt1 : DTT) (te : DTE) (vs vs1 : List Nat) : DTE := fun env m Q => ti env m fun ds m1 => ∀ p, m1 p = none → lcD2 p g tt ti1 g1 tt1 te vs1 (wipeD env vs) (fun m2 => Q (.ref p) m2) ds (updM m1 p (.lst []))
theorem lc2_lift {g g1 : Tgt} {tt tt1 : DTT} {ti ti1 : DTI} {vs vs1 : List Nat} (hg : ∀ i ∈ g.ix, i ∈ vs) (hg1 : ∀ i ∈ g1.ix, i ∈ vs1) {σ : L2.St} {H : Hp} {Q : VK} (h : liftE X.K (tLcM2 ti g tt ti1 g1 tt1 te vs vs1) σ H Q) :
    L2.tLc2 (liftI X.K ti) (tgR X.K g) (liftT X.K tt) (liftI X.K ti1) (tgR X.K g1) (liftT X.K tt1) (liftE X.K te) vs vs1 σ H Q := by
  obtain ⟨env, m0, R, eo0, s0, h, k⟩ := h
  refine ⟨env, m0, _, eo0, s0, h, fun ds m1 J H1 h1 f1 s1 it => ?_⟩
  have eo := eo0.mono f1
  intro Dz hD
  have mD : m1 Dz = none := s1.free hD
  refine ⟨fun i n H => n = ds.length - i ∧ i ≤ ds.length ∧ ∃ m, Sim X.K m H ∧ Fr m1 H1 m H ∧ lcD2 Dz g tt ti1 g1 tt1 te vs1 (wipeD env vs) (fun m2 => R (.ref Dz) m2) (ds.drop i) m,
    ⟨_, rfl, Nat.zero_le _, _, new_lstM s1 hD .nil, Fr.laidM s1 hD, h1 Dz mD⟩, ?_⟩
  rintro i n H2 ⟨rfl, hi, m2, s2, f2, h2⟩
  obtain ⟨go, stop⟩ := it i m2 H2 f2 s2
  by_cases hlt : i < ds.length
  · obtain ⟨q1, q2⟩ := go ds[i] (by simp [hlt])
    have ed : ds.drop i = ds[i] :: ds.drop (i + 1) := List.drop_eq_getElem_cons hlt
    rw [ed] at h2
    refine .inr ⟨q1, fun H' => ∃ m, Sim X.K m H' ∧ Fr m1 H1 m H' ∧ lcD2 Dz g tt ti1 g1 tt1 te vs1 (wipeD env vs) (fun m2 => R (.ref Dz) m2) (ds.drop (i + 1)) m,
      fun H' q => ⟨ds.length - (i + 1), by omega, rfl, hlt, q⟩, fun x H' y => ?_⟩
    obtain ⟨f3, s3, r3⟩ := q2 x H' y
    have h2 : tgD g ds[i] (wipeD env vs) m2 _ := h2
    refine tg_run r3 (((eo.mono f2).wipe vs).mono f3) s3 h2 fun env4 σ4 h4 eo4 wp => ?_
    refine ⟨by rw [wp vs hg]; exact wipe_sub fun i hi => hi, env4, m2, _, eo4, s3, h4, fun b m5 H5 h5 f5 s5 => ?_⟩
    have f25 := f2.trans (f3.trans f5)
    cases b with
    | true =>
      simp only [if_true] at h5 ⊢
      refine ⟨env4, m5, _, eo4.mono f5, s5, h5, fun es m6 J1 H6 h6 f6 s6 it1 => ?_⟩
      exact in_core hg1 ((eo4.mono f5).mono f6) s6 it1 h6 fun m' H' a1 a2 a3 => ⟨m', a3, f25.trans (f6.trans a2), a1⟩
    | false =>
      simp only [Bool.false_eq_true, if_false] at h5 ⊢
      exact ⟨m5, s5, f25, h5⟩
  · have e : i = ds.length := by omega
    subst e
    rw [List.drop_length] at h2
    exact .inl ⟨stop rfl, k (.ref Dz) m2 _ H2 h2 (f1.trans f2) s2 rep_ref⟩
theorem de_lc2 {scope : Scope} {own : List (Str × Nat)} {vs1 : List Nat} {ti ti1 : DTI} {g g1 : Tgt} {tt tt1 : DTT} (hi : DI X tg iter ti) (ok : BlkOk X.N X.env.scope scope own) (hN : X.N.Nodup) (hc : X.calm = true)
    (hg : ∀ (s : Shared) (H : Hp) (C : Addr) (cl : List (Str × Addr)) (fp : List Addr), DGt (Blk X scope s H C cl fp) tg g) (ht : ∀ (s : Shared) (H : Hp) (C : Addr) (cl : List (Str × Addr)) (fp : List Addr), DTs (Blk X scope s H C cl fp) ifs tt)
    (hi1 : ∀ (s : Shared) (H : Hp) (C : Addr) (cl : List (Str × Addr)) (fp : List Addr), DI (Blk X scope s H C cl fp) tg1 iter1 ti1)
    (hg1 : ∀ (s : Shared) (H : Hp) (C : Addr) (cl : List (Str × Addr)) (fp : List Addr), DGt (Blk X scope s H C cl fp) tg1 g1) (ht1 : ∀ (s : Shared) (H : Hp) (C : Addr) (cl : List (Str × Addr)) (fp : List Addr), DTs (Blk X scope s H C cl fp) ifs1 tt1)
    (he : ∀ (s : Shared) (H : Hp) (C : Addr) (cl : List (Str × Addr)) (fp : List Addr), DE (Blk X scope s H C cl fp) elt te) (hv : ∀ i ∈ g.ix, i ∈ own.map (·.2) := by decide) (hv1 : ∀ i ∈ g1.ix, i ∈ vs1 := by decide) (hvo : ∀ i ∈ vs1, i ∈ own.map (·.2) := by decide)
    (hs : ∀ x, foldedSetIterable iter X.env x = pure x := by intro _; rfl) (hs1 : ∀ env x, foldedSetIterable iter1 env x = pure x := by intro _ _; rfl) :
    DE X (.ListComp elt [⟨tg, iter, ifs, 0⟩, ⟨tg1, iter1, ifs1, 0⟩] scope pos) (tLcM2 ti g tt ti1 g1 tt1 te (own.map (·.2)) vs1) :=
  ⟨PE.weak (pe_lc2 hc hN hi.run ok hvo (fun s H C cl fp => (hg s H C cl fp).run) (fun s H C cl fp => (ht s H C cl fp).run) (fun s H C cl fp => (hi1 s H C cl fp).run) (fun s H C cl fp => (hg1 s H C cl fp).run) (fun s H C cl fp => (ht1 s H C cl fp).run) (fun s H C cl fp => (he s H C cl fp).run) hs hs1) fun σ H Q h => lc2_lift hv hv1 h⟩
end
end DL
/-! ### DL22: lists of texts in order -/
namespace DL
open PySem PySem.Spec PyProof.Rows
def ltL (a b : Str) : Prop := a.cps.toList < b.cps.toList
theorem str_ext {a b : Str} (h : a.cps.toList = b.cps.toList) : a = b := by
  cases a; cases b
  congr 1
  exact Array.ext' h
theorem ltL_irrefl (a : Str) : ¬ ltL a a := List.lt_irrefl _
theorem ltL_trans {a b c : Str} (h : ltL a b) (k : ltL b c) : ltL a c := List.lt_trans h k
theorem ltL_of {a b : Str} (h : ¬ ltL b a) (ne : a ≠ b) : ltL a b := by
  rcases Classical.em (ltL a b) with h1 | h1
  · exact h1
  · exact absurd (str_ext (List.le_antisymm (List.not_lt.mp h) (List.not_lt.mp h1))) ne
theorem rising_lt : ∀ (r : List Str) (p : Str), PyProof.Rows.risingS p r = true → (p :: r).Nodup → (p :: r).Pairwise ltL
  | [], p, _, _ => List.pairwise_singleton _ _
  | x :: r, p, h, nd => by
    have h : (!ltCps x.cps.toList p.cps.toList && PyProof.Rows.risingS x r) = true := h
    rw [Bool.and_eq_true, Bool.not_eq_true', ltCps_eq, decide_eq_false_iff_not] at h
    have nd2 := (List.nodup_cons.mp nd)
    have ih := rising_lt r x h.2 nd2.2
    have hpx : ltL p x := ltL_of h.1 fun e => nd2.1 (by rw [e]; exact List.mem_cons_self)
    refine List.pairwise_cons.mpr ⟨fun y hy => ?_, ih⟩
    rcases List.mem_cons.mp hy with rfl | hy
    · exact hpx
    · exact ltL_trans hpx ((List.pairwise_cons.mp ih).1 y hy)
theorem sorted_lt {ys : List Str} (h : sortedS ys = true) (nd : ys.Nodup) : ys.Pairwise ltL := by
  cases ys with
  | nil => exact List.Pairwise.nil
  | cons y ys => exact rising_lt ys y h nd
theorem lt_uniq : ∀ (xs ys : List Str), xs.Pairwise ltL → ys.Pairwise ltL → (∀ x, x ∈ xs ↔ x ∈ ys) → xs = ys
  | [], [], _, _, _ => rfl
  | [], y :: ys, _, _, h => absurd ((h y).mpr List.mem_cons_self) (by simp)
  | x :: xs, [], _, _, h => absurd ((h x).mp List.mem_cons_self) (by simp)
  | x :: xs, y :: ys, hx, hy, h => by
    have px := List.pairwise_cons.mp hx
    have py := List.pairwise_cons.mp hy
    have e : x = y := by
      rcases List.mem_cons.mp ((h x).mp List.mem_cons_self) with e | e
      · exact e
      · rcases List.mem_cons.mp ((h y).mpr List.mem_cons_self) with e2 | e2
        · exact e2.symm
        · exact absurd (ltL_trans (px.1 y e2) (py.1 x e)) (ltL_irrefl x)
    subst e
    have nx : x ∉ xs := fun z => ltL_irrefl x (px.1 x z)
    have ny : x ∉ ys := fun z => ltL_irrefl x (py.1 x z)
    rw [lt_uniq xs ys px.2 py.2 fun z => ⟨fun hz => ?_, fun hz => ?_⟩]
    · rcases List.mem_cons.mp ((h z).mp (List.mem_cons_of_mem _ hz)) with e | e
      · exact absurd hz (by rw [e]; exact nx)
      · exact e
    · rcases List.mem_cons.mp ((h z).mpr (List.mem_cons_of_mem _ hz)) with e | e
      · exact absurd hz (by rw [e]; exact ny)
      · exact e
end DL
/-! ### DL23: two for, nothing changed -/
namespace DL
open PySem PySem.Spec PyProof.Rows
theorem lc2_in {p : Addr} {i1 : Nat} {te : DTE} {env : Env} {N : M → Prop} {m : M} {G : D → D} : ∀ (es acc : List D), acc.length + es.length < sizeLine →
    (∀ e ∈ es, ∀ (acc : List D) (R : DK), R (G e) (updM m p (.lst acc)) → te (env.set i1 (some e)) (updM m p (.lst acc)) R) → N (updM m p (.lst (acc ++ es.map G))) → lcD p (.one i1) tYe te env N es (updM m p (.lst acc))
  | [], acc, _, _, h => by
    rw [List.map_nil, List.append_nil] at h
    exact h
  | e :: es, acc, hl, step, h => by
    simp only [lcD, tgD, gN, tYe, if_true]
    refine step e List.mem_cons_self acc _ ⟨acc, updM_same, by rw [List.length_cons] at hl; omega, ?_⟩
    rw [updM_over]
    refine lc2_in es (acc ++ [G e]) (by rw [List.length_append, List.length_singleton]; rw [List.length_cons] at hl; omega) (fun e' he => step e' (List.mem_cons_of_mem _ he)) ?_
    rw [List.append_assoc]
    exact h
theorem lc2_out {p : Addr} {i i1 : Nat} {ti1 : DTI} {te : DTE} {vs1 : List Nat} {env : Env} {N : M → Prop} {m : M} {F : D → D → D} {es : D → List D} : ∀ (ds acc : List D), acc.length + (ds.flatMap fun d => (es d).map (F d)).length < sizeLine →
    (∀ d ∈ ds, ∀ (acc : List D) (R : List D → M → Prop), R (es d) (updM m p (.lst acc)) → ti1 (env.set i (some d)) (updM m p (.lst acc)) R) →
    (∀ d ∈ ds, ∀ e ∈ es d, ∀ (acc : List D) (R : DK), R (F d e) (updM m p (.lst acc)) → te ((wipeD (env.set i (some d)) vs1).set i1 (some e)) (updM m p (.lst acc)) R) →
    N (updM m p (.lst (acc ++ ds.flatMap fun d => (es d).map (F d)))) → lcD2 p (.one i) tYe ti1 (.one i1) tYe te vs1 env N ds (updM m p (.lst acc))
  | [], acc, _, _, _, h => by
    rw [List.flatMap_nil, List.append_nil] at h
    exact h
  | d :: ds, acc, hl, hin, step, h => by
    rw [List.flatMap_cons, List.length_append, List.length_map] at hl
    simp only [lcD2, tgD, gN, tYe, if_true]
    refine hin d List.mem_cons_self acc _ ?_
    refine lc2_in (G := F d) (es d) acc (by omega) (fun e he acc R q => step d List.mem_cons_self e he acc R q) ?_
    refine lc2_out ds (acc ++ (es d).map (F d)) (by rw [List.length_append, List.length_map]; omega) (fun d' hd => hin d' (List.mem_cons_of_mem _ hd)) (fun d' hd => step d' (List.mem_cons_of_mem _ hd)) ?_
    rw [List.append_assoc]
    rw [List.flatMap_cons] at h
    exact h
theorem lc2_pure {ti ti1 : DTI} {i i1 : Nat} {te : DTE} {vs vs1 : List Nat} {env : Env} {m : M} {Q : DK} {ds : List D} (F : D → D → D) (es : D → List D) (hi : ∀ R : List D → M → Prop, R ds m → ti env m R) (hl : (ds.flatMap fun d => (es d).map (F d)).length < sizeLine)
    (hin : ∀ d ∈ ds, ∀ (m1 : M) (R : List D → M → Prop), (∃ p acc, m p = none ∧ m1 = updM m p (.lst acc)) → R (es d) m1 → ti1 ((wipeD env vs).set i (some d)) m1 R)
    (step : ∀ d ∈ ds, ∀ e ∈ es d, ∀ (m1 : M) (R : DK), (∃ p acc, m p = none ∧ m1 = updM m p (.lst acc)) → R (F d e) m1 → te ((wipeD ((wipeD env vs).set i (some d)) vs1).set i1 (some e)) m1 R)
    (hQ : Q (.lst (ds.flatMap fun d => (es d).map (F d))) m) : tFrz (tLcM2 ti (.one i) tYe ti1 (.one i1) tYe te vs vs1) env m Q := by
  refine hi _ fun p hp => ?_
  refine lc2_out ds [] (by simpa using hl) (fun d hd acc R q => hin d hd _ R ⟨p, acc, hp, rfl⟩ q) (fun d hd e he acc R q => step d hd e he _ R ⟨p, acc, hp, rfl⟩ q) ?_
  refine ⟨_, updM_same, ?_⟩
  rw [delM_upd hp, List.nil_append]
  exact hQ
end DL
/-! ### DL24: the greater of two numbers; a method's call with a starred argument -/
namespace DL
open PySem PySem.Spec PyProof.Rows L2
def dMax2 (m : M) : List D → Option D
  | [x, y] => match look m x, look m y with
    | .int i, .int j => some (.int (if j > i then j else i))
    | _, _ => none
  | _ => none
def dMin2 (m : M) : List D → Option D
  | [x, y] => match look m x, look m y with
    | .int i, .int j => some (.int (if j < i then j else i))
    | _, _ => none
  | _ => none
section
variable {X : Cx}
theorem two_ints {m : M} {H : Hp} {ds : List D} {vs : List V} {f : Int → Int → Int} {d : D} {g : M → List D → Option D} (hg : ∀ ds d, g m ds = some d → ∃ x y i j, ds = [x, y] ∧ look m x = .int i ∧ look m y = .int j ∧ d = .int (f i j))
    (s : Sim X.K m H) (r : RepL X.K m H ds vs) (e : g m ds = some d) : ∃ i j, vs = [.int i, .int j] ∧ d = .int (f i j) := by
  obtain ⟨x, y, i, j, rfl, ex, ey, rfl⟩ := hg ds d e
  simp only [RepL] at r
  obtain ⟨v, r1, rfl, rv, u, r2, rfl, ru, rfl⟩ := r
  have c1 := cont_of s rv
  have c2 := cont_of s ru
  rw [ex] at c1; rw [ey] at c2
  exact ⟨i, j, by rw [cont_int c1, cont_int c2], rfl⟩
theorem dMax2_of {m : M} (ds : List D) (d : D) (e : dMax2 m ds = some d) : ∃ x y i j, ds = [x, y] ∧ look m x = .int i ∧ look m y = .int j ∧ d = .int (if j > i then j else i) := by
  unfold dMax2 at e
  split at e
  · rename_i x y
    split at e
    · rename_i i j h1 h2
      cases e
      exact ⟨x, y, i, j, rfl, h1, h2, rfl⟩
    · cases e
  · cases e
theorem dMin2_of {m : M} (ds : List D) (d : D) (e : dMin2 m ds = some d) : ∃ x y i j, ds = [x, y] ∧ look m x = .int i ∧ look m y = .int j ∧ d = .int (if j < i then j else i) := by
  unfold dMin2 at e
  split at e
  · rename_i x y
    split at e
    · rename_i i j h1 h2
      cases e
      exact ⟨x, y, i, j, rfl, h1, h2, rfl⟩
    · cases e
  · cases e
theorem dc_max2 (hc : X.calm = true) : DCall X (.builtin "max") dMax2 := callW (call_max2 hc) fun vs H Q ⟨ds, m, d, r, s, e, q⟩ => by
  obtain ⟨i, j, rfl, rfl⟩ := two_ints (f := fun i j => if j > i then j else i) dMax2_of s r e
  exact ⟨i, j, rfl, q _ _ Fr.refl s rep_int⟩
theorem dc_min2 (hc : X.calm = true) : DCall X (.builtin "min") dMin2 := callW (call_min2 hc) fun vs H Q ⟨ds, m, d, r, s, e, q⟩ => by
  obtain ⟨i, j, rfl, rfl⟩ := two_ints (f := fun i j => if j < i then j else i) dMin2_of s r e
  exact ⟨i, j, rfl, q _ _ Fr.refl s rep_int⟩
end
structure CalMB (X : Cx) (C : Addr) (m : Str) (k : Nat) (sp : DSp) : Prop where
  ex : ∃ g, BMeth X.K C m g ∧ FnG X.prog X.w X.K X.mg X.base CX0 k g (liftSp X.K sp)
theorem Lk.met {g a : Addr} {u : HO} (h : Lk (.met g a) u) : u = .met g a := by
  rcases h with h | ⟨_, _, h, _⟩ | ⟨_, _, h, _⟩
  · exact h
  · cases h
  · cases h
section
variable {X : Cx} {k : Nat} {m : Str} {o e : Expr} {apos pos sp_ : Pos}
theorem pe_methS1 {C g : Addr} {sp : Sp} {E : XK} {CX : CXT} {ta te : TE} (he : PE X o ta) (c : Cls X.K C) (b : BMeth X.K C m g) (F : FnG X.prog X.w X.K X.mg X.base CX k g sp) (hr : RoomG k X.A) (hx : Passes CX X E) (ha : PE X e te)
    (hbase : attributeBase o m X.env (eval o X.env) = eval o X.env := by rfl) :
    PE X (.Call (.Attribute o m apos) [.Starred e sp_] [] pos) (fun σ H Q => ta σ H fun x H1 => ∃ a dx fs, x = V.ref a ∧ H1 a = some (.ins C dx fs) ∧ fs.lookup m = Option.none ∧ ∀ q, H1 q = Option.none → te σ (upd H1 q (.met g a)) fun y H2 => ∃ b xs, y = V.ref b ∧ (SqT X.K H2 b xs ∨ SqL X.K H2 b xs) ∧ H2 q = some (.met g a) ∧ sp (V.ref a :: xs) H2 Q E) := by
  refine ⟨fun pins s σ H Q I h => ?_⟩
  refine starcall_of hbase (thn (he.run pins s σ H _ I h) fun u s1 hx1 => ?_)
  obtain ⟨x, H1, I1, rx, a, dx, fs, rfl, ea, l, q⟩ := hx1
  obtain rfl : u = Value.ref a := rx
  refine getbound_ok I1 ea c b l fun q1 s2 hq1 I2 => ?_
  refine PySem.W.ks_call (P := PySem.W.MethP X.K q1 g (.ref a)) rfl (PySem.W.keeps_M b.fi) (PySem.W.ks_lone ?_)
  refine thn (ha.run pins s2 σ _ _ I2 (q q1 hq1)) fun v s3 hx3 => ?_
  obtain ⟨y, H2, I3, ry, t, vs, rfl, ht, hm, hsp⟩ := hx3
  obtain rfl : v = Value.ref t := ry
  refine StX.star_any I3 ht fun us s4 I4 rv => ⟨met_P I4 hm, ?_⟩
  exact wpAny_call (PySem.W.method_call (met_P I4 hm).1 (run_fnC (us := Value.ref a :: us) (vs := V.ref a :: vs) F hr hx I4 (.cons rfl rv) hsp))
theorem de_methS1 {C : Addr} {sp : DSp} {ta te : DTE} (c : CalMB X C m k sp) (hc : Cls X.K C) (hr : RoomG k X.A) (ho : DE X o ta) (ha : DE X e te)
    (hbase : attributeBase o m X.env (eval o X.env) = eval o X.env := by rfl) :
    DE X (.Call (.Attribute o m apos) [.Starred e sp_] [] pos) (tMt C m sp ta (tAS te tA0)) := by
  obtain ⟨f, hm, F⟩ := c.ex
  refine ⟨PE.weak (pe_methS1 ho.run hc hm F hr pass0 ha.run hbase) fun σ H Q h => ?_⟩
  obtain ⟨env, mm, R, eo, s, h, k⟩ := h
  refine ⟨env, mm, _, eo, s, h, fun d m1 v H1 h1 f1 s1 r1 => ?_⟩
  obtain ⟨ns, vs, e1, hn, h1⟩ := h1
  have cc := cont_of s1 r1
  rw [e1] at cc
  obtain ⟨a, dx, fs, rfl, h2, rfl, r2⟩ := cc
  refine ⟨a, dx, fs, rfl, h2, lookup_none hn, fun q hq => ?_⟩
  have f0 := Fr.laid (o := .met f a) s1 hq
  refine ⟨env, m1, _, (eo.mono f1).mono f0, s1.laid hq, h1, fun d2 m2 w H2 h3 f2 s2 r3 => ?_⟩
  obtain ⟨xs, e2, h3⟩ := h3
  obtain ⟨b, ws, rfl, hq2, rx⟩ := star_items (cont_of s2 r3) e2
  have h3 : sp (d :: (xs ++ [])) m2 R := h3
  rw [List.append_nil] at h3
  have hm2 : H2 q = some (.met f a) := by
    obtain ⟨_, u', e3, e4⟩ := f2 q _ (s1.free hq) upd_same
    rw [e3, e4.met]
  exact ⟨b, ws, rfl, hq2, hm2, d :: xs, m2, R, .cons (Rep.mono (f0.trans f2) _ _ r1) rx, s2, h3, fun d' m' v H' a1 a2 a3 a4 => k d' m' v H' a1 (((f1.trans f0).trans f2).trans a2) a3 a4⟩
end
section
variable (P : Program) (w : World) (K : PySem.W.Frag) (mg : Str → Option Value) (base : Heap)
def CalMBW (C : Addr) (m : Str) (k : Nat) (sp : DSp) : Prop := ∃ g, BMeth K C m g ∧ FnG P w K mg base CX0 k g (liftSp K sp)
end
end DL
/-! ### DL25: ==, != and len by an own class's methods -/
namespace DLn
open PySem PySem.Spec PyProof.Rows PySem.SeqAt
section
variable {M : Model} {prog : Program} {w : World} {A : Around} {E : Value → Shared → Prop} {s : Shared} {K : PySem.W.Frag} {x C f : Addr} {ox : Obj} {od : Option Obj} {b tb : Value}
theorem entry_ne {Q : Fin → Shared → Prop} (hu : A.units < cLine) (X : K.In s.heap) (I : PySem.W.InstAt s.heap x ox C od) (hs : PySem.W.findIn K (.ref C) "__eq__" = some (some (.ref f))) (hf : PySem.W.isFn K (.ref f) = true)
    (h : wpAny (model prog w) A (call (.ref f) [.ref x, b]) (fun v s' => ∃ r, v = .bool r ∧ Q (.done (.ret (.bool (!r)))) s') E s) : wpAny (model prog w) A (Builtin.«object.__ne__» ⟨[.ref x, b], []⟩) Q E s := by
  unfold Builtin.«object.__ne__»
  repeat (first
    | with_reducible refine wpAny_cRoomFor hu ?_
    | (refine wpAny_bind (m := callSpecialIfBound? (.ref x) (Str.ofString "__eq__") [b])
        (PySem.W.ifBound_K X I hs hf (wpAny_mono h (fun r s' hr => by
          obtain ⟨b, rfl, hq⟩ := hr
          repeat (first | exact hq | exact wpAny_pure hq | exact wpAny_truthy_bool hq | (refine wpAny_bind (m := truthy (.bool _)) (wpAny_truthy_bool ?_)) | wp_step)) fun _ _ e => e)))
    | wp_step)
theorem call_objNe {Q : Value → Shared → Prop} (hu : A.units + 1 < cLine) (X : K.In s.heap) (I : PySem.W.InstAt s.heap x ox C od) (hm : PySem.W.mroIn K C (.type "object") = some true) (hs : PySem.W.findIn K (.ref C) "__eq__" = some (some (.ref f))) (hf : PySem.W.isFn K (.ref f) = true)
    (h : wpAny (model prog w) A.in1 (call (.ref f) [.ref x, b]) (fun v s' => ∃ r, v = .bool r ∧ Q (.bool (!r)) s') E s) : wpAny (model prog w) A (call (.builtin "object.__ne__") [.ref x, b]) Q E s :=
  wpAny_call (codeAny_call_builtin F.cmp_object.ne.plain F.cmpEntry_ne (PySem.W.check_slot F.cmpKind_ne F.cmpSplit_ne (I.type.andThen (PySem.W.looks_mroIn X hm)) (F.cmpArgs_ne _ _)
    (entry_ne (A := A.in1) hu X I hs hf (wpAny_mono h (fun v s' hv => by obtain ⟨r, rfl, q⟩ := hv; exact ⟨r, rfl, q⟩) fun _ _ e => e))))
theorem ifBound_objNe {args : List Value} {Q : Option Value → Shared → Prop} (X : K.In s.heap) (I : PySem.W.InstAt s.heap x ox C od) (hs : PySem.W.findIn K (.ref C) "__ne__" = some (some (.builtin "object.__ne__")))
    (h : wpAny M A (call (.builtin "object.__ne__") (.ref x :: args)) (fun v => Q (some v)) E s) : wpAny M A (callSpecialIfBound? (.ref x) "__ne__" args) Q E s := by
  simp only [callSpecialIfBound?, bindSpecialIfBound?]
  refine wpAny_holding (wpAny_bind (wpAny_bind (wpAny_bind (I.type.here ((PySem.W.looks_findIn X hs).here ?_)))))
  refine wpAny_bind (wpAny_askSetting (wpAny_ite ?_))
  have fin : wpAny M A (call (.builtin "object.__ne__") ([.ref x] ++ args) >>= fun v => pure (some v)) Q E s := wpAny_bind (wpAny_mono h (fun v s' h' => wpAny_pure h') fun _ _ h' => h')
  split
  · exact wpAny_bind (wpAny_of_eq (F.cmp_object.ne.bind _) (wpAny_pure (by exact fin)))
  · exact wpAny_tryCatch (wpAny_bind (wpAny_of_eq (F.cmp_object.ne.bind _) (wpAny_pure (by exact fin))))
theorem cmp_ne {Q : Value → Shared → Prop} (hu : A.units + 1 < cLine) (X : K.In s.heap) (I : PySem.W.InstAt s.heap x ox C od) (hb : PySem.W.Looks (model prog w) s.heap (typeOf b) tb) (hn : PySem.W.notFirst K C tb = true)
    (hm : PySem.W.mroIn K C (.type "object") = some true) (hne : PySem.W.findIn K (.ref C) "__ne__" = some (some (.builtin "object.__ne__"))) (hs : PySem.W.findIn K (.ref C) "__eq__" = some (some (.ref f))) (hf : PySem.W.isFn K (.ref f) = true)
    (h : wpAny (model prog w) A.in1 (call (.ref f) [.ref x, b]) (fun v s' => ∃ r, v = .bool r ∧ Q (.bool (!r)) s') E s) : wpAny (model prog w) A (richCompare .NotEq (.ref x) b) Q E s := by
  have one : wpAny (model prog w) A (tryCompare (.ref x) "__ne__" b) (fun r s' => ∃ v, r = some v ∧ Q v s') E s := by
    unfold tryCompare
    refine wpAny_bind (ifBound_objNe X I hne (call_objNe hu X I hm hs hf (wpAny_mono h (fun v s' hv => ?_) fun _ _ e => e)))
    obtain ⟨r, rfl, q⟩ := hv
    exact ⟨r, rfl, wpAny_pure ⟨_, rfl, q⟩⟩
  unfold richCompare
  rw [cmpInfo_NotEq]
  simp only [oneThing_ref]
  refine wpAny_holding (wpAny_bind (wpAny_cRoomFor (by omega) ?_))
  refine wpAny_bind (I.type.here (wpAny_bind (hb.here ?_)))
  split
  · rename_i q
    have e : PySem.W.subIn K tb (.ref C) = some false := by
      rcases Bool.or_eq_true_iff.mp hn with e | e
      · rw [beq_iff_eq.mp e] at q; simp at q
      · exact beq_iff_eq.mp e
    refine wpAny_bind ((PySem.W.looks_subIn X e).here ?_)
    simp only [Bool.false_eq_true, if_false]
    refine wpAny_bind (wpAny_mono one (fun r s' z => ?_) fun _ _ e => e)
    obtain ⟨v, rfl, hq⟩ := z
    exact wpAny_pure hq
  · refine wpAny_bind (wpAny_pure ?_)
    simp only [Bool.false_eq_true, if_false]
    refine wpAny_bind (wpAny_mono one (fun r s' z => ?_) fun _ _ e => e)
    obtain ⟨v, rfl, hq⟩ := z
    exact wpAny_pure hq
end
end DLn
namespace DL
open PySem PySem.Spec PyProof.Rows L2
theorem RoomG.in1 {k : Nat} {A : Around} (r : RoomG (k + 1) A) : RoomG k A.in1 := ⟨r.r.in1, r.g⟩
/-- a call somewhere below the running body -/
theorem run_fnA {X : Cx} {A : Around} {k : Nat} {pins : List (Addr × Obj)} {σ : L2.St} {H : Hp} {s : Shared} {CX : CXT} {f : Addr} {sp : Sp} {E : XK} {Q : VK} {us : List Value} {vs : List V} (fr : A.frames = X.A.frames) (F : FnG X.prog X.w X.K X.mg X.base CX k f sp) (hr : RoomG k A) (hx : Passes CX X E) (I : Inv X pins σ H s) (r : Vals vs us)
    (q : sp vs H Q E) : wpAny (model X.prog X.w) A (call (.ref f) us) (EP X pins σ Q) X.xe s := by
  have e := I.env0
  have e0 : Env0 X.prog X.w X.K X.mg X.base A X.stack s H := ⟨by rw [fr]; exact e.frames, e.mod, e.bs, e.bsz, e.funs, e.frf, e.hok, e.bare⟩
  exact wpAny_call (codeAny_mono (F A X.stack s H us vs Q E hr e0 r q) fun res s' h => match res, h with
    | .error e, h => hx pins σ H s e s' I h
    | .ok (.ret u), h => I.after h
    | .ok .next, h => h.elim
    | .ok .brk, h => h.elim
    | .ok .cont, h => h.elim)
/-- built-in values on the right side do not answer ahead of an instance of C -/
def NF (K : PySem.W.Frag) (C : Addr) : Prop := ∀ T ∈ ["NoneType", "bool", "int", "str", "tuple", "list", "dict"], PySem.W.subIn K (.type T) (.ref C) = some false
theorem tyD_mem {d : D} {T : String} (h : tyD d = some (.inl T)) : T ∈ ["NoneType", "bool", "int", "str", "tuple", "list", "dict"] := by
  unfold tyD at h
  split at h <;> first | (cases h; simp) | cases h
def rightOk (C : Addr) (d : D) : Prop := ∃ t, tyD d = some t ∧ ∀ C', t = .inr C' → C' = C
theorem right_looks {X : Cx} {pins : List (Addr × Obj)} {σ : L2.St} {H : Hp} {s : Shared} {m : M} {C : Addr} {d : D} {v : V} {u : Value} (I : Inv X pins σ H s) (nf : NF X.K C) (c : Cont X.K m H d v) (r : RelV v u) (h : rightOk C d) :
    ∃ tb, PySem.W.Looks (model X.prog X.w) s.heap (typeOf u) tb ∧ PySem.W.notFirst X.K C tb = true := by
  obtain ⟨t, ht, hc⟩ := h
  cases t with
  | inl T =>
    have ty := cont_ty c ht (fun C' e => by cases e)
    obtain ⟨P, Z, hp, _⟩ := kit_of I r ty
    refine ⟨_, Z.ty _ _ I.kIn hp, ?_⟩
    unfold PySem.W.notFirst
    rw [Bool.or_eq_true]
    right
    have e : PySem.W.subIn X.K (valT (.inl T)) (.ref C) = some false := nf T (tyD_mem ht)
    rw [e]; rfl
  | inr C' =>
    obtain rfl := hc C' rfl
    unfold tyD at ht
    split at ht <;> (try cases ht)
    obtain ⟨a, dx, fs, rfl, h, _⟩ := c
    cases r
    obtain ⟨mA, J, _⟩ := ins_get I.hok h
    obtain ⟨od, J, _⟩ := J.look
    exact ⟨_, J.type, by simp [PySem.W.notFirst]⟩
/-- what an own comparison's def is asked -/
def rOwn (K : PySem.W.Frag) (C : Addr) (sp : DSp) (g : Bool → Bool) : R2 := fun v u H Q => ∃ x y m, Rep K m H x v ∧ Rep K m H y u ∧ Sim K m H ∧ (∃ ns vs, look m x = .ins C ns vs) ∧ rightOk C (look m y) ∧
  liftSp K sp [v, u] H (fun w H' => ∃ b, w = .bl b ∧ Q (.bl (g b)) H') E0
section
variable {X : Cx} {C : Addr} {k : Nat} {sp : DSp}
theorem op_ownEq (c : CalM X C "__eq__" k sp) (nf : NF X.K C) (hr : RoomG k X.A) : OpR X (compareOp .Eq) (rOwn X.K C sp id) := by
  intro pins s σ H v u a b Q I rv ru ⟨x, y, m, rx, ry, sm, ⟨ns, vs, ex⟩, rt, hsp⟩
  obtain ⟨f, hm, F⟩ := c.ex
  have cx := cont_of sm rx
  rw [ex] at cx
  obtain ⟨p, dx, fs, rfl, hp, _, _⟩ := cx
  cases rv
  obtain ⟨mA, J, _⟩ := ins_get I.hok hp
  obtain ⟨od, J, _⟩ := J.look
  obtain ⟨m0, hF⟩ := I.fr
  obtain ⟨tb, hb, hn⟩ := right_looks I nf (cont_of sm ry) ru rt
  show wpAny (model X.prog X.w) X.A (richCompare .Eq (.ref p) b) (EP X pins σ Q) X.xe s
  refine PySem.W.cmp_K (op := .Eq) (tb := tb) hr.r.units0 hF I.ok.mod.kin J hb hn hm.at_ hm.fn ?_
  refine wpAny_mono (run_fnA (us := [Value.ref p, b]) (vs := [V.ref p, u]) rfl F hr pass0 I (.cons rfl (.cons ru .nil)) hsp) (fun r s' hq => ?_) fun _ _ x => x
  obtain ⟨w, H', I', rw', b, rfl, q⟩ := hq
  cases rw'
  exact ⟨.bl b, H', I', rfl, q⟩
theorem op_ownNe (c : CalM X C "__eq__" k sp) (nf : NF X.K C) (hm0 : PySem.W.mroIn X.K C (.type "object") = some true) (hne : PySem.W.findIn X.K (.ref C) "__ne__" = some (some (.builtin "object.__ne__"))) (hr : RoomG (k + 1) X.A) : OpR X (compareOp .NotEq) (rOwn X.K C sp not) := by
  intro pins s σ H v u a b Q I rv ru ⟨x, y, m, rx, ry, sm, ⟨ns, vs, ex⟩, rt, hsp⟩
  obtain ⟨f, hm, F⟩ := c.ex
  have cx := cont_of sm rx
  rw [ex] at cx
  obtain ⟨p, dx, fs, rfl, hp, _, _⟩ := cx
  cases rv
  obtain ⟨mA, J, _⟩ := ins_get I.hok hp
  obtain ⟨od, J, _⟩ := J.look
  obtain ⟨tb, hb, hn⟩ := right_looks I nf (cont_of sm ry) ru rt
  show wpAny (model X.prog X.w) X.A (richCompare .NotEq (.ref p) b) (EP X pins σ Q) X.xe s
  refine DLn.cmp_ne (tb := tb) (by have := hr.r.un; omega) I.kIn J hb hn hm0 hne hm.at_ hm.fn ?_
  refine wpAny_mono (run_fnA (A := X.A.in1) (us := [Value.ref p, b]) (vs := [V.ref p, u]) rfl F hr.in1 pass0 I (.cons rfl (.cons ru .nil)) hsp) (fun r s' hq => ?_) fun _ _ x => x
  obtain ⟨w, H', I', rw', b, rfl, q⟩ := hq
  cases rw'
  exact ⟨b, rfl, .bl (!b), H', I', rfl, q⟩
/-- x == y, x != y by C's __eq__ -/
def tOwn (C : Addr) (sp : DSp) (g : Bool → Bool) (ta tb : DTE) : DTE := fun env m Q => ta env m fun x m1 => tb env m1 fun y m2 => (∃ ns vs, look m2 x = .ins C ns vs) ∧ rightOk C (look m2 y) ∧ sp [x, y] m2 fun d m3 => ∃ b, d = .bl b ∧ Q (.bl (g b)) m3
def tOwnT (C : Addr) (sp : DSp) (g : Bool → Bool) (ta tb : DTE) : DTT := fun env m Q => ta env m fun x m1 => tb env m1 fun y m2 => (∃ ns vs, look m2 x = .ins C ns vs) ∧ rightOk C (look m2 y) ∧ sp [x, y] m2 fun d m3 => ∃ b, d = .bl b ∧ Q (g b) m3
variable {a b : Expr} {ta tb : DTE} {pos : Pos}
theorem own_lift {g : Bool → Bool} {σ : L2.St} {H : Hp} {Q : VK} (h : liftE X.K (tOwn C sp g ta tb) σ H Q) : tOp (rOwn X.K C sp g) (liftE X.K ta) (liftE X.K tb) σ H Q := by
  obtain ⟨env, m, R, eo, s, h, k⟩ := h
  refine ⟨env, m, _, eo, s, h, fun x m1 v H1 h1 f1 s1 r1 => ?_⟩
  refine ⟨env, m1, _, eo.mono f1, s1, h1, fun y m2 u H2 h2 f2 s2 r2 => ?_⟩
  obtain ⟨e1, e2, h2⟩ := h2
  refine ⟨x, y, m2, Rep.mono f2 _ _ r1, r2, s2, e1, e2, [x, y], m2, _, .cons (Rep.mono f2 _ _ r1) (.cons r2 .nil), s2, h2, fun d m3 w H3 h3 f3 s3 r3 => ?_⟩
  obtain ⟨b, rfl, h3⟩ := h3
  exact ⟨b, by simpa only [Rep] using r3, k _ m3 _ H3 h3 ((f1.trans f2).trans f3) s3 rep_bl⟩
theorem ownT_lift {g : Bool → Bool} {σ : L2.St} {H : Hp} {Q : Bool → Hp → Prop} (h : liftT X.K (tOwnT C sp g ta tb) σ H Q) : tOp (rOwn X.K C sp g) (liftE X.K ta) (liftE X.K tb) σ H (fun w H' => ∃ k, w = .bl k ∧ Q k H') := by
  obtain ⟨env, m, R, eo, s, h, k⟩ := h
  refine ⟨env, m, _, eo, s, h, fun x m1 v H1 h1 f1 s1 r1 => ?_⟩
  refine ⟨env, m1, _, eo.mono f1, s1, h1, fun y m2 u H2 h2 f2 s2 r2 => ?_⟩
  obtain ⟨e1, e2, h2⟩ := h2
  refine ⟨x, y, m2, Rep.mono f2 _ _ r1, r2, s2, e1, e2, [x, y], m2, _, .cons (Rep.mono f2 _ _ r1) (.cons r2 .nil), s2, h2, fun d m3 w H3 h3 f3 s3 r3 => ?_⟩
  obtain ⟨b, rfl, h3⟩ := h3
  exact ⟨b, by simpa only [Rep] using r3, g b, rfl, k _ m3 H3 h3 ((f1.trans f2).trans f3) s3⟩
theorem de_ownEq (c : CalM X C "__eq__" k sp) (nf : NF X.K C) (hr : RoomG k X.A) (ha : DE X a ta) (hb : DE X b tb) (hm : behindInMarks .Eq b = false := by first | exact nomark _ | rfl) : DE X (.Compare a [.Eq] [b] pos) (tOwn C sp id ta tb) :=
  ⟨PE.weak (pe_cmpR (op_ownEq c nf hr) ha.run hb.run hm) fun _ _ _ h => own_lift h⟩
theorem dt_ownEq (c : CalM X C "__eq__" k sp) (nf : NF X.K C) (hr : RoomG k X.A) (ha : DE X a ta) (hb : DE X b tb) (hm : behindInMarks .Eq b = false := by first | exact nomark _ | rfl) : DT X (.Compare a [.Eq] [b] pos) (tOwnT C sp id ta tb) :=
  ⟨PT.weak (pt_cmpR (op_ownEq c nf hr) ha.run hb.run hm) fun _ _ _ h => ownT_lift h⟩
theorem de_ownNe (c : CalM X C "__eq__" k sp) (nf : NF X.K C) (hm0 : PySem.W.mroIn X.K C (.type "object") = some true) (hne : PySem.W.findIn X.K (.ref C) "__ne__" = some (some (.builtin "object.__ne__"))) (hr : RoomG (k + 1) X.A) (ha : DE X a ta) (hb : DE X b tb) (hm : behindInMarks .NotEq b = false := by first | exact nomark _ | rfl) : DE X (.Compare a [.NotEq] [b] pos) (tOwn C sp not ta tb) :=
  ⟨PE.weak (pe_cmpR (op_ownNe c nf hm0 hne hr) ha.run hb.run hm) fun _ _ _ h => own_lift h⟩
theorem dt_ownNe (c : CalM X C "__eq__" k sp) (nf : NF X.K C) (hm0 : PySem.W.mroIn X.K C (.type "object") = some true) (hne : PySem.W.findIn X.K (.ref C) "__ne__" = some (some (.builtin "object.__ne__"))) (hr : RoomG (k + 1) X.A) (ha : DE X a ta) (hb : DE X b tb) (hm : behindInMarks .NotEq b = false := by first | exact nomark _ | rfl) : DT X (.Compare a [.NotEq] [b] pos) (tOwnT C sp not ta tb) :=
  ⟨PT.weak (pt_cmpR (op_ownNe c nf hm0 hne hr) ha.run hb.run hm) fun _ _ _ h => ownT_lift h⟩
/-! len -/
theorem call_lenO (c : CalM X C "__len__" k sp) (hr : RoomG (k + 1) X.A) : CallR X (.builtin "len") (fun xs H Q => ∃ x m, (∃ v, xs = [v] ∧ Rep X.K m H x v) ∧ Sim X.K m H ∧ (∃ ns vs, look m x = .ins C ns vs) ∧ liftSp X.K sp xs H (fun w H' => ∃ n : Int, w = .int n ∧ 0 ≤ n ∧ n < 2 ^ 63 ∧ Q (.int n) H') E0) := by
  rintro pins s σ H xs us Q I r ⟨x, m, ⟨v, rfl, rx⟩, sm, ⟨ns, vs, ex⟩, hsp⟩
  obtain ⟨u, rfl, ru⟩ := vals1 r
  obtain ⟨f, hm, F⟩ := c.ex
  have cx := cont_of sm rx
  rw [ex] at cx
  obtain ⟨p, dx, fs, rfl, hp, _, _⟩ := cx
  cases ru
  obtain ⟨mA, J, _⟩ := ins_get I.hok hp
  obtain ⟨od, J, _⟩ := J.look
  obtain ⟨m0, hF⟩ := I.fr
  refine PySem.W.len_K hF I.ok.mod.kin J hm.at_ hm.fn ?_
  refine wpAny_mono (run_fnA (A := X.A.in1) (us := [Value.ref p]) (vs := [V.ref p]) rfl F hr.in1 pass0 I (.cons rfl .nil) hsp) (fun r s' hq => ?_) fun _ _ x => x
  obtain ⟨w, H', I', rw', n, rfl, h0, h1, q⟩ := hq
  obtain ⟨t, rfl⟩ := rw'
  exact ⟨⟨h0, h1⟩, .int n, H', I'.tok _, ⟨_, rfl⟩, q⟩
def tLenO (C : Addr) (sp : DSp) (te : DTE) : DTE := fun env m Q => te env m fun x m1 => (∃ ns vs, look m1 x = .ins C ns vs) ∧ sp [x] m1 fun d m2 => ∃ n : Int, d = .int n ∧ 0 ≤ n ∧ n < 2 ^ 63 ∧ Q (.int n) m2
theorem de_lenO {e : Expr} {te : DTE} {p : Pos} (c : CalM X C "__len__" k sp) (hr : RoomG (k + 1) X.A) (hm : X.mg "len" = none) (he : DE X e te) (hg : Gl X "len" := by rfl) (hs : starEach [e] X.env = (false, eval e X.env) :: starEach [] X.env := by rfl) (hpl : (backTo pos (starEach [] X.env)).any (·.1) = false := by rfl) :
    DE X (.Call (.Name "len" p) [e] [] pos) (tLenO C sp te) :=
  ⟨PE.weak (pe_callB (call_lenO c hr) hg hm (by decide +kernel) (pa_cons he.run pa_nil hs) (by decide) (by decide) hs hpl) fun σ H Q h => by
    obtain ⟨env, m, R, eo, s, h, kq⟩ := h
    refine ⟨env, m, _, eo, s, h, fun x m1 v H1 h1 f1 s1 r1 => ?_⟩
    obtain ⟨e1, h1⟩ := h1
    refine ⟨x, m1, ⟨v, rfl, r1⟩, s1, e1, [x], m1, _, .cons r1 .nil, s1, h1, fun d m2 w H2 h2 f2 s2 r2 => ?_⟩
    obtain ⟨n, rfl, b0, b1, h2⟩ := h2
    exact ⟨n, by simpa only [Rep] using r2, b0, b1, kq _ m2 _ H2 h2 (f1.trans f2) s2 rep_int⟩⟩
end
end DL
/-! ### DL26: isinstance of own classes, defs called by names, sorted pairs of ints -/
namespace DL
open PySem PySem.Spec PyProof.Rows L2
/-- built-in types, and a table for own classes -/
def JO (tab : List (Ty × Ty × Bool)) : Ty → Ty → Option Bool
  | .inl a, .inl b => kitB a b
  | t, u => (tab.find? fun e => decide (e.1 = t) && decide (e.2.1 = u)).map (·.2.2)
theorem jo_ok {K : PySem.W.Frag} {tab : List (Ty × Ty × Bool)} (h : ∀ e ∈ tab, PySem.W.kitOne K (valT e.1) (valT e.2.1) = some e.2.2 ∧ ∀ C, e.1 = .inr C → InsT K C) : JOk K (JO tab) := fun t u b e => by
  have main : ∀ (t u : Ty), (tab.find? fun e => decide (e.1 = t) && decide (e.2.1 = u)).map (·.2.2) = some b → PySem.W.kitOne K (valT t) (valT u) = some b ∧ ∀ C, t = .inr C → InsT K C := fun t u e => by
    obtain ⟨x, hx, rfl⟩ := Option.map_eq_some_iff.mp e
    have h1 := List.find?_some hx
    rw [Bool.and_eq_true, decide_eq_true_eq, decide_eq_true_eq] at h1
    obtain ⟨rfl, rfl⟩ := h1
    exact h x (List.mem_of_find?_eq_some hx)
  unfold JO at e
  split at e
  · exact jb_ok _ _ b e
  · exact main _ _ e
theorem kit_self {K : PySem.W.Frag} {t : Value} : PySem.W.kitOne K t t = some true := by unfold PySem.W.kitOne; rw [if_pos (by simp)]
theorem kit_own {K : PySem.W.Frag} {t : Value} {C : Addr} {b : Bool} (hne : (t == .ref C) = false) (h1 : PySem.W.isClsIn K C = true) (h2 : PySem.W.typeIn K (.ref C) = some (.type "type")) (h3 : PySem.W.subIn K t (.ref C) = some b) : PySem.W.kitOne K t (.ref C) = some b := by
  unfold PySem.W.kitOne
  rw [if_neg (by rw [hne]; decide)]
  have h1 : (PySem.W.clsIn K C).isSome = true := h1
  show (if ((PySem.W.clsIn K C).isSome && PySem.W.typeIn K (.ref C) == some (.type "type")) = true then PySem.W.subIn K t (.ref C) else none) = _
  rw [if_pos (by rw [h1, h2]; simp), h3]
theorem kit_bty {K : PySem.W.Frag} {t : Value} {T : String} {b : Bool} (hne : (t == .type T) = false) (h1 : PySem.W.kitMeta T = true) (h3 : PySem.W.subIn K t (.type T) = some b) : PySem.W.kitOne K t (.type T) = some b := by
  unfold PySem.W.kitOne
  rw [if_neg (by rw [hne]; decide)]
  show (if PySem.W.kitMeta T = true then PySem.W.subIn K t (.type T) else none) = _
  rw [if_pos h1, h3]
/-- isinstance(x, c), c written as it is -/
def dIsiO (J : Ty → Ty → Option Bool) (m : M) : List D → Option D
  | [x, c] => match tyD (look m x), clD c with
    | some t, some u => (J t u).map .bl
    | _, _ => none
  | _ => none
theorem dc_isiO {X : Cx} {J : Ty → Ty → Option Bool} (hJ : JOk X.K J) : DCall X (.builtin "isinstance") (dIsiO J) := callW call_isi fun vs H Q ⟨ds, m, d, r, s, e, q⟩ => by
  unfold dIsiO at e
  split at e
  · rename_i x c
    simp only [RepL] at r
    obtain ⟨v1, r', rfl, h1, v2, r2, rfl, h2, rfl⟩ := r
    split at e
    · rename_i t u e1 e2
      obtain ⟨b, eb, rfl⟩ := Option.map_eq_some_iff.mp e
      obtain ⟨k1, k2⟩ := hJ t u b eb
      have c1 := cont_ty (cont_of s h1) e1 k2
      refine ⟨v1, v2, valT t, valT u, b, rfl, ?_, c1, k1, q _ _ Fr.refl s rep_bl⟩
      unfold clD at e2
      split at e2
      · cases e2
        simp only [Rep] at h2
        rw [h2]; exact .ty _
      · cases e2
        simp only [Rep] at h2
        rw [h2]; exact .own _
      · cases e2
    · cases e
  · cases e
section
variable {X : Cx} {k : Nat} {ks : List Str} {is : List Nat} {sp : DSp} {x : Str} {p pos : Pos} {kws : List Keyword} {t : DTA}
/-- f(x = .., ..) -/
def tClK (ks : List Str) (is : List Nat) (sp : DSp) (t : DTA) : DTE := fun env st Q => t env st fun ds m1 => ds.length = ks.length ∧ sp (permL is ds) m1 Q
theorem de_callK (c : CalFK X x k 0 ks is sp) (hr : RoomG k X.A) (ha : DK_ X kws t) (hg : Gl X x := by rfl) (hd : (x == ("__debug__" : Str)) = false := by decide) (hall : (backToKw pos (keywordEach kws X.env)).all (·.1.isSome) = true := by rfl) (hks : (backToKw pos (keywordEach kws X.env)).filterMap (·.1) = ks := by rfl)
    (hpl : ((backTo pos (starEach [] X.env)).any (·.1) || (backToKw pos (keywordEach kws X.env)).any (·.1.isNone)) = false := by rfl) :
    DE X (.Call (.Name x p) [] kws pos) (tClK ks is sp t) := by
  obtain ⟨f, hm, hk, F⟩ := c.ex
  refine ⟨⟨fun pins s σ H Q I h => ?_⟩⟩
  obtain ⟨env, mm, R, eo, sm, h, kq⟩ := h
  have h0 : liftA X.K t σ H (fun zs H2 => zs.length = ks.length ∧ liftSp X.K sp (permL is zs) H2 Q E0) := by
    refine ⟨env, mm, _, eo, sm, h, fun ds m2 ws H2 h3 f2 s2 r3 => ?_⟩
    obtain ⟨hl, h3⟩ := h3
    exact ⟨by rw [← r3.length]; exact hl, permL is ds, m2, R, permL_rep r3 is, s2, h3, fun d' m' v H' a1 a2 a3 a4 => kq d' m' v H' a1 (f2.trans a2) a3 a4⟩
  refine wpAny_Call_Name_kw (ld_glob I hg hm ?_ hd)
  refine PySem.W.callWith_KW0 (first := []) (h₀ := X.base) I.ok.mod.kin hk hall (thn (ha.run.run pos pins s σ H _ I h0) fun us s2 hx2 => ?_) hpl
  obtain ⟨zs, H2, I2, r, hl, q2⟩ := hx2
  rw [hks]
  exact ⟨I2.kIn, run_fnGK (us := []) (vs := []) F hr pass0 I2 .nil r rfl hl q2⟩
end
section
variable (P : Program) (w : World) (K : PySem.W.Frag) (mg : Str → Option Value) (base : Heap)
def CalFKW (x : Str) (k : Nat) (n : Nat) (ks : List Str) (is : List Nat) (sp : DSp) : Prop := ∃ f, mg x = some (.ref f) ∧ PySem.W.keepIn K (.ref f) = true ∧ FnGK P w K mg base CX0 k f n ks is (liftSp K sp)
end
/-! sorted of pairs of ints -/
def pairD (p : Int × Int) : D := .tup [.int p.1, .int p.2]
def rSortPD (K : PySem.W.Frag) : List V → Hp → VK → Prop := fun vs H Q => ∃ (a : Addr) (xs : List V) (k : V → Int × Int), vs = [V.ref a] ∧ SqL K H a xs ∧ (∀ x ∈ xs, ∃ t, x = V.ref t ∧ SqT K H t [.int (k x).1, .int (k x).2]) ∧
  ∀ ys p, SrtO.Srtd (ltP k) ys → SrtO.Stb (ltP k) ys xs → H p = none → Q (.ref p) (upd H p (.lst ys))
section
variable {X : Cx}
theorem cr_sortPD : CallR X (.builtin "sorted") (rSortPD X.K) := by
  intro pins s σ H vs us Q I r h
  obtain ⟨a, xs, k, rfl, hs, hx, q⟩ := h
  obtain ⟨its, rv, hl, hz⟩ := I.list hs
  obtain ⟨u, rfl, ru⟩ := vals1 r
  obtain rfl : u = Value.ref a := ru
  obtain ⟨e1, e2⟩ := refs_back rv fun x m => by
    obtain ⟨t, e, _⟩ := hx x m
    exact ⟨t, e⟩
  refine SrtO.sorted_pairsO (k := fun u => k (backV u)) hl.isList (by rw [← rv.length]; exact hz) (fun v hv => ?_) fun h' d out h1 h2 kp hd hn => ?_
  · obtain ⟨t, rfl⟩ := e2 v hv
    have hm : V.ref t ∈ xs := by rw [e1]; exact List.mem_map.mpr ⟨_, hv, rfl⟩
    obtain ⟨t', e, ht⟩ := hx _ hm
    cases e
    obtain ⟨its2, r2, ⟨o, ho, hc, n, hd⟩, _⟩ := I.tuple ht
    obtain ⟨u1, u2, rfl, ri, rj⟩ := vals2 r2
    obtain ⟨t1, rfl⟩ := ri
    obtain ⟨t2, rfl⟩ := rj
    exact ⟨t, o, t1, t2, n, rfl, ho, hc, hd⟩
  · have h3 : ∀ u ∈ out, ∃ a, u = Value.ref a := fun u hu => e2 u (h2.perm.mem_iff.mp hu)
    obtain ⟨n, hn⟩ := hn
    have hb : SrtO.Stb (ltP k) (out.map backV) xs := by
      rw [e1]
      exact SrtO.Stb.map (ltP_swo k) backV h2
    refine ⟨.ref d, upd H d (.lst (out.map backV)), I.laid (t' := s.toks) kp hd ⟨?_, out, n, vals_back h3, hn⟩, rfl, q _ d (SrtO.srtd_map h1) hb (I.hok.fresh hd)⟩
    rw [hb.len]
    rw [← hb.len, List.length_map, h2.len, ← rv.length]; exact hz
end
open Classical in
noncomputable def keyP (K : PySem.W.Frag) (m : M) (H : Hp) (x : V) : Int × Int := if h : ∃ p : Int × Int, Rep K m H (pairD p) x then h.choose else (0, 0)
theorem keyP_rep {K : PySem.W.Frag} {m : M} {H : Hp} {x : V} {p : Int × Int} (h : Rep K m H (pairD p) x) : Rep K m H (pairD (keyP K m H x)) x := by
  unfold keyP
  have e : ∃ p : Int × Int, Rep K m H (pairD p) x := ⟨p, h⟩
  rw [dif_pos e]
  exact e.choose_spec
theorem rep_pair {K : PySem.W.Frag} {m : M} {H : Hp} {x : V} {p : Int × Int} (h : Rep K m H (pairD p) x) : ∃ t, x = .ref t ∧ TupAt K m H t [.int p.1, .int p.2] := by
  unfold pairD at h
  simp only [Rep, RepL] at h
  obtain ⟨a, vs, rfl, h1, v, r, rfl, rfl, v2, r2, rfl, rfl, rfl⟩ := h
  exact ⟨a, rfl, h1⟩
theorem pair_of {K : PySem.W.Frag} {m : M} {H : Hp} {x : V} {t : Addr} {i j : Int} (h : TupAt K m H t [.int i, .int j]) : Rep K m H (pairD (i, j)) (.ref t) := by
  unfold pairD
  simp only [Rep]
  exact ⟨t, _, rfl, h, .cons rep_int (.cons rep_int .nil)⟩
theorem pair_uniq {X : Cx} {pins : List (Addr × Obj)} {σ : L2.St} {H : Hp} {s : Shared} {m : M} (I : Inv X pins σ H s) {x : V} {p q : Int × Int} (h : Rep X.K m H (pairD p) x) (h' : Rep X.K m H (pairD q) x) : p = q := by
  obtain ⟨t, rfl, h1⟩ := rep_pair h
  obtain ⟨t', e, h2⟩ := rep_pair h'
  cases e
  obtain ⟨its, r, ⟨o, ho, _, n, hd⟩, _⟩ := I.tuple (tupAt_sq h1)
  obtain ⟨its2, r2, ⟨o2, ho2, _, n2, hd2⟩, _⟩ := I.tuple (tupAt_sq h2)
  rw [ho] at ho2
  cases ho2
  rw [hd] at hd2
  have e3 : its = its2 := by
    have : its.toArray = its2.toArray := by injection hd2
    simpa using this
  subst e3
  obtain ⟨u1, u2, e4, ⟨t1, a1⟩, ⟨t2, a2⟩⟩ := vals2 r
  obtain ⟨w1, w2, e5, ⟨t3, a3⟩, ⟨t4, a4⟩⟩ := vals2 r2
  rw [e4] at e5
  cases e5
  rw [a1] at a3
  rw [a2] at a4
  injection a3 with b1 _
  injection a4 with b2 _
  exact Prod.ext b1 b2
def rSP (K : PySem.W.Frag) : List V → Hp → VK → Prop := fun vs H Q => ∃ d m ps v, vs = [v] ∧ Rep K m H d v ∧ Sim K m H ∧ look m d = .lst (List.map pairD ps) ∧
  ∀ qs : List (Int × Int), qs.Perm ps → qs.Pairwise (fun p q => SrtO.lexB q p = false) → ∀ w H', Fr m H m H' → Sim K m H' → Rep K m H' (.lst (qs.map pairD)) w → Q w H'
section
variable {X : Cx}
theorem call_sortP : CallR X (.builtin "sorted") (rSP X.K) := by
  rintro pins s σ H vs us Q I r ⟨d, m, ps, v, rfl, rd, sm, e, kq⟩
  have c := cont_of sm rd
  rw [e] at c
  obtain ⟨a, xs, rfl, ha, rl⟩ := cont_lst c
  have all : ∀ (ps : List (Int × Int)) (xs : List V), RepL X.K m H (ps.map pairD) xs → xs.map (keyP X.K m H) = ps ∧ ∀ x ∈ xs, Rep X.K m H (pairD (keyP X.K m H x)) x := by
    intro ps
    induction ps with
    | nil => intro xs h; simp only [List.map_nil, RepL] at h; subst h; exact ⟨rfl, fun x hx => by cases hx⟩
    | cons p ps ih =>
      intro xs h
      simp only [List.map_cons, RepL] at h
      obtain ⟨v, r, rfl, h1, h2⟩ := h
      obtain ⟨i1, i2⟩ := ih r h2
      have k1 := keyP_rep h1
      have k2 := pair_uniq I k1 h1
      refine ⟨by rw [List.map_cons, i1, k2], fun x hx => ?_⟩
      rcases List.mem_cons.mp hx with rfl | hx
      · exact k1
      · exact i2 x hx
  obtain ⟨e1, e2⟩ := all ps xs rl
  refine cr_sortPD pins s σ H _ us Q I r ⟨a, xs, keyP X.K m H, rfl, .of ha, fun x hx => ?_, fun ys p hs hb hp => ?_⟩
  · obtain ⟨t, ht, h⟩ := rep_pair (e2 x hx)
    exact ⟨t, ht, tupAt_sq h⟩
  · have hr : ∀ ys : List V, (∀ y ∈ ys, y ∈ xs) → RepL X.K m H ((ys.map (keyP X.K m H)).map pairD) ys := by
      intro ys
      induction ys with
      | nil => intro _; exact .nil
      | cons y ys ih => intro h; exact .cons (e2 y (h y List.mem_cons_self)) (ih fun z hz => h z (List.mem_cons_of_mem _ hz))
    refine kq (ys.map (keyP X.K m H)) ?_ ?_ _ _ (Fr.laid sm hp) (sm.laid hp) (new_lst sm hp (hr ys fun y hy => hb.perm.mem_iff.mp hy))
    · rw [← e1]; exact hb.perm.map _
    · exact List.pairwise_map.mpr hs
/-- sorted(xs), xs a list of pairs of ints -/
def tSortP (te : DTE) : DTE := fun env m Q => te env m fun d m1 => ∃ ps, look m1 d = .lst (List.map pairD ps) ∧ ∀ qs : List (Int × Int), qs.Perm ps → qs.Pairwise (fun p q => SrtO.lexB q p = false) → Q (.lst (qs.map pairD)) m1
theorem de_sortP {e : Expr} {te : DTE} {p pos : Pos} (hm : X.mg "sorted" = none) (he : DE X e te) (hg : Gl X "sorted" := by rfl) (hs : starEach [e] X.env = (false, eval e X.env) :: starEach [] X.env := by rfl) (hpl : (backTo pos (starEach [] X.env)).any (·.1) = false := by rfl) :
    DE X (.Call (.Name "sorted" p) [e] [] pos) (tSortP te) :=
  ⟨PE.weak (pe_callB call_sortP hg hm (by decide +kernel) (pa_cons he.run pa_nil hs) (by decide) (by decide) hs hpl) fun σ H Q h => by
    obtain ⟨env, m, R, eo, s, h, kq⟩ := h
    refine ⟨env, m, _, eo, s, h, fun x m1 v H1 h1 f1 s1 r1 => ?_⟩
    obtain ⟨ps, e1, h1⟩ := h1
    exact ⟨x, m1, ps, v, rfl, r1, s1, e1, fun qs q1 q2 w H2 f2 s2 r2 => kq _ m1 w H2 (h1 qs q1 q2) (f1.trans f2) s2 r2⟩⟩
end
end DL
/-! ### DL27: data that may be compared and shown -/
namespace DL
open PySem PySem.Spec PyProof.Rows L2
def okS (s : Str) : Prop := PyData.strOk s = true ∧ s.length ≤ 8
/-- what the readings ask of data -/
structure Fit (d : D) (n w : Nat) : Prop where
  dat : dat n d = true
  sh : PyData.showable (toPd d) = true
  i : PyData.intsShort 13 (toPd d) = true
  w : PyData.weight (toPd d) ≤ w
structure FitL (ds : List D) (n w : Nat) : Prop where
  dat : datL n ds = true
  sh : PyData.showableAll (toPdL ds) = true
  i : PyData.intsShortAll 13 (toPdL ds) = true
  w : PyData.weightAll (toPdL ds) ≤ w
theorem FitL.nil {n : Nat} : FitL [] n 0 := ⟨rfl, rfl, rfl, by simp [toPdL, PyData.weightAll]⟩
theorem FitL.cons {d : D} {ds : List D} {n a b : Nat} (h : Fit d n a) (k : FitL ds n b) : FitL (d :: ds) n (a + 1 + b) := by
  refine ⟨?_, ?_, ?_, ?_⟩
  · simp only [datL, h.dat, k.dat, Bool.and_self]
  · simp only [toPdL, PyData.showableAll, h.sh, k.sh, Bool.and_self]
  · simp only [toPdL, PyData.intsShortAll, h.i, k.i, Bool.and_self]
  · simp only [toPdL, PyData.weightAll]
    have := h.w
    have := k.w
    omega
theorem FitL.all {α : Type} {f : α → D} {n a : Nat} : ∀ (xs : List α), (∀ x ∈ xs, Fit (f x) n a) → FitL (xs.map f) n ((a + 1) * xs.length)
  | [], _ => FitL.nil
  | x :: xs, h => by
    have := FitL.cons (h x List.mem_cons_self) (FitL.all xs fun y hy => h y (List.mem_cons_of_mem _ hy))
    rw [List.length_cons, Nat.mul_succ, Nat.add_comm]
    exact this
theorem FitL.le {ds : List D} {n a b : Nat} (h : FitL ds n a) (hab : a ≤ b) : FitL ds n b := ⟨h.dat, h.sh, h.i, Nat.le_trans h.w hab⟩
theorem Fit.le {d : D} {n a b : Nat} (h : Fit d n a) (hab : a ≤ b) : Fit d n b := ⟨h.dat, h.sh, h.i, Nat.le_trans h.w hab⟩
theorem FitL.tup {ds : List D} {n a : Nat} (h : FitL ds n a) : Fit (.tup ds) (n + 1) (a + 10) := by
  refine ⟨?_, ?_, ?_, ?_⟩
  · simp only [DL.dat, h.dat]
  · simp only [toPd, PyData.showable, h.sh]
  · simp only [toPd, PyData.intsShort, h.i]
  · simp only [toPd, PyData.weight]
    have := h.w
    omega
theorem fit_str {s : Str} {n : Nat} (h : okS s) : Fit (.str s) n 20 := by
  refine ⟨?_, rfl, ?_, ?_⟩
  · cases n <;> exact h.1
  · rfl
  · simp only [toPd, PyData.weight]
    have : s.cps.size ≤ 8 := h.2
    omega
theorem fit_non {n : Nat} : Fit .non n 20 := by
  refine ⟨by cases n <;> rfl, rfl, rfl, ?_⟩
  simp [toPd, PyData.weight]
theorem log2_small {k : Nat} (h : k ≤ 1000000) : k.log2 < 20 := by
  by_cases z : k = 0
  · rw [z]; decide
  · rw [Nat.log2_lt z]
    exact Nat.lt_of_le_of_lt h (by decide)
theorem fit_int {i : Int} {n : Nat} (h : i.natAbs ≤ 1000000) : Fit (.int i) n 20 := by
  refine ⟨by cases n <;> rfl, ?_, ?_, ?_⟩
  · simp only [toPd, PyData.showable, decide_eq_true_eq]
    have := log2_small h
    omega
  · simp only [toPd, PyData.intsShort, decide_eq_true_eq]
    exact PyData.shown_int_le (Nat.lt_of_le_of_lt h (by decide))
  · simp only [toPd, PyData.weight]
    have := log2_small h
    split <;> omega
theorem fit_bl {b : Bool} {n : Nat} : Fit (.bl b) n 20 := by
  refine ⟨by cases n <;> rfl, rfl, rfl, ?_⟩
  simp [toPd, PyData.weight]
theorem FitL.lst {ds : List D} {n a : Nat} (h : FitL ds n a) : Fit (.lst ds) (n + 1) (a + 10) := by
  refine ⟨?_, ?_, ?_, ?_⟩
  · simp only [DL.dat, h.dat]
  · simp only [toPd, PyData.showable, h.sh]
  · simp only [toPd, PyData.intsShort, h.i]
  · simp only [toPd, PyData.weight]
    have := h.w
    omega
/-! repr of anything -/
def dReprA : D → Option D
  | .bl b => some (.str (if b then "True" else "False"))
  | .non => some (.str "None")
  | .int i => if i.natAbs.log2 < 1920 then some (.str (toString i)) else none
  | .str x => if (reprText x).length ≤ sizeLine then some (.str (reprText x)) else none
  | d => dRepr d
section
variable {X : Cx}
theorem dc_reprA (hg : X.A.guards = some []) (hu : X.A.units + 65 < cLine) : DCall X (.builtin "repr") (d1 dReprA) := by
  intro pins s σ H xs us Q I r ⟨ds, m, d, rl, sm, e, q⟩
  cases ds with
  | nil => cases e
  | cons x ds =>
    cases ds with
    | cons _ _ => cases e
    | nil =>
      obtain ⟨v, rfl, rx⟩ := repL1 rl
      have c := cont_of sm rx
      have e0 : d1 dReprA m [x] = dReprA (look m x) := rfl
      have e1 : d1 dRepr m [x] = dRepr (look m x) := rfl
      have hold := dc_repr hg hu pins s σ H [v] us Q I r
      rw [e0] at e
      generalize look m x = cX at *
      obtain ⟨u, rfl, ru⟩ := vals1 r
      unfold dReprA at e
      split at e
      · cases e
        rw [cont_bl c] at ru
        cases ru
        exact PySem.P.repr_of_bool ⟨.str _, H, I.tok _, ⟨_, rfl⟩, q _ H Fr.refl sm rep_str⟩
      · cases e
        rw [cont_non c] at ru
        cases ru
        exact PySem.P.repr_of_none ⟨.str _, H, I.tok _, ⟨_, rfl⟩, q _ H Fr.refl sm rep_str⟩
      · split at e
        · rename_i hz
          cases e
          rw [cont_int c] at ru
          obtain ⟨t, rfl⟩ := ru
          exact PySem.P.repr_of_int hz ⟨.str _, H, I.tok _, ⟨_, rfl⟩, q _ H Fr.refl sm rep_str⟩
        · cases e
      · split at e
        · rename_i hz
          cases e
          rw [cont_str c] at ru
          obtain ⟨t, rfl⟩ := ru
          exact PySem.P.repr_of_str ⟨.str _, H, I.tok _, ⟨_, rfl⟩, q _ H Fr.refl sm rep_str⟩ hz
        · cases e
      · exact hold ⟨[x], m, d, rl, sm, e1.trans e, q⟩
end
theorem fit_shown {d : D} {w : Nat} (h : Fit d 60 w) (hw : w ≤ 1000000) : dat 60 d = true ∧ (toPd d).showable = true ∧ (toPd d).shown.length ≤ sizeLine :=  ⟨h.dat, h.sh, PyData.shown_fits (B := 13) (by decide) (by decide) (PyData.leavesShort_of_canLay0 13 _ (dat_lay 60 _ h.dat).1 h.i) (Nat.le_trans h.w (Nat.le_trans hw (by decide)))⟩
theorem repr_tup {ds : List D} {w : Nat} (h : Fit (.tup ds) 60 w) (hw : w ≤ 1000000) : dReprA (.tup ds) = some (.str (toPd (.tup ds)).shown) := if_pos (fit_shown h hw)
theorem repr_lst {ds : List D} {w : Nat} (h : Fit (.lst ds) 60 w) (hw : w ≤ 1000000) : dReprA (.lst ds) = some (.str (toPd (.lst ds)).shown) := if_pos (fit_shown h hw)
theorem eq_refl {d : D} {ds : List D} {w : Nat} (e : d = .tup ds) (h : Fit d 60 w) : dEqB d d = some true := by
  subst e
  unfold dEqB
  simp only
  rw [if_pos ⟨h.dat, h.dat⟩]
  exact congrArg some (SeqAt.eqv_refl _ (dat_lay 60 _ h.dat).1)
end DL
/-! ### DL28: `in` by an own class's method, a class called with two starred lists, class methods by names, static methods -/
namespace DL
open PySem PySem.Spec PyProof.Rows L2
section
variable {M : Model} {A : Around} {E : Value → Shared → Prop} {s : Shared}
theorem evalArgs_two {f : Value} {x y : Sem Value} {b : Bool} {rest : List (Bool × Sem Value)} {Q : Args → Shared → Prop}
    (h : wpAny M A (spliced ((true, x) :: (b, y) :: rest)) (fun vs s' => Q ⟨vs, []⟩ s') E s) : wpAny M A (evalArgs f true ((true, x) :: (b, y) :: rest) []) Q E s := by
  unfold evalArgs
  show wpAny M A (spliced ((true, x) :: (b, y) :: rest) >>= _) Q E s
  refine wpAny_bind (wpAny_mono h (fun vs s' h' => ?_) fun _ _ x => x)
  refine wpAny_holding ?_
  exact wpAny_bind (wpAny_pure (wpAny_bind (wpAny_pure (wpAny_pure h'))))
end
section
variable {X : Cx} {k : Nat} {sp : DSp} {C : Addr} {x : Str} {p pos : Pos} {e1 e2 : Expr} {p1 p2 : Pos} {t : DTA} {tf : DTE}
theorem pe_newSS {f : Addr} {sp : Sp} {E : XK} {CX : CXT} {tf : TE} {t : TA} (M0 : Mk X.K C f) (F : FnG X.prog X.w X.K X.mg X.base CX k f sp) (hr : RoomG (k + 1) X.A) (hx : Passes CX X E) (hf : PE X (.Name x p) tf) (ha : PA X [.Starred e1 p1, .Starred e2 p2] t)
    (hst : starEach [.Starred e1 p1, .Starred e2 p2] X.env = [(true, eval e1 X.env), (true, eval e2 X.env)] := by rfl) :
    PE X (.Call (.Name x p) [.Starred e1 p1, .Starred e2 p2] [] pos) (fun σ H Q => tf σ H fun z H0 => z = .ref C ∧ StX.tMakeR C sp E t σ H0 Q) := by
  refine ⟨fun pins s σ H Q I h => ?_⟩
  refine wpAny_Call_Name_kw (thn (hf.run pins s σ H _ I h) fun u s0 ⟨z, H0, I0, rz, ez, q0⟩ => ?_)
  subst ez
  obtain rfl : u = Value.ref C := rz
  have ha' := ha.run pos pins s0 σ H0 _ I0 q0
  rw [hst] at ha' ⊢
  refine PySem.W.ks_call (P := X.K.In) rfl (PySem.W.keeps_K M0.kp) (evalArgs_two (thn ha' fun us s1 ⟨vs, H1, I1, r, q⟩ => ?_))
  exact ⟨I1.kIn, run_makeG M0 F hr hx I1 r q⟩
theorem de_newSS (c : CalC X C k sp) (hr : RoomG (k + 1) X.A) (hf : DE X (.Name x p) tf) (ha : DA X [.Starred e1 p1, .Starred e2 p2] t)
    (hst : starEach [.Starred e1 p1, .Starred e2 p2] X.env = [(true, eval e1 X.env), (true, eval e2 X.env)] := by rfl) :
    DE X (.Call (.Name x p) [.Starred e1 p1, .Starred e2 p2] [] pos) (tNwF C sp tf t) := by
  obtain ⟨f, M0, F⟩ := c.ex
  refine ⟨PE.weak (pe_newSS M0 F hr pass0 hf.run ha.run hst) fun σ H Q h => ?_⟩
  obtain ⟨env, m, R, eo, s, h, k⟩ := h
  refine ⟨env, m, _, eo, s, h, fun z m0 v0 H0 h0 f0 s0 r0 => ?_⟩
  obtain ⟨rfl, h0⟩ := h0
  refine ⟨by simpa only [Rep] using r0, env, m0, _, eo.mono f0, s0, h0, fun ds m1 vs H1 h1 f1 s1 r1 => ?_⟩
  exact nw_lift s1 r1 h1 fun d m' v H' a1 a2 a3 a4 => k d m' v H' a1 ((f0.trans f1).trans a2) a3 a4
end
/-! in -/
def rInO (K : PySem.W.Frag) (C : Addr) (sp : DSp) (g : Bool → Bool) : R2 := fun v u H Q => ∃ x y m, Rep K m H x v ∧ Rep K m H y u ∧ Sim K m H ∧ (∃ ns vs, look m y = .ins C ns vs) ∧
  liftSp K sp [u, v] H (fun w H' => ∃ b, w = .bl b ∧ Q (.bl (g b)) H') E0
section
variable {X : Cx} {C : Addr} {k : Nat} {sp : DSp}
theorem op_inO (c : CalM X C "__contains__" k sp) (hr : RoomG k X.A) : OpR X (compareOp .In) (rInO X.K C sp id) := by
  intro pins s σ H v u a b Q I rv ru ⟨x, y, m, rx, ry, sm, ⟨ns, vs, ey⟩, hsp⟩
  obtain ⟨f, hm, F⟩ := c.ex
  have cy := cont_of sm ry
  rw [ey] at cy
  obtain ⟨p, dx, fs, rfl, hp, _, _⟩ := cy
  cases ru
  obtain ⟨mA, J, _⟩ := ins_get I.hok hp
  obtain ⟨od, J, _⟩ := J.look
  obtain ⟨m0, hF⟩ := I.fr
  refine PySem.W.in_K hF I.ok.mod.kin J hm.at_ hm.fn ?_
  refine wpAny_mono (run_fnA (us := [Value.ref p, a]) (vs := [V.ref p, v]) rfl F hr pass0 I (.cons rfl (.cons rv .nil)) hsp) (fun r s' hq => ?_) fun _ _ x => x
  obtain ⟨w, H', I', rw', b, rfl, q⟩ := hq
  cases rw'
  exact wpAny_truthy_bool ⟨.bl b, H', I', rfl, q⟩
theorem op_ninO (c : CalM X C "__contains__" k sp) (hr : RoomG k X.A) : OpR X (compareOp .NotIn) (rInO X.K C sp not) := by
  intro pins s σ H v u a b Q I rv ru ⟨x, y, m, rx, ry, sm, ⟨ns, vs, ey⟩, hsp⟩
  obtain ⟨f, hm, F⟩ := c.ex
  have cy := cont_of sm ry
  rw [ey] at cy
  obtain ⟨p, dx, fs, rfl, hp, _, _⟩ := cy
  cases ru
  obtain ⟨mA, J, _⟩ := ins_get I.hok hp
  obtain ⟨od, J, _⟩ := J.look
  obtain ⟨m0, hF⟩ := I.fr
  refine PySem.W.notIn_K hF I.ok.mod.kin J hm.at_ hm.fn ?_
  refine wpAny_mono (run_fnA (us := [Value.ref p, a]) (vs := [V.ref p, v]) rfl F hr pass0 I (.cons rfl (.cons rv .nil)) hsp) (fun r s' hq => ?_) fun _ _ x => x
  obtain ⟨w, H', I', rw', b, rfl, q⟩ := hq
  cases rw'
  exact wpAny_truthy_bool ⟨.bl (!b), H', I', rfl, q⟩
/-- x in y, x not in y by C's __contains__ -/
def tInO (C : Addr) (sp : DSp) (g : Bool → Bool) (ta tb : DTE) : DTE := fun env m Q => ta env m fun x m1 => tb env m1 fun y m2 => (∃ ns vs, look m2 y = .ins C ns vs) ∧ sp [y, x] m2 fun d m3 => ∃ b, d = .bl b ∧ Q (.bl (g b)) m3
variable {a b : Expr} {ta tb : DTE} {pos : Pos}
theorem inO_lift {g : Bool → Bool} {σ : L2.St} {H : Hp} {Q : VK} (h : liftE X.K (tInO C sp g ta tb) σ H Q) : tOp (rInO X.K C sp g) (liftE X.K ta) (liftE X.K tb) σ H Q := by
  obtain ⟨env, m, R, eo, s, h, k⟩ := h
  refine ⟨env, m, _, eo, s, h, fun x m1 v H1 h1 f1 s1 r1 => ?_⟩
  refine ⟨env, m1, _, eo.mono f1, s1, h1, fun y m2 u H2 h2 f2 s2 r2 => ?_⟩
  obtain ⟨e1, h2⟩ := h2
  refine ⟨x, y, m2, Rep.mono f2 _ _ r1, r2, s2, e1, [y, x], m2, _, .cons r2 (.cons (Rep.mono f2 _ _ r1) .nil), s2, h2, fun d m3 w H3 h3 f3 s3 r3 => ?_⟩
  obtain ⟨b, rfl, h3⟩ := h3
  exact ⟨b, by simpa only [Rep] using r3, k _ m3 _ H3 h3 ((f1.trans f2).trans f3) s3 rep_bl⟩
theorem de_inO (c : CalM X C "__contains__" k sp) (hr : RoomG k X.A) (ha : DE X a ta) (hb : DE X b tb) (hm : behindInMarks .In b = false := by first | exact nomark _ | rfl) : DE X (.Compare a [.In] [b] pos) (tInO C sp id ta tb) :=
  ⟨PE.weak (pe_cmpR (op_inO c hr) ha.run hb.run hm) fun _ _ _ h => inO_lift h⟩
theorem de_ninO (c : CalM X C "__contains__" k sp) (hr : RoomG k X.A) (ha : DE X a ta) (hb : DE X b tb) (hm : behindInMarks .NotIn b = false := by first | exact nomark _ | rfl) : DE X (.Compare a [.NotIn] [b] pos) (tInO C sp not ta tb) :=
  ⟨PE.weak (pe_cmpR (op_ninO c hr) ha.run hb.run hm) fun _ _ _ h => inO_lift h⟩
def tInOT (C : Addr) (sp : DSp) (g : Bool → Bool) (ta tb : DTE) : DTT := fun env m Q => ta env m fun x m1 => tb env m1 fun y m2 => (∃ ns vs, look m2 y = .ins C ns vs) ∧ sp [y, x] m2 fun d m3 => ∃ b, d = .bl b ∧ Q (g b) m3
theorem inOT_lift {g : Bool → Bool} {σ : L2.St} {H : Hp} {Q : Bool → Hp → Prop} (h : liftT X.K (tInOT C sp g ta tb) σ H Q) : tOp (rInO X.K C sp g) (liftE X.K ta) (liftE X.K tb) σ H (fun w H' => ∃ k, w = .bl k ∧ Q k H') := by
  obtain ⟨env, m, R, eo, s, h, k⟩ := h
  refine ⟨env, m, _, eo, s, h, fun x m1 v H1 h1 f1 s1 r1 => ?_⟩
  refine ⟨env, m1, _, eo.mono f1, s1, h1, fun y m2 u H2 h2 f2 s2 r2 => ?_⟩
  obtain ⟨e1, h2⟩ := h2
  refine ⟨x, y, m2, Rep.mono f2 _ _ r1, r2, s2, e1, [y, x], m2, _, .cons r2 (.cons (Rep.mono f2 _ _ r1) .nil), s2, h2, fun d m3 w H3 h3 f3 s3 r3 => ?_⟩
  obtain ⟨b, rfl, h3⟩ := h3
  exact ⟨b, by simpa only [Rep] using r3, g b, rfl, k _ m3 H3 h3 ((f1.trans f2).trans f3) s3⟩
theorem dt_inO (c : CalM X C "__contains__" k sp) (hr : RoomG k X.A) (ha : DE X a ta) (hb : DE X b tb) (hm : behindInMarks .In b = false := by first | exact nomark _ | rfl) : DT X (.Compare a [.In] [b] pos) (tInOT C sp id ta tb) :=
  ⟨PT.weak (pt_cmpR (op_inO c hr) ha.run hb.run hm) fun _ _ _ h => inOT_lift h⟩
theorem dt_ninO (c : CalM X C "__contains__" k sp) (hr : RoomG k X.A) (ha : DE X a ta) (hb : DE X b tb) (hm : behindInMarks .NotIn b = false := by first | exact nomark _ | rfl) : DT X (.Compare a [.NotIn] [b] pos) (tInOT C sp not ta tb) :=
  ⟨PT.weak (pt_cmpR (op_ninO c hr) ha.run hb.run hm) fun _ _ _ h => inOT_lift h⟩
end
/-! class methods by the names of parameters; static methods -/
structure CalKK (X : Cx) (C : Addr) (m : Str) (k : Nat) (n : Nat) (ks : List Str) (is : List Nat) (sp : DSp) : Prop where
  ex : ∃ mc p g, ClX.CRead X.K C mc ∧ ClX.CMet X.K C mc m p g ∧ FnGK X.prog X.w X.K X.mg X.base CX0 k g n ks is (liftSp X.K sp)
/-- C.m is a static method: its record at p, its def at g -/
structure SMet (K : PySem.W.Frag) (C : Addr) (mc : Value) (m : Str) (p g : Addr) : Prop where
  at_ : PySem.W.findCls K (.ref C) mc m = some (.get (.builtin "staticmethod.__get__") (.ref p) .none (.ref C))
  rc : ∃ rest, PySem.W.recIn K p "staticmethod" = some (.ref g :: rest)
  kp : PySem.W.keepIn K (.ref g) = true
structure CalS (X : Cx) (C : Addr) (m : Str) (k : Nat) (sp : DSp) : Prop where
  ex : ∃ mc p g, ClX.CRead X.K C mc ∧ SMet X.K C mc m p g ∧ FnG X.prog X.w X.K X.mg X.base CX0 k g (liftSp X.K sp)
section
variable {X : Cx} {k n : Nat} {ks : List Str} {is : List Nat} {sp : DSp} {C : Addr} {m : Str} {p pos apos : Pos} {kws : List Keyword} {t : DTA}
theorem run_fnCK {pins : List (Addr × Obj)} {σ : L2.St} {H : Hp} {s : Shared} {CX : CXT} {f : Addr} {sp : Sp} {E : XK} {Q : VK} {us ws : List Value} {vs zs : List V} (F : FnGK X.prog X.w X.K X.mg X.base CX k f n ks is sp) (hr : RoomG k X.A) (hx : Passes CX X E) (I : Inv X pins σ H s) (r : Vals vs us) (rz : Vals zs ws)
    (ln : vs.length = n) (lz : zs.length = ks.length) (q : sp (permL is (vs ++ zs)) H Q E) : codeAny (model X.prog X.w) X.A (.call (.ref f) ⟨us, ks.zip ws⟩) (fun r s' => match r with | .ok (.ret v) => EP X pins σ Q v s' | .ok _ => False | .error e => X.xe e s') s :=
  codeAny_mono (F X.A X.stack s H us ws vs zs Q E hr I.env0 r rz ln lz q) fun res s' h => match res, h with
    | .error e, h => hx pins σ H s e s' I h
    | .ok (.ret u), h => I.after h
    | .ok .next, h => h.elim
    | .ok .brk, h => h.elim
    | .ok .cont, h => h.elim
/-- C.m(x = .., ..) -/
def tCmK (C : Addr) (ks : List Str) (is : List Nat) (sp : DSp) (t : DTA) : DTE := fun env st Q => t env st fun ds m2 => ds.length = ks.length ∧ sp (permL is (.ref C :: ds)) m2 Q
theorem de_cmethK {pl : Sem Bool} {cx : Str} {cp : Pos} (c : CalKK X C m k 1 ks is sp) (hr : RoomG k X.A) (hm : X.mg cx = some (.ref C)) (ha : DK_ X kws t) (hg : Gl X cx := by rfl) (hd : (cx == ("__debug__" : Str)) = false := by decide)
    (hall : (backToKw pos (keywordEach kws X.env)).all (·.1.isSome) = true := by rfl) (hks : (backToKw pos (keywordEach kws X.env)).filterMap (·.1) = ks := by rfl)
    (hpl : ((backTo pos (starEach [] X.env)).any (·.1) || (backToKw pos (keywordEach kws X.env)).any (·.1.isNone)) = false := by rfl)
    (ht : eval (.Call (.Attribute (.Name cx cp) m apos) [] kws pos) X.env = (do
      let ov ← eval (.Name cx cp) X.env
      standAt apos.atName
      let (f, first) ← holding [ov] (getMethod ov m pl)
      callWith pos f first (backTo pos (starEach [] X.env)) (backToKw pos (keywordEach kws X.env))) := by rfl) :
    DE X (.Call (.Attribute (.Name cx cp) m apos) [] kws pos) (tCmK C ks is sp t) := by
  obtain ⟨mc, q0, g, h1, h2, F⟩ := c.ex
  refine ⟨⟨fun pins s σ H Q I h => ?_⟩⟩
  obtain ⟨env, mm, R, eo, sm, h, kq⟩ := h
  have h0 : liftA X.K t σ H (fun zs H2 => zs.length = ks.length ∧ liftSp X.K sp (permL is (.ref C :: zs)) H2 Q E0) := by
    refine ⟨env, mm, _, eo, sm, h, fun ds m2 ws H2 h3 f2 s2 r3 => ?_⟩
    obtain ⟨hl, h3⟩ := h3
    exact ⟨by rw [← r3.length]; exact hl, permL is (.ref C :: ds), m2, R, permL_rep (.cons rep_ref r3) is, s2, h3, fun d' m' v H' a1 a2 a3 a4 => kq d' m' v H' a1 (f2.trans a2) a3 a4⟩
  refine PySem.W.methodCall_KW (pl := pl) (thn ((pe_glob (v := .ref C) hg hm rfl hd).run pins s σ H (fun x H' => x = .ref C ∧ H' = H) I ⟨rfl, rfl⟩) fun u s1 hx1 => ?_) ht
  obtain ⟨x, H1, I1, rx, rfl, rfl⟩ := hx1
  obtain rfl : u = Value.ref C := rx
  refine ClX.getmethcm_ok I1 h1 h2 fun s2 I2 => ?_
  refine PySem.W.callWith_of (P := PySem.W.MethP X.K _ g (.ref C)) hpl (PySem.W.keeps_M h2.fi) (evalArgs_kw2_nil hall (thn (ha.run.run pos _ s2 σ H1 _ I2 h0) fun ws s3 hx3 => ?_))
  obtain ⟨zs, H2, I3, rv, hl, q2⟩ := hx3
  refine ⟨⟨ClX.pin_at I3, I3.kIn⟩, ?_⟩
  rw [hks]
  exact thn (wpAny_call (PySem.W.method_call (ClX.pin_at I3) (run_fnCK (us := [.ref C]) (vs := [.ref C]) F hr pass0 I3 (.cons rfl .nil) rv rfl hl q2))) fun _ _ y => ClX.unpinE y
/-- C.m(), m a static method -/
def tSm (sp : DSp) : DTE := fun env st Q => sp [] st Q
theorem de_smeth0 {pl : Sem Bool} {cx : Str} {cp : Pos} (c : CalS X C m k sp) (hr : RoomG k X.A) (hm : X.mg cx = some (.ref C)) (hg : Gl X cx := by rfl) (hd : (cx == ("__debug__" : Str)) = false := by decide)
    (ht : eval (.Call (.Attribute (.Name cx cp) m apos) [] [] pos) X.env = (do
      let ov ← eval (.Name cx cp) X.env
      standAt apos.atName
      let (f, first) ← holding [ov] (getMethod ov m pl)
      callWith pos f first (backTo pos (starEach [] X.env)) (backToKw pos (keywordEach [] X.env))) := by rfl) :
    DE X (.Call (.Attribute (.Name cx cp) m apos) [] [] pos) (tSm sp) := by
  obtain ⟨mc, q0, g, h1, h2, F⟩ := c.ex
  refine ⟨⟨fun pins s σ H Q I h => ?_⟩⟩
  obtain ⟨env, mm, R, eo, sm, h, kq⟩ := h
  refine PySem.W.methodCall_KW (pl := pl) (thn ((pe_glob (v := .ref C) hg hm rfl hd).run pins s σ H (fun x H' => x = .ref C ∧ H' = H) I ⟨rfl, rfl⟩) fun u s1 hx1 => ?_) ht
  obtain ⟨x, H1, I1, rx, rfl, rfl⟩ := hx1
  obtain rfl : u = Value.ref C := rx
  obtain ⟨rest, hp⟩ := h2.rc
  refine PySem.W.method_cls I1.kIn h1.ga (PySem.W.cls_bind I1.kIn h1.rd h2.at_ (wpAny_call (PySem.W.sm_get (s := { s1 with toks := s1.toks + 1 }) I1.kIn hp (PySem.W.handed_on rfl ?_))))
  have I2 := I1.tok (s1.toks + 1)
  exact PySem.W.callWith_K0 I2.kIn h2.kp (run_fnG F hr pass0 I2 .nil ⟨[], mm, R, .nil, sm, h, fun d' m' v H' a1 a2 a3 a4 => kq d' m' v H' a1 a2 a3 a4⟩)
end
section
variable (P : Program) (w : World) (K : PySem.W.Frag) (mg : Str → Option Value) (base : Heap)
def CalKKW (C : Addr) (m : Str) (k : Nat) (n : Nat) (ks : List Str) (is : List Nat) (sp : DSp) : Prop := ∃ mc p g, ClX.CRead K C mc ∧ ClX.CMet K C mc m p g ∧ FnGK P w K mg base CX0 k g n ks is (liftSp K sp)
def CalSW (C : Addr) (m : Str) (k : Nat) (sp : DSp) : Prop := ∃ mc p g, ClX.CRead K C mc ∧ SMet K C mc m p g ∧ FnG P w K mg base CX0 k g (liftSp K sp)
end
end DL
/-! ### DL29: great products, t[::-1] of a tuple -/
namespace DLt
open PySem PyProof.Rows HT
section
variable {prog : Program} {w : World} {A : Around} {E : Value → Shared → Prop} {s : Shared}
theorem adjust_rev (n : Nat) : Builtin.Slice.sliceAdjust none none (-1) (n : Int) = ((n : Int) - 1, -1) := by
  unfold Builtin.Slice.sliceAdjust
  simp
theorem places_rev (n : Nat) : Builtin.Slice.slicePlaces ((n : Int) - 1) (-1) (-1) = n := by
  unfold Builtin.Slice.slicePlaces
  have h1 : ¬ ((-1 : Int) > 0) := by omega
  rw [if_neg h1]
  have h2 : (-(-1) : Int) = 1 := rfl
  rw [h2, Int.ediv_one]
  split <;> omega
theorem applied_rev {sl : Addr} {vl vu vs : Value} {n : Nat} {Q : Int × Int × Nat → Shared → Prop} (hs : s.heap.IsSliceOf sl vl vu vs) (pl : IsPart vl none) (pu : IsPart vu none) (ps : IsPart vs (some (-1)))
    (h : Q ((n : Int) - 1, -1, n) s) : wpAny (model prog w) A (Builtin.Slice.sliceApplied (.ref sl) (pure (n : Int))) Q E s := by
  obtain ⟨os, hos, hcs, hds⟩ := id hs
  unfold Builtin.Slice.sliceApplied Builtin.Slice.sliceFields
  refine wpAny_bind (wpAny_bind (wpAny_field hos hds (x := vl) rfl (wpAny_bind (wpAny_field hos hds (x := vu) rfl (wpAny_bind (wpAny_field hos hds (x := vs) rfl (wpAny_pure ?_)))))))
  refine wpAny_bind (slicePart_ ps ?_)
  show wpAny _ _ (if ((-1 : Int) == 0) = true then _ else _) _ _ s
  rw [if_neg (by decide)]
  refine wpAny_bind (slicePart_ pl (wpAny_bind (slicePart_ pu (wpAny_bind (wpAny_pure ?_)))))
  show wpAny _ _ (match Builtin.Slice.sliceAdjust none none (-1) (n : Int) with | (lo, hi) => pure (lo, (-1 : Int), Builtin.Slice.slicePlaces lo hi (-1))) _ _ s
  rw [adjust_rev n]
  show wpAny _ _ (pure ((n : Int) - 1, (-1 : Int), Builtin.Slice.slicePlaces ((n : Int) - 1) (-1) (-1))) _ _ s
  rw [places_rev]
  exact wpAny_pure h
theorem fm_congr {α β : Type} {f g : α → Option β} : ∀ {l : List α}, (∀ x ∈ l, f x = g x) → l.filterMap f = l.filterMap g
  | [], _ => rfl
  | x :: l, h => by
    rw [List.filterMap_cons, List.filterMap_cons, h x List.mem_cons_self, fm_congr fun y hy => h y (List.mem_cons_of_mem _ hy)]
theorem pick_rev (xs : Array Value) : ((List.range xs.size).filterMap fun (m : Nat) => xs[((xs.size : Int) - 1 + (m : Int) * (-1)).toNat]?).toArray = xs.toList.reverse.toArray := by
  refine congrArg List.toArray ?_
  have e : ∀ m ∈ List.range xs.size, xs[((xs.size : Int) - 1 + (m : Int) * (-1)).toNat]? = xs.toList.reverse[m]? := by
    intro m hm
    have hm := List.mem_range.mp hm
    rw [List.getElem?_reverse (by simpa using hm), Array.length_toList]
    have : ((xs.size : Int) - 1 + (m : Int) * (-1)).toNat = xs.size - 1 - m := by omega
    rw [this]; simp
  rw [fm_congr e]
  have hl : xs.size = xs.toList.reverse.length := by simp
  rw [hl]
  generalize xs.toList.reverse = l
  clear e hl
  have : ∀ (l : List Value) (pre : List Value), (List.range' pre.length l.length).filterMap (fun m => (pre ++ l)[m]?) = l := by
    intro l
    induction l with
    | nil => intro pre; rfl
    | cons x l ih =>
      intro pre
      rw [List.length_cons, List.range'_succ, List.filterMap_cons]
      have h1 : (pre ++ x :: l)[pre.length]? = some x := by simp
      rw [h1]
      have h2 := ih (pre ++ [x])
      rw [List.length_append, List.length_singleton, List.append_assoc] at h2
      simp only
      rw [show pre ++ x :: l = pre ++ ([x] ++ l) from rfl, h2]
  have h := this l []
  simpa [List.range_eq_range'] using h
theorem getItem_tuple_rev {t sl : Addr} {items : Array Value} {vl vu vs : Value} {Q : Value → Shared → Prop} (ht : IsTup s.heap t items) (hs : s.heap.IsSliceOf sl vl vu vs) (pl : IsPart vl none) (pu : IsPart vu none) (ps : IsPart vs (some (-1)))
    (h : Q (.ref s.heap.objs.size) { s with heap := s.heap.push { cls := .type "tuple", data := .seq items.toList.reverse.toArray } })
    (hsz : items.size ≤ sizeLine) : wpAny (model prog w) A (getItem (.ref t) (.ref sl)) Q E s := by
  have htake : sizeOk (.seq items.toList.reverse.toArray) := by
    show items.toList.reverse.toArray.size ≤ sizeLine
    rw [List.size_toArray, List.length_reverse, Array.length_toList]
    exact hsz
  obtain ⟨os, hos, hcs, hds⟩ := id hs
  have hTs : s.TypeIs (.ref sl) "slice" := ⟨os, hos, hcs⟩
  unfold getItem
  try with_reducible refine wpAny_holding ?_
  first | refine wpAny_bind (wpAny_pure ?_) | skip
  refine wpAny_bind (wpAny_sequenceKey ht.typeIs (by decide) ?_)
  refine wpAny_bind (wpAny_callSpecial?_slot (name := Str.ofString "__getitem__") ht.typeIs PyProof.Rows.slot_tuple_getitem
    (wpAny_call_entry PyProof.Rows.slot_tuple_getitem ht.typeIs entry_tuple_getitem ?_ (args_tuple_getitem _ _)))
  show wpAny _ _ (Builtin.Tuple.tupleItemsOf (.ref t) >>= _) _ _ s
  refine wpAny_bind (tupleItemsOf_ ht ?_)
  refine wpAny_bind (wpAny_typeOf hTs ?_)
  rw [if_pos (by decide)]
  refine wpAny_bind (applied_rev hs pl pu ps ?_)
  show wpAny _ _ (if (((items.size : Int) - 1) == 0 && (-1 : Int) == 1 && items.size == items.size) = true then _ else _) _ _ s
  rw [if_neg (by simp), pick_rev]
  first
    | exact wpAny_bind (m := Builtin.Tuple.tupleExact _) (wpAny_newObj_type (wpAny_pure ⟨_, rfl, wpAny_pure h⟩) htake)
    | exact wpAny_bind (m := Builtin.Tuple.tupleExact _) (wpAny_newObj_type (wpAny_bind (wpAny_pure (wpAny_pure ⟨_, rfl, wpAny_pure h⟩))) htake)
    | exact wpAny_bind (wpAny_bind (m := Builtin.Tuple.tupleExact _) (wpAny_newObj_type (wpAny_pure (wpAny_pure ⟨_, rfl, wpAny_pure h⟩)) htake))
    | exact wpAny_bind (wpAny_bind (m := Builtin.Tuple.tupleExact _) (wpAny_newObj_type (wpAny_pure ⟨_, rfl, wpAny_pure h⟩) htake))
end
end DLt
namespace DL
open PySem PySem.Spec PyProof.Rows L2
abbrev dMulX := d2I fun i j => if i.natAbs < 2 ^ 1000 ∧ j.natAbs < 2 ^ 1000 then some (.int (i * j)) else none
section
variable {X : Cx}
theorem do_mulX : DOp X (binaryOp .Mult) dMulX := do_2I op_mulX fun i j d e => by
  split at e
  · rename_i hc
    cases e
    exact ⟨mulx_ok hc.1 hc.2 (by decide), fun _ _ => rep_int⟩
  · cases e
def rtRevT (K : PySem.W.Frag) (te : TE) : TE := fun σ H Q => te σ H fun x H1 => ∃ a xs, x = .ref a ∧ SqT K H1 a xs ∧ ∀ p, H1 p = none → Q (.ref p) (upd H1 p (.tup xs.reverse))
theorem pe_revT {e : Expr} {te : TE} {k : Nat} {p1 p2 p3 pos : Pos} (he : PE X e te) : PE X (.Subscript e (.Slice none none (some (.UnaryOp .USub (.Constant (.int 1) k p1) p2)) p3) pos) (rtRevT X.K te) := by
  refine ⟨fun pins s σ H Q I h => ?_⟩
  refine Subscript_ (thn (he.run pins s σ H _ I h) fun v s1 ⟨x, H1, I1, r1, q1⟩ => ?_)
  obtain ⟨a, xs, ex, hx, q⟩ := q1
  subst ex
  cases r1
  have hst : PO X (some (.UnaryOp .USub (.Constant (.int 1) k p1) p2)) (tPart (tUn (rU fun i => .int (-i)) (tC (.int 1)))) := po_some (pe_un un_neg pe_int)
  refine wpAny_Slice (thn (po_none.run pins s1 σ H1 (fun o H2 => o = none ∧ H2 = H1) I1 ⟨rfl, rfl⟩) fun vl s2 ⟨l, H2, I2, pl, el, e2⟩ => ?_)
  subst el e2
  refine thn (po_none.run pins s2 σ H2 (fun o H3 => o = none ∧ H3 = H2) I2 ⟨rfl, rfl⟩) fun vu s3 ⟨u, H3, I3, pu, eu, e3⟩ => ?_
  subst eu e3
  refine thn (hst.run pins s3 σ H3 (fun o H4 => o = some (-1) ∧ H4 = H3) I3 ⟨1, rfl, -1, rfl, rfl, rfl⟩) fun vs s4 ⟨o, H4, I4, ps, eo, e4⟩ => ?_
  subst eo e4
  have I5 : Inv X pins σ H4 { s4 with heap := s4.heap.push { cls := .type "slice", data := .fields #[vl, vu, vs] } } := I4.kept (t' := s4.toks) fun b ob q => Heap.get?_push_of_some _ q
  obtain ⟨its, r, ht, hz⟩ := I5.tuple hx
  have hlen := r.length
  show wpAny (model X.prog X.w) X.A (subscriptTail e (.Slice none none (some (.UnaryOp .USub (.Constant (.int 1) k p1) p2)) p3) (.ref a) (.ref s4.heap.objs.size)) (EP X pins σ Q) X.xe { s4 with heap := s4.heap.push { cls := .type "slice", data := .fields #[vl, vu, vs] } }
  refine tail_any (ops := [.ref a, .ref s4.heap.objs.size]) ht.typeIs (PyProof.Rows.slot_tuple_getitem.lookup) ?_ (by with_unfolding_all rfl)
  refine DLt.getItem_tuple_rev ht (Heap.IsSliceOf.new _ vl vu vs) pl pu ps ?_ (by rw [List.size_toArray]; omega)
  refine ⟨.ref _, _, I5.laid (t' := s4.toks) (o := .tup xs.reverse) (fun b ob q => Heap.get?_push_of_some _ q) (Nat.le_refl _) ?_, rfl, q _ (I5.hok.fresh (Nat.le_refl _))⟩
  exact ⟨by rw [List.length_reverse]; exact hz, its.reverse, r.reverse, IsTup.new _ _⟩
/-- t[::-1] of a tuple -/
def tRevT (te : DTE) : DTE := fun env m Q => te env m fun d m1 => ∃ ds, look m1 d = .tup ds ∧ Q (.tup ds.reverse) m1
theorem de_revT {e : Expr} {te : DTE} {pos : Pos} {k : Nat} {p1 p2 p3 : Pos} (he : DE X e te) : DE X (.Subscript e (.Slice none none (some (.UnaryOp .USub (.Constant (.int 1) k p1) p2)) p3) pos) (tRevT te) := ⟨PE.weak (pe_revT he.run) fun σ H Q h => by
  obtain ⟨env, m, R, eo, s, h, k⟩ := h
  refine ⟨env, m, _, eo, s, h, fun d m1 v H1 h1 f1 s1 r1 => ?_⟩
  obtain ⟨ds, e1, h1⟩ := h1
  have cc := cont_of s1 r1
  rw [e1] at cc
  obtain ⟨q, us, rfl, hq, rq⟩ := cont_tup cc
  exact ⟨q, us, rfl, tupAt_sq hq, fun p hp => k _ _ _ _ h1 (f1.trans (Fr.laid s1 hp)) (s1.laid hp) (new_tup s1 hp rq.reverse)⟩⟩
end
end DL
/-! ### DL30: ranges downwards, constants of classes, classes made by keywords, defaults -/
namespace DL
open PySem PySem.Spec PyProof.Rows L2
/-- hi, hi - 1, .. -/
def dnD (hi : Int) (n : Nat) : List D := (List.range n).map fun (i : Nat) => D.int (hi - i)
theorem items_dn {K : PySem.W.Frag} {m0 : M} {H0 : Hp} {hi : Int} {n : Nat} : Items K (Itc hi (-1) n) (dnD hi n) m0 H0 := fun i m H f s => by
  refine ⟨fun d e => ?_, fun hl => ?_⟩
  rotate_left
  · unfold dnD at hl; rw [List.length_map, List.length_range] at hl; exact Nat.le_of_eq hl.symm
  unfold dnD at e
  rw [List.getElem?_map] at e
  obtain ⟨j, ej, rfl⟩ := Option.map_eq_some_iff.mp e
  have hi' : i < n := by
    rcases Nat.lt_or_ge i (List.range n).length with z | z
    · simpa using z
    · rw [List.getElem?_eq_none z] at ej; cases ej
  rw [List.getElem?_range hi'] at ej
  cases ej
  refine ⟨hi', fun y H' q => ?_⟩
  obtain ⟨rfl, rfl⟩ := q
  have e2 : hi + (i : Int) * (-1) = hi - (i : Int) := by omega
  rw [e2]
  exact ⟨Fr.refl, s, rep_int⟩
def iRg3 (ta : DTA) : DTI := fun env m Q => ta env m fun ds m1 => (∃ i j, ds = [.int i, .int j, .int (-1)] ∧ (-(2 ^ 62) ≤ i ∧ i < 2 ^ 62 ∧ -(2 ^ 62) ≤ j ∧ j < 2 ^ 62) ∧ Q (dnD i (i - j).toNat) m1)
section
variable {X : Cx} {tg a b c : Expr} {pos : Pos}
theorem di_range3 {p : Pos} {ta : DTA} (hm : X.mg "range" = none) (ha : DA X [a, b, c] ta) (hg : Gl X "range" := by rfl) (hs : starEach [a, b, c] X.env = (false, eval a X.env) :: starEach [b, c] X.env := by rfl) (hpl : (backTo pos (starEach [b, c] X.env)).any (·.1) = false := by rfl) :
    DI X tg (.Call (.Name "range" p) [a, b, c] [] pos) (iRg3 ta) :=
  ⟨PI.weak (pi_range3 hg hm ha.run hs hpl) fun σ H R h => by
    obtain ⟨env, m, RR, eo, s, h, k⟩ := h
    refine ⟨env, m, _, eo, s, h, fun ds m1 vs H1 h1 f1 s1 r1 => ?_⟩
    obtain ⟨i, j, rfl, ⟨b1, b2, b3, b4⟩, h1⟩ := h1
    simp only [RepL] at r1
    obtain ⟨v, r', rfl, q1, v2, r2, rfl, q2, v3, r3, rfl, q3, rfl⟩ := r1
    simp only [Rep] at q1 q2 q3
    subst q1; subst q2; subst q3
    exact ⟨i, j, -1, _, rfl, .neg b1 b2 b3 b4, k _ m1 _ H1 h1 f1 s1 items_dn⟩⟩
end
/-! constants of classes -/
def KonD (K : PySem.W.Frag) (C : Addr) (f : Str) (d : D) : Prop := ∃ v u, Con K C f v u ∧ ∀ m H, Rep K m H d v
def CvlD (K : PySem.W.Frag) (C : Addr) (f : Str) (d : D) : Prop := ∃ mc v u, ClX.CRead K C mc ∧ ClX.CVal K C mc f v u ∧ ∀ m H, Rep K m H d v
section
variable {X : Cx} {C : Addr} {e : Expr} {f : Str} {d : D} {ta : DTE} {pos : Pos}
/-- o.f, o an instance of C, f a constant of C -/
def tKi (C : Addr) (f : Str) (d : D) (ta : DTE) : DTE := fun env m Q => ta env m fun o m1 => ∃ ns vs, look m1 o = .ins C ns vs ∧ f ∉ ns ∧ Q d m1
theorem de_con (hc : Cls X.K C) (hk : KonD X.K C f d) (he : DE X e ta) (hb : attributeBase e f X.env (eval e X.env) = eval e X.env := by rfl) : DE X (.Attribute e f pos) (tKi C f d ta) := by
  obtain ⟨v, u, k, r⟩ := hk
  refine ⟨PE.weak (pe_con he.run hb) fun σ H Q h => ?_⟩
  obtain ⟨env, m, R, eo, s, h, kq⟩ := h
  refine ⟨env, m, _, eo, s, h, fun o m1 w H1 h1 f1 s1 r1 => ?_⟩
  obtain ⟨ns, vs, e1, hn, h1⟩ := h1
  have cc := cont_of s1 r1
  rw [e1] at cc
  obtain ⟨a, dx, fs, rfl, h2, rfl, r2⟩ := cc
  exact ⟨a, C, dx, fs, v, u, rfl, h2, hc, k, lookup_none hn, kq _ m1 _ H1 h1 f1 s1 (r _ _)⟩
/-- C.f, f a constant of C -/
def tKc (d : D) : DTE := fun _ m Q => Q d m
theorem de_cval {cx : Str} {cp : Pos} (hk : CvlD X.K C f d) (hm : X.mg cx = some (.ref C)) (hg : Gl X cx := by rfl) (hd : (cx == ("__debug__" : Str)) = false := by decide) (hb : attributeBase (.Name cx cp) f X.env (eval (.Name cx cp) X.env) = eval (.Name cx cp) X.env := by rfl) : DE X (.Attribute (.Name cx cp) f pos) (tKc d) := by
  obtain ⟨mc, v, u, k1, k2, r⟩ := hk
  refine ⟨PE.weak (ClX.pe_cval (pe_glob (v := .ref C) hg hm rfl hd) hb) fun σ H Q h => ?_⟩
  obtain ⟨env, m, R, eo, s, h, kq⟩ := h
  exact ⟨C, mc, v, u, rfl, k1, k2, kq _ m _ H h Fr.refl s (r _ _)⟩
end
/-! classes made by the names of parameters -/
structure CalCK (X : Cx) (C : Addr) (k : Nat) (ks : List Str) (is : List Nat) (sp : DSp) : Prop where
  ex : ∃ f, Mk X.K C f ∧ FnGK X.prog X.w X.K X.mg X.base CX0 k f 1 ks is (liftSp X.K sp)
section
variable {X : Cx} {C : Addr} {k : Nat} {ks : List Str} {is : List Nat} {sp : DSp} {x : Str} {p pos : Pos} {kws : List Keyword} {t : DTA}
theorem run_makeGK {pins : List (Addr × Obj)} {σ : L2.St} {H : Hp} {s : Shared} {CX : CXT} {f : Addr} {sp : Sp} {E : XK} {Q : VK} {ws : List Value} {zs : List V} (M0 : Mk X.K C f) (F : FnGK X.prog X.w X.K X.mg X.base CX k f 1 ks is sp) (hr : RoomG (k + 1) X.A) (hx : Passes CX X E) (I : Inv X pins σ H s) (r : Vals zs ws) (lz : zs.length = ks.length)
    (h : ∀ x dx, H x = none → H dx = none → dx ≠ x → sp (permL is (V.ref x :: zs)) (upd (upd H dx (.own x)) x (.ins C dx [])) (fun v H2 => v = .non ∧ Q (.ref x) H2) E) : wpAny (model X.prog X.w) X.A (call (.ref C) [] (ks.zip ws)) (EP X pins σ Q) X.xe s := by
  have J := Inv.made (C := C) I
  have q := h (s.heap.objs.size + 1) s.heap.objs.size (I.hok.fresh (Nat.le_succ _)) (I.hok.fresh (Nat.le_refl _)) (Nat.ne_of_lt (Nat.lt_succ_self _))
  refine wpAny_call (make_map (f := f) I.kIn M0.makes M0.init (beq_iff_eq.mp M0.fn) (codeAny_mono (F _ X.stack _ _ [Value.ref (s.heap.objs.size + 1)] ws [V.ref (s.heap.objs.size + 1)] zs _ E (hr.make C [] (ks.zip ws)) (J.env0.make C [] (ks.zip ws)) (.cons rfl .nil) r rfl lz q) fun res s' h => ?_))
  match res, h with
  | .error e, h => exact hx pins σ _ _ e s' J h
  | .ok (.ret u), h =>
    obtain ⟨v, H', J', rv, ev, q'⟩ := J.after h
    subst ev
    exact ⟨rv, V.ref (s.heap.objs.size + 1), H', J', rfl, q'⟩
  | .ok .next, h => exact h.elim
  | .ok .brk, h => exact h.elim
  | .ok .cont, h => exact h.elim
/-- C(x = .., ..) -/
def tNwK (C : Addr) (ks : List Str) (is : List Nat) (sp : DSp) (t : DTA) : DTE := fun env st Q => t env st fun ds m1 => ds.length = ks.length ∧ ∀ x, m1 x = none → sp (permL is (.ref x :: ds)) (updM m1 x (.ins C [] [])) fun d m2 => d = .non ∧ Q (.ref x) m2
theorem de_newK (c : CalCK X C k ks is sp) (hr : RoomG (k + 1) X.A) (hm : X.mg x = some (.ref C)) (ha : DK_ X kws t) (hg : Gl X x := by rfl) (hd : (x == ("__debug__" : Str)) = false := by decide) (hall : (backToKw pos (keywordEach kws X.env)).all (·.1.isSome) = true := by rfl) (hks : (backToKw pos (keywordEach kws X.env)).filterMap (·.1) = ks := by rfl)
    (hpl : ((backTo pos (starEach [] X.env)).any (·.1) || (backToKw pos (keywordEach kws X.env)).any (·.1.isNone)) = false := by rfl) :
    DE X (.Call (.Name x p) [] kws pos) (tNwK C ks is sp t) := by
  obtain ⟨f, M0, F⟩ := c.ex
  refine ⟨⟨fun pins s σ H Q I h => ?_⟩⟩
  obtain ⟨env, mm, R, eo, sm, h, kq⟩ := h
  have h0 : liftA X.K t σ H (fun zs H2 => zs.length = ks.length ∧ ∀ x dx, H2 x = none → H2 dx = none → dx ≠ x → liftSp X.K sp (permL is (V.ref x :: zs)) (upd (upd H2 dx (.own x)) x (.ins C dx [])) (fun v H3 => v = .non ∧ Q (.ref x) H3) E0) := by
    refine ⟨env, mm, _, eo, sm, h, fun ds m1 vs H1 h1 f1 s1 r1 => ?_⟩
    obtain ⟨hl, h1⟩ := h1
    refine ⟨by rw [← r1.length]; exact hl, fun x dx hx hdx ne => ?_⟩
    have f0 := Fr.laid (o := .own x) s1 hdx
    have s2 := s1.laid (o := .own x) hdx
    have hx' : upd H1 dx (.own x) x = none := by rw [upd_ne ne.symm]; exact hx
    have f2 := Fr.laidM (o := .ins C dx []) (d := .ins C [] []) s2 hx'
    have s3 := Sim.laidM (o := .ins C dx []) (d := .ins C [] []) s2 hx' ⟨dx, [], upd_same, rfl, .nil⟩
    refine ⟨permL is (.ref x :: ds), _, _, permL_rep (.cons rep_ref (RepL.mono (f0.trans f2) _ _ r1)) is, s3, h1 x (s1.free hx), fun d m' v H' a1 a2 a3 a4 => ?_⟩
    obtain ⟨rfl, a1⟩ := a1
    exact ⟨by simpa only [Rep] using a4, kq _ m' _ H' a1 (f1.trans ((f0.trans f2).trans a2)) a3 rep_ref⟩
  refine wpAny_Call_Name_kw (ld_glob I hg hm ?_ hd)
  refine PySem.W.callWith_KW0 (first := []) (h₀ := X.base) I.ok.mod.kin M0.kp hall (thn (ha.run.run pos pins s σ H _ I h0) fun us s2 hx2 => ?_) hpl
  obtain ⟨zs, H2, I2, r, hl, q2⟩ := hx2
  rw [hks]
  exact ⟨I2.kIn, run_makeGK M0 F hr pass0 I2 r hl q2⟩
end
end DL
/-! ### DL31: defs with defaults -/
namespace DL
open PySem PySem.Spec PyProof.Rows L2
/-- a def whose last parameters have defaults -/
structure FunV (K : PySem.W.Frag) (x qual : Str) (st : Stmt) (dvs : List V) (f : Addr) (fd : FuncData) : Prop where
  ex : ∃ (oc : Value) (od : Option Addr) (T : Addr) (kV doc pm : Value) (an : Option Addr) (cdv ct : Value) (osl : Array (Option Value)) (o : Obj) (its : List Value) (n : Nat),
    fd = PySem.W.fnOf x qual (defArgs st) (defBody st) (defScope st) (.ref T) kV doc pm an cdv ct ∧ K.lookup f = some ⟨oc, od, .func fd, osl⟩ ∧ PySem.W.codeIn K cdv qual = true ∧ K.lookup T = some o ∧ o.data = .seq its.toArray n ∧ Vals dvs its
section
variable {P : Program} {w : World} {K : PySem.W.Frag} {mg : Str → Option Value} {base : Heap}
theorem fn_mkV {x qual : Str} {st : Stmt} {f : Addr} {fd : FuncData} {N ps : List Str} {k n j : Nat} {sp : DSp} {t : DTS} {dvs : List V} {dds : List D} (F : FunV K x qual st dvs f fd) (S : FnScope N ps (defScope st)) (hd : ∀ m H, RepL K m H dds dvs)
    (hb : ∀ (T : Addr) (kV doc pm : Value) (an : Option Addr) (cdv ct : Value) (us its : List Value), us.length = n → its.length = dvs.length →
      ∃ k, bindArgs (PySem.W.fnOf x qual (defArgs st) (defBody st) (defScope st) (.ref T) kV doc pm an cdv ct) ⟨us, []⟩ = seqItems? (.ref T) >>= k ∧ k (some its.toArray) = pure (ps.zip (us ++ its.drop j)))
    (hn : ∀ ds m R, sp ds m R → ds.length = n) (hl : n + (dvs.length - j) = ps.length)
    (hbody : ∀ (cdv : Value) (A : Around) (outer : List PySem.Env) (s : Shared) (H : Hp) (E : XK), RoomG k (A.deeper (envOfC qual (defScope st) s.heap.objs.size f cdv)) → DSs (cxOf CX0 P w K mg base N qual (defScope st) f cdv A outer s H E).nox (defBody st) t)
    (hsp : ∀ ds m R, sp ds m R → t (startD N.length (ds ++ dds.drop j)) m (bodyEnds R)) : FnG P w K mg base CX0 (k + 1) f (liftSp K sp) := by
  obtain ⟨oc, od, T, kV, doc, pm, an, cdv, ct, osl, o, its, nn, rfl, lk, hcd, lT, oT, rT⟩ := F.ex
  intro A outer s H us vs Q E hr e0 rv ⟨ds, m, R, r, sm, q, kq⟩
  have lv : vs.length = n := by rw [← r.length]; exact hn _ _ _ q
  have kin : K.In s.heap := e0.mod.kin.keeps fun b o e => (e0.bs b o e).1
  obtain ⟨kk, e1, e2⟩ := hb T kV doc pm an cdv ct us its (by rw [← rv.length]; exact lv) rT.length.symm
  have hb1 : BindsTo s (PySem.W.fnOf x qual (defArgs st) (defBody st) (defScope st) (.ref T) kV doc pm an cdv ct) ⟨us, []⟩ (ps.zip (us ++ its.drop j)) := BindsTo.of_looks fun M => by
    rw [e1]
    exact looks_items kin lT oT (.of_pure e2)
  have lz : (vs ++ dvs.drop j).length = ps.length := by rw [List.length_append, List.length_drop, lv]; exact hl
  refine StX.run_bnd lk hcd S hr.r e0 (G := fun xs H2 => xs = vs ++ dvs.drop j ∧ H2 = H) (fun A' Ex Q' h => hb1 _ _ _ _ (h s H (vs ++ dvs.drop j) (us ++ its.drop j) e0 Un.refl rfl (fun _ _ z => z) (rv.append (rT.drop j)) lz ⟨rfl, rfl⟩)) fun s2 H2 xs g hr' => ?_
  obtain ⟨rfl, rfl⟩ := g
  exact ⟨_, (hbody cdv A outer s2 _ E ⟨hr', hr.g⟩).run.nox, body_lift (ds := ds ++ dds.drop j) (RepL.append r ((hd m H2).drop j)) sm (hsp _ _ _ q) kq⟩
/-- by names: all parameters are given -/
theorem fn_mkVK {x qual : Str} {st : Stmt} {f : Addr} {fd : FuncData} {N ps ks : List Str} {is : List Nat} {n k : Nat} {sp : DSp} {t : DTS} {dvs : List V} (F : FunV K x qual st dvs f fd) (S : FnScope N ps (defScope st))
    (hb : ∀ (T : Addr) (kV doc pm : Value) (an : Option Addr) (cdv ct : Value) (us its ws : List Value), us.length = n → its.length = dvs.length → ws.length = ks.length →
      ∃ k, bindArgs (PySem.W.fnOf x qual (defArgs st) (defBody st) (defScope st) (.ref T) kV doc pm an cdv ct) ⟨us, ks.zip ws⟩ = seqItems? (.ref T) >>= k ∧ k (some its.toArray) = pure (ps.zip (permL is (us ++ ws))))
    (hn : ∀ ds m R, sp ds m R → ds.length = ps.length)
    (hbody : ∀ (cdv : Value) (A : Around) (outer : List PySem.Env) (s : Shared) (H : Hp) (E : XK), RoomG k (A.deeper (envOfC qual (defScope st) s.heap.objs.size f cdv)) → DSs (cxOf CX0 P w K mg base N qual (defScope st) f cdv A outer s H E).nox (defBody st) t)
    (hsp : ∀ ds m R, sp ds m R → t (startD N.length ds) m (bodyEnds R)) : FnGK P w K mg base CX0 (k + 1) f n ks is (liftSp K sp) := by
  obtain ⟨oc, od, T, kV, doc, pm, an, cdv, ct, osl, o, its, nn, rfl, lk, hcd, lT, oT, rT⟩ := F.ex
  intro A outer s H us ws vs zs Q E hr e0 rv rz ln lz ⟨ds, m, R, r, sm, q, kq⟩
  have kin : K.In s.heap := e0.mod.kin.keeps fun b o e => (e0.bs b o e).1
  obtain ⟨kk, e1, e2⟩ := hb T kV doc pm an cdv ct us its ws (by rw [← rv.length]; exact ln) rT.length.symm (by rw [← rz.length]; exact lz)
  have hb1 : BindsTo s (PySem.W.fnOf x qual (defArgs st) (defBody st) (defScope st) (.ref T) kV doc pm an cdv ct) ⟨us, ks.zip ws⟩ (ps.zip (permL is (us ++ ws))) := BindsTo.of_looks fun M => by
    rw [e1]
    exact looks_items kin lT oT (.of_pure e2)
  have rp := permL_vals (rv.append rz) is
  have hl : (permL is (vs ++ zs)).length = ps.length := by rw [← r.length]; exact hn _ _ _ q
  refine StX.run_bnd lk hcd S hr.r e0 (G := fun xs H2 => xs = permL is (vs ++ zs) ∧ H2 = H) (fun A' Ex Q' h => hb1 _ _ _ _ (h s H _ _ e0 Un.refl rfl (fun _ _ z => z) rp hl ⟨rfl, rfl⟩)) fun s2 H2 xs g hr' => ?_
  obtain ⟨rfl, rfl⟩ := g
  exact ⟨_, (hbody cdv A outer s2 _ E ⟨hr', hr.g⟩).run.nox, body_lift r sm (hsp _ _ _ q) kq⟩
end
end DL
/-! ### DL32: defs that say super() -/
namespace DL
open PySem PySem.Spec PyProof.Rows L2
abbrev envS (qual : Str) (scope : Scope) (L f : Addr) (cd : Value) (cc : Addr) : PySem.Env := PySem.W.ksEnv qual scope L f cd cc
/-- the context of the body of a def that holds the cell __class__ -/
def cxS (CX : CXT) (P : Program) (w : World) (K : PySem.W.Frag) (mg : Str → Option Value) (base : Heap) (N : List Str) (qual : Str) (scope : Scope) (f cc : Addr) (cd : Value) (A : Around) (outer : List PySem.Env) (s : Shared) (H : Hp) (E : XK) : Cx where
  prog := P
  w := w
  K := K
  mg := mg
  base := base
  A := A.deeper (envS qual scope s.heap.objs.size f cd cc)
  N := N
  s_0 := s
  H_0 := H
  env := envS qual scope s.heap.objs.size f cd cc
  outer := outer
  stack := envS qual scope s.heap.objs.size f cd cc :: outer
  ex := []
  calm := true
  fn := fun _ => false
  pn := []
  xe := fun e s' => wpAny (model P w) (A.deeper (envS qual scope s.heap.objs.size f cd cc)) (leaving (envS qual scope s.heap.objs.size f cd cc) e) (fun _ s'' => CX outer H s E e s'') (fun e' s'' => CX outer H s E e' s'') s'
structure SScope (N P : List Str) (sc : Scope) : Prop where
  kind : sc.kind = .function
  co : sc.isCoroutine = false
  gen : sc.isGenerator = false
  nd : N.Nodup
  pre : N.take P.length = P
  par : ∀ x ∈ P, sc.names.lookup x = some .local
  nocell : ∀ y ∈ sc.names, y.2 ≠ .cell
  free : ∀ y ∈ sc.names, y.2 = .free → y.1 = "__class__"
theorem zip_fst : ∀ (ps : List Str) (us : List Value), ((ps.zip us).map (·.1)).Sublist ps
  | [], _ => by simp
  | _ :: _, [] => by simp
  | p :: ps, u :: us => by
    rw [List.zip_cons_cons, List.map_cons]
    exact (zip_fst ps us).cons₂ p
theorem rev_look : ∀ {ps : List Str} {us : List Value} {i : Nat} {x : Str} {u : Value}, ps.Nodup → ps[i]? = some x → us[i]? = some u → (ps.zip us).reverse.lookup x = some u := by
  intro ps us i x u nd h1 h2
  have hz : (ps.zip us)[i]? = some (x, u) := by
    rw [List.getElem?_zip_eq_some]; exact ⟨h1, h2⟩
  have hm : (x, u) ∈ (ps.zip us).reverse := List.mem_reverse.mpr (List.mem_of_getElem? hz)
  have hnd : (((ps.zip us).reverse).map (·.1)).Nodup := by
    rw [List.map_reverse]
    refine (List.reverse_perm _).nodup_iff.mpr ?_
    exact nd.sublist (zip_fst ps us)
  generalize (ps.zip us).reverse = l at hm hnd
  induction l with
  | nil => cases hm
  | cons q l ih =>
    obtain ⟨y, v⟩ := q
    simp only [List.map_cons, List.nodup_cons] at hnd
    rcases List.mem_cons.mp hm with e | hm
    · cases e; simp
    · have : (x == y) = false := by
        refine beq_eq_false_iff_ne.mpr fun e => hnd.1 ?_
        rw [← e]; exact List.mem_map_of_mem (f := (·.1)) hm
      simp only [List.lookup, this]
      exact ih hm hnd.2
theorem inv_startS {CX : CXT} {P : Program} {w : World} {K : PySem.W.Frag} {mg : Str → Option Value} {base : Heap} {N ps : List Str} {qual : Str} {scope : Scope} {f cc : Addr} {cd : Value} {A : Around} {outer : List PySem.Env} {s : Shared} {h1 : Heap} {tk : Nat} {H : Hp} {E : XK} {us : List Value} {vs : List V} {oc : Obj} {cv : Option Value}
    (S : SScope N ps scope) (hd : A.handled = none) (e0 : Env0 P w K mg base A outer s H) (hl : vs.length = ps.length) (r : Vals vs us) (hcc : base.get? cc = some oc) (hcv : oc.data = .cell cv)
    (hns : h1.Ns s.heap.objs.size fun y => (ps.zip us).reverse.lookup y) (kp : ∀ b o, s.heap.get? b = some o → h1.get? b = some o) :
    Inv (cxS CX P w K mg base N qual scope f cc cd A outer s H E) [] (L2.start N vs) H { s with heap := h1, toks := tk } := by
  have hpl : ps.length ≤ N.length := by have := congrArg List.length S.pre; rw [List.length_take] at this; omega
  have noA : ∀ b : Addr, b ∉ (cxS CX P w K mg base N qual scope f cc cd A outer s H E).ex := fun b z => absurd (show b ∈ ([] : List Addr) from z) (by simp)
  have cell1 : ∀ {y : Str} {c : Addr}, [(("__class__" : Str), cc)].lookup y = some c → y = "__class__" ∧ c = cc := fun {y c} e => by
    simp only [List.lookup] at e
    split at e
    · rename_i q
      exact ⟨by simpa using q, by cases e; rfl⟩
    · cases e
  refine ⟨⟨e0.mod, S.kind, rfl, rfl, Nat.le_refl _, fun y z c h1 h2 => (cell1 h1).1.trans (cell1 h2).1.symm, fun y hy => ?_, fun y c z _ => ?_, fun _ => hd, Around.frames_deeper e0.frames, .inr ⟨rfl, rfl⟩, fun b z => absurd z (noA b), e0.bs, e0.bsz, fun b _ _ => noA b, fun b z => absurd z (noA b), e0.funs, e0.frf⟩,
    rfl, e0.bare, Un.kept kp, ⟨_, hns, fun i y v a1 a2 a3 => ?_⟩, fun y c h => ?_, e0.hok.fresh (Nat.le_refl _), fun y c h => ?_, fun p hp => absurd (show p ∈ ([] : List (Addr × Obj)) from hp) (by simp), e0.hok.kept kp, ?_⟩
  · have hy : scope.names.lookup y = some .cell ∨ scope.names.lookup y = some .free := hy
    rcases hy with hy | hy
    · exact absurd rfl (S.nocell _ (PySem.mem_of_lookup hy))
    · have e := S.free _ (PySem.mem_of_lookup hy) rfl
      have e : y = "__class__" := e
      subst e
      refine ⟨cc, ?_⟩
      show List.lookup ("__class__" : Str) [(("__class__" : Str), cc)] = some cc
      simp [List.lookup]
  · have z : false = true := z
    cases z
  · have hi : i < vs.length := by
      unfold L2.start at a2
      by_cases hi : i < vs.length
      · exact hi
      · rw [List.getElem?_append_right (by simpa using hi)] at a2
        rw [List.getElem?_replicate] at a2
        split at a2 <;> cases a2
    have ha : vs[i]? = some v := by
      unfold L2.start at a2
      rw [List.getElem?_append_left (by simpa using hi), List.getElem?_map] at a2
      cases e : vs[i]? with
      | none => rw [e] at a2; cases a2
      | some a => rw [e] at a2; cases a2; rfl
    obtain ⟨u, hu, rv⟩ := r.get ha
    have hp : ps[i]? = some y := by
      rw [← S.pre, List.getElem?_take_of_lt (by omega)]; exact a1
    have ndP : ps.Nodup := by rw [← S.pre]; exact S.nd.sublist (List.take_sublist _ _)
    exact ⟨u, rv, .inl ⟨S.par y (List.mem_of_getElem? hp), rev_look ndP hp hu⟩⟩
  · obtain ⟨_, rfl⟩ := cell1 h
    obtain ⟨b1, _⟩ := e0.bs _ _ hcc
    exact ⟨cv, oc, kp _ _ b1, hcv⟩
  · obtain ⟨_, rfl⟩ := cell1 h
    exact (e0.bs _ _ hcc).2
  · unfold L2.start
    show _ = N.length
    rw [List.length_append, List.length_map, List.length_replicate]
    omega
end DL
/-! ### DL33: super().__init__(..) as the first statement of an own __init__ -/
namespace DL
open PySem PySem.Spec PyProof.Rows L2
/-- a def that holds the cell __class__ with the class at D -/
structure FunS (K : PySem.W.Frag) (x qual : Str) (st : Stmt) (CD : Addr) (file : Str) (f cc cda : Addr) (fd : FuncData) : Prop where
  ex : ∃ (oc : Value) (od : Option Addr) (kV doc pm : Value) (an : Option Addr) (ct : Value) (osl : Array (Option Value)),
    fd = PySem.W.ksFn x qual (defArgs st) (defBody st) (defScope st) .none kV doc pm an (.ref cda) ct cc ∧ K.lookup f = some ⟨oc, od, .func fd, osl⟩
  cd : PySem.W.codeIn K (.ref cda) qual = true
  code : ∃ (c : Value) (d : Option Addr) (vs : Array Value) (sl : Array (Option Value)) (tf : Tok), K.lookup cda = some ⟨c, d, .fields vs, sl⟩ ∧ vs[2]? = some (.str file tf)
  cell : ∃ (c : Value) (d : Option Addr) (sl : Array (Option Value)), K.lookup cc = some ⟨c, d, .cell (some (.ref CD)), sl⟩
/-- super().name of an instance of C, within a def of D: the def at g -/
structure SupOk (K : PySem.W.Frag) (mg : Str → Option Value) (C CD g : Addr) (name : Str) : Prop where
  cls : ∃ cd, PySem.W.clsIn K CD = some cd
  sub : PySem.W.mroIn K C (.ref CD) = some true
  at_ : PySem.W.ks_superIn K C CD name = some (some (.ref g))
  ty : PySem.W.typeIn K (.ref g) = some (.type "function")
  fn : PySem.W.fnIn K g = true
  opq : PySem.W.nsIn K cStatics "thirdparty.any" = some none
  nosup : mg "super" = none
def tSup (C : Addr) (sp2 : DSp) (tA : DTA) (tR : DTS) : DTS := fun env m E => ∃ x ns vs, env[0]? = some (some (.ref x)) ∧ m x = some (.ins C ns vs) ∧ tA env m fun ds m1 => sp2 (.ref x :: ds) m1 fun _ m2 => tR env m2 E
section
variable {P : Program} {w : World} {K : PySem.W.Frag} {mg : Str → Option Value} {base : Heap}
theorem super_run {x qual : Str} {st : Stmt} {f cc cda C CD g : Addr} {fd : FuncData} {file : Str} {N ps : List Str} {self : Str} {ar : Arg} {k : Nat} {sp2 : DSp} {tA : DTA} {tR : DTS} {e : Expr} {es : List Expr} {rest : List Stmt} {p0 p1 p2 p3 p4 : Pos}
    (F : FunS K x qual st CD file f cc cda fd) (S : SScope N ps (defScope st)) (hself : N[0]? = some self) (hloc0 : (defScope st).names.lookup self = some .local) (har : ((defArgs st).posonlyargs ++ (defArgs st).args).head? = some ar) (hars : ar.arg = self)
    (hsn : (defScope st).names.lookup ("super" : Str) = some .globalImplicit) (hcn : (defScope st).names.lookup ("__class__" : Str) = some .free)
    (hst : defBody st = .Expr (.Call (.Attribute (.Call (.Name "super" p0) [] [] p1) "__init__" p2) (e :: es) [] p3) p4 :: rest)
    (hfile : ((P.main.file : Str) == file) = true) (htop : (P.main.scope.names.lookup ("super" : Str)).isSome = false)
    (U : SupOk K mg C CD g "__init__") (G : FnG P w K mg base CX0 k g (liftSp K sp2))
    {A : Around} {outer : List PySem.Env} {s : Shared} {H : Hp} {args : Args} {us : List Value} {vs : List V} {Q : VK} {E : XK} {ds : List D} {m : M} {R : DK}
    (hA : DA (cxS CX0 P w K mg base N qual (defScope st) f cc (.ref cda) A outer s H E) (e :: es) tA) (hR : DSs (cxS CX0 P w K mg base N qual (defScope st) f cc (.ref cda) A outer s H E).nox rest tR)
    (hi : ∀ L, interactive (envS qual (defScope st) L f (.ref cda) cc) = false) (hsw : ∀ L, swapsWith (.Call (.Attribute (.Call (.Name "super" p0) [] [] p1) "__init__" p2) (e :: es) [] p3) none p4.line (envS qual (defScope st) L f (.ref cda) cc) = pure false)
    (hse : ∀ L, starEach (e :: es) (envS qual (defScope st) L f (.ref cda) cc) = (false, eval e (envS qual (defScope st) L f (.ref cda) cc)) :: starEach es (envS qual (defScope st) L f (.ref cda) cc)) (hpl : ∀ L, (backTo p3 (starEach es (envS qual (defScope st) L f (.ref cda) cc))).any (·.1) = false)
    {pl : Sem Bool} (hev : ∀ L, eval (.Call (.Attribute (.Call (.Name "super" p0) [] [] p1) "__init__" p2) (e :: es) [] p3) (envS qual (defScope st) L f (.ref cda) cc) = (do
      let ov ← attributeBase (.Call (.Name "super" p0) [] [] p1) "__init__" (envS qual (defScope st) L f (.ref cda) cc) (eval (.Call (.Name "super" p0) [] [] p1) (envS qual (defScope st) L f (.ref cda) cc))
      standAt p2.atName
      let (fn, first) ← holding [ov] (getMethod ov "__init__" pl)
      callWith p3 fn first (backTo p3 (starEach (e :: es) (envS qual (defScope st) L f (.ref cda) cc))) []))
    (hr : RoomG (k + 1) A) (e0 : Env0 P w K mg base A outer s H) (rv : Vals vs us) (hl : vs.length = ps.length) (hb : BindsTo s fd args (ps.zip us))
    (r : RepL K m H ds vs) (sm : Sim K m H) (q : tSup C sp2 tA tR (startD N.length ds) m (bodyEnds R)) (kq : ∀ d m' v H', R d m' → Fr m H m' H' → Sim K m' H' → Rep K m' H' d v → Q v H') :
    codeAny (model P w) A (.call (.ref f) args) (CR CX0 outer P w H s Q E) s := by
  obtain ⟨oc, od, kV, doc, pm, an, ct, osl, rfl, lk⟩ := F.ex
  have kin : K.In s.heap := e0.mod.kin.keeps fun b o e => (e0.bs b o e).1
  have lim : s.heap.NoLimit := e0.mod.nolimit.keeps fun b o e => (e0.bs b o e).1
  obtain ⟨ccl, ccd, ccs, hcell⟩ := F.cell
  obtain ⟨dcl, dcd, dvs, dsl, tf, hcode, hvs⟩ := F.code
  refine ks_codeAny_call_defAt hr.r.depth (kin _ _ lk) rfl lim (PySem.W.codeRec_of kin F.cd) rfl hb S.nocell (fun y hy => S.par y.1 (List.of_mem_zip hy).1) (fun h1 hns kp => ?_) S.co S.gen S.kind
  have J : Inv (cxS CX0 P w K mg base N qual (defScope st) f cc (.ref cda) A outer s H E) [] (L2.start N vs) H { s with heap := h1, toks := s.toks + (ps.zip us).length } :=
    inv_startS S hr.r.hd e0 hl rv (e0.mod.kin _ _ hcell) rfl hns kp
  have EO : EnvOk K m H (L2.start N vs) (startD N.length ds) := EnvOk.start r
  obtain ⟨a, ns, fvs, ea, em, qA⟩ := q
  obtain ⟨va, eva, ra⟩ := EO.get 0 _ ea
  simp only [Rep] at ra
  subst ra
  obtain ⟨dx, fs, hH, _, _⟩ := sm a _ em
  have hr' : RoomG k (A.deeper (envS qual (defScope st) s.heap.objs.size f (.ref cda) cc)) := ⟨hr.r.deeper _, hr.g⟩
  suffices goal2 : _root_.PySem.wpAt (model P w) (A.deeper (envS qual (defScope st) s.heap.objs.size f (.ref cda) cc)) (.func (defBody st) (envS qual (defScope st) s.heap.objs.size f (.ref cda) cc)) (execs (defBody st) (envS qual (defScope st) s.heap.objs.size f (.ref cda) cc))
      (fun fl s' => CR CX0 outer P w H s Q E (.ok (.ret (match fl with | .ret v => v | _ => .none))) s')
      (fun e s' => wpAny (model P w) (A.deeper (envS qual (defScope st) s.heap.objs.size f (.ref cda) cc)) (leaving (envS qual (defScope st) s.heap.objs.size f (.ref cda) cc) e) (fun _ s'' => CR CX0 outer P w H s Q E (.error e) s'') (fun e' s'' => CR CX0 outer P w H s Q E (.error e') s'') s')
      { s with heap := h1, toks := s.toks + (ps.zip us).length } by
    exact goal2
  rw [hst]
  refine ks_wpAt_execs_cons (ks_wpAt_Expr_any (ks_wpAt_MethodCall ?_ (hev _)) (hi _) (hsw _))
  -- the loads
  obtain ⟨ml, hml, hlk⟩ := J.loc
  obtain ⟨u0, ru0, lk0⟩ := hlk 0 self (.ref a) hself eva (.inl hloc0)
  obtain rfl : u0 = Value.ref a := ru0
  have hlv : ml self = some (.ref a) := by
    rcases lk0 with ⟨_, z⟩ | ⟨z, _⟩
    · exact z
    · have z' : (defScope st).names.lookup self = some .cell ∨ (defScope st).names.lookup self = some .free := z
      rw [hloc0] at z'
      rcases z' with z' | z' <;> cases z'
  obtain ⟨mA, O, _, _, _, _⟩ := ins_get J.hok hH
  obtain ⟨odx, I0, _⟩ := O.look
  obtain ⟨cdD, hcD⟩ := U.cls
  have X := J.kIn
  obtain ⟨oD, hD1, hD2⟩ : ∃ oD, h1.get? CD = some oD ∧ oD.data = .cls cdD := by
    unfold PySem.W.clsIn at hcD
    split at hcD
    · rename_i z ho
      cases hcD
      exact ⟨_, X _ _ ho, rfl⟩
    · cases hcD
  obtain ⟨mb, hmb, hbt⟩ := J.mod.blt
  refine ks_wpAt_super_base (env := envS qual (defScope st) s.heap.objs.size f (.ref cda) cc) hsn hcn (by decide) rfl (X _ _ lk) rfl har rfl (X _ _ hcode) rfl hvs hfile htop ?_
  refine PySem.W.ks_loadName_global S.kind hsn (Calls.loadGlobal_builtin (env := envS qual (defScope st) s.heap.objs.size f (.ref cda) cc) (J.mod.glob.keeps J.bk) U.nosup (hmb.keeps J.bk) ((hbt _ (by decide)).trans (by rfl)) ⟨rfl, ?_⟩)
  refine wpAny_loadName_free S.kind hcn rfl ⟨_, X _ _ hcell, rfl⟩ ?_
  rw [hars]
  refine wpAny_loadName_local S.kind hloc0 hml hlv ?_
  refine ks_wpAny_isType_cls hD1 hD2 ⟨rfl, ?_⟩
  refine ks_wpAny_call_super hD1 hD2 I0.at_ I0.cls (fun c e => ?_) (PySem.W.looks_mroIn X U.sub) (fun h2 e2 k2 => ?_)
  · cases e
  have J2 := J.kept (h' := h2) (t' := s.toks + (ps.zip us).length) k2
  have X2 : K.In h2 := J2.kIn
  obtain ⟨mA2, O2, _⟩ := ins_get J2.hok hH
  obtain ⟨od2, I2, _⟩ := O2.look
  obtain ⟨gcl, god, gdt, gsl, glk, gty⟩ : ∃ c d dt sl, K.lookup g = some ⟨c, d, dt, sl⟩ ∧ c = .type "function" := by
    have t := U.ty
    unfold PySem.W.typeIn at t
    dsimp only at t
    cases z : K.lookup g with
    | none => rw [z] at t; cases t
    | some o =>
      rw [z] at t
      exact ⟨o.cls, o.dict, o.data, o.slots, rfl, Option.some.inj t⟩
  obtain ⟨cdC, hcC, hal⟩ : ∃ cd, PySem.W.clsIn K C = some cd ∧ PySem.W.alongIn K "__init__" ((cd.mro.dropWhile (· != .ref CD)).drop 1) = some (some (.ref g)) := by
    have t := U.at_
    unfold PySem.W.ks_superIn at t
    exact Option.bind_eq_some_iff.mp t
  refine ks_wpAny_getMethod_super e2 (PySem.W.looks_opaque X2 U.opq) ((PySem.W.looks_clsIn X2 hcC).andThen .now) rfl X2 hal (X2 _ _ glk) gty (PySem.W.ks_ne X2 I2 hcC) (by decide) ?_
  have hq : H h2.objs.size = none := J2.hok.fresh (Nat.le_refl _)
  have J3 := J2.laid (t' := s.toks + (ps.zip us).length + 1) (a := h2.objs.size) (o := .met g a) (fun b u z => Heap.get?_push_of_some (PySem.W.methodObj (.ref g) (.ref a)) z) (Nat.le_refl _)
    (Heap.get?_push_size h2 rfl)
  have f3 := Fr.laid (o := HO.met g a) sm hq
  refine callwith_met (X := cxS CX0 P w K mg base N qual (defScope st) f cc (.ref cda) A outer s H E) (g := g) (a := a) ?_ U.fn ?_
  · rw [hse]
    show ((false || (backTo p3 (starEach es (envS qual (defScope st) s.heap.objs.size f (.ref cda) cc))).any (·.1)) || false) = false
    rw [hpl]; rfl
  have hrun := hA.run.run p3 [] _ (L2.start N vs) (upd H h2.objs.size (.met g a)) (fun zs H4 => H4 h2.objs.size = some (.met g a) ∧ liftSp K sp2 (V.ref a :: zs) H4 (fun _ H5 => ∃ env m5 R5, EnvOk K m5 H5 (L2.start N vs) env ∧ Sim K m5 H5 ∧ tR env m5 R5 ∧ (R5 = bodyEnds R) ∧ Fr m H m5 H5) E0) J3
    ⟨startD N.length ds, m, _, EO.mono f3, sm.laid hq, qA, fun d4 m4 v4 H4 a1 a2 a3 a4 => ⟨?_, .ref a :: d4, m4, _, .cons rep_ref a4, a3, a1, fun d5 m5 v5 H5 b1 b2 b3 b4 => ⟨_, m5, _, EO.mono ((f3.trans a2).trans b2), b3, b1, rfl, (f3.trans a2).trans b2⟩⟩⟩
  rotate_left
  · obtain ⟨_, u', e3, e4⟩ := a2 h2.objs.size _ (sm.free hq) upd_same
    rw [e3, e4.met]
  have hse1 : starEach (e :: es) (cxS CX0 P w K mg base N qual (defScope st) f cc (.ref cda) A outer s H E).env = (false, eval e (cxS CX0 P w K mg base N qual (defScope st) f cc (.ref cda) A outer s H E).env) :: starEach es (cxS CX0 P w K mg base N qual (defScope st) f cc (.ref cda) A outer s H E).env := hse _
  rw [hse1] at hrun
  rw [hse]
  refine Calls.evalArgs_plain (thn hrun fun us4 s4 hx4 => ?_)
  obtain ⟨zs, H4, J4, rz, hm4, hsp⟩ := hx4
  refine ⟨met_P J4 hm4, ?_⟩
  refine thn (wpAny_call (PySem.W.method_call (met_P J4 hm4).1 (run_fnC (us := Value.ref a :: us4) (vs := V.ref a :: zs) G hr' pass0 J4 (.cons rfl rz) hsp))) fun u5 s5 hx5 => ?_
  obtain ⟨v5, H5, J5, r5, env5, m5, R5, EO5, S5, h5, rfl, f5⟩ := hx5
  refine wpAt_of_wpAny ?_
  have hrest := (hR.run.nox).run [] s5 (L2.start N vs) H5 { nx := fun _ H' => Q .non H', rt := Q } J5
    ⟨env5, m5, _, EO5, S5, h5, fun env' m' σ' H' a1 a2 a3 a4 => kq .non m' .non H' a1 (f5.trans a4) a3 rep_non, fun d m' v H' a1 a2 a3 a4 => kq d m' v H' a1 (f5.trans a2) a3 a4, fun _ _ _ _ z => z.elim, fun _ _ _ _ z => z.elim⟩
  refine wpAny_mono hrest (fun fl s' hs => ?_) fun e s' hs => hs
  cases fl with
  | ret u =>
    obtain ⟨v, σ', H', J6, rv6, q6⟩ := hs
    exact ⟨v, H', J6.os, J6.bare, J6.base, J6.hok, rv6, q6⟩
  | next =>
    obtain ⟨σ', H', J6, q6⟩ := hs
    exact ⟨V.non, H', J6.os, J6.bare, J6.base, J6.hok, rfl, q6⟩
  | brk =>
    obtain ⟨_, _, _, q6⟩ := hs
    exact False.elim q6
  | cont =>
    obtain ⟨_, _, _, q6⟩ := hs
    exact False.elim q6
theorem fn_superK {x qual : Str} {st : Stmt} {f cc cda C CD g : Addr} {fd : FuncData} {file : Str} {N ps : List Str} {self : Str} {ar : Arg} {k : Nat} {sp sp2 : DSp} {tA : DTA} {tR : DTS} {e : Expr} {es : List Expr} {rest : List Stmt} {p0 p1 p2 p3 p4 : Pos} {pl : Sem Bool}
    (F : FunS K x qual st CD file f cc cda fd) (S : SScope N ps (defScope st)) (hself : N[0]? = some self) (hloc0 : (defScope st).names.lookup self = some .local) (har : ((defArgs st).posonlyargs ++ (defArgs st).args).head? = some ar) (hars : ar.arg = self)
    (hsn : (defScope st).names.lookup ("super" : Str) = some .globalImplicit) (hcn : (defScope st).names.lookup ("__class__" : Str) = some .free)
    (hst : defBody st = .Expr (.Call (.Attribute (.Call (.Name "super" p0) [] [] p1) "__init__" p2) (e :: es) [] p3) p4 :: rest)
    (hfile : ((P.main.file : Str) == file) = true) (htop : (P.main.scope.names.lookup ("super" : Str)).isSome = false)
    (U : SupOk K mg C CD g "__init__") (G : FnG P w K mg base CX0 k g (liftSp K sp2))
    (hA : ∀ (A : Around) (outer : List PySem.Env) (s : Shared) (H : Hp) (E : XK), DA (cxS CX0 P w K mg base N qual (defScope st) f cc (.ref cda) A outer s H E) (e :: es) tA)
    (hR : ∀ (A : Around) (outer : List PySem.Env) (s : Shared) (H : Hp) (E : XK), RoomG k (A.deeper (envS qual (defScope st) s.heap.objs.size f (.ref cda) cc)) → DSs (cxS CX0 P w K mg base N qual (defScope st) f cc (.ref cda) A outer s H E).nox rest tR)
    (hi : ∀ L, interactive (envS qual (defScope st) L f (.ref cda) cc) = false) (hsw : ∀ L, swapsWith (.Call (.Attribute (.Call (.Name "super" p0) [] [] p1) "__init__" p2) (e :: es) [] p3) none p4.line (envS qual (defScope st) L f (.ref cda) cc) = pure false)
    (hse : ∀ L, starEach (e :: es) (envS qual (defScope st) L f (.ref cda) cc) = (false, eval e (envS qual (defScope st) L f (.ref cda) cc)) :: starEach es (envS qual (defScope st) L f (.ref cda) cc)) (hpl : ∀ L, (backTo p3 (starEach es (envS qual (defScope st) L f (.ref cda) cc))).any (·.1) = false)
    (hev : ∀ L, eval (.Call (.Attribute (.Call (.Name "super" p0) [] [] p1) "__init__" p2) (e :: es) [] p3) (envS qual (defScope st) L f (.ref cda) cc) = (do
      let ov ← attributeBase (.Call (.Name "super" p0) [] [] p1) "__init__" (envS qual (defScope st) L f (.ref cda) cc) (eval (.Call (.Name "super" p0) [] [] p1) (envS qual (defScope st) L f (.ref cda) cc))
      standAt p2.atName
      let (fn, first) ← holding [ov] (getMethod ov "__init__" pl)
      callWith p3 fn first (backTo p3 (starEach (e :: es) (envS qual (defScope st) L f (.ref cda) cc))) []))
    (hn : ∀ ds m R, sp ds m R → ds.length = ps.length) (hsp : ∀ ds m R, sp ds m R → tSup C sp2 tA tR (startD N.length ds) m (bodyEnds R))
    {ks : List Str} {is : List Nat} {n : Nat} (hb : ∀ (kV doc pm : Value) (an : Option Addr) (ct : Value) (us ws : List Value), us.length = n → ws.length = ks.length → bindArgs (PySem.W.ksFn x qual (defArgs st) (defBody st) (defScope st) .none kV doc pm an (.ref cda) ct cc) ⟨us, ks.zip ws⟩ = pure (ps.zip (permL is (us ++ ws)))) :
    FnGK P w K mg base CX0 (k + 1) f n ks is (liftSp K sp) := by
  intro A outer s H us ws vs zs Q E hr e0 rv rz ln lz ⟨ds, m, R, r, sm, q, kq⟩
  have rp := permL_vals (rv.append rz) is
  have hl : (permL is (vs ++ zs)).length = ps.length := by rw [← r.length]; exact hn _ _ _ q
  have hb1 : BindsTo s fd ⟨us, ks.zip ws⟩ (ps.zip (permL is (us ++ ws))) := by
    obtain ⟨oc, od, kV, doc, pm, an, ct, osl, rfl, lk⟩ := F.ex
    exact BindsTo.of_eq (hb kV doc pm an ct us ws (by rw [← rv.length]; exact ln) (by rw [← rz.length]; exact lz))
  exact super_run F S hself hloc0 har hars hsn hcn hst hfile htop U G (hA A outer s H E) (hR A outer s H E ⟨hr.r.deeper _, hr.g⟩) hi hsw hse hpl hev hr e0 rp hl hb1 r sm (hsp _ _ _ q) kq
theorem fn_superG {x qual : Str} {st : Stmt} {f cc cda C CD g : Addr} {fd : FuncData} {file : Str} {N ps : List Str} {self : Str} {ar : Arg} {k : Nat} {sp sp2 : DSp} {tA : DTA} {tR : DTS} {e : Expr} {es : List Expr} {rest : List Stmt} {p0 p1 p2 p3 p4 : Pos} {pl : Sem Bool}
    (F : FunS K x qual st CD file f cc cda fd) (S : SScope N ps (defScope st)) (hself : N[0]? = some self) (hloc0 : (defScope st).names.lookup self = some .local) (har : ((defArgs st).posonlyargs ++ (defArgs st).args).head? = some ar) (hars : ar.arg = self)
    (hsn : (defScope st).names.lookup ("super" : Str) = some .globalImplicit) (hcn : (defScope st).names.lookup ("__class__" : Str) = some .free)
    (hst : defBody st = .Expr (.Call (.Attribute (.Call (.Name "super" p0) [] [] p1) "__init__" p2) (e :: es) [] p3) p4 :: rest)
    (hfile : ((P.main.file : Str) == file) = true) (htop : (P.main.scope.names.lookup ("super" : Str)).isSome = false)
    (U : SupOk K mg C CD g "__init__") (G : FnG P w K mg base CX0 k g (liftSp K sp2))
    (hA : ∀ (A : Around) (outer : List PySem.Env) (s : Shared) (H : Hp) (E : XK), DA (cxS CX0 P w K mg base N qual (defScope st) f cc (.ref cda) A outer s H E) (e :: es) tA)
    (hR : ∀ (A : Around) (outer : List PySem.Env) (s : Shared) (H : Hp) (E : XK), RoomG k (A.deeper (envS qual (defScope st) s.heap.objs.size f (.ref cda) cc)) → DSs (cxS CX0 P w K mg base N qual (defScope st) f cc (.ref cda) A outer s H E).nox rest tR)
    (hi : ∀ L, interactive (envS qual (defScope st) L f (.ref cda) cc) = false) (hsw : ∀ L, swapsWith (.Call (.Attribute (.Call (.Name "super" p0) [] [] p1) "__init__" p2) (e :: es) [] p3) none p4.line (envS qual (defScope st) L f (.ref cda) cc) = pure false)
    (hse : ∀ L, starEach (e :: es) (envS qual (defScope st) L f (.ref cda) cc) = (false, eval e (envS qual (defScope st) L f (.ref cda) cc)) :: starEach es (envS qual (defScope st) L f (.ref cda) cc)) (hpl : ∀ L, (backTo p3 (starEach es (envS qual (defScope st) L f (.ref cda) cc))).any (·.1) = false)
    (hev : ∀ L, eval (.Call (.Attribute (.Call (.Name "super" p0) [] [] p1) "__init__" p2) (e :: es) [] p3) (envS qual (defScope st) L f (.ref cda) cc) = (do
      let ov ← attributeBase (.Call (.Name "super" p0) [] [] p1) "__init__" (envS qual (defScope st) L f (.ref cda) cc) (eval (.Call (.Name "super" p0) [] [] p1) (envS qual (defScope st) L f (.ref cda) cc))
      standAt p2.atName
      let (fn, first) ← holding [ov] (getMethod ov "__init__" pl)
      callWith p3 fn first (backTo p3 (starEach (e :: es) (envS qual (defScope st) L f (.ref cda) cc))) []))
    (hn : ∀ ds m R, sp ds m R → ds.length = ps.length) (hsp : ∀ ds m R, sp ds m R → tSup C sp2 tA tR (startD N.length ds) m (bodyEnds R))
    (hb : ∀ (kV doc pm : Value) (an : Option Addr) (ct : Value) (us : List Value), us.length = ps.length → bindArgs (PySem.W.ksFn x qual (defArgs st) (defBody st) (defScope st) .none kV doc pm an (.ref cda) ct cc) ⟨us, []⟩ = pure (ps.zip us)) :
    FnG P w K mg base CX0 (k + 1) f (liftSp K sp) := by
  intro A outer s H us vs Q E hr e0 rv ⟨ds, m, R, r, sm, q, kq⟩
  have hl : vs.length = ps.length := by rw [← r.length]; exact hn _ _ _ q
  have hb1 : BindsTo s fd ⟨us, []⟩ (ps.zip us) := by
    obtain ⟨oc, od, kV, doc, pm, an, ct, osl, rfl, lk⟩ := F.ex
    exact BindsTo.of_eq (hb kV doc pm an ct us (by rw [← rv.length]; exact hl))
  exact super_run F S hself hloc0 har hars hsn hcn hst hfile htop U G (hA A outer s H E) (hR A outer s H E ⟨hr.r.deeper _, hr.g⟩) hi hsw hse hpl hev hr e0 rv hl hb1 r sm (hsp _ _ _ q) kq
def CalCKW (P : Program) (w : World) (K : PySem.W.Frag) (mg : Str → Option Value) (base : Heap) (C : Addr) (k : Nat) (ks : List Str) (is : List Nat) (sp : DSp) : Prop := ∃ f, Mk K C f ∧ FnGK P w K mg base CX0 k f 1 ks is (liftSp K sp)
def SupW (P : Program) (w : World) (K : PySem.W.Frag) (mg : Str → Option Value) (base : Heap) (C : Addr) (k : Nat) (sp : DSp) : Prop := ∃ g, SupOk K mg C C g "__init__" ∧ FnG P w K mg base CX0 k g (liftSp K sp)
/-- the last parameters by their defaults -/
def spDft (n : Nat) (dds : List D) (sp : DSp) : DSp := fun ds m R => ds.length = n ∧ sp (ds ++ dds) m R
end
end DL
/-! ### DL34: a list put together that is changed later on -/
namespace DL
open PySem PySem.Spec PyProof.Rows L2
def tAddM (ta tb : DTE) : DTE := fun env m Q => ta env m fun x m1 => tb env m1 fun y m2 => ∃ xs ys, look m2 x = .lst xs ∧ look m2 y = .lst ys ∧ xs.length + ys.length ≤ sizeLine ∧ ∀ p, m2 p = none → Q (.ref p) (updM m2 p (.lst (xs ++ ys)))
section
variable {X : Cx} {a b : Expr} {ta tb : DTE} {pos : Pos}
theorem de_addM (ha : DE X a ta) (hb : DE X b tb) : DE X (.BinOp a .Add b pos) (tAddM ta tb) := ⟨PE.weak (pe_op op_cat ha.run hb.run) fun σ H Q h => by
  obtain ⟨env, m, R, eo, s, h, k⟩ := h
  refine ⟨env, m, _, eo, s, h, fun x m1 v H1 h1 f1 s1 r1 => ⟨env, m1, _, eo.mono f1, s1, h1, fun y m2 u H2 h2 f2 s2 r2 => ?_⟩⟩
  obtain ⟨xs, ys, ex, ey, hl, h2⟩ := h2
  have cx := cont_of s2 (Rep.mono f2 _ _ r1)
  have cy := cont_of s2 r2
  rw [ex] at cx
  rw [ey] at cy
  obtain ⟨p1, vs, rfl, z1, q1⟩ := cont_lst cx
  obtain ⟨p2, us, rfl, z2, q2⟩ := cont_lst cy
  exact ⟨p1, p2, vs, us, rfl, rfl, z1, z2, by rw [← q1.length, ← q2.length]; exact hl, fun p hp => k _ _ _ _ (h2 p (s2.free hp)) ((f1.trans f2).trans (Fr.laidM s2 hp)) (new_lstM s2 hp (q1.append q2)) rep_ref⟩⟩
end
end DL
/-! ### DL35: for over a list that may be changed, and is not while it is walked -/
namespace DL
open PySem PySem.Spec PyProof.Rows L2
def forDM (p : Addr) (all : List D) (g : Tgt) (tb : DTS) (E : DEnds) : List D → Env → M → Prop
  | [], env, m => m p = some (.lst all) ∧ E.nx env m
  | d :: ds, env, m => m p = some (.lst all) ∧ tgD g d env m fun env' m' => tb env' m' { E with nx := forDM p all g tb E ds, ct := forDM p all g tb E ds, bk := E.nx }
def tFoM (te : DTE) (g : Tgt) (tb : DTS) : DTS := fun env m E => te env m fun o m1 => ∃ p ds, o = .ref p ∧ m1 p = some (.lst ds) ∧ forDM p ds g tb E ds env m1
theorem forDM_at {p : Addr} {all : List D} {g : Tgt} {tb : DTS} {E : DEnds} {ds : List D} {env : Env} {m : M} (h : forDM p all g tb E ds env m) : m p = some (.lst all) := by
  cases ds with
  | nil => exact h.1
  | cons d ds => exact h.1
section
variable {X : Cx} {tg iter : Expr} {body : List Stmt} {pos : Pos}
theorem itl_at {K : PySem.W.Frag} {m : M} {H : Hp} {p : Addr} {all : List D} (s : Sim K m H) (hp : m p = some (.lst all)) (i : Nat) :
    (∀ d, all[i]? = some d → (Itl K p).go i H ∧ ∀ x H', (Itl K p).yld i H x H' → H' = H ∧ Rep K m H d x) ∧ (i = all.length → (Itl K p).stop i H) := by
  obtain ⟨vs, h', r⟩ := s p _ hp
  have inj : ∀ ys, SqL K H p ys → (Rd H p (.lst ys) → ys = vs) := fun ys _ z => by
    rcases z with z | ⟨o, z⟩
    · rw [h'] at z; cases z; rfl
    · rw [h'] at z; cases z
  refine ⟨fun d e => ?_, fun hl => ⟨vs, .of h', by rw [← r.length, hl]; exact Nat.le_refl _⟩⟩
  obtain ⟨v, e1, r1⟩ := r.get e
  refine ⟨⟨vs, v, .of h', e1⟩, fun x H' y => ?_⟩
  obtain ⟨eH, y⟩ := y
  subst eH
  have z := y vs (.of h')
  rw [e1] at z; cases z
  exact ⟨rfl, r1⟩
theorem forM_core {g : Tgt} {tb : DTS} {De : Ends} {σ : L2.St} {env : Env} {m1 : M} {H1 : Hp} {p : Addr} {all : List D} {E : DEnds} (eo : EnvOk X.K m1 H1 σ env) (s1 : Sim X.K m1 H1) (h1 : forDM p all g tb E all env m1)
    (k1 : ∀ env' m' σ' H', E.nx env' m' → EnvOk X.K m' H' σ' env' → Sim X.K m' H' → Fr m1 H1 m' H' → De.nx σ' H') (k2 : ∀ d m' v H', E.rt d m' → Fr m1 H1 m' H' → Sim X.K m' H' → Rep X.K m' H' d v → De.rt v H') :
    ∃ W : Nat → Nat → L2.St → Hp → Prop, (∃ n, W 0 n σ H1) ∧ ∀ i n σ H, W i n σ H → ((Itl X.K p).stop i H ∧ De.nx σ H) ∨ ((Itl X.K p).go i H ∧ ∃ N : L2.St → Hp → Prop, (∀ σ' H', N σ' H' → ∃ n', n' < n ∧ W (i + 1) n' σ' H') ∧
      ∀ x H', (Itl X.K p).yld i H x H' → tgR X.K g x σ H' fun σ2 H2 => liftS X.K tb { De with nx := N, ct := N, bk := De.nx } σ2 H2) := by
  refine ⟨fun i n σ H => n = all.length - i ∧ i ≤ all.length ∧ ∃ env m, EnvOk X.K m H σ env ∧ Sim X.K m H ∧ Fr m1 H1 m H ∧ forDM p all g tb E (all.drop i) env m, ⟨_, rfl, Nat.zero_le _, env, m1, eo, s1, Fr.refl, h1⟩, ?_⟩
  rintro i n σ2 H2 ⟨rfl, hi, env2, m2, eo2, s2, f2, h2⟩
  obtain ⟨go, stop⟩ := itl_at s2 (forDM_at h2) i
  by_cases hlt : i < all.length
  · obtain ⟨g1, g2⟩ := go all[i] (by simp [hlt])
    have ed : all.drop i = all[i] :: all.drop (i + 1) := List.drop_eq_getElem_cons hlt
    rw [ed] at h2
    refine .inr ⟨g1, fun σ' H' => ∃ env m, EnvOk X.K m H' σ' env ∧ Sim X.K m H' ∧ Fr m1 H1 m H' ∧ forDM p all g tb E (all.drop (i + 1)) env m, fun σ' H' q => ⟨all.length - (i + 1), by omega, rfl, hlt, q⟩, fun x H' y => ?_⟩
    obtain ⟨rfl, r3⟩ := g2 x H' y
    have h2 : tgD g all[i] env2 m2 _ := h2.2
    refine tg_run r3 eo2 s2 h2 fun env4 σ4 h4 eo4 _ => ?_
    exact ⟨env4, m2, _, eo4, s2, h4, fun env' m' σ' H' a1 a2 a3 a4 => ⟨env', m', a2, a3, f2.trans a4, a1⟩, fun d m' v H' a1 a2 a3 a4 => k2 d m' v H' a1 (f2.trans a2) a3 a4,
      fun env' m' σ' H' a1 a2 a3 a4 => k1 env' m' σ' H' a1 a2 a3 (f2.trans a4), fun env' m' σ' H' a1 a2 a3 a4 => ⟨env', m', a2, a3, f2.trans a4, a1⟩⟩
  · have e : i = all.length := by omega
    subst e
    rw [List.drop_length] at h2
    exact .inl ⟨stop rfl, k1 env2 m2 σ2 H2 h2.2 eo2 s2 f2⟩
theorem ds_forM {te : DTE} {g : Tgt} {tb : DTS} (he : DE X iter te) (hg : DGt X tg g) (hb : DSs X body tb) (hc : X.calm = true) (hp : PassesOwn (model X.prog X.w) X.A X.env X.xe) (hs : ∀ x, foldedSetIterable iter X.env x = pure x := by intro _; rfl) :
    DS X (.For tg iter body [] pos) (tFoM te g tb) := ⟨PS.weak (ps_for hp hc (pi_list he.run) hg.run hb.run hs) fun D σ H h => by
  obtain ⟨env, m, E, eo, s, h, k1, k2, k3, k4⟩ := h
  refine ⟨env, m, _, eo, s, h, fun o m1 v H1 h1 f1 s1 r1 => ?_⟩
  obtain ⟨p, ds, rfl, hm, h1⟩ := h1
  simp only [Rep] at r1
  subst r1
  obtain ⟨vs, h', r⟩ := s1 p _ hm
  exact ⟨p, rfl, ⟨vs, .of h'⟩, forM_core (eo.mono f1) s1 h1 (fun env' m' σ' H' a1 a2 a3 a4 => k1 env' m' σ' H' a1 a2 a3 (f1.trans a4)) fun d m' v H' a1 a2 a3 a4 => k2 d m' v H' a1 (f1.trans a2) a3 a4⟩⟩
end
theorem forDM_inv {p : Addr} {g : Tgt} {tb : DTS} {E : DEnds} {ds : List D} {env : Env} {m : M} (I : Nat → Env → M → Prop) (h0 : I 0 env m) (hk : ∀ i env m, I i env m → m p = some (.lst ds))
    (step : ∀ (i : Nat) (d : D) (env : Env) (m : M) (N : Env → M → Prop), ds[i]? = some d → I i env m → (∀ env m, I (i + 1) env m → N env m) → tgD g d env m fun env' m' => tb env' m' { E with nx := N, ct := N, bk := E.nx })
    (done : ∀ env m, I ds.length env m → E.nx env m) : forDM p ds g tb E ds env m := by
  have main : ∀ (k i : Nat) (env : Env) (m : M), ds.length - i = k → i ≤ ds.length → I i env m → forDM p ds g tb E (ds.drop i) env m := by
    intro k
    induction k with
    | zero =>
      intro i env m hk' hi h
      obtain rfl : i = ds.length := by omega
      rw [List.drop_length]
      exact ⟨hk _ env m h, done env m h⟩
    | succ k ih =>
      intro i env m hk' hi h
      have hlt : i < ds.length := by omega
      rw [List.drop_eq_getElem_cons hlt]
      exact ⟨hk i env m h, step i ds[i] env m _ (by simp [hlt]) h fun env' m' h' => ih (i + 1) env' m' (by omega) hlt h'⟩
  exact main _ 0 env m rfl (Nat.zero_le _) h0
end DL
/-! ### DL36: raise, and calls of defs that raise -/
namespace DL
open PySem PySem.Spec PyProof.Rows L2
abbrev DXE := Addr → List Str → List D → Env → M → Prop
/-- the class, the dict of an exception that is in the air -/
def ExR (K : PySem.W.Frag) (m : M) (H : Hp) (C : Addr) (ns : List Str) (xs : List D) (cls : Value) (d : Option Addr) : Prop :=
  cls = .ref C ∧ ∃ dd fs, d = some dd ∧ m dd = none ∧ H dd = some (.xd fs) ∧ fs.map (·.1) = ns ∧ RepL K m H xs (fs.map (·.2))
def liftSX (K : PySem.W.Frag) (W : WX) (t : DTS) : TS := fun D σ H => ∃ env m E, EnvOk K m H σ env ∧ Sim K m H ∧ t env m E ∧
  (∀ env' m' σ' H', E.nx env' m' → EnvOk K m' H' σ' env' → Sim K m' H' → Fr m H m' H' → D.nx σ' H') ∧
  (∀ d m' v H', E.rt d m' → Fr m H m' H' → Sim K m' H' → Rep K m' H' d v → D.rt v H') ∧
  (∀ env' m' σ' H', E.bk env' m' → EnvOk K m' H' σ' env' → Sim K m' H' → Fr m H m' H' → D.bk σ' H') ∧
  (∀ env' m' σ' H', E.ct env' m' → EnvOk K m' H' σ' env' → Sim K m' H' → Fr m H m' H' → D.ct σ' H') ∧
  (∀ C ns xs env' m' cls d σ' H', E.ex C ns xs env' m' → EnvOk K m' H' σ' env' → Sim K m' H' → Fr m H m' H' → ExR K m' H' C ns xs cls d → W cls d σ' H')
/-- an expression that may raise -/
abbrev DTEX := Env → M → DK → DXE → Prop
def liftEX (K : PySem.W.Frag) (W : WX) (t : DTEX) : TE := fun σ H Q => ∃ env m R F, EnvOk K m H σ env ∧ Sim K m H ∧ t env m R F ∧
  (∀ d m' v H', R d m' → Fr m H m' H' → Sim K m' H' → Rep K m' H' d v → Q v H') ∧
  (∀ C ns xs env' m' cls d σ' H', F C ns xs env' m' → EnvOk K m' H' σ' env' → Sim K m' H' → Fr m H m' H' → ExR K m' H' C ns xs cls d → W cls d σ' H')
/-- what a def promises that may raise -/
abbrev DSpX := List D → M → DK → (Addr → List Str → List D → M → Prop) → Prop
def liftSpX (K : PySem.W.Frag) (sp : DSpX) : Sp := fun vs H Q E => ∃ ds m R F, RepL K m H ds vs ∧ Sim K m H ∧ sp ds m R F ∧
  (∀ d m' v H', R d m' → Fr m H m' H' → Sim K m' H' → Rep K m' H' d v → Q v H') ∧
  (∀ C ns xs m' cls d H', F C ns xs m' → Sim K m' H' → Fr m H m' H' → ExR K m' H' C ns xs cls d → E cls d H')
structure DXS (X : Cx) (W : WX) (st : Stmt) (t : DTS) : Prop where run : PS X st (liftSX X.K W t)
structure DXSs (X : Cx) (W : WX) (st : List Stmt) (t : DTS) : Prop where run : PSs X st (liftSX X.K W t)
structure DEX (X : Cx) (W : WX) (e : Expr) (t : DTEX) : Prop where run : PE X e (liftEX X.K W t)
section
variable {X : Cx} {W : WX} {st : Stmt} {rest : List Stmt} {t u : DTS} {pos : Pos} {e : Expr}
theorem dxs_of (h : DS X st t) : DXS X W st t := ⟨PS.weak h.run fun D σ H ⟨env, m, E, eo, s, h, k1, k2, k3, k4, _⟩ => ⟨env, m, E, eo, s, h, k1, k2, k3, k4⟩⟩
theorem dxss_of (h : DSs X rest t) : DXSs X W rest t := ⟨PSs.weak h.run fun D σ H ⟨env, m, E, eo, s, h, k1, k2, k3, k4, _⟩ => ⟨env, m, E, eo, s, h, k1, k2, k3, k4⟩⟩
theorem dxss_one (h1 : DXS X W st t) : DXSs X W [st] t := ⟨pss_one h1.run⟩
/-- the same ends, later on -/
theorem liftSX_at {D : Ends} {σ' : L2.St} {H H1 : Hp} {m m1 : M} {env1 : Env} {E : DEnds} (f1 : Fr m H m1 H1) (eo : EnvOk X.K m1 H1 σ' env1) (s1 : Sim X.K m1 H1) (h : t env1 m1 E)
    (k1 : ∀ env' m' σ' H', E.nx env' m' → EnvOk X.K m' H' σ' env' → Sim X.K m' H' → Fr m H m' H' → D.nx σ' H')
    (k2 : ∀ d m' v H', E.rt d m' → Fr m H m' H' → Sim X.K m' H' → Rep X.K m' H' d v → D.rt v H')
    (k3 : ∀ env' m' σ' H', E.bk env' m' → EnvOk X.K m' H' σ' env' → Sim X.K m' H' → Fr m H m' H' → D.bk σ' H')
    (k4 : ∀ env' m' σ' H', E.ct env' m' → EnvOk X.K m' H' σ' env' → Sim X.K m' H' → Fr m H m' H' → D.ct σ' H')
    (k5 : ∀ C ns xs env' m' cls d σ' H', E.ex C ns xs env' m' → EnvOk X.K m' H' σ' env' → Sim X.K m' H' → Fr m H m' H' → ExR X.K m' H' C ns xs cls d → W cls d σ' H') : liftSX X.K W t D σ' H1 :=
  ⟨env1, m1, E, eo, s1, h, fun a b c d a1 a2 a3 a4 => k1 a b c d a1 a2 a3 (f1.trans a4), fun a b c d a1 a2 a3 a4 => k2 a b c d a1 (f1.trans a2) a3 a4, fun a b c d a1 a2 a3 a4 => k3 a b c d a1 a2 a3 (f1.trans a4),
    fun a b c d a1 a2 a3 a4 => k4 a b c d a1 a2 a3 (f1.trans a4), fun C ns xs a b c d g i a1 a2 a3 a4 a5 => k5 C ns xs a b c d g i a1 a2 a3 (f1.trans a4) a5⟩
theorem dxss_cons (h1 : DXS X W st t) (h2 : DXSs X W rest u) : DXSs X W (st :: rest) (tSq t u) := ⟨PSs.weak (pss_cons h1.run h2.run) fun D σ H h => by
  obtain ⟨env, m, E, eo, s, h, k1, k2, k3, k4, k5⟩ := h
  refine ⟨env, m, _, eo, s, h, fun env' m' σ' H' h' eo' s' f' => ?_, k2, k3, k4, k5⟩
  exact liftSX_at f' eo' s' h' k1 k2 k3 k4 k5⟩
theorem dxs_if {c : Expr} {sa sb : List Stmt} {tc : DTT} (hc : DT X c tc) (ha : DXSs X W sa t) (hb : DXSs X W sb u) : DXS X W (.If c sa sb pos) (tIfS tc t u) := ⟨PS.weak (ps_if hc.run ha.run hb.run) fun D σ H h => by
  obtain ⟨env, m, E, eo, s, h, k1, k2, k3, k4, k5⟩ := h
  refine ⟨env, m, _, eo, s, h, fun c m1 H1 h1 f1 s1 => ?_⟩
  cases c with
  | true => simp only [if_true] at h1 ⊢; exact liftSX_at f1 (eo.mono f1) s1 h1 k1 k2 k3 k4 k5
  | false => simp only [Bool.false_eq_true, if_false] at h1 ⊢; exact liftSX_at f1 (eo.mono f1) s1 h1 k1 k2 k3 k4 k5⟩
theorem for_coreX {g : Tgt} {tb : DTS} {De : Ends} {σ : L2.St} {env : Env} {m1 : M} {H1 : Hp} {J : It} {ds : List D} {E : DEnds} (eo : EnvOk X.K m1 H1 σ env) (s1 : Sim X.K m1 H1) (it : Items X.K J ds m1 H1) (h1 : forD g tb E ds env m1)
    (k1 : ∀ env' m' σ' H', E.nx env' m' → EnvOk X.K m' H' σ' env' → Sim X.K m' H' → Fr m1 H1 m' H' → De.nx σ' H') (k2 : ∀ d m' v H', E.rt d m' → Fr m1 H1 m' H' → Sim X.K m' H' → Rep X.K m' H' d v → De.rt v H')
    (k5 : ∀ C ns xs env' m' cls d σ' H', E.ex C ns xs env' m' → EnvOk X.K m' H' σ' env' → Sim X.K m' H' → Fr m1 H1 m' H' → ExR X.K m' H' C ns xs cls d → W cls d σ' H') :
    ∃ V : Nat → Nat → L2.St → Hp → Prop, (∃ n, V 0 n σ H1) ∧ ∀ i n σ H, V i n σ H → (J.stop i H ∧ De.nx σ H) ∨ (J.go i H ∧ ∃ N : L2.St → Hp → Prop, (∀ σ' H', N σ' H' → ∃ n', n' < n ∧ V (i + 1) n' σ' H') ∧
      ∀ x H', J.yld i H x H' → tgR X.K g x σ H' fun σ2 H2 => liftSX X.K W tb { De with nx := N, ct := N, bk := De.nx } σ2 H2) := by
  refine ⟨fun i n σ H => n = ds.length - i ∧ i ≤ ds.length ∧ ∃ env m, EnvOk X.K m H σ env ∧ Sim X.K m H ∧ Fr m1 H1 m H ∧ forD g tb E (ds.drop i) env m, ⟨_, rfl, Nat.zero_le _, env, m1, eo, s1, Fr.refl, h1⟩, ?_⟩
  rintro i n σ2 H2 ⟨rfl, hi, env2, m2, eo2, s2, f2, h2⟩
  obtain ⟨go, stop⟩ := it i m2 H2 f2 s2
  by_cases hlt : i < ds.length
  · obtain ⟨g1, g2⟩ := go ds[i] (by simp [hlt])
    have ed : ds.drop i = ds[i] :: ds.drop (i + 1) := List.drop_eq_getElem_cons hlt
    rw [ed] at h2
    refine .inr ⟨g1, fun σ' H' => ∃ env m, EnvOk X.K m H' σ' env ∧ Sim X.K m H' ∧ Fr m1 H1 m H' ∧ forD g tb E (ds.drop (i + 1)) env m, fun σ' H' q => ⟨ds.length - (i + 1), by omega, rfl, hlt, q⟩, fun x H' y => ?_⟩
    obtain ⟨f3, s3, r3⟩ := g2 x H' y
    have h2 : tgD g ds[i] env2 m2 _ := h2
    refine tg_run r3 (eo2.mono f3) s3 h2 fun env4 σ4 h4 eo4 _ => ?_
    have f13 := f2.trans f3
    exact ⟨env4, m2, _, eo4, s3, h4, fun env' m' σ' H' a1 a2 a3 a4 => ⟨env', m', a2, a3, f13.trans a4, a1⟩, fun d m' v H' a1 a2 a3 a4 => k2 d m' v H' a1 (f13.trans a2) a3 a4,
      fun env' m' σ' H' a1 a2 a3 a4 => k1 env' m' σ' H' a1 a2 a3 (f13.trans a4), fun env' m' σ' H' a1 a2 a3 a4 => ⟨env', m', a2, a3, f13.trans a4, a1⟩,
      fun C ns xs a b c d g i a1 a2 a3 a4 a5 => k5 C ns xs a b c d g i a1 a2 a3 (f13.trans a4) a5⟩
  · have e : i = ds.length := by omega
    subst e
    rw [List.drop_length] at h2
    exact .inl ⟨stop rfl, k1 env2 m2 σ2 H2 h2 eo2 s2 f2⟩
theorem dxs_for {tg iter : Expr} {body : List Stmt} {ti : DTI} {g : Tgt} {tb : DTS} (hi : DI X tg iter ti) (hg : DGt X tg g) (hb : DXSs X W body tb) (hc : X.calm = true) (hp : PassesOwn (model X.prog X.w) X.A X.env X.xe) (hs : ∀ x, foldedSetIterable iter X.env x = pure x := by intro _; rfl) :
    DXS X W (.For tg iter body [] pos) (tFo ti g tb) := ⟨PS.weak (ps_for hp hc hi.run hg.run hb.run hs) fun D σ H h => by
  obtain ⟨env, m, E, eo, s, h, k1, k2, k3, k4, k5⟩ := h
  refine ⟨env, m, _, eo, s, h, fun ds m1 J H1 h1 f1 s1 it => ?_⟩
  exact for_coreX (eo.mono f1) s1 it h1 (fun env' m' σ' H' a1 a2 a3 a4 => k1 env' m' σ' H' a1 a2 a3 (f1.trans a4)) (fun d m' v H' a1 a2 a3 a4 => k2 d m' v H' a1 (f1.trans a2) a3 a4)
    fun C ns xs a b c d g i a1 a2 a3 a4 a5 => k5 C ns xs a b c d g i a1 a2 a3 (f1.trans a4) a5⟩
/-! statements with an expression that may raise -/
def tRtX (te : DTEX) : DTS := fun env m E => te env m E.rt E.ex
theorem dxs_ret {te : DTEX} (he : DEX X W e te) : DXS X W (.Return (some e) pos) (tRtX te) := ⟨PS.weak (ps_ret he.run) fun D σ H h => by
  obtain ⟨env, m, E, eo, s, h, k1, k2, k3, k4, k5⟩ := h
  exact ⟨env, m, _, _, eo, s, h, fun d m1 v H1 h1 f1 s1 r1 => k2 d m1 v H1 h1 f1 s1 r1, k5⟩⟩
def tDrX (te : DTEX) : DTS := fun env m E => te env m (fun _ m1 => E.nx env m1) E.ex
theorem dxs_expr {te : DTEX} (he : DEX X W e te) (hs : swapsWith e none pos.line X.env = pure false := by rfl) : DXS X W (.Expr e pos) (tDrX te) := ⟨PS.weak (ps_expr he.run hs) fun D σ H h => by
  obtain ⟨env, m, E, eo, s, h, k1, k2, k3, k4, k5⟩ := h
  exact ⟨env, m, _, _, eo, s, h, fun d m1 v H1 h1 f1 s1 r1 => k1 env m1 σ H1 h1 (eo.mono f1) s1 f1, k5⟩⟩
def tSetX (i : Nat) (te : DTEX) : DTS := fun env m E => te env m (fun d m1 => E.nx (env.set i (some d)) m1) E.ex
theorem dxs_set {i : Nat} {x : Str} {pos' : Pos} {te : DTEX} (he : DEX X W e te) (hN : X.N.Nodup) (hi : X.N[i]? = some x := by rfl) (hx : Loc X.env.scope x := by first | exact Or.inl rfl | exact Or.inr rfl) (hs : swapsWith e (some (.Name x pos')) pos.line X.env = pure false := by rfl)
    (hf : X.fn x = true ∨ X.env.scope.names.lookup x = some .local := by first | exact .inl rfl | exact .inr rfl) :
    DXS X W (.Assign [.Name x pos'] e pos) (tSetX i te) := ⟨PS.weak (ps_set hN hi hx he.run hs hf) fun D σ H h => by
  obtain ⟨env, m, E, eo, s, h, k1, k2, k3, k4, k5⟩ := h
  refine ⟨env, m, _, _, eo, s, h, fun d m1 v H1 h1 f1 s1 r1 => ?_, k5⟩
  exact k1 _ m1 _ H1 h1 ((eo.mono f1).set i r1) s1 f1⟩
end
end DL
/-! ### DL37: exceptions of own classes, made and raised; defs that raise -/
namespace DL
open PySem PySem.Spec PyProof.Rows L2
/-- what the written part tells of an exception class over ValueError -/
def oexQ (C : Addr) (sl : List (Option Value)) (q : ClassData) : Bool := q.hasDict && (!q.hasDel && (decide (q.mro.head? = some (.ref C)) && (PySem.HandSPX.refsVE q.mro.tail && (decide (sl.length = 6) && decide (sl[4]? = some (some (.builtin "ValueError.__new__")))))))
def oexB (K : PySem.W.Frag) (C : Addr) : Bool := match K.lookup C with
  | some ⟨c, _, .cls q, sl⟩ => decide (c = .type "type") && oexQ C sl.toList q
  | _ => false
theorem oexB_cls {K : PySem.W.Frag} {C : Addr} (h : oexB K C = true) : ∃ nm q N bs bm sn sub ab col dd k0 k1 k2 k3 k5, K.lookup C = some (excClassObj nm q C N bs bm true sn sub ab col dd k0 k1 k2 k3 k5 "ValueError.__new__") ∧ PySem.HandSPX.refsVE bm = true := by
  unfold oexB at h
  split at h
  · rename_i c od q sl ho
    obtain ⟨h1, h2⟩ := Bool.and_eq_true_iff.mp h
    have h3 := of_decide_eq_true h1
    obtain ⟨nm, bs, mro, ns, qn, hd, sn, sb, ab, col, de⟩ := q
    unfold oexQ at h2
    obtain ⟨g1, h2⟩ := Bool.and_eq_true_iff.mp h2
    obtain ⟨g2, h2⟩ := Bool.and_eq_true_iff.mp h2
    obtain ⟨g3, h2⟩ := Bool.and_eq_true_iff.mp h2
    obtain ⟨g4, h2⟩ := Bool.and_eq_true_iff.mp h2
    obtain ⟨g5, g6⟩ := Bool.and_eq_true_iff.mp h2
    have e1 : hd = true := g1
    have e2 : de = false := by simpa using g2
    have e3 : mro.head? = some (.ref C) := of_decide_eq_true g3
    have g5 : sl.toList.length = 6 := of_decide_eq_true g5
    have g6 := of_decide_eq_true g6
    obtain ⟨l⟩ := sl
    match l, g5, g6 with
    | [k0, k1, k2, k3, k4, k5], _, g6 =>
      have e4 : k4 = some (.builtin "ValueError.__new__") := by simpa using g6
      match mro, e3, g4 with
      | z :: r, e3, g4 =>
        have ez : z = .ref C := by simpa using e3
        rw [e1, e2, e4, ez, h3] at ho
        exact ⟨_, _, _, _, _, _, _, _, _, _, _, _, _, _, _, ho, g4⟩
  · cases h
theorem oexC_of {K : PySem.W.Frag} {C : Addr} (h1 : oexB K C = true) (h2 : PySem.W.findIn K (.ref C) "__setattr__" = some (some (.builtin "object.__setattr__"))) (h3 : PySem.W.subIn K (.ref C) (.type "BaseException") = some true)
    (h4 : PySem.W.typeIn K (.ref C) = some (.type "type")) (h5 : PySem.W.keepIn K (.ref C) = true) : OexC K C := ⟨oexB_cls h1, h2, h3, h4, h5⟩
/-- what the __init__ of an exception class does: a field of each parameter -/
def xiSp (C : Addr) (fns : List Str) : Sp := fun vs H Q _ => ∃ (a : Addr) (ys : List V), vs = .ref a :: ys ∧ ys.length = fns.length ∧ H a = some (exo a C none) ∧
  ∀ dx, H dx = none → dx ≠ a → ∀ H2 : Hp, H2 a = some (exo a C (some dx)) → H2 dx = some (exd dx (fns.zip ys).reverse) → (∀ b, b ≠ a → b ≠ dx → H2 b = H b) → Q .non H2
/-- an own exception class that may be made -/
structure MkX (P : Program) (w : World) (K : PySem.W.Frag) (mg : Str → Option Value) (base : Heap) (C : Addr) (k : Nat) (fns : List Str) : Prop where
  oc : OexC K C
  ex : ∃ (fI : Addr) (fd : FuncData) (ps : List Str), PySem.W.findIn K (.ref C) "__init__" = some (some (.ref fI)) ∧ PySem.W.typeIn K (.ref fI) = some (.type "function") ∧ Binds K fd ps [] ∧ FnOk P w K mg base CX0 k fI fd ps (xiSp C fns)
section
variable {P : Program} {w : World} {K : PySem.W.Frag} {mg : Str → Option Value} {base : Heap}
theorem xi_upd {H : Hp} {a dx : Addr} {e d1 : HO} (ne : dx ≠ a) : ∀ b, b ≠ a → b ≠ dx → upd (upd H dx d1) a e b = H b := fun b h1 h2 => by rw [upd_ne h1, upd_ne h2]
/-- def __init__(self, p): self.f = p -/
theorem xinit1 {x qual : Str} {st : Stmt} {f : Addr} {fd : FuncData} {N : List Str} {s p f1 : Str} {k : Nat} {C : Addr} {q1 q2 q3 q4 : Pos} (F : Fun K x qual st f fd) (S : FnScope N [s, p] (defScope st)) (hN : N = [s, p]) (T : OexC K C)
    (hn : PySem.W.findIn K (.ref C) f1 = some none) (hv0 : Vis (defScope st) s) (hv1 : Vis (defScope st) p) (hd0 : (s == ("__debug__" : Str)) = false := by decide) (hc0 : (s == ("__classdict__" : Str)) = false := by decide) (hd1 : (p == ("__debug__" : Str)) = false := by decide) (hc1 : (p == ("__classdict__" : Str)) = false := by decide)
    (hb : defBody st = [.Assign [.Attribute (.Name s q1) f1 q2] (.Name p q3) q4]) : FnOk P w K mg base CX0 (k + 1) f fd [s, p] (xiSp C [f1]) := by
  subst hN
  refine F.ok S (fun vs H Q E ⟨a, ys, e, l, _⟩ => by rw [e]; simp at l ⊢; omega) fun cdv A outer sh H vs Q E hr hs => ?_
  obtain ⟨a, ys, rfl, hl, ha, hq⟩ := hs
  match ys, hl with
  | [y], _ =>
    rw [hb]
    refine ⟨_, pss_one (ps_ost (pe_var (i := 0) rfl hv0 hd0 hc0) (pe_var (i := 1) rfl hv1 hd1 hc1)), ?_⟩
    refine ⟨y, rfl, .ref a, rfl, a, C, rfl, T, hn, .inl ⟨ha, fun dx h1 h2 => ?_⟩⟩
    exact hq dx h1 h2 _ upd_same (by rw [upd_ne h2, upd_same]; rfl) (xi_upd h2)
/-- def __init__(self, p, r): self.f = p; self.g = r -/
theorem xinit2 {x qual : Str} {st : Stmt} {f : Addr} {fd : FuncData} {N : List Str} {s p r f1 f2 : Str} {k : Nat} {C : Addr} {q1 q2 q3 q4 r1 r2 r3 r4 : Pos} (F : Fun K x qual st f fd) (S : FnScope N [s, p, r] (defScope st)) (hN : N = [s, p, r]) (T : OexC K C)
    (hn : PySem.W.findIn K (.ref C) f1 = some none) (hn2 : PySem.W.findIn K (.ref C) f2 = some none) (hv0 : Vis (defScope st) s) (hv1 : Vis (defScope st) p) (hv2 : Vis (defScope st) r)
    (hd0 : (s == ("__debug__" : Str)) = false := by decide) (hc0 : (s == ("__classdict__" : Str)) = false := by decide) (hd1 : (p == ("__debug__" : Str)) = false := by decide) (hc1 : (p == ("__classdict__" : Str)) = false := by decide)
    (hd2 : (r == ("__debug__" : Str)) = false := by decide) (hc2 : (r == ("__classdict__" : Str)) = false := by decide)
    (hb : defBody st = [.Assign [.Attribute (.Name s q1) f1 q2] (.Name p q3) q4, .Assign [.Attribute (.Name s r1) f2 r2] (.Name r r3) r4]) : FnOk P w K mg base CX0 (k + 1) f fd [s, p, r] (xiSp C [f1, f2]) := by
  subst hN
  refine F.ok S (fun vs H Q E ⟨a, ys, e, l, _⟩ => by rw [e]; simp at l ⊢; omega) fun cdv A outer sh H vs Q E hr hs => ?_
  obtain ⟨a, ys, rfl, hl, ha, hq⟩ := hs
  match ys, hl with
  | [y, z], _ =>
    rw [hb]
    refine ⟨_, pss_cons (ps_ost (pe_var (i := 0) rfl hv0 hd0 hc0) (pe_var (i := 1) rfl hv1 hd1 hc1)) (pss_one (ps_ost (pe_var (i := 0) rfl hv0 hd0 hc0) (pe_var (i := 2) rfl hv2 hd2 hc2))), ?_⟩
    refine ⟨y, rfl, .ref a, rfl, a, C, rfl, T, hn, .inl ⟨ha, fun dx h1 h2 => ?_⟩⟩
    refine ⟨z, rfl, .ref a, rfl, a, C, rfl, T, hn2, .inr ⟨dx, [(f1, y)], upd_same, by rw [upd_ne h2, upd_same], by simp, ?_⟩⟩
    exact hq dx h1 h2 _ (by rw [upd_ne h2.symm, upd_same]) upd_same fun b b1 b2 => by rw [upd_ne b2, upd_ne b1, upd_ne b2]
end
/-! raise -/
section
variable {X : Cx} {W : WX} {C : Addr} {k : Nat} {fns : List Str} {x : Str} {e : Expr} {es : List Expr} {t : DTA} {p pos pos' : Pos}
/-- the class is made of these and raised -/
def tRz (C : Addr) (fns : List Str) (t : DTA) : DTS := fun env m E => t env m fun ds m1 => ds.length = fns.length ∧ E.ex C fns.reverse ds.reverse env m1
theorem zip_fsts : ∀ (fs : List Str) (ys : List V), ys.length = fs.length → (fs.zip ys).map (·.1) = fs ∧ (fs.zip ys).map (·.2) = ys
  | [], [], _ => ⟨rfl, rfl⟩
  | f :: fs, y :: ys, h => by
    obtain ⟨h1, h2⟩ := zip_fsts fs ys (by simpa using h)
    simp [h1, h2]
theorem dxs_raise (c : MkX X.prog X.w X.K X.mg X.base C k fns) (hr : RoomG (k + 1) X.A) (hm : X.mg x = some (.ref C)) (ha : DA X (e :: es) t) (hc : X.calm = true) (tk : Takes X W) (hg : Gl X x := by rfl) (hd : (x == ("__debug__" : Str)) = false := by decide)
    (he : starEach (e :: es) X.env = (false, eval e X.env) :: starEach es X.env := by rfl) (hpl : (backTo pos (starEach es X.env)).any (·.1) = false := by rfl) (hz : fns.length ≤ 1000 := by decide) :
    DXS X W (.Raise (some (.Call (.Name x p) (e :: es) [] pos)) none pos') (tRz C fns t) := by
  obtain ⟨fI, fd, ps, h1, h2, hb, F⟩ := c.ex
  refine ⟨PS.weak (ps_raise hc tk (pmk_oex c.oc h1 h2 F hr.r hb .nil (fun _ _ _ _ _ _ _ z => z.elim) hg hm ha.run hd he hpl)) fun D σ H hh => ?_⟩
  obtain ⟨env, m, E, eo, s, h, _, _, _, _, k5⟩ := hh
  refine ⟨env, m, _, eo, s, h, fun ds m1 vs H1 h1 f1 s1 r1 => ?_⟩
  obtain ⟨hl, h1⟩ := h1
  have hlv : vs.length = fns.length := by rw [← r1.length]; exact hl
  refine ⟨by omega, fun a ha1 => ⟨a, vs ++ [], rfl, by rw [List.append_nil]; exact hlv, upd_same, fun dx d1 d2 H2 e1 e2 e3 => ⟨rfl, dx, _, e1, e2, ?_, ?_⟩⟩⟩
  · rw [upd_ne d2] at d1; exact d1
  · rw [upd_ne d2] at d1
    rw [List.append_nil]
    have hH : upd (del H2 a) dx (.xd (fns.zip vs).reverse) = upd H1 dx (.xd (fns.zip vs).reverse) := by
      funext b
      by_cases hb : b = dx
      · rw [hb, upd_same, upd_same]
      · rw [upd_ne hb, upd_ne hb]
        by_cases hba : b = a
        · rw [hba, del_same, ha1]
        · rw [del_ne hba, e3 b hba hb, upd_ne hba]
    rw [hH]
    have fl := Fr.laid (o := .xd (fns.zip vs).reverse) s1 d1
    obtain ⟨z1, z2⟩ := zip_fsts fns vs hlv
    refine k5 C _ _ env m1 _ _ σ _ h1 ((eo.mono f1).mono fl) (s1.laid d1) (f1.trans fl) ⟨rfl, dx, _, rfl, s1.free d1, upd_same, ?_, ?_⟩
    · rw [List.map_reverse, z1]
    · rw [List.map_reverse, z2]
      exact RepL.mono fl _ _ r1.reverse
end
/-! a def that raises -/
/-- the ends of its body -/
def bodyEndsX (R : DK) (F : Addr → List Str → List D → M → Prop) : DEnds := { nx := fun _ m => R .non m, rt := R, ex := fun C ns xs _ m => F C ns xs m }
section
variable {P : Program} {w : World} {K : PySem.W.Frag} {mg : Str → Option Value} {base : Heap}
theorem liftSpX_imp {sp sp' : DSpX} (h : ∀ ds m R F, sp' ds m R F → sp ds m R F) : ∀ vs H Q E, liftSpX K sp' vs H Q E → liftSpX K sp vs H Q E := fun vs H Q E ⟨ds, m, R, F, r, s, q, k⟩ => ⟨ds, m, R, F, r, s, h _ _ _ _ q, k⟩
theorem fn_mkX {x qual : Str} {st : Stmt} {f : Addr} {fd : FuncData} {N ps : List Str} {k : Nat} {sp : DSpX} {t : DTS} (F : Fun K x qual st f fd) (S : FnScope N ps (defScope st)) (hb : Binds K fd ps []) (hn : ∀ ds m R G, sp ds m R G → ds.length = ps.length)
    (hbody : ∀ (cdv : Value) (A : Around) (outer : List PySem.Env) (s : Shared) (H : Hp) (E : XK), RoomG k (A.deeper (envOfC qual (defScope st) s.heap.objs.size f cdv)) → DXSs (cxOf (L2.CX P w) P w K mg base N qual (defScope st) f cdv A outer s H E) (fun cls d _ H => E cls d H) (defBody st) t)
    (hsp : ∀ ds m R G, sp ds m R G → t (startD N.length ds) m (bodyEndsX R G)) : FnG P w K mg base (L2.CX P w) (k + 1) f (liftSpX K sp) := by
  obtain ⟨oc, od, kV, doc, pm, an, cdv, ct, osl, rfl, lk, hcd⟩ := F.ex
  intro A outer s H us vs Q E hr e0 rv ⟨ds, m, R, G, r, sm, q, kq, kx⟩
  have hl : vs.length = ps.length := by rw [← r.length]; exact hn _ _ _ _ q
  have kin : K.In s.heap := e0.mod.kin.keeps fun b o e => (e0.bs b o e).1
  have lu : (us ++ ([] : List Value)).length = ps.length := by rw [List.append_nil, ← rv.length]; exact hl
  have hb1 := hb s us kin lu
  rw [List.append_nil] at hb1
  refine StX.run_bnd lk hcd S hr.r e0 (G := fun xs H2 => xs = vs ∧ H2 = H) (fun A' Ex Q' h => hb1 _ _ _ _ (h s H vs us e0 Un.refl rfl (fun _ _ z => z) rv hl ⟨rfl, rfl⟩)) fun s2 H2 xs g hr' => ?_
  obtain ⟨rfl, rfl⟩ := g
  exact ⟨_, (hbody cdv A outer s2 _ E ⟨hr', hr.g⟩).run, ⟨_, m, _, EnvOk.start r, sm, hsp _ _ _ _ q, fun env' m' σ' H' a1 a2 a3 a4 => kq .non m' .non H' a1 a4 a3 rep_non, fun d m' v H' a1 a2 a3 a4 => kq d m' v H' a1 a2 a3 a4, fun _ _ _ _ z => z.elim, fun _ _ _ _ z => z.elim,
    fun C ns xs env' m' cls d σ' H' a1 a2 a3 a4 a5 => kx C ns xs m' cls d H' a1 a3 a4 a5⟩⟩
/-- what may leave such a body -/
theorem takesX {N : List Str} {qual : Str} {scope : Scope} {f : Addr} {cdv : Value} {A : Around} {outer : List PySem.Env} {s : Shared} {H : Hp} {E : XK} : Takes (cxOf (L2.CX P w) P w K mg base N qual scope f cdv A outer s H E) (fun cls d _ H => E cls d H) := takes_of rfl rfl rfl rfl
theorem ownX {CX : CXT} {N : List Str} {qual : Str} {scope : Scope} {f : Addr} {cdv : Value} {A : Around} {outer : List PySem.Env} {s : Shared} {H : Hp} {E : XK} : PassesOwn (model P w) (cxOf CX P w K mg base N qual scope f cdv A outer s H E).A (cxOf CX P w K mg base N qual scope f cdv A outer s H E).env (cxOf CX P w K mg base N qual scope f cdv A outer s H E).xe := passes_of rfl
end
end DL
/-! ### DL38: calls that may raise -/
namespace DL
open PySem PySem.Spec PyProof.Rows L2
/-- a def of the module, a method, a class, a class method that may raise -/
structure CalX (X : Cx) (x : Str) (k : Nat) (sp : DSpX) : Prop where
  ex : ∃ f, X.mg x = some (.ref f) ∧ PySem.W.keepIn X.K (.ref f) = true ∧ FnG X.prog X.w X.K X.mg X.base (L2.CX X.prog X.w) k f (liftSpX X.K sp)
structure CalMX (X : Cx) (C : Addr) (m : Str) (k : Nat) (sp : DSpX) : Prop where
  ex : ∃ f, Meth X.K C m f ∧ FnG X.prog X.w X.K X.mg X.base (L2.CX X.prog X.w) k f (liftSpX X.K sp)
structure CalCX (X : Cx) (C : Addr) (k : Nat) (sp : DSpX) : Prop where
  ex : ∃ f, Mk X.K C f ∧ FnG X.prog X.w X.K X.mg X.base (L2.CX X.prog X.w) k f (liftSpX X.K sp)
structure CalKX (X : Cx) (C : Addr) (m : Str) (k : Nat) (sp : DSpX) : Prop where
  ex : ∃ mc p g, ClX.CRead X.K C mc ∧ ClX.CMet X.K C mc m p g ∧ FnG X.prog X.w X.K X.mg X.base (L2.CX X.prog X.w) k g (liftSpX X.K sp)
section
variable {X : Cx} {W : WX} {k : Nat} {C : Addr} {x m : Str} {p pos apos : Pos} {e o : Expr} {es : List Expr} {te ta : DTE} {t : DTA}
theorem run_fnX {pins : List (Addr × Obj)} {σ : L2.St} {H : Hp} {s : Shared} {CT : CXT} {f : Addr} {sp : Sp} {E : XK} {Q : VK} {us : List Value} {vs : List V} (F : FnG X.prog X.w X.K X.mg X.base CT k f sp) (hr : RoomG k X.A) (hx : PassesAt CT X σ E) (I : Inv X pins σ H s) (r : Vals vs us)
    (q : sp vs H Q E) : codeAny (model X.prog X.w) X.A (.call (.ref f) ⟨us, []⟩) (fun r s' => match r with | .ok (.ret v) => EP X pins σ Q v s' | .ok _ => False | .error e => X.xe e s') s :=
  codeAny_mono (F X.A X.stack s H us vs Q E hr I.env0 r q) fun res s' h => match res, h with
    | .error e, h => hx pins H s e s' I h
    | .ok (.ret u), h => I.after h
    | .ok .next, h => h.elim
    | .ok .brk, h => h.elim
    | .ok .cont, h => h.elim
theorem run_callX {pins : List (Addr × Obj)} {σ : L2.St} {H : Hp} {s : Shared} {CT : CXT} {f : Addr} {sp : Sp} {E : XK} {Q : VK} {us : List Value} {vs : List V} (F : FnG X.prog X.w X.K X.mg X.base CT k f sp) (hr : RoomG k X.A) (hx : PassesAt CT X σ E) (I : Inv X pins σ H s) (r : Vals vs us)
    (q : sp vs H Q E) : wpAny (model X.prog X.w) X.A (call (.ref f) us) (EP X pins σ Q) X.xe s := wpAny_call (run_fnX F hr hx I r q)
theorem run_makeX {pins : List (Addr × Obj)} {σ : L2.St} {H : Hp} {s : Shared} {CT : CXT} {f : Addr} {sp : Sp} {E : XK} {Q : VK} {us : List Value} {vs : List V} (M0 : Mk X.K C f) (F : FnG X.prog X.w X.K X.mg X.base CT k f sp) (hr : RoomG (k + 1) X.A) (hx : PassesAt CT X σ E) (I : Inv X pins σ H s) (r : Vals vs us)
    (h : ∀ x dx, H x = none → H dx = none → dx ≠ x → sp (V.ref x :: vs) (upd (upd H dx (.own x)) x (.ins C dx [])) (fun v H2 => v = .non ∧ Q (.ref x) H2) E) : wpAny (model X.prog X.w) X.A (call (.ref C) us) (EP X pins σ Q) X.xe s := by
  have J := Inv.made (C := C) I
  have q := h (s.heap.objs.size + 1) s.heap.objs.size (I.hok.fresh (Nat.le_succ _)) (I.hok.fresh (Nat.le_refl _)) (Nat.ne_of_lt (Nat.lt_succ_self _))
  refine wpAny_call (make_map (f := f) I.kIn M0.makes M0.init (beq_iff_eq.mp M0.fn) (codeAny_mono (F _ X.stack _ _ (Value.ref (s.heap.objs.size + 1) :: us) _ _ E (hr.make C us []) (J.env0.make C us []) (show Vals (V.ref (s.heap.objs.size + 1) :: vs) (Value.ref (s.heap.objs.size + 1) :: us) from .cons rfl r) q) fun res s' h => ?_))
  match res, h with
  | .error e, h => exact hx pins _ _ e s' J h
  | .ok (.ret u), h =>
    obtain ⟨v, H', J', rv, ev, q'⟩ := J.after h
    subst ev
    exact ⟨rv, V.ref (s.heap.objs.size + 1), H', J', rfl, q'⟩
  | .ok .next, h => exact h.elim
  | .ok .brk, h => exact h.elim
  | .ok .cont, h => exact h.elim
/-! rules at the heap: the promise is asked with what this def wants of exceptions at its slots -/
theorem pe_callX {f : Addr} {sp : Sp} {t : TA} (tk : Takes X W) (F : FnG X.prog X.w X.K X.mg X.base (L2.CX X.prog X.w) k f sp) (hr : RoomG k X.A) (hk : PySem.W.keepIn X.K (.ref f) = true) (hg : Gl X x) (hm : X.mg x = some (.ref f)) (ha : PA X (e :: es) t)
    (hd : (x == ("__debug__" : Str)) = false := by decide) (he : starEach (e :: es) X.env = (false, eval e X.env) :: starEach es X.env := by rfl) (hpl : (backTo pos (starEach es X.env)).any (·.1) = false := by rfl) :
    PE X (.Call (.Name x p) (e :: es) [] pos) (fun σ H Q => t σ H fun vs H1 => sp vs H1 Q (WE W σ)) := by
  refine ⟨fun pins s σ H Q I h => wpAny_Call_Name_kw (ld_glob I hg hm ?_ hd)⟩
  refine PySem.W.callWith_K (h₀ := X.base) I.ok.mod.kin hk (thn (ha.run pos pins s σ H _ I h) fun us s1 hx1 => ?_) he hpl
  obtain ⟨vs, H1, I1, r, q⟩ := hx1
  exact ⟨I1.kIn, run_callX F hr (passAt tk σ) I1 r q⟩
theorem pe_callX0 {f : Addr} {sp : Sp} (tk : Takes X W) (F : FnG X.prog X.w X.K X.mg X.base (L2.CX X.prog X.w) k f sp) (hr : RoomG k X.A) (hk : PySem.W.keepIn X.K (.ref f) = true) (hg : Gl X x) (hm : X.mg x = some (.ref f)) (hd : (x == ("__debug__" : Str)) = false := by decide) :
    PE X (.Call (.Name x p) [] [] pos) (fun σ H Q => sp [] H Q (WE W σ)) :=
  ⟨fun pins s σ H Q I h => wpAny_Call_Name_kw (ld_glob I hg hm (PySem.W.callWith_K0 I.kIn hk (run_callX F hr (passAt tk σ) I .nil h)) hd)⟩
theorem pe_methX {f : Addr} {sp : Sp} {ta : TE} {t : TA} {pl : Sem Bool} (tk : Takes X W) (he : PE X o ta) (c : Cls X.K C) (hm : Meth X.K C m f) (F : FnG X.prog X.w X.K X.mg X.base (L2.CX X.prog X.w) k f sp) (hr : RoomG k X.A) (ha : PA X (e :: es) t)
    (hst : starEach (e :: es) X.env = (false, eval e X.env) :: starEach es X.env := by rfl) (hpl : (backTo pos (starEach es X.env)).any (·.1) = false := by rfl)
    (ht : eval (.Call (.Attribute o m apos) (e :: es) [] pos) X.env = (do
      let ov ← eval o X.env
      standAt apos.atName
      let (f, first) ← holding [ov] (getMethod ov m pl)
      callWith pos f first (backTo pos (starEach (e :: es) X.env)) (backToKw pos (keywordEach [] X.env))) := by rfl) :
    PE X (.Call (.Attribute o m apos) (e :: es) [] pos) (fun σ H Q => tMethR C m sp (WE W σ) ta t σ H Q) := by
  refine ⟨fun pins s σ H Q I h => PySem.W.methodCall_KW (pl := pl) (thn (he.run pins s σ H _ I h) fun u s1 hx1 => ?_) ht⟩
  obtain ⟨x, H1, I1, rx, a, dx, fs, rfl, ea, l, q⟩ := hx1
  obtain rfl : u = Value.ref a := rx
  refine getmeth_ok I1 ea c hm l (PySem.W.callWith_K (first := [.ref a]) (h₀ := X.base) I.ok.mod.kin hm.kp (thn (ha.run pos pins s1 σ H1 _ I1 q) fun us s2 hx2 => ?_) hst hpl)
  obtain ⟨vs, H2, I2, r, q2⟩ := hx2
  exact ⟨I2.kIn, run_callX (us := .ref a :: us) (vs := .ref a :: vs) F hr (passAt tk σ) I2 (.cons rfl r) q2⟩
theorem pe_methX0 {f : Addr} {sp : Sp} {ta : TE} {pl : Sem Bool} (tk : Takes X W) (he : PE X o ta) (c : Cls X.K C) (hm : Meth X.K C m f) (F : FnG X.prog X.w X.K X.mg X.base (L2.CX X.prog X.w) k f sp) (hr : RoomG k X.A)
    (ht : eval (.Call (.Attribute o m apos) [] [] pos) X.env = (do
      let ov ← eval o X.env
      standAt apos.atName
      let (f, first) ← holding [ov] (getMethod ov m pl)
      callWith pos f first (backTo pos (starEach [] X.env)) (backToKw pos (keywordEach [] X.env))) := by rfl) :
    PE X (.Call (.Attribute o m apos) [] [] pos) (fun σ H Q => tMethR C m sp (WE W σ) ta tNil σ H Q) := by
  refine ⟨fun pins s σ H Q I h => PySem.W.methodCall_KW (pl := pl) (thn (he.run pins s σ H _ I h) fun u s1 hx1 => ?_) ht⟩
  obtain ⟨x, H1, I1, rx, a, dx, fs, ex, ea, l, q⟩ := hx1
  subst ex
  obtain rfl : u = Value.ref a := rx
  exact getmeth_ok I1 ea c hm l (PySem.W.callWith_K0 (first := [.ref a]) I1.kIn hm.kp (run_callX (us := [.ref a]) (vs := [.ref a]) F hr (passAt tk σ) I1 (.cons rfl .nil) q))
theorem pe_newX {f : Addr} {sp : Sp} {t : TA} (tk : Takes X W) (M0 : Mk X.K C f) (F : FnG X.prog X.w X.K X.mg X.base (L2.CX X.prog X.w) k f sp) (hr : RoomG (k + 1) X.A) (hg : Gl X x) (hm : X.mg x = some (.ref C)) (ha : PA X (e :: es) t) (hdb : (x == ("__debug__" : Str)) = false := by decide)
    (he : starEach (e :: es) X.env = (false, eval e X.env) :: starEach es X.env := by rfl) (hpl : (backTo pos (starEach es X.env)).any (·.1) = false := by rfl) : PE X (.Call (.Name x p) (e :: es) [] pos) (fun σ H Q => StX.tMakeR C sp (WE W σ) t σ H Q) := by
  refine ⟨fun pins s σ H Q I h => wpAny_Call_Name_kw (ld_glob I hg hm ?_ hdb)⟩
  refine PySem.W.callWith_K (h₀ := X.base) I.ok.mod.kin M0.kp (thn (ha.run pos pins s σ H _ I h) fun us s1 hx1 => ?_) he hpl
  obtain ⟨vs, H1, I1, r, q⟩ := hx1
  exact ⟨I1.kIn, run_makeX M0 F hr (passAt tk σ) I1 r q⟩
theorem pe_newX0 {f : Addr} {sp : Sp} (tk : Takes X W) (M0 : Mk X.K C f) (F : FnG X.prog X.w X.K X.mg X.base (L2.CX X.prog X.w) k f sp) (hr : RoomG (k + 1) X.A) (hg : Gl X x) (hm : X.mg x = some (.ref C)) (hdb : (x == ("__debug__" : Str)) = false := by decide) :
    PE X (.Call (.Name x p) [] [] pos) (fun σ H Q => StX.tMakeR C sp (WE W σ) tNil σ H Q) :=
  ⟨fun pins s σ H Q I h => wpAny_Call_Name_kw (ld_glob I hg hm (PySem.W.callWith_K0 I.kIn M0.kp (run_makeX (us := []) M0 F hr (passAt tk σ) I .nil h)) hdb)⟩
theorem pe_newSX {f : Addr} {sp : Sp} {te tf : TE} {sp_ : Pos} (tk : Takes X W) (M0 : Mk X.K C f) (F : FnG X.prog X.w X.K X.mg X.base (L2.CX X.prog X.w) k f sp) (hr : RoomG (k + 1) X.A) (hf : PE X (.Name x p) tf) (he : PE X e te)
    (hst : starEach [.Starred e sp_] X.env = [(true, eval e X.env)] := by rfl) :
    PE X (.Call (.Name x p) [.Starred e sp_] [] pos) (fun σ H Q => tf σ H fun z H0 => z = .ref C ∧ te σ H0 fun y H1 => ∃ a xs, y = V.ref a ∧ (SqT X.K H1 a xs ∨ SqL X.K H1 a xs) ∧ ∀ x dx, H1 x = Option.none → H1 dx = Option.none → dx ≠ x →
      sp (V.ref x :: xs) (upd (upd H1 dx (.own x)) x (.ins C dx [])) (fun v H2 => v = .non ∧ Q (.ref x) H2) (WE W σ)) := by
  refine ⟨fun pins s σ H Q I h => wpAny_Call_Name_kw (thn (hf.run pins s σ H _ I h) fun u s0 hx0 => ?_)⟩
  obtain ⟨z, H0, I0, rz, ez, q0⟩ := hx0
  subst ez
  obtain rfl : u = Value.ref C := rz
  refine PySem.W.callWith_S (h₀ := X.base) I.ok.mod.kin M0.kp (thn (he.run pins s0 σ H0 _ I0 q0) fun v s1 hx1 => ?_) hst
  obtain ⟨y, H1, I1, ry, a, xs, ey, hxs, q⟩ := hx1
  subst ey
  obtain rfl : v = Value.ref a := ry
  exact StX.star_any I1 hxs fun us s2 I2 rv => ⟨I2.kIn, run_makeX M0 F hr (passAt tk σ) I2 rv q⟩
theorem pe_newSSX {e1 e2 : Expr} {p1 p2 : Pos} {f : Addr} {sp : Sp} {tf : TE} {t : TA} (tk : Takes X W) (M0 : Mk X.K C f) (F : FnG X.prog X.w X.K X.mg X.base (L2.CX X.prog X.w) k f sp) (hr : RoomG (k + 1) X.A) (hf : PE X (.Name x p) tf) (ha : PA X [.Starred e1 p1, .Starred e2 p2] t)
    (hst : starEach [.Starred e1 p1, .Starred e2 p2] X.env = [(true, eval e1 X.env), (true, eval e2 X.env)] := by rfl) :
    PE X (.Call (.Name x p) [.Starred e1 p1, .Starred e2 p2] [] pos) (fun σ H Q => tf σ H fun z H0 => z = .ref C ∧ StX.tMakeR C sp (WE W σ) t σ H0 Q) := by
  refine ⟨fun pins s σ H Q I h => wpAny_Call_Name_kw (thn (hf.run pins s σ H _ I h) fun u s0 hx0 => ?_)⟩
  obtain ⟨z, H0, I0, rz, ez, q0⟩ := hx0
  subst ez
  obtain rfl : u = Value.ref C := rz
  have ha' := ha.run pos pins s0 σ H0 _ I0 q0
  rw [hst] at ha' ⊢
  refine PySem.W.ks_call (P := X.K.In) rfl (PySem.W.keeps_K M0.kp) (evalArgs_two (thn ha' fun us s1 hx1 => ?_))
  obtain ⟨vs, H1, I1, r, q⟩ := hx1
  exact ⟨I1.kIn, run_makeX M0 F hr (passAt tk σ) I1 r q⟩
theorem pe_cmethX {g q : Addr} {mc : Value} {sp : Sp} {ta : TE} {t : TA} {pl : Sem Bool} (tk : Takes X W) (he : PE X o ta) (r : ClX.CRead X.K C mc) (c : ClX.CMet X.K C mc m q g) (F : FnG X.prog X.w X.K X.mg X.base (L2.CX X.prog X.w) k g sp) (hr : RoomG k X.A) (ha : PA X (e :: es) t)
    (hst : starEach (e :: es) X.env = (false, eval e X.env) :: starEach es X.env := by rfl) (hpl : (backTo pos (starEach es X.env)).any (·.1) = false := by rfl)
    (ht : eval (.Call (.Attribute o m apos) (e :: es) [] pos) X.env = (do
      let ov ← eval o X.env
      standAt apos.atName
      let (f, first) ← holding [ov] (getMethod ov m pl)
      callWith pos f first (backTo pos (starEach (e :: es) X.env)) (backToKw pos (keywordEach [] X.env))) := by rfl) :
    PE X (.Call (.Attribute o m apos) (e :: es) [] pos) (fun σ H Q => ClX.tCMeth C sp (WE W σ) ta t σ H Q) := by
  refine ⟨fun pins s σ H Q I h => PySem.W.methodCall_KW (pl := pl) (thn (he.run pins s σ H _ I h) fun u s1 hx1 => ?_) ht⟩
  obtain ⟨x, H1, I1, rx, rfl, q⟩ := hx1
  obtain rfl : u = Value.ref C := rx
  refine ClX.getmethcm_ok I1 r c fun s2 I2 => ?_
  refine ClX.callwith_cm I2 (ClX.base_none I1 (Nat.le_refl _)) c.fi (thn (ha.run pos _ s2 σ H1 _ I2 q) fun us s3 hx3 => ?_) hst hpl
  obtain ⟨vs, H2, I3, rv, q2⟩ := hx3
  refine ⟨⟨ClX.pin_at I3, I3.kIn⟩, ?_⟩
  exact thn (wpAny_call (PySem.W.method_call (ClX.pin_at I3) (run_fnX (us := .ref C :: us) (vs := .ref C :: vs) F hr (passAt tk σ) I3 (.cons rfl rv) q2))) fun _ _ y => ClX.unpinE y
end
/-! readings -/
section
variable {X : Cx} {W : WX} {k : Nat} {sp : DSpX} {C : Addr} {x m : Str} {p pos apos : Pos} {e o : Expr} {es : List Expr} {te ta : DTE} {t : DTA}
theorem dex_of {te : DTE} (h : DE X e te) : DEX X W e (fun env m R _ => te env m R) := ⟨PE.weak h.run fun σ H Q ⟨env, m, R, F, eo, s, h, k, _⟩ => ⟨env, m, R, eo, s, h, k⟩⟩
/-- the promise asked behind the arguments -/
theorem spx_lift {env : Env} {σ : L2.St} {m m1 : M} {H H1 : Hp} {R : DK} {F : DXE} {Q : VK} {ds : List D} {vs : List V} (eo : EnvOk X.K m H σ env) (f1 : Fr m H m1 H1) (s1 : Sim X.K m1 H1) (r1 : RepL X.K m1 H1 ds vs) (h1 : sp ds m1 R fun C ns xs m' => F C ns xs env m')
    (k : ∀ d m' v H', R d m' → Fr m H m' H' → Sim X.K m' H' → Rep X.K m' H' d v → Q v H')
    (k2 : ∀ C ns xs env' m' cls d σ' H', F C ns xs env' m' → EnvOk X.K m' H' σ' env' → Sim X.K m' H' → Fr m H m' H' → ExR X.K m' H' C ns xs cls d → W cls d σ' H') : liftSpX X.K sp vs H1 Q (WE W σ) :=
  ⟨ds, m1, R, _, r1, s1, h1, fun d m' v H' a1 a2 a3 a4 => k d m' v H' a1 (f1.trans a2) a3 a4, fun C ns xs m' cls d H' a1 a2 a3 a4 => k2 C ns xs env m' cls d σ H' a1 (eo.mono (f1.trans a3)) a2 (f1.trans a3) a4⟩
def tClX (sp : DSpX) (t : DTA) : DTEX := fun env m R F => t env m fun ds m1 => sp ds m1 R fun C ns xs m' => F C ns xs env m'
theorem dex_call (c : CalX X x k sp) (hr : RoomG k X.A) (tk : Takes X W) (ha : DA X (e :: es) t) (hg : Gl X x := by rfl) (hd : (x == ("__debug__" : Str)) = false := by decide) (he : starEach (e :: es) X.env = (false, eval e X.env) :: starEach es X.env := by rfl)
    (hpl : (backTo pos (starEach es X.env)).any (·.1) = false := by rfl) : DEX X W (.Call (.Name x p) (e :: es) [] pos) (tClX sp t) := by
  obtain ⟨f, h1, h2, F⟩ := c.ex
  refine ⟨PE.weak (pe_callX tk F hr h2 hg h1 ha.run hd he hpl) fun σ H Q h => ?_⟩
  obtain ⟨env, m, R, F, eo, s, h, k, k2⟩ := h
  exact ⟨env, m, _, eo, s, h, fun ds m1 vs H1 h1 f1 s1 r1 => spx_lift eo f1 s1 r1 h1 k k2⟩
theorem dex_call0 (c : CalX X x k sp) (hr : RoomG k X.A) (tk : Takes X W) (hg : Gl X x := by rfl) (hd : (x == ("__debug__" : Str)) = false := by decide) : DEX X W (.Call (.Name x p) [] [] pos) (tClX sp tA0) := by
  obtain ⟨f, h1, h2, F⟩ := c.ex
  refine ⟨PE.weak (pe_callX0 tk F hr h2 hg h1 hd) fun σ H Q h => ?_⟩
  obtain ⟨env, m, R, F, eo, s, h, k, k2⟩ := h
  exact spx_lift eo Fr.refl s .nil h k k2
def tMtX (C : Addr) (m : Str) (sp : DSpX) (ta : DTE) (t : DTA) : DTEX := fun env st R F => ta env st fun o m1 => ∃ ns vs, look m1 o = .ins C ns vs ∧ m ∉ ns ∧ t env m1 fun ds m2 => sp (o :: ds) m2 R fun C ns xs m' => F C ns xs env m'
theorem dex_meth {pl : Sem Bool} (c : CalMX X C m k sp) (hc : Cls X.K C) (hr : RoomG k X.A) (tk : Takes X W) (ho : DE X o ta) (ha : DA X (e :: es) t)
    (hst : starEach (e :: es) X.env = (false, eval e X.env) :: starEach es X.env := by rfl) (hpl : (backTo pos (starEach es X.env)).any (·.1) = false := by rfl)
    (ht : eval (.Call (.Attribute o m apos) (e :: es) [] pos) X.env = (do
      let ov ← eval o X.env
      standAt apos.atName
      let (f, first) ← holding [ov] (getMethod ov m pl)
      callWith pos f first (backTo pos (starEach (e :: es) X.env)) (backToKw pos (keywordEach [] X.env))) := by rfl) :
    DEX X W (.Call (.Attribute o m apos) (e :: es) [] pos) (tMtX C m sp ta t) := by
  obtain ⟨f, hm, F⟩ := c.ex
  refine ⟨PE.weak (pe_methX tk ho.run hc hm F hr ha.run hst hpl ht) fun σ H Q h => ?_⟩
  obtain ⟨env, mm, R, F, eo, s, h, k, k2⟩ := h
  refine ⟨env, mm, _, eo, s, h, fun d m1 v H1 h1 f1 s1 r1 => ?_⟩
  obtain ⟨ns, vs, e1, hn, h1⟩ := h1
  have cc := cont_of s1 r1
  rw [e1] at cc
  obtain ⟨a, dx, fs, rfl, h2, rfl, r2⟩ := cc
  refine ⟨a, dx, fs, rfl, h2, lookup_none hn, env, m1, _, eo.mono f1, s1, h1, fun ds m2 ws H2 h3 f2 s2 r3 => ?_⟩
  exact spx_lift eo (f1.trans f2) s2 (.cons (Rep.mono f2 _ _ r1) r3) h3 k k2
theorem dex_meth0 {pl : Sem Bool} (c : CalMX X C m k sp) (hc : Cls X.K C) (hr : RoomG k X.A) (tk : Takes X W) (ho : DE X o ta)
    (ht : eval (.Call (.Attribute o m apos) [] [] pos) X.env = (do
      let ov ← eval o X.env
      standAt apos.atName
      let (f, first) ← holding [ov] (getMethod ov m pl)
      callWith pos f first (backTo pos (starEach [] X.env)) (backToKw pos (keywordEach [] X.env))) := by rfl) :
    DEX X W (.Call (.Attribute o m apos) [] [] pos) (tMtX C m sp ta tA0) := by
  obtain ⟨f, hm, F⟩ := c.ex
  refine ⟨PE.weak (pe_methX0 tk ho.run hc hm F hr ht) fun σ H Q h => ?_⟩
  obtain ⟨env, mm, R, F, eo, s, h, k, k2⟩ := h
  refine ⟨env, mm, _, eo, s, h, fun d m1 v H1 h1 f1 s1 r1 => ?_⟩
  obtain ⟨ns, vs, e1, hn, h1⟩ := h1
  have cc := cont_of s1 r1
  rw [e1] at cc
  obtain ⟨a, dx, fs, rfl, h2, rfl, r2⟩ := cc
  exact ⟨a, dx, fs, rfl, h2, lookup_none hn, spx_lift eo f1 s1 (.cons r1 .nil) h1 k k2⟩
def tCmX (C : Addr) (sp : DSpX) (t : DTA) : DTEX := fun env st R F => t env st fun ds m2 => sp (.ref C :: ds) m2 R fun C ns xs m' => F C ns xs env m'
theorem dex_cmeth {pl : Sem Bool} {cx : Str} {cp : Pos} (c : CalKX X C m k sp) (hr : RoomG k X.A) (tk : Takes X W) (hm : X.mg cx = some (.ref C)) (ha : DA X (e :: es) t) (hg : Gl X cx := by rfl) (hd : (cx == ("__debug__" : Str)) = false := by decide)
    (hst : starEach (e :: es) X.env = (false, eval e X.env) :: starEach es X.env := by rfl) (hpl : (backTo pos (starEach es X.env)).any (·.1) = false := by rfl)
    (ht : eval (.Call (.Attribute (.Name cx cp) m apos) (e :: es) [] pos) X.env = (do
      let ov ← eval (.Name cx cp) X.env
      standAt apos.atName
      let (f, first) ← holding [ov] (getMethod ov m pl)
      callWith pos f first (backTo pos (starEach (e :: es) X.env)) (backToKw pos (keywordEach [] X.env))) := by rfl) :
    DEX X W (.Call (.Attribute (.Name cx cp) m apos) (e :: es) [] pos) (tCmX C sp t) := by
  obtain ⟨mc, q, g, h1, h2, F⟩ := c.ex
  refine ⟨PE.weak (pe_cmethX tk (pe_glob (v := .ref C) hg hm rfl hd) h1 h2 F hr ha.run hst hpl ht) fun σ H Q h => ?_⟩
  obtain ⟨env, mm, R, F, eo, s, h, k, k2⟩ := h
  refine ⟨rfl, env, mm, _, eo, s, h, fun ds m1 vs H1 h1 f1 s1 r1 => ?_⟩
  exact spx_lift eo f1 s1 (.cons rep_ref r1) h1 k k2
/-- a new instance whose __init__ may raise -/
def tNwX (C : Addr) (sp : DSpX) (t : DTA) : DTEX := fun env st R F => t env st fun ds m1 => ∀ x, m1 x = none → sp (.ref x :: ds) (updM m1 x (.ins C [] [])) (fun d m2 => d = .non ∧ R (.ref x) m2) fun C ns xs m' => F C ns xs env m'
theorem nwx_lift {env : Env} {σ : L2.St} {m m1 : M} {H H1 : Hp} {R : DK} {F : DXE} {Q : VK} {ds : List D} {vs : List V} (eo : EnvOk X.K m H σ env) (f1 : Fr m H m1 H1) (s1 : Sim X.K m1 H1) (r1 : RepL X.K m1 H1 ds vs)
    (h : ∀ x, m1 x = none → sp (.ref x :: ds) (updM m1 x (.ins C [] [])) (fun d m2 => d = .non ∧ R (.ref x) m2) fun C ns xs m' => F C ns xs env m')
    (k : ∀ d m' v H', R d m' → Fr m H m' H' → Sim X.K m' H' → Rep X.K m' H' d v → Q v H')
    (k2 : ∀ C ns xs env' m' cls d σ' H', F C ns xs env' m' → EnvOk X.K m' H' σ' env' → Sim X.K m' H' → Fr m H m' H' → ExR X.K m' H' C ns xs cls d → W cls d σ' H') :
    ∀ x dx, H1 x = none → H1 dx = none → dx ≠ x → liftSpX X.K sp (V.ref x :: vs) (upd (upd H1 dx (.own x)) x (.ins C dx [])) (fun v H2 => v = .non ∧ Q (.ref x) H2) (WE W σ) := by
  intro x dx hx hdx ne
  have f0 := Fr.laid (o := .own x) s1 hdx
  have s2 := s1.laid (o := .own x) hdx
  have hx' : upd H1 dx (.own x) x = none := by rw [upd_ne ne.symm]; exact hx
  have f2 := Fr.laidM (o := .ins C dx []) (d := .ins C [] []) s2 hx'
  have s3 := Sim.laidM (o := .ins C dx []) (d := .ins C [] []) s2 hx' ⟨dx, [], upd_same, rfl, .nil⟩
  have f3 := (f1.trans f0).trans f2
  refine ⟨.ref x :: ds, _, _, _, .cons rep_ref (RepL.mono (f0.trans f2) _ _ r1), s3, h x (s1.free hx), fun d m' v H' a1 a2 a3 a4 => ?_, fun C ns xs m' cls d H' a1 a2 a3 a4 => k2 C ns xs env m' cls d σ H' a1 (eo.mono (f3.trans a3)) a2 (f3.trans a3) a4⟩
  obtain ⟨rfl, a1⟩ := a1
  exact ⟨by simpa only [Rep] using a4, k _ m' _ H' a1 (f3.trans a2) a3 rep_ref⟩
theorem dex_new (c : CalCX X C k sp) (hr : RoomG (k + 1) X.A) (tk : Takes X W) (hm : X.mg x = some (.ref C)) (ha : DA X (e :: es) t) (hg : Gl X x := by rfl) (hd : (x == ("__debug__" : Str)) = false := by decide)
    (he : starEach (e :: es) X.env = (false, eval e X.env) :: starEach es X.env := by rfl) (hpl : (backTo pos (starEach es X.env)).any (·.1) = false := by rfl) : DEX X W (.Call (.Name x p) (e :: es) [] pos) (tNwX C sp t) := by
  obtain ⟨f, M0, F⟩ := c.ex
  refine ⟨PE.weak (pe_newX tk M0 F hr hg hm ha.run hd he hpl) fun σ H Q h => ?_⟩
  obtain ⟨env, mm, R, F, eo, s, h, k, k2⟩ := h
  exact ⟨env, mm, _, eo, s, h, fun ds m1 vs H1 h1 f1 s1 r1 => nwx_lift eo f1 s1 r1 h1 k k2⟩
theorem dex_new0 (c : CalCX X C k sp) (hr : RoomG (k + 1) X.A) (tk : Takes X W) (hm : X.mg x = some (.ref C)) (hg : Gl X x := by rfl) (hd : (x == ("__debug__" : Str)) = false := by decide) : DEX X W (.Call (.Name x p) [] [] pos) (tNwX C sp tA0) := by
  obtain ⟨f, M0, F⟩ := c.ex
  refine ⟨PE.weak (pe_newX0 tk M0 F hr hg hm hd) fun σ H Q h => ?_⟩
  obtain ⟨env, mm, R, F, eo, s, h, k, k2⟩ := h
  exact nwx_lift eo Fr.refl s .nil h k k2
def tNwFX (C : Addr) (sp : DSpX) (tf : DTE) (t : DTA) : DTEX := fun env st R F => tf env st fun z m0 => z = .ref C ∧ tNwX C sp t env m0 R F
theorem dex_newS {tf : DTE} {sp_ : Pos} (c : CalCX X C k sp) (hr : RoomG (k + 1) X.A) (tk : Takes X W) (hf : DE X (.Name x p) tf) (ha : DE X e ta) (hst : starEach [.Starred e sp_] X.env = [(true, eval e X.env)] := by rfl) :
    DEX X W (.Call (.Name x p) [.Starred e sp_] [] pos) (tNwFX C sp tf (tAS ta tA0)) := by
  obtain ⟨f, M0, F⟩ := c.ex
  refine ⟨PE.weak (pe_newSX tk M0 F hr hf.run ha.run hst) fun σ H Q h => ?_⟩
  obtain ⟨env, m, R, F, eo, s, h, k, k2⟩ := h
  refine ⟨env, m, _, eo, s, h, fun z m0 v0 H0 h0 f0 s0 r0 => ?_⟩
  obtain ⟨rfl, h0⟩ := h0
  refine ⟨by simpa only [Rep] using r0, env, m0, _, eo.mono f0, s0, h0, fun d m1 v H1 h1 f1 s1 r1 => ?_⟩
  obtain ⟨xs, e1, h1⟩ := h1
  obtain ⟨q, vs, rfl, hq, rx⟩ := star_items (cont_of s1 r1) e1
  have h1 : ∀ x, m1 x = none → sp (.ref x :: (xs ++ [])) (updM m1 x (.ins C [] [])) (fun d m2 => d = .non ∧ R (.ref x) m2) fun C ns xs m' => F C ns xs env m' := h1
  rw [List.append_nil] at h1
  exact ⟨q, vs, rfl, hq, nwx_lift eo (f0.trans f1) s1 rx h1 k k2⟩
theorem dex_newSS {e1 e2 : Expr} {p1 p2 : Pos} {tf : DTE} (c : CalCX X C k sp) (hr : RoomG (k + 1) X.A) (tk : Takes X W) (hf : DE X (.Name x p) tf) (ha : DA X [.Starred e1 p1, .Starred e2 p2] t)
    (hst : starEach [.Starred e1 p1, .Starred e2 p2] X.env = [(true, eval e1 X.env), (true, eval e2 X.env)] := by rfl) :
    DEX X W (.Call (.Name x p) [.Starred e1 p1, .Starred e2 p2] [] pos) (tNwFX C sp tf t) := by
  obtain ⟨f, M0, F⟩ := c.ex
  refine ⟨PE.weak (pe_newSSX tk M0 F hr hf.run ha.run hst) fun σ H Q h => ?_⟩
  obtain ⟨env, m, R, F, eo, s, h, k, k2⟩ := h
  refine ⟨env, m, _, eo, s, h, fun z m0 v0 H0 h0 f0 s0 r0 => ?_⟩
  obtain ⟨rfl, h0⟩ := h0
  refine ⟨by simpa only [Rep] using r0, env, m0, _, eo.mono f0, s0, h0, fun ds m1 vs H1 h1 f1 s1 r1 => ?_⟩
  exact nwx_lift eo (f0.trans f1) s1 r1 h1 k k2
end
/-! arguments and displays with what may raise -/
abbrev DTAX := Env → M → (List D → M → Prop) → DXE → Prop
def liftAX (K : PySem.W.Frag) (W : WX) (t : DTAX) : TA := fun σ H Q => ∃ env m R F, EnvOk K m H σ env ∧ Sim K m H ∧ t env m R F ∧
  (∀ ds m' vs H', R ds m' → Fr m H m' H' → Sim K m' H' → RepL K m' H' ds vs → Q vs H') ∧
  (∀ C ns xs env' m' cls d σ' H', F C ns xs env' m' → EnvOk K m' H' σ' env' → Sim K m' H' → Fr m H m' H' → ExR K m' H' C ns xs cls d → W cls d σ' H')
structure DAX (X : Cx) (W : WX) (es : List Expr) (t : DTAX) : Prop where run : PA X es (liftAX X.K W t)
section
variable {X : Cx} {W : WX} {pos : Pos} {e o : Expr} {es : List Expr} {te : DTEX} {tr : DTAX}
theorem dax_of {t : DTA} (h : DA X es t) : DAX X W es (fun env m R _ => t env m R) := ⟨PA.weak h.run fun σ H Q ⟨env, m, R, F, eo, s, h, k, _⟩ => ⟨env, m, R, eo, s, h, k⟩⟩
def tACX (te : DTEX) (tr : DTAX) : DTAX := fun env m R F => te env m (fun d m1 => tr env m1 (fun ds m2 => R (d :: ds) m2) F) F
theorem dax_cons (ha : DEX X W e te) (hr : DAX X W es tr) (hs : starEach (e :: es) X.env = (false, eval e X.env) :: starEach es X.env := by rfl) : DAX X W (e :: es) (tACX te tr) := ⟨PA.weak (pa_cons ha.run hr.run hs) fun σ H Q h => by
  obtain ⟨env, m, R, F, eo, s, h, k, k2⟩ := h
  refine ⟨env, m, _, F, eo, s, h, fun d m1 v H1 h1 f1 s1 r1 => ?_, k2⟩
  refine ⟨env, m1, _, F, eo.mono f1, s1, h1, fun ds m2 vs H2 h2 f2 s2 r2 => ?_, fun C ns xs a b c d g i a1 a2 a3 a4 a5 => k2 C ns xs a b c d g i a1 a2 a3 (f1.trans a4) a5⟩
  exact k (_ :: ds) m2 (v :: vs) H2 h2 (f1.trans f2) s2 (.cons (Rep.mono f2 _ _ r1) r2)⟩
def tASX (te : DTEX) (tr : DTAX) : DTAX := fun env m R F => te env m (fun d m1 => ∃ xs, (look m1 d = .tup xs ∨ look m1 d = .lst xs) ∧ tr env m1 (fun ds m2 => R (xs ++ ds) m2) F) F
theorem dax_star {sp_ : Pos} (ha : DEX X W e te) (hr : DAX X W es tr) (hs : starEach (.Starred e sp_ :: es) X.env = (true, eval e X.env) :: starEach es X.env := by rfl) : DAX X W (.Starred e sp_ :: es) (tASX te tr) := ⟨PA.weak (StX.pa_star ha.run hr.run hs) fun σ H Q h => by
  obtain ⟨env, m, R, F, eo, s, h, k, k2⟩ := h
  refine ⟨env, m, _, F, eo, s, h, fun d m1 v H1 h1 f1 s1 r1 => ?_, k2⟩
  obtain ⟨xs, e1, h1⟩ := h1
  obtain ⟨q, vs, rfl, hq, rx⟩ := star_items (cont_of s1 r1) e1
  refine ⟨q, vs, rfl, hq, env, m1, _, F, eo.mono f1, s1, h1, fun ds m2 ws H2 h2 f2 s2 r2 => ?_, fun C ns xs a b c d g i a1 a2 a3 a4 a5 => k2 C ns xs a b c d g i a1 a2 a3 (f1.trans a4) a5⟩
  exact k (xs ++ ds) m2 (vs ++ ws) H2 h2 (f1.trans f2) s2 (RepL.append (RepL.mono f2 _ _ rx) r2)⟩
def tTupX (t : DTAX) : DTEX := fun env m R F => t env m (fun ds m1 => ds.length ≤ sizeLine ∧ R (.tup ds) m1) F
def tLstX (t : DTAX) : DTEX := fun env m R F => t env m (fun ds m1 => ds.length ≤ sizeLine ∧ R (.lst ds) m1) F
theorem dex_tup {x1 : Nat} {t : DTAX} (h : DAX X W es t) : DEX X W (.Tuple es x1 pos) (tTupX t) := ⟨PE.weak (pe_tup h.run) fun σ H Q h => by
  obtain ⟨env, m, R, F, eo, s, h, k, k2⟩ := h
  refine ⟨env, m, _, F, eo, s, h, fun ds m1 vs H1 h1 f1 s1 r1 => ?_, k2⟩
  obtain ⟨hl, h1⟩ := h1
  exact ⟨by rw [← r1.length]; exact hl, fun p hp => k _ m1 _ _ h1 (f1.trans (Fr.laid s1 hp)) (s1.laid hp) (new_tup s1 hp r1)⟩⟩
theorem dex_lst {t : DTAX} (h : DAX X W es t) : DEX X W (.List es pos) (tLstX t) := ⟨PE.weak (pe_lst h.run) fun σ H Q h => by
  obtain ⟨env, m, R, F, eo, s, h, k, k2⟩ := h
  refine ⟨env, m, _, F, eo, s, h, fun ds m1 vs H1 h1 f1 s1 r1 => ?_, k2⟩
  obtain ⟨hl, h1⟩ := h1
  exact ⟨by rw [← r1.length]; exact hl, fun p hp => k _ m1 _ _ h1 (f1.trans (Fr.laid s1 hp)) (s1.laid hp) (new_lst s1 hp r1)⟩⟩
/-- self.f = e -/
def tFlX (C : Addr) (f : Str) (ta : DTE) (tv : DTEX) : DTS := fun env m E => tv env m (fun d m1 => ta env m1 fun o m2 => ∃ p ns vs, o = .ref p ∧ m2 p = some (.ins C ns vs) ∧ vs.length < 1000 ∧ E.nx env (updM m2 p (.ins C (fputN f ns) (fputV f d ns vs)))) E.ex
theorem dxs_fld {C : Addr} {f : Str} {value : Expr} {ta : DTE} {tv : DTEX} {pos' : Pos} (ha : DE X o ta) (hv : DEX X W value tv) (c : Cls X.K C) (n : NoAttr X.K C f) (hs : swapsWith value (some (.Attribute o f pos')) pos.line X.env = pure false := by rfl) :
    DXS X W (.Assign [.Attribute o f pos'] value pos) (tFlX C f ta tv) := ⟨PS.weak (ps_fld ha.run hv.run hs) fun D σ H h => by
  obtain ⟨env, m, E, eo, s, h, k1, k2, k3, k4, k5⟩ := h
  refine ⟨env, m, _, _, eo, s, h, fun d m1 v H1 h1 f1 s1 r1 => ?_, k5⟩
  refine ⟨env, m1, _, eo.mono f1, s1, h1, fun x m2 w H2 h2 f2 s2 r2 => ?_⟩
  obtain ⟨p, ns, vs, rfl, hp, hl, h2⟩ := h2
  simp only [Rep] at r2
  subst r2
  obtain ⟨dx, fs, h3, rfl, r3⟩ := s2 p _ hp
  have fw : Fr m2 H2 (updM m2 p (.ins C (fputN f (fs.map (·.1))) (fputV f d (fs.map (·.1)) vs))) (upd H2 p (.ins C dx (putF f v fs))) := Fr.write hp
  refine ⟨p, C, dx, fs, rfl, h3, c, n, by have := r3.length; rw [List.length_map] at this; omega, k1 env _ σ _ h2 (eo.mono ((f1.trans f2).trans fw)) ?_ ((f1.trans f2).trans fw)⟩
  refine s2.write hp ⟨dx, _, upd_same, fput_N f v fs, ?_⟩
  exact fput_V f (Rep.mono fw _ _ (Rep.mono f2 _ _ r1)) (RepL.mono fw _ _ r3)⟩
end
end DL
/-! ### DL39: try .. except C as e, the error kept from then on -/
namespace DL
open PySem PySem.Spec PyProof.Rows L2
theorem XO_ne_own {a C dd x : Addr} : XO a C dd ≠ .own x := fun z => by
  unfold XO at z; cases z
theorem XO_ok {P : Program} {w : World} {H : Hp} {h : Heap} {a C dd : Addr} {oe : Obj} {vs : Array Value} (g : h.get? a = some oe) (z : Zc (.ref C) (some dd) oe) (hd : oe.data = .fields vs) : ObjOk P w H h a (XO a C dd) :=
  ⟨⟨oe, vs, g, z.1, z.2, hd⟩, ⟨oe, g⟩, fun h1 h2 y k => by
    obtain ⟨o2, v2, g2, r⟩ := y
    exact ⟨o2, v2, k _ g2, r⟩⟩
theorem XO_at {P : Program} {w : World} {H : Hp} {h : Heap} {a C dd : Addr} (hok : HOk P w H h) (e : H a = some (XO a C dd)) : ∃ (oe : Obj) (vs : Array Value), h.get? a = some oe ∧ oe.cls = .ref C ∧ oe.dict = some dd ∧ oe.data = .fields vs := by
  have x : ObjOk P w H h a (.ext fun h => ∃ (oe : Obj) (vs : Array Value), h.get? a = some oe ∧ oe.cls = .ref C ∧ oe.dict = some dd ∧ oe.data = .fields vs) := hok a _ e
  exact x.1
section
variable {X : Cx} {pins : List (Addr × Obj)} {σ : L2.St} {H : Hp} {sI s' : Shared} {B : Heap} {a C dd : Addr} {oe : Obj} {vs : Array Value}
/-- the ground is reached: the error is one of our objects from now on -/
theorem kept_err (I : Inv X pins σ H sI) (nb : ∀ b o, sI.heap.get? b = some o → b ∉ frs X.stack → B.get? b = some o) (st : B.StaysIn s'.heap) (up : sI.heap.UpToSlots s'.heap) (os : s'.os = sI.os) (ag : AllBare s'.gens)
    (na : H a = none) (bn : B.get? a = none) (nf : a ∉ frs X.stack) (g : s'.heap.get? a = some oe) (z : Zc (.ref C) (some dd) oe) (hd : oe.data = .fields vs) : Inv X pins σ (upd H a (XO a C dd)) s' := by
  have nI : ∀ b o, sI.heap.get? b = some o → b ≠ a := fun b o e q => by
    rw [q] at e
    have y := nb a o e nf
    rw [bn] at y; cases y
  have slots : ∀ b o, sI.heap.get? b = some o → ∃ sl, s'.heap.get? b = some { o with slots := sl } := fun b o e => by
    by_cases m : b ∈ frs X.stack
    · obtain ⟨_, o', e', hnf⟩ := I.stack.mem m
      rw [e] at e'; cases e'
      exact up b o e hnf
    · exact ⟨o.slots, st b o (nb b o e m)⟩
  have other : ∀ {b : Addr} {u : HO}, H b = some u → upd H a (XO a C dd) b = some u := fun {b u} e => by rw [upd_ne (ne_of_none e na)]; exact e
  refine I.call' (ch := []) os ⟨fun b o e _ m _ => st b o (nb b o e m), fun b o e _ _ _ => slots b o e, fun b o e n _ => by rw [upd_ne (nI b o e)]; exact n, fun b o e _ => ?_, fun b xs e => other e, fun b o v e => other e, fun b ps e => ⟨#[], by rw [other e]; simp⟩⟩ (fun b u e => ?_) ag (fun _ q => nomatch q)
  · obtain ⟨sl, y⟩ := slots b o e
    exact ⟨_, y⟩
  · by_cases hb : b = a
    · subst hb
      rw [upd_same] at e
      cases e
      exact XO_ok g z hd
    · rw [upd_ne hb] at e
      exact (((I.inGround nb).kept st) b u e).stay (fun _ _ _ q => q) (fun d q => other q) fun d xs q => other q
theorem suite_in (I : Inv X pins σ H s') {a : Addr} : Inv (X.suite a (X.pn ++ pins)) [] σ H s' :=
  ⟨I.ok.suite _ _, I.os, I.bare, I.base, I.loc, I.cell, I.free, I.freeC, fun p hp => I.pin p (by rw [List.append_nil] at hp; exact hp), I.hok, I.len⟩
theorem suite_out {a : Addr} {pn' : List (Addr × Obj)} (I : Inv (X.suite a (X.pn ++ pins)) pn' σ H s') (ok : X.Ok) : Inv X pins σ H s' :=
  ⟨ok, I.os, I.bare, I.base, I.loc, I.cell, I.free, I.freeC, fun p hp => I.pin p (List.mem_append_left _ hp), I.hok, I.len⟩
end
/-- the wish of the clause: slot i is the error's name -/
def wErr (K : PySem.W.Frag) (c : Value) (i : Nat) (ts : TS) (Wout : WX) (D : Ends) : WX := fun cls d σ H => ∃ b, PySem.W.exmOne K cls c = some b ∧ (b = false → Wout cls d σ H) ∧
  (b = true → ∃ C dd, cls = .ref C ∧ d = some dd ∧ ∀ a, H a = none → ts { nx := fun σ' H' => D.nx (σ'.set i none) H', rt := D.rt, bk := fun σ' H' => D.bk (σ'.set i none) H', ct := fun σ' H' => D.ct (σ'.set i none) H' } (σ.set i (some (.ref a))) (upd H a (XO a C dd)))
section
variable {X : Cx} {x n : Str} {c : Value} {i : Nat} {body suite : List Stmt} {st0 : Stmt} {np pos pos' : Pos} {tb : WX → TS} {ts : TS} {Wout : WX}
/-- the suite runs, the name goes -/
theorem err_suite {pins : List (Addr × Obj)} {σ : L2.St} {H : Hp} {D : Ends} {a : Addr} {s5 : Shared} (ok : X.Ok) (hN : X.N.Nodup) (hi : X.N[i]? = some n) (hl : X.env.kindOf n = some .local) (hsu : PSs (X.suite a (X.pn ++ pins)) (st0 :: suite) ts) (I : Inv (X.suite a (X.pn ++ pins)) [] σ H s5)
    (h : ts { nx := fun σ' H' => D.nx (σ'.set i none) H', rt := D.rt, bk := fun σ' H' => D.bk (σ'.set i none) H', ct := fun σ' H' => D.ct (σ'.set i none) H' } σ H) :
    wpAny (model X.prog X.w) (X.A.mark (some (.ref a))) (execs (st0 :: suite) X.env) (fun f s6 => wpAny (model X.prog X.w) X.A (do bindName X.env n .none; unbindBehindTheSuite X.env n pos') (fun _ s7 => SP X pins D f s7) X.xe s6) (fun _ _ => False) s5 := by
  refine wpAny_mono (hsu.run [] s5 σ H _ I h) (fun f s6 y => ?_) fun _ _ q => q
  match f, y with
  | .next, y =>
    obtain ⟨σ6, H6, J, q⟩ := y
    exact gone_ok (suite_out J ok) hN hi hl fun s7 J7 => ⟨_, _, J7, q⟩
  | .brk, y =>
    obtain ⟨σ6, H6, J, q⟩ := y
    exact gone_ok (suite_out J ok) hN hi hl fun s7 J7 => ⟨_, _, J7, q⟩
  | .cont, y =>
    obtain ⟨σ6, H6, J, q⟩ := y
    exact gone_ok (suite_out J ok) hN hi hl fun s7 J7 => ⟨_, _, J7, q⟩
  | .ret u, y =>
    obtain ⟨v6, σ6, H6, J, r, q⟩ := y
    exact gone_ok (suite_out J ok) hN hi hl fun s7 J7 => ⟨_, _, _, J7, r, q⟩
theorem ps_tryX (hst : X.stack = X.env :: X.outer) (hfm : X.env.frame = some X.env.locals) (hN : X.N.Nodup) (hi : X.N[i]? = some n) (hl : X.env.kindOf n = some .local) (hc : Names X x c) (tk : Takes X Wout)
    (hb : ∀ (W : WX) (pn : List (Addr × Obj)) (xe : Value → Shared → Prop), Takes (X.tr pn xe) W → PassesOwn (model X.prog X.w) X.A X.env xe → PSs (X.tr pn xe) body (tb W)) (hsu : ∀ (a : Addr) (pn : List (Addr × Obj)), PSs (X.suite a pn) (st0 :: suite) ts) :
    PS X (.Try body [.ExceptHandler (some (.Name x np)) (some n) (st0 :: suite) pos'] [] [] pos) (fun D σ H => tb (wErr X.K c i ts Wout D) D σ H) := by
  refine ⟨fun pins s σ H D I h => ?_⟩
  have ok := I.ok
  have fr : X.A.frames = some (X.env :: X.outer) := by rw [ok.frames, hst]
  have key : ∀ (u : Value) (s1 : Shared), XE (X.tr (X.pn ++ pins) (fun e s₁ => wpAny (model X.prog X.w) X.A (noteFrame e X.env) (fun _ s₂ => wpAny (model X.prog X.w) X.A (setFlight e none) (fun _ s₃ =>
      wpAny (model X.prog X.w) X.A (handleBy e X.env [.ExceptHandler (some (.Name x np)) (some n) (st0 :: suite) pos']) (SP X pins D) X.xe s₃) X.xe s₂) X.xe s₁)) (wErr X.K c i ts Wout D) u s1 →
      wpAny (model X.prog X.w) X.A (noteFrame u X.env) (fun _ s₂ => wpAny (model X.prog X.w) X.A (setFlight u none) (fun _ s₃ =>
      wpAny (model X.prog X.w) X.A (handleBy u X.env [.ExceptHandler (some (.Name x np)) (some n) (st0 :: suite) pos']) (SP X pins D) X.xe s₃) X.xe s₂) X.xe s1 := by
    intro u s1 hx
    obtain ⟨a, B, sI, pins1, σ1, H1, cls, d, rfl, J0, nb, up, sky, na, os, ag, b, e1, wNo, wYes⟩ := hx
    have J : Inv X pins σ1 H1 sI := J0.ofTry ok
    have sky1 : Sky B (X.env :: X.outer) a (Zc cls d) X.env.locals s1.heap := by rw [← hst]; exact sky
    refine Sky.land Zc.steady fr hfm sky1 fun h3 fl up3 => ?_
    have bn : B.get? a = none := fl.2.1
    obtain ⟨o3, v3, g3, z3, d3⟩ := fl.there
    have nfr : a ∉ frs (X.env :: X.outer) := fun m => by
      obtain ⟨_, o', e', hnf⟩ := fl.2.2.1.mem m
      rw [g3] at e'; cases e'
      exact hnf _ d3
    have nfs : a ∉ frs X.stack := by rw [hst]; exact nfr
    have nloc : a ≠ X.env.locals := fun q => nfr (List.mem_filterMap.mpr ⟨X.env, .head _, by rw [hfm, q]⟩)
    have nfx : a ∉ X.fs := fun m => by
      obtain ⟨e, he, q⟩ := List.mem_filterMap.mp m
      exact nfr (List.mem_filterMap.mpr ⟨e, .tail _ he, q⟩)
    have J3 : Inv X pins σ1 H1 { s1 with heap := h3 } := J.landed nb fl.1 (up.trans up3) os ag
    have P3 := J3.suite g3 d3 na nloc nfx
    refine wpAny_handleBy_cons (codeAny_handlers_test ?_) (by intro q; cases q)
    have clsOf : PySem.W.Looks (model X.prog X.w) h3 (typeOf (.ref a)) cls := fun A Q E s k q => wpAny_typeOf_ref (k _ _ g3) (by rw [z3.1]; exact q)
    have asked : ∀ {Q E : Value → Shared → Prop}, Q c { s1 with heap := h3 } → wpAny (model X.prog X.w) (X.A.mark (some (.ref a))) (eval (.Name x np) X.env) Q E { s1 with heap := h3 } := fun {Q E} q => by
      rcases hc with ⟨hg, hdb, hm | ⟨hm, hv, hnn⟩⟩
      · exact ld_glob (X := X.suite a ((a, o3) :: (X.pn ++ pins))) P3 hg hm q hdb
      · exact ld_blt (X := X.suite a ((a, o3) :: (X.pn ++ pins))) P3 hg hm hv q hnn hdb
    refine asked ((PySem.W.exm_one (M := model X.prog X.w) J3.kIn clsOf e1).here ?_)
    cases b with
    | true =>
      obtain ⟨C, dd, rfl, rfl, wS⟩ := wYes rfl
      refine codeAny_handlers_suite_as (HandSPX.lands_againZ fl fun h4 fl4 up4 => ?_)
      obtain ⟨o4, v4, g4, z4, d4⟩ := fl4.there
      have J4 : Inv X pins σ1 (upd H1 a (XO a C dd)) { s1 with heap := h4 } := kept_err J nb fl4.1 ((up.trans up3).trans up4) os ag na bn nfs g4 z4 d4
      refine store_ok (X := X.suite a (X.pn ++ pins)) (v := .ref a) (suite_in J4) hN hi (Or.inl hl) rfl (fun s5 S5 => ?_) (.inr hl)
      exact wpAny_mono (err_suite ok hN hi hl (hsu a (X.pn ++ pins)) S5 (wS a na)) (fun _ _ q => q) fun _ _ q => q.elim
    | false =>
      refine wpAny_handleBy_nil ?_
      have wN := wNo rfl
      have away : wpAny (model X.prog X.w) X.A (setFlight (.ref a) X.env.frame) (fun _ s4 => wpAny (model X.prog X.w) X.A (throw (.ref a) : Sem Flow) (SP X pins D) X.xe s4) X.xe { s1 with heap := h3 } := by
        rw [hfm]
        exact HandSPX.setFlight_upZ fl fun h4 hh up4 => wpAny_throw (tk _ _ ⟨a, B, sI, pins, σ1, H1, cls, d, rfl, J, nb, (up.trans up3).trans up4, .inr (.inr (by rw [hst]; exact hh)), na, os, ag, wN⟩)
      obtain ⟨_, _, _, o9, v9, T, oT, w9, g9, _, d9, h9, _⟩ := id fl
      unfold PySem.passOn
      refine wpAny_bind (wpAny_field g9 d9 h9 ?_)
      rw [if_neg (show ¬ ((Value.ref T == Value.none) = true) from by simp)]
      first
        | exact wpAny_bind (wpAny_pure (wpAny_bind away))
        | exact wpAny_bind away
  refine wpAny_Try_except (wpAny_mono ((hb (wErr X.K c i ts Wout D) (X.pn ++ pins) _ key PassesOwn.looking).run [] s σ H D (I.toTry _) h) (fun f s1 y => ?_) fun e s1 y => y)
  match f, y with
  | .next, y =>
    obtain ⟨σ1, H1, J, q⟩ := y
    exact wpAny_execs_nil ⟨σ1, H1, J.ofTry ok, q⟩
  | .brk, y =>
    obtain ⟨σ1, H1, J, q⟩ := y
    exact ⟨σ1, H1, J.ofTry ok, q⟩
  | .cont, y =>
    obtain ⟨σ1, H1, J, q⟩ := y
    exact ⟨σ1, H1, J.ofTry ok, q⟩
  | .ret u, y =>
    obtain ⟨v, σ1, H1, J, r, q⟩ := y
    exact ⟨v, σ1, H1, J.ofTry ok, r, q⟩
end
end DL
/-! ### DL40: try .. except C as e over data; what is asked of a caught error: isinstance, fields -/
namespace DL
open PySem PySem.Spec PyProof.Rows L2
/-- the classes that the clause takes -/
def JX (K : PySem.W.Frag) (c : Value) (J : Addr → Option Bool) : Prop := ∀ C b, J C = some b → PySem.W.exmOne K (.ref C) c = some b
def tErr (J : Addr → Option Bool) (i : Nat) (tb ts : DTS) : DTS := fun env m E => tb env m { E with ex := fun C ns xs e1 m1 => ∃ b, J C = some b ∧ (b = false → E.ex C ns xs e1 m1) ∧
  (b = true → ts (e1.set i (some (.exc C ns xs))) m1 { nx := fun e2 m2 => E.nx (e2.set i none) m2, rt := E.rt, bk := fun e2 m2 => E.bk (e2.set i none) m2, ct := fun e2 m2 => E.ct (e2.set i none) m2 }) }
section
variable {X : Cx} {x n : Str} {c : Value} {J : Addr → Option Bool} {i : Nat} {body suite : List Stmt} {st0 : Stmt} {np pos pos' : Pos} {tb ts : DTS} {W : WX}
theorem dxs_try (hJ : JX X.K c J) (hN : X.N.Nodup) (hc : Names X x c) (tk : Takes X W)
    (hb : ∀ (W : WX) (pn : List (Addr × Obj)) (xe : Value → Shared → Prop), Takes (X.tr pn xe) W → PassesOwn (model X.prog X.w) X.A X.env xe → DXSs (X.tr pn xe) W body tb) (hsu : ∀ (a : Addr) (pn : List (Addr × Obj)), DSs (X.suite a pn) (st0 :: suite) ts)
    (hi : X.N[i]? = some n := by rfl) (hl : X.env.kindOf n = some .local := by rfl) (hst : X.stack = X.env :: X.outer := by rfl) (hfm : X.env.frame = some X.env.locals := by rfl) :
    DXS X W (.Try body [.ExceptHandler (some (.Name x np)) (some n) (st0 :: suite) pos'] [] [] pos) (tErr J i tb ts) := by
  refine ⟨PS.weak (ps_tryX (tb := fun W => liftSX X.K W tb) (ts := liftS X.K ts) hst hfm hN hi hl hc tk (fun W pn xe t o => (hb W pn xe t o).run) (fun a pn => (hsu a pn).run)) fun D σ H h => ?_⟩
  obtain ⟨env, m, E, eo, s, h, k1, k2, k3, k4, k5⟩ := h
  refine ⟨env, m, _, eo, s, h, k1, k2, k3, k4, fun C ns xs e1 m1 cls d σ1 H1 hx eo1 s1 f1 r => ?_⟩
  obtain ⟨b, e, hno, hyes⟩ := hx
  obtain ⟨rfl, dd, fs, rfl, nd, hd, hn, rr⟩ := r
  refine ⟨b, hJ C b e, fun hb => k5 C ns xs e1 m1 _ _ σ1 H1 (hno hb) eo1 s1 f1 ⟨rfl, dd, fs, rfl, nd, hd, hn, rr⟩, fun hb => ⟨C, dd, rfl, rfl, fun a na => ?_⟩⟩
  have fl := Fr.laid (o := XO a C dd) s1 na
  have ne : dd ≠ a := fun q => by rw [q, na] at hd; cases hd
  have rp : Rep X.K m1 (upd H1 a (XO a C dd)) (.exc C ns xs) (.ref a) := by
    simp only [Rep]
    exact ⟨a, dd, fs, rfl, s1.free na, upd_same, nd, by rw [upd_ne ne]; exact hd, hn, RepL.mono fl _ _ rr⟩
  have ff := f1.trans fl
  exact ⟨_, m1, _, (eo1.mono fl).set i rp, s1.laid na, hyes hb, fun e2 m2 σ2 H2 a1 a2 a3 a4 => k1 _ m2 _ H2 a1 (a2.unset i) a3 (ff.trans a4), fun d m2 v H2 a1 a2 a3 a4 => k2 d m2 v H2 a1 (ff.trans a2) a3 a4,
    fun e2 m2 σ2 H2 a1 a2 a3 a4 => k3 _ m2 _ H2 a1 (a2.unset i) a3 (ff.trans a4), fun e2 m2 σ2 H2 a1 a2 a3 a4 => k4 _ m2 _ H2 a1 (a2.unset i) a3 (ff.trans a4)⟩
/-- .. in a def that lets nothing out -/
theorem ds_of_never (h : DXS X (fun _ _ _ _ => False) (.Try body [.ExceptHandler (some (.Name x np)) (some n) (st0 :: suite) pos'] [] [] pos) (tErr J i tb ts)) :
    DS X (.Try body [.ExceptHandler (some (.Name x np)) (some n) (st0 :: suite) pos'] [] [] pos) (fun env m E => tErr J i tb ts env m { E with ex := fun _ _ _ _ _ => False }) :=
  ⟨PS.weak h.run fun D σ H ⟨env, m, E, eo, s, h, k1, k2, k3, k4⟩ => ⟨env, m, _, eo, s, h, k1, k2, k3, k4, fun _ _ _ _ _ _ _ _ _ z => z.elim⟩⟩
def tErr0 (J : Addr → Option Bool) (i : Nat) (tb ts : DTS) : DTS := fun env m E => tErr J i tb ts env m { E with ex := fun _ _ _ _ _ => False }
theorem ds_try (hJ : JX X.K c J) (hN : X.N.Nodup) (hc : Names X x c)
    (hb : ∀ (W : WX) (pn : List (Addr × Obj)) (xe : Value → Shared → Prop), Takes (X.tr pn xe) W → PassesOwn (model X.prog X.w) X.A X.env xe → DXSs (X.tr pn xe) W body tb) (hsu : ∀ (a : Addr) (pn : List (Addr × Obj)), DSs (X.suite a pn) (st0 :: suite) ts)
    (hi : X.N[i]? = some n := by rfl) (hl : X.env.kindOf n = some .local := by rfl) (hst : X.stack = X.env :: X.outer := by rfl) (hfm : X.env.frame = some X.env.locals := by rfl) :
    DS X (.Try body [.ExceptHandler (some (.Name x np)) (some n) (st0 :: suite) pos'] [] [] pos) (tErr0 J i tb ts) := ds_of_never (dxs_try hJ hN hc takes0 hb hsu hi hl hst hfm)
end
/-! isinstance of a caught error -/
section
variable {X : Cx}
theorem err_inst {pins : List (Addr × Obj)} {σ : L2.St} {H : Hp} {s : Shared} {a C dd : Addr} {fs : List (Str × V)} (I : Inv X pins σ H s) (h1 : H a = some (XO a C dd)) (h2 : H dd = some (.xd fs)) :
    ∃ oe od mA, PySem.W.InstAt s.heap a oe C (some od) ∧ s.heap.Ns1 dd mA ∧ s.heap.get? dd = some od ∧ (∀ f, RelO (fs.lookup f) (mA f)) := by
  obtain ⟨oe, vs, g, z1, z2, z3⟩ := XO_at I.hok h1
  have hx : ObjOk X.prog X.w H s.heap dd (.xd fs) := I.hok dd _ h2
  obtain ⟨mA, hns, hr⟩ := hx
  obtain ⟨od, es, ep, ho, hl⟩ := id hns
  exact ⟨oe, od, mA, ⟨g, z1, by unfold PySem.W.notCls; rw [z3] <;> rfl, by rw [z2]; exact ho⟩, hns, ho, hr⟩
theorem err_kit {K : PySem.W.Frag} {a C : Addr} {oe od : Obj} (T : ExcC K C) : PySem.W.KitX K (.ref a) (.ref C) (fun h => PySem.W.InstAt h a oe C (some od)) := by
  obtain ⟨q, hq, _⟩ := PySem.W.any_some T.hd
  exact PySem.W.kitx_exc (by rw [hq]; rfl) T.hg T.hk T.hs T.ha T.hn T.ht T.hm
/-- isinstance(e, c) | isinstance(e, (c, ..)) -/
def rErrI (K : PySem.W.Frag) : List V → Hp → VK → Prop := fun xs H Q => ∃ (a C dd : Addr) (fs : List (Str × V)) (c : V) (b : Bool), xs = [.ref a, c] ∧ H a = some (XO a C dd) ∧ H dd = some (.xd fs) ∧ ExcC K C ∧
  ((∃ cv, (∀ u, RelV c u → u = cv) ∧ PySem.W.kitOne K (.ref C) cv = some b) ∨ ∃ q ws, c = .ref q ∧ SqT K H q ws ∧ ∀ us, Vals ws us → PySem.W.kitAny K (.ref C) us = some b) ∧ Q (.bl b) H
theorem call_errI : CallR X (.builtin "isinstance") (rErrI X.K) := by
  intro pins s σ H xs us Q I r h
  obtain ⟨a, C, dd, fs, c, b, rfl, h1, h2, T, hc, q⟩ := h
  obtain ⟨oe, od, _, J, _, _, _⟩ := err_inst I h1 h2
  match us, r with
  | [u0, u1], .cons r0 (.cons r1 .nil) =>
    obtain rfl : u0 = Value.ref a := r0
    have fin : ∀ tk, EP X pins σ Q (.bool b) { s with toks := tk } := fun tk => ⟨.bl b, H, I.kept (t' := tk) fun _ _ y => y, rfl, q⟩
    rcases hc with ⟨cv, e1, e2⟩ | ⟨p, ws, rfl, hp, e1⟩
    · rw [e1 _ r1]
      exact PySem.W.kia_one (err_kit T) I.kIn J e2 (fun y => nomatch y) fin
    · obtain rfl : u1 = Value.ref p := r1
      obtain ⟨its, o, n, hv, g, g1, g2⟩ := sqT_at I.hok I.kIn hp
      obtain ⟨oc, od', oda, osl⟩ := o
      dsimp only at g1 g2
      subst g1 g2
      exact PySem.W.kia_tup (err_kit T) I.kIn J g (e1 its hv) (fun y => nomatch y) fin
end
/-- a table of answers; that of ValueError stands for the class being an error's -/
def anyJ (J : Addr → Ty → Option Bool) (C : Addr) : List D → Option Bool
  | [] => some false
  | c :: r => match clD c with
    | some u => match J C u with
      | some true => some true
      | some false => anyJ J C r
      | none => none
    | none => none
def dIsiX (J : Addr → Ty → Option Bool) (m : M) : List D → Option D
  | [x, c] => match look m x with
    | .exc C _ _ => match J C (.inl "ValueError") with
      | some true => match c with
        | .tup cs => (anyJ J C cs).map .bl
        | c => match clD c with
          | some u => (J C u).map .bl
          | none => none
      | _ => none
    | _ => none
  | _ => none
def JE (K : PySem.W.Frag) (J : Addr → Ty → Option Bool) : Prop := ∀ C u b, J C u = some b → PySem.W.kitOne K (.ref C) (valT u) = some b ∧ ExcC K C
theorem cl_val {K : PySem.W.Frag} {m : M} {H : Hp} {c : D} {u : Ty} {v : V} (e : clD c = some u) (r : Rep K m H c v) : ∀ w, RelV v w → w = valT u := by
  unfold clD at e
  split at e
  · cases e
    simp only [Rep] at r
    subst r
    exact fun w q => q
  · cases e
    simp only [Rep] at r
    subst r
    exact fun w q => q
  · cases e
theorem anyJ_ok {K : PySem.W.Frag} {m : M} {H : Hp} {J : Addr → Ty → Option Bool} {C : Addr} (hJ : JE K J) : ∀ {cs : List D} {vs : List V} {b : Bool}, anyJ J C cs = some b → RepL K m H cs vs → ∀ us, Vals vs us → PySem.W.kitAny K (.ref C) us = some b
  | [], vs, b, e, r, us, hu => by
    simp only [RepL] at r
    subst r
    cases hu
    exact e
  | c :: cs, vs, b, e, r, us, hu => by
    simp only [RepL] at r
    obtain ⟨v, vr, rfl, r1, r2⟩ := r
    cases hu with
    | cons h1 h2 =>
      unfold anyJ at e
      split at e
      · rename_i u eu
        rw [cl_val eu r1 _ h1]
        split at e
        · rename_i ej
          rw [← e]
          unfold PySem.W.kitAny
          rw [(hJ _ _ _ ej).1]
        · rename_i ej
          have ih := anyJ_ok hJ e r2 _ h2
          unfold PySem.W.kitAny
          rw [(hJ _ _ _ ej).1]
          exact ih
        · cases e
      · cases e
theorem dc_isiX {X : Cx} {J : Addr → Ty → Option Bool} (hJ : JE X.K J) : DCall X (.builtin "isinstance") (dIsiX J) := callW call_errI fun vs H Q ⟨ds, m, d, r, s, e, q⟩ => by
  unfold dIsiX at e
  split at e
  · rename_i x c
    simp only [RepL] at r
    obtain ⟨v1, r', rfl, h1, v2, r2, rfl, h2, rfl⟩ := r
    split at e
    · rename_i C ns xs ex
      have cc := cont_of s h1
      rw [ex] at cc
      simp only [Cont, Rep] at cc
      obtain ⟨a, dd, fs, rfl, _, g1, _, g2, _, _⟩ := cc
      split at e
      · rename_i ev
        obtain ⟨_, T⟩ := hJ _ _ _ ev
        split at e
        · rename_i cs
          obtain ⟨b, eb, rfl⟩ := Option.map_eq_some_iff.mp e
          simp only [Rep] at h2
          obtain ⟨p, ws, rfl, hp, rw'⟩ := h2
          exact ⟨a, C, dd, fs, _, b, rfl, g1, g2, T, .inr ⟨p, ws, rfl, tupAt_sq hp, fun us hu => anyJ_ok hJ eb rw' us hu⟩, q _ _ Fr.refl s rep_bl⟩
        · split at e
          · rename_i u eu
            obtain ⟨b, eb, rfl⟩ := Option.map_eq_some_iff.mp e
            exact ⟨a, C, dd, fs, _, b, rfl, g1, g2, T, .inl ⟨_, cl_val eu h2, (hJ _ _ _ eb).1⟩, q _ _ Fr.refl s rep_bl⟩
          · cases e
      · cases e
    · cases e
  · cases e
/-! a field of a caught error -/
def XF (K : PySem.W.Frag) (G : Addr → Str → Bool) : Prop := ∀ C f, G C f = true → XfC K C ∧ PySem.W.findIn K (.ref C) f = some none
def tXfl (G : Addr → Str → Bool) (f : Str) (te : DTE) : DTE := fun env m Q => te env m fun x m1 => ∃ C ns vs d, look m1 x = .exc C ns vs ∧ G C f = true ∧ fget f ns vs = some d ∧ Q d m1
section
variable {X : Cx} {e : Expr} {te : DTE} {pos : Pos}
theorem de_xfl {f : Str} {G : Addr → Str → Bool} (hG : XF X.K G) (he : DE X e te) (hb : attributeBase e f X.env (eval e X.env) = eval e X.env := by rfl) : DE X (.Attribute e f pos) (tXfl G f te) := by
  refine ⟨⟨fun pins s σ H Q I h => ?_⟩⟩
  obtain ⟨env, m, R, eo, sm, h, k⟩ := h
  have h0 : liftE X.K te σ H (fun v H1 => ∃ C a dd fs w, v = .ref a ∧ H1 a = some (XO a C dd) ∧ H1 dd = some (.xd fs) ∧ G C f = true ∧ fs.lookup f = some w ∧ Q w H1) := by
    refine ⟨env, m, _, eo, sm, h, fun x m1 v H1 h1 f1 s1 r1 => ?_⟩
    obtain ⟨C, ns, vs, d, e1, eg, e2, h1⟩ := h1
    have cc := cont_of s1 r1
    rw [e1] at cc
    simp only [Cont, Rep] at cc
    obtain ⟨a, dd, fs, rfl, _, g1, _, g2, rfl, r2⟩ := cc
    obtain ⟨w, e3, r3⟩ := fget_rep r2 e2
    exact ⟨C, a, dd, fs, w, rfl, g1, g2, eg, e3, k d m1 w H1 h1 f1 s1 r3⟩
  refine attr_of hb (thn (he.run.run pins s σ H _ I h0) fun u s1 hh => ?_)
  obtain ⟨v, H1, I1, rv, C, a, dd, fs, w, rfl, g1, g2, eg, l, q⟩ := hh
  obtain rfl : u = Value.ref a := rv
  obtain ⟨T, hno⟩ := hG C f eg
  obtain ⟨oe, od, mA, J, hns, ho, hr⟩ := err_inst I1 g1 g2
  obtain ⟨od', ho', hl⟩ := lookIn_ns hns
  rw [ho] at ho'
  cases ho'
  obtain ⟨u, hu, ru⟩ := RelO.some_of (v := w) (o := mA f) (by rw [← l]; exact hr f)
  exact HandSPX.exc_get I1.kIn J T.ga T.gg T.exC (PySem.W.findObj_own T.hdC hno rfl (by rw [hl, hu])) (handed_of ru) ⟨w, H1, I1.tok _, ru, q⟩
end
end DL
/-! ### DL41: promises of defs that raise; super().__init__(..) where the rest may raise -/
namespace DL
open PySem PySem.Spec PyProof.Rows L2
section
variable (P : Program) (w : World) (K : PySem.W.Frag) (mg : Str → Option Value) (base : Heap)
def CalXW (x : Str) (k : Nat) (sp : DSpX) : Prop := ∃ f, mg x = some (.ref f) ∧ PySem.W.keepIn K (.ref f) = true ∧ FnG P w K mg base (L2.CX P w) k f (liftSpX K sp)
def CalMXW (C : Addr) (m : Str) (k : Nat) (sp : DSpX) : Prop := ∃ f, Meth K C m f ∧ FnG P w K mg base (L2.CX P w) k f (liftSpX K sp)
def CalCXW (C : Addr) (k : Nat) (sp : DSpX) : Prop := ∃ f, Mk K C f ∧ FnG P w K mg base (L2.CX P w) k f (liftSpX K sp)
def CalKXW (C : Addr) (m : Str) (k : Nat) (sp : DSpX) : Prop := ∃ mc p g, ClX.CRead K C mc ∧ ClX.CMet K C mc m p g ∧ FnG P w K mg base (L2.CX P w) k g (liftSpX K sp)
end
def spOfX (n N : Nat) (t : DTS) : DSpX := fun ds m R F => ds.length = n ∧ t (startD N ds) m (bodyEndsX R F)
section
variable {P : Program} {w : World} {K : PySem.W.Frag} {mg : Str → Option Value} {base : Heap}
theorem takesS {N : List Str} {qual : Str} {scope : Scope} {f cc : Addr} {cdv : Value} {A : Around} {outer : List PySem.Env} {s : Shared} {H : Hp} {E : XK} : Takes (cxS (L2.CX P w) P w K mg base N qual scope f cc cdv A outer s H E) (fun cls d _ H => E cls d H) := takes_of rfl rfl rfl rfl
theorem ownS {CX : CXT} {N : List Str} {qual : Str} {scope : Scope} {f cc : Addr} {cdv : Value} {A : Around} {outer : List PySem.Env} {s : Shared} {H : Hp} {E : XK} : PassesOwn (model P w) (cxS CX P w K mg base N qual scope f cc cdv A outer s H E).A (cxS CX P w K mg base N qual scope f cc cdv A outer s H E).env (cxS CX P w K mg base N qual scope f cc cdv A outer s H E).xe := passes_of rfl
theorem super_runX {x qual : Str} {st : Stmt} {f cc cda C CD g : Addr} {fd : FuncData} {file : Str} {N ps : List Str} {self : Str} {ar : Arg} {k : Nat} {sp2 : DSp} {tA : DTA} {tR : DTS} {e : Expr} {es : List Expr} {rest : List Stmt} {p0 p1 p2 p3 p4 : Pos}
    (F : FunS K x qual st CD file f cc cda fd) (S : SScope N ps (defScope st)) (hself : N[0]? = some self) (hloc0 : (defScope st).names.lookup self = some .local) (har : ((defArgs st).posonlyargs ++ (defArgs st).args).head? = some ar) (hars : ar.arg = self)
    (hsn : (defScope st).names.lookup ("super" : Str) = some .globalImplicit) (hcn : (defScope st).names.lookup ("__class__" : Str) = some .free)
    (hst : defBody st = .Expr (.Call (.Attribute (.Call (.Name "super" p0) [] [] p1) "__init__" p2) (e :: es) [] p3) p4 :: rest)
    (hfile : ((P.main.file : Str) == file) = true) (htop : (P.main.scope.names.lookup ("super" : Str)).isSome = false)
    (U : SupOk K mg C CD g "__init__") (G : FnG P w K mg base CX0 k g (liftSp K sp2))
    {A : Around} {outer : List PySem.Env} {s : Shared} {H : Hp} {args : Args} {us : List Value} {vs : List V} {Q : VK} {E : XK} {ds : List D} {m : M} {R : DK} {FX : Addr → List Str → List D → M → Prop}
    (hA : DA (cxS (L2.CX P w) P w K mg base N qual (defScope st) f cc (.ref cda) A outer s H E) (e :: es) tA) (hR : DXSs (cxS (L2.CX P w) P w K mg base N qual (defScope st) f cc (.ref cda) A outer s H E) (fun cls d _ H => E cls d H) rest tR)
    (hi : ∀ L, interactive (envS qual (defScope st) L f (.ref cda) cc) = false) (hsw : ∀ L, swapsWith (.Call (.Attribute (.Call (.Name "super" p0) [] [] p1) "__init__" p2) (e :: es) [] p3) none p4.line (envS qual (defScope st) L f (.ref cda) cc) = pure false)
    (hse : ∀ L, starEach (e :: es) (envS qual (defScope st) L f (.ref cda) cc) = (false, eval e (envS qual (defScope st) L f (.ref cda) cc)) :: starEach es (envS qual (defScope st) L f (.ref cda) cc)) (hpl : ∀ L, (backTo p3 (starEach es (envS qual (defScope st) L f (.ref cda) cc))).any (·.1) = false)
    {pl : Sem Bool} (hev : ∀ L, eval (.Call (.Attribute (.Call (.Name "super" p0) [] [] p1) "__init__" p2) (e :: es) [] p3) (envS qual (defScope st) L f (.ref cda) cc) = (do
      let ov ← attributeBase (.Call (.Name "super" p0) [] [] p1) "__init__" (envS qual (defScope st) L f (.ref cda) cc) (eval (.Call (.Name "super" p0) [] [] p1) (envS qual (defScope st) L f (.ref cda) cc))
      standAt p2.atName
      let (fn, first) ← holding [ov] (getMethod ov "__init__" pl)
      callWith p3 fn first (backTo p3 (starEach (e :: es) (envS qual (defScope st) L f (.ref cda) cc))) []))
    (hr : RoomG (k + 1) A) (e0 : Env0 P w K mg base A outer s H) (rv : Vals vs us) (hl : vs.length = ps.length) (hb : BindsTo s fd args (ps.zip us))
    (r : RepL K m H ds vs) (sm : Sim K m H) (q : tSup C sp2 tA tR (startD N.length ds) m (bodyEndsX R FX)) (kq : ∀ d m' v H', R d m' → Fr m H m' H' → Sim K m' H' → Rep K m' H' d v → Q v H')
    (kx : ∀ C ns xs m' cls d H', FX C ns xs m' → Sim K m' H' → Fr m H m' H' → ExR K m' H' C ns xs cls d → E cls d H') :
    codeAny (model P w) A (.call (.ref f) args) (CR (L2.CX P w) outer P w H s Q E) s := by
  obtain ⟨oc, od, kV, doc, pm, an, ct, osl, rfl, lk⟩ := F.ex
  have kin : K.In s.heap := e0.mod.kin.keeps fun b o e => (e0.bs b o e).1
  have lim : s.heap.NoLimit := e0.mod.nolimit.keeps fun b o e => (e0.bs b o e).1
  obtain ⟨ccl, ccd, ccs, hcell⟩ := F.cell
  obtain ⟨dcl, dcd, dvs, dsl, tf, hcode, hvs⟩ := F.code
  refine ks_codeAny_call_defAt hr.r.depth (kin _ _ lk) rfl lim (PySem.W.codeRec_of kin F.cd) rfl hb S.nocell (fun y hy => S.par y.1 (List.of_mem_zip hy).1) (fun h1 hns kp => ?_) S.co S.gen S.kind
  have J : Inv (cxS (L2.CX P w) P w K mg base N qual (defScope st) f cc (.ref cda) A outer s H E) [] (L2.start N vs) H { s with heap := h1, toks := s.toks + (ps.zip us).length } :=
    inv_startS S hr.r.hd e0 hl rv (e0.mod.kin _ _ hcell) rfl hns kp
  have EO : EnvOk K m H (L2.start N vs) (startD N.length ds) := EnvOk.start r
  obtain ⟨a, ns, fvs, ea, em, qA⟩ := q
  obtain ⟨va, eva, ra⟩ := EO.get 0 _ ea
  simp only [Rep] at ra
  subst ra
  obtain ⟨dx, fs, hH, _, _⟩ := sm a _ em
  have hr' : RoomG k (A.deeper (envS qual (defScope st) s.heap.objs.size f (.ref cda) cc)) := ⟨hr.r.deeper _, hr.g⟩
  suffices goal2 : _root_.PySem.wpAt (model P w) (A.deeper (envS qual (defScope st) s.heap.objs.size f (.ref cda) cc)) (.func (defBody st) (envS qual (defScope st) s.heap.objs.size f (.ref cda) cc)) (execs (defBody st) (envS qual (defScope st) s.heap.objs.size f (.ref cda) cc))
      (fun fl s' => CR (L2.CX P w) outer P w H s Q E (.ok (.ret (match fl with | .ret v => v | _ => .none))) s')
      (fun e s' => wpAny (model P w) (A.deeper (envS qual (defScope st) s.heap.objs.size f (.ref cda) cc)) (leaving (envS qual (defScope st) s.heap.objs.size f (.ref cda) cc) e) (fun _ s'' => CR (L2.CX P w) outer P w H s Q E (.error e) s'') (fun e' s'' => CR (L2.CX P w) outer P w H s Q E (.error e') s'') s')
      { s with heap := h1, toks := s.toks + (ps.zip us).length } by
    exact goal2
  rw [hst]
  refine ks_wpAt_execs_cons (ks_wpAt_Expr_any (ks_wpAt_MethodCall ?_ (hev _)) (hi _) (hsw _))
  -- the loads
  obtain ⟨ml, hml, hlk⟩ := J.loc
  obtain ⟨u0, ru0, lk0⟩ := hlk 0 self (.ref a) hself eva (.inl hloc0)
  obtain rfl : u0 = Value.ref a := ru0
  have hlv : ml self = some (.ref a) := by
    rcases lk0 with ⟨_, z⟩ | ⟨z, _⟩
    · exact z
    · have z' : (defScope st).names.lookup self = some .cell ∨ (defScope st).names.lookup self = some .free := z
      rw [hloc0] at z'
      rcases z' with z' | z' <;> cases z'
  obtain ⟨mA, O, _, _, _, _⟩ := ins_get J.hok hH
  obtain ⟨odx, I0, _⟩ := O.look
  obtain ⟨cdD, hcD⟩ := U.cls
  have X := J.kIn
  obtain ⟨oD, hD1, hD2⟩ : ∃ oD, h1.get? CD = some oD ∧ oD.data = .cls cdD := by
    unfold PySem.W.clsIn at hcD
    split at hcD
    · rename_i z ho
      cases hcD
      exact ⟨_, X _ _ ho, rfl⟩
    · cases hcD
  obtain ⟨mb, hmb, hbt⟩ := J.mod.blt
  refine ks_wpAt_super_base (env := envS qual (defScope st) s.heap.objs.size f (.ref cda) cc) hsn hcn (by decide) rfl (X _ _ lk) rfl har rfl (X _ _ hcode) rfl hvs hfile htop ?_
  refine PySem.W.ks_loadName_global S.kind hsn (Calls.loadGlobal_builtin (env := envS qual (defScope st) s.heap.objs.size f (.ref cda) cc) (J.mod.glob.keeps J.bk) U.nosup (hmb.keeps J.bk) ((hbt _ (by decide)).trans (by rfl)) ⟨rfl, ?_⟩)
  refine wpAny_loadName_free S.kind hcn rfl ⟨_, X _ _ hcell, rfl⟩ ?_
  rw [hars]
  refine wpAny_loadName_local S.kind hloc0 hml hlv ?_
  refine ks_wpAny_isType_cls hD1 hD2 ⟨rfl, ?_⟩
  refine ks_wpAny_call_super hD1 hD2 I0.at_ I0.cls (fun c e => ?_) (PySem.W.looks_mroIn X U.sub) (fun h2 e2 k2 => ?_)
  · cases e
  have J2 := J.kept (h' := h2) (t' := s.toks + (ps.zip us).length) k2
  have X2 : K.In h2 := J2.kIn
  obtain ⟨mA2, O2, _⟩ := ins_get J2.hok hH
  obtain ⟨od2, I2, _⟩ := O2.look
  obtain ⟨gcl, god, gdt, gsl, glk, gty⟩ : ∃ c d dt sl, K.lookup g = some ⟨c, d, dt, sl⟩ ∧ c = .type "function" := by
    have t := U.ty
    unfold PySem.W.typeIn at t
    dsimp only at t
    cases z : K.lookup g with
    | none => rw [z] at t; cases t
    | some o =>
      rw [z] at t
      exact ⟨o.cls, o.dict, o.data, o.slots, rfl, Option.some.inj t⟩
  obtain ⟨cdC, hcC, hal⟩ : ∃ cd, PySem.W.clsIn K C = some cd ∧ PySem.W.alongIn K "__init__" ((cd.mro.dropWhile (· != .ref CD)).drop 1) = some (some (.ref g)) := by
    have t := U.at_
    unfold PySem.W.ks_superIn at t
    exact Option.bind_eq_some_iff.mp t
  refine ks_wpAny_getMethod_super e2 (PySem.W.looks_opaque X2 U.opq) ((PySem.W.looks_clsIn X2 hcC).andThen .now) rfl X2 hal (X2 _ _ glk) gty (PySem.W.ks_ne X2 I2 hcC) (by decide) ?_
  have hq : H h2.objs.size = none := J2.hok.fresh (Nat.le_refl _)
  have J3 := J2.laid (t' := s.toks + (ps.zip us).length + 1) (a := h2.objs.size) (o := .met g a) (fun b u z => Heap.get?_push_of_some (PySem.W.methodObj (.ref g) (.ref a)) z) (Nat.le_refl _)
    (Heap.get?_push_size h2 rfl)
  have f3 := Fr.laid (o := HO.met g a) sm hq
  refine callwith_met (X := cxS (L2.CX P w) P w K mg base N qual (defScope st) f cc (.ref cda) A outer s H E) (g := g) (a := a) ?_ U.fn ?_
  · rw [hse]
    show ((false || (backTo p3 (starEach es (envS qual (defScope st) s.heap.objs.size f (.ref cda) cc))).any (·.1)) || false) = false
    rw [hpl]; rfl
  have hrun := hA.run.run p3 [] _ (L2.start N vs) (upd H h2.objs.size (.met g a)) (fun zs H4 => H4 h2.objs.size = some (.met g a) ∧ liftSp K sp2 (V.ref a :: zs) H4 (fun _ H5 => ∃ env m5 R5, EnvOk K m5 H5 (L2.start N vs) env ∧ Sim K m5 H5 ∧ tR env m5 R5 ∧ (R5 = bodyEndsX R FX) ∧ Fr m H m5 H5) E0) J3
    ⟨startD N.length ds, m, _, EO.mono f3, sm.laid hq, qA, fun d4 m4 v4 H4 a1 a2 a3 a4 => ⟨?_, .ref a :: d4, m4, _, .cons rep_ref a4, a3, a1, fun d5 m5 v5 H5 b1 b2 b3 b4 => ⟨_, m5, _, EO.mono ((f3.trans a2).trans b2), b3, b1, rfl, (f3.trans a2).trans b2⟩⟩⟩
  rotate_left
  · obtain ⟨_, u', e3, e4⟩ := a2 h2.objs.size _ (sm.free hq) upd_same
    rw [e3, e4.met]
  have hse1 : starEach (e :: es) (cxS (L2.CX P w) P w K mg base N qual (defScope st) f cc (.ref cda) A outer s H E).env = (false, eval e (cxS (L2.CX P w) P w K mg base N qual (defScope st) f cc (.ref cda) A outer s H E).env) :: starEach es (cxS (L2.CX P w) P w K mg base N qual (defScope st) f cc (.ref cda) A outer s H E).env := hse _
  rw [hse1] at hrun
  rw [hse]
  refine Calls.evalArgs_plain (thn hrun fun us4 s4 hx4 => ?_)
  obtain ⟨zs, H4, J4, rz, hm4, hsp⟩ := hx4
  refine ⟨met_P J4 hm4, ?_⟩
  refine thn (wpAny_call (PySem.W.method_call (met_P J4 hm4).1 (run_fnC (us := Value.ref a :: us4) (vs := V.ref a :: zs) G hr' pass0 J4 (.cons rfl rz) hsp))) fun u5 s5 hx5 => ?_
  obtain ⟨v5, H5, J5, r5, env5, m5, R5, EO5, S5, h5, rfl, f5⟩ := hx5
  refine wpAt_of_wpAny ?_
  have hrest := hR.run.run [] s5 (L2.start N vs) H5 { nx := fun _ H' => Q .non H', rt := Q } J5
    ⟨env5, m5, _, EO5, S5, h5, fun env' m' σ' H' a1 a2 a3 a4 => kq .non m' .non H' a1 (f5.trans a4) a3 rep_non, fun d m' v H' a1 a2 a3 a4 => kq d m' v H' a1 (f5.trans a2) a3 a4, fun _ _ _ _ z => z.elim, fun _ _ _ _ z => z.elim, fun C ns xs env' m' cls d σ' H' a1 a2 a3 a4 a5 => kx C ns xs m' cls d H' a1 a3 (f5.trans a4) a5⟩
  refine wpAny_mono hrest (fun fl s' hs => ?_) fun e s' hs => hs
  cases fl with
  | ret u =>
    obtain ⟨v, σ', H', J6, rv6, q6⟩ := hs
    exact ⟨v, H', J6.os, J6.bare, J6.base, J6.hok, rv6, q6⟩
  | next =>
    obtain ⟨σ', H', J6, q6⟩ := hs
    exact ⟨V.non, H', J6.os, J6.bare, J6.base, J6.hok, rfl, q6⟩
  | brk =>
    obtain ⟨_, _, _, q6⟩ := hs
    exact False.elim q6
  | cont =>
    obtain ⟨_, _, _, q6⟩ := hs
    exact False.elim q6
theorem fn_superX {x qual : Str} {st : Stmt} {f cc cda C CD g : Addr} {fd : FuncData} {file : Str} {N ps : List Str} {self : Str} {ar : Arg} {k : Nat} {sp : DSpX} {sp2 : DSp} {tA : DTA} {tR : DTS} {e : Expr} {es : List Expr} {rest : List Stmt} {p0 p1 p2 p3 p4 : Pos} {pl : Sem Bool}
    (F : FunS K x qual st CD file f cc cda fd) (S : SScope N ps (defScope st)) (hself : N[0]? = some self) (hloc0 : (defScope st).names.lookup self = some .local) (har : ((defArgs st).posonlyargs ++ (defArgs st).args).head? = some ar) (hars : ar.arg = self)
    (hsn : (defScope st).names.lookup ("super" : Str) = some .globalImplicit) (hcn : (defScope st).names.lookup ("__class__" : Str) = some .free)
    (hst : defBody st = .Expr (.Call (.Attribute (.Call (.Name "super" p0) [] [] p1) "__init__" p2) (e :: es) [] p3) p4 :: rest)
    (hfile : ((P.main.file : Str) == file) = true) (htop : (P.main.scope.names.lookup ("super" : Str)).isSome = false)
    (U : SupOk K mg C CD g "__init__") (G : FnG P w K mg base CX0 k g (liftSp K sp2))
    (hA : ∀ (A : Around) (outer : List PySem.Env) (s : Shared) (H : Hp) (E : XK), DA (cxS (L2.CX P w) P w K mg base N qual (defScope st) f cc (.ref cda) A outer s H E) (e :: es) tA)
    (hR : ∀ (A : Around) (outer : List PySem.Env) (s : Shared) (H : Hp) (E : XK), RoomG k (A.deeper (envS qual (defScope st) s.heap.objs.size f (.ref cda) cc)) → DXSs (cxS (L2.CX P w) P w K mg base N qual (defScope st) f cc (.ref cda) A outer s H E) (fun cls d _ H => E cls d H) rest tR)
    (hi : ∀ L, interactive (envS qual (defScope st) L f (.ref cda) cc) = false) (hsw : ∀ L, swapsWith (.Call (.Attribute (.Call (.Name "super" p0) [] [] p1) "__init__" p2) (e :: es) [] p3) none p4.line (envS qual (defScope st) L f (.ref cda) cc) = pure false)
    (hse : ∀ L, starEach (e :: es) (envS qual (defScope st) L f (.ref cda) cc) = (false, eval e (envS qual (defScope st) L f (.ref cda) cc)) :: starEach es (envS qual (defScope st) L f (.ref cda) cc)) (hpl : ∀ L, (backTo p3 (starEach es (envS qual (defScope st) L f (.ref cda) cc))).any (·.1) = false)
    (hev : ∀ L, eval (.Call (.Attribute (.Call (.Name "super" p0) [] [] p1) "__init__" p2) (e :: es) [] p3) (envS qual (defScope st) L f (.ref cda) cc) = (do
      let ov ← attributeBase (.Call (.Name "super" p0) [] [] p1) "__init__" (envS qual (defScope st) L f (.ref cda) cc) (eval (.Call (.Name "super" p0) [] [] p1) (envS qual (defScope st) L f (.ref cda) cc))
      standAt p2.atName
      let (fn, first) ← holding [ov] (getMethod ov "__init__" pl)
      callWith p3 fn first (backTo p3 (starEach (e :: es) (envS qual (defScope st) L f (.ref cda) cc))) []))
    (hn : ∀ ds m R G, sp ds m R G → ds.length = ps.length) (hsp : ∀ ds m R G, sp ds m R G → tSup C sp2 tA tR (startD N.length ds) m (bodyEndsX R G))
    (hb : ∀ (kV doc pm : Value) (an : Option Addr) (ct : Value) (us : List Value), us.length = ps.length → bindArgs (PySem.W.ksFn x qual (defArgs st) (defBody st) (defScope st) .none kV doc pm an (.ref cda) ct cc) ⟨us, []⟩ = pure (ps.zip us)) :
    FnG P w K mg base (L2.CX P w) (k + 1) f (liftSpX K sp) := by
  intro A outer s H us vs Q E hr e0 rv ⟨ds, m, R, FX, r, sm, q, kq, kx⟩
  have hl : vs.length = ps.length := by rw [← r.length]; exact hn _ _ _ _ q
  have hb1 : BindsTo s fd ⟨us, []⟩ (ps.zip us) := by
    obtain ⟨oc, od, kV, doc, pm, an, ct, osl, rfl, lk⟩ := F.ex
    exact BindsTo.of_eq (hb kV doc pm an ct us (by rw [← rv.length]; exact hl))
  exact super_runX F S hself hloc0 har hars hsn hcn hst hfile htop U G (hA A outer s H E) (hR A outer s H E ⟨hr.r.deeper _, hr.g⟩) hi hsw hse hpl hev hr e0 rv hl hb1 r sm (hsp _ _ _ _ q) kq kx
end
end DL
/-! ### DL42: tables of what is known of errors -/
namespace DL
open PySem PySem.Spec PyProof.Rows L2
def jxT (Cs : List Addr) : Addr → Option Bool := fun C => if C ∈ Cs then some true else none
theorem jx_ok {K : PySem.W.Frag} {c : Value} {Cs : List Addr} (h : ∀ C ∈ Cs, PySem.W.exmOne K (.ref C) c = some true) : JX K c (jxT Cs) := fun C b e => by
  unfold jxT at e
  split at e
  · rename_i hc
    rw [← e]
    exact h C hc
  · cases e
def xfT (tab : List (Addr × Str)) : Addr → Str → Bool := fun C f => tab.any fun e => decide (e.1 = C) && decide (e.2 = f)
theorem xf_ok {K : PySem.W.Frag} {tab : List (Addr × Str)} (h : ∀ e ∈ tab, XfC K e.1 ∧ PySem.W.findIn K (.ref e.1) e.2 = some none) : XF K (xfT tab) := fun C f e => by
  obtain ⟨x, hx, hd⟩ := List.any_eq_true.mp e
  obtain ⟨h1, h2⟩ := Bool.and_eq_true_iff.mp hd
  have h1 := of_decide_eq_true h1
  have h2 := of_decide_eq_true h2
  subst h1 h2
  exact h x hx
/-! isinstance(e, c), c written as it is -/
def clsAll : List D → Option (List Value)
  | [] => some []
  | d :: ds => match clD d, clsAll ds with
    | some u, some us => some (valT u :: us)
    | _, _ => none
def ansD (K : PySem.W.Frag) (C : Addr) : D → Option Bool
  | .tup cs => (clsAll cs).bind (PySem.W.kitAny K (.ref C))
  | d => (clD d).bind fun u => PySem.W.kitOne K (.ref C) (valT u)
def JI (K : PySem.W.Frag) (cd : D) (J : Addr → Option Bool) : Prop := ∀ C b, J C = some b → ExcC K C ∧ ansD K C cd = some b
open Classical in
noncomputable def dIsiK (cd : D) (J : Addr → Option Bool) (m : M) : List D → Option D
  | [x, c] => if c = cd then (match look m x with
    | .exc C _ _ => (J C).map .bl
    | _ => none) else none
  | _ => none
theorem clsAll_val {K : PySem.W.Frag} {m : M} {H : Hp} : ∀ {cs : List D} {ws : List V} {vals : List Value}, clsAll cs = some vals → RepL K m H cs ws → ∀ us, Vals ws us → us = vals
  | [], ws, vals, e, r, us, hu => by
    simp only [RepL] at r
    subst r
    cases hu
    exact Option.some.inj e
  | c :: cs, ws, vals, e, r, us, hu => by
    simp only [RepL] at r
    obtain ⟨v, vr, rfl, r1, r2⟩ := r
    cases hu with
    | cons h1 h2 =>
      unfold clsAll at e
      split at e
      · rename_i u us' e1 e2
        rw [← Option.some.inj e, cl_val e1 r1 _ h1, clsAll_val e2 r2 _ h2]
      · cases e
theorem dc_isiK {X : Cx} {cd : D} {J : Addr → Option Bool} (hJ : JI X.K cd J) : DCall X (.builtin "isinstance") (dIsiK cd J) := callW call_errI fun vs H Q ⟨ds, m, d, r, s, e, q⟩ => by
  unfold dIsiK at e
  split at e
  · rename_i x c
    simp only [RepL] at r
    obtain ⟨v1, r', rfl, h1, v2, r2, rfl, h2, rfl⟩ := r
    split at e
    · rename_i hcd
      subst hcd
      split at e
      · rename_i C ns xs ex
        have cc := cont_of s h1
        rw [ex] at cc
        simp only [Cont, Rep] at cc
        obtain ⟨a, dd, fs, rfl, _, g1, _, g2, _, _⟩ := cc
        obtain ⟨b, eb, rfl⟩ := Option.map_eq_some_iff.mp e
        obtain ⟨T, ea⟩ := hJ C b eb
        unfold ansD at ea
        split at ea
        · rename_i cs
          obtain ⟨vals, e1, e2⟩ := Option.bind_eq_some_iff.mp ea
          simp only [Rep] at h2
          obtain ⟨p, ws, rfl, hp, rw'⟩ := h2
          exact ⟨a, C, dd, fs, _, b, rfl, g1, g2, T, .inr ⟨p, ws, rfl, tupAt_sq hp, fun us hu => by rw [clsAll_val e1 rw' us hu]; exact e2⟩, q _ _ Fr.refl s rep_bl⟩
        · obtain ⟨u, e1, e2⟩ := Option.bind_eq_some_iff.mp ea
          exact ⟨a, C, dd, fs, _, b, rfl, g1, g2, T, .inl ⟨_, cl_val e1 h2, e2⟩, q _ _ Fr.refl s rep_bl⟩
      · cases e
    · cases e
  · cases e
def jbT (tab : List (Addr × Bool)) : Addr → Option Bool := fun C => (tab.find? fun e => decide (e.1 = C)).map (·.2)
theorem ji_ok {K : PySem.W.Frag} {cd : D} {tab : List (Addr × Bool)} (h : ∀ e ∈ tab, ExcC K e.1 ∧ ansD K e.1 cd = some e.2) : JI K cd (jbT tab) := fun C b e => by
  obtain ⟨x, hx, rfl⟩ := Option.map_eq_some_iff.mp e
  have h1 := List.find?_some hx
  rw [decide_eq_true_eq] at h1
  subst h1
  exact h x (List.mem_of_find?_eq_some hx)
theorem kany_no {K : PySem.W.Frag} {t c : Value} {r : List Value} {b : Option Bool} (h : PySem.W.kitOne K t c = some false) (h2 : PySem.W.kitAny K t r = b) : PySem.W.kitAny K t (c :: r) = b := by
  unfold PySem.W.kitAny
  rw [h]
  exact h2
theorem kany_yes {K : PySem.W.Frag} {t c : Value} {r : List Value} (h : PySem.W.kitOne K t c = some true) : PySem.W.kitAny K t (c :: r) = some true := by
  unfold PySem.W.kitAny
  rw [h]
theorem kany_nil {K : PySem.W.Frag} {t : Value} : PySem.W.kitAny K t [] = some false := rfl
/-! isinstance(x, C) for instances: the answer by the instance's class, for the one class that is asked -/
def JS (u : Ty) (tab : List (Addr × Bool)) : Ty → Ty → Option Bool
  | .inr C, v => if v = u then jbT tab C else none
  | .inl _, _ => none
theorem js_ok {K : PySem.W.Frag} {u : Ty} {tab : List (Addr × Bool)} (h : ∀ e ∈ tab, PySem.W.kitOne K (.ref e.1) (valT u) = some e.2 ∧ InsT K e.1) : JOk K (JS u tab) := fun t v b e => by
  unfold JS at e
  split at e
  · split at e
    · rename_i hv
      subst hv
      obtain ⟨x, hx, rfl⟩ := Option.map_eq_some_iff.mp e
      have h1 := List.find?_some hx
      rw [decide_eq_true_eq] at h1
      subst h1
      obtain ⟨a1, a2⟩ := h x (List.mem_of_find?_eq_some hx)
      exact ⟨a1, fun C ec => by cases ec; exact a2⟩
    · cases e
  · cases e
section
variable {X : Cx} {W : WX} {e : Expr}
def tFrzX (te : DTEX) : DTEX := fun env m R F => te env m (fun d m1 => match d with
  | .ref p => ∃ c, m1 p = some c ∧ R c (delM m1 p)
  | d => R d m1) F
theorem dex_frz {te : DTEX} (h : DEX X W e te) : DEX X W e (tFrzX te) := ⟨PE.weak h.run fun σ H Q h => by
  obtain ⟨env, m, R, F, eo, s, h, k, k2⟩ := h
  refine ⟨env, m, _, F, eo, s, h, fun d m1 v H1 h1 f1 s1 r1 => ?_, k2⟩
  split at h1
  · obtain ⟨c, e, h1⟩ := h1
    simp only [Rep] at r1
    subst r1
    exact k c _ _ H1 h1 (f1.trans Fr.frozen) s1.frozen (rep_frozen s1 e)
  · exact k _ m1 v H1 h1 f1 s1 r1⟩
/-- a call that raises nothing here -/
def tNoX (te : DTEX) : DTE := fun env m R => te env m R fun _ _ _ _ _ => False
theorem de_nox {te : DTEX} (h : DEX X (fun _ _ _ _ => False) e te) : DE X e (tNoX te) := ⟨PE.weak h.run fun σ H Q ⟨env, m, R, eo, s, h, k⟩ => ⟨env, m, R, _, eo, s, h, k, fun _ _ _ _ _ _ _ _ _ z => z.elim⟩⟩
end
end DL
/-! ### DL43: sorted of texts and of tuples of texts, any length -/
namespace DL
open PySem PySem.Spec PyProof.Rows L2
section
variable {prog : Program} {w : World} {A : Around} {E : Value → Shared → Prop} {s : Shared}
/-- a list or a tuple with these items -/
def SeqAt (h : Heap) (l : Addr) (vs : List Value) : Prop := ∃ (o : Obj) (n : Nat), h.get? l = some o ∧ (o.cls = .type "list" ∨ o.cls = .type "tuple") ∧ o.data = .seq vs.toArray n
theorem collect_seq {l : Addr} {vs : List Value} {Q : List Value → Shared → Prop} (hl : SeqAt s.heap l vs) (hz : vs.length ≤ sizeLine)
    (h : Q vs { s with heap := (s.heap.push (seqObj "list" #[] 0)).update s.heap.objs.size (Obj.mapSeq (· ++ vs.toArray)) }) : wpAny (model prog w) A (collect (.ref l)) Q E s := by
  obtain ⟨o, n, g, hc, hd⟩ := hl
  have g' : (s.heap.push (seqObj "list" #[] 0)).get? l = some o := Heap.get?_push_of_some _ g
  have gN : (s.heap.push (seqObj "list" #[] 0)).get? s.heap.objs.size = some (seqObj "list" #[] 0) := Heap.get?_push_size _ rfl
  have hT : ∃ T : String, o.cls = .type T ∧ (Value.type T == Value.type "list" || Value.type T == Value.type "tuple") = true := by
    rcases hc with e | e
    · exact ⟨_, e, by decide⟩
    · exact ⟨_, e, by decide⟩
  obtain ⟨T, eT, hb⟩ := hT
  unfold collect
  refine wpAny_bind (wpAny_runValue (codeAny_builtin entry_proto_collect' ?_))
  show wpAny _ _ (do again (.builtin "list.__iadd__" ⟨[← newList [], .ref l], []⟩)) _ _ s
  refine wpAny_bind (wpAny_newList (wpAny_pure ⟨Code.quiet_builtin _ (by decide +kernel), codeAny_builtin entry_list_iadd' ?_⟩))
  show wpAny _ _ (Builtin.List.listExtendWith (.ref s.heap.objs.size) (.ref l) (.ref s.heap.objs.size)) _ _ { s with heap := s.heap.push (seqObj "list" #[] 0) }
  unfold Builtin.List.listExtendWith
  refine wpAny_bind (wpAny_typeOf (T := T) ⟨o, g', eT⟩ ?_)
  rw [if_pos (by rw [Bool.or_assoc, hb, Bool.or_true])]
  refine wpAny_bind (listItems_at g' hd (wpAny_bind (listItems_at (xs := #[]) (n := 0) gN rfl ?_)))
  rw [if_neg (by simp)]
  refine wpAny_bind (listUpdate_at (xs := #[]) (n := 0) gN rfl ?_ (Nat.zero_le _) (by show (#[] ++ vs.toArray).size ≤ sizeLine + 1; simp only [Array.size_append, List.size_toArray, List.length_nil]; omega))
  refine wpAny_pure ?_
  refine wpAny_bind (wpAny_load (get?_update_seq gN _) ?_)
  show wpAny _ _ (pure ((#[] : Array Value) ++ vs.toArray).toList) Q E _
  have eq : ((#[] : Array Value) ++ vs.toArray).toList = vs := by simp
  rw [eq]
  exact wpAny_pure h
open PySem.W in
theorem sorted_seq {l : Addr} {vs : List Value} {κ : KeyKind} {Q : Value → Shared → Prop} (hl : SeqAt s.heap l vs) (S : SortsAt prog w A.in1.in1 { s with heap := sortingHeap (copyHeap s.heap vs) (s.heap.objs.size + 1) vs } κ vs) (hz : vs.length ≤ sizeLine)
    (h : Q (.ref (s.heap.objs.size + 1)) { s with heap := sortedAll s.heap vs (sortVals κ false vs vs).toArray }) : wpAny (model prog w) A (call (.builtin "sorted") [.ref l]) Q E s := by
  refine Calls.call_function_entry kind_sorted plain_sorted entry_sorted (args_sorted1 _) ?_
  unfold Builtin.«sorted»
  refine wpAny_bind (m := checkCount "sorted" 1 1 _) (wpAny_pure (wpAny_bind (collect_seq hl hz ?_)))
  refine wpAny_bind (wpAny_newList ?_ hz)
  have sz : ((s.heap.push (seqObj "list" #[] 0)).update s.heap.objs.size (Obj.mapSeq (· ++ vs.toArray))).objs.size = s.heap.objs.size + 1 := by rw [Heap.size_update, size_push']
  show wpAny _ _ _ _ _ { s with heap := copyHeap s.heap vs }
  rw [sz]
  refine wpAny_bind (wpAny_holding (wpAny_call_entry slot_list_sort ⟨_, copyHeap_at s.heap vs, rfl⟩ entry_list_sort ?body (args_list_sort _)))
  case body =>
    refine wpAny_mono (list_sort_vals (P := fun f s' => f = .done (.ret .none) ∧ Q (.ref (s.heap.objs.size + 1)) s') (s := { s with heap := copyHeap s.heap vs }) (copyHeap_at s.heap vs) S hz ⟨rfl, h⟩) (fun f s' y => ?_) fun _ _ y => y
    obtain ⟨rfl, y⟩ := y
    exact ⟨_, rfl, wpAny_pure ⟨_, rfl, y⟩⟩
end
/-! what is sorted: texts, or tuples of texts none of which is empty -/
def encS : D → PyData
  | .str x => .str x
  | .tup ds => .tuple (ds.map fun d => match d with
    | .str x => .str x
    | _ => .none)
  | _ => .none
def isTx : D → Bool
  | .str _ => true
  | _ => false
def isRw : D → Bool
  | .tup (d :: ds) => isTx d && ds.all isTx
  | _ => false
def okSrt (ds : List D) : Bool := ds.all isTx || ds.all isRw
def srtD (ds : List D) : List D := ds.mergeSort (PySem.W.dataLe false encS)
theorem srtD_perm (ds : List D) : (srtD ds).Perm ds := List.mergeSort_perm _ _
open PySem.W in
section
theorem alikeAll_strs : ∀ xs ys : List Str, alikeAll (xs.map .str) (ys.map .str) = true
  | [], _ => by simp [alikeAll]
  | _ :: _, [] => by simp [alikeAll]
  | x :: xs, y :: ys => by
    simp only [List.map_cons, alikeAll, alikeAll_strs xs ys, alike, Bool.and_self]
theorem depth_strs : ∀ xs : List Str, PyData.depthAll (xs.map .str) = 0
  | [] => by simp [PyData.depthAll]
  | x :: xs => by simp [PyData.depthAll, PyData.depth, depth_strs xs]
theorem isS_str {d : D} (h : isTx d = true) : ∃ x, d = .str x := by
  cases d <;> first | exact ⟨_, rfl⟩ | cases h
theorem allS_strs : ∀ {ds : List D}, ds.all isTx = true → ∃ xs : List Str, ds = xs.map .str
  | [], _ => ⟨[], rfl⟩
  | d :: ds, h => by
    simp only [List.all_cons, Bool.and_eq_true] at h
    obtain ⟨x, rfl⟩ := isS_str h.1
    obtain ⟨xs, rfl⟩ := allS_strs h.2
    exact ⟨x :: xs, rfl⟩
theorem isRw_row {d : D} (h : isRw d = true) : ∃ x xs, d = .tup (.str x :: (xs : List Str).map .str) := by
  unfold isRw at h
  split at h
  · simp only [Bool.and_eq_true] at h
    obtain ⟨x, rfl⟩ := isS_str h.1
    obtain ⟨xs, rfl⟩ := allS_strs h.2
    exact ⟨x, xs, rfl⟩
  · cases h
theorem encS_row (x : Str) (xs : List Str) : encS (.tup (.str x :: xs.map .str)) = .tuple ((x :: xs).map .str) := by
  simp [encS, List.map_map, Function.comp_def]
theorem okSrt_alike {ds : List D} (h : okSrt ds = true) : AllAlike (ds.map encS) := by
  intro a ha b hb
  obtain ⟨d, hd, rfl⟩ := List.mem_map.mp ha
  obtain ⟨e, he, rfl⟩ := List.mem_map.mp hb
  rcases Bool.or_eq_true_iff.mp h with h | h
  · obtain ⟨x, rfl⟩ := isS_str (List.all_eq_true.mp h d hd)
    obtain ⟨y, rfl⟩ := isS_str (List.all_eq_true.mp h e he)
    rfl
  · obtain ⟨x, xs, rfl⟩ := isRw_row (List.all_eq_true.mp h d hd)
    obtain ⟨y, ys, rfl⟩ := isRw_row (List.all_eq_true.mp h e he)
    rw [encS_row, encS_row]
    exact alikeAll_strs _ _
theorem okSrt_sortable {ds : List D} (h : okSrt ds = true) : Sortable (ds.map encS) := by
  rcases Bool.or_eq_true_iff.mp h with h | h
  · refine .inr fun a ha => ?_
    obtain ⟨d, hd, rfl⟩ := List.mem_map.mp ha
    obtain ⟨x, rfl⟩ := isS_str (List.all_eq_true.mp h d hd)
    exact ⟨fun z => (nomatch (show PyData.str x = PyData.none from z)), fun xs z => (nomatch (show PyData.str x = PyData.tuple xs from z))⟩
  · refine .inl fun a ha => ?_
    obtain ⟨d, hd, rfl⟩ := List.mem_map.mp ha
    obtain ⟨x, xs, rfl⟩ := isRw_row (List.all_eq_true.mp h d hd)
    exact ⟨_, _, encS_row x xs⟩
theorem okSrt_depth {ds : List D} (h : okSrt ds = true) : ∀ d ∈ ds, (encS d).depth ≤ 1 := fun d hd => by
  rcases Bool.or_eq_true_iff.mp h with h | h
  · obtain ⟨x, rfl⟩ := isS_str (List.all_eq_true.mp h d hd)
    exact Nat.zero_le _
  · obtain ⟨x, xs, rfl⟩ := isRw_row (List.all_eq_true.mp h d hd)
    rw [encS_row]
    show PyData.depthAll _ + 1 ≤ 1
    rw [depth_strs]; exact Nat.le_refl _
theorem reads_strs {K : PySem.W.Frag} {m : M} {H : Hp} {h : Heap} : ∀ {xs : List Str} {ws : List V} {us : List Value}, RepL K m H (xs.map .str) ws → Vals ws us → ReadsAll h us (xs.map .str) []
  | [], ws, us, r, v => by
    simp only [List.map_nil, RepL] at r
    subst r
    cases v
    exact .nil
  | x :: xs, ws, us, r, v => by
    simp only [List.map_cons, RepL] at r
    obtain ⟨w, wr, rfl, r1, r2⟩ := r
    simp only [Rep] at r1
    subst r1
    cases v with
    | cons h1 h2 =>
      obtain ⟨t, rfl⟩ := h1
      exact ReadsAll.cons (.str x t) (reads_strs r2 h2)
theorem okSrt_reads {P : Program} {w : World} {K : PySem.W.Frag} {m : M} {H : Hp} {h : Heap} {ds : List D} (ok : okSrt ds = true) (hok : HOk P w H h) (kin : K.In h) {d : D} (hd : d ∈ ds) {v : V} {u : Value} (r : Rep K m H d v) (rv : RelV v u) : ∃ as, Reads h u (encS d) as := by
  rcases Bool.or_eq_true_iff.mp ok with ok | ok
  · obtain ⟨x, rfl⟩ := isS_str (List.all_eq_true.mp ok d hd)
    simp only [Rep] at r
    subst r
    obtain ⟨t, rfl⟩ := rv
    exact ⟨[], .str x t⟩
  · obtain ⟨x, xs, rfl⟩ := isRw_row (List.all_eq_true.mp ok d hd)
    simp only [Rep] at r
    obtain ⟨a, ws, rfl, ht, rw'⟩ := r
    obtain rfl : u = Value.ref a := rv
    obtain ⟨its, o, n, hv, g, g1, g2⟩ := sqT_at hok kin (tupAt_sq ht)
    rw [encS_row]
    exact ⟨[], .tuple g g1 g2 (by simpa using reads_strs (xs := x :: xs) rw' hv)⟩
end
def dSort : D → Option D
  | .lst ds => if okSrt ds = true ∧ ds.length ≤ sizeLine then some (.lst (srtD ds)) else none
  | .tup ds => if okSrt ds = true ∧ ds.length ≤ sizeLine then some (.lst (srtD ds)) else none
  | _ => none
/-- sorted(x) of a list or tuple of such -/
def rSortS (K : PySem.W.Frag) : List V → Hp → VK → Prop := fun xs H Q => ∃ (m : M) (a : Addr) (ws : List V) (ds : List D), xs = [.ref a] ∧ (SqT K H a ws ∨ SqL K H a ws) ∧ RepL K m H ds ws ∧ okSrt ds = true ∧ ds.length ≤ sizeLine ∧
  ∀ (p : Addr) (zs : List V), H p = none → RepL K m H (srtD ds) zs → zs.length ≤ sizeLine → Q (.ref p) (upd H p (.lst zs))
theorem each_rep {K : PySem.W.Frag} {m : M} {H : Hp} : ∀ {ds : List D} {ws : List V} {us : List Value}, RepL K m H ds ws → Vals ws us → PySem.W.EachIs (fun u d => ∃ v, RelV v u ∧ Rep K m H d v) us ds
  | [], ws, us, r, v => by
    simp only [RepL] at r
    subst r
    cases v
    exact .nil
  | d :: ds, ws, us, r, v => by
    simp only [RepL] at r
    obtain ⟨w, wr, rfl, r1, r2⟩ := r
    cases v with
    | cons h1 h2 => exact .cons ⟨w, h1, r1⟩ (each_rep r2 h2)
theorem rep_each {K : PySem.W.Frag} {m : M} {H : Hp} : ∀ {ds : List D} {us : List Value}, PySem.W.EachIs (fun u d => ∃ v, RelV v u ∧ Rep K m H d v) us ds → ∃ ws, RepL K m H ds ws ∧ Vals ws us
  | _, _, .nil => ⟨[], .nil, .nil⟩
  | _, _, .cons ⟨v, h1, h2⟩ t => by
    obtain ⟨ws, a, b⟩ := rep_each t
    exact ⟨v :: ws, .cons h2 a, .cons h1 b⟩
theorem each_withmem {α β : Type} {R : α → β → Prop} : ∀ {as : List α} {bs : List β}, PySem.W.EachIs R as bs → PySem.W.EachIs (fun a b => R a b ∧ b ∈ bs) as bs
  | _, _, .nil => .nil
  | _, _, .cons h t => .cons ⟨h, .head _⟩ ((each_withmem t).mono fun _ _ y => ⟨y.1, .tail _ y.2⟩)
theorem call_sortS {X : Cx} (hu : X.A.units + 65 < cLine) : CallR X (.builtin "sorted") (rSortS X.K) := by
  intro pins s σ H xs us Q I r h
  obtain ⟨m, a, ws, ds, rfl, hs, rr, ok, hz, q⟩ := h
  rw [Vals.ref1 r]
  have hseq : ∃ its : List Value, Vals ws its ∧ SeqAt s.heap a its := by
    rcases hs with hs | hs
    · obtain ⟨its, o, n, hv, g, g1, g2⟩ := sqT_at I.hok I.kIn hs
      exact ⟨its, hv, o, n, g, .inr g1, g2⟩
    · obtain ⟨its, o, n, hv, g, g1, g2⟩ := sqL_at I.hok I.kIn hs
      exact ⟨its, hv, o, n, g, .inl g1, g2⟩
  obtain ⟨its, hv, hq⟩ := hseq
  have lz : its.length ≤ sizeLine := by rw [← hv.length, ← rr.length]; exact hz
  have ea := each_rep rr hv
  have er : PySem.W.EachIs (fun u d => ∃ as, Reads (PySem.W.sortingHeap (PySem.W.copyHeap s.heap its) (s.heap.objs.size + 1) its) u (encS d) as) its ds := (each_withmem ea).mono fun u d ⟨⟨v, h1, h2⟩, hm⟩ => by
    obtain ⟨as, hr⟩ := okSrt_reads ok I.hok I.kIn hm h2 h1
    exact ⟨as, PyProof.Rows.Reads.keeps (fun _ _ => PySem.W.sorting_copy_old) hr⟩
  have hal := okSrt_alike ok
  have bound : ∀ d, d ∈ ds.map encS → X.A.in1.in1.units + d.depth < cLine := fun d hd => by
    obtain ⟨e, he, rfl⟩ := List.mem_map.mp hd
    have h1 := okSrt_depth ok e he
    show X.A.units + 1 + 1 + (encS e).depth < cLine
    omega
  refine sorted_seq hq (PySem.W.SortsAt.data (s := { s with heap := PySem.W.sortingHeap (PySem.W.copyHeap s.heap its) (s.heap.objs.size + 1) its }) (PySem.W.each_map (R := fun v d => ∃ as, Reads (PySem.W.sortingHeap (PySem.W.copyHeap s.heap its) (s.heap.objs.size + 1) its) v d as) encS er) hal (okSrt_sortable ok) bound) lz ?_
  have out := PySem.W.sortVals_data false ea er hal
  obtain ⟨zs, z1, z2⟩ := rep_each out
  have lzs : zs.length ≤ sizeLine := by
    rw [← z1.length]
    show (srtD ds).length ≤ sizeLine
    rw [(srtD_perm ds).length_eq]; exact hz
  obtain ⟨ep, he'⟩ := PyProof.Rows.sortedAll_at s.heap its (PySem.W.sortVals (PySem.W.dataKind (PySem.W.sortingHeap (PySem.W.copyHeap s.heap its) (s.heap.objs.size + 1) its) (ds.map encS)) false its its).toArray
  exact ⟨.ref _, upd H (s.heap.objs.size + 1) (.lst zs), I.laid (t' := s.toks) (fun _ _ => PyProof.Rows.sortedAll_old) (Nat.le_succ _) ⟨lzs, _, ep, z2, he'⟩, rfl, q _ zs (I.hok.fresh (Nat.le_succ _)) z1 lzs⟩
theorem dc_sort {X : Cx} (hu : X.A.units + 65 < cLine) : DCall X (.builtin "sorted") (d1 dSort) := callW (call_sortS hu) fun vs H Q ⟨ds, m, d, r, s, e, q⟩ => by
  match ds, e with
  | [x], e =>
    simp only [RepL] at r
    obtain ⟨v, r', rfl, h1, rfl⟩ := r
    have e : dSort (look m x) = some d := e
    have main : ∀ es : List D, (look m x = .tup es ∨ look m x = .lst es) → okSrt es = true → es.length ≤ sizeLine → d = .lst (srtD es) → rSortS X.K [v] H Q := fun es hl ok hz hd => by
      obtain ⟨a, ws, rfl, hq, rr⟩ := star_items (cont_of s h1) hl
      subst hd
      exact ⟨m, a, ws, es, rfl, hq, rr, ok, hz, fun p zs hp z1 _ => q _ _ (Fr.laid s hp) (s.laid hp) (new_lst s hp z1)⟩
    unfold dSort at e
    split at e
    · rename_i es hl
      split at e
      · rename_i hc
        exact main es (.inr hl) hc.1 hc.2 (Option.some.inj e).symm
      · cases e
    · rename_i es hl
      split at e
      · rename_i hc
        exact main es (.inl hl) hc.1 hc.2 (Option.some.inj e).symm
      · cases e
    · cases e
end DL
/-! ### DL44: comprehensions over a list that may be changed, and is not while it is walked -/
namespace DL
open PySem PySem.Spec PyProof.Rows L2
/-- p: the list that is walked; a: the new list -/
def lcDM (p : Addr) (all : List D) (a : Addr) (g : Tgt) (tt : DTT) (te : DTE) (env : Env) (Q : M → Prop) : List D → M → Prop
  | [], m => m p = some (.lst all) ∧ Q m
  | d :: ds, m => m p = some (.lst all) ∧ tgD g d env m fun env' m' => tt env' m' fun b m2 => if b = true then te env' m2 fun y m3 => ∃ acc, m3 a = some (.lst acc) ∧ acc.length < sizeLine ∧ lcDM p all a g tt te env Q ds (updM m3 a (.lst (acc ++ [y]))) else lcDM p all a g tt te env Q ds m2
def tLcMM (t0 : DTE) (g : Tgt) (tt : DTT) (te : DTE) (vs : List Nat) : DTE := fun env m Q => t0 env m fun o m1 => ∃ p ds, o = .ref p ∧ m1 p = some (.lst ds) ∧ ∀ a, m1 a = none → lcDM p ds a g tt te (wipeD env vs) (fun m2 => Q (.ref a) m2) ds (updM m1 a (.lst []))
theorem lcDM_at {p : Addr} {all : List D} {a : Addr} {g : Tgt} {tt : DTT} {te : DTE} {env : Env} {Q : M → Prop} {ds : List D} {m : M} (h : lcDM p all a g tt te env Q ds m) : m p = some (.lst all) := by
  cases ds with
  | nil => exact h.1
  | cons d ds => exact h.1
section
variable {X : Cx} {te : DTE}
theorem lcM_lift {g : Tgt} {tt : DTT} {t0 : DTE} {vs : List Nat} (hg : ∀ i ∈ g.ix, i ∈ vs) {σ : L2.St} {H : Hp} {Q : VK} (h : liftE X.K (tLcMM t0 g tt te vs) σ H Q) : L2.tLc (iList X.K (liftE X.K t0)) (tgR X.K g) (liftT X.K tt) (liftE X.K te) vs σ H Q := by
  obtain ⟨env, m, R, eo, s, h, k⟩ := h
  refine ⟨env, m, _, eo, s, h, fun o m1 v H1 h1 f1 s1 r1 => ?_⟩
  obtain ⟨p, ds, rfl, hm, h1⟩ := h1
  simp only [Rep] at r1
  subst r1
  obtain ⟨ws, hp, rr⟩ := s1 p _ hm
  refine ⟨p, rfl, ⟨ws, .of hp⟩, fun A hA => ?_⟩
  have mA : m1 A = none := s1.free hA
  have eo1 := eo.mono f1
  refine ⟨fun i n H => n = ds.length - i ∧ i ≤ ds.length ∧ ∃ m, Sim X.K m H ∧ Fr m1 H1 m H ∧ lcDM p ds A g tt te (wipeD env vs) (fun m2 => R (.ref A) m2) (ds.drop i) m,
    ⟨_, rfl, Nat.zero_le _, _, new_lstM s1 hA .nil, Fr.laidM s1 hA, h1 A mA⟩, ?_⟩
  rintro i n H2 ⟨rfl, hi, m2, s2, f2, h2⟩
  obtain ⟨go, stop⟩ := itl_at s2 (lcDM_at h2) i
  by_cases hlt : i < ds.length
  · obtain ⟨g1, g2⟩ := go ds[i] (by simp [hlt])
    have ed : ds.drop i = ds[i] :: ds.drop (i + 1) := List.drop_eq_getElem_cons hlt
    rw [ed] at h2
    refine .inr ⟨g1, fun H' => ∃ m, Sim X.K m H' ∧ Fr m1 H1 m H' ∧ lcDM p ds A g tt te (wipeD env vs) (fun m2 => R (.ref A) m2) (ds.drop (i + 1)) m,
      fun H' q => ⟨ds.length - (i + 1), by omega, rfl, hlt, q⟩, fun x H' y => ?_⟩
    obtain ⟨rfl, r3⟩ := g2 x H' y
    have h2 : tgD g ds[i] (wipeD env vs) m2 _ := h2.2
    refine tg_run r3 ((eo1.mono f2).wipe vs) s2 h2 fun env4 σ4 h4 eo4 wp => ?_
    refine ⟨by rw [wp vs hg]; exact wipe_sub fun i hi => hi, env4, m2, _, eo4, s2, h4, fun b m5 H5 h5 f5 s5 => ?_⟩
    cases b with
    | true =>
      simp only [if_true] at h5 ⊢
      refine ⟨env4, m5, _, eo4.mono f5, s5, h5, fun z m6 zv H6 h6 f6 s6 r6 => ?_⟩
      obtain ⟨acc, ea, hz, h6⟩ := h6
      obtain ⟨us, hD6, ra⟩ := s6 A _ ea
      have fw : Fr m6 H6 (updM m6 A (.lst (acc ++ [z]))) (upd H6 A (.lst (us ++ [zv]))) := Fr.write ea
      exact ⟨us, hD6, by rw [← ra.length]; exact hz, _, s6.write (d := .lst (acc ++ [z])) ea ⟨_, upd_same, RepL.mono fw _ _ (ra.snoc r6)⟩, (f2.trans (f5.trans f6)).trans fw, h6⟩
    | false =>
      simp only [Bool.false_eq_true, if_false] at h5 ⊢
      exact ⟨m5, s5, f2.trans f5, h5⟩
  · have e : i = ds.length := by omega
    subst e
    rw [List.drop_length] at h2
    exact .inl ⟨stop rfl, k (.ref A) m2 _ H2 h2.2 (f1.trans f2) s2 rep_ref⟩
variable {tg iter elt : Expr} {ifs : List Expr} {pos : Pos}
theorem de_lcM {scope : Scope} {own : List (Str × Nat)} {t0 : DTE} {g : Tgt} {tt : DTT} (hi : DE X iter t0) (ok : BlkOk X.N X.env.scope scope own) (hN : X.N.Nodup) (hc : X.calm = true)
    (hg : ∀ (s : Shared) (H : Hp) (C : Addr) (cl : List (Str × Addr)) (fp : List Addr), DGt (Blk X scope s H C cl fp) tg g) (ht : ∀ (s : Shared) (H : Hp) (C : Addr) (cl : List (Str × Addr)) (fp : List Addr), DTs (Blk X scope s H C cl fp) ifs tt)
    (he : ∀ (s : Shared) (H : Hp) (C : Addr) (cl : List (Str × Addr)) (fp : List Addr), DE (Blk X scope s H C cl fp) elt te) (hv : ∀ i ∈ g.ix, i ∈ own.map (·.2) := by decide) (hs : ∀ x, foldedSetIterable iter X.env x = pure x := by intro _; rfl) :
    DE X (.ListComp elt [⟨tg, iter, ifs, 0⟩] scope pos) (tLcMM t0 g tt te (own.map (·.2))) :=
  ⟨PE.weak (pe_lc hc hN (pi_list hi.run) ok (fun s H C cl fp => (hg s H C cl fp).run) (fun s H C cl fp => (ht s H C cl fp).run) (fun s H C cl fp => (he s H C cl fp).run) hs) fun σ H Q h => lcM_lift hv h⟩
end
theorem lcDM_inv {p a : Addr} {all : List D} {g : Tgt} {tt : DTT} {te : DTE} {env : Env} {Q : M → Prop} {m : M} (I : Nat → List D → M → Prop) (h0 : I 0 [] m) (hk : ∀ i acc m, I i acc m → m p = some (.lst all))
    (step : ∀ (i : Nat) (acc : List D) (d : D) (m : M) (N : M → Prop), all[i]? = some d → I i acc m → (∀ acc m, I (i + 1) acc m → N m) → tgD g d env m fun env' m' => tt env' m' fun b m2 => if b = true then te env' m2 fun y m3 => ∃ acc, m3 a = some (.lst acc) ∧ acc.length < sizeLine ∧ N (updM m3 a (.lst (acc ++ [y]))) else N m2)
    (done : ∀ acc m, I all.length acc m → Q m) : lcDM p all a g tt te env Q all m := by
  have main : ∀ (k i : Nat) (acc : List D) (m : M), all.length - i = k → i ≤ all.length → I i acc m → lcDM p all a g tt te env Q (all.drop i) m := by
    intro k
    induction k with
    | zero =>
      intro i acc m hk' hi h
      obtain rfl : i = all.length := by omega
      rw [List.drop_length]
      exact ⟨hk _ acc m h, done acc m h⟩
    | succ k ih =>
      intro i acc m hk' hi h
      have hlt : i < all.length := by omega
      rw [List.drop_eq_getElem_cons hlt]
      exact ⟨hk i acc m h, step i acc all[i] m _ (by simp [hlt]) h fun acc' m' h' => ih (i + 1) acc' m' (by omega) hlt h'⟩
  exact main _ 0 [] m rfl (Nat.zero_le _) h0
/-- .. that changes nothing, frozen -/
theorem lcM_pure {t0 : DTE} {g : Tgt} {tt : DTT} {te : DTE} {vs : List Nat} {env : Env} {m : M} {Q : DK} {ds : List D} {q : Addr} (F : D → Option D) (hi : ∀ R : DK, R (.ref q) m → t0 env m R) (hq : m q = some (.lst ds)) (hl : ds.length < sizeLine)
    (step : ∀ (d : D) (m1 : M) (R : Bool → DK), d ∈ ds → (∃ p acc, m p = none ∧ m1 = updM m p (.lst acc)) → (∀ y, F d = some y → R true y m1) → (F d = none → R false .non m1) →
      tgD g d (wipeD env vs) m1 fun env' m' => tt env' m' fun b m2 => if b = true then te env' m2 (R true) else R false .non m2)
    (hQ : Q (.lst (ds.filterMap F)) m) : tFrz (tLcMM t0 g tt te vs) env m Q := by
  refine hi _ ⟨q, ds, rfl, hq, fun p hp => ?_⟩
  have qp : q ≠ p := by rintro rfl; rw [hq] at hp; cases hp
  refine lcDM_inv (all := ds) (fun i acc m' => m' = updM m p (.lst acc) ∧ acc = (ds.take i).filterMap F) ⟨rfl, by simp⟩ (fun i acc m' h => by rw [h.1, updM_ne qp]; exact hq) (fun i acc d m' N hd ⟨hm, ha⟩ hN => ?_) fun acc m' h => ?_
  · subst hm
    have hmem : d ∈ ds := List.mem_of_getElem? hd
    have hlt : i < ds.length := by
      rcases Nat.lt_or_ge i ds.length with z | z
      · exact z
      · rw [List.getElem?_eq_none z] at hd; cases hd
    have hacc : acc.length ≤ i := by
      rw [ha]
      exact Nat.le_trans (List.length_filterMap_le _ _) (by rw [List.length_take]; omega)
    have et : ds.take (i + 1) = ds.take i ++ [d] := by
      rw [List.take_add_one, hd] <;> rfl
    have := step d _ (fun b y m3 => if b = true then ∃ acc, m3 p = some (.lst acc) ∧ acc.length < sizeLine ∧ N (updM m3 p (.lst (acc ++ [y]))) else N m3) hmem ⟨p, acc, hp, rfl⟩ (fun y e => ?_) fun e => ?_
    · simpa using this
    · simp only [if_true]
      refine ⟨acc, updM_same, by omega, hN (acc ++ [y]) _ ⟨by rw [updM_over], ?_⟩⟩
      rw [et, List.filterMap_append, ha]
      simp [e]
    · simp only [Bool.false_eq_true, if_false]
      refine hN acc _ ⟨rfl, ?_⟩
      rw [et, List.filterMap_append, ha]
      simp [e]
  · obtain ⟨rfl, rfl⟩ := h
    rw [List.take_length]
    refine ⟨_, updM_same, ?_⟩
    rw [delM_upd hp]
    exact hQ
end DL
/-! ### DL45: lambdas without parameters, handed to a def of the module that calls them -/
namespace DL
open PySem PySem.Spec PyProof.Rows L2
section
variable {X : Cx} {pins : List (Addr × Obj)} {σ : L2.St} {H : Hp} {s : Shared} {m : M}
theorem lam_makeD {c P : Addr} {q : Str} {params : Arguments} {body : Expr} {scope : Scope} {pos : Pos} {E Q : Value → Shared → Prop} (I : Inv X pins σ H s) (sm : Sim X.K m H) (TB : LamX.TabB X.base X.mg c P) (hcode : X.env.code = .ref c)
    (hP : m P = some (.tab q)) (hq : X.env.qual ++ "<lambda>" = q) (hdef : defaultsOf params X.env = ([], [])) (hfree : ∀ y ∈ scope.names, y.2 = .free → ∃ c, X.env.cells.lookup y.1 = some c)
    (h : ∀ (f c' : Addr) (pm ctv : Value) (H1 : Hp) (s' : Shared), Inv X pins σ H1 s' → Sim X.K m H1 → Fr m H m H1 →
      s'.heap.get? f = some (PySem.W.kla_obj "<lambda>" (X.env.qual ++ "<lambda>") params body scope (cloFrom X.env.cells scope.names []) pm c' ctv) → H1 f = none → f ∉ frs X.stack → m c' = none → H1 c' = some (LamX.CodeO c' q) → Q (.ref f) s') :
    wpAny (model X.prog X.w) X.A (eval (.Lambda params body scope pos) X.env) Q E s := by
  subst hq
  obtain ⟨ps, hH, ht, ha⟩ := sm P _ hP
  have atP : s.heap.get? P = some { cls := .none, data := .fields ps } := I.hok P _ hH
  have outside : ∀ f, s.heap.objs.size ≤ f → f ∉ frs X.stack := fun f hf z => by
    rcases List.mem_cons.mp (I.stkSub _ z) with e | e
    · have lt := I.lt
      rw [← e] at lt
      exact absurd lt (Nat.not_lt_of_le hf)
    · exact I.nofs hf e
  refine PySem.W.kla_eval hdef ?_
  cases hc : codeAmong pos ps.toList with
  | some cv =>
    obtain ⟨c', rfl, nc, hco⟩ := ha pos cv hc
    refine PySem.W.kla_makeFunctionHit (mg := X.mg) (c := c) (P := P) (ps := ps) (closure_ok hfree) I.ok.glob (I.mod.glob.keeps I.bk) hcode (TB.code.keeps I.bk) atP ht hc (TB.bm.keeps I.bk) fun ctv h' tk hx hz => ?_
    have J : Inv X pins σ H { s with heap := h'.push (PySem.W.kla_obj "<lambda>" (X.env.qual ++ "<lambda>") params body scope (cloFrom X.env.cells scope.names []) ((X.mg "__name__").getD .none) c' ctv), toks := tk } := I.kept fun b o e => Heap.get?_push_of_some _ (hx b o e)
    exact h h'.objs.size c' ((X.mg "__name__").getD .none) ctv H _ J sm Fr.refl (Heap.get?_push_size _ rfl) (I.hok.fresh hz) (outside _ hz) nc hco
  | none =>
    refine PySem.W.kla_makeFunction (mg := X.mg) (c := c) (P := P) (ps := ps) (closure_ok hfree) I.ok.glob (I.mod.glob.keeps I.bk) hcode (TB.code.keeps I.bk) atP ht hc TB.gP (TB.bm.keeps I.bk) fun c' ctv h' tk hx hge hlt hrec htb => ?_
    obtain ⟨c2, oc, vs, t, e2, hoc, hd, hv⟩ := hrec
    cases e2
    have hz : s.heap.objs.size ≤ h'.objs.size := Nat.le_trans hge (Nat.le_of_lt hlt)
    have nC : H c' = none := I.hok.fresh hge
    have nPc : P ≠ c' := ne_of_none hH nC
    have J := LamX.inv_table (t' := tk) (more := #[rawInt pos.line, rawInt pos.col, .ref c']) (h' := h'.push (PySem.W.kla_obj "<lambda>" (X.env.qual ++ "<lambda>") params body scope (cloFrom X.env.cells scope.names []) ((X.mg "__name__").getD .none) c' ctv)) I hH
      (fun b o hb e => Heap.get?_push_of_some _ (hx b o hb e)) (Heap.get?_push_of_some _ htb) hge ⟨oc, vs, t, Heap.get?_push_of_some _ hoc, hd, hv⟩
    generalize hH1 : upd (upd H P (.tbl (ps ++ #[rawInt pos.line, rawInt pos.col, .ref c']))) c' (LamX.CodeO c' (X.env.qual ++ "<lambda>")) = H1 at J
    have same : ∀ b, b ≠ P → b ≠ c' → H1 b = H b := fun b h1 h2 => by rw [← hH1, upd_ne h2, upd_ne h1]
    have fr : Fr m H m H1 := fun b u n e => by
      have bP : b ≠ P := fun z => by rw [z, hP] at n; cases n
      exact ⟨n, u, by rw [same b bP (ne_of_none e nC)]; exact e, .inl rfl⟩
    have nc : m c' = none := sm.free nC
    have atC : H1 c' = some (LamX.CodeO c' (X.env.qual ++ "<lambda>")) := by rw [← hH1, upd_same]
    have eL : (ps ++ #[rawInt pos.line, rawInt pos.col, .ref c']).toList = ps.toList ++ [rawInt pos.line, rawInt pos.col, .ref c'] := by simp
    have sm1 : Sim X.K m H1 := fun b d e => by
      by_cases hb : b = P
      · subst hb
        rw [hP] at e
        cases e
        refine ⟨_, by rw [← hH1, upd_ne nPc, upd_same], by rw [eL]; exact PySem.TriplesOk_snoc _ _ _ _ ht, fun p' cv hcv => ?_⟩
        rw [eL] at hcv
        rcases LamX.among_app _ ht hcv with z | z
        · obtain ⟨c0, e1, n1, e3⟩ := ha p' cv z
          exact ⟨c0, e1, n1, (by obtain ⟨_, u, e4, lk⟩ := fr c0 _ n1 e3; rw [e4]; exact congrArg some (strip_CodeO (lk.strip.trans rfl)))⟩
        · exact ⟨c', z, nc, atC⟩
      · refine (sm b d e).mono fr fun u hu => ?_
        rw [same b hb (ne_of_none hu nC)]; exact hu
    have n1 : h'.objs.size ≠ c' := Nat.ne_of_gt hlt
    have n2 : h'.objs.size ≠ P := Nat.ne_of_gt (Nat.lt_of_lt_of_le (Heap.lt_size atP) hz)
    exact h h'.objs.size c' ((X.mg "__name__").getD .none) ctv H1 _ J sm1 fr (Heap.get?_push_size _ rfl) (by rw [same _ n2 n1]; exact I.hok.fresh hz) (outside _ hz) nc atC
end
/-! the lambda is called, in the def that got it -/
section
variable {X : Cx} {pins : List (Addr × Obj)} {σ : L2.St} {H HZ : Hp} {s s1 : Shared}
theorem pe_actX {CXg : CXT} {Eg : XK} {Ng : List Str} {qg : Str} {sg : Scope} {g f c' : Addr} {cdg pm ctv : Value} {params : Arguments} {body : Expr} {scope : Scope} {k i : Nat} {a : Str} {pn : List (Addr × Obj)} {xe : Value → Shared → Prop} {W : WX} {tb : XK → TE} {p1 p2 : Pos}
    (I : Inv X pins σ H s) (L : LamX.LamS X.env.scope scope) (hf : s.heap.get? f = some (PySem.W.kla_obj "<lambda>" (X.env.qual ++ "<lambda>") params body scope (cloFrom X.env.cells scope.names []) pm c' ctv)) (hfn : H f = none) (hfr : f ∉ frs X.stack)
    (hbind : bindArgs (PySem.W.kla_fn "<lambda>" (X.env.qual ++ "<lambda>") params body scope (cloFrom X.env.cells scope.names []) pm (.ref c') ctv) ⟨[], []⟩ = pure [])
    (tk : Takes ((cxOf CXg X.prog X.w X.K X.mg X.base Ng qg sg g cdg X.A X.stack s H Eg).tr pn xe) W) (hr : RoomG (k + 1) (X.A.deeper (envOfC qg sg s.heap.objs.size g cdg)))
    (hbody : ∀ (A : Around) (outer : List PySem.Env) (s : Shared) (H : Hp) (E : XK), RoomG k (A.deeper (LamX.lamEnv X scope s.heap.objs.size f c')) → PE (LamX.lamCx X A outer s H E scope f c') body (tb E))
    (hN : Ng[i]? = some a) (hv : Vis sg a) (hd : (a == ("__debug__" : Str)) = false := by decide) (hcd : (a == ("__classdict__" : Str)) = false := by decide) :
    PE ((cxOf CXg X.prog X.w X.K X.mg X.base Ng qg sg g cdg X.A X.stack s H Eg).tr pn xe) (.Call (.Name a p1) [] [] p2)
      (fun σZ HZ Q => σZ[i]? = some (some (.ref f)) ∧ HZ c' = some (LamX.CodeO c' (X.env.qual ++ "<lambda>")) ∧ tb (WE W σZ) σ HZ Q) := by
  refine ⟨fun pinsZ sZ σZ HZ Q IZ h => ?_⟩
  obtain ⟨hs, hc, ht⟩ := h
  refine wpAny_Call_Name_kw (thn ((pe_var (pos := p1) (i := i) hN hv hd hcd).run pinsZ sZ σZ HZ (fun v H1 => v = .ref f ∧ H1 = HZ) IZ ⟨.ref f, hs, rfl, rfl⟩) fun u s1 hx => ?_)
  obtain ⟨v, H1, I1, r1, ev, eH⟩ := hx
  subst ev
  rw [eH] at I1
  obtain rfl : u = Value.ref f := r1
  have here : s1.heap.get? f = some (PySem.W.kla_obj "<lambda>" (X.env.qual ++ "<lambda>") params body scope (cloFrom X.env.cells scope.names []) pm c' ctv) := I1.base.keep f _ hf hfn hfr (fun z => nomatch (show f ∈ ([] : List Addr) from z))
  refine PySem.W.callWith_F0 ⟨_, _, _, _, here⟩ ?_
  have un : Un (frs X.stack) [] H HZ s.heap s1.heap := I1.base
  obtain ⟨⟨oc, vs, t, hoc, hdc, hvc⟩, _, _⟩ := I1.hok c' _ hc
  have rc : codeAny (model X.prog X.w) (X.A.deeper (envOfC qg sg s.heap.objs.size g cdg)) (.call (.ref f) ⟨[], []⟩) (CR (L2.CX X.prog X.w) (envOfC qg sg s.heap.objs.size g cdg :: X.stack) X.prog X.w HZ s1 Q (WE W σZ)) s1 := by
    refine PySem.W.kla_callFunE hr.r.depth here rfl L.co L.gen rfl ⟨c', oc, vs, t, rfl, hoc, hdc, hvc⟩ ?_
    rw [hbind]
    refine wpAny_pure (wpAny_newFunctionEnv (fun y hy => (L.own y hy).2) (fun y hy => absurd hy (by simp)) (fun h₁ hns hsb => ⟨I1.nolimit.fresh _ hsb, ?_⟩) L.kind)
    show codeAny _ _ (.expr body (LamX.lamEnv X scope s1.heap.objs.size f c')) _ _
    have kp : ∀ b o, s1.heap.get? b = some o → h₁.get? b = some o := fun b o e => hsb.extBut b o (Nat.ne_of_lt (Heap.lt_size e)) (Heap.get?_push_of_some _ e)
    have J : Inv (LamX.lamCx X (X.A.deeper (envOfC qg sg s.heap.objs.size g cdg)) (envOfC qg sg s.heap.objs.size g cdg :: X.stack) s1 HZ (WE W σZ) scope f c') [] σ HZ { s1 with heap := h₁, toks := s1.toks + ([] : List (Str × Value)).length } :=
      LamX.lam_start2 I L I1.env0 hr.r.hd un hns kp
    refine PySem.W.kla_codeExpr (wpAny_mono ((hbody _ _ s1 HZ (WE W σZ) ⟨hr.r.deeper _, hr.g⟩).run [] _ _ HZ Q J ht) (fun v s' hq => ?_) fun e s' hq => hq)
    obtain ⟨w', H', J', rv, q⟩ := hq
    exact ⟨w', H', J'.os, J'.bare, J'.base, J'.hok, rv, q⟩
  refine wpAny_call (codeAny_mono rc fun r s' hq => ?_)
  match r, hq with
  | .error e, hq => exact passAt tk σZ pinsZ HZ s1 e s' I1 hq
  | .ok (.ret u), hq => exact I1.after hq
  | .ok .next, hq => exact hq.elim
  | .ok .brk, hq => exact hq.elim
  | .ok .cont, hq => exact hq.elim
end
end DL
/-! ### DL46: x(lambda: e) over data -/
namespace DL
open PySem PySem.Spec PyProof.Rows L2
/-- what a lambda does when it is called -/
abbrev DTL := M → DK → (Addr → List Str → List D → M → Prop) → Prop
def lamT (env : Env) (tb : DTEX) : DTL := fun m R F => tb env m R fun C ns xs _ m' => F C ns xs m'
def tAsk (i : Nat) (tl : DTL) (v : D) : DTEX := fun env m R F => env[i]? = some (some v) ∧ tl m R fun C ns xs m' => F C ns xs env m'
/-- the maker's names as a list -/
def capD (env : Env) : List D := env.map fun o => o.getD .non
def capV : Env → L2.St → List V
  | [], _ => []
  | _ :: env, [] => .non :: capV env []
  | none :: env, _ :: σ => .non :: capV env σ
  | some _ :: env, o :: σ => o.getD .non :: capV env σ
theorem cap_rep {K : PySem.W.Frag} {m : M} {H : Hp} : ∀ {env : Env} {σ : L2.St}, (∀ (i : Nat) (d : D), env[i]? = some (some d) → ∃ v, σ[i]? = some (some v) ∧ Rep K m H d v) → RepL K m H (capD env) (capV env σ)
  | [], _, _ => .nil
  | none :: env, [], h => .cons rep_non (cap_rep (σ := []) fun i d e => by obtain ⟨v, e2, _⟩ := h (i + 1) d (by simpa using e); simp at e2)
  | some d :: env, [], h => by obtain ⟨v, e2, _⟩ := h 0 d rfl; simp at e2
  | none :: env, o :: σ, h => .cons rep_non (cap_rep fun i d e => by
    obtain ⟨v, e2, r⟩ := h (i + 1) d (by simpa using e)
    exact ⟨v, by simpa using e2, r⟩)
  | some d :: env, o :: σ, h => by
    obtain ⟨v, e2, r⟩ := h 0 d rfl
    have e3 : o = some v := by simpa using e2
    subst e3
    exact .cons r (cap_rep fun i d e => by
      obtain ⟨v, e2, r⟩ := h (i + 1) d (by simpa using e)
      exact ⟨v, by simpa using e2, r⟩)
theorem cap_get : ∀ {env : Env} {σ : L2.St} {i : Nat} {d : D} {v : V}, env[i]? = some (some d) → σ[i]? = some (some v) → (capD env)[i]? = some d ∧ (capV env σ)[i]? = some v
  | [], _, i, d, v, h, _ => by simp at h
  | _ :: env, [], i, d, v, _, h => by simp at h
  | e :: env, o :: σ, 0, d, v, h1, h2 => by
    have h1 : e = some d := by simpa using h1
    have h2 : o = some v := by simpa using h2
    subst h1 h2
    exact ⟨rfl, rfl⟩
  | e :: env, o :: σ, i + 1, d, v, h1, h2 => by
    obtain ⟨a, b⟩ := cap_get (env := env) (σ := σ) (i := i) (by simpa using h1) (by simpa using h2)
    refine ⟨by simpa [capD] using a, ?_⟩
    cases e with
    | none => simpa [capV] using b
    | some _ => simpa [capV] using b
theorem cap_env {K : PySem.W.Frag} {m m' : M} {H H' : Hp} {env : Env} {σ : L2.St} (eo : EnvOk K m H σ env) (r : RepL K m' H' (capD env) (capV env σ)) : EnvOk K m' H' σ env := ⟨eo.len, fun i d e => by
  obtain ⟨v, e2, _⟩ := eo.get i d e
  obtain ⟨a, b⟩ := cap_get e e2
  obtain ⟨w, e3, r3⟩ := r.get a
  rw [b] at e3
  cases e3
  exact ⟨v, e2, r3⟩⟩
section
variable {X : Cx} {pins : List (Addr × Obj)} {σ : L2.St} {H : Hp} {s : Shared}
theorem dex_ask {CXg : CXT} {Eg : XK} {Ng : List Str} {qg : Str} {sg : Scope} {g f c' : Addr} {cdg pm ctv : Value} {params : Arguments} {body : Expr} {scope : Scope} {k i : Nat} {a : Str} {pn : List (Addr × Obj)} {xe : Value → Shared → Prop} {W : WX} {tb : DTEX} {p1 p2 : Pos} {env0 : Env} {m0 : M} {H0 : Hp}
    (I : Inv X pins σ H s) (eo : EnvOk X.K m0 H0 σ env0) (L : LamX.LamS X.env.scope scope) (hf : s.heap.get? f = some (PySem.W.kla_obj "<lambda>" (X.env.qual ++ "<lambda>") params body scope (cloFrom X.env.cells scope.names []) pm c' ctv)) (hfn : H f = none) (hfr : f ∉ frs X.stack)
    (hbind : bindArgs (PySem.W.kla_fn "<lambda>" (X.env.qual ++ "<lambda>") params body scope (cloFrom X.env.cells scope.names []) pm (.ref c') ctv) ⟨[], []⟩ = pure [])
    (tk : Takes ((cxOf CXg X.prog X.w X.K X.mg X.base Ng qg sg g cdg X.A X.stack s H Eg).tr pn xe) W) (hr : RoomG (k + 1) (X.A.deeper (envOfC qg sg s.heap.objs.size g cdg)))
    (hbody : ∀ (A : Around) (outer : List PySem.Env) (s : Shared) (H : Hp) (E : XK), RoomG k (A.deeper (LamX.lamEnv X scope s.heap.objs.size f c')) → DEX (LamX.lamCx X A outer s H E scope f c') (fun cls d _ H => E cls d H) body tb)
    (hN : Ng[i]? = some a) (hv : Vis sg a) (hd : (a == ("__debug__" : Str)) = false := by decide) (hcd : (a == ("__classdict__" : Str)) = false := by decide) :
    DEX ((cxOf CXg X.prog X.w X.K X.mg X.base Ng qg sg g cdg X.A X.stack s H Eg).tr pn xe) W (.Call (.Name a p1) [] [] p2) (tAsk i (lamT env0 tb) (.clo f c' (X.env.qual ++ "<lambda>") (capD env0) (capV env0 σ))) := by
  refine ⟨PE.weak (pe_actX (tb := fun E => liftEX X.K (fun cls d _ H => E cls d H) tb) I L hf hfn hfr hbind tk hr (fun A outer s H E hr => (hbody A outer s H E hr).run) hN hv hd hcd) fun σZ HZ Q h => ?_⟩
  obtain ⟨envZ, mZ, R, F, eoZ, sZ, ⟨ei, h⟩, k1, k2⟩ := h
  obtain ⟨v, e1, r⟩ := eoZ.get i _ ei
  simp only [Rep] at r
  obtain ⟨rfl, nc, hco, rr⟩ := r
  exact ⟨e1, hco, env0, mZ, R, _, cap_env eo rr, sZ, h, k1, fun C ns xs env' m' cls d σ' H' a1 a2 a3 a4 a5 => k2 C ns xs envZ m' cls d σZ H' a1 (eoZ.mono a4) a3 a4 a5⟩
end
/-- the def that asks is walked with the lambda in its first slot -/
def tLamD (P : Addr) (q : Str) (n : Nat) (rH : DTEX → DTS) (tb : DTEX) : DTE := fun env m Q => m P = some (.tab q) ∧ ∀ v : D, rH (tAsk 0 (lamT env tb) v) (startD n [v]) m (bodyEnds Q)
section
variable {X : Cx}
theorem de_lamcall {st : Stmt} {fd : FuncData} {x a q : Str} {g c P : Addr} {k : Nat} {Ng : List Str} {params : Arguments} {body : Expr} {scope : Scope} {tb : DTEX} {rH : DTEX → DTS} {p lpos pos : Pos} (hm : X.mg x = some (.ref g)) (F : Fun X.K x x st g fd) (S : FnScope Ng [a] (defScope st)) (hNg : Ng[0]? = some a) (hva : Vis (defScope st) a)
    (hb : Binds X.K fd [a] []) (TB : LamX.TabB X.base X.mg c P) (hcode : X.env.code = .ref c) (hq : X.env.qual ++ "<lambda>" = q) (hr : RoomG (k + 2) X.A) (L : LamX.LamS X.env.scope scope)
    (hbind : ∀ (q : Str) (cl : List (Str × Addr)) (pm cv ctv : Value), bindArgs (PySem.W.kla_fn "<lambda>" q params body scope cl pm cv ctv) ⟨[], []⟩ = pure [])
    (hbody : ∀ (A : Around) (outer : List PySem.Env) (s : Shared) (H : Hp) (E : XK) (f c' : Addr), RoomG k (A.deeper (LamX.lamEnv X scope s.heap.objs.size f c')) → DEX (LamX.lamCx X A outer s H E scope f c') (fun cls d _ H => E cls d H) body tb)
    (hG : ∀ (cdv : Value) (A : Around) (outer : List PySem.Env) (s : Shared) (H : Hp) (tA : DTEX), RoomG (k + 1) (A.deeper (envOfC x (defScope st) s.heap.objs.size g cdv)) →
      (∀ (W : WX) (pn : List (Addr × Obj)) (xe : Value → Shared → Prop) (p1 p2 : Pos), Takes ((cxOf CX0 X.prog X.w X.K X.mg X.base Ng x (defScope st) g cdv A outer s H E0).tr pn xe) W → DEX ((cxOf CX0 X.prog X.w X.K X.mg X.base Ng x (defScope st) g cdv A outer s H E0).tr pn xe) W (.Call (.Name a p1) [] [] p2) tA) →
      DSs (cxOf CX0 X.prog X.w X.K X.mg X.base Ng x (defScope st) g cdv A outer s H E0).nox (defBody st) (rH tA))
    (hg : Gl X x := by rfl) (hdef : defaultsOf params X.env = ([], []) := by rfl) (hdb : (x == ("__debug__" : Str)) = false := by decide) (hd : (a == ("__debug__" : Str)) = false := by decide) (hcd : (a == ("__classdict__" : Str)) = false := by decide) :
    DE X (.Call (.Name x p) [.Lambda params body scope lpos] [] pos) (tLamD P q Ng.length rH tb) := by
  refine ⟨⟨fun pins s σ H Q I h => ?_⟩⟩
  obtain ⟨env, m, R, eo, sm, ⟨hP, h⟩, kq⟩ := h
  have kpg := F.kp
  obtain ⟨oc, od, kV, doc, pm, an, cdv, ct, osl, rfl, lk, hcd2⟩ := F.ex
  refine wpAny_Call_Name_kw (ld_glob I hg hm ?_ hdb)
  refine PySem.W.callWith_K (h₀ := X.base) I.ok.mod.kin kpg ?_ (by rfl) (by rfl)
  show wpAny _ _ (spliced ((false, eval (.Lambda params body scope lpos) X.env) :: backTo pos (starEach [] X.env))) _ _ s
  refine Calls.spliced_cons (lam_makeD I sm TB hcode hP hq hdef (L.has I.ok) fun f c' pm' ctv H1 s' I1 sm1 fr1 hf hfn hfr nc hco => ?_)
  refine Calls.spliced_nil ⟨I1.kIn, ?_⟩
  subst hq
  have eo1 := eo.mono fr1
  have rv : RepL X.K m H1 [.clo f c' (X.env.qual ++ "<lambda>") (capD env) (capV env σ)] [.ref f] := .cons (by simp only [Rep]; exact ⟨trivial, nc, hco, cap_rep eo1.get⟩) .nil
  have rc : codeAny (model X.prog X.w) X.A (.call (.ref g) ⟨[.ref f], []⟩) (CR CX0 X.stack X.prog X.w H1 s' Q E0) s' := by
    refine LamX.run_ofS (N := Ng) (ps := [a]) (us := [.ref f]) (vs := [.ref f]) lk hcd2 S hr.r I1.env0 (hb s' [.ref f] I1.kIn rfl) (.cons rfl .nil) rfl fun hr' => ?_
    refine ⟨_, (hG cdv X.A X.stack s' H1 _ ⟨hr', hr.g⟩ fun W pn xe p1 p2 tk => dex_ask (i := 0) (p1 := p1) (p2 := p2) I1 eo1 L hf hfn hfr (hbind _ _ _ _ _) tk ⟨hr', hr.g⟩ (fun A outer s H E hr2 => hbody A outer s H E f c' hr2) hNg hva hd hcd).run.nox, ?_⟩
    exact body_lift rv sm1 (h _) fun d m' v H' a1 a2 a3 a4 => kq d m' v H' a1 (fr1.trans a2) a3 a4
  refine wpAny_call (codeAny_mono rc fun r s2 hq => ?_)
  match r, hq with
  | .error e, hq => exact hq.elim
  | .ok (.ret u), hq => exact I1.after hq
  | .ok .next, hq => exact hq.elim
  | .ok .brk, hq => exact hq.elim
  | .ok .cont, hq => exact hq.elim
end
end DL
/-! ### DL47: the end of a row whose defs hold lambdas -/
namespace DL
open PySem PySem.Spec PyProof.Rows L2
/-- the tables of code objects: code, table, name -/
def tabM (cs : List (Addr × Addr × Str)) : M := fun b => (cs.find? fun p => decide (p.2.1 = b)).map fun p => .tab p.2.2
theorem tabM_some {cs : List (Addr × Addr × Str)} {b : Addr} {d : D} (h : tabM cs b = some d) : (∃ p ∈ cs, p.2.1 = b) ∧ ∃ q, d = .tab q := by
  obtain ⟨p, hp, rfl⟩ := Option.map_eq_some_iff.mp h
  have e := List.find?_some hp
  exact ⟨⟨p, List.mem_of_find?_eq_some hp, of_decide_eq_true e⟩, _, rfl⟩
theorem law_callGT {P : Program} {w : World} {K : PySem.W.Frag} {mg mb : Str → Option Value} {k : Nat} {fa a : Addr} {sp : DSp} {s1 : Shared} {vs : List Value} {ns : List Int} {cs : List (Addr × Addr × Str)}
    (KX : K.In s1.heap) (hns : s1.heap.Ns mainGlobals mg) (hb : s1.heap.Ns builtinsNs mb) (hbb : ∀ x : Str, x ≠ "__name__" → mb x = bootBuiltins x) (hlim : s1.heap.NoLimit) (hg : s1.gens = #[])
    (hT : ∀ p ∈ cs, s1.heap.get? p.2.1 = some { cls := .none, data := .fields #[] }) (nT : ∀ p ∈ cs, K.lookup p.2.1 = none) (C : ∀ p ∈ cs, PySem.W.CodeHd s1.heap p.1 p.2.1)
    (hbm : ∃ (bm : Addr) (ob : Obj), mg "__builtins__" = some (.ref bm) ∧ bm ≠ builtinsNs ∧ s1.heap.get? bm = some ob ∧ ob.cls = .type "module" ∧ ob.dict = some builtinsNs ∧ ob.data = .plain)
    (ha : s1.heap.get? a = some { cls := .type "list", data := .seq vs.toArray }) (hi : IntsAre vs ns) (hl : ns.length ≤ sizeLine) (hr : Room k callerA)
    (F : ∀ base : Heap, K.In base → base.Ns mainGlobals mg → (∀ p ∈ cs, LamX.TabB base mg p.1 p.2.1) → FnG P w K mg base CX0 k fa (liftSp K sp)) (hsp : sp [.scr ns] (tabM cs) fun d _ => d = .bl true) :
    codeAny (model P w) callerA (.call (.ref fa) ⟨[.ref a], []⟩) (fun r s' => r = .ok (.ret (.bool true)) ∧ OldK s1.heap s'.heap ∧ s'.os = s1.os ∧ AllBare s'.gens) s1 := by
  have rv := vals_ints hi
  have isT : ∀ b : Addr, b ∈ cs.map (·.2.1) → s1.heap.get? b = some { cls := .none, data := .fields #[] } := fun b hb => by
    obtain ⟨p, hp, rfl⟩ := List.mem_map.mp hb
    exact hT p hp
  have aT : a ∉ cs.map (·.2.1) := fun z => by
    have e := isT a z
    rw [ha] at e
    have d : Data.seq vs.toArray _ = Data.fields #[] := congrArg Obj.data (Option.some.inj e)
    cases d
  have main : ∀ H : Hp, (∀ b ∈ cs.map (·.2.1), H b = some (.tbl #[])) → (∀ b u, H b = some u → (b = a ∧ ∃ o xs, u = .frz o (.lst xs)) ∨ b ∈ cs.map (·.2.1)) → SqL K H a (ns.map V.int) → HOk P w H s1.heap → (H a ≠ none → K.lookup a = none) →
      codeAny (model P w) callerA (.call (.ref fa) ⟨[.ref a], []⟩) (fun r s' => r = .ok (.ret (.bool true)) ∧ OldK s1.heap s'.heap ∧ s'.os = s1.os ∧ AllBare s'.gens) s1 := by
    intro H hH only hS ok hK
    have untr : ∀ {b : Addr} {o : Obj}, s1.heap.get? b = some o → (∀ xs n, o.data ≠ .seq xs n) → o.data ≠ .fields #[] → H b = none := fun {b o} e n1 n2 => by
      cases q : H b with
      | none => rfl
      | some u =>
        rcases only b u q with ⟨rfl, _⟩ | hb
        · rw [ha] at e
          cases e
          exact absurd rfl (n1 _ _)
        · rw [isT b hb] at e
          cases e
          exact absurd rfl n2
    have seen : ∀ {b : Addr} {o : Obj}, s1.heap.get? b = some o → H b = none → (hidT s1.heap H).get? b = some o := fun e n => hidT_get e n
    have names : ∀ {b : Addr} {m : Str → Option Value}, s1.heap.Ns b m → (hidT s1.heap H).Ns b m := by
      rintro b m ⟨o, es, ep, e, d, r⟩
      exact ⟨o, es, ep, seen e (untr e (fun xs n z => by rw [d] at z; cases z) fun z => by rw [d] at z; cases z), d, r⟩
    have kin : K.In (hidT s1.heap H) := fun b o e => seen (KX b o e) (by
      cases q : H b with
      | none => rfl
      | some u =>
        rcases only b u q with ⟨rfl, _⟩ | hb
        · have := hK (by rw [q]; exact fun z => nomatch z)
          rw [this] at e; cases e
        · obtain ⟨p, hp, rfl⟩ := List.mem_map.mp hb
          rw [nT p hp] at e; cases e)
    have mod : Mod K mg (hidT s1.heap H) := ⟨kin, names hns, ⟨mb, names hb, hbb⟩, let ⟨mc, h1, h2⟩ := hlim; ⟨mc, names h1, h2⟩⟩
    have tabs : ∀ p ∈ cs, LamX.TabB (hidT s1.heap H) mg p.1 p.2.1 := fun p hp => by
      have hTp := hT p hp
      refine ⟨?_, ?_, fun z => ?_⟩
      · obtain ⟨o, us, file, tf, flags, tg, inF, text, tt, e1, r1, r2, r3, rest⟩ := C p hp
        refine ⟨o, us, file, tf, flags, tg, inF, text, tt, seen e1 (untr e1 (fun xs n z => ?_) fun z => ?_), r1, r2, r3, rest⟩
        · rw [r2] at z; cases z
        · rw [r2] at z
          cases z
          simp at r3
      · obtain ⟨bm, ob, b1, b2, b3, b4, b5, b6⟩ := hbm
        have nG : bm ≠ mainGlobals := fun q => by
          obtain ⟨o, es, ep, e, hd, _⟩ := hns
          rw [q, e] at b3; cases b3
          rw [hd] at b6; cases b6
        have nP : bm ≠ p.2.1 := fun q => by
          rw [q, hTp] at b3; cases b3
          cases b6
        exact ⟨bm, ob, b1, b2, nG, nP, seen b3 (untr b3 (fun xs n z => by rw [b6] at z; cases z) fun z => by rw [b6] at z; cases z), b4, b5, b6⟩
      · obtain ⟨o, es, ep, e, hd, _⟩ := hns
        rw [z, hTp] at e; cases e
        cases hd
    have e0 : Env0 P w K mg (hidT s1.heap H) callerA [] s1 H := ⟨rfl, mod, fun b o e => of_hidT e, Nat.le_of_eq (hidT_size _ _), trivial, fun b z => absurd (show b ∈ ([] : List Addr) from z) (by simp), ok, .of_eq hg⟩
    have sim : Sim K (tabM cs) H := fun b d e => by
      obtain ⟨⟨p, hp, rfl⟩, q, rfl⟩ := tabM_some e
      exact ⟨#[], hH _ (List.mem_map.mpr ⟨p, hp, rfl⟩), True.intro, fun pos cv hc => by
        have z : codeAmong pos [] = some cv := hc
        simp [codeAmong] at z⟩
    have freeA : tabM cs a = none := by
      cases e : tabM cs a with
      | none => rfl
      | some d =>
        obtain ⟨⟨p, hp, e2⟩, _⟩ := tabM_some e
        exact absurd (List.mem_map.mpr ⟨p, hp, e2⟩) aT
    have q : liftSp K sp [.ref a] H (fun v _ => v = .bl true) E0 := by
      refine ⟨[.scr ns], tabM cs, fun d _ => d = .bl true, .cons (by simp only [Rep]; exact ⟨a, rfl, .of freeA hS⟩) .nil, sim, hsp, fun d m' v H' a1 _ _ a4 => ?_⟩
      have a1 : d = .bl true := a1
      subst a1
      simpa only [Rep] using a4
    refine codeAny_mono (F _ kin (names hns) tabs callerA [] s1 H [.ref a] [.ref a] _ E0 (callerG hr) e0 (.cons rfl .nil) q) fun r s' h => ?_
    match r, h with
    | .error e, h => exact h.elim
    | .ok .next, h => exact h.elim
    | .ok .brk, h => exact h.elim
    | .ok .cont, h => exact h.elim
    | .ok (.ret u), h =>
      obtain ⟨v, H', os, bare, un, hok', r', q⟩ := h
      have q : v = .bl true := q
      subst q
      obtain rfl : u = Value.bool true := r'
      have kept : ∀ b o, b ∉ cs.map (·.2.1) → s1.heap.get? b = some o → s'.heap.get? b = some o := fun b o nb e => by
        cases q : H b with
        | none => exact un.keep b o e q (fun z => absurd (show b ∈ ([] : List Addr) from z) (by simp)) (by simp)
        | some u =>
          rcases only b u q with ⟨_, ob, xs, rfl⟩ | hb
          · obtain ⟨e1, _⟩ := ok b _ q
            obtain ⟨e2, _⟩ := hok' b _ (un.frzs b ob _ q)
            rw [e] at e1; cases e1
            exact e2
          · exact absurd hb nb
      have grown : ∀ p ∈ cs, ∃ more : Array Value, s'.heap.get? p.2.1 = some { cls := .none, data := .fields more } := fun p hp => by
        obtain ⟨more, z⟩ := un.tbls p.2.1 #[] (hH _ (List.mem_map.mpr ⟨p, hp, rfl⟩))
        exact ⟨_, hok' p.2.1 _ z⟩
      refine ⟨rfl, ⟨fun b o e => ?_, fun b o e => ?_⟩, os, bare⟩
      · by_cases hb : b ∈ cs.map (·.2.1)
        · obtain ⟨p, hp, rfl⟩ := List.mem_map.mp hb
          obtain ⟨more, hm⟩ := grown p hp
          rw [hT p hp] at e
          cases e
          exact .inr (.inl ⟨((C p hp).tab (hT p hp)).isCodeTable, rfl, #[], more, rfl, by rw [Array.empty_append]; exact hm⟩)
        · exact .inl (kept b o hb e)
      · by_cases hb : b ∈ cs.map (·.2.1)
        · obtain ⟨p, hp, rfl⟩ := List.mem_map.mp hb
          obtain ⟨more, hm⟩ := grown p hp
          exact ⟨_, hm⟩
        · exact ⟨o, kept b o hb e⟩
  have tH : ∀ (o : Option HO) (b : Addr), b ∈ cs.map (·.2.1) → (fun b => if b = a then o else if b ∈ cs.map (·.2.1) then some (HO.tbl #[]) else none) b = some (HO.tbl #[]) := fun o b hb => by
    have hba : ¬ b = a := fun z => aT (by rw [← z]; exact hb)
    simp only [hba, if_false, hb, if_true]
  cases hk : K.lookup a with
  | some o =>
    have e := KX a o hk
    rw [ha] at e
    cases e
    refine main (fun b => if b = a then none else if b ∈ cs.map (·.2.1) then some (.tbl #[]) else none) (tH none) (fun b u z => ?_) (.inr ⟨_, vs.toArray, _, hk, rfl, rfl, rfl, by rw [List.size_toArray, hi.length]; exact hl, by simpa using rv⟩) (fun b u z => ?_) fun z => absurd (if_pos rfl) z
    · by_cases hba : b = a
      · simp only [hba, if_true] at z; cases z
      · by_cases hb : b ∈ cs.map (·.2.1)
        · exact .inr hb
        · simp only [hba, hb, if_false] at z; cases z
    · by_cases hba : b = a
      · simp only [hba, if_true] at z; cases z
      · by_cases hb : b ∈ cs.map (·.2.1)
        · simp only [hba, hb, if_false, if_true, Option.some.injEq] at z
          subst z
          exact isT b hb
        · simp only [hba, hb, if_false] at z; cases z
  | none =>
    refine main (fun b => if b = a then some (.frz { cls := .type "list", data := .seq vs.toArray } (.lst (ns.map V.int))) else if b ∈ cs.map (·.2.1) then some (.tbl #[]) else none) (tH _) (fun b u z => ?_) (.inl (.inr ⟨{ cls := .type "list", data := .seq vs.toArray }, if_pos rfl⟩)) (fun b u z => ?_) fun _ => hk
    · by_cases hba : b = a
      · simp only [hba, if_true, Option.some.injEq] at z
        exact .inl ⟨hba, _, _, z.symm⟩
      · by_cases hb : b ∈ cs.map (·.2.1)
        · exact .inr hb
        · simp only [hba, hb, if_false] at z; cases z
    · by_cases hba : b = a
      · simp only [hba, if_true, Option.some.injEq] at z
        subst z
        rw [hba]
        exact ⟨ha, by rw [List.length_map]; exact hl, vs, _, rv, ha⟩
      · by_cases hb : b ∈ cs.map (·.2.1)
        · simp only [hba, hb, if_false, if_true, Option.some.injEq] at z
          subst z
          exact isT b hb
        · simp only [hba, hb, if_false] at z; cases z
/-- as walk_ofG; xs: the defs of the module that hold lambdas -/
theorem walk_ofGT {l : PySem.W.OpenLaw} {n k : Nat} {q : Program} {loose : List Str} {XP : (Str → Option Value) → Heap → Prop} {YP : World → Heap → Prop} {d : DefRec} {K : Params → PySem.W.Frag} {xs : List Str}
    (hn : l.most = some n) (hn2 : n ≤ sizeLine) (hdf : d.params.defaults = []) (hr : Room k callerA) (hrec : ∀ x ∈ xs, ((recsOf q).any fun e => e.name == x) = true) (hY : ∀ (w : World) (h : Heap), YP w h → (K w.params).In h)
    (F : ∀ (w : World) (mg : Str → Option Value) (fa : Addr) (h : Heap), (K w.params).In h → h.Ns mainGlobals mg → mg d.name = some (.ref fa) → (∀ x ∈ xs, ∀ f : Addr, mg x = some (.ref f) → LamX.OwnTab (K w.params) f h) →
      ∃ (cs : List (Addr × Addr × Str)) (sp : DSp), (∀ p ∈ cs, h.get? p.2.1 = some { cls := .none, data := .fields #[] }) ∧ (∀ p ∈ cs, (K w.params).lookup p.2.1 = none) ∧ (∀ p ∈ cs, PySem.W.CodeHd h p.1 p.2.1) ∧
        (∀ ns : List Int, ns.length ≤ n → sp [.scr ns] (tabM cs) fun d _ => d = .bl true) ∧
        ∀ base : Heap, (K w.params).In base → base.Ns mainGlobals mg → (∀ p ∈ cs, LamX.TabB base mg p.1 p.2.1) → FnG l.prog w (K w.params) mg base CX0 k fa (liftSp (K w.params) sp)) :
    PySem.W.WalkO q loose XP YP l.row.toRowW d [] (fun f vs => PySem.call f vs) := by
  refine Att.attach_call hn hdf fun w s₀ s₁ mg mb fa o pm cd doc a vs ns G Y ho hd hcd hmg hobj hints hlen hg => ?_
  have KX := hY w _ Y
  have own : ∀ x ∈ xs, ∀ f : Addr, mg x = some (.ref f) → LamX.OwnTab (K w.params) f s₁.heap := fun x hx f hf c P o1 fd1 e dd vs1 sl k1 k2 k3 k4 k5 => by
    obtain ⟨dL, hm, hn1⟩ := List.any_eq_true.mp (hrec x hx)
    have hnm : dL.name = x := beq_iff_eq.mp hn1
    obtain ⟨a', o', fd', c', P', h1, h2, h3, h4, h5, h6⟩ := G.T.tab dL hm
    rw [hnm, hf] at h1
    cases h1
    have g1 := KX _ _ k1
    rw [g1] at h2
    cases h2
    rw [k2] at h3
    cases h3
    rw [k3] at h4
    cases h4
    obtain ⟨⟨oc, vc, e1, _, e3, e4⟩, hP⟩ := h6
    have g2 := KX _ _ k4
    rw [g2] at e1
    cases e1
    cases e3
    rw [k5] at e4
    cases e4
    exact hP
  obtain ⟨cs, sp, hT, nT, C, hsp, hF⟩ := F w mg fa _ KX G.T.g hmg own
  exact law_callGT KX G.T.g G.T.b G.T.builtins G.T.nolimit hg hT nT C G.T.bmain hobj hints (Nat.le_trans hlen hn2) hr hF (hsp ns hlen)
end DL
/-! ### DL48: defs that hold lambdas: their code object is known -/
namespace DL
open PySem PySem.Spec PyProof.Rows L2
section
variable {P : Program} {w : World} {K : PySem.W.Frag} {mg : Str → Option Value} {base : Heap}
/-- as fn_mk, the code object told -/
theorem fn_mkT {x qual : Str} {st : Stmt} {f : Addr} {fd : FuncData} {N ps : List Str} {k : Nat} {sp : DSp} {t : DTS} (F : Fun K x qual st f fd) (S : FnScope N ps (defScope st)) (hb : Binds K fd ps []) (hn : ∀ ds m R, sp ds m R → ds.length = ps.length)
    (hbody : ∀ (cdv : Value) (A : Around) (outer : List PySem.Env) (s : Shared) (H : Hp) (E : XK), fd.code = cdv → RoomG k (A.deeper (envOfC qual (defScope st) s.heap.objs.size f cdv)) → DSs (cxOf CX0 P w K mg base N qual (defScope st) f cdv A outer s H E).nox (defBody st) t)
    (hsp : ∀ ds m R, sp ds m R → t (startD N.length ds) m (bodyEnds R)) : FnG P w K mg base CX0 (k + 1) f (liftSp K sp) := by
  obtain ⟨oc, od, kV, doc, pm, an, cdv, ct, osl, rfl, lk, hcd⟩ := F.ex
  intro A outer s H us vs Q E hr e0 rv ⟨ds, m, R, r, sm, q, kq⟩
  have hl : vs.length = ps.length := by rw [← r.length]; exact hn _ _ _ q
  have kin : K.In s.heap := e0.mod.kin.keeps fun b o e => (e0.bs b o e).1
  have hb1 := hb s us kin (by rw [List.append_nil, ← rv.length]; exact hl)
  rw [List.append_nil] at hb1
  refine StX.run_bnd lk hcd S hr.r e0 (G := fun xs H2 => xs = vs ∧ H2 = H) (fun A' Ex Q' h => hb1 _ _ _ _ (h s H vs us e0 Un.refl rfl (fun _ _ z => z) rv hl ⟨rfl, rfl⟩)) fun s2 H2 xs g hr' => ?_
  obtain ⟨rfl, rfl⟩ := g
  exact ⟨_, (hbody cdv A outer s2 _ E rfl ⟨hr', hr.g⟩).run.nox, body_lift r sm (hsp _ _ _ q) kq⟩
end
/-- what may leave a lambda's body -/
theorem takesL {X : Cx} {A : Around} {outer : List PySem.Env} {s : Shared} {H : Hp} {E : XK} {scope : Scope} {f c' : Addr} : Takes (LamX.lamCx X A outer s H E scope f c') (fun cls d _ H => E cls d H) := takes_of rfl rfl rfl rfl
end DL
/-! ### DL49: count of bools -/
namespace DL
open PySem PySem.Spec PyProof.Rows L2
theorem reads_bools {h : Heap} : ∀ {bs : List Bool} {us : List Value}, Vals (bs.map V.bl) us → ReadsAll h us (bs.map .bool) []
  | [], us, v => by cases v; exact .nil
  | b :: bs, us, v => by
    cases v with
    | @cons _ u _ us' h1 h2 =>
      have e : u = Value.bool b := h1
      subst e
      exact ReadsAll.cons (.bool b) (reads_bools h2)
theorem plain_bools : ∀ bs : List Bool, PyData.plainAll (bs.map .bool) = true
  | [] => by simp [PyData.plainAll]
  | b :: bs => by simp [PyData.plainAll, PyData.plain, plain_bools bs]
theorem depth_bools : ∀ bs : List Bool, PyData.depthAll (bs.map .bool) = 0
  | [] => by simp [PyData.depthAll]
  | b :: bs => by simp [PyData.depthAll, PyData.depth, depth_bools bs]
def rCntB (K : PySem.W.Frag) : V → List V → Hp → VK → Prop := fun x xs H Q => ∃ (p : Addr) (bs : List Bool) (b : Bool), x = .ref p ∧ xs = [.bl b] ∧ SqL K H p (bs.map V.bl) ∧ Q (.int ((bs.map PyData.bool).countP (fun y => PyData.eqv y (.bool b)) : Nat)) H
theorem mt_countB {X : Cx} (hu : X.A.units + 65 < cLine) : MtR X "list.count" (rCntB X.K) := by
  intro pins s σ H x xs v us Q I rx rxs h
  obtain ⟨p, bs, b, rfl, rfl, hs, q⟩ := h
  cases rx
  obtain ⟨u, rfl, ru⟩ := rxs.one
  have eu : u = Value.bool b := ru
  subst eu
  obtain ⟨its, rv, hl, _⟩ := I.list hs
  have hdep : X.A.units + 1 + min (PyData.depthAll (bs.map PyData.bool)) (PyData.bool b).depth < cLine := by
    rw [depth_bools]
    simp
    omega
  refine PySem.SeqAt.count_list_data (as := []) (bs := []) hl.isList (by simpa using reads_bools rv) (.bool b) (plain_bools bs) rfl hdep ?_
  exact ⟨.int _, H, I.tok _, ⟨_, rfl⟩, q⟩
theorem count_bools (b : Bool) : ∀ bs : List Bool, (bs.map PyData.bool).countP (fun y => PyData.eqv y (.bool b)) = bs.count b
  | [] => rfl
  | c :: bs => by
    rw [List.map_cons, List.countP_cons, count_bools b bs, List.count_cons]
    cases b <;> cases c <;> rfl
theorem repL_bools {K : PySem.W.Frag} {m : M} {H : Hp} : ∀ {bs : List Bool} {vs : List V}, RepL K m H (bs.map .bl) vs → vs = bs.map V.bl
  | [], vs, h => by simpa only [List.map_nil, RepL] using h
  | b :: bs, vs, h => by
    simp only [List.map_cons, RepL] at h
    obtain ⟨v, r, rfl, h1, h2⟩ := h
    simp only [Rep] at h1
    rw [h1, repL_bools h2]; rfl
/-- xs.count(b): xs a list of bools that may be changed -/
def tCntM (to te : DTE) : DTE := fun env m Q => to env m fun o m1 => ∃ p d0, o = .ref p ∧ m1 p = some (.lst d0) ∧ te env m1 fun d m2 => ∃ (bs : List Bool) (b : Bool), m2 p = some (.lst (bs.map .bl)) ∧ d = .bl b ∧ Q (.int ((bs.count b : Nat) : Int)) m2
section
variable {X : Cx} {o e : Expr} {to te : DTE} {apos cpos : Pos}
theorem de_countM (hu : X.A.units + 65 < cLine) (ho : DE X o to) (he : DE X e te) (hbase : attributeBase o "count" X.env (eval o X.env) = eval o X.env := by rfl)
    (hfew : ((backTo cpos (starEach [e] X.env)).all (fun x => !x.1) && (backToKw cpos (keywordEach [] X.env)).all (fun x => x.1.isSome) && decide ([e].length + ([] : List Keyword).length + (if ([] : List Keyword).isEmpty then 0 else 1) < 30)) = true := by rfl)
    (hline : (apos.endLine == cpos.line) = true := by rfl) (hs : starEach [e] X.env = (false, eval e X.env) :: starEach [] X.env := by rfl) (hplain : (backTo cpos (starEach [] X.env)).any (·.1) = false := by rfl) :
    DE X (.Call (.Attribute o "count" apos) [e] [] cpos) (tCntM to te) := ⟨PE.weak (pe_bm PySem.F.plainAttrs_list PySem.F.slot_list_count PySem.F.type_list_count (mt_countB hu) ho.run (pa_cons he.run pa_nil hs) hbase hfew hline hs hplain) fun σ H Q h => by
  obtain ⟨env, m, R, eo, s, h, k⟩ := h
  refine ⟨env, m, _, eo, s, h, fun x m1 v H1 h1 f1 s1 r1 => ?_⟩
  obtain ⟨p, d0, rfl, e0, h1⟩ := h1
  simp only [Rep] at r1
  subst r1
  obtain ⟨v0, hv0, _⟩ := s1 p _ e0
  refine ⟨.inl ⟨rfl, v0, .of hv0⟩, env, m1, _, eo.mono f1, s1, h1, fun d m2 w H2 h2 f2 s2 r2 => ?_⟩
  obtain ⟨bs, b, e2, rfl, h2⟩ := h2
  obtain ⟨vs, hv, rl⟩ := s2 p _ e2
  have ev := repL_bools rl
  subst ev
  simp only [Rep] at r2
  subst r2
  refine ⟨p, bs, b, rfl, rfl, .of hv, ?_⟩
  rw [count_bools]
  exact k _ _ _ _ h2 (f1.trans f2) s2 rep_int⟩
/-- xs.index(b): the first place -/
def tIdxM (to te : DTE) : DTE := fun env m Q => to env m fun o m1 => ∃ p d0, o = .ref p ∧ m1 p = some (.lst d0) ∧ te env m1 fun d m2 => ∃ (bs : List Bool) (b : Bool) (j : Nat), m2 p = some (.lst (bs.map .bl)) ∧ d = .bl b ∧ bs[j]? = some b ∧ (∀ i, i < j → bs[i]? ≠ some b) ∧ Q (.int ((j : Nat) : Int)) m2
theorem de_indexM (ho : DE X o to) (he : DE X e te) (hbase : attributeBase o "index" X.env (eval o X.env) = eval o X.env := by rfl)
    (hfew : ((backTo cpos (starEach [e] X.env)).all (fun x => !x.1) && (backToKw cpos (keywordEach [] X.env)).all (fun x => x.1.isSome) && decide ([e].length + ([] : List Keyword).length + (if ([] : List Keyword).isEmpty then 0 else 1) < 30)) = true := by rfl)
    (hline : (apos.endLine == cpos.line) = true := by rfl) (hs : starEach [e] X.env = (false, eval e X.env) :: starEach [] X.env := by rfl) (hplain : (backTo cpos (starEach [] X.env)).any (·.1) = false := by rfl) :
    DE X (.Call (.Attribute o "index" apos) [e] [] cpos) (tIdxM to te) := ⟨PE.weak (pe_bm PySem.F.plainAttrs_list PySem.F.slot_list_index PySem.F.type_list_index mt_index ho.run (pa_cons he.run pa_nil hs) hbase hfew hline hs hplain) fun σ H Q h => by
  obtain ⟨env, m, R, eo, s, h, k⟩ := h
  refine ⟨env, m, _, eo, s, h, fun x m1 v H1 h1 f1 s1 r1 => ?_⟩
  obtain ⟨p, d0, rfl, e0, h1⟩ := h1
  simp only [Rep] at r1
  subst r1
  obtain ⟨v0, hv0, _⟩ := s1 p _ e0
  refine ⟨.inl ⟨rfl, v0, .of hv0⟩, env, m1, _, eo.mono f1, s1, h1, fun d m2 w H2 h2 f2 s2 r2 => ?_⟩
  obtain ⟨bs, b, j, e2, rfl, hj, hno, h2⟩ := h2
  obtain ⟨vs, hv, rl⟩ := s2 p _ e2
  have ev := repL_bools rl
  subst ev
  simp only [Rep] at r2
  subst r2
  refine ⟨p, bs.map V.bl, .bl b, j, .bl b, rfl, rfl, .of hv, rfl, ?_, by rw [List.getElem?_map, hj]; rfl, by cases b <;> rfl, fun i z hi hz => ?_, k _ _ _ _ h2 (f1.trans f2) s2 rep_int⟩
  · rw [List.all_map, List.all_eq_true]
    exact fun _ _ => rfl
  · rw [List.getElem?_map] at hz
    obtain ⟨c, hc, rfl⟩ := Option.map_eq_some_iff.mp hz
    have ne : c ≠ b := fun e => hno i hi (by rw [hc, e])
    revert ne
    cases b <;> cases c <;> intro ne <;> first | rfl | exact absurd rfl ne⟩
end
end DL
/-! ### DL50: sorted with a def of the module as key -/
namespace DL
open PySem PySem.Spec PyProof.Rows L2
section
variable {prog : Program} {w : World} {A : Around} {E : Value → Shared → Prop} {s : Shared}
open PySem.W in
theorem keyJ_rest {P : PySem.Fin → Shared → Prop} {f : Value} {a kS : Addr} {b : Bool} {vs : List Value} {e1 : Nat} (J : Nat → Array Value → Shared → Prop) (h0 : J 0 #[] s) (hZ : vs.length ≤ sizeLine)
    (hk : ∀ j kA s', J j kA s' → kA.size = j)
    (turn : ∀ (j : Nat) (x : Value) (kA : Array Value) (s' : Shared), vs[j]? = some x → J j kA s' → wpAny (model prog w) A (call f [x]) (fun v s2 => (∃ e, s2.heap.get? kS = some (seqObj "list" kA e)) ∧
      ∀ g, (∃ e, g.get? kS = some (seqObj "list" (kA.push v) e)) → (∀ b o, b ≠ kS → s2.heap.get? b = some o → g.get? b = some o) → J (j + 1) (kA.push v) { s2 with heap := g }) (fun _ _ => False) s')
    (done : ∀ kA s', J vs.length kA s' → (∃ e, s'.heap.get? kS = some (seqObj "list" kA e)) ∧ wpAny (model prog w) A (ksk_end a b vs.toArray e1 (.ref kS) kA) P E s') :
    wpAny (model prog w) A (ksk_rest a f b vs.toArray e1 (.ref kS)) P E s := by
  unfold ksk_rest
  refine wpAny_bind (wpAny_rule ?_)
  rw [← Array.forIn_toList]
  refine wpAny_bind (ksk_fold (fun i s' => ∃ kA, J i kA s') vs 0 s ⟨_, h0⟩ ?turns ?last)
  case turns =>
    rintro j x s' hx ⟨kA, hJ⟩
    rw [Nat.zero_add] at hJ ⊢
    have hj : j < vs.length := (List.getElem?_eq_some_iff.mp hx).1
    have hs := hk _ _ _ hJ
    refine wpAny_bind (wpAny_attempt (wpAny_mono (turn j x kA s' hx hJ) (fun v s2 hq => ?_) fun _ _ z => z.elim))
    obtain ⟨⟨e, nk⟩, hq⟩ := hq
    try dsimp only
    obtain ⟨c2, hc2⟩ : ∃ c2, (s2.heap.update kS (Obj.mapSeq (·.push v))).get? kS = some (seqObj "list" (kA.push v) c2) := ⟨_, get?_update_seq nk (·.push v)⟩
    refine wpAny_bind (listUpdate_at nk rfl ?_ (by omega) (by rw [Array.size_push]; omega))
    exact wpAny_pure ⟨rfl, _, hq _ ⟨c2, hc2⟩ fun b o hb e => ((Heap.SameBut.update s2.heap kS (Obj.mapSeq (·.push v))).2 b hb).trans e⟩
  case last =>
    rintro s' ⟨kA, hJ⟩
    rw [Nat.zero_add] at hJ
    obtain ⟨⟨e, nk⟩, hd⟩ := done kA s' hJ
    refine wpAny_bind (listItems_at nk rfl ?_)
    exact hd
/-- sorted(x, ..) of a list or a tuple -/
theorem sortedSeqK {l : Addr} {vs : List Value} {kw : List (Str × Value)} {Q : Value → Shared → Prop} (hl : SeqAt s.heap l vs) (hz : vs.length ≤ sizeLine) (ha1 : argsOk "sorted" ⟨[.ref l], kw⟩) (ha2 : ∀ x, argsOk "list.sort" ⟨[.ref x], kw⟩)
    (body : ∀ E' : Value → Shared → Prop, wpAny (model prog w) A.in1.in1 (Builtin.«list.sort» ⟨[.ref (s.heap.objs.size + 1)], kw⟩) (fun f s' => f = .done (.ret .none) ∧ Q (.ref (s.heap.objs.size + 1)) s') E' { s with heap := PySem.W.copyHeap s.heap vs }) :
    wpAny (model prog w) A (call (.builtin "sorted") [.ref l] kw) Q E s := by
  refine call_function_entry_kw kind_sorted plain_sorted entry_sorted ha1 ?_
  unfold Builtin.«sorted»
  refine wpAny_bind (m := checkCount "sorted" 1 1 _) (wpAny_pure (wpAny_bind (collect_seq hl hz ?_)))
  refine wpAny_bind (wpAny_newList ?_ hz)
  have sz : ((s.heap.push (seqObj "list" #[] 0)).update s.heap.objs.size (Obj.mapSeq (· ++ vs.toArray))).objs.size = s.heap.objs.size + 1 := by rw [Heap.size_update, size_push']
  show wpAny _ _ _ _ _ { s with heap := PySem.W.copyHeap s.heap vs }
  rw [sz]
  refine wpAny_bind (wpAny_holding (wpAny_call_entry_kw slot_list_sort ⟨_, PySem.W.copyHeap_at s.heap vs, rfl⟩ entry_list_sort ?b (ha2 _)))
  case b =>
    refine wpAny_mono (body _) (fun f s' y => ?_) fun _ _ y => y
    obtain ⟨rfl, y⟩ := y
    exact ⟨_, rfl, wpAny_pure ⟨_, rfl, y⟩⟩
end
/-! the invariant, where a new untracked list is tracked from now on -/
section
variable {X : Cx} {pins : List (Addr × Obj)} {σ : L2.St} {H : Hp} {s : Shared} {h' : Heap}
theorem Inv.retrack {t' : Nat} {ch : List Addr} {T : Addr} {ob : HO} (I : Inv X pins σ H s) (k : ∀ b o, b ∉ ch → s.heap.get? b = some o → h'.get? b = some o) (hf : ∀ b ∈ ch, FpOk X pins H b) (hT : T ∈ ch)
    (new : ObjOk X.prog X.w (upd H T ob) h' T ob) : Inv X pins σ (upd H T ob) { s with heap := h', toks := t' } := by
  have hn : H T = none := (hf T hT).1
  have nin : ∀ b u, H b = some u → b ∉ ch := by
    intro b u e z
    rw [(hf b z).1] at e
    cases e
  have neT : ∀ b, b ∉ ch → b ≠ T := fun b hb z => hb (z ▸ hT)
  refine I.step (h' := h') (H' := upd H T ob) (g' := s.gens) (d' := s.drawn) (ch := ch) ?_ ?_ ?_ ?_ ?_ ?_ ?_ ?_ ?_ ?_ I.bare
  · intro b hb
    obtain ⟨_, h2, _, h4, h5, h6⟩ := hf b hb
    exact ⟨h4, h2, h5, h6⟩
  · exact fun b o _ _ hc e _ => k b o hc e
  · exact fun b o _ _ hc e _ => ⟨o.slots, k b o hc e⟩
  · exact fun b o hc e n => by rw [upd_ne (neT b hc)]; exact n
  · exact fun b o hc e => ⟨o, k b o hc e⟩
  · exact fun b xs e => by rw [upd_ne (ne_of_none e hn)]; exact e
  · exact fun b o u e => by rw [upd_ne (ne_of_none e hn)]; exact e
  · exact fun b ps e => ⟨#[], by rw [upd_ne (ne_of_none e hn), e, Array.append_empty]⟩
  · rintro m ⟨o, es, ep, ho, r⟩
    exact ⟨o, es, ep, k _ o (fun z => (hf _ z).2.1 rfl) ho, r⟩
  · intro b u e
    by_cases hb : b = T
    · subst hb
      rw [upd_same] at e
      cases e
      exact new
    · rw [upd_ne hb] at e
      have nb := nin b u e
      refine (I.hok b u e).stay (fun c v hc q => k c v ?_ q) (fun c q => ?_) fun c xs q => ?_
      · rcases hc with rfl | hc
        · exact nb
        · exact nin c _ hc
      · rw [upd_ne (ne_of_none q hn)]; exact q
      · rw [upd_ne (ne_of_none q hn)]; exact q
end
/-! keys: data without mutable parts -/
mutual
theorem rep_reads {P : Program} {w : World} {K : PySem.W.Frag} {m : M} {H : Hp} {h : Heap} (hok : HOk P w H h) (kin : K.In h) : ∀ (n : Nat) (d : D) (v : V) (u : Value), dat n d = true → Rep K m H d v → RelV v u → ∃ as, Reads h u (toPd d) as
  | n, .non, v, u, _, r, rv => by simp only [Rep] at r; subst r; obtain rfl : u = Value.none := rv; exact ⟨_, .none⟩
  | n, .bl b, v, u, _, r, rv => by simp only [Rep] at r; subst r; obtain rfl : u = Value.bool b := rv; exact ⟨_, .bool b⟩
  | n, .int i, v, u, _, r, rv => by simp only [Rep] at r; subst r; obtain ⟨t, rfl⟩ := rv; exact ⟨_, .int i t⟩
  | n, .str x, v, u, _, r, rv => by simp only [Rep] at r; subst r; obtain ⟨t, rfl⟩ := rv; exact ⟨_, .str x t⟩
  | n + 1, .tup xs, v, u, hd, r, rv => by
    simp only [dat] at hd
    simp only [Rep] at r
    obtain ⟨a, vs, rfl, ht, rr⟩ := r
    obtain rfl : u = Value.ref a := rv
    obtain ⟨its, o, n', hv, g, g1, g2⟩ := sqT_at hok kin (tupAt_sq ht)
    obtain ⟨as, ra⟩ := rep_readsL hok kin n xs vs its hd rr hv
    exact ⟨as, .tuple g g1 g2 (by simpa using ra)⟩
  | n + 1, .lst xs, v, u, hd, r, rv => by
    simp only [dat] at hd
    simp only [Rep] at r
    obtain ⟨a, vs, rfl, ht, rr⟩ := r
    obtain rfl : u = Value.ref a := rv
    obtain ⟨its, o, n', hv, g, g1, g2⟩ := sqL_at hok kin (.of ht.2)
    obtain ⟨as, ra⟩ := rep_readsL hok kin n xs vs its hd rr hv
    exact ⟨_, .list g g1 g2 (by simpa using ra)⟩
  | 0, .tup xs, _, _, h, _, _ => by simp only [dat] at h; cases h
  | 0, .lst xs, _, _, h, _, _ => by simp only [dat] at h; cases h
  | n, .dic _ _, _, _, h, _, _ => by cases n <;> simp only [dat] at h <;> cases h
  | n, .ins _ _ _, _, _, h, _, _ => by cases n <;> simp only [dat] at h <;> cases h
  | n, .ref _, _, _, h, _, _ => by cases n <;> simp only [dat] at h <;> cases h
  | n, .ty _, _, _, h, _, _ => by cases n <;> simp only [dat] at h <;> cases h
  | n, .scr _, _, _, h, _, _ => by cases n <;> simp only [dat] at h <;> cases h
  | n, .exc _ _ _, _, _, h, _, _ => by cases n <;> simp only [dat] at h <;> cases h
  | n, .tab _, _, _, h, _, _ => by cases n <;> simp only [dat] at h <;> cases h
  | n, .dky _ _ _ _, _, _, h, _, _ => by cases n <;> simp only [dat] at h <;> cases h
  | n, .clo _ _ _ _ _, _, _, h, _, _ => by cases n <;> simp only [dat] at h <;> cases h
theorem rep_readsL {P : Program} {w : World} {K : PySem.W.Frag} {m : M} {H : Hp} {h : Heap} (hok : HOk P w H h) (kin : K.In h) : ∀ (n : Nat) (ds : List D) (vs : List V) (us : List Value), datL n ds = true → RepL K m H ds vs → Vals vs us → ∃ as, ReadsAll h us (toPdL ds) as
  | n, [], vs, us, _, r, rv => by simp only [RepL] at r; subst r; cases rv; exact ⟨_, .nil⟩
  | n, d :: ds, vs, us, hd, r, rv => by
    simp only [datL, Bool.and_eq_true] at hd
    simp only [RepL] at r
    obtain ⟨v, r', rfl, r1, r2⟩ := r
    cases rv with
    | cons h1 h2 =>
      obtain ⟨as, ra⟩ := rep_reads hok kin n d v _ hd.1 r1 h1
      obtain ⟨bs, rb⟩ := rep_readsL hok kin n ds r' _ hd.2 r2 h2
      exact ⟨_, .cons ra rb⟩
end
def okKeys (kf : D → D) (ds : List D) : Prop := PySem.W.AllAlike (ds.map fun d => toPd (kf d)) ∧ PySem.W.Sortable (ds.map fun d => toPd (kf d)) ∧ ∀ d ∈ ds, dat 8 (kf d) = true
def srtK (kf : D → D) (ds : List D) : List D := ds.mergeSort (PySem.W.dataLe false fun d => toPd (kf d))
theorem srtK_perm (kf : D → D) (ds : List D) : (srtK kf ds).Perm ds := List.mergeSort_perm _ _

section
variable {X : Cx} {pins : List (Addr × Obj)} {σ : L2.St} {H : Hp} {s : Shared} {k : Nat} {f l : Addr} {sp : DSp} {m : M} {ds : List D} {ws : List V} {its : List Value} {kf : D → D}
/-- while the keys are made -/
def KeyJ (X : Cx) (pins : List (Addr × Obj)) (σ : L2.St) (m : M) (H : Hp) (ds : List D) (kf : D → D) (a kS e1 : Nat) (i : Nat) (kA : Array Value) (s' : Shared) : Prop :=
  kA.size = i ∧ ∃ H', Inv X pins σ H' s' ∧ Sim X.K m H' ∧ Fr m H m H' ∧ (∃ e, s'.heap.get? kS = some (seqObj "list" kA e)) ∧ FpOk X pins H' kS ∧ s'.heap.get? a = some (seqObj "list" #[] e1) ∧ FpOk X pins H' a ∧
    ∃ kvs, RepL X.K m H' ((ds.take i).map kf) kvs ∧ Vals kvs kA.toList
theorem fpOk_call {b : Addr} {H' H2 : Hp} {s' s2 : Shared} {o : Obj} (I : Inv X pins σ H' s') (hf : FpOk X pins H' b) (ho : s'.heap.get? b = some o) (un : Un (frs X.stack) [] H' H2 s'.heap s2.heap) : FpOk X pins H2 b ∧ s2.heap.get? b = some o := by
  obtain ⟨h1, h2, h3, h4⟩ := hf
  have nst : b ∉ frs X.stack := fun z => (List.mem_cons.mp (I.stkSub b z)).elim h2 h3
  exact ⟨⟨un.free b o ho h1 (by simp), h2, h3, h4⟩, un.keep b o ho h1 nst (by simp)⟩
theorem sortK_run {Q : VK} (I : Inv X pins σ H s) (sm : Sim X.K m H) (F : FnG X.prog X.w X.K X.mg X.base CX0 k f (liftSp X.K sp)) (hr : RoomG (k + 2) X.A) (hl : SeqAt s.heap l its) (rr : RepL X.K m H ds ws) (hv : Vals ws its) (hz : ds.length ≤ sizeLine) (ok : okKeys kf ds)
    (hsp : ∀ d ∈ ds, sp [d] m fun d' m' => d' = kf d ∧ m' = m)
    (hQ : ∀ (p : Addr) (zs : List V) (H' : Hp), Fr m H m H' → Sim X.K m H' → H' p = none → RepL X.K m H' (srtK kf ds) zs → zs.length ≤ sizeLine → Q (.ref p) (upd H' p (.lst zs))) :
    wpAny (model X.prog X.w) X.A (call (.builtin "sorted") [.ref l] [(Str.ofString "key", .ref f)]) (EP X pins σ Q) X.xe s := by
  have lz : its.length = ds.length := by rw [← hv.length, ← rr.length]
  have lz' : its.length ≤ sizeLine := by omega
  refine sortedSeqK hl lz' (ksk_s1 _ _) (fun x => ksk_l1 _ _) fun E' => ?_
  rw [ksk_t1]
  generalize hg : PySem.W.copyHeap s.heap its = g0
  have k0 : ∀ b o, s.heap.get? b = some o → g0.get? b = some o := fun b o e => by rw [← hg]; exact PySem.W.copyHeap_old e
  have ha0 : g0.get? (s.heap.objs.size + 1) = some (seqObj "list" its.toArray 0) := by rw [← hg]; exact PySem.W.copyHeap_at s.heap its
  generalize hA : s.heap.objs.size + 1 = a at ha0 ⊢
  have haS : s.heap.objs.size ≤ a := by omega
  have haN : H a = none := I.hok.fresh haS
  have haF : FpOk X pins H a := I.fpOk haS haN
  obtain ⟨e1, ho1⟩ : ∃ e1, (g0.update a (Obj.mapSeq fun _ => (#[] : Array Value))).get? a = some (seqObj "list" #[] e1) := ⟨_, get?_update_seq ha0 fun _ => #[]⟩
  have k1 : ∀ b o, s.heap.get? b = some o → (g0.update a (Obj.mapSeq fun _ => (#[] : Array Value))).get? b = some o := fun b o e =>
    ((Heap.SameBut.update g0 a (Obj.mapSeq fun _ => (#[] : Array Value))).2 b (Nat.ne_of_lt (Nat.lt_of_lt_of_le (Heap.lt_size e) haS))).trans (k0 b o e)
  unfold ksk_tree
  refine wpAny_bind (listItems_at ha0 rfl ?_)
  refine wpAny_bind (listUpdate_at ha0 rfl ?_ (by rw [List.size_toArray]; exact lz') (Nat.zero_le _))
  refine wpAny_bind (seqEpoch_at ho1 rfl ?_)
  refine wpAny_bind (wpAny_newTuple ?_ (by show its.length ≤ _; exact lz'))
  refine wpAny_bind (wpAny_newList ?_ (Nat.zero_le _))
  refine wpAny_holding ?_
  generalize hg1 : g0.update a (Obj.mapSeq fun _ => (#[] : Array Value)) = g1 at ho1 k1 ⊢
  try dsimp only
  generalize hkS : (g1.push (seqObj "tuple" its.toArray 0)).objs.size = kS
  have gk : ((g1.push (seqObj "tuple" its.toArray 0)).push (seqObj "list" #[] 0)).get? kS = some (seqObj "list" #[] 0) := by rw [← hkS]; exact Heap.get?_push_size _ rfl
  have ga : ((g1.push (seqObj "tuple" its.toArray 0)).push (seqObj "list" #[] 0)).get? a = some (seqObj "list" #[] e1) := Heap.get?_push_of_some _ (Heap.get?_push_of_some _ ho1)
  have hka : kS ≠ a := by rw [← hkS, size_push']; exact Nat.ne_of_gt (Nat.lt_succ_of_lt (Heap.lt_size ho1))
  have hkS2 : s.heap.objs.size ≤ kS := by rw [← hkS, size_push']; exact Nat.le_trans haS (Nat.le_of_lt (Nat.lt_succ_of_lt (Heap.lt_size ho1)))
  have hkN : H kS = none := I.hok.fresh hkS2
  have I1 : Inv X pins σ H { s with heap := (g1.push (seqObj "tuple" its.toArray 0)).push (seqObj "list" #[] 0), toks := s.toks } := I.kept fun b o e => Heap.get?_push_of_some _ (Heap.get?_push_of_some _ (k1 b o e))
  refine keyJ_rest (s := { s with heap := (g1.push (seqObj "tuple" its.toArray 0)).push (seqObj "list" #[] 0) }) (KeyJ X pins σ m H ds kf a kS e1) ⟨rfl, H, I1, sm, Fr.refl, ⟨_, gk⟩, I.fpOk hkS2 hkN, ga, haF, [], by simp [RepL], .nil⟩ lz' (fun j kA s' h => h.1) ?turn ?done
  case turn =>
    rintro j x kA s' hx ⟨hs, H', I', sm', f', ⟨e, nk⟩, fk, na, fa, kvs, rk, vk⟩
    have hj : j < its.length := (List.getElem?_eq_some_iff.mp hx).1
    obtain ⟨d, hd⟩ : ∃ d, ds[j]? = some d := ⟨_, List.getElem?_eq_getElem (by omega)⟩
    have hm : d ∈ ds := List.mem_of_getElem? hd
    obtain ⟨v, hv1, rv⟩ := rr.get hd
    obtain ⟨x', hx', rx⟩ := hv.get hv1
    have ex : x' = x := by rw [hx] at hx'; exact (Option.some.inj hx').symm
    rw [ex] at rx
    have rv' := Rep.mono f' _ _ rv
    refine wpAny_call (codeAny_mono (F (X.A.in1.in1) X.stack s' H' [x] [v] (fun v2 H2 => ∃ m', m' = m ∧ Fr m H' m' H2 ∧ Sim X.K m' H2 ∧ Rep X.K m' H2 (kf d) v2) E0 (hr.in1.in1) I'.env0.in1.in1 (.cons rx .nil) ⟨[d], m, _, .cons rv' .nil, sm', hsp d hm, ?_⟩) fun r s2 hq => ?_)
    · rintro d' m' v2 H2 ⟨rfl, rfl⟩ f2 s2 r2
      exact ⟨_, rfl, f2, s2, r2⟩
    · match r, hq with
      | .error e, hq => exact hq.elim
      | .ok .next, hq => exact hq.elim
      | .ok .brk, hq => exact hq.elim
      | .ok .cont, hq => exact hq.elim
      | .ok (.ret u), hq =>
        obtain ⟨v2, H2, os, bare, un, hok, r2, _, rfl, f2, sm2, rp2⟩ := hq
        obtain ⟨fk2, nk2⟩ := fpOk_call I' fk nk un
        obtain ⟨fa2, na2⟩ := fpOk_call I' fa na un
        have I2 : Inv X pins σ H2 s2 := I'.call' (ch := []) os un hok bare fun b z => absurd z (by simp)
        refine ⟨⟨_, nk2⟩, fun g hgk hgo => ⟨by rw [Array.size_push, hs], H2, ?_, sm2, f'.trans f2, hgk, fk2, hgo a _ hka.symm na2, fa2, kvs ++ [v2], ?_, ?_⟩⟩
        · exact I2.turnedL (t' := s2.toks) (ch := [kS]) (fun b o hb e => hgo b o (fun z => hb (by simp [z])) e) fun b hb => by
            rw [List.mem_singleton.mp hb]; exact fk2
        · rw [List.take_add_one, hd]
          simp only [Option.toList_some, List.map_append, List.map_cons, List.map_nil]
          exact RepL.append (RepL.mono f2 _ _ rk) (.cons rp2 .nil)
        · rw [Array.toList_push]
          exact vk.append (.cons r2 .nil)
  case done =>
    rintro kA s' ⟨hs, H', I', sm', f', ⟨e, nk⟩, fk, na, fa, kvs, rk, vk⟩
    refine ⟨⟨e, nk⟩, ?_⟩
    have et : ds.take its.length = ds := List.take_of_length_le (by omega)
    rw [et] at rk
    have re : PySem.W.EachIs (fun u d => ∃ as, Reads s'.heap u d as) kA.toList (ds.map fun d => toPd (kf d)) := by
      have main : ∀ (es : List D) (kvs : List V) (us : List Value), (∀ d ∈ es, dat 8 (kf d) = true) → RepL X.K m H' (es.map kf) kvs → Vals kvs us → PySem.W.EachIs (fun u d => ∃ as, Reads s'.heap u d as) us (es.map fun d => toPd (kf d)) := by
        intro es
        induction es with
        | nil => intro kvs us _ r v; simp only [List.map_nil, RepL] at r; subst r; cases v; exact .nil
        | cons d es ih =>
          intro kvs us hd r v
          simp only [List.map_cons, RepL] at r
          obtain ⟨w, wr, rfl, r1, r2⟩ := r
          cases v with
          | cons h1 h2 =>
            exact .cons (rep_reads I'.hok I'.kIn 8 _ _ _ (hd d (.head _)) r1 h1) (ih wr _ (fun d hd' => hd d (.tail _ hd')) r2 h2)
      exact main ds kvs _ ok.2.2 rk vk
    have hu : ∀ d, d ∈ ds.map (fun d => toPd (kf d)) → X.A.in1.in1.units + d.depth < cLine := fun d hd => by
      obtain ⟨e, he, rfl⟩ := List.mem_map.mp hd
      have h1 := (dat_lay 8 _ (ok.2.2 e he)).2
      have h2 := hr.r.un
      show X.A.units + 1 + 1 + _ < cLine
      omega
    have kp : PySem.W.KeepsBut a (PySem.W.hideAll s'.heap [kS]) s'.heap := fun b o _ e => PySem.W.of_hideAll _ e
    refine PySem.W.keyH_end (κ := PySem.W.dataKind s'.heap (ds.map fun d => toPd (kf d))) (b := false) kp (PySem.W.hideAll_none _ (by simp)) nk na hka (PySem.W.SortsAt.data (s := s') re ok.1 ok.2.1 hu) (by rw [hs]) lz' fun h3 tk3 c k3 n3 => ⟨rfl, ?_⟩
    have ko : PySem.W.KeyedOut false (ds.map fun d => toPd (kf d)) its _ := ⟨s'.heap, kA.toList, ok.1, rfl, re⟩
    have ea : PySem.W.EachIs (fun u d => ∃ v, RelV v u ∧ Rep X.K m H' d v) its ds := each_rep (RepL.mono f' _ _ rr) hv
    have eo := PySem.W.keyedOut_each (fun d => toPd (kf d)) ko ea
    obtain ⟨zs, z1, z2⟩ := rep_each eo
    have lzs : zs.length ≤ sizeLine := by
      rw [← z1.length]
      show (srtK kf ds).length ≤ sizeLine
      rw [(srtK_perm kf ds).length_eq]; exact hz
    have kk : ∀ b o, b ∉ [kS, a] → s'.heap.get? b = some o → h3.get? b = some o := fun b o hb e => by
      simp only [List.mem_cons, List.not_mem_nil, or_false, not_or] at hb
      exact k3 b o hb.2 (PySem.W.hideAll_get _ e (by simp [hb.1]))
    refine ⟨.ref a, upd H' a (.lst zs), ?_, rfl, hQ a zs H' f' sm' fa.1 z1 lzs⟩
    refine Inv.retrack (t' := tk3) (ch := [kS, a]) I' kk (fun b hb => ?_) (by simp) ⟨lzs, _, c, z2, n3⟩
    simp only [List.mem_cons, List.not_mem_nil, or_false] at hb
    rcases hb with rfl | rfl
    · exact fk
    · exact fa
/-- sorted(x, key=f) -/
def rSortKD (K : PySem.W.Frag) (f : Addr) (sp : DSp) : List V → List V → Hp → VK → Prop := fun vs zs H Q => ∃ (m : M) (a : Addr) (ws : List V) (ds : List D) (kf : D → D), vs = [.ref a] ∧ zs = [.ref f] ∧ (SqT K H a ws ∨ SqL K H a ws) ∧ RepL K m H ds ws ∧ Sim K m H ∧ ds.length ≤ sizeLine ∧ okKeys kf ds ∧
  (∀ d ∈ ds, sp [d] m fun d' m' => d' = kf d ∧ m' = m) ∧ ∀ (p : Addr) (zs : List V) (H' : Hp), Fr m H m H' → Sim K m H' → H' p = none → RepL K m H' (srtK kf ds) zs → zs.length ≤ sizeLine → Q (.ref p) (upd H' p (.lst zs))
theorem cr_sortKD (F : FnG X.prog X.w X.K X.mg X.base CX0 k f (liftSp X.K sp)) (hr : RoomG (k + 2) X.A) : CallRK X (.builtin "sorted") [Str.ofString "key"] (rSortKD X.K f sp) := by
  intro pins s σ H xs zs us ws Q I rx rz h
  obtain ⟨m, a, wv, ds, kf, rfl, rfl, hs, rr, sm, hz, ok, hsp, q⟩ := h
  rw [Vals.ref1 rx, Vals.ref1 rz]
  have hseq : ∃ its : List Value, Vals wv its ∧ SeqAt s.heap a its := by
    rcases hs with hs | hs
    · obtain ⟨its, o, n, hv, g, g1, g2⟩ := sqT_at I.hok I.kIn hs
      exact ⟨its, hv, o, n, g, .inr g1, g2⟩
    · obtain ⟨its, o, n, hv, g, g1, g2⟩ := sqL_at I.hok I.kIn hs
      exact ⟨its, hv, o, n, g, .inl g1, g2⟩
  obtain ⟨its, hv, hq⟩ := hseq
  exact sortK_run I sm F hr hq rr hv hz ok hsp q
def tSortK (sp : DSp) (t : DTE) : DTE := fun env m Q => t env m fun x m1 => ∃ (ds : List D) (kf : D → D), (look m1 x = .tup ds ∨ look m1 x = .lst ds) ∧ ds.length ≤ sizeLine ∧ okKeys kf ds ∧ (∀ d ∈ ds, sp [d] m1 fun d' m' => d' = kf d ∧ m' = m1) ∧ Q (.lst (srtK kf ds)) m1
theorem de_sortK {x y : Str} {e : Expr} {te : DTE} {p kp p2 pos : Pos} (c : Cal X y k sp) (hr : RoomG (k + 2) X.A) (hm : X.mg x = none) (he : DE X e te) (hx : bootBuiltins x = some (.builtin "sorted") := by decide +kernel) (hg : Gl X x := by rfl) (hgy : Gl X y := by rfl) (hdy : (y == ("__debug__" : Str)) = false := by decide) (hn : x ≠ "__name__" := by decide) (hdb : (x == ("__debug__" : Str)) = false := by decide) (h0 : starEach [e] X.env = (false, eval e X.env) :: starEach [] X.env := by rfl)
    (h1 : backTo pos (starEach [e] X.env) = (false, eval e X.env) :: backTo pos (starEach [] X.env) := by rfl) (hpl : (backTo pos (starEach [e] X.env)).any (·.1) = false := by rfl)
    (hall : (backToKw pos (keywordEach [⟨some "key", .Name y p2, kp⟩] X.env)).all (·.1.isSome) = true := by rfl) (hnone : (backToKw pos (keywordEach [⟨some "key", .Name y p2, kp⟩] X.env)).any (·.1.isNone) = false := by rfl) (hks : (backToKw pos (keywordEach [⟨some "key", .Name y p2, kp⟩] X.env)).filterMap (·.1) = [Str.ofString "key"] := by rfl) :
    DE X (.Call (.Name x p) [e] [⟨some "key", .Name y p2, kp⟩] pos) (tSortK sp te) := by
  obtain ⟨f, hmy, hk, F⟩ := c.ex
  refine ⟨PE.weak (pe_callBK (cr_sortKD F hr) hg hm hx (pa_cons he.run pa_nil h0) (pk_cons (pe_glob hgy hmy (v := .ref f) rfl hdy) pk_nil) hn hdb h1 hpl hall hnone hks) fun σ H Q h => ?_⟩
  obtain ⟨env, m, R, eo, sm, h, kq⟩ := h
  refine ⟨env, m, _, eo, sm, h, fun d m1 v H1 hd f1 s1 r1 => ?_⟩
  obtain ⟨ds, kf, hl, hz, ok, hsp, hR⟩ := hd
  obtain ⟨a, ws, rfl, hq, rr⟩ := star_items (cont_of s1 r1) hl
  exact ⟨m1, a, ws, ds, kf, rfl, rfl, hq, rr, s1, hz, ok, hsp, fun p zs H' f2 s2 hp z1 _ => kq _ m1 _ _ hR ((f1.trans f2).trans (Fr.laid s2 hp)) (s2.laid hp) (new_lst s2 hp z1)⟩
end
end DL
/-! ### DL51: de_lamcall by the maker's name -/
namespace DL
open PySem PySem.Spec PyProof.Rows L2
section
variable {X : Cx}
theorem de_lamcallQ {st : Stmt} {fd : FuncData} {x a qn : Str} {g c P : Addr} {k : Nat} {Ng : List Str} {params : Arguments} {body : Expr} {scope : Scope} {tb : DTEX} {rH : DTEX → DTS} {p lpos pos : Pos} (hm : X.mg x = some (.ref g)) (F : Fun X.K x x st g fd) (S : FnScope Ng [a] (defScope st)) (hNg : Ng[0]? = some a) (hva : Vis (defScope st) a)
    (hb : Binds X.K fd [a] []) (TB : LamX.TabB X.base X.mg c P) (hcode : X.env.code = .ref c) (hq : X.env.qual = qn) (hr : RoomG (k + 2) X.A) (L : LamX.LamS X.env.scope scope)
    (hbind : ∀ (q : Str) (cl : List (Str × Addr)) (pm cv ctv : Value), bindArgs (PySem.W.kla_fn "<lambda>" q params body scope cl pm cv ctv) ⟨[], []⟩ = pure [])
    (hbody : ∀ (A : Around) (outer : List PySem.Env) (s : Shared) (H : Hp) (E : XK) (f c' : Addr), RoomG k (A.deeper (LamX.lamEnv X scope s.heap.objs.size f c')) → DEX (LamX.lamCx X A outer s H E scope f c') (fun cls d _ H => E cls d H) body tb)
    (hG : ∀ (cdv : Value) (A : Around) (outer : List PySem.Env) (s : Shared) (H : Hp) (tA : DTEX), RoomG (k + 1) (A.deeper (envOfC x (defScope st) s.heap.objs.size g cdv)) →
      (∀ (W : WX) (pn : List (Addr × Obj)) (xe : Value → Shared → Prop) (p1 p2 : Pos), Takes ((cxOf CX0 X.prog X.w X.K X.mg X.base Ng x (defScope st) g cdv A outer s H E0).tr pn xe) W → DEX ((cxOf CX0 X.prog X.w X.K X.mg X.base Ng x (defScope st) g cdv A outer s H E0).tr pn xe) W (.Call (.Name a p1) [] [] p2) tA) →
      DSs (cxOf CX0 X.prog X.w X.K X.mg X.base Ng x (defScope st) g cdv A outer s H E0).nox (defBody st) (rH tA))
    (hg : Gl X x := by rfl) (hdef : defaultsOf params X.env = ([], []) := by rfl) (hdb : (x == ("__debug__" : Str)) = false := by decide) (hd : (a == ("__debug__" : Str)) = false := by decide) (hcd : (a == ("__classdict__" : Str)) = false := by decide) :
    DE X (.Call (.Name x p) [.Lambda params body scope lpos] [] pos) (tLamD P (qn ++ ("<lambda>" : Str)) Ng.length rH tb) := by
  subst hq
  exact de_lamcall hm F S hNg hva hb TB hcode rfl hr L hbind hbody hG hg hdef hdb hd hcd
end
end DL
/-! ### DL52: the end's facts of a def that holds lambdas -/
namespace DL
open PySem PySem.Spec PyProof.Rows L2
theorem codeHd_of {K : PySem.W.Frag} {h : Heap} {c P : Addr} {dd : Option Addr} {vs : Array Value} {sl : Array (Option Value)} {file : Str} {tf tg tt : Tok} {flags text : Int} {inF : Bool} (X : K.In h) (lk : K.lookup c = some ⟨.type "code", dd, .fields vs, sl⟩)
    (v11 : vs[11]? = some (.ref P)) (v18 : vs.getD 18 .none = .str file tf) (v7 : vs.getD 7 .none = .int flags tg) (v9 : vs.getD 9 .none = .bool inF) (v10 : vs.getD 10 .none = .int text tt) (hP : h.get? P = some { cls := .none, data := .fields #[] }) : PySem.W.CodeHd h c P := by
  have g := X _ _ lk
  refine ⟨_, vs, file, tf, flags, tg, inF, text, tt, g, rfl, rfl, v11, ?_, v18, v7, v9, v10, ?_⟩
  · rw [Array.getD_eq_getD_getElem?, v11]; rfl
  · rintro rfl
    rw [g] at hP
    have e := congrArg Obj.cls (Option.some.inj hP)
    cases e
theorem tabM_one {c P : Addr} {q : Str} : tabM [(c, P, q)] P = some (.tab q) := by simp [tabM]
end DL
/-! ### DL53: dicts whose keys are tuples: keys, stores -/
namespace DL
open PySem PySem.Spec PyProof.Rows L2
theorem keyDs_map : ∀ ds : List D, keyDs ds = ds.map keyD
  | [] => rfl
  | d :: ds => by rw [keyDs, keyDs_map ds]; rfl
mutual
theorem okKey_depth : ∀ (n : Nat) (d : D), okKey n d = true → (keyD d).depth ≤ n
  | n, .non, _ => by simp [keyD, NestedKey.depth]
  | n, .bl _, _ => by simp [keyD, NestedKey.depth]
  | n, .int _, _ => by simp [keyD, NestedKey.depth]
  | n, .str _, _ => by simp [keyD, NestedKey.depth]
  | n + 1, .tup ds, h => by
    simp only [okKey] at h
    have := okKey_depthL n ds h
    simp only [keyD, NestedKey.depth]; omega
  | 0, .tup ds, h => by simp only [okKey] at h; cases h
  | n, .lst _, h => by cases n <;> simp only [okKey] at h <;> cases h
  | n, .dic _ _, h => by cases n <;> simp only [okKey] at h <;> cases h
  | n, .ins _ _ _, h => by cases n <;> simp only [okKey] at h <;> cases h
  | n, .ref _, h => by cases n <;> simp only [okKey] at h <;> cases h
  | n, .ty _, h => by cases n <;> simp only [okKey] at h <;> cases h
  | n, .scr _, h => by cases n <;> simp only [okKey] at h <;> cases h
  | n, .exc _ _ _, h => by cases n <;> simp only [okKey] at h <;> cases h
  | n, .tab _, h => by cases n <;> simp only [okKey] at h <;> cases h
  | n, .clo _ _ _ _ _, h => by cases n <;> simp only [okKey] at h <;> cases h
  | n, .dky _ _ _ _, h => by cases n <;> simp only [okKey] at h <;> cases h
theorem okKey_depthL : ∀ (n : Nat) (ds : List D), okKeyL n ds = true → NestedKey.depthAll (keyDs ds) ≤ n
  | n, [], _ => by simp [keyDs, NestedKey.depthAll]
  | n, d :: ds, h => by
    simp only [okKeyL, Bool.and_eq_true] at h
    have h1 := okKey_depth n d h.1
    have h2 := okKey_depthL n ds h.2
    simp only [keyDs, NestedKey.depthAll]; omega
end
section
variable {P : Program} {w : World} {K : PySem.W.Frag} {m : M} {H : Hp} {h : Heap}
mutual
theorem rep_key (hok : HOk P w H h) (kin : K.In h) : ∀ (n : Nat) (d : D) (v : V) (u : Value), okKey n d = true → Rep K m H d v → RelV v u → NestedIs h (keyD d) u
  | n, .non, v, u, _, r, rv => by simp only [Rep] at r; subst r; obtain rfl : u = Value.none := rv; exact .none
  | n, .bl b, v, u, _, r, rv => by simp only [Rep] at r; subst r; obtain rfl : u = Value.bool b := rv; exact .bool rfl
  | n, .int i, v, u, _, r, rv => by simp only [Rep] at r; subst r; obtain ⟨t, rfl⟩ := rv; exact .int i t
  | n, .str x, v, u, _, r, rv => by simp only [Rep] at r; subst r; obtain ⟨t, rfl⟩ := rv; exact .text x t
  | n + 1, .tup xs, v, u, hd, r, rv => by
    simp only [okKey] at hd
    simp only [Rep] at r
    obtain ⟨a, vs, rfl, ht, rr⟩ := r
    obtain rfl : u = Value.ref a := rv
    obtain ⟨its, o, n', hv, g, g1, g2⟩ := sqT_at hok kin (tupAt_sq ht)
    exact .tup g g1 g2 (by simpa using rep_keys hok kin n xs vs its hd rr hv)
  | 0, .tup xs, _, _, h, _, _ => by simp only [okKey] at h; cases h
  | n, .lst _, _, _, h, _, _ => by cases n <;> simp only [okKey] at h <;> cases h
  | n, .dic _ _, _, _, h, _, _ => by cases n <;> simp only [okKey] at h <;> cases h
  | n, .ins _ _ _, _, _, h, _, _ => by cases n <;> simp only [okKey] at h <;> cases h
  | n, .ref _, _, _, h, _, _ => by cases n <;> simp only [okKey] at h <;> cases h
  | n, .ty _, _, _, h, _, _ => by cases n <;> simp only [okKey] at h <;> cases h
  | n, .scr _, _, _, h, _, _ => by cases n <;> simp only [okKey] at h <;> cases h
  | n, .exc _ _ _, _, _, h, _, _ => by cases n <;> simp only [okKey] at h <;> cases h
  | n, .tab _, _, _, h, _, _ => by cases n <;> simp only [okKey] at h <;> cases h
  | n, .clo _ _ _ _ _, _, _, h, _, _ => by cases n <;> simp only [okKey] at h <;> cases h
  | n, .dky _ _ _ _, _, _, h, _, _ => by cases n <;> simp only [okKey] at h <;> cases h
theorem rep_keys (hok : HOk P w H h) (kin : K.In h) : ∀ (n : Nat) (ds : List D) (vs : List V) (us : List Value), okKeyL n ds = true → RepL K m H ds vs → Vals vs us → NestedAll h (keyDs ds) us
  | n, [], vs, us, _, r, rv => by simp only [RepL] at r; subst r; cases rv; exact .nil
  | n, d :: ds, vs, us, hd, r, rv => by
    simp only [okKeyL, Bool.and_eq_true] at hd
    simp only [RepL] at r
    obtain ⟨v, r', rfl, r1, r2⟩ := r
    cases rv with
    | cons h1 h2 => exact .cons (rep_key hok kin n d v _ hd.1 r1 h1) (rep_keys hok kin n ds r' _ hd.2 r2 h2)
end
theorem rep_tupKey (hok : HOk P w H h) (kin : K.In h) {d : D} {a : Addr} (hk : tupKey d = true) (r : Rep K m H d (.ref a)) : (nestedKind P w).is h (keyD d) a := by
  unfold tupKey at hk
  rw [Bool.and_eq_true] at hk
  exact ⟨rep_key hok kin 8 d _ _ hk.2 r rfl, okKey_depth 8 d hk.2⟩
theorem rep_tup_ref {d : D} {v : V} (hk : tupKey d = true) (r : Rep K m H d v) : ∃ a, v = .ref a := by
  unfold tupKey isTupD at hk
  cases d with
  | tup ds => simp only [Rep] at r; obtain ⟨a, vs, e, _⟩ := r; exact ⟨a, e⟩
  | _ => simp at hk
/-- what the entries stand for -/
structure KEnts (K : PySem.W.Frag) (m : M) (H : Hp) (ks ds : List D) (xs : List KEnt) : Prop where
  key : xs.map (·.1) = ks.map keyD
  ok : ks.all tupKey = true
  rk : RepL K m H ks (xs.map fun x => .ref x.2.1)
  rv : ∃ ws, RepL K m H ds ws ∧ Vals ws (xs.map (·.2.2))
theorem KEnts.nil : KEnts K m H [] [] [] := ⟨rfl, rfl, .nil, [], .nil, .nil⟩
theorem KEnts.mono {m' : M} {H' : Hp} {ks ds : List D} {xs : List KEnt} (f : Fr m H m' H') (h : KEnts K m H ks ds xs) : KEnts K m' H' ks ds xs :=
  let ⟨ws, a, b⟩ := h.rv
  ⟨h.key, h.ok, RepL.mono f _ _ h.rk, ws, RepL.mono f _ _ a, b⟩
theorem KEnts.is (hok : HOk P w H h) (kin : K.In h) : ∀ {ks ds : List D} {xs : List KEnt}, KEnts K m H ks ds xs → ∀ x ∈ xs, (nestedKind P w).is h x.1 x.2.1 := by
  intro ks ds xs hx
  have h1 := hx.key
  have h2 := hx.ok
  have h3 := hx.rk
  clear hx
  induction xs generalizing ks with
  | nil => intro x hx; simp at hx
  | cons x xs ih =>
    match ks, h1, h2, h3 with
    | [], h1, _, _ => simp at h1
    | k :: ks, h1, h2, h3 =>
      simp only [List.map_cons, List.cons.injEq] at h1
      simp only [List.all_cons, Bool.and_eq_true] at h2
      simp only [List.map_cons, RepL, List.cons.injEq] at h3
      obtain ⟨v, r, ⟨rfl, rfl⟩, r1, r2⟩ := h3
      intro y hy
      rcases List.mem_cons.mp hy with rfl | hy
      · rw [h1.1]; exact rep_tupKey hok kin h2.1 r1
      · exact ih h1.2 h2.2 r2 y hy
end
/-! d[k] = v -/
def kputK : List D → D → List D
  | [], k => [k]
  | x :: ks, k => if keyD x = keyD k then x :: ks else x :: kputK ks k
def kputV : List D → List D → D → D → List D
  | [], _, _, v => [v]
  | x :: ks, y :: vs, k, v => if keyD x = keyD k then v :: vs else y :: kputV ks vs k v
  | _ :: _, [], _, _ => []
theorem storedH_cons {x : KEnt} {xs : List KEnt} {k : NestedKey} {a : Addr} {u : Value} (nd : ((x :: xs).map (·.1)).Nodup) : storedH (x :: xs) k a u = if x.1 = k then (x.1, x.2.1, u) :: xs else x :: storedH xs k a u := by
  simp only [List.map_cons, List.nodup_cons] at nd
  by_cases h : x.1 = k
  · rw [if_pos h]
    have h1 : atKey (x :: xs) k = some (x.2.1, x.2.2) := by simp [atKey, h]
    rw [storedH_old h1]
    simp only [List.map_cons, putAt, if_pos h]
    congr 1
    refine (List.map_congr_left fun y hy => ?_).trans (List.map_id xs)
    have : ¬ y.1 = k := fun e => nd.1 (by rw [h, ← e]; exact List.mem_map.mpr ⟨y, hy, rfl⟩)
    exact if_neg this
  · rw [if_neg h]
    have e : atKey (x :: xs) k = atKey xs k := by simp [atKey, List.find?_cons, h]
    cases h2 : atKey xs k with
    | none => rw [storedH_new (e.trans h2), storedH_new h2]; rfl
    | some p =>
      rw [storedH_old (e.trans h2), storedH_old h2]
      simp only [List.map_cons, putAt, if_neg h]
theorem stored_nd {xs : List KEnt} {k : NestedKey} {a : Addr} {u : Value} (nd : (xs.map (·.1)).Nodup) : ((storedH xs k a u).map (·.1)).Nodup ∧ (storedH xs k a u).length ≤ xs.length + 1 := by
  cases h2 : atKey xs k with
  | none =>
    rw [storedH_new h2, List.map_append]
    refine ⟨?_, by simp⟩
    rw [List.nodup_append]
    refine ⟨nd, by simp, fun y hy z hz e => ?_⟩
    simp only [List.map_cons, List.map_nil, List.mem_singleton] at hz
    subst hz; subst e
    obtain ⟨x, hx, rfl⟩ := List.mem_map.mp hy
    unfold atKey at h2
    rw [Option.map_eq_none_iff, List.find?_eq_none] at h2
    exact h2 x hx (by simp)
  | some p =>
    rw [storedH_old h2, List.map_map]
    have : ((fun x : KEnt => x.1) ∘ putAt k u) = fun x => x.1 := by
      funext x; simp only [Function.comp, putAt]; split <;> rfl
    rw [this]
    exact ⟨nd, by simp⟩
section
variable {K : PySem.W.Frag} {m : M} {H : Hp}
theorem KEnts.put {k d : D} {a : Addr} {v : V} {u : Value} (hk : tupKey k = true) (rk : Rep K m H k (.ref a)) (rd : Rep K m H d v) (rv : RelV v u) : ∀ {xs : List KEnt} {ks ds : List D}, (xs.map (·.1)).Nodup → KEnts K m H ks ds xs →
    KEnts K m H (kputK ks k) (kputV ks ds k d) (storedH xs (keyD k) a u) := by
  intro xs
  induction xs with
  | nil =>
    intro ks ds _ h
    obtain ⟨h1, h2, h3, ws, h4, h5⟩ := h
    have e : ks = [] := by simpa using h1.symm
    subst e
    rw [storedH_new rfl]
    exact ⟨rfl, by simp [kputK, hk], .cons rk .nil, [v], .cons rd .nil, .cons rv .nil⟩
  | cons x xs ih =>
    intro ks ds nd h
    obtain ⟨h1, h2, h3, ws, h4, h5⟩ := h
    match ks, h1, h2, h3 with
    | [], h1, _, _ => simp at h1
    | k0 :: ks, h1, h2, h3 =>
      simp only [List.map_cons, List.cons.injEq] at h1
      simp only [List.all_cons, Bool.and_eq_true] at h2
      simp only [List.map_cons, RepL, List.cons.injEq] at h3
      obtain ⟨v0, r0, ⟨rfl, rfl⟩, r1, r2⟩ := h3
      simp only [List.map_cons] at h5
      cases h5 with
      | @cons w0 u0 wr ur g1 g2 =>
        match ds, h4 with
        | [], h4 => simp [RepL] at h4
        | d0 :: ds, h4 =>
          simp only [RepL, List.cons.injEq] at h4
          obtain ⟨v1, r3, ⟨rfl, rfl⟩, q1, q2⟩ := h4
          rw [storedH_cons nd]
          simp only [kputK, kputV]
          have nd2 : (xs.map (·.1)).Nodup := by
            simp only [List.map_cons, List.nodup_cons] at nd; exact nd.2
          by_cases e : keyD k0 = keyD k
          · rw [if_pos e, if_pos e, if_pos (h1.1.trans e)]
            refine ⟨by simp [h1.1, h1.2], by simp [h2.1, h2.2], .cons r1 r2, v :: wr, .cons rd q2, .cons rv g2⟩
          · rw [if_neg e, if_neg e, if_neg (fun z => e (h1.1.symm.trans z))]
            obtain ⟨i1, i2, i3, ws', i4, i5⟩ := ih nd2 ⟨h1.2, h2.2, r2, wr, q2, g2⟩
            refine ⟨by simp [h1.1, i1], by simp [h2.1, i2], ?_, w0 :: ws', .cons q1 i4, .cons g1 i5⟩
            exact .cons r1 i3
end
section
variable {X : Cx} {pins : List (Addr × Obj)} {σ : L2.St} {H : Hp} {s : Shared} {m : M} {ks ds : List D} {xs : List KEnt}
theorem kd_obj {P : Program} {w : World} {a : Addr} {h : Heap} {H : Hp} (x : ObjOk P w H h a (KdO P w a xs)) : (a == sysModules) = false ∧ xs.length ≤ sizeLine ∧ (xs.map (·.1)).Nodup ∧ ∃ o es ep, h.get? a = some o ∧ o.ExactDict ∧ o.data = .dict es ep ∧ es.toList = xs.map (entryOfKey (nestedKind P w)) := x.1
theorem kd_new {P : Program} {w : World} {a : Addr} {h : Heap} {H : Hp} (hs : (a == sysModules) = false) (hz : xs.length ≤ sizeLine) (nd : (xs.map (·.1)).Nodup) (x : ∃ o es ep, h.get? a = some o ∧ o.ExactDict ∧ o.data = .dict es ep ∧ es.toList = xs.map (entryOfKey (nestedKind P w))) : ObjOk P w H h a (KdO P w a xs) := by
  refine ⟨⟨hs, hz, nd, x⟩, ?_, ?_⟩
  · obtain ⟨o, _, _, e, _⟩ := x; exact ⟨o, e⟩
  · rintro h1 h2 ⟨a1, a2, a3, o, es, ep, e1, e2, e3, e4⟩ k
    exact ⟨a1, a2, a3, o, es, ep, k o e1, e2, e3, e4⟩
/-- as the library has it -/
theorem kd_dict (I : Inv X pins σ H s) {a : Addr} (hH : H a = some (KdO X.prog X.w a xs)) (he : KEnts X.K m H ks ds xs) : s.heap.DictOfH (nestedKind X.prog X.w) a xs := by
  obtain ⟨_, _, nd, o, es, ep, e1, e2, e3, e4⟩ := kd_obj (I.hok a _ hH)
  exact ⟨o, es, ep, e1, e2, e3, e4, he.is I.hok I.kIn, nd⟩
/-- d[k] = v -/
theorem kd_set {E : Value → Shared → Prop} {k d : D} {D b : Addr} {v : V} {u : Value} {Q : Unit → Shared → Prop} (I : Inv X pins σ H s) (hH : H D = some (KdO X.prog X.w D xs)) (he : KEnts X.K m H ks ds xs) (hu : X.A.units + 8 < cLine) (hk : tupKey k = true) (rk : Rep X.K m H k (.ref b)) (hz : xs.length < sizeLine)
    (h : ∀ s', Inv X pins σ (upd H D (KdO X.prog X.w D (storedH xs (keyD k) b u))) s' → Q () s') : wpAny (model X.prog X.w) X.A (dictSet D (.ref b) u) Q E s := by
  obtain ⟨hs, z, nd, _⟩ := kd_obj (I.hok D _ hH)
  have key := rep_tupKey (P := X.prog) (w := X.w) I.hok I.kIn hk rk
  refine wpAny_dictSet_heap (knd := nestedKind X.prog X.w) hu key (kd_dict I hH he) (fun h' dd sb => ?_) (Nat.le_of_lt hz)
  obtain ⟨o, es, ep, e1, e2, e3, e4, _, _⟩ := dd
  have sn := stored_nd (k := keyD k) (a := b) (u := u) nd
  exact h _ (d_write I (by rw [hH]; exact True.intro) sb ⟨o, e1⟩ (kd_new hs (by omega) sn.1 ⟨o, es, ep, e1, e2, e3, e4⟩))
end
end DL
/-! ### DL54: dict comprehensions whose keys are tuples: one for, two for -/
namespace DL
open PySem PySem.Spec PyProof.Rows L2
/-- a block's loop stands at some turn -/
def LpSt (Y : Cx) (π : List (Addr × Obj)) (ρ : L2.St) (fp : List Addr) (tn : Nat → Heap → Prop) (W : Nat → Nat → Hp → Prop) (n : Nat) (s : Shared) : Prop :=
  ∃ (i : Nat) (G : Hp), Inv Y π ρ G s ∧ tn i s.heap ∧ (∀ b ∈ fp, G b = none) ∧ W i n G
def knows (ρ σ : L2.St) : Prop := σ.length = ρ.length ∧ ∀ (j : Nat) (v : V), ρ[j]? = some (some v) → σ[j]? = some (some v)
theorem knows_wipe {ρ σ : L2.St} {vs : List Nat} (e : L2.wipe σ vs = ρ) : knows ρ σ := by
  subst e
  exact ⟨(wipe_length σ vs).symm, fun j v h => (wipe_some h).1⟩
/-- what one turn asks -/
def LpTurn (J : It) (g : TG) (tt : TT) (ρ : L2.St) (C : L2.St → Prop) (Z : Hp → Prop) (B : (Hp → Prop) → L2.St → Bool → Hp → Prop) (W : Nat → Nat → Hp → Prop) : Prop :=
  ∀ i n G, W i n G → (J.stop i G ∧ Z G) ∨ (J.go i G ∧ ∃ Nx : Hp → Prop, (∀ G', Nx G' → ∃ n', n' < n ∧ W (i + 1) n' G') ∧ ∀ x G', J.yld i G x G' → g x ρ G' fun σ2 G2 => C σ2 ∧ tt σ2 G2 fun b G3 => B Nx σ2 b G3)
theorem lp_turn {Y : Cx} {π : List (Addr × Obj)} {ρ : L2.St} {fp : List Addr} {tn : Nat → Heap → Prop} {W : Nat → Nat → Hp → Prop} {n : Nat} {s : Shared} {tg : Expr} {ifs : List Expr} {it : Addr} {J : It} {g : TG} {tt : TT} {C : L2.St → Prop} {Z : Hp → Prop}
    {B : (Hp → Prop) → L2.St → Bool → Hp → Prop} {E : Value → Shared → Prop} {Rn : Shared → Prop} {Kb : Bool → Shared → Prop} (hY : Y.calm = true) (hx : Y.xe = fun _ _ => False) (T : Turn Y.prog Y.w Y.K tg J fp it tn) (pg : PG Y tg g) (pt : PTs Y ifs tt)
    (stat : ∀ G : Hp, (∀ b ∈ fp, G b = none) → ∀ b ∈ fp, FpOk Y π G b) (turn : LpTurn J g tt ρ C Z B W) (h : LpSt Y π ρ fp tn W n s) (hn : ∀ G s1, Inv Y π ρ G s1 → Z G → Rn s1)
    (hb : ∀ (b : Bool) (σ2 : L2.St) (G3 : Hp) (s3 s7 : Shared) (Nx : Hp → Prop), Inv Y (π ++ pinsAt fp s7.heap) σ2 G3 s3 → C σ2 → B Nx σ2 b G3 →
      (∀ (s' : Shared) (G' : Hp) (σ' : L2.St), Inv Y (π ++ pinsAt fp s7.heap) σ' G' s' → knows ρ σ' → Nx G' → ∃ m, m < n ∧ LpSt Y π ρ fp tn W m s') → Kb b s3) :
    wpAny (model Y.prog Y.w) Y.A (pyNext (.ref it)) (fun r s1 => match r with
      | none => Rn s1
      | some v => wpAny (model Y.prog Y.w) Y.A (letOwnedTupleGo tg (.ref it) v) (fun _ s2 => wpAny (model Y.prog Y.w) Y.A (assign tg Y.env v) (fun _ s3 =>
          wpAny (model Y.prog Y.w) Y.A (forIn ifs true fun c r => if r = true then do let ok ← isTrue c Y.env (eval c Y.env); pure (ForInStep.yield ok) else pure (ForInStep.yield r)) Kb E s3) E s2) E s1) E s := by
  obtain ⟨i, G, I, st, nf, w⟩ := h
  have fz : ∀ {α : Type} {t : Sem α} {q : α → Shared → Prop} {z : Shared}, wpAny (model Y.prog Y.w) Y.A t q Y.xe z → wpAny (model Y.prog Y.w) Y.A t q (fun _ _ => False) z := fun {α t q z} hh => by rw [hx] at hh; exact hh
  rcases turn i n G w with ⟨stop, zz⟩ | ⟨go, Nx, hNx, step⟩
  · refine thnF (T.done Y rfl rfl rfl hY i π s ρ G (fun _ _ => False) I (stat G nf) st stop) ?_
    rintro r s1 ⟨rfl, I1⟩
    exact hn G s1 I1 zz
  · refine thnF (T.item Y rfl rfl rfl hY i π s ρ G (fun _ _ => False) I (stat G nf) st go) ?_
    rintro r s1 ⟨u, rfl, h1⟩
    refine thnF h1 ?_
    rintro _ s7 ⟨x, G7, I7, r7, y7, st7, n7⟩
    have I8 := I7.pinned (stat G7 n7) (T.obj _ _ st7)
    refine thnF (fz (pg.run _ s7 ρ G7 x u _ I8 r7 (step x G7 y7))) ?_
    rintro _ s8 ⟨σ8, G8, I9, c8, q8⟩
    refine thnF (fz (pt.run _ s8 σ8 G8 _ I9 q8)) ?_
    rintro b s9 ⟨G9, I10, q9⟩
    refine hb b σ8 G9 s9 s7 Nx I10 c8 q9 fun s' G' σ' I' kn nx => ?_
    obtain ⟨m', hm, w'⟩ := hNx G' nx
    have held : ∀ b ∈ fp, ∀ o, s7.heap.get? b = some o → s'.heap.get? b = some o ∧ G' b = none := by
      intro b hb o e
      have z := I'.pin (b, o) (List.mem_append_right _ (List.mem_append_right _ (mem_pinsAt hb e)))
      exact ⟨z.1, z.2.1⟩
    refine ⟨m', hm, i + 1, G', I'.unpinned.weak kn.1.symm kn.2, T.keep _ _ _ st7 fun b hb o e => (held b hb o e).1, fun b hb => ?_, w'⟩
    obtain ⟨o, e, _⟩ := T.obj _ _ st7 b hb
    exact (held b hb o e).2
section
variable {X : Cx} {pins : List (Addr × Obj)} {σ : L2.St} {H : Hp} {s : Shared}
/-- the beginning of a dict comprehension, whatever its clauses behind the first -/
theorem dcb {kx vx tg iter : Expr} {ifs : List Expr} {rest : List Comprehension} {scope : Scope} {own : List (Str × Nat)} {pos pos' : Pos} {wi : TI} {use : Option (Value → Sem Unit)} {Qf : Value → Shared → Prop} {RR : It → Hp → Prop} {Q : VK}
    (hN : X.N.Nodup) (I : Inv X pins σ H s) (hi : PI X tg iter wi) (ok : BlkOk X.N X.env.scope scope own) (hs : ∀ x, foldedSetIterable iter X.env x = pure x) (h : wi σ H RR)
    (hRR : ∀ D C s' m H', Inv X pins σ H' s' → Q (.ref D) H' → s'.heap.Ns C m → FpOk X pins H' C → compPost (model X.prog X.w) X.A X.xe use Qf (.ref D) C (.ok .next) s')
    (loop : ∀ (J : It) (H2 : Hp) (s3 s4 : Shared) (cl : List (Str × Addr)) (fp : List Addr) (tn : Nat → Heap → Prop) (it D : Addr), RR J H2 → H2 D = none → Turn X.prog X.w X.K tg J fp it tn →
      Inv (X.blk s3 (upd H2 D (KdO X.prog X.w D [])) scope (compEnvC scope cl s3.heap.objs.size X.env) fp) [] (L2.wipe σ (own.map (·.2))) (upd H2 D (KdO X.prog X.w D [])) s4 → tn 0 s4.heap → (∀ b ∈ fp, (upd H2 D (KdO X.prog X.w D [])) b = none) →
      (∀ (G : Hp) (π : List (Addr × Obj)) (σ' : L2.St) (s' : Shared), Inv (X.blk s3 (upd H2 D (KdO X.prog X.w D [])) scope (compEnvC scope cl s3.heap.objs.size X.env) fp) π σ' G s' → Q (.ref D) G → compPost (model X.prog X.w) X.A X.xe use Qf (.ref D) s3.heap.objs.size (.ok .next) s') →
      codeAny (model X.prog X.w) X.A (.compLoop (.DictComp kx vx (⟨tg, iter, ifs, 0⟩ :: rest) scope pos) 0 (.ref it) (.ref D) (compEnvC scope cl s3.heap.objs.size X.env)) (compPost (model X.prog X.w) X.A X.xe use Qf (.ref D) s3.heap.objs.size) s4) :
    wpAny (model X.prog X.w) X.A (comprehension (.DictComp kx vx (⟨tg, iter, ifs, 0⟩ :: rest) scope pos) scope X.env pos' newDict false (eval iter X.env) use) Qf X.xe s := by
  have hfr : ∀ y ∈ scope.names, y.2 = .free → ∃ c, X.env.cells.lookup y.1 = some c := by
    intro y hy e
    rcases ok.free y hy e with k | k
    · exact I.ok.has _ (.inl k)
    · exact I.ok.has _ (.inr k)
  refine wpAny_comprehension_free (use := use) rfl hs (closure_ok hfr) ok.kind (fun y hy e => by rw [ok.uniq y hy, e]) (thn (hi.run pins s σ H _ I h) ?_)
  intro xv s1 hx
  refine thn hx ?_
  rintro itv s2 ⟨it, fp, tn, J, H2, rfl, I2, T, st2, f2, q⟩
  refine wpAny_newObj_type (newEnv_comp ?_)
  have z0 : (s2.heap.objs.size == sysModules) = false := beq_eq_false_iff_ne.mpr (Nat.ne_of_lt I2.big).symm
  have new0 : ObjOk X.prog X.w (upd H2 s2.heap.objs.size (KdO X.prog X.w s2.heap.objs.size [])) (s2.heap.push { cls := .type "dict", data := .dict #[] }) s2.heap.objs.size (KdO X.prog X.w s2.heap.objs.size []) :=
    kd_new z0 (Nat.zero_le _) (by simp) ⟨_, _, _, Heap.get?_push_size _ rfl, ⟨rfl, rfl, rfl⟩, rfl, rfl⟩
  have I3' := I2.laid (t' := s2.toks) (fun b o e => Heap.get?_push_of_some _ e) (Nat.le_refl _) new0
  have hDn : H2 s2.heap.objs.size = none := I2.hok.fresh (Nat.le_refl _)
  have keep3 : ∀ b o, s2.heap.get? b = some o → (s2.heap.push { cls := .type "dict", data := .dict #[] }).get? b = some o := fun b o e => Heap.get?_push_of_some _ e
  have sz : ∀ b ∈ fp, b < s2.heap.objs.size := fun b hb => let ⟨o, e, _⟩ := T.obj _ _ st2 b hb; Heap.lt_size e
  have sz3 : ∀ b ∈ fp, b < (s2.heap.push { cls := .type "dict", data := .dict #[] }).objs.size := fun b hb => by rw [Heap.size_push]; exact Nat.lt_succ_of_lt (sz b hb)
  generalize hD : s2.heap.objs.size = D at hDn I3' sz
  generalize hh : s2.heap.push { cls := .type "dict", data := .dict #[] } = h3 at I3' keep3 sz3
  generalize hs3 : ({ s2 with heap := h3, toks := s2.toks } : Shared) = s3 at I3'
  have e3 : s3.heap = h3 := by rw [← hs3]
  have nfp : ∀ b ∈ fp, (upd H2 D (KdO X.prog X.w D [])) b = none := fun b hb => by
    rw [upd_ne (Nat.ne_of_lt (sz b hb))]; exact (f2 b hb).1
  have f3 : ∀ b ∈ fp, FpOk X pins (upd H2 D (KdO X.prog X.w D [])) b ∧ b < s3.heap.objs.size := fun b hb => ⟨⟨nfp b hb, (f2 b hb).2⟩, by rw [e3]; exact sz3 b hb⟩
  have I4 := block_start I3' ok hN f3
  have st4 : tn 0 (pushCells (s3.heap.push { cls := .type "dict", data := .dict #[] }) scope.names) := by
    refine T.keep _ _ _ st2 fun b _ o e => pushCells_keeps _ _ _ _ (Heap.get?_push_of_some _ ?_)
    rw [e3]; exact keep3 b o e
  have key := loop J H2 s3 _ (cellsFrom (s3.heap.objs.size + 1) scope.names (cloFrom X.env.cells scope.names [])) fp tn it D q hDn T I4 st4 nfp fun G π σ' s' I6 qq => by
    have I7 : Inv X pins σ G s' := I3'.call' (ch := fp) I6.os I6.base I6.hok I6.bare fun b hb => ⟨(f3 b hb).1.2.2.2.1, (f3 b hb).1.2.1, (f3 b hb).1.2.2.2.2.1, (f3 b hb).1.2.2.2.2.2⟩
    obtain ⟨mm, hn, _⟩ := I6.loc
    exact hRR D s3.heap.objs.size s' mm G I7 qq hn (I3'.fpOk (Nat.le_refl _) I6.free)
  have goal : codeAny (model X.prog X.w) X.A (.compStart (.DictComp kx vx (⟨tg, iter, ifs, 0⟩ :: rest) scope pos) 0 (.ref it) (.ref D) (compEnvC scope (cellsFrom (s3.heap.objs.size + 1) scope.names (cloFrom X.env.cells scope.names [])) s3.heap.objs.size X.env))
      (compPost (model X.prog X.w) X.A X.xe use Qf (.ref D) s3.heap.objs.size) { s3 with heap := pushCells (s3.heap.push { cls := .type "dict", data := .dict #[] }) scope.names } :=
    codeAny_compStart_dict key (T.self X.A 0 _ _ _ st4 key)
  exact goal
/-- what the reading of one for asks -/
def tDcK (P : Program) (w : World) (wi : TI) (g : TG) (tt : TT) (tk tv : TE) (put : Hp → Addr → V → V → (Hp → Prop) → Prop) (vs : List Nat) : TE := fun σ H Q => wi σ H fun J H1 => ∀ D, H1 D = none → ∃ W : Nat → Nat → Hp → Prop, (∃ n, W 0 n (upd H1 D (KdO P w D []))) ∧
  LpTurn J g tt (L2.wipe σ vs) (fun σ2 => L2.wipe σ2 vs = L2.wipe σ vs) (fun G => Q (.ref D) G) (fun Nx σ2 b G => if b = true then tk σ2 G fun y G2 => tv σ2 G2 fun z G3 => put G3 D y z Nx else Nx G) W
/-- a store of a comprehension -/
def PutOk (Y : Cx) (put : Hp → Addr → V → V → (Hp → Prop) → Prop) : Prop := ∀ (π : List (Addr × Obj)) (ρ : L2.St) (G : Hp) (s : Shared) (D : Addr) (y z : V) (u r : Value) (N : Hp → Prop) (Q : Unit → Shared → Prop) (E : Value → Shared → Prop), Inv Y π ρ G s → RelV y u → RelV z r → put G D y z N →
  (∀ s' G', Inv Y π ρ G' s' → N G' → Q () s') → wpAny (model Y.prog Y.w) Y.A (dictSet D u r) Q E s
theorem thnX {Y : Cx} {α : Type} {t : Sem α} {q q' : α → Shared → Prop} {E : Value → Shared → Prop} {z : Shared} (hx : Y.xe = fun _ _ => False) (h : wpAny (model Y.prog Y.w) Y.A t q Y.xe z) (k : ∀ a s, q a s → q' a s) : wpAny (model Y.prog Y.w) Y.A t q' E z := by
  rw [hx] at h
  exact thnF h k
theorem dck_core {kx vx tg iter : Expr} {ifs : List Expr} {scope : Scope} {own : List (Str × Nat)} {pos : Pos} {wi : TI} {g : TG} {tt : TT} {tk tv : TE} {put : Hp → Addr → V → V → (Hp → Prop) → Prop} {pos' : Pos} {use : Option (Value → Sem Unit)} {Qf : Value → Shared → Prop} {Q : VK} (hc : X.calm = true) (hN : X.N.Nodup) (I : Inv X pins σ H s) (hi : PI X tg iter wi) (ok : BlkOk X.N X.env.scope scope own)
    (hg : ∀ (s : Shared) (H : Hp) (C : Addr) (cl : List (Str × Addr)) (fp : List Addr), PG (X.blk s H scope (compEnvC scope cl C X.env) fp) tg g) (ht : ∀ (s : Shared) (H : Hp) (C : Addr) (cl : List (Str × Addr)) (fp : List Addr), PTs (X.blk s H scope (compEnvC scope cl C X.env) fp) ifs tt)
    (hk : ∀ (s : Shared) (H : Hp) (C : Addr) (cl : List (Str × Addr)) (fp : List Addr), PE (X.blk s H scope (compEnvC scope cl C X.env) fp) kx tk) (hv : ∀ (s : Shared) (H : Hp) (C : Addr) (cl : List (Str × Addr)) (fp : List Addr), PE (X.blk s H scope (compEnvC scope cl C X.env) fp) vx tv)
    (hp : ∀ (s : Shared) (H : Hp) (C : Addr) (cl : List (Str × Addr)) (fp : List Addr), PutOk (X.blk s H scope (compEnvC scope cl C X.env) fp) put) (hs : ∀ x, foldedSetIterable iter X.env x = pure x)
    (h : tDcK X.prog X.w wi g tt tk tv put (own.map (·.2)) σ H Q) (hRR : ∀ D C s' m H', Inv X pins σ H' s' → Q (.ref D) H' → s'.heap.Ns C m → FpOk X pins H' C → compPost (model X.prog X.w) X.A X.xe use Qf (.ref D) C (.ok .next) s') :
    wpAny (model X.prog X.w) X.A (comprehension (.DictComp kx vx [⟨tg, iter, ifs, 0⟩] scope pos) scope X.env pos' newDict false (eval iter X.env) use) Qf X.xe s := by
  refine dcb hN I hi ok hs h (Q := Q) hRR fun J H2 s3 s4 cl fp tn it D q hDn T I4 st4 nfp back => ?_
  obtain ⟨W, ⟨n0, w0⟩, turn⟩ := q D hDn
  have stat : ∀ (G : Hp), (∀ b ∈ fp, G b = none) → ∀ b ∈ fp, FpOk (X.blk s3 (upd H2 D (KdO X.prog X.w D [])) scope (compEnvC scope cl s3.heap.objs.size X.env) fp) [] G b := fun G hn b hb =>
    ⟨hn b hb, (I4.ok.exf b hb).1, I4.ok.exfs b hb, .inl hb, fun x c e => (I4.ok.exf b hb).2 x c e, fun p hp => absurd (show p ∈ ([] : List (Addr × Obj)) ++ [] from hp) (by simp)⟩
  refine compLoop_anyD (LpSt (X.blk s3 (upd H2 D (KdO X.prog X.w D [])) scope (compEnvC scope cl s3.heap.objs.size X.env) fp) [] (L2.wipe σ (own.map (·.2))) fp tn W) (fun n s5 h5 => ?_) n0 ⟨0, _, I4, st4, nfp, w0⟩
  refine lp_turn (Y := (X.blk s3 (upd H2 D (KdO X.prog X.w D [])) scope (compEnvC scope cl s3.heap.objs.size X.env) fp)) hc rfl T (hg _ _ _ _ _) (ht _ _ _ _ _) stat turn h5 (fun G s1 I5 zz => back G _ _ s1 I5 zz) fun b σ2 G3 s6 s7 Nx I6 c6 q6 fin => ?_
  have kn := knows_wipe c6
  cases b with
  | false =>
    simp only [Bool.false_eq_true, if_false] at q6 ⊢
    exact fin s6 G3 σ2 I6 kn q6
  | true =>
    simp only [if_true] at q6 ⊢
    refine thnX (Y := (X.blk s3 (upd H2 D (KdO X.prog X.w D [])) scope (compEnvC scope cl s3.heap.objs.size X.env) fp)) rfl ((hk _ _ _ _ _).run _ s6 σ2 G3 _ I6 q6) ?_
    rintro kv s8 ⟨y, G8, I8, r8, q8⟩
    refine thnX (Y := (X.blk s3 (upd H2 D (KdO X.prog X.w D [])) scope (compEnvC scope cl s3.heap.objs.size X.env) fp)) rfl ((hv _ _ _ _ _).run _ s8 σ2 G8 _ I8 q8) ?_
    rintro vv s9 ⟨z, G9, I9, r9, q9⟩
    exact hp _ _ _ _ _ _ _ _ _ D y z kv vv Nx _ _ I9 r8 r9 q9 fun s' G' I' nx => fin s' G' σ2 I' kn nx
/-- .. of two for -/
def tDcK2 (P : Program) (w : World) (wi : TI) (g : TG) (tt : TT) (wi1 : TI) (g1 : TG) (tt1 : TT) (tk tv : TE) (put : Hp → Addr → V → V → (Hp → Prop) → Prop) (vs vs1 : List Nat) : TE := fun σ H Q => wi σ H fun J H1 => ∀ D, H1 D = none → ∃ W : Nat → Nat → Hp → Prop, (∃ n, W 0 n (upd H1 D (KdO P w D []))) ∧
  LpTurn J g tt (L2.wipe σ vs) (fun σ2 => L2.wipe σ2 vs = L2.wipe σ vs) (fun G => Q (.ref D) G) (fun Nx σ2 b G => if b = true then wi1 σ2 G fun J1 G1 => ∃ W1 : Nat → Nat → Hp → Prop, (∃ n, W1 0 n G1) ∧
    LpTurn J1 g1 tt1 (L2.wipe σ2 vs1) (fun σ3 => L2.wipe σ3 vs1 = L2.wipe σ2 vs1) Nx (fun Nx1 σ3 b G => if b = true then tk σ3 G fun y G2 => tv σ3 G2 fun z G3 => put G3 D y z Nx1 else Nx1 G) W1 else Nx G) W
end
section
variable {prog : Program} {w : World} {A : Around} {R : Result → Shared → Prop} {s : Shared} {kx vx t0 i0 t1 i1 : Expr} {ifs0 ifs1 : List Expr} {scope : Scope} {pos : Pos} {it : Value} {D : Addr} {env : PySem.Env}
theorem dturn_out : compTurn (.DictComp kx vx [⟨t0, i0, ifs0, 0⟩, ⟨t1, i1, ifs1, 0⟩] scope pos) 0 it (.ref D) env = (do
    standAt i0.pos
    let r ← pyNext it
    match r with
    | none => pure (.done .next)
    | some v =>
      letOwnedTupleGo t0 it v; assign t0 env v
      let mut ok := true
      for c in ifs0 do
        if ok then ok ← isTrue c env (eval c env)
      if ok then
        let x ← eval i1 env; standAt i1.pos
        let x ← foldedSetIterable i1 env x
        let _ ← runOwn (.compStart (.DictComp kx vx [⟨t0, i0, ifs0, 0⟩, ⟨t1, i1, ifs1, 0⟩] scope pos) 1 (← holding [x] (pyIter x)) (.ref D) env) env
      again (.compLoop (.DictComp kx vx [⟨t0, i0, ifs0, 0⟩, ⟨t1, i1, ifs1, 0⟩] scope pos) 0 it (.ref D) env)) := by rfl
theorem dturn_in : compTurn (.DictComp kx vx [⟨t0, i0, ifs0, 0⟩, ⟨t1, i1, ifs1, 0⟩] scope pos) 1 it (.ref D) env = (do
    standAt i1.pos
    let r ← pyNext it
    match r with
    | none => pure (.done .next)
    | some v =>
      letOwnedTupleGo t1 it v; assign t1 env v
      let mut ok := true
      for c in ifs1 do
        if ok then ok ← isTrue c env (eval c env)
      if ok then
        (do
          let kv ← eval kx env
          let vv ← holding [kv] (eval vx env)
          standAt { kx.pos with endLine := vx.pos.endLine, endCol := vx.pos.endCol }; holding [kv, vv] (dictSet D kv vv))
      again (.compLoop (.DictComp kx vx [⟨t0, i0, ifs0, 0⟩, ⟨t1, i1, ifs1, 0⟩] scope pos) 1 it (.ref D) env)) := by rfl
/-- the loop of the first for -/
theorem dloop_out (hs : ∀ x, foldedSetIterable i1 env x = pure x) (J : Nat → Shared → Prop) (turn : ∀ n s, J n s → wpAny (model prog w) A (pyNext it) (fun r s1 => match r with
      | none => R (.ok .next) s1
      | some v => wpAny (model prog w) A (letOwnedTupleGo t0 it v) (fun _ s2 => wpAny (model prog w) A (assign t0 env v) (fun _ s3 =>
          wpAny (model prog w) A (forIn ifs0 true fun c r => if r = true then do let ok ← isTrue c env (eval c env); pure (ForInStep.yield ok) else pure (ForInStep.yield r)) (fun ok s4 =>
            if ok = true then wpAny (model prog w) A (eval i1 env) (fun x s5 => wpAny (model prog w) A (pyIter x) (fun it1 s6 => codeAny (model prog w) A (.compStart (.DictComp kx vx [⟨t0, i0, ifs0, 0⟩, ⟨t1, i1, ifs1, 0⟩] scope pos) 1 it1 (.ref D) env)
              (fun r s' => match r with
                | .ok _ => ∃ m, m < n ∧ J m s'
                | .error _ => False) s6) (notedBy (model prog w) A env fun e s' => R (.error e) s') s5) (notedBy (model prog w) A env fun e s' => R (.error e) s') s4
            else ∃ m, m < n ∧ J m s4) (notedBy (model prog w) A env fun e s' => R (.error e) s') s3) (notedBy (model prog w) A env fun e s' => R (.error e) s') s2) (notedBy (model prog w) A env fun e s' => R (.error e) s') s1)
      (notedBy (model prog w) A env fun e s' => R (.error e) s') s) (n : Nat) (h : J n s) : codeAny (model prog w) A (.compLoop (.DictComp kx vx [⟨t0, i0, ifs0, 0⟩, ⟨t1, i1, ifs1, 0⟩] scope pos) 0 it (.ref D) env) R s := by
  refine codeAny_loop rfl J (fun n s hJ => ?_) n h
  show wpAny _ A (Sem.onRaise (compTurn (.DictComp kx vx [⟨t0, i0, ifs0, 0⟩, ⟨t1, i1, ifs1, 0⟩] scope pos) 0 it (.ref D) env) (fun x => do noteFrame x env; theTreesLotGoes x)) _ _ s
  refine wpAny_noted ?_
  rw [dturn_out]
  refine wpAny_bind (wpAny_standAt (wpAny_bind (wpAny_mono (turn n s hJ) ?_ fun _ _ z => z)))
  rintro (_ | v) s1 h1
  · exact wpAny_pure h1
  · refine wpAny_bind (wpAny_mono h1 ?_ fun _ _ z => z)
    intro _ s2 h2
    refine wpAny_bind (wpAny_mono h2 ?_ fun _ _ z => z)
    intro _ s3 h3
    refine wpAny_bind (wpAny_mono h3 ?_ fun _ _ z => z)
    rintro (_ | _) s4 h4
    · exact wpAny_pure ⟨rfl, h4⟩
    · refine wpAny_bind (wpAny_mono h4 ?_ fun _ _ z => z)
      intro x s5 h5
      refine wpAny_bind (wpAny_standAt (wpAny_bind (wpAny_of_eq (hs x) (wpAny_bind (wpAny_holding (wpAny_mono h5 ?_ fun _ _ z => z))))))
      intro it1 s6 h6
      refine wpAny_bind (wpAny_runOwn ?_)
      rw [Around.mark_none]
      refine codeAny_mono h6 ?_
      rintro (e | f) s7 h7
      · exact h7.elim
      · first
          | exact wpAny_pure ⟨rfl, h7⟩
          | exact wpAny_bind (wpAny_pure (wpAny_pure ⟨rfl, h7⟩))
/-- of the second -/
theorem dloop_in (J : Nat → Shared → Prop) (turn : ∀ n s, J n s → wpAny (model prog w) A (pyNext it) (fun r s1 => match r with
      | none => R (.ok .next) s1
      | some v => wpAny (model prog w) A (letOwnedTupleGo t1 it v) (fun _ s2 => wpAny (model prog w) A (assign t1 env v) (fun _ s3 =>
          wpAny (model prog w) A (forIn ifs1 true fun c r => if r = true then do let ok ← isTrue c env (eval c env); pure (ForInStep.yield ok) else pure (ForInStep.yield r)) (fun ok s4 =>
            if ok = true then wpAny (model prog w) A (eval kx env) (fun kv s5 => wpAny (model prog w) A (eval vx env) (fun vv s6 => wpAny (model prog w) A (dictSet D kv vv) (fun _ s7 => ∃ m, m < n ∧ J m s7)
              (notedBy (model prog w) A env fun e s' => R (.error e) s') s6) (notedBy (model prog w) A env fun e s' => R (.error e) s') s5) (notedBy (model prog w) A env fun e s' => R (.error e) s') s4
            else ∃ m, m < n ∧ J m s4) (notedBy (model prog w) A env fun e s' => R (.error e) s') s3) (notedBy (model prog w) A env fun e s' => R (.error e) s') s2) (notedBy (model prog w) A env fun e s' => R (.error e) s') s1)
      (notedBy (model prog w) A env fun e s' => R (.error e) s') s) (n : Nat) (h : J n s) : codeAny (model prog w) A (.compLoop (.DictComp kx vx [⟨t0, i0, ifs0, 0⟩, ⟨t1, i1, ifs1, 0⟩] scope pos) 1 it (.ref D) env) R s := by
  refine codeAny_loop rfl J (fun n s hJ => ?_) n h
  show wpAny _ A (Sem.onRaise (compTurn (.DictComp kx vx [⟨t0, i0, ifs0, 0⟩, ⟨t1, i1, ifs1, 0⟩] scope pos) 1 it (.ref D) env) (fun x => do noteFrame x env; theTreesLotGoes x)) _ _ s
  refine wpAny_noted ?_
  rw [dturn_in]
  refine wpAny_bind (wpAny_standAt (wpAny_bind (wpAny_mono (turn n s hJ) ?_ fun _ _ z => z)))
  rintro (_ | v) s1 h1
  · exact wpAny_pure h1
  · refine wpAny_bind (wpAny_mono h1 ?_ fun _ _ z => z)
    intro _ s2 h2
    refine wpAny_bind (wpAny_mono h2 ?_ fun _ _ z => z)
    intro _ s3 h3
    refine wpAny_bind (wpAny_mono h3 ?_ fun _ _ z => z)
    rintro (_ | _) s4 h4
    · exact wpAny_pure ⟨rfl, h4⟩
    · refine wpAny_bind (wpAny_bind (wpAny_mono h4 ?_ fun _ _ z => z))
      intro kv s5 h5
      refine wpAny_bind (wpAny_holding (wpAny_mono h5 ?_ fun _ _ z => z))
      intro vv s6 h6
      refine wpAny_bind (wpAny_standAt (wpAny_holding (wpAny_mono h6 ?_ fun _ _ z => z)))
      intro _ s7 h7
      exact wpAny_pure ⟨rfl, h7⟩
/-- the start of the second -/
theorem dstart_in (h0 : codeAny (model prog w) A (.compLoop (.DictComp kx vx [⟨t0, i0, ifs0, 0⟩, ⟨t1, i1, ifs1, 0⟩] scope pos) 1 it (.ref D) env) R s)
    (h : wpAny (model prog w) A (pyIter it) (fun it' s' => codeAny (model prog w) A (.compLoop (.DictComp kx vx [⟨t0, i0, ifs0, 0⟩, ⟨t1, i1, ifs1, 0⟩] scope pos) 1 it' (.ref D) env) R s') (notedBy (model prog w) A env fun x s' => R (.error x) s') s) :
    codeAny (model prog w) A (.compStart (.DictComp kx vx [⟨t0, i0, ifs0, 0⟩, ⟨t1, i1, ifs1, 0⟩] scope pos) 1 it (.ref D) env) R s := by
  refine codeAny_of_tree ?_
  show wpAny _ _ (Sem.onRaise (compStart (.DictComp kx vx [⟨t0, i0, ifs0, 0⟩, ⟨t1, i1, ifs1, 0⟩] scope pos) 1 it (.ref D) env) (fun x => do noteFrame x env; standAt theWindowsPlace)) _ _ s
  refine wpAny_notedAt ?_
  unfold compStart
  show wpAny _ _ (ask >>= _) _ _ s
  refine wpAny_bind (wpAny_askSetting (wpAny_ite ?_))
  split
  · first
      | exact wpAny_bind (wpAny_pure (wpAny_pure ⟨rfl, h0⟩))
      | exact wpAny_pure ⟨rfl, h0⟩
  · refine wpAny_bind (wpAny_rule ?_)
    show wpAny _ _ (standAt i1.pos >>= _) _ _ s
    refine wpAny_bind (wpAny_standAt (wpAny_bind (wpAny_mono h ?_ fun _ _ x => x)))
    intro it' s' h'
    exact wpAny_pure ⟨rfl, h'⟩
end
section
variable {X : Cx} {pins : List (Addr × Obj)} {σ : L2.St} {H : Hp} {s : Shared}
theorem dck2_core {kx vx tg iter tg1 iter1 : Expr} {ifs ifs1 : List Expr} {scope : Scope} {own : List (Str × Nat)} {vs1 : List Nat} {pos : Pos} {wi wi1 : TI} {g g1 : TG} {tt tt1 : TT} {tk tv : TE} {put : Hp → Addr → V → V → (Hp → Prop) → Prop} {pos' : Pos} {use : Option (Value → Sem Unit)} {Qf : Value → Shared → Prop} {Q : VK} (hc : X.calm = true) (hN : X.N.Nodup) (I : Inv X pins σ H s) (hi : PI X tg iter wi) (ok : BlkOk X.N X.env.scope scope own)
    (hg : ∀ (s : Shared) (H : Hp) (C : Addr) (cl : List (Str × Addr)) (fp : List Addr), PG (X.blk s H scope (compEnvC scope cl C X.env) fp) tg g) (ht : ∀ (s : Shared) (H : Hp) (C : Addr) (cl : List (Str × Addr)) (fp : List Addr), PTs (X.blk s H scope (compEnvC scope cl C X.env) fp) ifs tt)
    (hk : ∀ (s : Shared) (H : Hp) (C : Addr) (cl : List (Str × Addr)) (fp : List Addr), PE (X.blk s H scope (compEnvC scope cl C X.env) fp) kx tk) (hv : ∀ (s : Shared) (H : Hp) (C : Addr) (cl : List (Str × Addr)) (fp : List Addr), PE (X.blk s H scope (compEnvC scope cl C X.env) fp) vx tv)
    (hp : ∀ (s : Shared) (H : Hp) (C : Addr) (cl : List (Str × Addr)) (fp : List Addr), PutOk (X.blk s H scope (compEnvC scope cl C X.env) fp) put)
    (hi1 : ∀ (s : Shared) (H : Hp) (C : Addr) (cl : List (Str × Addr)) (fp : List Addr), PI (X.blk s H scope (compEnvC scope cl C X.env) fp) tg1 iter1 wi1) (hg1 : ∀ (s : Shared) (H : Hp) (C : Addr) (cl : List (Str × Addr)) (fp : List Addr), PG (X.blk s H scope (compEnvC scope cl C X.env) fp) tg1 g1)
    (ht1 : ∀ (s : Shared) (H : Hp) (C : Addr) (cl : List (Str × Addr)) (fp : List Addr), PTs (X.blk s H scope (compEnvC scope cl C X.env) fp) ifs1 tt1) (hvo : ∀ i ∈ vs1, i ∈ own.map (·.2)) (hs : ∀ x, foldedSetIterable iter X.env x = pure x) (hs1 : ∀ env x, foldedSetIterable iter1 env x = pure x)
    (h : tDcK2 X.prog X.w wi g tt wi1 g1 tt1 tk tv put (own.map (·.2)) vs1 σ H Q) (hRR : ∀ D C s' m H', Inv X pins σ H' s' → Q (.ref D) H' → s'.heap.Ns C m → FpOk X pins H' C → compPost (model X.prog X.w) X.A X.xe use Qf (.ref D) C (.ok .next) s') :
    wpAny (model X.prog X.w) X.A (comprehension (.DictComp kx vx [⟨tg, iter, ifs, 0⟩, ⟨tg1, iter1, ifs1, 0⟩] scope pos) scope X.env pos' newDict false (eval iter X.env) use) Qf X.xe s := by
  refine dcb hN I hi ok hs h (Q := Q) hRR fun J H2 s3 s4 cl fp tn it D q hDn T I4 st4 nfp back => ?_
  obtain ⟨W, ⟨n0, w0⟩, turn⟩ := q D hDn
  have stat : ∀ (G : Hp), (∀ b ∈ fp, G b = none) → ∀ b ∈ fp, FpOk (X.blk s3 (upd H2 D (KdO X.prog X.w D [])) scope (compEnvC scope cl s3.heap.objs.size X.env) fp) [] G b := fun G hn b hb =>
    ⟨hn b hb, (I4.ok.exf b hb).1, I4.ok.exfs b hb, .inl hb, fun x c e => (I4.ok.exf b hb).2 x c e, fun p hp => absurd (show p ∈ ([] : List (Addr × Obj)) ++ [] from hp) (by simp)⟩
  refine dloop_out (hs1 _) (LpSt (X.blk s3 (upd H2 D (KdO X.prog X.w D [])) scope (compEnvC scope cl s3.heap.objs.size X.env) fp) [] (L2.wipe σ (own.map (·.2))) fp tn W) (fun n s5 h5 => ?_) n0 ⟨0, _, I4, st4, nfp, w0⟩
  refine lp_turn (Y := (X.blk s3 (upd H2 D (KdO X.prog X.w D [])) scope (compEnvC scope cl s3.heap.objs.size X.env) fp)) hc rfl T (hg _ _ _ _ _) (ht _ _ _ _ _) stat turn h5 (fun G s1 I5 zz => back G _ _ s1 I5 zz) fun b σ2 G3 s6 s7 Nx I6 c6 q6 fin => ?_
  have kn := knows_wipe c6
  cases b with
  | false =>
    simp only [Bool.false_eq_true, if_false] at q6 ⊢
    exact fin s6 G3 σ2 I6 kn q6
  | true =>
    simp only [if_true] at q6 ⊢
    refine thnX (Y := (X.blk s3 (upd H2 D (KdO X.prog X.w D [])) scope (compEnvC scope cl s3.heap.objs.size X.env) fp)) rfl ((hi1 _ _ _ _ _).run _ s6 σ2 G3 _ I6 q6) ?_
    intro xv s8 hx
    refine thnX (Y := (X.blk s3 (upd H2 D (KdO X.prog X.w D [])) scope (compEnvC scope cl s3.heap.objs.size X.env) fp)) rfl hx ?_
    rintro itv s9 ⟨it1, fp1, tn1, J1, H9, rfl, I9, T1, st9, f9, W1, ⟨n1, w1⟩, turn1⟩
    have kn1 : knows (L2.wipe σ (own.map (·.2))) (L2.wipe σ2 vs1) := by
      refine ⟨by rw [wipe_length]; exact kn.1, fun j v e => ?_⟩
      have := c6
      rw [← c6] at e
      obtain ⟨a1, a2⟩ := wipe_some e
      rw [wipe_out fun z => a2 (hvo j z)]
      exact a1
    have loop1 : codeAny (model X.prog X.w) X.A (.compLoop (.DictComp kx vx [⟨tg, iter, ifs, 0⟩, ⟨tg1, iter1, ifs1, 0⟩] scope pos) 1 (.ref it1) (.ref D) (compEnvC scope cl s3.heap.objs.size X.env)) (fun r s' => match r with
        | .ok _ => ∃ m, m < n ∧ LpSt (X.blk s3 (upd H2 D (KdO X.prog X.w D [])) scope (compEnvC scope cl s3.heap.objs.size X.env) fp) [] (L2.wipe σ (own.map (·.2))) fp tn W m s'
        | .error _ => False) s9 := by
      refine dloop_in (LpSt (X.blk s3 (upd H2 D (KdO X.prog X.w D [])) scope (compEnvC scope cl s3.heap.objs.size X.env) fp) ([] ++ pinsAt fp s7.heap) (L2.wipe σ2 vs1) fp1 tn1 W1) (fun k s10 h10 => ?_) n1 ⟨0, H9, I9.weak (wipe_length _ _) (fun j v e => (wipe_some e).1), st9, fun b hb => (f9 b hb).1, w1⟩
      refine lp_turn (Y := (X.blk s3 (upd H2 D (KdO X.prog X.w D [])) scope (compEnvC scope cl s3.heap.objs.size X.env) fp)) hc rfl T1 (hg1 _ _ _ _ _) (ht1 _ _ _ _ _) (fun G hn b hb => ⟨hn b hb, (f9 b hb).2⟩) turn1 h10 (fun G s1 I5 zz => fin s1 G _ I5 kn1 zz) fun b σ3 G4 s11 s12 Nx1 I11 c11 q11 fin1 => ?_
      have kn3 := knows_wipe c11
      cases b with
      | false =>
        simp only [Bool.false_eq_true, if_false] at q11 ⊢
        exact fin1 s11 G4 σ3 I11 kn3 q11
      | true =>
        simp only [if_true] at q11 ⊢
        refine thnX (Y := (X.blk s3 (upd H2 D (KdO X.prog X.w D [])) scope (compEnvC scope cl s3.heap.objs.size X.env) fp)) rfl ((hk _ _ _ _ _).run _ s11 σ3 G4 _ I11 q11) ?_
        rintro kv s13 ⟨y, G8, I8, r8, q8⟩
        refine thnX (Y := (X.blk s3 (upd H2 D (KdO X.prog X.w D [])) scope (compEnvC scope cl s3.heap.objs.size X.env) fp)) rfl ((hv _ _ _ _ _).run _ s13 σ3 G8 _ I8 q8) ?_
        rintro vv s14 ⟨z, G9, I9, r9, q9⟩
        exact hp _ _ _ _ _ _ _ _ _ D y z kv vv Nx1 _ _ I9 r8 r9 q9 fun s' G' I' nx => fin1 s' G' σ3 I' kn3 nx
    exact dstart_in loop1 (T1.self X.A 0 _ _ _ st9 loop1)
/-- as values -/
theorem pe_dcK {kx vx tg iter : Expr} {ifs : List Expr} {scope : Scope} {own : List (Str × Nat)} {pos : Pos} {wi : TI} {g : TG} {tt : TT} {tk tv : TE} {put : Hp → Addr → V → V → (Hp → Prop) → Prop} (hc : X.calm = true) (hN : X.N.Nodup) (hi : PI X tg iter wi) (ok : BlkOk X.N X.env.scope scope own)
    (hg : ∀ (s : Shared) (H : Hp) (C : Addr) (cl : List (Str × Addr)) (fp : List Addr), PG (X.blk s H scope (compEnvC scope cl C X.env) fp) tg g) (ht : ∀ (s : Shared) (H : Hp) (C : Addr) (cl : List (Str × Addr)) (fp : List Addr), PTs (X.blk s H scope (compEnvC scope cl C X.env) fp) ifs tt)
    (hk : ∀ (s : Shared) (H : Hp) (C : Addr) (cl : List (Str × Addr)) (fp : List Addr), PE (X.blk s H scope (compEnvC scope cl C X.env) fp) kx tk) (hv : ∀ (s : Shared) (H : Hp) (C : Addr) (cl : List (Str × Addr)) (fp : List Addr), PE (X.blk s H scope (compEnvC scope cl C X.env) fp) vx tv)
    (hp : ∀ (s : Shared) (H : Hp) (C : Addr) (cl : List (Str × Addr)) (fp : List Addr), PutOk (X.blk s H scope (compEnvC scope cl C X.env) fp) put) (hs : ∀ x, foldedSetIterable iter X.env x = pure x := by intro _; rfl) : PE X (.DictComp kx vx [⟨tg, iter, ifs, 0⟩] scope pos) (tDcK X.prog X.w wi g tt tk tv put (own.map (·.2))) := by
  refine ⟨fun pins s σ H Q I h => ?_⟩
  rw [arm_eval_DictComp]
  refine dck_core hc hN I hi ok hg ht hk hv hp hs h fun D C s' m H' I' q hn f => ⟨m, hn, fun h'' sb => ?_⟩
  obtain ⟨f0, f1, _, f3, f4, f5⟩ := f
  exact ⟨.ref D, H', I'.turned (t' := s'.toks) (fun b o hb e => (sb.2 b hb).trans e) f0 f1 f3 f4 f5, rfl, q⟩
theorem pe_dcK2 {kx vx tg iter tg1 iter1 : Expr} {ifs ifs1 : List Expr} {scope : Scope} {own : List (Str × Nat)} {vs1 : List Nat} {pos : Pos} {wi wi1 : TI} {g g1 : TG} {tt tt1 : TT} {tk tv : TE} {put : Hp → Addr → V → V → (Hp → Prop) → Prop} (hc : X.calm = true) (hN : X.N.Nodup) (hi : PI X tg iter wi) (ok : BlkOk X.N X.env.scope scope own)
    (hg : ∀ (s : Shared) (H : Hp) (C : Addr) (cl : List (Str × Addr)) (fp : List Addr), PG (X.blk s H scope (compEnvC scope cl C X.env) fp) tg g) (ht : ∀ (s : Shared) (H : Hp) (C : Addr) (cl : List (Str × Addr)) (fp : List Addr), PTs (X.blk s H scope (compEnvC scope cl C X.env) fp) ifs tt)
    (hk : ∀ (s : Shared) (H : Hp) (C : Addr) (cl : List (Str × Addr)) (fp : List Addr), PE (X.blk s H scope (compEnvC scope cl C X.env) fp) kx tk) (hv : ∀ (s : Shared) (H : Hp) (C : Addr) (cl : List (Str × Addr)) (fp : List Addr), PE (X.blk s H scope (compEnvC scope cl C X.env) fp) vx tv)
    (hp : ∀ (s : Shared) (H : Hp) (C : Addr) (cl : List (Str × Addr)) (fp : List Addr), PutOk (X.blk s H scope (compEnvC scope cl C X.env) fp) put)
    (hi1 : ∀ (s : Shared) (H : Hp) (C : Addr) (cl : List (Str × Addr)) (fp : List Addr), PI (X.blk s H scope (compEnvC scope cl C X.env) fp) tg1 iter1 wi1) (hg1 : ∀ (s : Shared) (H : Hp) (C : Addr) (cl : List (Str × Addr)) (fp : List Addr), PG (X.blk s H scope (compEnvC scope cl C X.env) fp) tg1 g1)
    (ht1 : ∀ (s : Shared) (H : Hp) (C : Addr) (cl : List (Str × Addr)) (fp : List Addr), PTs (X.blk s H scope (compEnvC scope cl C X.env) fp) ifs1 tt1) (hvo : ∀ i ∈ vs1, i ∈ own.map (·.2)) (hs : ∀ x, foldedSetIterable iter X.env x = pure x := by intro _; rfl) (hs1 : ∀ env x, foldedSetIterable iter1 env x = pure x := by intro _ _; rfl) : PE X (.DictComp kx vx [⟨tg, iter, ifs, 0⟩, ⟨tg1, iter1, ifs1, 0⟩] scope pos) (tDcK2 X.prog X.w wi g tt wi1 g1 tt1 tk tv put (own.map (·.2)) vs1) := by
  refine ⟨fun pins s σ H Q I h => ?_⟩
  rw [arm_eval_DictComp]
  refine dck2_core hc hN I hi ok hg ht hk hv hp hi1 hg1 ht1 hvo hs hs1 h fun D C s' m H' I' q hn f => ⟨m, hn, fun h'' sb => ?_⟩
  obtain ⟨f0, f1, _, f3, f4, f5⟩ := f
  exact ⟨.ref D, H', I'.turned (t' := s'.toks) (fun b o hb e => (sb.2 b hb).trans e) f0 f1 f3 f4 f5, rfl, q⟩
/-- stored to a local name of the same line -/
theorem dck_store {i : Nat} {y : Str} {py : Pos} {D : Ends} {L C : Addr} {s' : Shared} {m : Str → Option Value} {H' : Hp} (hN : X.N.Nodup) (hy : X.N[i]? = some y) (hyl : X.env.scope.names.lookup y = some .local) (I' : Inv X pins σ H' s') (q : gName i (.ref L) σ H' D.nx) (hn : s'.heap.Ns C m) (f : FpOk X pins H' C) :
    compPost (model X.prog X.w) X.A X.xe (some (assign (.Name y py) X.env)) (fun _ s' => SP X pins D .next s') (.ref L) C (.ok .next) s' := by
  show wpAny _ _ (assign (.Name y py) X.env (.ref L)) _ _ _
  refine wpAny_assign_Name (store_ok2 (v := V.ref L) I' hN hy (.inl hyl) rfl ?_ (.inr hyl))
  rintro s2 I2 ⟨a, sb, ha⟩
  obtain ⟨f0, f1, f2, f3, f4, f5⟩ := f
  have ne : C ≠ a := by
    rcases ha with z | z
    · rw [z]; exact f1
    · exact fun e => f4 y a z e.symm
  refine ⟨m, hn.sameBut sb ne, fun h3 sb3 => ⟨_, H', I2.turned (t' := s2.toks) (fun b o hb e => (sb3.2 b hb).trans e) f0 f1 f3 f4 f5, q⟩⟩
theorem ps_setDcK {i : Nat} {y : Str} {py spos : Pos} {kx vx tg iter : Expr} {ifs : List Expr} {scope : Scope} {own : List (Str × Nat)} {pos : Pos} {wi : TI} {g : TG} {tt : TT} {tk tv : TE} {put : Hp → Addr → V → V → (Hp → Prop) → Prop} (hc : X.calm = true) (hN : X.N.Nodup) (hy : X.N[i]? = some y) (hyl : X.env.scope.names.lookup y = some .local) (hsw : swapsWith (.DictComp kx vx [⟨tg, iter, ifs, 0⟩] scope pos) (some (.Name y py)) spos.line X.env = pure true) (hi : PI X tg iter wi) (ok : BlkOk X.N X.env.scope scope own)
    (hg : ∀ (s : Shared) (H : Hp) (C : Addr) (cl : List (Str × Addr)) (fp : List Addr), PG (X.blk s H scope (compEnvC scope cl C X.env) fp) tg g) (ht : ∀ (s : Shared) (H : Hp) (C : Addr) (cl : List (Str × Addr)) (fp : List Addr), PTs (X.blk s H scope (compEnvC scope cl C X.env) fp) ifs tt)
    (hk : ∀ (s : Shared) (H : Hp) (C : Addr) (cl : List (Str × Addr)) (fp : List Addr), PE (X.blk s H scope (compEnvC scope cl C X.env) fp) kx tk) (hv : ∀ (s : Shared) (H : Hp) (C : Addr) (cl : List (Str × Addr)) (fp : List Addr), PE (X.blk s H scope (compEnvC scope cl C X.env) fp) vx tv)
    (hp : ∀ (s : Shared) (H : Hp) (C : Addr) (cl : List (Str × Addr)) (fp : List Addr), PutOk (X.blk s H scope (compEnvC scope cl C X.env) fp) put) (hs : ∀ x, foldedSetIterable iter X.env x = pure x := by intro _; rfl) : PS X (.Assign [.Name y py] (.DictComp kx vx [⟨tg, iter, ifs, 0⟩] scope pos) spos) (tAsg (tDcK X.prog X.w wi g tt tk tv put (own.map (·.2))) (gName i)) := by
  refine ⟨fun pins s σ H D I h => ?_⟩
  rw [exec_Assign_Name_used _ _ _ _ hsw]
  refine wpAny_bind (wpAny_standAt (wpAny_bind ?_))
  show wpAny _ X.A (do let _ ← comprehension (.DictComp kx vx [⟨tg, iter, ifs, 0⟩] scope pos) scope X.env (firstIterPos [⟨tg, iter, ifs, 0⟩] pos) newDict false (eval iter X.env) (some (assign (.Name y py) X.env))) _ _ s
  refine wpAny_bind (thn (dck_core (Q := fun x H1 => gName i x σ H1 D.nx) hc hN I hi ok hg ht hk hv hp hs h fun L C s' m H' I' q hn f => dck_store hN hy hyl I' q hn f) ?_)
  exact fun _ s' hq => wpAny_pure (wpAny_pure hq)
theorem ps_setDcK2 {i : Nat} {y : Str} {py spos : Pos} {kx vx tg iter tg1 iter1 : Expr} {ifs ifs1 : List Expr} {scope : Scope} {own : List (Str × Nat)} {vs1 : List Nat} {pos : Pos} {wi wi1 : TI} {g g1 : TG} {tt tt1 : TT} {tk tv : TE} {put : Hp → Addr → V → V → (Hp → Prop) → Prop} (hc : X.calm = true) (hN : X.N.Nodup) (hy : X.N[i]? = some y) (hyl : X.env.scope.names.lookup y = some .local) (hsw : swapsWith (.DictComp kx vx [⟨tg, iter, ifs, 0⟩, ⟨tg1, iter1, ifs1, 0⟩] scope pos) (some (.Name y py)) spos.line X.env = pure true) (hi : PI X tg iter wi) (ok : BlkOk X.N X.env.scope scope own)
    (hg : ∀ (s : Shared) (H : Hp) (C : Addr) (cl : List (Str × Addr)) (fp : List Addr), PG (X.blk s H scope (compEnvC scope cl C X.env) fp) tg g) (ht : ∀ (s : Shared) (H : Hp) (C : Addr) (cl : List (Str × Addr)) (fp : List Addr), PTs (X.blk s H scope (compEnvC scope cl C X.env) fp) ifs tt)
    (hk : ∀ (s : Shared) (H : Hp) (C : Addr) (cl : List (Str × Addr)) (fp : List Addr), PE (X.blk s H scope (compEnvC scope cl C X.env) fp) kx tk) (hv : ∀ (s : Shared) (H : Hp) (C : Addr) (cl : List (Str × Addr)) (fp : List Addr), PE (X.blk s H scope (compEnvC scope cl C X.env) fp) vx tv)
    (hp : ∀ (s : Shared) (H : Hp) (C : Addr) (cl : List (Str × Addr)) (fp : List Addr), PutOk (X.blk s H scope (compEnvC scope cl C X.env) fp) put)
    (hi1 : ∀ (s : Shared) (H : Hp) (C : Addr) (cl : List (Str × Addr)) (fp : List Addr), PI (X.blk s H scope (compEnvC scope cl C X.env) fp) tg1 iter1 wi1) (hg1 : ∀ (s : Shared) (H : Hp) (C : Addr) (cl : List (Str × Addr)) (fp : List Addr), PG (X.blk s H scope (compEnvC scope cl C X.env) fp) tg1 g1)
    (ht1 : ∀ (s : Shared) (H : Hp) (C : Addr) (cl : List (Str × Addr)) (fp : List Addr), PTs (X.blk s H scope (compEnvC scope cl C X.env) fp) ifs1 tt1) (hvo : ∀ i ∈ vs1, i ∈ own.map (·.2)) (hs : ∀ x, foldedSetIterable iter X.env x = pure x := by intro _; rfl) (hs1 : ∀ env x, foldedSetIterable iter1 env x = pure x := by intro _ _; rfl) : PS X (.Assign [.Name y py] (.DictComp kx vx [⟨tg, iter, ifs, 0⟩, ⟨tg1, iter1, ifs1, 0⟩] scope pos) spos) (tAsg (tDcK2 X.prog X.w wi g tt wi1 g1 tt1 tk tv put (own.map (·.2)) vs1) (gName i)) := by
  refine ⟨fun pins s σ H D I h => ?_⟩
  rw [exec_Assign_Name_used _ _ _ _ hsw]
  refine wpAny_bind (wpAny_standAt (wpAny_bind ?_))
  show wpAny _ X.A (do let _ ← comprehension (.DictComp kx vx [⟨tg, iter, ifs, 0⟩, ⟨tg1, iter1, ifs1, 0⟩] scope pos) scope X.env (firstIterPos [⟨tg, iter, ifs, 0⟩, ⟨tg1, iter1, ifs1, 0⟩] pos) newDict false (eval iter X.env) (some (assign (.Name y py) X.env))) _ _ s
  refine wpAny_bind (thn (dck2_core (Q := fun x H1 => gName i x σ H1 D.nx) hc hN I hi ok hg ht hk hv hp hi1 hg1 ht1 hvo hs hs1 h fun L C s' m H' I' q hn f => dck_store hN hy hyl I' q hn f) ?_)
  exact fun _ s' hq => wpAny_pure (wpAny_pure hq)
theorem sw_trueD {kx vx : Expr} {gs : List Comprehension} {scope : Scope} {pos py : Pos} {y : Str} {l : Nat} {env : PySem.Env} (hk : env.scope.kind = .function) (hy : env.scope.names.lookup y = some .local) (hl : (py.line == pos.line) = true) (ha : (scope.names.any fun (n, k) => n == y && (k == .local || k == .cell)) = false) :
    swapsWith (.DictComp kx vx gs scope pos) (some (.Name y py)) l env = pure true := by
  have a1 : env.kindOf y = some .local := hy
  have a2 : env.blockKind = .function := by
    unfold Env.blockKind
    rw [hk]; rfl
  unfold swapsWith
  simp only [a2, a1, ha, Expr.pos, hl]
  rfl
end
end DL
/-! ### DL55: dicts whose keys are tuples, over data: comprehensions, list(d), len(d) -/
namespace DL
open PySem PySem.Spec PyProof.Rows L2
theorem kents_of {K : PySem.W.Frag} {m : M} {H : Hp} {ks ds : List D} {xs : List KEnt} {ws : List V} (h1 : xs.map (·.1) = ks.map keyD) (h2 : ks.all tupKey = true) (h3 : RepL K m H ks (xs.map fun x => .ref x.2.1)) (h4 : RepL K m H ds ws) (h5 : Vals ws (xs.map (·.2.2))) : KEnts K m H ks ds xs := ⟨h1, h2, h3, ws, h4, h5⟩
theorem KEnts.mrep {P : Program} {w : World} {K : PySem.W.Frag} {m : M} {H : Hp} {a : Addr} {ks ds : List D} {xs : List KEnt} (h : KEnts K m H ks ds xs) (hH : H a = some (KdO P w a xs)) : MRep K m H a (.dky P w ks ds) := by
  obtain ⟨h1, h2, h3, ws, h4, h5⟩ := h
  exact ⟨xs, ws, hH, h1, h2, h3, h4, h5⟩
theorem KEnts.len {K : PySem.W.Frag} {m : M} {H : Hp} {ks ds : List D} {xs : List KEnt} (h : KEnts K m H ks ds xs) : xs.length = ks.length := by
  have := congrArg List.length h.key
  simpa using this
/-- a store of a comprehension, over data -/
def putD (P : Program) (w : World) (K : PySem.W.Frag) : Hp → Addr → V → V → (Hp → Prop) → Prop := fun G Dz y z N => ∃ (m : M) (ks ds : List D) (xs : List KEnt) (k : D) (b : Addr), y = .ref b ∧ G Dz = some (KdO P w Dz xs) ∧ KEnts K m G ks ds xs ∧ tupKey k = true ∧ Rep K m G k (.ref b) ∧ xs.length < sizeLine ∧
  ∀ u, RelV z u → (xs.map (·.1)).Nodup → N (upd G Dz (KdO P w Dz (storedH xs (keyD k) b u)))
theorem putD_ok {Y : Cx} (hu : Y.A.units + 8 < cLine) : PutOk Y (putD Y.prog Y.w Y.K) := by
  rintro π ρ G s D y z u r N Q E I ry rz ⟨m, ks, ds, xs, k, b, rfl, hD, he, hk, rk, hz, hN⟩ h
  obtain rfl : u = Value.ref b := ry
  exact kd_set (d := .non) (v := z) I hD he hu hk rk hz fun s' I' => h s' _ I' (hN r rz (kd_obj (I.hok D _ hD)).2.2.1)
/-! readings -/
def dcD (P : Program) (w : World) (p : Addr) (g : Tgt) (tt : DTT) (tk tv : DTE) (env : Env) (Q : M → Prop) : List D → M → Prop
  | [], m => Q m
  | d :: ds, m => tgD g d env m fun env' m' => tt env' m' fun b m2 => if b = true then tk env' m2 fun k m3 => tv env' m3 fun v m4 => ∃ ks vs, m4 p = some (.dky P w ks vs) ∧ tupKey k = true ∧ ks.length < sizeLine ∧ dcD P w p g tt tk tv env Q ds (updM m4 p (.dky P w (kputK ks k) (kputV ks vs k v)))
    else dcD P w p g tt tk tv env Q ds m2
def tDcD (P : Program) (w : World) (ti : DTI) (g : Tgt) (tt : DTT) (tk tv : DTE) (vs : List Nat) : DTE := fun env m Q => ti env m fun ds m1 => ∀ p, m1 p = none → dcD P w p g tt tk tv (wipeD env vs) (fun m2 => Q (.ref p) m2) ds (updM m1 p (.dky P w [] []))
def dcD2 (P : Program) (w : World) (p : Addr) (g : Tgt) (tt : DTT) (ti1 : DTI) (g1 : Tgt) (tt1 : DTT) (tk tv : DTE) (vs1 : List Nat) (env : Env) (Q : M → Prop) : List D → M → Prop
  | [], m => Q m
  | d :: ds, m => tgD g d env m fun env' m' => tt env' m' fun b m2 => if b = true then ti1 env' m2 fun es m3 => dcD P w p g1 tt1 tk tv (wipeD env' vs1) (fun m4 => dcD2 P w p g tt ti1 g1 tt1 tk tv vs1 env Q ds m4) es m3 else dcD2 P w p g tt ti1 g1 tt1 tk tv vs1 env Q ds m2
def tDcD2 (P : Program) (w : World) (ti : DTI) (g : Tgt) (tt : DTT) (ti1 : DTI) (g1 : Tgt) (tt1 : DTT) (tk tv : DTE) (vs vs1 : List Nat) : DTE := fun env m Q => ti env m fun ds m1 => ∀ p, m1 p = none → dcD2 P w p g tt ti1 g1 tt1 tk tv vs1 (wipeD env vs) (fun m2 => Q (.ref p) m2) ds (updM m1 p (.dky P w [] []))
section
variable {X : Cx} {tg iter tg1 iter1 kx vx : Expr} {ifs ifs1 : List Expr} {tk tv : DTE} {pos : Pos}
theorem dcI_core {g : Tgt} {tt : DTT} {vs : List Nat} (hg : ∀ i ∈ g.ix, i ∈ vs) {σ : L2.St} {env : Env} {m1 : M} {H1 : Hp} {J : It} {ds : List D} {Dz : Addr} {N : Hp → Prop} {R : M → Prop} (eo : EnvOk X.K m1 H1 σ env) (s1 : Sim X.K m1 H1) (it : Items X.K J ds m1 H1)
    (h1 : dcD X.prog X.w Dz g tt tk tv (wipeD env vs) R ds m1) (k : ∀ m' H', R m' → Fr m1 H1 m' H' → Sim X.K m' H' → N H') :
    ∃ W : Nat → Nat → Hp → Prop, (∃ n, W 0 n H1) ∧ LpTurn J (tgR X.K g) (liftT X.K tt) (L2.wipe σ vs) (fun σ2 => L2.wipe σ2 vs = L2.wipe σ vs) N
      (fun Nx σ2 b G => if b = true then liftE X.K tk σ2 G fun y G2 => liftE X.K tv σ2 G2 fun z G3 => putD X.prog X.w X.K G3 Dz y z Nx else Nx G) W := by
  refine ⟨fun i n H => n = ds.length - i ∧ i ≤ ds.length ∧ ∃ m, Sim X.K m H ∧ Fr m1 H1 m H ∧ dcD X.prog X.w Dz g tt tk tv (wipeD env vs) R (ds.drop i) m, ⟨_, rfl, Nat.zero_le _, m1, s1, Fr.refl, h1⟩, ?_⟩
  rintro i n H2 ⟨rfl, hi, m2, s2, f2, h2⟩
  obtain ⟨go, stop⟩ := it i m2 H2 f2 s2
  by_cases hlt : i < ds.length
  · obtain ⟨g1, g2⟩ := go ds[i] (by simp [hlt])
    have ed : ds.drop i = ds[i] :: ds.drop (i + 1) := List.drop_eq_getElem_cons hlt
    rw [ed] at h2
    refine .inr ⟨g1, fun H' => ∃ m, Sim X.K m H' ∧ Fr m1 H1 m H' ∧ dcD X.prog X.w Dz g tt tk tv (wipeD env vs) R (ds.drop (i + 1)) m, fun H' q => ⟨ds.length - (i + 1), by omega, rfl, hlt, q⟩, fun x H' y => ?_⟩
    obtain ⟨f3, s3, r3⟩ := g2 x H' y
    have h2 : tgD g ds[i] (wipeD env vs) m2 _ := h2
    refine tg_run r3 (((eo.mono f2).wipe vs).mono f3) s3 h2 fun env4 σ4 h4 eo4 wp => ?_
    refine ⟨by show L2.wipe σ4 vs = L2.wipe σ vs; rw [wp vs hg]; exact wipe_sub fun i hi => hi, env4, m2, _, eo4, s3, h4, fun b m5 H5 h5 f5 s5 => ?_⟩
    have f35 := f3.trans f5
    cases b with
    | true =>
      simp only [if_true] at h5 ⊢
      refine ⟨env4, m5, _, eo4.mono f5, s5, h5, fun kd m6 kv H6 h6 f6 s6 r6 => ?_⟩
      refine ⟨env4, m6, _, (eo4.mono f5).mono f6, s6, h6, fun z m7 zv H7 h7 f7 s7 r7 => ?_⟩
      obtain ⟨ks, es, em, hk, hz, h7⟩ := h7
      obtain ⟨xs, ws, hD, a1, a2, a3, a4, a5⟩ := s7 Dz _ em
      have he := kents_of a1 a2 a3 a4 a5
      have rk := Rep.mono f7 _ _ r6
      obtain ⟨b, rfl⟩ := rep_tup_ref hk rk
      refine ⟨m7, ks, es, xs, kd, b, rfl, hD, he, hk, rk, by rw [he.len]; exact hz, fun u ru nd => ?_⟩
      have fw : Fr m7 H7 (updM m7 Dz (.dky X.prog X.w (kputK ks kd) (kputV ks es kd z))) (upd H7 Dz (KdO X.prog X.w Dz (storedH xs (keyD kd) b u))) := Fr.write em
      exact ⟨_, s7.write em ((he.put hk rk r7 ru nd).mono fw |>.mrep upd_same), ((f2.trans f35).trans (f6.trans f7)).trans fw, h7⟩
    | false =>
      simp only [Bool.false_eq_true, if_false] at h5 ⊢
      exact ⟨m5, s5, f2.trans f35, h5⟩
  · have e : i = ds.length := by omega
    subst e
    rw [List.drop_length] at h2
    exact .inl ⟨stop rfl, k m2 H2 h2 f2 s2⟩
theorem items_kd {K : PySem.W.Frag} {m1 : M} {H1 : Hp} (P : Program) (w : World) (s1 : Sim K m1 H1) {Dz : Addr} (hD : H1 Dz = none) : Sim K (updM m1 Dz (.dky P w [] [])) (upd H1 Dz (KdO P w Dz [])) := Sim.laidM s1 hD (KEnts.nil.mrep upd_same)
theorem dcI_lift {g : Tgt} {tt : DTT} {ti : DTI} {vs : List Nat} (hg : ∀ i ∈ g.ix, i ∈ vs) {σ : L2.St} {H : Hp} {Q : VK} (h : liftE X.K (tDcD X.prog X.w ti g tt tk tv vs) σ H Q) : tDcK X.prog X.w (liftI X.K ti) (tgR X.K g) (liftT X.K tt) (liftE X.K tk) (liftE X.K tv) (putD X.prog X.w X.K) vs σ H Q := by
  obtain ⟨env, m, R, eo, s, h, k⟩ := h
  refine ⟨env, m, _, eo, s, h, fun ds m1 J H1 h1 f1 s1 it => ?_⟩
  intro Dz hD
  have fl := Fr.laidM (d := .dky X.prog X.w [] []) (o := KdO X.prog X.w Dz []) s1 hD
  exact dcI_core hg ((eo.mono f1).mono fl) (items_kd _ _ s1 hD) (fun i m H f s => it i m H (fl.trans f) s) (h1 Dz (s1.free hD)) fun m' H' a1 a2 a3 => k (.ref Dz) m' _ H' a1 (f1.trans (fl.trans a2)) a3 rep_ref
theorem dcI2_lift {g g1 : Tgt} {tt tt1 : DTT} {ti ti1 : DTI} {vs vs1 : List Nat} (hg : ∀ i ∈ g.ix, i ∈ vs) (hg1 : ∀ i ∈ g1.ix, i ∈ vs1) {σ : L2.St} {H : Hp} {Q : VK} (h : liftE X.K (tDcD2 X.prog X.w ti g tt ti1 g1 tt1 tk tv vs vs1) σ H Q) :
    tDcK2 X.prog X.w (liftI X.K ti) (tgR X.K g) (liftT X.K tt) (liftI X.K ti1) (tgR X.K g1) (liftT X.K tt1) (liftE X.K tk) (liftE X.K tv) (putD X.prog X.w X.K) vs vs1 σ H Q := by
  obtain ⟨env, m0, R, eo0, s0, h, k⟩ := h
  refine ⟨env, m0, _, eo0, s0, h, fun ds m1 J H1 h1 f1 s1 it => ?_⟩
  intro Dz hD
  have fl := Fr.laidM (d := .dky X.prog X.w [] []) (o := KdO X.prog X.w Dz []) s1 hD
  have eo := eo0.mono f1
  refine ⟨fun i n H => n = ds.length - i ∧ i ≤ ds.length ∧ ∃ m, Sim X.K m H ∧ Fr m1 H1 m H ∧ dcD2 X.prog X.w Dz g tt ti1 g1 tt1 tk tv vs1 (wipeD env vs) (fun m2 => R (.ref Dz) m2) (ds.drop i) m, ⟨_, rfl, Nat.zero_le _, _, items_kd _ _ s1 hD, fl, h1 Dz (s1.free hD)⟩, ?_⟩
  rintro i n H2 ⟨rfl, hi, m2, s2, f2, h2⟩
  obtain ⟨go, stop⟩ := it i m2 H2 f2 s2
  by_cases hlt : i < ds.length
  · obtain ⟨q1, q2⟩ := go ds[i] (by simp [hlt])
    have ed : ds.drop i = ds[i] :: ds.drop (i + 1) := List.drop_eq_getElem_cons hlt
    rw [ed] at h2
    refine .inr ⟨q1, fun H' => ∃ m, Sim X.K m H' ∧ Fr m1 H1 m H' ∧ dcD2 X.prog X.w Dz g tt ti1 g1 tt1 tk tv vs1 (wipeD env vs) (fun m2 => R (.ref Dz) m2) (ds.drop (i + 1)) m, fun H' q => ⟨ds.length - (i + 1), by omega, rfl, hlt, q⟩, fun x H' y => ?_⟩
    obtain ⟨f3, s3, r3⟩ := q2 x H' y
    have h2 : tgD g ds[i] (wipeD env vs) m2 _ := h2
    refine tg_run r3 (((eo.mono f2).wipe vs).mono f3) s3 h2 fun env4 σ4 h4 eo4 wp => ?_
    refine ⟨by show L2.wipe σ4 vs = L2.wipe σ vs; rw [wp vs hg]; exact wipe_sub fun i hi => hi, env4, m2, _, eo4, s3, h4, fun b m5 H5 h5 f5 s5 => ?_⟩
    have f25 := f2.trans (f3.trans f5)
    cases b with
    | true =>
      simp only [if_true] at h5 ⊢
      refine ⟨env4, m5, _, eo4.mono f5, s5, h5, fun es m6 J1 H6 h6 f6 s6 it1 => ?_⟩
      exact dcI_core hg1 ((eo4.mono f5).mono f6) s6 it1 h6 fun m' H' a1 a2 a3 => ⟨m', a3, f25.trans (f6.trans a2), a1⟩
    | false =>
      simp only [Bool.false_eq_true, if_false] at h5 ⊢
      exact ⟨m5, s5, f25, h5⟩
  · have e : i = ds.length := by omega
    subst e
    rw [List.drop_length] at h2
    exact .inl ⟨stop rfl, k (.ref Dz) m2 _ H2 h2 (f1.trans f2) s2 rep_ref⟩
theorem de_dc {scope : Scope} {own : List (Str × Nat)} {ti : DTI} {g : Tgt} {tt : DTT} (hu : X.A.units + 65 < cLine) (hi : DI X tg iter ti) (ok : BlkOk X.N X.env.scope scope own) (hN : X.N.Nodup) (hc : X.calm = true)
    (hg : ∀ (s : Shared) (H : Hp) (C : Addr) (cl : List (Str × Addr)) (fp : List Addr), DGt (Blk X scope s H C cl fp) tg g) (ht : ∀ (s : Shared) (H : Hp) (C : Addr) (cl : List (Str × Addr)) (fp : List Addr), DTs (Blk X scope s H C cl fp) ifs tt)
    (hk : ∀ (s : Shared) (H : Hp) (C : Addr) (cl : List (Str × Addr)) (fp : List Addr), DE (Blk X scope s H C cl fp) kx tk) (hv : ∀ (s : Shared) (H : Hp) (C : Addr) (cl : List (Str × Addr)) (fp : List Addr), DE (Blk X scope s H C cl fp) vx tv) (hvx : ∀ i ∈ g.ix, i ∈ own.map (·.2) := by decide) (hs : ∀ x, foldedSetIterable iter X.env x = pure x := by intro _; rfl) :
    DE X (.DictComp kx vx [⟨tg, iter, ifs, 0⟩] scope pos) (tDcD X.prog X.w ti g tt tk tv (own.map (·.2))) :=
  ⟨PE.weak (pe_dcK hc hN hi.run ok (fun s H C cl fp => (hg s H C cl fp).run) (fun s H C cl fp => (ht s H C cl fp).run) (fun s H C cl fp => (hk s H C cl fp).run) (fun s H C cl fp => (hv s H C cl fp).run) (fun s H C cl fp => putD_ok (Y := Blk X scope s H C cl fp) (by show X.A.units + 8 < _; omega)) hs) fun σ H Q h => dcI_lift hvx h⟩
theorem ds_setDc {j : Nat} {y : Str} {py spos : Pos} {scope : Scope} {own : List (Str × Nat)} {ti : DTI} {g : Tgt} {tt : DTT} (hu : X.A.units + 65 < cLine) (hi : DI X tg iter ti) (ok : BlkOk X.N X.env.scope scope own) (hN : X.N.Nodup) (hc : X.calm = true)
    (hg : ∀ (s : Shared) (H : Hp) (C : Addr) (cl : List (Str × Addr)) (fp : List Addr), DGt (Blk X scope s H C cl fp) tg g) (ht : ∀ (s : Shared) (H : Hp) (C : Addr) (cl : List (Str × Addr)) (fp : List Addr), DTs (Blk X scope s H C cl fp) ifs tt)
    (hk : ∀ (s : Shared) (H : Hp) (C : Addr) (cl : List (Str × Addr)) (fp : List Addr), DE (Blk X scope s H C cl fp) kx tk) (hv : ∀ (s : Shared) (H : Hp) (C : Addr) (cl : List (Str × Addr)) (fp : List Addr), DE (Blk X scope s H C cl fp) vx tv) (hsw : swapsWith (.DictComp kx vx [⟨tg, iter, ifs, 0⟩] scope pos) (some (.Name y py)) spos.line X.env = pure true) (hvx : ∀ i ∈ g.ix, i ∈ own.map (·.2) := by decide) (hy : X.N[j]? = some y := by rfl) (hyl : X.env.scope.names.lookup y = some .local := by rfl) (hs : ∀ x, foldedSetIterable iter X.env x = pure x := by intro _; rfl) :
    DS X (.Assign [.Name y py] (.DictComp kx vx [⟨tg, iter, ifs, 0⟩] scope pos) spos) (tSet j (tDcD X.prog X.w ti g tt tk tv (own.map (·.2)))) :=
  ⟨PS.weak (ps_setDcK hc hN hy hyl hsw hi.run ok (fun s H C cl fp => (hg s H C cl fp).run) (fun s H C cl fp => (ht s H C cl fp).run) (fun s H C cl fp => (hk s H C cl fp).run) (fun s H C cl fp => (hv s H C cl fp).run) (fun s H C cl fp => putD_ok (Y := Blk X scope s H C cl fp) (by show X.A.units + 8 < _; omega)) hs) fun D σ H h => set_lift (fun σ H Q q => dcI_lift hvx q) h⟩
theorem de_dc2 {scope : Scope} {own : List (Str × Nat)} {vs1 : List Nat} {ti ti1 : DTI} {g g1 : Tgt} {tt tt1 : DTT} (hu : X.A.units + 65 < cLine) (hi : DI X tg iter ti) (ok : BlkOk X.N X.env.scope scope own) (hN : X.N.Nodup) (hc : X.calm = true)
    (hg : ∀ (s : Shared) (H : Hp) (C : Addr) (cl : List (Str × Addr)) (fp : List Addr), DGt (Blk X scope s H C cl fp) tg g) (ht : ∀ (s : Shared) (H : Hp) (C : Addr) (cl : List (Str × Addr)) (fp : List Addr), DTs (Blk X scope s H C cl fp) ifs tt)
    (hk : ∀ (s : Shared) (H : Hp) (C : Addr) (cl : List (Str × Addr)) (fp : List Addr), DE (Blk X scope s H C cl fp) kx tk) (hv : ∀ (s : Shared) (H : Hp) (C : Addr) (cl : List (Str × Addr)) (fp : List Addr), DE (Blk X scope s H C cl fp) vx tv)
    (hi1 : ∀ (s : Shared) (H : Hp) (C : Addr) (cl : List (Str × Addr)) (fp : List Addr), DI (Blk X scope s H C cl fp) tg1 iter1 ti1) (hg1 : ∀ (s : Shared) (H : Hp) (C : Addr) (cl : List (Str × Addr)) (fp : List Addr), DGt (Blk X scope s H C cl fp) tg1 g1) (ht1 : ∀ (s : Shared) (H : Hp) (C : Addr) (cl : List (Str × Addr)) (fp : List Addr), DTs (Blk X scope s H C cl fp) ifs1 tt1) (hvx : ∀ i ∈ g.ix, i ∈ own.map (·.2) := by decide) (hv1 : ∀ i ∈ g1.ix, i ∈ vs1 := by decide) (hvo : ∀ i ∈ vs1, i ∈ own.map (·.2) := by decide) (hs : ∀ x, foldedSetIterable iter X.env x = pure x := by intro _; rfl) (hs1 : ∀ env x, foldedSetIterable iter1 env x = pure x := by intro _ _; rfl) :
    DE X (.DictComp kx vx [⟨tg, iter, ifs, 0⟩, ⟨tg1, iter1, ifs1, 0⟩] scope pos) (tDcD2 X.prog X.w ti g tt ti1 g1 tt1 tk tv (own.map (·.2)) vs1) :=
  ⟨PE.weak (pe_dcK2 hc hN hi.run ok (fun s H C cl fp => (hg s H C cl fp).run) (fun s H C cl fp => (ht s H C cl fp).run) (fun s H C cl fp => (hk s H C cl fp).run) (fun s H C cl fp => (hv s H C cl fp).run) (fun s H C cl fp => putD_ok (Y := Blk X scope s H C cl fp) (by show X.A.units + 8 < _; omega)) (fun s H C cl fp => (hi1 s H C cl fp).run) (fun s H C cl fp => (hg1 s H C cl fp).run) (fun s H C cl fp => (ht1 s H C cl fp).run) hvo hs hs1) fun σ H Q h => dcI2_lift hvx hv1 h⟩
theorem ds_setDc2 {j : Nat} {y : Str} {py spos : Pos} {scope : Scope} {own : List (Str × Nat)} {vs1 : List Nat} {ti ti1 : DTI} {g g1 : Tgt} {tt tt1 : DTT} (hu : X.A.units + 65 < cLine) (hi : DI X tg iter ti) (ok : BlkOk X.N X.env.scope scope own) (hN : X.N.Nodup) (hc : X.calm = true)
    (hg : ∀ (s : Shared) (H : Hp) (C : Addr) (cl : List (Str × Addr)) (fp : List Addr), DGt (Blk X scope s H C cl fp) tg g) (ht : ∀ (s : Shared) (H : Hp) (C : Addr) (cl : List (Str × Addr)) (fp : List Addr), DTs (Blk X scope s H C cl fp) ifs tt)
    (hk : ∀ (s : Shared) (H : Hp) (C : Addr) (cl : List (Str × Addr)) (fp : List Addr), DE (Blk X scope s H C cl fp) kx tk) (hv : ∀ (s : Shared) (H : Hp) (C : Addr) (cl : List (Str × Addr)) (fp : List Addr), DE (Blk X scope s H C cl fp) vx tv)
    (hi1 : ∀ (s : Shared) (H : Hp) (C : Addr) (cl : List (Str × Addr)) (fp : List Addr), DI (Blk X scope s H C cl fp) tg1 iter1 ti1) (hg1 : ∀ (s : Shared) (H : Hp) (C : Addr) (cl : List (Str × Addr)) (fp : List Addr), DGt (Blk X scope s H C cl fp) tg1 g1) (ht1 : ∀ (s : Shared) (H : Hp) (C : Addr) (cl : List (Str × Addr)) (fp : List Addr), DTs (Blk X scope s H C cl fp) ifs1 tt1) (hsw : swapsWith (.DictComp kx vx [⟨tg, iter, ifs, 0⟩, ⟨tg1, iter1, ifs1, 0⟩] scope pos) (some (.Name y py)) spos.line X.env = pure true) (hvx : ∀ i ∈ g.ix, i ∈ own.map (·.2) := by decide) (hv1 : ∀ i ∈ g1.ix, i ∈ vs1 := by decide) (hvo : ∀ i ∈ vs1, i ∈ own.map (·.2) := by decide)
    (hy : X.N[j]? = some y := by rfl) (hyl : X.env.scope.names.lookup y = some .local := by rfl) (hs : ∀ x, foldedSetIterable iter X.env x = pure x := by intro _; rfl) (hs1 : ∀ env x, foldedSetIterable iter1 env x = pure x := by intro _ _; rfl) :
    DS X (.Assign [.Name y py] (.DictComp kx vx [⟨tg, iter, ifs, 0⟩, ⟨tg1, iter1, ifs1, 0⟩] scope pos) spos) (tSet j (tDcD2 X.prog X.w ti g tt ti1 g1 tt1 tk tv (own.map (·.2)) vs1)) :=
  ⟨PS.weak (ps_setDcK2 hc hN hy hyl hsw hi.run ok (fun s H C cl fp => (hg s H C cl fp).run) (fun s H C cl fp => (ht s H C cl fp).run) (fun s H C cl fp => (hk s H C cl fp).run) (fun s H C cl fp => (hv s H C cl fp).run) (fun s H C cl fp => putD_ok (Y := Blk X scope s H C cl fp) (by show X.A.units + 8 < _; omega)) (fun s H C cl fp => (hi1 s H C cl fp).run) (fun s H C cl fp => (hg1 s H C cl fp).run) (fun s H C cl fp => (ht1 s H C cl fp).run) hvo hs hs1) fun D σ H h => set_lift (fun σ H Q q => dcI2_lift hvx hv1 q) h⟩
end
/-! list(d), len(d) -/
open Classical in
noncomputable def dListK (P : Program) (w : World) : D → Option D
  | .dky P' w' ks _ => if P' = P ∧ w' = w then some (.lst ks) else none
  | _ => none
open Classical in
noncomputable def dLenK (P : Program) (w : World) : D → Option D
  | .dky P' w' ks _ => if P' = P ∧ w' = w then some (.int (ks.length : Int)) else none
  | _ => none
theorem dListK_at {P : Program} {w : World} {ks vs : List D} : dListK P w (.dky P w ks vs) = some (.lst ks) := if_pos ⟨rfl, rfl⟩
theorem dLenK_at {P : Program} {w : World} {ks vs : List D} : dLenK P w (.dky P w ks vs) = some (.int (ks.length : Int)) := if_pos ⟨rfl, rfl⟩
section
variable {X : Cx}
def rListKd (P : Program) (w : World) : List V → Hp → VK → Prop := fun vs H Q => ∃ (a : Addr) (xs : List KEnt), vs = [.ref a] ∧ H a = some (KdO P w a xs) ∧ ∀ q, H q = none → Q (.ref q) (upd H q (.lst (xs.map fun x => .ref x.2.1)))
theorem call_listKd (hc : X.calm = true) : CallR X (.type "list") (rListKd X.prog X.w) := by
  intro pins s σ H vs us Q I r h
  obtain ⟨a, xs, rfl, hH, q⟩ := h
  rw [Vals.ref1 r]
  obtain ⟨hs, hz, nd, o, es, ep, ho, hx, hd, he⟩ := kd_obj (I.hok a _ hH)
  have l1 : es.size = xs.length := size_of_entries he
  refine PySem.W.kdl_call (kdl_raw hs hx hd) (I.ok.hd hc) ho (by omega) fun h' tk acc c' kp e it => ?_
  have ea : acc.toList = (xs.map fun x => x.2.1).map Value.ref := by
    rw [List.map_map]
    refine List.ext_getElem? fun j => ?_
    rw [List.getElem?_map]
    rcases Nat.lt_or_ge j xs.length with hj | hj
    · obtain ⟨v, hv⟩ : ∃ v, acc.toList[j]? = some v := ⟨_, List.getElem?_eq_getElem (by rw [Array.length_toList, it.1]; omega)⟩
      obtain ⟨en, hen, rfl⟩ := it.2 j v (by rw [← Array.getElem?_toList]; exact hv)
      have qe := entry_at he j
      rw [hen, List.getElem?_eq_getElem hj] at qe
      rw [hv, List.getElem?_eq_getElem hj, Option.some.inj qe]
      rfl
    · rw [List.getElem?_eq_none (by rw [Array.length_toList, it.1]; omega), List.getElem?_eq_none hj]; rfl
  have rv : Vals (xs.map fun x => V.ref x.2.1) acc.toList := by
    rw [ea]
    have := vals_refs (xs.map fun x => x.2.1)
    rwa [List.map_map] at this
  refine ⟨.ref s.heap.objs.size, _, I.laid (t' := tk) (o := .lst (xs.map fun x => V.ref x.2.1)) kp (Nat.le_refl _) ⟨by rw [List.length_map]; exact hz, acc.toList, c', rv, by rw [Array.toArray_toList]; exact e⟩, rfl, q _ (I.hok.fresh (Nat.le_refl _))⟩
theorem dc_listK (hc : X.calm = true) : DCall X (.type "list") (d1 (dListK X.prog X.w)) := dc_1 (call_listKd hc) fun c m d v H Q cc s e q => by
  unfold dListK at e
  split at e
  · rename_i P' w' ks es
    split at e
    · rename_i hpw
      obtain ⟨rfl, rfl⟩ := hpw
      cases e
      obtain ⟨a, xs, ws, rfl, hH, a1, a2, a3, a4, a5⟩ := cc
      exact ⟨a, xs, rfl, hH, fun p hp => q _ _ (Fr.laid s hp) (s.laid hp) (new_lst s hp a3)⟩
    · cases e
  · cases e
def rLenKd (P : Program) (w : World) : List V → Hp → VK → Prop := fun vs H Q => ∃ (a : Addr) (xs : List KEnt) (m : M) (K : PySem.W.Frag) (ks ds : List D), vs = [.ref a] ∧ H a = some (KdO P w a xs) ∧ Q (.int (xs.length : Int)) H
theorem dc_lenK : DCall X (.builtin "len") (d1 (dLenK X.prog X.w)) := by
  refine dc_1 (r := fun vs H Q => ∃ (a : Addr) (xs : List KEnt) (m : M) (ks ds : List D), vs = [.ref a] ∧ H a = some (KdO X.prog X.w a xs) ∧ KEnts X.K m H ks ds xs ∧ Q (.int (xs.length : Int)) H) ?_ fun c m d v H Q cc s e q => ?_
  · intro pins s σ H vs us Q I r h
    obtain ⟨a, xs, m, ks, ds, rfl, hH, he, q⟩ := h
    rw [Vals.ref1 r]
    obtain ⟨hs, hz, _⟩ := kd_obj (I.hok a _ hH)
    refine call_len_dictH (knd := nestedKind X.prog X.w) hs (kd_dict I hH he) ?_ ?_
    · rw [sizeLine_eq] at hz; omega
    · exact ⟨.int (xs.length : Int), H, I.tok _, ⟨_, rfl⟩, q⟩
  · unfold dLenK at e
    split at e
    · rename_i P' w' ks es
      split at e
      · rename_i hpw
        obtain ⟨rfl, rfl⟩ := hpw
        cases e
        obtain ⟨a, xs, ws, rfl, hH, a1, a2, a3, a4, a5⟩ := cc
        have he := kents_of a1 a2 a3 a4 a5
        refine ⟨a, xs, m, ks, es, rfl, hH, he, ?_⟩
        rw [he.len]
        exact q _ _ Fr.refl s rep_int
      · cases e
    · cases e
end
end DL
/-! ### DL56: binary operators of own classes -/
namespace DL
open PySem PySem.Spec PyProof.Rows L2
/-- both sides are instances of C -/
def rBinO (K : PySem.W.Frag) (C : Addr) (sp : DSp) : R2 := fun v u H Q => ∃ x y m, Rep K m H x v ∧ Rep K m H y u ∧ Sim K m H ∧ (∃ ns vs, look m x = .ins C ns vs) ∧ (∃ ns vs, look m y = .ins C ns vs) ∧ liftSp K sp [v, u] H Q E0
theorem back_of {X : Cx} {pins : List (Addr × Obj)} {σ : L2.St} {Q : VK} {u : Value} {s : Shared} (h : EP X pins σ Q u s) : PySem.W.CmpBack (EP X pins σ Q) u s := by
  obtain ⟨v, H', I, r, q⟩ := id h
  cases u with
  | notImplemented => cases v <;> first | exact nomatch r | (obtain ⟨_, e⟩ := r; cases e)
  | _ => exact h
section
variable {X : Cx} {C : Addr} {k : Nat} {sp : DSp} {op : Operator} {nm : Str} {a b : Expr} {ta tb : DTE} {pos : Pos}
theorem op_binO (c : CalM X C nm k sp) (hnm : PySem.dunder op.info.2 = nm) (sf : PySem.W.selfFirst X.K C = true) (hr : RoomG k X.A) : OpR X (binaryOp op) (rBinO X.K C sp) := by
  subst hnm
  intro pins s σ H v u a b Q I rv ru ⟨x, y, m, rx, ry, sm, ⟨ns, vs, ex⟩, ⟨ns2, vs2, ey⟩, hsp⟩
  obtain ⟨f, hm, F⟩ := c.ex
  have cx := cont_of sm rx
  rw [ex] at cx
  obtain ⟨p, dx, fs, rfl, hp, _, _⟩ := cx
  cases rv
  have cy := cont_of sm ry
  rw [ey] at cy
  obtain ⟨p2, dx2, fs2, rfl, hp2, _, _⟩ := cy
  cases ru
  obtain ⟨mA, J, _⟩ := ins_get I.hok hp
  obtain ⟨od, J, _⟩ := J.look
  obtain ⟨mA2, J2, _⟩ := ins_get I.hok hp2
  obtain ⟨od2, J2, _⟩ := J2.look
  obtain ⟨m0, hF⟩ := I.fr
  refine PySem.W.binop_K hF I.ok.mod.kin J J2.type sf hm.at_ hm.fn ?_
  exact wpAny_mono (run_fnA (us := [Value.ref p, Value.ref p2]) (vs := [V.ref p, V.ref p2]) rfl F hr pass0 I (.cons rfl (.cons rfl .nil)) hsp) (fun r s' hq => back_of hq) fun _ _ x => x
def tBinO (C : Addr) (sp : DSp) (ta tb : DTE) : DTE := fun env m Q => ta env m fun x m1 => tb env m1 fun y m2 => (∃ ns vs, look m2 x = .ins C ns vs) ∧ (∃ ns vs, look m2 y = .ins C ns vs) ∧ sp [x, y] m2 Q
theorem de_binO (c : CalM X C nm k sp) (hnm : PySem.dunder op.info.2 = nm) (sf : PySem.W.selfFirst X.K C = true) (hr : RoomG k X.A) (ha : DE X a ta) (hb : DE X b tb) : DE X (.BinOp a op b pos) (tBinO C sp ta tb) :=
  ⟨PE.weak (pe_op (op_binO c hnm sf hr) ha.run hb.run) fun σ H Q h => by
    obtain ⟨env, m, R, eo, s, h, k⟩ := h
    refine ⟨env, m, _, eo, s, h, fun x m1 v H1 h1 f1 s1 r1 => ?_⟩
    refine ⟨env, m1, _, eo.mono f1, s1, h1, fun y m2 u H2 h2 f2 s2 r2 => ?_⟩
    obtain ⟨e1, e2, h3⟩ := h2
    have r1' := Rep.mono f2 _ _ r1
    exact ⟨x, y, m2, r1', r2, s2, e1, e2, [x, y], m2, R, .cons r1' (.cons r2 .nil), s2, h3, fun d m' v' H' a1 a2 a3 a4 => k d m' v' H' a1 ((f1.trans f2).trans a2) a3 a4⟩⟩
end
end DL
/-! ### DL57: the order of tuples that are alike -/
namespace DL
open PySem PySem.Spec PyProof.Rows L2
def ltT (xs ys : List D) : Bool := PySem.W.dataLt (toPd (.tup xs)) (toPd (.tup ys))
def dLtD (m : M) (x y : D) : Option D := match look m x, look m y with
  | .tup xs, .tup ys => if dat 8 (.tup xs) = true ∧ dat 8 (.tup ys) = true ∧ PySem.W.alike (toPd (.tup xs)) (toPd (.tup ys)) = true then some (.bl (ltT xs ys)) else none
  | _, _ => none
section
variable {X : Cx}
def rLtD (K : PySem.W.Frag) : R2 := fun x y H Q => ∃ d e, Dp K H x d ∧ Dp K H y e ∧ PySem.W.alike d e = true ∧ d ≠ .none ∧ d.depth ≤ 60 ∧ Q (.bl (PySem.W.dataLt d e)) H
theorem op_ltD (hu : X.A.units + 65 < cLine) : OpR X (compareOp .Lt) (rLtD X.K) := by
  intro pins s σ H x y v u Q I rx ry h
  obtain ⟨d, e, hd, he, ha, hn, hz, q⟩ := h
  obtain ⟨as, r1⟩ := Dp.reads I d x v hd rx
  obtain ⟨bs, r2⟩ := Dp.reads I e y u he ry
  exact PySem.W.lt_data r1 r2 ha hn (by have := Nat.min_le_left d.depth e.depth; omega) ⟨.bl _, H, I, rfl, q⟩
theorem do_ltD (hu : X.A.units + 65 < cLine) : DOp X (compareOp .Lt) dLtD := by
  refine DOp.of (op_ltD hu) fun x y m d v u H Q cx cy rx ry s e q => ?_
  unfold dLtD at e
  generalize look m x = cX at cx e
  generalize look m y = cY at cy e
  split at e
  · split at e
    · rename_i h
      cases e
      have l := (dat_lay 8 _ h.1).2
      exact ⟨_, _, cont_dp s h.1 cx, cont_dp s h.2.1 cy, h.2.2, by simp [toPd], by omega, q _ _ Fr.refl s rep_bl⟩
    · cases e
  · cases e
end
end DL
namespace K33
open PySem PySem.Spec PyProof.Rows L2 DL
def top (i : Nat) : Stmt := PySem.Challenge.pw_whatleaves_k33_acts_combined.main.body.getD i (.Pass ⟨0, 0, 0, 0⟩)
def c_RESERVED : List Str := ["pass", "raise", "from", "none", "again", "return", "returns", "break", "call", "handling", "else", "either", "or", "loop", "try", "except", "as", "finally", "with", "quiet", "class", "def"]
/-! _law_pen -/
abbrev s_l_pen : Stmt := top 13
def N_l_pen : List Str := ["_law_script"]
theorem sc_l_pen : FnScope N_l_pen ["_law_script"] (defScope s_l_pen) := ⟨rfl, rfl, rfl, by decide +kernel, rfl, by decide +kernel, by decide +kernel⟩
def r_l_pen_1 : DTS := (tRt (tLstM (tAC (tFn (d1 dList) (tAC (tSlD (tV 0) tON (tOS (tK (.int 63)))) tA0)) (tAC (tK (.int 0)) (tAC (tK (.int 0)) tA0)))))
def ri_l_pen : DTS := (tRt (tLstM (tAC (tFn (d1 dList) (tAC (tSlD (tV 0) tON (tOS (tK (.int 63)))) tA0)) (tAC (tK (.int 0)) (tAC (tK (.int 0)) tA0)))))
def r_l_pen : DTS := r_l_pen_1
theorem rr_l_pen : ri_l_pen = r_l_pen := rfl
def sp_l_pen : DSp := spOf 1 1 (r_l_pen)
theorem b_l_pen {P : Program} {w : World} {K : PySem.W.Frag} {mg : Str → Option Value} {base : Heap} (z_list : mg "list" = none) {f : Addr} {cdv : Value} {A : Around} {outer : List PySem.Env} {s : Shared} {H : Hp} {E : XK} (hr : RoomG 0 (A.deeper (envOfC "_law_pen" (defScope s_l_pen) s.heap.objs.size f cdv))) :
    DSs (cxOf CX0 P w K mg base N_l_pen "_law_pen" (defScope s_l_pen) f cdv A outer s H E).nox (defBody s_l_pen) (ri_l_pen) := by
  have hu := hr.hu
  have hgd := hr.g
  have nd := sc_l_pen.nd
  exact (dss_one (ds_ret (de_lstM (da_cons (de_ty (dc_list rfl) z_list (by decide +kernel) (da_cons (de_slice (dv 0) do_none (do_some de_int)) da_nil)) (da_cons de_int (da_cons de_int da_nil))))))
theorem f_l_pen {P : Program} {w : World} {K : PySem.W.Frag} {mg : Str → Option Value} {base : Heap} (z_list : mg "list" = none) {f : Addr} {fd : FuncData} (F : Fun K "_law_pen" "_law_pen" s_l_pen f fd) : FnG P w K mg base CX0 1 f (liftSp K sp_l_pen) :=
  FnG.imp (sp := liftSp K (spOf0 1 1 (r_l_pen))) (fn_mk F sc_l_pen (F.binds (ps := ["_law_script"]) fun _ _ _ _ _ _ us hl => match us, hl with | [_], _ => rfl) (fun ds m R h => h.1) (fun cdv A outer s H E hr => b_l_pen z_list hr) fun ds m R h => h.2) lift_drop
/-! _law_draw -/
abbrev s_l_draw : Stmt := top 14
def N_l_draw : List Str := ["_law_pen_here", "_law_many", "_law_digit", "_law_begun", "_law_cell", "_law_great", "_law_mixed"]
theorem sc_l_draw : FnScope N_l_draw ["_law_pen_here", "_law_many"] (defScope s_l_draw) := ⟨rfl, rfl, rfl, by decide +kernel, rfl, by decide +kernel, by decide +kernel⟩
def r_l_draw_1 : DTS := (tRt (tV 2))
def r_l_draw_2 : DTS := (tSq (tAs (tBin dDiv (tFn (d1 dInt) (tAC (tBin dIx (tV 0) (tK (.int 2))) tA0)) (tV 1)) (gSb (tV 0) (tK (.int 2)))) r_l_draw_1)
def r_l_draw_3 : DTS := (tSq (tSet 2 (tBin dMod (tFn (d1 dInt) (tAC (tBin dIx (tV 0) (tK (.int 2))) tA0)) (tV 1))) r_l_draw_2)
def r_l_draw_4 : DTS := (tSet 4 (tBin dIx (tBin dIx (tV 0) (tK (.int 0))) (tBin dMod (tFn (d1 dInt) (tAC (tV 3) tA0)) (tFn (d1 dLen) (tAC (tBin dIx (tV 0) (tK (.int 0))) tA0)))))
def r_l_draw_5 : DTS := (tRt (tBin dMod (tFn (d1 dInt) (tAC (tV 5) tA0)) (tV 1)))
def r_l_draw_6 : DTS := (tSq (tAs (tBin dDiv (tFn (d1 dInt) (tAC (tV 5) tA0)) (tV 1)) (gSb (tV 0) (tK (.int 2)))) r_l_draw_5)
def r_l_draw_7 : DTS := (tSq (tSet 5 (tBin dAdd (tBin dMul (tK (.int 2)) (tBin dSub (tFn (d1 dAbs) (tAC (tV 4) tA0)) (tBin dPow (tK (.int 10)) (tK (.int 18))))) (tFn (d1 dInt) (tAC (tBin dLt (tV 4) (tK (.int 0))) tA0)))) r_l_draw_6)
def r_l_draw_8 : DTS := (tRt (tBin dMod (tBin dDiv (tFn (d1 dInt) (tAC (tV 6) tA0)) (tK (.int 64))) (tV 1)))
def r_l_draw_9 : DTS := (tSq (tSet 6 (tBin dMod (tFn (d1 dInt) (tAC (tBin dPow (tBin dAdd (tBin dAdd (tBin dMul (tV 6) (tBin dAdd (tBin dMul (tK (.int 2)) (tV 3)) (tK (.int 31)))) (tBin dMul (tBin dMul (tK (.int 65063)) (tV 3)) (tV 3))) (tK (.int 7))) (tK (.int 3))) tA0)) (tK (.int 2147483647)))) r_l_draw_8)
def r_l_draw_10 : DTS := (tSq (tSet 6 (tBin dMod (tFn (d1 dInt) (tAC (tBin dPow (tBin dAdd (tBin dAdd (tBin dMod (tFn (d1 dInt) (tAC (tV 4) tA0)) (tK (.int 2147483563))) (tBin dMul (tK (.int 84713)) (tV 3))) (tK (.int 29))) (tK (.int 5))) tA0)) (tK (.int 2147483629)))) r_l_draw_9)
def r_l_draw_11 : DTS := (tSq (tIfS (tAndT (tBinT dLt (tV 3) (tFn (d1 dLen) (tAC (tBin dIx (tV 0) (tK (.int 0))) tA0))) (tBinT dGe (tFn (d1 dAbs) (tAC (tV 4) tA0)) (tBin dPow (tK (.int 10)) (tK (.int 18))))) r_l_draw_7 tNx) r_l_draw_10)
def r_l_draw_12 : DTS := (tSq (tIfS (tBinT dNe (tBin dIx (tV 0) (tK (.int 0))) (tLstD tA0)) r_l_draw_4 tNx) r_l_draw_11)
def r_l_draw_13 : DTS := (tSq (tSet 4 (tBin dAdd (tBin dMul (tK (.int 52711)) (tV 3)) (tK (.int 907)))) r_l_draw_12)
def r_l_draw_14 : DTS := (tSq (tAs (tBin dAdd (tV 3) (tK (.int 1))) (gSb (tV 0) (tK (.int 1)))) r_l_draw_13)
def r_l_draw_15 : DTS := (tSq (tSet 3 (tBin dIx (tV 0) (tK (.int 1)))) r_l_draw_14)
def r_l_draw_16 : DTS := (tSq (tIfS (tBinT dGt (tBin dIx (tV 0) (tK (.int 2))) (tK (.int 0))) r_l_draw_3 tNx) r_l_draw_15)
def ri_l_draw : DTS := (tSq (tIfS (tBinT dGt (tBin dIx (tV 0) (tK (.int 2))) (tK (.int 0))) (tSq (tSet 2 (tBin dMod (tFn (d1 dInt) (tAC (tBin dIx (tV 0) (tK (.int 2))) tA0)) (tV 1))) (tSq (tAs (tBin dDiv (tFn (d1 dInt) (tAC (tBin dIx (tV 0) (tK (.int 2))) tA0)) (tV 1)) (gSb (tV 0) (tK (.int 2)))) (tRt (tV 2)))) tNx) (tSq (tSet 3 (tBin dIx (tV 0) (tK (.int 1)))) (tSq (tAs (tBin dAdd (tV 3) (tK (.int 1))) (gSb (tV 0) (tK (.int 1)))) (tSq (tSet 4 (tBin dAdd (tBin dMul (tK (.int 52711)) (tV 3)) (tK (.int 907)))) (tSq (tIfS (tBinT dNe (tBin dIx (tV 0) (tK (.int 0))) (tLstD tA0)) (tSet 4 (tBin dIx (tBin dIx (tV 0) (tK (.int 0))) (tBin dMod (tFn (d1 dInt) (tAC (tV 3) tA0)) (tFn (d1 dLen) (tAC (tBin dIx (tV 0) (tK (.int 0))) tA0))))) tNx) (tSq (tIfS (tAndT (tBinT dLt (tV 3) (tFn (d1 dLen) (tAC (tBin dIx (tV 0) (tK (.int 0))) tA0))) (tBinT dGe (tFn (d1 dAbs) (tAC (tV 4) tA0)) (tBin dPow (tK (.int 10)) (tK (.int 18))))) (tSq (tSet 5 (tBin dAdd (tBin dMul (tK (.int 2)) (tBin dSub (tFn (d1 dAbs) (tAC (tV 4) tA0)) (tBin dPow (tK (.int 10)) (tK (.int 18))))) (tFn (d1 dInt) (tAC (tBin dLt (tV 4) (tK (.int 0))) tA0)))) (tSq (tAs (tBin dDiv (tFn (d1 dInt) (tAC (tV 5) tA0)) (tV 1)) (gSb (tV 0) (tK (.int 2)))) (tRt (tBin dMod (tFn (d1 dInt) (tAC (tV 5) tA0)) (tV 1))))) tNx) (tSq (tSet 6 (tBin dMod (tFn (d1 dInt) (tAC (tBin dPow (tBin dAdd (tBin dAdd (tBin dMod (tFn (d1 dInt) (tAC (tV 4) tA0)) (tK (.int 2147483563))) (tBin dMul (tK (.int 84713)) (tV 3))) (tK (.int 29))) (tK (.int 5))) tA0)) (tK (.int 2147483629)))) (tSq (tSet 6 (tBin dMod (tFn (d1 dInt) (tAC (tBin dPow (tBin dAdd (tBin dAdd (tBin dMul (tV 6) (tBin dAdd (tBin dMul (tK (.int 2)) (tV 3)) (tK (.int 31)))) (tBin dMul (tBin dMul (tK (.int 65063)) (tV 3)) (tV 3))) (tK (.int 7))) (tK (.int 3))) tA0)) (tK (.int 2147483647)))) (tRt (tBin dMod (tBin dDiv (tFn (d1 dInt) (tAC (tV 6) tA0)) (tK (.int 64))) (tV 1)))))))))))
def r_l_draw : DTS := r_l_draw_16
theorem rr_l_draw : ri_l_draw = r_l_draw := rfl
def sp_l_draw : DSp := spOf 2 7 (r_l_draw)
theorem b_l_draw {P : Program} {w : World} {K : PySem.W.Frag} {mg : Str → Option Value} {base : Heap} (z_int : mg "int" = none) (z_len : mg "len" = none) (z_abs : mg "abs" = none) {f : Addr} {cdv : Value} {A : Around} {outer : List PySem.Env} {s : Shared} {H : Hp} {E : XK} (hr : RoomG 0 (A.deeper (envOfC "_law_draw" (defScope s_l_draw) s.heap.objs.size f cdv))) :
    DSs (cxOf CX0 P w K mg base N_l_draw "_law_draw" (defScope s_l_draw) f cdv A outer s H E).nox (defBody s_l_draw) (ri_l_draw) := by
  have hu := hr.hu
  have hgd := hr.g
  have nd := sc_l_draw.nd
  exact (dss_cons (ds_if (dt_cmp do_gt (de_ix hu (dv 0) de_int) de_int)
  (dss_cons (ds_set (i := 2) (de_op do_mod (de_ty dc_int z_int (by decide +kernel) (da_cons (de_ix hu (dv 0) de_int) da_nil)) (dv 1)) nd)
  (dss_cons (ds_asg (de_op do_div (de_ty dc_int z_int (by decide +kernel) (da_cons (de_ix hu (dv 0) de_int) da_nil)) (dv 1)) (dg_sub hu (dv 0) de_int))
  (dss_one (ds_ret (dv 2)))))
  dss_nil)
  (dss_cons (ds_set (i := 3) (de_ix hu (dv 0) de_int) nd)
  (dss_cons (ds_asg (de_op do_add (dv 3) de_int) (dg_sub hu (dv 0) de_int))
  (dss_cons (ds_set (i := 4) (de_op do_add (de_op do_mul de_int (dv 3)) de_int) nd)
  (dss_cons (ds_if (dt_cmp (do_ne hu) (de_ix hu (dv 0) de_int) (de_lst da_nil))
  (dss_one (ds_set (i := 4) (de_ix hu (de_ix hu (dv 0) de_int) (de_op do_mod (de_ty dc_int z_int (by decide +kernel) (da_cons (dv 3) da_nil)) (de_fn dc_len z_len (by decide +kernel) (da_cons (de_ix hu (dv 0) de_int) da_nil)))) nd))
  dss_nil)
  (dss_cons (ds_if (DW.dt (dw_and (dt_cmp do_lt (dv 3) (de_fn dc_len z_len (by decide +kernel) (da_cons (de_ix hu (dv 0) de_int) da_nil))) (dw_and1 (dt_cmp do_ge (de_fn dc_abs z_abs (by decide +kernel) (da_cons (dv 4) da_nil)) (de_op do_pow de_int de_int)))))
  (dss_cons (ds_set (i := 5) (de_op do_add (de_op do_mul de_int (de_op do_sub (de_fn dc_abs z_abs (by decide +kernel) (da_cons (dv 4) da_nil)) (de_op do_pow de_int de_int))) (de_ty dc_int z_int (by decide +kernel) (da_cons (de_cmp do_lt (dv 4) de_int) da_nil))) nd)
  (dss_cons (ds_asg (de_op do_div (de_ty dc_int z_int (by decide +kernel) (da_cons (dv 5) da_nil)) (dv 1)) (dg_sub hu (dv 0) de_int))
  (dss_one (ds_ret (de_op do_mod (de_ty dc_int z_int (by decide +kernel) (da_cons (dv 5) da_nil)) (dv 1))))))
  dss_nil)
  (dss_cons (ds_set (i := 6) (de_op do_mod (de_ty dc_int z_int (by decide +kernel) (da_cons (de_op do_pow (de_op do_add (de_op do_add (de_op do_mod (de_ty dc_int z_int (by decide +kernel) (da_cons (dv 4) da_nil)) de_int) (de_op do_mul de_int (dv 3))) de_int) de_int) da_nil)) de_int) nd)
  (dss_cons (ds_set (i := 6) (de_op do_mod (de_ty dc_int z_int (by decide +kernel) (da_cons (de_op do_pow (de_op do_add (de_op do_add (de_op do_mul (dv 6) (de_op do_add (de_op do_mul de_int (dv 3)) de_int)) (de_op do_mul (de_op do_mul de_int (dv 3)) (dv 3))) de_int) de_int) da_nil)) de_int) nd)
  (dss_one (ds_ret (de_op do_mod (de_op do_div (de_ty dc_int z_int (by decide +kernel) (da_cons (dv 6) da_nil)) de_int) (dv 1))))))))))))
theorem f_l_draw {P : Program} {w : World} {K : PySem.W.Frag} {mg : Str → Option Value} {base : Heap} (z_int : mg "int" = none) (z_len : mg "len" = none) (z_abs : mg "abs" = none) {f : Addr} {fd : FuncData} (F : Fun K "_law_draw" "_law_draw" s_l_draw f fd) : FnG P w K mg base CX0 1 f (liftSp K sp_l_draw) :=
  FnG.imp (sp := liftSp K (spOf0 2 7 (r_l_draw))) (fn_mk F sc_l_draw (F.binds (ps := ["_law_pen_here", "_law_many"]) fun _ _ _ _ _ _ us hl => match us, hl with | [_, _], _ => rfl) (fun ds m R h => h.1) (fun cdv A outer s H E hr => b_l_draw z_int z_len z_abs hr) fun ds m R h => h.2) lift_drop
/-! _law_words -/
abbrev s_l_words : Stmt := top 15
def N_l_words : List Str := ["_law_pen_here", "_law_many", "_law_letters", "_law_barred", "_law_base", "_law_found", "_law_k", "_law_at", "_law_word", "_law_some", "_law_letter", "_law_one", "_law_j"]
theorem sc_l_words : FnScope N_l_words ["_law_pen_here", "_law_many"] (defScope s_l_words) := ⟨rfl, rfl, rfl, by decide +kernel, rfl, by decide +kernel, by decide +kernel⟩
def r_l_words_1 : DTE := (tBin dIx (tV 2) (tCl sp_l_draw (tAC (tV 0) (tAC (tK (.int 26)) tA0))))
def r_l_words_2 : DTS := (tSet 8 (tSlD (tV 4) tON (tOS (tBin dAdd (tK (.int 1)) (tCl sp_l_draw (tAC (tV 0) (tAC (tFn (d1 dLen) (tAC (tV 4) tA0)) tA0)))))))
def r_l_words_3 : DTE := (tBin dIx (tV 2) (tCl sp_l_draw (tAC (tV 0) (tAC (tK (.int 26)) tA0))))
def r_l_words_4 : DTS := (tSet 8 (tJoin (tK (.str "")) (tFrz (tLcM (iRg (tAC (tBin dAdd (tK (.int 1)) (tCl sp_l_draw (tAC (tV 0) (tAC (tK (.int 8)) tA0)))) tA0)) (.one 12) tYe r_l_words_3 [12]))))
def r_l_words_5 : DTS := (tIfS (tBinT dGt (tV 7) (tFn (d1 dLen) (tAC (tV 4) tA0))) r_l_words_4 tNx)
def r_l_words_6 : DTE := (tBin dAdd (tSlD (tV 8) tON (tOS (tK (.int 7)))) (tV 10))
def r_l_words_7 : DTT := (tAndT (tBinT dNotIn (tV 11) (tV 5)) (tBinT dNotIn (tV 11) (tV 3)))
def r_l_words_8 : DTE := (tV 11)
def r_l_words_9 : DTS := (tDr (tApp (tV 5) (tBin dIx (tFrz (tLcM (iSeq (tV 9)) (.one 11) r_l_words_7 r_l_words_8 [11])) (tK (.int 0)))))
def r_l_words_10 : DTS := (tSq (tSet 9 (tBin dAdd (tLstD (tAC (tV 8) tA0)) (tFrz (tLcM (iSeq (tV 2)) (.one 10) tYe r_l_words_6 [10])))) r_l_words_9)
def r_l_words_11 : DTS := (tSq (tIfS (tBinT dEq (tV 7) (tFn (d1 dLen) (tAC (tV 4) tA0))) r_l_words_2 r_l_words_5) r_l_words_10)
def r_l_words_12 : DTS := (tSq (tSet 8 (tBin dAdd (tBin dAdd (tSlD (tV 4) tON (tOS (tV 7))) (tBin dIx (tV 2) (tCl sp_l_draw (tAC (tV 0) (tAC (tK (.int 26)) tA0))))) (tSlD (tV 4) (tOS (tBin dAdd (tV 7) (tK (.int 1)))) tON))) r_l_words_11)
def r_l_words_13 : DTS := (tSq (tSet 7 (tCl sp_l_draw (tAC (tV 0) (tAC (tBin dAdd (tFn (d1 dLen) (tAC (tV 4) tA0)) (tK (.int 3))) tA0)))) r_l_words_12)
def r_l_words_14 : DTS := (tRt (tFrz (tV 5)))
def r_l_words_15 : DTS := (tSq (tFo (iRg (tAC (tV 1) tA0)) (.one 6) r_l_words_13) r_l_words_14)
def r_l_words_16 : DTS := (tSq (tSet 5 (tLstM tA0)) r_l_words_15)
def r_l_words_17 : DTS := (tSq (tSet 4 (tJoin (tK (.str "")) (tFrz (tLcM (iRg (tAC (tBin dAdd (tK (.int 1)) (tCl sp_l_draw (tAC (tV 0) (tAC (tK (.int 8)) tA0)))) tA0)) (.one 6) tYe r_l_words_1 [6])))) r_l_words_16)
def r_l_words_18 : DTS := (tSq (tSet 3 (tBin dAdd (tV 3) (tLstD (tAC (tK (.str "error")) (tAC (tK (.str "vacant")) tA0))))) r_l_words_17)
def r_l_words_19 : DTS := (tSq (tSet 3 (tBin dAdd (tV 3) (tLstD (tAC (tK (.str "either")) (tAC (tK (.str "or")) (tAC (tK (.str "loop")) (tAC (tK (.str "try")) (tAC (tK (.str "except")) (tAC (tK (.str "as")) (tAC (tK (.str "finally")) (tAC (tK (.str "with")) (tAC (tK (.str "quiet")) (tAC (tK (.str "class")) (tAC (tK (.str "def")) tA0)))))))))))))) r_l_words_18)
def r_l_words_20 : DTS := (tSq (tSet 3 (tLstD (tAC (tK (.str "pass")) (tAC (tK (.str "raise")) (tAC (tK (.str "from")) (tAC (tK (.str "none")) (tAC (tK (.str "again")) (tAC (tK (.str "return")) (tAC (tK (.str "returns")) (tAC (tK (.str "break")) (tAC (tK (.str "call")) (tAC (tK (.str "handling")) (tAC (tK (.str "else")) tA0))))))))))))) r_l_words_19)
def r_l_words_21 : DTS := (tSq (tSet 2 (tK (.str "abcdefghijklmnopqrstuvwxyz"))) r_l_words_20)
def ri_l_words : DTS := (tSq (tSet 2 (tK (.str "abcdefghijklmnopqrstuvwxyz"))) (tSq (tSet 3 (tLstD (tAC (tK (.str "pass")) (tAC (tK (.str "raise")) (tAC (tK (.str "from")) (tAC (tK (.str "none")) (tAC (tK (.str "again")) (tAC (tK (.str "return")) (tAC (tK (.str "returns")) (tAC (tK (.str "break")) (tAC (tK (.str "call")) (tAC (tK (.str "handling")) (tAC (tK (.str "else")) tA0))))))))))))) (tSq (tSet 3 (tBin dAdd (tV 3) (tLstD (tAC (tK (.str "either")) (tAC (tK (.str "or")) (tAC (tK (.str "loop")) (tAC (tK (.str "try")) (tAC (tK (.str "except")) (tAC (tK (.str "as")) (tAC (tK (.str "finally")) (tAC (tK (.str "with")) (tAC (tK (.str "quiet")) (tAC (tK (.str "class")) (tAC (tK (.str "def")) tA0)))))))))))))) (tSq (tSet 3 (tBin dAdd (tV 3) (tLstD (tAC (tK (.str "error")) (tAC (tK (.str "vacant")) tA0))))) (tSq (tSet 4 (tJoin (tK (.str "")) (tFrz (tLcM (iRg (tAC (tBin dAdd (tK (.int 1)) (tCl sp_l_draw (tAC (tV 0) (tAC (tK (.int 8)) tA0)))) tA0)) (.one 6) tYe (tBin dIx (tV 2) (tCl sp_l_draw (tAC (tV 0) (tAC (tK (.int 26)) tA0)))) [6])))) (tSq (tSet 5 (tLstM tA0)) (tSq (tFo (iRg (tAC (tV 1) tA0)) (.one 6) (tSq (tSet 7 (tCl sp_l_draw (tAC (tV 0) (tAC (tBin dAdd (tFn (d1 dLen) (tAC (tV 4) tA0)) (tK (.int 3))) tA0)))) (tSq (tSet 8 (tBin dAdd (tBin dAdd (tSlD (tV 4) tON (tOS (tV 7))) (tBin dIx (tV 2) (tCl sp_l_draw (tAC (tV 0) (tAC (tK (.int 26)) tA0))))) (tSlD (tV 4) (tOS (tBin dAdd (tV 7) (tK (.int 1)))) tON))) (tSq (tIfS (tBinT dEq (tV 7) (tFn (d1 dLen) (tAC (tV 4) tA0))) (tSet 8 (tSlD (tV 4) tON (tOS (tBin dAdd (tK (.int 1)) (tCl sp_l_draw (tAC (tV 0) (tAC (tFn (d1 dLen) (tAC (tV 4) tA0)) tA0))))))) (tIfS (tBinT dGt (tV 7) (tFn (d1 dLen) (tAC (tV 4) tA0))) (tSet 8 (tJoin (tK (.str "")) (tFrz (tLcM (iRg (tAC (tBin dAdd (tK (.int 1)) (tCl sp_l_draw (tAC (tV 0) (tAC (tK (.int 8)) tA0)))) tA0)) (.one 12) tYe (tBin dIx (tV 2) (tCl sp_l_draw (tAC (tV 0) (tAC (tK (.int 26)) tA0)))) [12])))) tNx)) (tSq (tSet 9 (tBin dAdd (tLstD (tAC (tV 8) tA0)) (tFrz (tLcM (iSeq (tV 2)) (.one 10) tYe (tBin dAdd (tSlD (tV 8) tON (tOS (tK (.int 7)))) (tV 10)) [10])))) (tDr (tApp (tV 5) (tBin dIx (tFrz (tLcM (iSeq (tV 9)) (.one 11) (tAndT (tBinT dNotIn (tV 11) (tV 5)) (tBinT dNotIn (tV 11) (tV 3))) (tV 11) [11])) (tK (.int 0)))))))))) (tRt (tFrz (tV 5))))))))))
def r_l_words : DTS := r_l_words_21
theorem rr_l_words : ri_l_words = r_l_words := rfl
def sp_l_words : DSp := spOf 2 13 (r_l_words)
theorem b_l_words {P : Program} {w : World} {K : PySem.W.Frag} {mg : Str → Option Value} {base : Heap} (c_l_draw : CalW P w K mg base "_law_draw" 1 sp_l_draw) (z_range : mg "range" = none) (z_len : mg "len" = none) {f : Addr} {cdv : Value} {A : Around} {outer : List PySem.Env} {s : Shared} {H : Hp} {E : XK} (hr : RoomG 1 (A.deeper (envOfC "_law_words" (defScope s_l_words) s.heap.objs.size f cdv))) :
    DSs (cxOf CX0 P w K mg base N_l_words "_law_words" (defScope s_l_words) f cdv A outer s H E).nox (defBody s_l_words) (ri_l_words) := by
  have hu := hr.hu
  have hgd := hr.g
  have nd := sc_l_words.nd
  exact (dss_cons (ds_set (i := 2) de_str nd)
  (dss_cons (ds_set (i := 3) (de_lst (da_cons de_str (da_cons de_str (da_cons de_str (da_cons de_str (da_cons de_str (da_cons de_str (da_cons de_str (da_cons de_str (da_cons de_str (da_cons de_str (da_cons de_str da_nil)))))))))))) nd)
  (dss_cons (ds_set (i := 3) (de_op do_add (dv 3) (de_lst (da_cons de_str (da_cons de_str (da_cons de_str (da_cons de_str (da_cons de_str (da_cons de_str (da_cons de_str (da_cons de_str (da_cons de_str (da_cons de_str (da_cons de_str da_nil))))))))))))) nd)
  (dss_cons (ds_set (i := 3) (de_op do_add (dv 3) (de_lst (da_cons de_str (da_cons de_str da_nil)))) nd)
  (dss_cons (ds_set (i := 4) (de_join de_str (de_frz (de_lc (own := [("_law_k", 6)]) (di_range z_range (da_cons (de_op do_add de_int (de_call ⟨c_l_draw⟩ (hr.mono (by decide)) (da_cons (dv 0) (da_cons de_int da_nil)))) da_nil)) (blkOk_by (N := N_l_words) (sc := defScope s_l_words) (own := [("_law_k", 6)]) (by decide +kernel)) nd rfl (fun _ _ _ _ _ => (dgt_one (i := 6) nd)) (fun _ _ _ _ _ => dts_nil) (fun _ _ _ _ _ => (de_ix hu (dv 2) (de_call ⟨c_l_draw⟩ (hr.mono (by decide)) (da_cons (dv 0) (da_cons de_int da_nil)))))))) nd)
  (dss_cons (ds_set (i := 5) (de_lstM da_nil) nd)
  (dss_cons (ds_for (di_range z_range (da_cons (dv 1) da_nil)) (dgt_one (i := 6) nd)
  (dss_cons (ds_set (i := 7) (de_call ⟨c_l_draw⟩ (hr.mono (by decide)) (da_cons (dv 0) (da_cons (de_op do_add (de_fn dc_len z_len (by decide +kernel) (da_cons (dv 4) da_nil)) de_int) da_nil))) nd)
  (dss_cons (ds_set (i := 8) (de_op do_add (de_op do_add (de_slice (dv 4) do_none (do_some (dv 7))) (de_ix hu (dv 2) (de_call ⟨c_l_draw⟩ (hr.mono (by decide)) (da_cons (dv 0) (da_cons de_int da_nil))))) (de_slice (dv 4) (do_some (de_op do_add (dv 7) de_int)) do_none)) nd)
  (dss_cons (ds_if (dt_cmp (do_eq hu) (dv 7) (de_fn dc_len z_len (by decide +kernel) (da_cons (dv 4) da_nil)))
  (dss_one (ds_set (i := 8) (de_slice (dv 4) do_none (do_some (de_op do_add de_int (de_call ⟨c_l_draw⟩ (hr.mono (by decide)) (da_cons (dv 0) (da_cons (de_fn dc_len z_len (by decide +kernel) (da_cons (dv 4) da_nil)) da_nil)))))) nd))
  (dss_one (ds_if (dt_cmp do_gt (dv 7) (de_fn dc_len z_len (by decide +kernel) (da_cons (dv 4) da_nil)))
  (dss_one (ds_set (i := 8) (de_join de_str (de_frz (de_lc (own := [("_law_j", 12)]) (di_range z_range (da_cons (de_op do_add de_int (de_call ⟨c_l_draw⟩ (hr.mono (by decide)) (da_cons (dv 0) (da_cons de_int da_nil)))) da_nil)) (blkOk_by (N := N_l_words) (sc := defScope s_l_words) (own := [("_law_j", 12)]) (by decide +kernel)) nd rfl (fun _ _ _ _ _ => (dgt_one (i := 12) nd)) (fun _ _ _ _ _ => dts_nil) (fun _ _ _ _ _ => (de_ix hu (dv 2) (de_call ⟨c_l_draw⟩ (hr.mono (by decide)) (da_cons (dv 0) (da_cons de_int da_nil)))))))) nd))
  dss_nil)))
  (dss_cons (ds_set (i := 9) (de_op do_add (de_lst (da_cons (dv 8) da_nil)) (de_frz (de_lc (own := [("_law_letter", 10)]) (di_seq (dv 2)) (blkOk_by (N := N_l_words) (sc := defScope s_l_words) (own := [("_law_letter", 10)]) (by decide +kernel)) nd rfl (fun _ _ _ _ _ => (dgt_one (i := 10) nd)) (fun _ _ _ _ _ => dts_nil) (fun _ _ _ _ _ => (de_op do_add (de_slice (dv 8) do_none (do_some de_int)) (dv 10)))))) nd)
  (dss_one (ds_expr (de_app (dv 5) (de_ix hu (de_frz (de_lc (own := [("_law_one", 11)]) (di_seq (dv 9)) (blkOk_by (N := N_l_words) (sc := defScope s_l_words) (own := [("_law_one", 11)]) (by decide +kernel)) nd rfl (fun _ _ _ _ _ => (dgt_one (i := 11) nd)) (fun _ _ _ _ _ => (dts_one (DW.dt (dw_and (dt_cmp (do_notin hu) (dv 11) (dv 5)) (dw_and1 (dt_cmp (do_notin hu) (dv 11) (dv 3))))))) (fun _ _ _ _ _ => (dv 11)))) de_int)))))))) rfl PassesOwn.never)
  (dss_one (ds_ret (de_frz (dv 5)))))))))))
theorem f_l_words {P : Program} {w : World} {K : PySem.W.Frag} {mg : Str → Option Value} {base : Heap} (c_l_draw : CalW P w K mg base "_law_draw" 1 sp_l_draw) (z_range : mg "range" = none) (z_len : mg "len" = none) {f : Addr} {fd : FuncData} (F : Fun K "_law_words" "_law_words" s_l_words f fd) : FnG P w K mg base CX0 2 f (liftSp K sp_l_words) :=
  FnG.imp (sp := liftSp K (spOf0 2 13 (r_l_words))) (fn_mk F sc_l_words (F.binds (ps := ["_law_pen_here", "_law_many"]) fun _ _ _ _ _ _ us hl => match us, hl with | [_, _], _ => rfl) (fun ds m R h => h.1) (fun cdv A outer s H E hr => b_l_words c_l_draw z_range z_len hr) fun ds m R h => h.2) lift_drop
/-! _law_acts -/
abbrev s_l_acts : Stmt := top 16
def N_l_acts : List Str := ["_law_pen_here", "_law_outside", "_law_classes", "_law_many", "_law_found", "_law_k", "_law_while_handled", "_law_outcome"]
theorem sc_l_acts : FnScope N_l_acts ["_law_pen_here", "_law_outside", "_law_classes", "_law_many"] (defScope s_l_acts) := ⟨rfl, rfl, rfl, by decide +kernel, rfl, by decide +kernel, by decide +kernel⟩
def r_l_acts_1 : DTS := (tDr (tApp (tV 4) (tTupD (tAC (tBin dIx (tV 1) (tCl sp_l_draw (tAC (tV 0) (tAC (tFn (d1 dLen) (tAC (tV 1) tA0)) tA0)))) (tAC (tV 6) (tAC (tV 7) tA0))))))
def r_l_acts_2 : DTS := (tSq (tSet 7 (tBin dIx (tBin dAdd (tLstD (tAC (tK (.str "returns")) tA0)) (tV 2)) (tCl sp_l_draw (tAC (tV 0) (tAC (tBin dAdd (tFn (d1 dLen) (tAC (tV 2) tA0)) (tK (.int 1))) tA0))))) r_l_acts_1)
def r_l_acts_3 : DTS := (tSq (tSet 6 (tBin dIx (tBin dAdd (tLstD (tAC (tK .non) tA0)) (tV 2)) (tCl sp_l_draw (tAC (tV 0) (tAC (tBin dAdd (tFn (d1 dLen) (tAC (tV 2) tA0)) (tK (.int 1))) tA0))))) r_l_acts_2)
def r_l_acts_4 : DTS := (tRt (tFrz (tV 4)))
def r_l_acts_5 : DTS := (tSq (tFo (iRg (tAC (tV 3) tA0)) (.one 5) r_l_acts_3) r_l_acts_4)
def r_l_acts_6 : DTS := (tSq (tSet 4 (tLstM tA0)) r_l_acts_5)
def ri_l_acts : DTS := (tSq (tSet 4 (tLstM tA0)) (tSq (tFo (iRg (tAC (tV 3) tA0)) (.one 5) (tSq (tSet 6 (tBin dIx (tBin dAdd (tLstD (tAC (tK .non) tA0)) (tV 2)) (tCl sp_l_draw (tAC (tV 0) (tAC (tBin dAdd (tFn (d1 dLen) (tAC (tV 2) tA0)) (tK (.int 1))) tA0))))) (tSq (tSet 7 (tBin dIx (tBin dAdd (tLstD (tAC (tK (.str "returns")) tA0)) (tV 2)) (tCl sp_l_draw (tAC (tV 0) (tAC (tBin dAdd (tFn (d1 dLen) (tAC (tV 2) tA0)) (tK (.int 1))) tA0))))) (tDr (tApp (tV 4) (tTupD (tAC (tBin dIx (tV 1) (tCl sp_l_draw (tAC (tV 0) (tAC (tFn (d1 dLen) (tAC (tV 1) tA0)) tA0)))) (tAC (tV 6) (tAC (tV 7) tA0))))))))) (tRt (tFrz (tV 4)))))
def r_l_acts : DTS := r_l_acts_6
theorem rr_l_acts : ri_l_acts = r_l_acts := rfl
def sp_l_acts : DSp := spOf 4 8 (r_l_acts)
theorem b_l_acts {P : Program} {w : World} {K : PySem.W.Frag} {mg : Str → Option Value} {base : Heap} (z_range : mg "range" = none) (c_l_draw : CalW P w K mg base "_law_draw" 1 sp_l_draw) (z_len : mg "len" = none) {f : Addr} {cdv : Value} {A : Around} {outer : List PySem.Env} {s : Shared} {H : Hp} {E : XK} (hr : RoomG 1 (A.deeper (envOfC "_law_acts" (defScope s_l_acts) s.heap.objs.size f cdv))) :
    DSs (cxOf CX0 P w K mg base N_l_acts "_law_acts" (defScope s_l_acts) f cdv A outer s H E).nox (defBody s_l_acts) (ri_l_acts) := by
  have hu := hr.hu
  have hgd := hr.g
  have nd := sc_l_acts.nd
  exact (dss_cons (ds_set (i := 4) (de_lstM da_nil) nd)
  (dss_cons (ds_for (di_range z_range (da_cons (dv 3) da_nil)) (dgt_one (i := 5) nd)
  (dss_cons (ds_set (i := 6) (de_ix hu (de_op do_add (de_lst (da_cons de_non da_nil)) (dv 2)) (de_call ⟨c_l_draw⟩ (hr.mono (by decide)) (da_cons (dv 0) (da_cons (de_op do_add (de_fn dc_len z_len (by decide +kernel) (da_cons (dv 2) da_nil)) de_int) da_nil)))) nd)
  (dss_cons (ds_set (i := 7) (de_ix hu (de_op do_add (de_lst (da_cons de_str da_nil)) (dv 2)) (de_call ⟨c_l_draw⟩ (hr.mono (by decide)) (da_cons (dv 0) (da_cons (de_op do_add (de_fn dc_len z_len (by decide +kernel) (da_cons (dv 2) da_nil)) de_int) da_nil)))) nd)
  (dss_one (ds_expr (de_app (dv 4) (de_tup (da_cons (de_ix hu (dv 1) (de_call ⟨c_l_draw⟩ (hr.mono (by decide)) (da_cons (dv 0) (da_cons (de_fn dc_len z_len (by decide +kernel) (da_cons (dv 1) da_nil)) da_nil)))) (da_cons (dv 6) (da_cons (dv 7) da_nil))))))))) rfl PassesOwn.never)
  (dss_one (ds_ret (de_frz (dv 4))))))
theorem f_l_acts {P : Program} {w : World} {K : PySem.W.Frag} {mg : Str → Option Value} {base : Heap} (z_range : mg "range" = none) (c_l_draw : CalW P w K mg base "_law_draw" 1 sp_l_draw) (z_len : mg "len" = none) {f : Addr} {fd : FuncData} (F : Fun K "_law_acts" "_law_acts" s_l_acts f fd) : FnG P w K mg base CX0 2 f (liftSp K sp_l_acts) :=
  FnG.imp (sp := liftSp K (spOf0 4 8 (r_l_acts))) (fn_mk F sc_l_acts (F.binds (ps := ["_law_pen_here", "_law_outside", "_law_classes", "_law_many"]) fun _ _ _ _ _ _ us hl => match us, hl with | [_, _, _, _], _ => rfl) (fun ds m R h => h.1) (fun cdv A outer s H E hr => b_l_acts z_range c_l_draw z_len hr) fun ds m R h => h.2) lift_drop
/-! is_word -/
abbrev s_is_word : Stmt := top 7
def N_is_word : List Str := ["value", "letter"]
theorem sc_is_word : FnScope N_is_word ["value"] (defScope s_is_word) := ⟨rfl, rfl, rfl, by decide +kernel, rfl, by decide +kernel, by decide +kernel⟩
def r_is_word_1 : DTS := (tRt (tK (.bl false)))
def r_is_word_2 : DTE := (tBin dIn (tV 1) (tK (.str "abcdefghijklmnopqrstuvwxyz")))
def r_is_word_3 : DTS := (tRt (tFn (d1 dAll) (tAC (tFrz (tLcM (iSeq (tV 0)) (.one 1) tYe r_is_word_2 [1])) tA0)))
def r_is_word_4 : DTS := (tSq (tIfS (tOrT (tNotT (tTru (tFn (dIsi JB) (tAC (tV 0) (tAC (tK (.ty "str")) tA0))))) (tOrT (tNotT (tChainT dLe dLe (tK (.int 1)) (tFn (d1 dLen) (tAC (tV 0) tA0)) (tK (.int 8)))) (tBinT dIn (tV 0) (tK (.tup (c_RESERVED.map .str)))))) r_is_word_1 tNx) r_is_word_3)
def ri_is_word : DTS := (tSq (tIfS (tOrT (tNotT (tTru (tFn (dIsi JB) (tAC (tV 0) (tAC (tK (.ty "str")) tA0))))) (tOrT (tNotT (tChainT dLe dLe (tK (.int 1)) (tFn (d1 dLen) (tAC (tV 0) tA0)) (tK (.int 8)))) (tBinT dIn (tV 0) (tK (.tup (c_RESERVED.map .str)))))) (tRt (tK (.bl false))) tNx) (tRt (tFn (d1 dAll) (tAC (tFrz (tLcM (iSeq (tV 0)) (.one 1) tYe (tBin dIn (tV 1) (tK (.str "abcdefghijklmnopqrstuvwxyz"))) [1])) tA0))))
def r_is_word : DTS := r_is_word_4
theorem rr_is_word : ri_is_word = r_is_word := rfl
def sp_is_word : DSp := spOf 1 2 (r_is_word)
theorem b_is_word {P : Program} {w : World} {K : PySem.W.Frag} {mg : Str → Option Value} {base : Heap} (z_str : mg "str" = none) (z_isinstance : mg "isinstance" = none) (z_len : mg "len" = none) (g_LONGEST : GV K mg "LONGEST" (.int 8)) (g_RESERVED : GV K mg "RESERVED" (.tup (c_RESERVED.map .str))) (g_LETTERS : GV K mg "LETTERS" (.str "abcdefghijklmnopqrstuvwxyz")) (z_all : mg "all" = none) {f : Addr} {cdv : Value} {A : Around} {outer : List PySem.Env} {s : Shared} {H : Hp} {E : XK} (hr : RoomG 0 (A.deeper (envOfC "is_word" (defScope s_is_word) s.heap.objs.size f cdv))) :
    DSs (cxOf CX0 P w K mg base N_is_word "is_word" (defScope s_is_word) f cdv A outer s H E).nox (defBody s_is_word) (ri_is_word) := by
  have hu := hr.hu
  have hgd := hr.g
  have nd := sc_is_word.nd
  exact (dss_cons (ds_if (DW.dt (dw_or (dt_not (dt_truth (de_fn (dc_isi jb_ok) z_isinstance (by decide +kernel) (da_cons (dv 0) (da_cons (de_bty z_str (by decide +kernel)) da_nil))))) (dw_or (dt_not (dt_chain do_le do_le de_int (de_fn dc_len z_len (by decide +kernel) (da_cons (dv 0) da_nil)) (de_gv g_LONGEST))) (dw_or1 (dt_cmp (do_in hu) (dv 0) (de_gv g_RESERVED))))))
  (dss_one (ds_ret de_bl))
  dss_nil)
  (dss_one (ds_ret (de_fn (dc_all rfl) z_all (by decide +kernel) (da_cons (de_frz (de_lc (own := [("letter", 1)]) (di_seq (dv 0)) (blkOk_by (N := N_is_word) (sc := defScope s_is_word) (own := [("letter", 1)]) (by decide +kernel)) nd rfl (fun _ _ _ _ _ => (dgt_one (i := 1) nd)) (fun _ _ _ _ _ => dts_nil) (fun _ _ _ _ _ => (de_cmp (do_in hu) (dv 1) (de_gv g_LETTERS))))) da_nil)))))
theorem f_is_word {P : Program} {w : World} {K : PySem.W.Frag} {mg : Str → Option Value} {base : Heap} (z_str : mg "str" = none) (z_isinstance : mg "isinstance" = none) (z_len : mg "len" = none) (g_LONGEST : GV K mg "LONGEST" (.int 8)) (g_RESERVED : GV K mg "RESERVED" (.tup (c_RESERVED.map .str))) (g_LETTERS : GV K mg "LETTERS" (.str "abcdefghijklmnopqrstuvwxyz")) (z_all : mg "all" = none) {f : Addr} {fd : FuncData} (F : Fun K "is_word" "is_word" s_is_word f fd) : FnG P w K mg base CX0 1 f (liftSp K sp_is_word) :=
  FnG.imp (sp := liftSp K (spOf0 1 2 (r_is_word))) (fn_mk F sc_is_word (F.binds (ps := ["value"]) fun _ _ _ _ _ _ us hl => match us, hl with | [_], _ => rfl) (fun ds m R h => h.1) (fun cdv A outer s H E hr => b_is_word z_str z_isinstance z_len g_LONGEST g_RESERVED g_LETTERS z_all hr) fun ds m R h => h.2) lift_drop
/-! is_act -/
abbrev s_is_act : Stmt := top 9
def N_is_act : List Str := ["row", "callback", "handled", "outcome"]
theorem sc_is_act : FnScope N_is_act ["row"] (defScope s_is_act) := ⟨rfl, rfl, rfl, by decide +kernel, rfl, by decide +kernel, by decide +kernel⟩
def r_is_act_1 : DTS := (tRt (tK (.bl false)))
def r_is_act_2 : DTS := (tRt (tK (.bl false)))
def r_is_act_3 : DTS := (tRt (tOrV (tCl sp_is_word (tAC (tV 3) tA0)) (tAndV (tFn (dIsi JB) (tAC (tV 3) (tAC (tK (.ty "str")) tA0))) (tBin dEq (tV 3) (tK (.str "returns"))))))
def r_is_act_4 : DTS := (tSq (tIfS (tOrT (tNotT (tTru (tCl sp_is_word (tAC (tV 1) tA0)))) (tNotT (tOrT (tBinT dIs (tV 2) (tK .non)) (tTru (tCl sp_is_word (tAC (tV 2) tA0)))))) r_is_act_2 tNx) r_is_act_3)
def r_is_act_5 : DTS := (tSq (tAs (tV 0) (tgD (.many [1, 2, 3]))) r_is_act_4)
def r_is_act_6 : DTS := (tSq (tIfS (tOrT (tNotT (tTru (tFn (dIsi JB) (tAC (tV 0) (tAC (tK (.ty "tuple")) tA0))))) (tBinT dNe (tFn (d1 dLen) (tAC (tV 0) tA0)) (tK (.int 3)))) r_is_act_1 tNx) r_is_act_5)
def ri_is_act : DTS := (tSq (tIfS (tOrT (tNotT (tTru (tFn (dIsi JB) (tAC (tV 0) (tAC (tK (.ty "tuple")) tA0))))) (tBinT dNe (tFn (d1 dLen) (tAC (tV 0) tA0)) (tK (.int 3)))) (tRt (tK (.bl false))) tNx) (tSq (tAs (tV 0) (tgD (.many [1, 2, 3]))) (tSq (tIfS (tOrT (tNotT (tTru (tCl sp_is_word (tAC (tV 1) tA0)))) (tNotT (tOrT (tBinT dIs (tV 2) (tK .non)) (tTru (tCl sp_is_word (tAC (tV 2) tA0)))))) (tRt (tK (.bl false))) tNx) (tRt (tOrV (tCl sp_is_word (tAC (tV 3) tA0)) (tAndV (tFn (dIsi JB) (tAC (tV 3) (tAC (tK (.ty "str")) tA0))) (tBin dEq (tV 3) (tK (.str "returns")))))))))
def r_is_act : DTS := r_is_act_6
theorem rr_is_act : ri_is_act = r_is_act := rfl
def sp_is_act : DSp := spOf 1 4 (r_is_act)
theorem b_is_act {P : Program} {w : World} {K : PySem.W.Frag} {mg : Str → Option Value} {base : Heap} (z_tuple : mg "tuple" = none) (z_isinstance : mg "isinstance" = none) (z_len : mg "len" = none) (c_is_word : CalW P w K mg base "is_word" 1 sp_is_word) (z_str : mg "str" = none) {f : Addr} {cdv : Value} {A : Around} {outer : List PySem.Env} {s : Shared} {H : Hp} {E : XK} (hr : RoomG 1 (A.deeper (envOfC "is_act" (defScope s_is_act) s.heap.objs.size f cdv))) :
    DSs (cxOf CX0 P w K mg base N_is_act "is_act" (defScope s_is_act) f cdv A outer s H E).nox (defBody s_is_act) (ri_is_act) := by
  have hu := hr.hu
  have hgd := hr.g
  have nd := sc_is_act.nd
  exact (dss_cons (ds_if (DW.dt (dw_or (dt_not (dt_truth (de_fn (dc_isi jb_ok) z_isinstance (by decide +kernel) (da_cons (dv 0) (da_cons (de_bty z_tuple (by decide +kernel)) da_nil))))) (dw_or1 (dt_cmp (do_ne hu) (de_fn dc_len z_len (by decide +kernel) (da_cons (dv 0) da_nil)) de_int))))
  (dss_one (ds_ret de_bl))
  dss_nil)
  (dss_cons (ds_asg (dv 0) (DGt.dg (dgt_many rfl (dgn_cons (i := 1) (dgn_cons (i := 2) (dgn_cons (i := 3) dgn_nil nd) nd) nd))))
  (dss_cons (ds_if (DW.dt (dw_or (dt_not (dt_truth (de_call ⟨c_is_word⟩ (hr.mono (by decide)) (da_cons (dv 1) da_nil)))) (dw_or1 (dt_not (DW.dt (dw_or (dt_cmp do_is (dv 2) de_non) (dw_or1 (dt_truth (de_call ⟨c_is_word⟩ (hr.mono (by decide)) (da_cons (dv 2) da_nil))))))))))
  (dss_one (ds_ret de_bl))
  dss_nil)
  (dss_one (ds_ret (de_or (de_call ⟨c_is_word⟩ (hr.mono (by decide)) (da_cons (dv 3) da_nil)) (de_one (de_and (de_fn (dc_isi jb_ok) z_isinstance (by decide +kernel) (da_cons (dv 3) (da_cons (de_bty z_str (by decide +kernel)) da_nil))) (de_one (de_cmp (do_eq hu) (dv 3) de_str))))))))))
theorem f_is_act {P : Program} {w : World} {K : PySem.W.Frag} {mg : Str → Option Value} {base : Heap} (z_tuple : mg "tuple" = none) (z_isinstance : mg "isinstance" = none) (z_len : mg "len" = none) (c_is_word : CalW P w K mg base "is_word" 1 sp_is_word) (z_str : mg "str" = none) {f : Addr} {fd : FuncData} (F : Fun K "is_act" "is_act" s_is_act f fd) : FnG P w K mg base CX0 2 f (liftSp K sp_is_act) :=
  FnG.imp (sp := liftSp K (spOf0 1 4 (r_is_act))) (fn_mk F sc_is_act (F.binds (ps := ["row"]) fun _ _ _ _ _ _ us hl => match us, hl with | [_], _ => rfl) (fun ds m R h => h.1) (fun cdv A outer s H E hr => b_is_act z_tuple z_isinstance z_len c_is_word z_str hr) fun ds m R h => h.2) lift_drop
/-! act_place -/
abbrev s_act_place : Stmt := top 10
def N_act_place : List Str := ["act", "callback", "handled", "outcome"]
theorem sc_act_place : FnScope N_act_place ["act"] (defScope s_act_place) := ⟨rfl, rfl, rfl, by decide +kernel, rfl, by decide +kernel, by decide +kernel⟩
def r_act_place_1 : DTS := (tRt (tTupD (tAC (tV 1) (tAC (tIfD (tBinT dIs (tV 2) (tK .non)) (tK (.str "")) (tV 2)) (tAC (tIfD (tBinT dEq (tV 3) (tK (.str "returns"))) (tK (.str "")) (tV 3)) tA0)))))
def r_act_place_2 : DTS := (tSq (tAs (tV 0) (tgD (.many [1, 2, 3]))) r_act_place_1)
def ri_act_place : DTS := (tSq (tAs (tV 0) (tgD (.many [1, 2, 3]))) (tRt (tTupD (tAC (tV 1) (tAC (tIfD (tBinT dIs (tV 2) (tK .non)) (tK (.str "")) (tV 2)) (tAC (tIfD (tBinT dEq (tV 3) (tK (.str "returns"))) (tK (.str "")) (tV 3)) tA0))))))
def r_act_place : DTS := r_act_place_2
theorem rr_act_place : ri_act_place = r_act_place := rfl
def sp_act_place : DSp := spOf 1 4 (r_act_place)
theorem b_act_place {P : Program} {w : World} {K : PySem.W.Frag} {mg : Str → Option Value} {base : Heap}  {f : Addr} {cdv : Value} {A : Around} {outer : List PySem.Env} {s : Shared} {H : Hp} {E : XK} (hr : RoomG 0 (A.deeper (envOfC "act_place" (defScope s_act_place) s.heap.objs.size f cdv))) :
    DSs (cxOf CX0 P w K mg base N_act_place "act_place" (defScope s_act_place) f cdv A outer s H E).nox (defBody s_act_place) (ri_act_place) := by
  have hu := hr.hu
  have hgd := hr.g
  have nd := sc_act_place.nd
  exact (dss_cons (ds_asg (dv 0) (DGt.dg (dgt_many rfl (dgn_cons (i := 1) (dgn_cons (i := 2) (dgn_cons (i := 3) dgn_nil nd) nd) nd))))
  (dss_one (ds_ret (de_tup (da_cons (dv 1) (da_cons (de_if (dt_cmp do_is (dv 2) de_non) de_str (dv 2)) (da_cons (de_if (dt_cmp (do_eq hu) (dv 3) de_str) de_str (dv 3)) da_nil)))))))
theorem f_act_place {P : Program} {w : World} {K : PySem.W.Frag} {mg : Str → Option Value} {base : Heap}  {f : Addr} {fd : FuncData} (F : Fun K "act_place" "act_place" s_act_place f fd) : FnG P w K mg base CX0 1 f (liftSp K sp_act_place) :=
  FnG.imp (sp := liftSp K (spOf0 1 4 (r_act_place))) (fn_mk F sc_act_place (F.binds (ps := ["act"]) fun _ _ _ _ _ _ us hl => match us, hl with | [_], _ => rfl) (fun ds m R h => h.1) (fun cdv A outer s H E hr => b_act_place  hr) fun ds m R h => h.2) lift_drop
/-! Acts.__init__ -/
abbrev s_Acts_init : Stmt := inClass (top 11) 0
def N_Acts_init : List Str := ["self", "rows", "k", "kept", "row"]
theorem sc_Acts_init : FnScope N_Acts_init ["self", "rows"] (defScope s_Acts_init) := ⟨rfl, rfl, rfl, by decide +kernel, rfl, by decide +kernel, by decide +kernel⟩
def r_Acts_init_1 : DTS := tNev
def r_Acts_init_2 : DTS := (tIfS (tNotT (tTru (tCl sp_is_act (tAC (tBin dIx (tV 1) (tV 2)) tA0)))) r_Acts_init_1 tNx)
def r_Acts_init_3 : DTE := (tV 4)
def r_Acts_init_4 : DTE := (tK (.bl true))
def r_Acts_init_5 (P : Program) (w : World) (C_Acts : Addr) : DTS := (tFlS C_Acts "rows" (tV 0) (tFn (d1 dTuple) (tAC (tSortK sp_act_place (tFn (d1 (dListK P w)) (tAC (tV 3) tA0))) tA0)))
def r_Acts_init_6 (P : Program) (w : World) (C_Acts : Addr) : DTS := (tSq (tSet 3 (tDcD P w (iSeq (tV 1)) (.one 4) tYe r_Acts_init_3 r_Acts_init_4 [4])) (r_Acts_init_5 P w C_Acts))
def r_Acts_init_7 (P : Program) (w : World) (C_Acts : Addr) : DTS := (tSq (tFo (iRg (tAC (tFn (d1 dLen) (tAC (tV 1) tA0)) tA0)) (.one 2) r_Acts_init_2) (r_Acts_init_6 P w C_Acts))
def ri_Acts_init (P : Program) (w : World) (C_Acts : Addr) : DTS := (tSq (tFo (iRg (tAC (tFn (d1 dLen) (tAC (tV 1) tA0)) tA0)) (.one 2) (tIfS (tNotT (tTru (tCl sp_is_act (tAC (tBin dIx (tV 1) (tV 2)) tA0)))) tNev tNx)) (tSq (tSet 3 (tDcD P w (iSeq (tV 1)) (.one 4) tYe (tV 4) (tK (.bl true)) [4])) (tFlS C_Acts "rows" (tV 0) (tFn (d1 dTuple) (tAC (tSortK sp_act_place (tFn (d1 (dListK P w)) (tAC (tV 3) tA0))) tA0)))))
def r_Acts_init (P : Program) (w : World) (C_Acts : Addr) : DTS := (r_Acts_init_7 P w C_Acts)
theorem rr_Acts_init (P : Program) (w : World) (C_Acts : Addr) : ri_Acts_init P w C_Acts = r_Acts_init P w C_Acts := rfl
def sp_Acts_init (P : Program) (w : World) (C_Acts : Addr) : DSp := dropSp (spRest 1 (spOf0 2 5 (r_Acts_init P w C_Acts)))
theorem b_Acts_init {P : Program} {w : World} {K : PySem.W.Frag} {mg : Str → Option Value} {base : Heap} {C_Acts : Addr} (z_len : mg "len" = none) (z_range : mg "range" = none) (c_is_act : CalW P w K mg base "is_act" 2 sp_is_act) (cl_Acts : Cls K C_Acts) (c_act_place : CalW P w K mg base "act_place" 1 sp_act_place) (z_list : mg "list" = none) (z_sorted : mg "sorted" = none) (z_tuple : mg "tuple" = none) (n_Acts_rows : NoAttr K C_Acts "rows") {f : Addr} {cdv : Value} {A : Around} {outer : List PySem.Env} {s : Shared} {H : Hp} {E : XK} (hr : RoomG 3 (A.deeper (envOfC "Acts.__init__" (defScope s_Acts_init) s.heap.objs.size f cdv))) :
    DSs (cxOf CX0 P w K mg base N_Acts_init "Acts.__init__" (defScope s_Acts_init) f cdv A outer s H E).nox (defBody s_Acts_init) (ri_Acts_init P w C_Acts) := by
  have hu := hr.hu
  have hgd := hr.g
  have nd := sc_Acts_init.nd
  exact (dss_cons (ds_for (di_range z_range (da_cons (de_fn dc_len z_len (by decide +kernel) (da_cons (dv 1) da_nil)) da_nil)) (dgt_one (i := 2) nd)
  (dss_one (ds_if (dt_not (dt_truth (de_call ⟨c_is_act⟩ (hr.mono (by decide)) (da_cons (de_ix hu (dv 1) (dv 2)) da_nil))))
  (dss_one ds_never)
  dss_nil)) rfl PassesOwn.never)
  (dss_cons (ds_setDc (j := 3) (own := [("row", 4)]) hu (di_seq (dv 1)) (blkOk_by (N := N_Acts_init) (sc := defScope s_Acts_init) (own := [("row", 4)]) (by decide +kernel)) nd rfl (fun _ _ _ _ _ => (dgt_one (i := 4) nd)) (fun _ _ _ _ _ => dts_nil) (fun _ _ _ _ _ => (dv 4)) (fun _ _ _ _ _ => de_bl) (sw_trueD rfl rfl rfl (by decide +kernel)))
  (dss_one (ds_fld C_Acts (dv 0) (de_ty dc_tuple z_tuple (by decide +kernel) (da_cons (de_sortK ⟨c_act_place⟩ (hr.mono (by decide)) z_sorted (de_ty (dc_listK rfl) z_list (by decide +kernel) (da_cons (dv 3) da_nil))) da_nil)) cl_Acts n_Acts_rows))))
theorem f_Acts_init {P : Program} {w : World} {K : PySem.W.Frag} {mg : Str → Option Value} {base : Heap} {C_Acts : Addr} (z_len : mg "len" = none) (z_range : mg "range" = none) (c_is_act : CalW P w K mg base "is_act" 2 sp_is_act) (cl_Acts : Cls K C_Acts) (c_act_place : CalW P w K mg base "act_place" 1 sp_act_place) (z_list : mg "list" = none) (z_sorted : mg "sorted" = none) (z_tuple : mg "tuple" = none) (n_Acts_rows : NoAttr K C_Acts "rows") {f : Addr} {fd : FuncData} (F : Fun K "__init__" "Acts.__init__" s_Acts_init f fd) : FnG P w K mg base CX0 4 f (liftSp K (sp_Acts_init P w C_Acts)) :=
  FnG.imp (sp := liftSp K (spRest 1 (spOf0 2 5 (r_Acts_init P w C_Acts)))) (fn_mkS (ps := ["self"]) (pv := "rows") F sc_Acts_init (fun _ _ _ _ _ _ => StX.bind_star1 (B := fun vs => bindArgs _ ⟨vs, []⟩) (fun _ => rfl) (fun _ _ _ => rfl)) (fun cdv A outer s H E hr => b_Acts_init z_len z_range c_is_act cl_Acts c_act_place z_list z_sorted z_tuple n_Acts_rows hr) fun ds m R h => h.2) lift_drop
/-! Acts.made -/
abbrev s_Acts_made : Stmt := inClass (top 11) 1
def N_Acts_made : List Str := ["cls", "rows", "held"]
theorem sc_Acts_made : FnScope N_Acts_made ["cls", "rows"] (defScope s_Acts_made) := ⟨rfl, rfl, rfl, by decide +kernel, rfl, by decide +kernel, by decide +kernel⟩
def r_Acts_made_1 (P : Program) (w : World) (C_Acts : Addr) : DTS := (tRt (tFrz (tNwF C_Acts (sp_Acts_init P w C_Acts) (tV 0) (tAS (tV 2) tA0))))
def r_Acts_made_2 (P : Program) (w : World) (C_Acts : Addr) : DTS := (tSq (tSet 2 (tFn (d1 dList) (tAC (tV 1) tA0))) (r_Acts_made_1 P w C_Acts))
def ri_Acts_made (P : Program) (w : World) (C_Acts : Addr) : DTS := (tSq (tSet 2 (tFn (d1 dList) (tAC (tV 1) tA0))) (tRt (tFrz (tNwF C_Acts (sp_Acts_init P w C_Acts) (tV 0) (tAS (tV 2) tA0)))))
def r_Acts_made (P : Program) (w : World) (C_Acts : Addr) : DTS := (r_Acts_made_2 P w C_Acts)
theorem rr_Acts_made (P : Program) (w : World) (C_Acts : Addr) : ri_Acts_made P w C_Acts = r_Acts_made P w C_Acts := rfl
def sp_Acts_made (P : Program) (w : World) (C_Acts : Addr) : DSp := spOf 2 3 (r_Acts_made P w C_Acts)
theorem b_Acts_made {P : Program} {w : World} {K : PySem.W.Frag} {mg : Str → Option Value} {base : Heap} {C_Acts : Addr} (z_list : mg "list" = none) (mk_Acts : CalCW P w K mg base C_Acts 4 (sp_Acts_init P w C_Acts)) {f : Addr} {cdv : Value} {A : Around} {outer : List PySem.Env} {s : Shared} {H : Hp} {E : XK} (hr : RoomG 5 (A.deeper (envOfC "Acts.made" (defScope s_Acts_made) s.heap.objs.size f cdv))) :
    DSs (cxOf CX0 P w K mg base N_Acts_made "Acts.made" (defScope s_Acts_made) f cdv A outer s H E).nox (defBody s_Acts_made) (ri_Acts_made P w C_Acts) := by
  have hu := hr.hu
  have hgd := hr.g
  have nd := sc_Acts_made.nd
  exact (dss_cons (ds_set (i := 2) (de_ty (dc_list rfl) z_list (by decide +kernel) (da_cons (dv 1) da_nil)) nd)
  (dss_one (ds_ret (de_frz (de_newS ⟨mk_Acts⟩ (hr.mono (by decide)) (dv 0) (dv 2))))))
theorem f_Acts_made {P : Program} {w : World} {K : PySem.W.Frag} {mg : Str → Option Value} {base : Heap} {C_Acts : Addr} (z_list : mg "list" = none) (mk_Acts : CalCW P w K mg base C_Acts 4 (sp_Acts_init P w C_Acts)) {f : Addr} {fd : FuncData} (F : Fun K "made" "Acts.made" s_Acts_made f fd) : FnG P w K mg base CX0 6 f (liftSp K (sp_Acts_made P w C_Acts)) :=
  FnG.imp (sp := liftSp K (spOf0 2 3 (r_Acts_made P w C_Acts))) (fn_mk F sc_Acts_made (F.binds (ps := ["cls", "rows"]) fun _ _ _ _ _ _ us hl => match us, hl with | [_, _], _ => rfl) (fun ds m R h => h.1) (fun cdv A outer s H E hr => b_Acts_made z_list mk_Acts hr) fun ds m R h => h.2) lift_drop
/-! Acts.__or__ -/
abbrev s_Acts_or : Stmt := inClass (top 11) 5
def N_Acts_or : List Str := ["self", "other"]
theorem sc_Acts_or : FnScope N_Acts_or ["self", "other"] (defScope s_Acts_or) := ⟨rfl, rfl, rfl, by decide +kernel, rfl, by decide +kernel, by decide +kernel⟩
def r_Acts_or_1 (P : Program) (w : World) (C_Acts : Addr) : DTS := (tRt (tFrz (tNwF C_Acts (sp_Acts_init P w C_Acts) (tK (.ref C_Acts)) (tAS (tFl C_Acts "rows" (tV 0)) (tAS (tFl C_Acts "rows" (tV 1)) tA0)))))
def ri_Acts_or (P : Program) (w : World) (C_Acts : Addr) : DTS := (tRt (tFrz (tNwF C_Acts (sp_Acts_init P w C_Acts) (tK (.ref C_Acts)) (tAS (tFl C_Acts "rows" (tV 0)) (tAS (tFl C_Acts "rows" (tV 1)) tA0)))))
def r_Acts_or (P : Program) (w : World) (C_Acts : Addr) : DTS := (r_Acts_or_1 P w C_Acts)
theorem rr_Acts_or (P : Program) (w : World) (C_Acts : Addr) : ri_Acts_or P w C_Acts = r_Acts_or P w C_Acts := rfl
def sp_Acts_or (P : Program) (w : World) (C_Acts : Addr) : DSp := spOf 2 2 (r_Acts_or P w C_Acts)
theorem b_Acts_or {P : Program} {w : World} {K : PySem.W.Frag} {mg : Str → Option Value} {base : Heap} {C_Acts : Addr} (mk_Acts : CalCW P w K mg base C_Acts 4 (sp_Acts_init P w C_Acts)) (mg_Acts : mg "Acts" = some (.ref C_Acts)) (cl_Acts : Cls K C_Acts) (n_Acts_rows : NoAttr K C_Acts "rows") (g_Acts : GV K mg "Acts" (.ref C_Acts)) {f : Addr} {cdv : Value} {A : Around} {outer : List PySem.Env} {s : Shared} {H : Hp} {E : XK} (hr : RoomG 5 (A.deeper (envOfC "Acts.__or__" (defScope s_Acts_or) s.heap.objs.size f cdv))) :
    DSs (cxOf CX0 P w K mg base N_Acts_or "Acts.__or__" (defScope s_Acts_or) f cdv A outer s H E).nox (defBody s_Acts_or) (ri_Acts_or P w C_Acts) := by
  have hu := hr.hu
  have hgd := hr.g
  have nd := sc_Acts_or.nd
  exact (dss_one (ds_ret (de_frz (de_newSS ⟨mk_Acts⟩ (hr.mono (by decide)) (de_gv g_Acts) (da_star (de_fld C_Acts (dv 0) cl_Acts n_Acts_rows) (da_star (de_fld C_Acts (dv 1) cl_Acts n_Acts_rows) da_nil))))))
theorem f_Acts_or {P : Program} {w : World} {K : PySem.W.Frag} {mg : Str → Option Value} {base : Heap} {C_Acts : Addr} (mk_Acts : CalCW P w K mg base C_Acts 4 (sp_Acts_init P w C_Acts)) (mg_Acts : mg "Acts" = some (.ref C_Acts)) (cl_Acts : Cls K C_Acts) (n_Acts_rows : NoAttr K C_Acts "rows") (g_Acts : GV K mg "Acts" (.ref C_Acts)) {f : Addr} {fd : FuncData} (F : Fun K "__or__" "Acts.__or__" s_Acts_or f fd) : FnG P w K mg base CX0 6 f (liftSp K (sp_Acts_or P w C_Acts)) :=
  FnG.imp (sp := liftSp K (spOf0 2 2 (r_Acts_or P w C_Acts))) (fn_mk F sc_Acts_or (F.binds (ps := ["self", "other"]) fun _ _ _ _ _ _ us hl => match us, hl with | [_, _], _ => rfl) (fun ds m R h => h.1) (fun cdv A outer s H E hr => b_Acts_or mk_Acts mg_Acts cl_Acts n_Acts_rows g_Acts hr) fun ds m R h => h.2) lift_drop
/-! Acts.__and__ -/
abbrev s_Acts_and : Stmt := inClass (top 11) 6
def N_Acts_and : List Str := ["self", "other", "both", "row"]
theorem sc_Acts_and : FnScope N_Acts_and ["self", "other"] (defScope s_Acts_and) := ⟨rfl, rfl, rfl, by decide +kernel, rfl, by decide +kernel, by decide +kernel⟩
def r_Acts_and_1 (C_Acts : Addr) : DTT := (tBinT dIn (tV 3) (tFl C_Acts "rows" (tV 1)))
def r_Acts_and_2 : DTE := (tV 3)
def r_Acts_and_3 (P : Program) (w : World) (C_Acts : Addr) : DTS := (tRt (tFrz (tNwF C_Acts (sp_Acts_init P w C_Acts) (tK (.ref C_Acts)) (tAS (tV 2) tA0))))
def r_Acts_and_4 (P : Program) (w : World) (C_Acts : Addr) : DTS := (tSq (tSet 2 (tFrz (tLcM (iSeq (tFl C_Acts "rows" (tV 0))) (.one 3) (r_Acts_and_1 C_Acts) r_Acts_and_2 [3]))) (r_Acts_and_3 P w C_Acts))
def ri_Acts_and (P : Program) (w : World) (C_Acts : Addr) : DTS := (tSq (tSet 2 (tFrz (tLcM (iSeq (tFl C_Acts "rows" (tV 0))) (.one 3) (tBinT dIn (tV 3) (tFl C_Acts "rows" (tV 1))) (tV 3) [3]))) (tRt (tFrz (tNwF C_Acts (sp_Acts_init P w C_Acts) (tK (.ref C_Acts)) (tAS (tV 2) tA0)))))
def r_Acts_and (P : Program) (w : World) (C_Acts : Addr) : DTS := (r_Acts_and_4 P w C_Acts)
theorem rr_Acts_and (P : Program) (w : World) (C_Acts : Addr) : ri_Acts_and P w C_Acts = r_Acts_and P w C_Acts := rfl
def sp_Acts_and (P : Program) (w : World) (C_Acts : Addr) : DSp := spOf 2 4 (r_Acts_and P w C_Acts)
theorem b_Acts_and {P : Program} {w : World} {K : PySem.W.Frag} {mg : Str → Option Value} {base : Heap} {C_Acts : Addr} (cl_Acts : Cls K C_Acts) (n_Acts_rows : NoAttr K C_Acts "rows") (mk_Acts : CalCW P w K mg base C_Acts 4 (sp_Acts_init P w C_Acts)) (mg_Acts : mg "Acts" = some (.ref C_Acts)) (g_Acts : GV K mg "Acts" (.ref C_Acts)) {f : Addr} {cdv : Value} {A : Around} {outer : List PySem.Env} {s : Shared} {H : Hp} {E : XK} (hr : RoomG 5 (A.deeper (envOfC "Acts.__and__" (defScope s_Acts_and) s.heap.objs.size f cdv))) :
    DSs (cxOf CX0 P w K mg base N_Acts_and "Acts.__and__" (defScope s_Acts_and) f cdv A outer s H E).nox (defBody s_Acts_and) (ri_Acts_and P w C_Acts) := by
  have hu := hr.hu
  have hgd := hr.g
  have nd := sc_Acts_and.nd
  exact (dss_cons (ds_setLcF (j := 2) (own := [("row", 3)]) (di_seq (de_fld C_Acts (dv 0) cl_Acts n_Acts_rows)) (blkOk_by (N := N_Acts_and) (sc := defScope s_Acts_and) (own := [("row", 3)]) (by decide +kernel)) nd rfl (fun _ _ _ _ _ => (dgt_one (i := 3) nd)) (fun _ _ _ _ _ => (dts_one (dt_cmp (do_in hu) (dv 3) (de_fld C_Acts (dv 1) cl_Acts n_Acts_rows)))) (fun _ _ _ _ _ => (dv 3)) (sw_true rfl rfl rfl (by decide +kernel)))
  (dss_one (ds_ret (de_frz (de_newS ⟨mk_Acts⟩ (hr.mono (by decide)) (de_gv g_Acts) (dv 2))))))
theorem f_Acts_and {P : Program} {w : World} {K : PySem.W.Frag} {mg : Str → Option Value} {base : Heap} {C_Acts : Addr} (cl_Acts : Cls K C_Acts) (n_Acts_rows : NoAttr K C_Acts "rows") (mk_Acts : CalCW P w K mg base C_Acts 4 (sp_Acts_init P w C_Acts)) (mg_Acts : mg "Acts" = some (.ref C_Acts)) (g_Acts : GV K mg "Acts" (.ref C_Acts)) {f : Addr} {fd : FuncData} (F : Fun K "__and__" "Acts.__and__" s_Acts_and f fd) : FnG P w K mg base CX0 6 f (liftSp K (sp_Acts_and P w C_Acts)) :=
  FnG.imp (sp := liftSp K (spOf0 2 4 (r_Acts_and P w C_Acts))) (fn_mk F sc_Acts_and (F.binds (ps := ["self", "other"]) fun _ _ _ _ _ _ us hl => match us, hl with | [_, _], _ => rfl) (fun ds m R h => h.1) (fun cdv A outer s H E hr => b_Acts_and cl_Acts n_Acts_rows mk_Acts mg_Acts g_Acts hr) fun ds m R h => h.2) lift_drop
/-! Acts.__sub__ -/
abbrev s_Acts_sub : Stmt := inClass (top 11) 7
def N_Acts_sub : List Str := ["self", "other", "left", "row"]
theorem sc_Acts_sub : FnScope N_Acts_sub ["self", "other"] (defScope s_Acts_sub) := ⟨rfl, rfl, rfl, by decide +kernel, rfl, by decide +kernel, by decide +kernel⟩
def r_Acts_sub_1 (C_Acts : Addr) : DTT := (tBinT dNotIn (tV 3) (tFl C_Acts "rows" (tV 1)))
def r_Acts_sub_2 : DTE := (tV 3)
def r_Acts_sub_3 (P : Program) (w : World) (C_Acts : Addr) : DTS := (tRt (tFrz (tNwF C_Acts (sp_Acts_init P w C_Acts) (tK (.ref C_Acts)) (tAS (tV 2) tA0))))
def r_Acts_sub_4 (P : Program) (w : World) (C_Acts : Addr) : DTS := (tSq (tSet 2 (tFrz (tLcM (iSeq (tFl C_Acts "rows" (tV 0))) (.one 3) (r_Acts_sub_1 C_Acts) r_Acts_sub_2 [3]))) (r_Acts_sub_3 P w C_Acts))
def ri_Acts_sub (P : Program) (w : World) (C_Acts : Addr) : DTS := (tSq (tSet 2 (tFrz (tLcM (iSeq (tFl C_Acts "rows" (tV 0))) (.one 3) (tBinT dNotIn (tV 3) (tFl C_Acts "rows" (tV 1))) (tV 3) [3]))) (tRt (tFrz (tNwF C_Acts (sp_Acts_init P w C_Acts) (tK (.ref C_Acts)) (tAS (tV 2) tA0)))))
def r_Acts_sub (P : Program) (w : World) (C_Acts : Addr) : DTS := (r_Acts_sub_4 P w C_Acts)
theorem rr_Acts_sub (P : Program) (w : World) (C_Acts : Addr) : ri_Acts_sub P w C_Acts = r_Acts_sub P w C_Acts := rfl
def sp_Acts_sub (P : Program) (w : World) (C_Acts : Addr) : DSp := spOf 2 4 (r_Acts_sub P w C_Acts)
theorem b_Acts_sub {P : Program} {w : World} {K : PySem.W.Frag} {mg : Str → Option Value} {base : Heap} {C_Acts : Addr} (cl_Acts : Cls K C_Acts) (n_Acts_rows : NoAttr K C_Acts "rows") (mk_Acts : CalCW P w K mg base C_Acts 4 (sp_Acts_init P w C_Acts)) (mg_Acts : mg "Acts" = some (.ref C_Acts)) (g_Acts : GV K mg "Acts" (.ref C_Acts)) {f : Addr} {cdv : Value} {A : Around} {outer : List PySem.Env} {s : Shared} {H : Hp} {E : XK} (hr : RoomG 5 (A.deeper (envOfC "Acts.__sub__" (defScope s_Acts_sub) s.heap.objs.size f cdv))) :
    DSs (cxOf CX0 P w K mg base N_Acts_sub "Acts.__sub__" (defScope s_Acts_sub) f cdv A outer s H E).nox (defBody s_Acts_sub) (ri_Acts_sub P w C_Acts) := by
  have hu := hr.hu
  have hgd := hr.g
  have nd := sc_Acts_sub.nd
  exact (dss_cons (ds_setLcF (j := 2) (own := [("row", 3)]) (di_seq (de_fld C_Acts (dv 0) cl_Acts n_Acts_rows)) (blkOk_by (N := N_Acts_sub) (sc := defScope s_Acts_sub) (own := [("row", 3)]) (by decide +kernel)) nd rfl (fun _ _ _ _ _ => (dgt_one (i := 3) nd)) (fun _ _ _ _ _ => (dts_one (dt_cmp (do_notin hu) (dv 3) (de_fld C_Acts (dv 1) cl_Acts n_Acts_rows)))) (fun _ _ _ _ _ => (dv 3)) (sw_true rfl rfl rfl (by decide +kernel)))
  (dss_one (ds_ret (de_frz (de_newS ⟨mk_Acts⟩ (hr.mono (by decide)) (de_gv g_Acts) (dv 2))))))
theorem f_Acts_sub {P : Program} {w : World} {K : PySem.W.Frag} {mg : Str → Option Value} {base : Heap} {C_Acts : Addr} (cl_Acts : Cls K C_Acts) (n_Acts_rows : NoAttr K C_Acts "rows") (mk_Acts : CalCW P w K mg base C_Acts 4 (sp_Acts_init P w C_Acts)) (mg_Acts : mg "Acts" = some (.ref C_Acts)) (g_Acts : GV K mg "Acts" (.ref C_Acts)) {f : Addr} {fd : FuncData} (F : Fun K "__sub__" "Acts.__sub__" s_Acts_sub f fd) : FnG P w K mg base CX0 6 f (liftSp K (sp_Acts_sub P w C_Acts)) :=
  FnG.imp (sp := liftSp K (spOf0 2 4 (r_Acts_sub P w C_Acts))) (fn_mk F sc_Acts_sub (F.binds (ps := ["self", "other"]) fun _ _ _ _ _ _ us hl => match us, hl with | [_, _], _ => rfl) (fun ds m R h => h.1) (fun cdv A outer s H E hr => b_Acts_sub cl_Acts n_Acts_rows mk_Acts mg_Acts g_Acts hr) fun ds m R h => h.2) lift_drop
/-! Acts.__xor__ -/
abbrev s_Acts_xor : Stmt := inClass (top 11) 8
def N_Acts_xor : List Str := ["self", "other", "one", "two", "row"]
theorem sc_Acts_xor : FnScope N_Acts_xor ["self", "other"] (defScope s_Acts_xor) := ⟨rfl, rfl, rfl, by decide +kernel, rfl, by decide +kernel, by decide +kernel⟩
def r_Acts_xor_1 (C_Acts : Addr) : DTT := (tBinT dNotIn (tV 4) (tFl C_Acts "rows" (tV 1)))
def r_Acts_xor_2 : DTE := (tV 4)
def r_Acts_xor_3 (C_Acts : Addr) : DTT := (tBinT dNotIn (tV 4) (tFl C_Acts "rows" (tV 0)))
def r_Acts_xor_4 : DTE := (tV 4)
def r_Acts_xor_5 (P : Program) (w : World) (C_Acts : Addr) : DTS := (tRt (tFrz (tNwF C_Acts (sp_Acts_init P w C_Acts) (tK (.ref C_Acts)) (tAS (tV 2) (tAS (tV 3) tA0)))))
def r_Acts_xor_6 (P : Program) (w : World) (C_Acts : Addr) : DTS := (tSq (tSet 3 (tFrz (tLcM (iSeq (tFl C_Acts "rows" (tV 1))) (.one 4) (r_Acts_xor_3 C_Acts) r_Acts_xor_4 [4]))) (r_Acts_xor_5 P w C_Acts))
def r_Acts_xor_7 (P : Program) (w : World) (C_Acts : Addr) : DTS := (tSq (tSet 2 (tFrz (tLcM (iSeq (tFl C_Acts "rows" (tV 0))) (.one 4) (r_Acts_xor_1 C_Acts) r_Acts_xor_2 [4]))) (r_Acts_xor_6 P w C_Acts))
def ri_Acts_xor (P : Program) (w : World) (C_Acts : Addr) : DTS := (tSq (tSet 2 (tFrz (tLcM (iSeq (tFl C_Acts "rows" (tV 0))) (.one 4) (tBinT dNotIn (tV 4) (tFl C_Acts "rows" (tV 1))) (tV 4) [4]))) (tSq (tSet 3 (tFrz (tLcM (iSeq (tFl C_Acts "rows" (tV 1))) (.one 4) (tBinT dNotIn (tV 4) (tFl C_Acts "rows" (tV 0))) (tV 4) [4]))) (tRt (tFrz (tNwF C_Acts (sp_Acts_init P w C_Acts) (tK (.ref C_Acts)) (tAS (tV 2) (tAS (tV 3) tA0)))))))
def r_Acts_xor (P : Program) (w : World) (C_Acts : Addr) : DTS := (r_Acts_xor_7 P w C_Acts)
theorem rr_Acts_xor (P : Program) (w : World) (C_Acts : Addr) : ri_Acts_xor P w C_Acts = r_Acts_xor P w C_Acts := rfl
def sp_Acts_xor (P : Program) (w : World) (C_Acts : Addr) : DSp := spOf 2 5 (r_Acts_xor P w C_Acts)
theorem b_Acts_xor {P : Program} {w : World} {K : PySem.W.Frag} {mg : Str → Option Value} {base : Heap} {C_Acts : Addr} (cl_Acts : Cls K C_Acts) (n_Acts_rows : NoAttr K C_Acts "rows") (mk_Acts : CalCW P w K mg base C_Acts 4 (sp_Acts_init P w C_Acts)) (mg_Acts : mg "Acts" = some (.ref C_Acts)) (g_Acts : GV K mg "Acts" (.ref C_Acts)) {f : Addr} {cdv : Value} {A : Around} {outer : List PySem.Env} {s : Shared} {H : Hp} {E : XK} (hr : RoomG 5 (A.deeper (envOfC "Acts.__xor__" (defScope s_Acts_xor) s.heap.objs.size f cdv))) :
    DSs (cxOf CX0 P w K mg base N_Acts_xor "Acts.__xor__" (defScope s_Acts_xor) f cdv A outer s H E).nox (defBody s_Acts_xor) (ri_Acts_xor P w C_Acts) := by
  have hu := hr.hu
  have hgd := hr.g
  have nd := sc_Acts_xor.nd
  exact (dss_cons (ds_setLcF (j := 2) (own := [("row", 4)]) (di_seq (de_fld C_Acts (dv 0) cl_Acts n_Acts_rows)) (blkOk_by (N := N_Acts_xor) (sc := defScope s_Acts_xor) (own := [("row", 4)]) (by decide +kernel)) nd rfl (fun _ _ _ _ _ => (dgt_one (i := 4) nd)) (fun _ _ _ _ _ => (dts_one (dt_cmp (do_notin hu) (dv 4) (de_fld C_Acts (dv 1) cl_Acts n_Acts_rows)))) (fun _ _ _ _ _ => (dv 4)) (sw_true rfl rfl rfl (by decide +kernel)))
  (dss_cons (ds_setLcF (j := 3) (own := [("row", 4)]) (di_seq (de_fld C_Acts (dv 1) cl_Acts n_Acts_rows)) (blkOk_by (N := N_Acts_xor) (sc := defScope s_Acts_xor) (own := [("row", 4)]) (by decide +kernel)) nd rfl (fun _ _ _ _ _ => (dgt_one (i := 4) nd)) (fun _ _ _ _ _ => (dts_one (dt_cmp (do_notin hu) (dv 4) (de_fld C_Acts (dv 0) cl_Acts n_Acts_rows)))) (fun _ _ _ _ _ => (dv 4)) (sw_true rfl rfl rfl (by decide +kernel)))
  (dss_one (ds_ret (de_frz (de_newSS ⟨mk_Acts⟩ (hr.mono (by decide)) (de_gv g_Acts) (da_star (dv 2) (da_star (dv 3) da_nil))))))))
theorem f_Acts_xor {P : Program} {w : World} {K : PySem.W.Frag} {mg : Str → Option Value} {base : Heap} {C_Acts : Addr} (cl_Acts : Cls K C_Acts) (n_Acts_rows : NoAttr K C_Acts "rows") (mk_Acts : CalCW P w K mg base C_Acts 4 (sp_Acts_init P w C_Acts)) (mg_Acts : mg "Acts" = some (.ref C_Acts)) (g_Acts : GV K mg "Acts" (.ref C_Acts)) {f : Addr} {fd : FuncData} (F : Fun K "__xor__" "Acts.__xor__" s_Acts_xor f fd) : FnG P w K mg base CX0 6 f (liftSp K (sp_Acts_xor P w C_Acts)) :=
  FnG.imp (sp := liftSp K (spOf0 2 5 (r_Acts_xor P w C_Acts))) (fn_mk F sc_Acts_xor (F.binds (ps := ["self", "other"]) fun _ _ _ _ _ _ us hl => match us, hl with | [_, _], _ => rfl) (fun ds m R h => h.1) (fun cdv A outer s H E hr => b_Acts_xor cl_Acts n_Acts_rows mk_Acts mg_Acts g_Acts hr) fun ds m R h => h.2) lift_drop
/-! _law_place -/
abbrev s_l_place : Stmt := top 17
def N_l_place : List Str := ["_law_act"]
theorem sc_l_place : FnScope N_l_place ["_law_act"] (defScope s_l_place) := ⟨rfl, rfl, rfl, by decide +kernel, rfl, by decide +kernel, by decide +kernel⟩
def r_l_place_1 : DTS := (tRt (tTupD (tAC (tBin dIx (tV 0) (tK (.int 0))) (tAC (tIfD (tBinT dIs (tBin dIx (tV 0) (tK (.int 1))) (tK .non)) (tK (.str "")) (tBin dIx (tV 0) (tK (.int 1)))) (tAC (tIfD (tBinT dEq (tBin dIx (tV 0) (tK (.int 2))) (tK (.str "returns"))) (tK (.str "")) (tBin dIx (tV 0) (tK (.int 2)))) tA0)))))
def ri_l_place : DTS := (tRt (tTupD (tAC (tBin dIx (tV 0) (tK (.int 0))) (tAC (tIfD (tBinT dIs (tBin dIx (tV 0) (tK (.int 1))) (tK .non)) (tK (.str "")) (tBin dIx (tV 0) (tK (.int 1)))) (tAC (tIfD (tBinT dEq (tBin dIx (tV 0) (tK (.int 2))) (tK (.str "returns"))) (tK (.str "")) (tBin dIx (tV 0) (tK (.int 2)))) tA0)))))
def r_l_place : DTS := r_l_place_1
theorem rr_l_place : ri_l_place = r_l_place := rfl
def sp_l_place : DSp := spOf 1 1 (r_l_place)
theorem b_l_place {P : Program} {w : World} {K : PySem.W.Frag} {mg : Str → Option Value} {base : Heap}  {f : Addr} {cdv : Value} {A : Around} {outer : List PySem.Env} {s : Shared} {H : Hp} {E : XK} (hr : RoomG 0 (A.deeper (envOfC "_law_place" (defScope s_l_place) s.heap.objs.size f cdv))) :
    DSs (cxOf CX0 P w K mg base N_l_place "_law_place" (defScope s_l_place) f cdv A outer s H E).nox (defBody s_l_place) (ri_l_place) := by
  have hu := hr.hu
  have hgd := hr.g
  have nd := sc_l_place.nd
  exact (dss_one (ds_ret (de_tup (da_cons (de_ix hu (dv 0) de_int) (da_cons (de_if (dt_cmp do_is (de_ix hu (dv 0) de_int) de_non) de_str (de_ix hu (dv 0) de_int)) (da_cons (de_if (dt_cmp (do_eq hu) (de_ix hu (dv 0) de_int) de_str) de_str (de_ix hu (dv 0) de_int)) da_nil))))))
theorem f_l_place {P : Program} {w : World} {K : PySem.W.Frag} {mg : Str → Option Value} {base : Heap}  {f : Addr} {fd : FuncData} (F : Fun K "_law_place" "_law_place" s_l_place f fd) : FnG P w K mg base CX0 1 f (liftSp K sp_l_place) :=
  FnG.imp (sp := liftSp K (spOf0 1 1 (r_l_place))) (fn_mk F sc_l_place (F.binds (ps := ["_law_act"]) fun _ _ _ _ _ _ us hl => match us, hl with | [_], _ => rfl) (fun ds m R h => h.1) (fun cdv A outer s H E hr => b_l_place  hr) fun ds m R h => h.2) lift_drop
/-! _law_sorted -/
abbrev s_l_sorted : Stmt := top 18
def N_l_sorted : List Str := ["_law_acts_here", "_law_found", "_law_act", "_law_at", "_law_one"]
theorem sc_l_sorted : FnScope N_l_sorted ["_law_acts_here"] (defScope s_l_sorted) := ⟨rfl, rfl, rfl, by decide +kernel, rfl, by decide +kernel, by decide +kernel⟩
def r_l_sorted_1 : DTT := (tBinT dLtD (tCl sp_l_place (tAC (tV 4) tA0)) (tCl sp_l_place (tAC (tV 2) tA0)))
def r_l_sorted_2 : DTE := (tV 4)
def r_l_sorted_3 : DTS := (tSet 1 (tBin dAdd (tBin dAdd (tSlD (tV 1) tON (tOS (tV 3))) (tLstD (tAC (tV 2) tA0))) (tSlD (tV 1) (tOS (tV 3)) tON)))
def r_l_sorted_4 : DTS := (tSq (tSet 3 (tFn (d1 dLen) (tAC (tFrz (tLcM (iSeq (tV 1)) (.one 4) r_l_sorted_1 r_l_sorted_2 [4])) tA0))) r_l_sorted_3)
def r_l_sorted_5 : DTS := (tIfS (tBinT dNotIn (tV 2) (tV 1)) r_l_sorted_4 tNx)
def r_l_sorted_6 : DTS := (tRt (tFn (d1 dTuple) (tAC (tV 1) tA0)))
def r_l_sorted_7 : DTS := (tSq (tFo (iSeq (tV 0)) (.one 2) r_l_sorted_5) r_l_sorted_6)
def r_l_sorted_8 : DTS := (tSq (tSet 1 (tLstD tA0)) r_l_sorted_7)
def ri_l_sorted : DTS := (tSq (tSet 1 (tLstD tA0)) (tSq (tFo (iSeq (tV 0)) (.one 2) (tIfS (tBinT dNotIn (tV 2) (tV 1)) (tSq (tSet 3 (tFn (d1 dLen) (tAC (tFrz (tLcM (iSeq (tV 1)) (.one 4) (tBinT dLtD (tCl sp_l_place (tAC (tV 4) tA0)) (tCl sp_l_place (tAC (tV 2) tA0))) (tV 4) [4])) tA0))) (tSet 1 (tBin dAdd (tBin dAdd (tSlD (tV 1) tON (tOS (tV 3))) (tLstD (tAC (tV 2) tA0))) (tSlD (tV 1) (tOS (tV 3)) tON)))) tNx)) (tRt (tFn (d1 dTuple) (tAC (tV 1) tA0)))))
def r_l_sorted : DTS := r_l_sorted_8
theorem rr_l_sorted : ri_l_sorted = r_l_sorted := rfl
def sp_l_sorted : DSp := spOf 1 5 (r_l_sorted)
theorem b_l_sorted {P : Program} {w : World} {K : PySem.W.Frag} {mg : Str → Option Value} {base : Heap} (c_l_place : CalW P w K mg base "_law_place" 1 sp_l_place) (z_len : mg "len" = none) (z_tuple : mg "tuple" = none) {f : Addr} {cdv : Value} {A : Around} {outer : List PySem.Env} {s : Shared} {H : Hp} {E : XK} (hr : RoomG 1 (A.deeper (envOfC "_law_sorted" (defScope s_l_sorted) s.heap.objs.size f cdv))) :
    DSs (cxOf CX0 P w K mg base N_l_sorted "_law_sorted" (defScope s_l_sorted) f cdv A outer s H E).nox (defBody s_l_sorted) (ri_l_sorted) := by
  have hu := hr.hu
  have hgd := hr.g
  have nd := sc_l_sorted.nd
  exact (dss_cons (ds_set (i := 1) (de_lst da_nil) nd)
  (dss_cons (ds_for (di_seq (dv 0)) (dgt_one (i := 2) nd)
  (dss_one (ds_if (dt_cmp (do_notin hu) (dv 2) (dv 1))
  (dss_cons (ds_set (i := 3) (de_fn dc_len z_len (by decide +kernel) (da_cons (de_frz (de_lc (own := [("_law_one", 4)]) (di_seq (dv 1)) (blkOk_by (N := N_l_sorted) (sc := defScope s_l_sorted) (own := [("_law_one", 4)]) (by decide +kernel)) nd rfl (fun _ _ _ _ _ => (dgt_one (i := 4) nd)) (fun _ _ _ _ _ => (dts_one (dt_cmp (do_ltD hu) (de_call ⟨c_l_place⟩ (hr.mono (by decide)) (da_cons (dv 4) da_nil)) (de_call ⟨c_l_place⟩ (hr.mono (by decide)) (da_cons (dv 2) da_nil))))) (fun _ _ _ _ _ => (dv 4)))) da_nil)) nd)
  (dss_one (ds_set (i := 1) (de_op do_add (de_op do_add (de_slice (dv 1) do_none (do_some (dv 3))) (de_lst (da_cons (dv 2) da_nil))) (de_slice (dv 1) (do_some (dv 3)) do_none)) nd)))
  dss_nil)) rfl PassesOwn.never)
  (dss_one (ds_ret (de_ty dc_tuple z_tuple (by decide +kernel) (da_cons (dv 1) da_nil))))))
theorem f_l_sorted {P : Program} {w : World} {K : PySem.W.Frag} {mg : Str → Option Value} {base : Heap} (c_l_place : CalW P w K mg base "_law_place" 1 sp_l_place) (z_len : mg "len" = none) (z_tuple : mg "tuple" = none) {f : Addr} {fd : FuncData} (F : Fun K "_law_sorted" "_law_sorted" s_l_sorted f fd) : FnG P w K mg base CX0 2 f (liftSp K sp_l_sorted) :=
  FnG.imp (sp := liftSp K (spOf0 1 5 (r_l_sorted))) (fn_mk F sc_l_sorted (F.binds (ps := ["_law_acts_here"]) fun _ _ _ _ _ _ us hl => match us, hl with | [_], _ => rfl) (fun ds m R h => h.1) (fun cdv A outer s H E hr => b_l_sorted c_l_place z_len z_tuple hr) fun ds m R h => h.2) lift_drop
/-! Acts.__len__ -/
abbrev s_Acts_len : Stmt := inClass (top 11) 2
def N_Acts_len : List Str := ["self"]
theorem sc_Acts_len : FnScope N_Acts_len ["self"] (defScope s_Acts_len) := ⟨rfl, rfl, rfl, by decide +kernel, rfl, by decide +kernel, by decide +kernel⟩
def r_Acts_len_1 (C_Acts : Addr) : DTS := (tRt (tFn (d1 dLen) (tAC (tFl C_Acts "rows" (tV 0)) tA0)))
def ri_Acts_len (C_Acts : Addr) : DTS := (tRt (tFn (d1 dLen) (tAC (tFl C_Acts "rows" (tV 0)) tA0)))
def r_Acts_len (C_Acts : Addr) : DTS := (r_Acts_len_1 C_Acts)
theorem rr_Acts_len (C_Acts : Addr) : ri_Acts_len C_Acts = r_Acts_len C_Acts := rfl
def sp_Acts_len (C_Acts : Addr) : DSp := spOf 1 1 (r_Acts_len C_Acts)
theorem b_Acts_len {P : Program} {w : World} {K : PySem.W.Frag} {mg : Str → Option Value} {base : Heap} {C_Acts : Addr} (cl_Acts : Cls K C_Acts) (n_Acts_rows : NoAttr K C_Acts "rows") (z_len : mg "len" = none) {f : Addr} {cdv : Value} {A : Around} {outer : List PySem.Env} {s : Shared} {H : Hp} {E : XK} (hr : RoomG 0 (A.deeper (envOfC "Acts.__len__" (defScope s_Acts_len) s.heap.objs.size f cdv))) :
    DSs (cxOf CX0 P w K mg base N_Acts_len "Acts.__len__" (defScope s_Acts_len) f cdv A outer s H E).nox (defBody s_Acts_len) (ri_Acts_len C_Acts) := by
  have hu := hr.hu
  have hgd := hr.g
  have nd := sc_Acts_len.nd
  exact (dss_one (ds_ret (de_fn dc_len z_len (by decide +kernel) (da_cons (de_fld C_Acts (dv 0) cl_Acts n_Acts_rows) da_nil))))
theorem f_Acts_len {P : Program} {w : World} {K : PySem.W.Frag} {mg : Str → Option Value} {base : Heap} {C_Acts : Addr} (cl_Acts : Cls K C_Acts) (n_Acts_rows : NoAttr K C_Acts "rows") (z_len : mg "len" = none) {f : Addr} {fd : FuncData} (F : Fun K "__len__" "Acts.__len__" s_Acts_len f fd) : FnG P w K mg base CX0 1 f (liftSp K (sp_Acts_len C_Acts)) :=
  FnG.imp (sp := liftSp K (spOf0 1 1 (r_Acts_len C_Acts))) (fn_mk F sc_Acts_len (F.binds (ps := ["self"]) fun _ _ _ _ _ _ us hl => match us, hl with | [_], _ => rfl) (fun ds m R h => h.1) (fun cdv A outer s H E hr => b_Acts_len cl_Acts n_Acts_rows z_len hr) fun ds m R h => h.2) lift_drop
/-! Acts.within -/
abbrev s_Acts_within : Stmt := inClass (top 11) 9
def N_Acts_within : List Str := ["self", "other", "row"]
theorem sc_Acts_within : FnScope N_Acts_within ["self", "other"] (defScope s_Acts_within) := ⟨rfl, rfl, rfl, by decide +kernel, rfl, by decide +kernel, by decide +kernel⟩
def r_Acts_within_1 (C_Acts : Addr) : DTE := (tBin dIn (tV 2) (tFl C_Acts "rows" (tV 1)))
def r_Acts_within_2 (C_Acts : Addr) : DTS := (tRt (tFn (d1 dAll) (tAC (tFrz (tLcM (iSeq (tFl C_Acts "rows" (tV 0))) (.one 2) tYe (r_Acts_within_1 C_Acts) [2])) tA0)))
def ri_Acts_within (C_Acts : Addr) : DTS := (tRt (tFn (d1 dAll) (tAC (tFrz (tLcM (iSeq (tFl C_Acts "rows" (tV 0))) (.one 2) tYe (tBin dIn (tV 2) (tFl C_Acts "rows" (tV 1))) [2])) tA0)))
def r_Acts_within (C_Acts : Addr) : DTS := (r_Acts_within_2 C_Acts)
theorem rr_Acts_within (C_Acts : Addr) : ri_Acts_within C_Acts = r_Acts_within C_Acts := rfl
def sp_Acts_within (C_Acts : Addr) : DSp := spOf 2 3 (r_Acts_within C_Acts)
theorem b_Acts_within {P : Program} {w : World} {K : PySem.W.Frag} {mg : Str → Option Value} {base : Heap} {C_Acts : Addr} (cl_Acts : Cls K C_Acts) (n_Acts_rows : NoAttr K C_Acts "rows") (z_all : mg "all" = none) {f : Addr} {cdv : Value} {A : Around} {outer : List PySem.Env} {s : Shared} {H : Hp} {E : XK} (hr : RoomG 0 (A.deeper (envOfC "Acts.within" (defScope s_Acts_within) s.heap.objs.size f cdv))) :
    DSs (cxOf CX0 P w K mg base N_Acts_within "Acts.within" (defScope s_Acts_within) f cdv A outer s H E).nox (defBody s_Acts_within) (ri_Acts_within C_Acts) := by
  have hu := hr.hu
  have hgd := hr.g
  have nd := sc_Acts_within.nd
  exact (dss_one (ds_ret (de_fn (dc_all rfl) z_all (by decide +kernel) (da_cons (de_frz (de_lc (own := [("row", 2)]) (di_seq (de_fld C_Acts (dv 0) cl_Acts n_Acts_rows)) (blkOk_by (N := N_Acts_within) (sc := defScope s_Acts_within) (own := [("row", 2)]) (by decide +kernel)) nd rfl (fun _ _ _ _ _ => (dgt_one (i := 2) nd)) (fun _ _ _ _ _ => dts_nil) (fun _ _ _ _ _ => (de_cmp (do_in hu) (dv 2) (de_fld C_Acts (dv 1) cl_Acts n_Acts_rows))))) da_nil))))
theorem f_Acts_within {P : Program} {w : World} {K : PySem.W.Frag} {mg : Str → Option Value} {base : Heap} {C_Acts : Addr} (cl_Acts : Cls K C_Acts) (n_Acts_rows : NoAttr K C_Acts "rows") (z_all : mg "all" = none) {f : Addr} {fd : FuncData} (F : Fun K "within" "Acts.within" s_Acts_within f fd) : FnG P w K mg base CX0 1 f (liftSp K (sp_Acts_within C_Acts)) :=
  FnG.imp (sp := liftSp K (spOf0 2 3 (r_Acts_within C_Acts))) (fn_mk F sc_Acts_within (F.binds (ps := ["self", "other"]) fun _ _ _ _ _ _ us hl => match us, hl with | [_, _], _ => rfl) (fun ds m R h => h.1) (fun cdv A outer s H E hr => b_Acts_within cl_Acts n_Acts_rows z_all hr) fun ds m R h => h.2) lift_drop
/-! _law_right -/
abbrev s_l_right : Stmt := top 19
def N_l_right : List Str := ["_law_first", "_law_others", "_law_one", "_law_two", "_law_both", "_law_left", "_law_right_here", "_law_found", "_law_due", "_law_k", "_law_act"]
theorem sc_l_right : FnScope N_l_right ["_law_first", "_law_others"] (defScope s_l_right) := ⟨rfl, rfl, rfl, by decide +kernel, rfl, by decide +kernel, by decide +kernel⟩
def r_l_right_1 : DTT := (tBinT dIn (tV 10) (tV 1))
def r_l_right_2 : DTE := (tV 10)
def r_l_right_3 : DTT := (tBinT dNotIn (tV 10) (tV 1))
def r_l_right_4 : DTE := (tV 10)
def r_l_right_5 : DTT := (tBinT dNotIn (tV 10) (tV 0))
def r_l_right_6 : DTE := (tV 10)
def r_l_right_7 : DTS := (tRt (tK (.bl false)))
def r_l_right_8 (C_Acts : Addr) : DTS := (tIfS (tOrT (tNotT (tTru (tFn (dIsiO (JS (.inr C_Acts) [(C_Acts, true)])) (tAC (tBin dIx (tV 7) (tV 9)) (tAC (tK (.ref C_Acts)) tA0))))) (tOrT (tBinT dNe (tFl C_Acts "rows" (tBin dIx (tV 7) (tV 9))) (tBin dIx (tV 8) (tV 9))) (tBinT dNe (tLenO C_Acts (sp_Acts_len C_Acts) (tBin dIx (tV 7) (tV 9))) (tFn (d1 dLen) (tAC (tBin dIx (tV 8) (tV 9)) tA0))))) r_l_right_7 tNx)
def r_l_right_9 : DTS := (tRt (tK (.bl false)))
def r_l_right_10 (C_Acts : Addr) : DTS := (tRt (tAndV (tBin dEq (tFl C_Acts "rows" (tV 2)) (tCl sp_l_sorted (tAC (tV 0) tA0))) (tBin dEq (tFl C_Acts "rows" (tV 3)) (tCl sp_l_sorted (tAC (tV 1) tA0)))))
def r_l_right_11 (C_Acts : Addr) : DTS := (tSq (tIfS (tOrT (tBinT dNe (tBin dIs (tMt C_Acts "within" (sp_Acts_within C_Acts) (tV 2) (tAC (tV 3) tA0)) (tK (.bl true))) (tBin dEq (tV 5) (tLstD tA0))) (tBinT dNe (tBin dIs (tMt C_Acts "within" (sp_Acts_within C_Acts) (tV 3) (tAC (tV 2) tA0)) (tK (.bl true))) (tBin dEq (tV 6) (tLstD tA0)))) r_l_right_9 tNx) (r_l_right_10 C_Acts))
def r_l_right_12 (C_Acts : Addr) : DTS := (tSq (tFo (iRg (tAC (tK (.int 5)) tA0)) (.one 9) (r_l_right_8 C_Acts)) (r_l_right_11 C_Acts))
def r_l_right_13 (C_Acts : Addr) : DTS := (tSq (tDr (tApp (tV 8) (tCl sp_l_sorted (tAC (tBin dAdd (tV 5) (tV 6)) tA0)))) (r_l_right_12 C_Acts))
def r_l_right_14 (C_Acts : Addr) : DTS := (tSq (tSet 8 (tLstM (tAC (tCl sp_l_sorted (tAC (tBin dAdd (tV 0) (tV 1)) tA0)) (tAC (tCl sp_l_sorted (tAC (tV 4) tA0)) (tAC (tCl sp_l_sorted (tAC (tV 5) tA0)) (tAC (tCl sp_l_sorted (tAC (tV 6) tA0)) tA0)))))) (r_l_right_13 C_Acts))
def r_l_right_15 (P : Program) (w : World) (C_Acts : Addr) : DTS := (tSq (tSet 7 (tLstD (tAC (tBinO C_Acts (sp_Acts_or P w C_Acts) (tV 2) (tV 3)) (tAC (tBinO C_Acts (sp_Acts_and P w C_Acts) (tV 2) (tV 3)) (tAC (tBinO C_Acts (sp_Acts_sub P w C_Acts) (tV 2) (tV 3)) (tAC (tBinO C_Acts (sp_Acts_sub P w C_Acts) (tV 3) (tV 2)) (tAC (tBinO C_Acts (sp_Acts_xor P w C_Acts) (tV 2) (tV 3)) tA0))))))) (r_l_right_14 C_Acts))
def r_l_right_16 (P : Program) (w : World) (C_Acts : Addr) : DTS := (tSq (tSet 6 (tFrz (tLcM (iSeq (tV 1)) (.one 10) r_l_right_5 r_l_right_6 [10]))) (r_l_right_15 P w C_Acts))
def r_l_right_17 (P : Program) (w : World) (C_Acts : Addr) : DTS := (tSq (tSet 5 (tFrz (tLcM (iSeq (tV 0)) (.one 10) r_l_right_3 r_l_right_4 [10]))) (r_l_right_16 P w C_Acts))
def r_l_right_18 (P : Program) (w : World) (C_Acts : Addr) : DTS := (tSq (tSet 4 (tFrz (tLcM (iSeq (tV 0)) (.one 10) r_l_right_1 r_l_right_2 [10]))) (r_l_right_17 P w C_Acts))
def r_l_right_19 (P : Program) (w : World) (C_Acts : Addr) : DTS := (tSq (tSet 3 (tCm C_Acts (sp_Acts_made P w C_Acts) (tAC (tV 1) tA0))) (r_l_right_18 P w C_Acts))
def r_l_right_20 (P : Program) (w : World) (C_Acts : Addr) : DTS := (tSq (tSet 2 (tCm C_Acts (sp_Acts_made P w C_Acts) (tAC (tV 0) tA0))) (r_l_right_19 P w C_Acts))
def ri_l_right (P : Program) (w : World) (C_Acts : Addr) : DTS := (tSq (tSet 2 (tCm C_Acts (sp_Acts_made P w C_Acts) (tAC (tV 0) tA0))) (tSq (tSet 3 (tCm C_Acts (sp_Acts_made P w C_Acts) (tAC (tV 1) tA0))) (tSq (tSet 4 (tFrz (tLcM (iSeq (tV 0)) (.one 10) (tBinT dIn (tV 10) (tV 1)) (tV 10) [10]))) (tSq (tSet 5 (tFrz (tLcM (iSeq (tV 0)) (.one 10) (tBinT dNotIn (tV 10) (tV 1)) (tV 10) [10]))) (tSq (tSet 6 (tFrz (tLcM (iSeq (tV 1)) (.one 10) (tBinT dNotIn (tV 10) (tV 0)) (tV 10) [10]))) (tSq (tSet 7 (tLstD (tAC (tBinO C_Acts (sp_Acts_or P w C_Acts) (tV 2) (tV 3)) (tAC (tBinO C_Acts (sp_Acts_and P w C_Acts) (tV 2) (tV 3)) (tAC (tBinO C_Acts (sp_Acts_sub P w C_Acts) (tV 2) (tV 3)) (tAC (tBinO C_Acts (sp_Acts_sub P w C_Acts) (tV 3) (tV 2)) (tAC (tBinO C_Acts (sp_Acts_xor P w C_Acts) (tV 2) (tV 3)) tA0))))))) (tSq (tSet 8 (tLstM (tAC (tCl sp_l_sorted (tAC (tBin dAdd (tV 0) (tV 1)) tA0)) (tAC (tCl sp_l_sorted (tAC (tV 4) tA0)) (tAC (tCl sp_l_sorted (tAC (tV 5) tA0)) (tAC (tCl sp_l_sorted (tAC (tV 6) tA0)) tA0)))))) (tSq (tDr (tApp (tV 8) (tCl sp_l_sorted (tAC (tBin dAdd (tV 5) (tV 6)) tA0)))) (tSq (tFo (iRg (tAC (tK (.int 5)) tA0)) (.one 9) (tIfS (tOrT (tNotT (tTru (tFn (dIsiO (JS (.inr C_Acts) [(C_Acts, true)])) (tAC (tBin dIx (tV 7) (tV 9)) (tAC (tK (.ref C_Acts)) tA0))))) (tOrT (tBinT dNe (tFl C_Acts "rows" (tBin dIx (tV 7) (tV 9))) (tBin dIx (tV 8) (tV 9))) (tBinT dNe (tLenO C_Acts (sp_Acts_len C_Acts) (tBin dIx (tV 7) (tV 9))) (tFn (d1 dLen) (tAC (tBin dIx (tV 8) (tV 9)) tA0))))) (tRt (tK (.bl false))) tNx)) (tSq (tIfS (tOrT (tBinT dNe (tBin dIs (tMt C_Acts "within" (sp_Acts_within C_Acts) (tV 2) (tAC (tV 3) tA0)) (tK (.bl true))) (tBin dEq (tV 5) (tLstD tA0))) (tBinT dNe (tBin dIs (tMt C_Acts "within" (sp_Acts_within C_Acts) (tV 3) (tAC (tV 2) tA0)) (tK (.bl true))) (tBin dEq (tV 6) (tLstD tA0)))) (tRt (tK (.bl false))) tNx) (tRt (tAndV (tBin dEq (tFl C_Acts "rows" (tV 2)) (tCl sp_l_sorted (tAC (tV 0) tA0))) (tBin dEq (tFl C_Acts "rows" (tV 3)) (tCl sp_l_sorted (tAC (tV 1) tA0)))))))))))))))
def r_l_right (P : Program) (w : World) (C_Acts : Addr) : DTS := (r_l_right_20 P w C_Acts)
theorem rr_l_right (P : Program) (w : World) (C_Acts : Addr) : ri_l_right P w C_Acts = r_l_right P w C_Acts := rfl
def sp_l_right (P : Program) (w : World) (C_Acts : Addr) : DSp := spOf 2 11 (r_l_right P w C_Acts)
theorem b_l_right {P : Program} {w : World} {K : PySem.W.Frag} {mg : Str → Option Value} {base : Heap} {C_Acts : Addr} (k_Acts_made : CalKW P w K mg base C_Acts "made" 6 (sp_Acts_made P w C_Acts)) (mg_Acts : mg "Acts" = some (.ref C_Acts)) (m_Acts___or__ : CalMW P w K mg base C_Acts "__or__" 6 (sp_Acts_or P w C_Acts)) (sf_Acts : PySem.W.selfFirst K C_Acts = true) (m_Acts___and__ : CalMW P w K mg base C_Acts "__and__" 6 (sp_Acts_and P w C_Acts)) (m_Acts___sub__ : CalMW P w K mg base C_Acts "__sub__" 6 (sp_Acts_sub P w C_Acts)) (m_Acts___xor__ : CalMW P w K mg base C_Acts "__xor__" 6 (sp_Acts_xor P w C_Acts)) (c_l_sorted : CalW P w K mg base "_law_sorted" 2 sp_l_sorted) (z_range : mg "range" = none) (js_Acts : JOk K (JS (.inr C_Acts) [(C_Acts, true)])) (g_Acts : GV K mg "Acts" (.ref C_Acts)) (z_isinstance : mg "isinstance" = none) (cl_Acts : Cls K C_Acts) (n_Acts_rows : NoAttr K C_Acts "rows") (m_Acts___len__ : CalMW P w K mg base C_Acts "__len__" 1 (sp_Acts_len C_Acts)) (z_len : mg "len" = none) (m_Acts_within : CalMW P w K mg base C_Acts "within" 1 (sp_Acts_within C_Acts)) {f : Addr} {cdv : Value} {A : Around} {outer : List PySem.Env} {s : Shared} {H : Hp} {E : XK} (hr : RoomG 6 (A.deeper (envOfC "_law_right" (defScope s_l_right) s.heap.objs.size f cdv))) :
    DSs (cxOf CX0 P w K mg base N_l_right "_law_right" (defScope s_l_right) f cdv A outer s H E).nox (defBody s_l_right) (ri_l_right P w C_Acts) := by
  have hu := hr.hu
  have hgd := hr.g
  have nd := sc_l_right.nd
  exact (dss_cons (ds_set (i := 2) (de_cmeth ⟨k_Acts_made⟩ (hr.mono (by decide)) mg_Acts (da_cons (dv 0) da_nil)) nd)
  (dss_cons (ds_set (i := 3) (de_cmeth ⟨k_Acts_made⟩ (hr.mono (by decide)) mg_Acts (da_cons (dv 1) da_nil)) nd)
  (dss_cons (ds_setLcF (j := 4) (own := [("_law_act", 10)]) (di_seq (dv 0)) (blkOk_by (N := N_l_right) (sc := defScope s_l_right) (own := [("_law_act", 10)]) (by decide +kernel)) nd rfl (fun _ _ _ _ _ => (dgt_one (i := 10) nd)) (fun _ _ _ _ _ => (dts_one (dt_cmp (do_in hu) (dv 10) (dv 1)))) (fun _ _ _ _ _ => (dv 10)) (sw_true rfl rfl rfl (by decide +kernel)))
  (dss_cons (ds_setLcF (j := 5) (own := [("_law_act", 10)]) (di_seq (dv 0)) (blkOk_by (N := N_l_right) (sc := defScope s_l_right) (own := [("_law_act", 10)]) (by decide +kernel)) nd rfl (fun _ _ _ _ _ => (dgt_one (i := 10) nd)) (fun _ _ _ _ _ => (dts_one (dt_cmp (do_notin hu) (dv 10) (dv 1)))) (fun _ _ _ _ _ => (dv 10)) (sw_true rfl rfl rfl (by decide +kernel)))
  (dss_cons (ds_setLcF (j := 6) (own := [("_law_act", 10)]) (di_seq (dv 1)) (blkOk_by (N := N_l_right) (sc := defScope s_l_right) (own := [("_law_act", 10)]) (by decide +kernel)) nd rfl (fun _ _ _ _ _ => (dgt_one (i := 10) nd)) (fun _ _ _ _ _ => (dts_one (dt_cmp (do_notin hu) (dv 10) (dv 0)))) (fun _ _ _ _ _ => (dv 10)) (sw_true rfl rfl rfl (by decide +kernel)))
  (dss_cons (ds_set (i := 7) (de_lst (da_cons (de_binO ⟨m_Acts___or__⟩ rfl sf_Acts (hr.mono (by decide)) (dv 2) (dv 3)) (da_cons (de_binO ⟨m_Acts___and__⟩ rfl sf_Acts (hr.mono (by decide)) (dv 2) (dv 3)) (da_cons (de_binO ⟨m_Acts___sub__⟩ rfl sf_Acts (hr.mono (by decide)) (dv 2) (dv 3)) (da_cons (de_binO ⟨m_Acts___sub__⟩ rfl sf_Acts (hr.mono (by decide)) (dv 3) (dv 2)) (da_cons (de_binO ⟨m_Acts___xor__⟩ rfl sf_Acts (hr.mono (by decide)) (dv 2) (dv 3)) da_nil)))))) nd)
  (dss_cons (ds_set (i := 8) (de_lstM (da_cons (de_call ⟨c_l_sorted⟩ (hr.mono (by decide)) (da_cons (de_op do_add (dv 0) (dv 1)) da_nil)) (da_cons (de_call ⟨c_l_sorted⟩ (hr.mono (by decide)) (da_cons (dv 4) da_nil)) (da_cons (de_call ⟨c_l_sorted⟩ (hr.mono (by decide)) (da_cons (dv 5) da_nil)) (da_cons (de_call ⟨c_l_sorted⟩ (hr.mono (by decide)) (da_cons (dv 6) da_nil)) da_nil))))) nd)
  (dss_cons (ds_expr (de_app (dv 8) (de_call ⟨c_l_sorted⟩ (hr.mono (by decide)) (da_cons (de_op do_add (dv 5) (dv 6)) da_nil))))
  (dss_cons (ds_for (di_range z_range (da_cons de_int da_nil)) (dgt_one (i := 9) nd)
  (dss_one (ds_if (DW.dt (dw_or (dt_not (dt_truth (de_fn (dc_isiO js_Acts) z_isinstance (by decide +kernel) (da_cons (de_ix hu (dv 7) (dv 9)) (da_cons (de_gv g_Acts) da_nil))))) (dw_or (dt_cmp (do_ne hu) (de_fld C_Acts (de_ix hu (dv 7) (dv 9)) cl_Acts n_Acts_rows) (de_ix hu (dv 8) (dv 9))) (dw_or1 (dt_cmp (do_ne hu) (de_lenO ⟨m_Acts___len__⟩ (hr.mono (by decide)) z_len (de_ix hu (dv 7) (dv 9))) (de_fn dc_len z_len (by decide +kernel) (da_cons (de_ix hu (dv 8) (dv 9)) da_nil)))))))
  (dss_one (ds_ret de_bl))
  dss_nil)) rfl PassesOwn.never)
  (dss_cons (ds_if (DW.dt (dw_or (dt_cmp (do_ne hu) (de_cmp do_is (de_meth ⟨m_Acts_within⟩ cl_Acts (hr.mono (by decide)) (dv 2) (da_cons (dv 3) da_nil)) de_bl) (de_cmp (do_eq hu) (dv 5) (de_lst da_nil))) (dw_or1 (dt_cmp (do_ne hu) (de_cmp do_is (de_meth ⟨m_Acts_within⟩ cl_Acts (hr.mono (by decide)) (dv 3) (da_cons (dv 2) da_nil)) de_bl) (de_cmp (do_eq hu) (dv 6) (de_lst da_nil))))))
  (dss_one (ds_ret de_bl))
  dss_nil)
  (dss_one (ds_ret (de_and (de_cmp (do_eq hu) (de_fld C_Acts (dv 2) cl_Acts n_Acts_rows) (de_call ⟨c_l_sorted⟩ (hr.mono (by decide)) (da_cons (dv 0) da_nil))) (de_one (de_cmp (do_eq hu) (de_fld C_Acts (dv 3) cl_Acts n_Acts_rows) (de_call ⟨c_l_sorted⟩ (hr.mono (by decide)) (da_cons (dv 1) da_nil)))))))))))))))))
theorem f_l_right {P : Program} {w : World} {K : PySem.W.Frag} {mg : Str → Option Value} {base : Heap} {C_Acts : Addr} (k_Acts_made : CalKW P w K mg base C_Acts "made" 6 (sp_Acts_made P w C_Acts)) (mg_Acts : mg "Acts" = some (.ref C_Acts)) (m_Acts___or__ : CalMW P w K mg base C_Acts "__or__" 6 (sp_Acts_or P w C_Acts)) (sf_Acts : PySem.W.selfFirst K C_Acts = true) (m_Acts___and__ : CalMW P w K mg base C_Acts "__and__" 6 (sp_Acts_and P w C_Acts)) (m_Acts___sub__ : CalMW P w K mg base C_Acts "__sub__" 6 (sp_Acts_sub P w C_Acts)) (m_Acts___xor__ : CalMW P w K mg base C_Acts "__xor__" 6 (sp_Acts_xor P w C_Acts)) (c_l_sorted : CalW P w K mg base "_law_sorted" 2 sp_l_sorted) (z_range : mg "range" = none) (js_Acts : JOk K (JS (.inr C_Acts) [(C_Acts, true)])) (g_Acts : GV K mg "Acts" (.ref C_Acts)) (z_isinstance : mg "isinstance" = none) (cl_Acts : Cls K C_Acts) (n_Acts_rows : NoAttr K C_Acts "rows") (m_Acts___len__ : CalMW P w K mg base C_Acts "__len__" 1 (sp_Acts_len C_Acts)) (z_len : mg "len" = none) (m_Acts_within : CalMW P w K mg base C_Acts "within" 1 (sp_Acts_within C_Acts)) {f : Addr} {fd : FuncData} (F : Fun K "_law_right" "_law_right" s_l_right f fd) : FnG P w K mg base CX0 7 f (liftSp K (sp_l_right P w C_Acts)) :=
  FnG.imp (sp := liftSp K (spOf0 2 11 (r_l_right P w C_Acts))) (fn_mk F sc_l_right (F.binds (ps := ["_law_first", "_law_others"]) fun _ _ _ _ _ _ us hl => match us, hl with | [_, _], _ => rfl) (fun ds m R h => h.1) (fun cdv A outer s H E hr => b_l_right k_Acts_made mg_Acts m_Acts___or__ sf_Acts m_Acts___and__ m_Acts___sub__ m_Acts___xor__ c_l_sorted z_range js_Acts g_Acts z_isinstance cl_Acts n_Acts_rows m_Acts___len__ z_len m_Acts_within hr) fun ds m R h => h.2) lift_drop
/-! law -/
abbrev s_law : Stmt := top 20
def N_law : List Str := ["_law_script", "_law_pen_here", "_law_turn", "_law_words_here", "_law_way", "_law_first", "_law_others", "_law_pair"]
theorem sc_law : FnScope N_law ["_law_script"] (defScope s_law) := ⟨rfl, rfl, rfl, by decide +kernel, rfl, by decide +kernel, by decide +kernel⟩
def r_law_1 : DTS := (tSet 6 (tBin dAdd (tV 6) (tV 5)))
def r_law_2 : DTS := (tRt (tK (.bl false)))
def r_law_3 (P : Program) (w : World) (C_Acts : Addr) : DTS := (tIfS (tNotT (tTru (tCl (sp_l_right P w C_Acts) (tAC (tBin dIx (tV 7) (tK (.int 0))) (tAC (tBin dIx (tV 7) (tK (.int 1))) tA0))))) r_law_2 tNx)
def r_law_4 (P : Program) (w : World) (C_Acts : Addr) : DTS := (tFo (iSeq (tLstD (tAC (tTupD (tAC (tV 5) (tAC (tV 6) tA0))) (tAC (tTupD (tAC (tV 6) (tAC (tV 5) tA0))) (tAC (tTupD (tAC (tV 5) (tAC (tFn (d1 dList) (tAC (tV 5) tA0)) tA0))) (tAC (tTupD (tAC (tV 5) (tAC (tLstD tA0) tA0))) (tAC (tTupD (tAC (tLstD tA0) (tAC (tV 6) tA0))) tA0))))))) (.one 7) (r_law_3 P w C_Acts))
def r_law_5 (P : Program) (w : World) (C_Acts : Addr) : DTS := (tSq (tIfS (tBinT dEq (tV 4) (tK (.int 0))) r_law_1 tNx) (r_law_4 P w C_Acts))
def r_law_6 (P : Program) (w : World) (C_Acts : Addr) : DTS := (tSq (tSet 6 (tCl sp_l_acts (tAC (tV 1) (tAC (tSlD (tV 3) tON (tOS (tK (.int 2)))) (tAC (tSlD (tV 3) (tOS (tK (.int 2))) tON) (tAC (tBin dIx (tLstD (tAC (tK (.int 0)) (tAC (tK (.int 1)) (tAC (tK (.int 3)) (tAC (tK (.int 8)) (tAC (tK (.int 16)) tA0)))))) (tCl sp_l_draw (tAC (tV 1) (tAC (tK (.int 5)) tA0)))) tA0)))))) (r_law_5 P w C_Acts))
def r_law_7 (P : Program) (w : World) (C_Acts : Addr) : DTS := (tSq (tSet 5 (tCl sp_l_acts (tAC (tV 1) (tAC (tSlD (tV 3) tON (tOS (tK (.int 2)))) (tAC (tSlD (tV 3) (tOS (tK (.int 2))) tON) (tAC (tBin dIx (tLstD (tAC (tK (.int 0)) (tAC (tK (.int 1)) (tAC (tK (.int 4)) (tAC (tK (.int 9)) (tAC (tK (.int 16)) tA0)))))) (tCl sp_l_draw (tAC (tV 1) (tAC (tK (.int 5)) tA0)))) tA0)))))) (r_law_6 P w C_Acts))
def r_law_8 (P : Program) (w : World) (C_Acts : Addr) : DTS := (tSq (tSet 4 (tCl sp_l_draw (tAC (tV 1) (tAC (tK (.int 3)) tA0)))) (r_law_7 P w C_Acts))
def r_law_9 (P : Program) (w : World) (C_Acts : Addr) : DTS := (tSq (tSet 3 (tCl sp_l_words (tAC (tV 1) (tAC (tK (.int 5)) tA0)))) (r_law_8 P w C_Acts))
def r_law_10 : DTS := (tRt (tK (.bl true)))
def r_law_11 (P : Program) (w : World) (C_Acts : Addr) : DTS := (tSq (tFo (iRg (tAC (tK (.int 3)) tA0)) (.one 2) (r_law_9 P w C_Acts)) r_law_10)
def r_law_12 (P : Program) (w : World) (C_Acts : Addr) : DTS := (tSq (tSet 1 (tCl sp_l_pen (tAC (tV 0) tA0))) (r_law_11 P w C_Acts))
def ri_law (P : Program) (w : World) (C_Acts : Addr) : DTS := (tSq (tSet 1 (tCl sp_l_pen (tAC (tV 0) tA0))) (tSq (tFo (iRg (tAC (tK (.int 3)) tA0)) (.one 2) (tSq (tSet 3 (tCl sp_l_words (tAC (tV 1) (tAC (tK (.int 5)) tA0)))) (tSq (tSet 4 (tCl sp_l_draw (tAC (tV 1) (tAC (tK (.int 3)) tA0)))) (tSq (tSet 5 (tCl sp_l_acts (tAC (tV 1) (tAC (tSlD (tV 3) tON (tOS (tK (.int 2)))) (tAC (tSlD (tV 3) (tOS (tK (.int 2))) tON) (tAC (tBin dIx (tLstD (tAC (tK (.int 0)) (tAC (tK (.int 1)) (tAC (tK (.int 4)) (tAC (tK (.int 9)) (tAC (tK (.int 16)) tA0)))))) (tCl sp_l_draw (tAC (tV 1) (tAC (tK (.int 5)) tA0)))) tA0)))))) (tSq (tSet 6 (tCl sp_l_acts (tAC (tV 1) (tAC (tSlD (tV 3) tON (tOS (tK (.int 2)))) (tAC (tSlD (tV 3) (tOS (tK (.int 2))) tON) (tAC (tBin dIx (tLstD (tAC (tK (.int 0)) (tAC (tK (.int 1)) (tAC (tK (.int 3)) (tAC (tK (.int 8)) (tAC (tK (.int 16)) tA0)))))) (tCl sp_l_draw (tAC (tV 1) (tAC (tK (.int 5)) tA0)))) tA0)))))) (tSq (tIfS (tBinT dEq (tV 4) (tK (.int 0))) (tSet 6 (tBin dAdd (tV 6) (tV 5))) tNx) (tFo (iSeq (tLstD (tAC (tTupD (tAC (tV 5) (tAC (tV 6) tA0))) (tAC (tTupD (tAC (tV 6) (tAC (tV 5) tA0))) (tAC (tTupD (tAC (tV 5) (tAC (tFn (d1 dList) (tAC (tV 5) tA0)) tA0))) (tAC (tTupD (tAC (tV 5) (tAC (tLstD tA0) tA0))) (tAC (tTupD (tAC (tLstD tA0) (tAC (tV 6) tA0))) tA0))))))) (.one 7) (tIfS (tNotT (tTru (tCl (sp_l_right P w C_Acts) (tAC (tBin dIx (tV 7) (tK (.int 0))) (tAC (tBin dIx (tV 7) (tK (.int 1))) tA0))))) (tRt (tK (.bl false))) tNx)))))))) (tRt (tK (.bl true)))))
def r_law (P : Program) (w : World) (C_Acts : Addr) : DTS := (r_law_12 P w C_Acts)
theorem rr_law (P : Program) (w : World) (C_Acts : Addr) : ri_law P w C_Acts = r_law P w C_Acts := rfl
def sp_law (P : Program) (w : World) (C_Acts : Addr) : DSp := spOf 1 8 (r_law P w C_Acts)
theorem b_law {P : Program} {w : World} {K : PySem.W.Frag} {mg : Str → Option Value} {base : Heap} {C_Acts : Addr} (c_l_pen : CalW P w K mg base "_law_pen" 1 sp_l_pen) (z_range : mg "range" = none) (c_l_words : CalW P w K mg base "_law_words" 2 sp_l_words) (c_l_draw : CalW P w K mg base "_law_draw" 1 sp_l_draw) (c_l_acts : CalW P w K mg base "_law_acts" 2 sp_l_acts) (z_list : mg "list" = none) (c_l_right : CalW P w K mg base "_law_right" 7 (sp_l_right P w C_Acts)) {f : Addr} {cdv : Value} {A : Around} {outer : List PySem.Env} {s : Shared} {H : Hp} {E : XK} (hr : RoomG 7 (A.deeper (envOfC "law" (defScope s_law) s.heap.objs.size f cdv))) :
    DSs (cxOf CX0 P w K mg base N_law "law" (defScope s_law) f cdv A outer s H E).nox (defBody s_law) (ri_law P w C_Acts) := by
  have hu := hr.hu
  have hgd := hr.g
  have nd := sc_law.nd
  exact (dss_cons (ds_set (i := 1) (de_call ⟨c_l_pen⟩ (hr.mono (by decide)) (da_cons (dv 0) da_nil)) nd)
  (dss_cons (ds_for (di_range z_range (da_cons de_int da_nil)) (dgt_one (i := 2) nd)
  (dss_cons (ds_set (i := 3) (de_call ⟨c_l_words⟩ (hr.mono (by decide)) (da_cons (dv 1) (da_cons de_int da_nil))) nd)
  (dss_cons (ds_set (i := 4) (de_call ⟨c_l_draw⟩ (hr.mono (by decide)) (da_cons (dv 1) (da_cons de_int da_nil))) nd)
  (dss_cons (ds_set (i := 5) (de_call ⟨c_l_acts⟩ (hr.mono (by decide)) (da_cons (dv 1) (da_cons (de_slice (dv 3) do_none (do_some de_int)) (da_cons (de_slice (dv 3) (do_some de_int) do_none) (da_cons (de_ix hu (de_lst (da_cons de_int (da_cons de_int (da_cons de_int (da_cons de_int (da_cons de_int da_nil)))))) (de_call ⟨c_l_draw⟩ (hr.mono (by decide)) (da_cons (dv 1) (da_cons de_int da_nil)))) da_nil))))) nd)
  (dss_cons (ds_set (i := 6) (de_call ⟨c_l_acts⟩ (hr.mono (by decide)) (da_cons (dv 1) (da_cons (de_slice (dv 3) do_none (do_some de_int)) (da_cons (de_slice (dv 3) (do_some de_int) do_none) (da_cons (de_ix hu (de_lst (da_cons de_int (da_cons de_int (da_cons de_int (da_cons de_int (da_cons de_int da_nil)))))) (de_call ⟨c_l_draw⟩ (hr.mono (by decide)) (da_cons (dv 1) (da_cons de_int da_nil)))) da_nil))))) nd)
  (dss_cons (ds_if (dt_cmp (do_eq hu) (dv 4) de_int)
  (dss_one (ds_set (i := 6) (de_op do_add (dv 6) (dv 5)) nd))
  dss_nil)
  (dss_one (ds_for (di_seq (de_lst (da_cons (de_tup (da_cons (dv 5) (da_cons (dv 6) da_nil))) (da_cons (de_tup (da_cons (dv 6) (da_cons (dv 5) da_nil))) (da_cons (de_tup (da_cons (dv 5) (da_cons (de_ty (dc_list rfl) z_list (by decide +kernel) (da_cons (dv 5) da_nil)) da_nil))) (da_cons (de_tup (da_cons (dv 5) (da_cons (de_lst da_nil) da_nil))) (da_cons (de_tup (da_cons (de_lst da_nil) (da_cons (dv 6) da_nil))) da_nil))))))) (dgt_one (i := 7) nd)
  (dss_one (ds_if (dt_not (dt_truth (de_call ⟨c_l_right⟩ (hr.mono (by decide)) (da_cons (de_ix hu (dv 7) de_int) (da_cons (de_ix hu (dv 7) de_int) da_nil)))))
  (dss_one (ds_ret de_bl))
  dss_nil)) rfl PassesOwn.never))))))) rfl PassesOwn.never)
  (dss_one (ds_ret de_bl))))
theorem f_law {P : Program} {w : World} {K : PySem.W.Frag} {mg : Str → Option Value} {base : Heap} {C_Acts : Addr} (c_l_pen : CalW P w K mg base "_law_pen" 1 sp_l_pen) (z_range : mg "range" = none) (c_l_words : CalW P w K mg base "_law_words" 2 sp_l_words) (c_l_draw : CalW P w K mg base "_law_draw" 1 sp_l_draw) (c_l_acts : CalW P w K mg base "_law_acts" 2 sp_l_acts) (z_list : mg "list" = none) (c_l_right : CalW P w K mg base "_law_right" 7 (sp_l_right P w C_Acts)) {f : Addr} {fd : FuncData} (F : Fun K "law" "law" s_law f fd) : FnG P w K mg base CX0 8 f (liftSp K (sp_law P w C_Acts)) :=
  FnG.imp (sp := liftSp K (spOf0 1 8 (r_law P w C_Acts))) (fn_mk F sc_law (F.binds (ps := ["_law_script"]) fun _ _ _ _ _ _ us hl => match us, hl with | [_], _ => rfl) (fun ds m R h => h.1) (fun cdv A outer s H E hr => b_law c_l_pen z_range c_l_words c_l_draw c_l_acts z_list c_l_right hr) fun ds m R h => h.2) lift_drop
end K33
namespace K33
open PySem PySem.Spec PyProof.Rows DL
def PenD (l : D) (a : Int) : Prop := ∃ (cells : List Int) (at_ rest : Int), l = .lst [.lst (cells.map .int), .int at_, .int rest] ∧ 0 ≤ at_ ∧ at_ ≤ a ∧ 0 ≤ rest
theorem bnd1 {c at_ a : Int} (h1 : 0 ≤ at_) (h2 : at_ ≤ a) (ha : a < 1048576) : (c % 2147483563 + 84713 * at_ + 29).natAbs < 18446744073709551616 := by
  have := Int.emod_nonneg c (show (2147483563 : Int) ≠ 0 by decide)
  have := Int.emod_lt_of_pos c (show (0 : Int) < 2147483563 by decide)
  omega
theorem bnd2 {q at_ a : Int} (h1 : 0 ≤ at_) (h2 : at_ ≤ a) (ha : a < 1048576) (hq : 0 ≤ q) (hq2 : q < 2147483629) : (q * (2 * at_ + 31) + 65063 * at_ * at_ + 7).natAbs < 18446744073709551616 := by
  have a1 : q * (2 * at_ + 31) ≤ 2147483629 * 2098000 := Int.mul_le_mul (by omega) (by omega) (by omega) (by omega)
  have a2 : 65063 * at_ * at_ ≤ (65063 * 1048576) * 1048576 := Int.mul_le_mul (by omega) (by omega) h1 (by omega)
  have a3 : 0 ≤ q * (2 * at_ + 31) := Int.mul_nonneg hq (by omega)
  have a4 : 0 ≤ 65063 * at_ * at_ := Int.mul_nonneg (by omega) h1
  omega
theorem draw_tail {m : M} {a at_ n c : Int} {e0 e2 e5 : Option D} {Q : DK} (h1 : 0 ≤ at_) (h2 : at_ ≤ a) (ha : a < 1048576) (hn : 0 < n) (hn2 : n < 1073741824)
    (k : ∀ v, 0 ≤ v → v < n → Q (.int v) m) : r_l_draw_10 [e0, some (.int n), e2, some (.int at_), some (.int c), e5, none] m { nx := fun _ m => Q .non m, rt := Q } := by
  simp [r_l_draw_10, tSq, DL.tIfS, tBinT, tBin, tV, tK, DL.tSet, tRt, tRtN, tAs, gSb, tFn, tAC, tA0, tDr, tApp, tExt, tPopA, tLstD, tTupD, tLstM, tCl, tMt, tPr, tNx, tSlD, tON, tOS, tIfD, DL.tAndT, DL.tOrT, DL.tNotT, tTru, tChainT, tNeg, tListM, List.map_cons, List.map_nil, List.length_cons, List.length_nil, List.replicate, List.cons_append, List.nil_append, List.getElem?_cons_zero, List.getElem?_cons_succ, List.set_cons_zero, List.set_cons_succ, Option.some.injEq, exists_eq_left', exists_eq_left, D.bl.injEq, D.int.injEq, D.str.injEq, D.lst.injEq, D.ref.injEq, if_true, if_false, Bool.true_eq_false, Bool.false_eq_true, startD, bodyEnds, Nat.reduceSub, Nat.reduceAdd, true_and, and_true, d1, dInt, look, dMod, d2I, dMul, dAdd, dPow, bnd1 (c := c) h1 h2 ha]
  have q1 := Int.emod_nonneg ((c % 2147483563 + 84713 * at_ + 29) ^ 5) (show (2147483629 : Int) ≠ 0 by decide)
  have q2 := Int.emod_lt_of_pos ((c % 2147483563 + 84713 * at_ + 29) ^ 5) (show (0 : Int) < 2147483629 by decide)
  generalize (c % 2147483563 + 84713 * at_ + 29) ^ 5 % 2147483629 = q at *
  have z1 : q.natAbs < 18446744073709551616 := by omega
  have z2 : at_.natAbs < 18446744073709551616 := by omega
  simp [r_l_draw_9, tSq, DL.tIfS, tBinT, tBin, tV, tK, DL.tSet, tRt, tRtN, tAs, gSb, tFn, tAC, tA0, tDr, tApp, tExt, tPopA, tLstD, tTupD, tLstM, tCl, tMt, tPr, tNx, tSlD, tON, tOS, tIfD, DL.tAndT, DL.tOrT, DL.tNotT, tTru, tChainT, tNeg, tListM, List.map_cons, List.map_nil, List.length_cons, List.length_nil, List.replicate, List.cons_append, List.nil_append, List.getElem?_cons_zero, List.getElem?_cons_succ, List.set_cons_zero, List.set_cons_succ, Option.some.injEq, exists_eq_left', exists_eq_left, D.bl.injEq, D.int.injEq, D.str.injEq, D.lst.injEq, D.ref.injEq, if_true, if_false, Bool.true_eq_false, Bool.false_eq_true, startD, bodyEnds, Nat.reduceSub, Nat.reduceAdd, true_and, and_true, d1, dInt, look, dMod, d2I, dMul, dAdd, dPow, bnd2 h1 h2 ha q1 q2, z1, z2]
  simp [r_l_draw_8, tSq, DL.tIfS, tBinT, tBin, tV, tK, DL.tSet, tRt, tRtN, tAs, gSb, tFn, tAC, tA0, tDr, tApp, tExt, tPopA, tLstD, tTupD, tLstM, tCl, tMt, tPr, tNx, tSlD, tON, tOS, tIfD, DL.tAndT, DL.tOrT, DL.tNotT, tTru, tChainT, tNeg, tListM, List.map_cons, List.map_nil, List.length_cons, List.length_nil, List.replicate, List.cons_append, List.nil_append, List.getElem?_cons_zero, List.getElem?_cons_succ, List.set_cons_zero, List.set_cons_succ, Option.some.injEq, exists_eq_left', exists_eq_left, D.bl.injEq, D.int.injEq, D.str.injEq, D.lst.injEq, D.ref.injEq, if_true, if_false, Bool.true_eq_false, Bool.false_eq_true, startD, bodyEnds, Nat.reduceSub, Nat.reduceAdd, true_and, and_true, d1, dInt, look, dMod, d2I, dDiv, hn]
  exact k _ (Int.emod_nonneg _ (by omega)) (Int.emod_lt_of_pos _ hn)
theorem draw_r {m : M} {p : Addr} {l : D} {a n : Int} {Q : DK} (hp : m p = some l) (h : PenD l a) (ha : a < 1048576) (hn : 0 < n) (hn2 : n < 1073741824)
    (k : ∀ v l', 0 ≤ v → v < n → PenD l' (a + 1) → Q (.int v) (updM m p l')) : r_l_draw (startD 7 [.ref p, .int n]) m (bodyEnds Q) := by
  obtain ⟨cells, at_, rest, rfl, h1, h2, h3⟩ := h
  show r_l_draw_16 _ _ _
  simp [r_l_draw_16, tSq, DL.tIfS, tBinT, tBin, tV, tK, DL.tSet, tRt, tRtN, tAs, gSb, tFn, tAC, tA0, tDr, tApp, tExt, tPopA, tLstD, tTupD, tLstM, tCl, tMt, tPr, tNx, tSlD, tON, tOS, tIfD, DL.tAndT, DL.tOrT, DL.tNotT, tTru, tChainT, tNeg, tListM, List.map_cons, List.map_nil, List.length_cons, List.length_nil, List.replicate, List.cons_append, List.nil_append, List.getElem?_cons_zero, List.getElem?_cons_succ, List.set_cons_zero, List.set_cons_succ, Option.some.injEq, exists_eq_left', exists_eq_left, D.bl.injEq, D.int.injEq, D.str.injEq, D.lst.injEq, D.ref.injEq, if_true, if_false, Bool.true_eq_false, Bool.false_eq_true, startD, bodyEnds, Nat.reduceSub, Nat.reduceAdd, true_and, and_true, dIx, look, hp, L2.atI, L2.ixN, dGt, d2IB, r_l_draw_3, r_l_draw_2, r_l_draw_1, d1, dInt, dMod, dDiv, d2I, hn, hn2, dStore]
  by_cases hr : 0 < rest
  · refine .inr ⟨hr, ?_⟩
    exact k _ _ (Int.emod_nonneg _ (by omega)) (Int.emod_lt_of_pos _ hn) ⟨cells, at_, rest / n, rfl, h1, by omega, Int.ediv_nonneg h3 (by omega)⟩
  · refine .inl ⟨by omega, ?_⟩
    simp [r_l_draw_15, r_l_draw_14,  tSq, DL.tIfS, tBinT, tBin, tV, tK, DL.tSet, tRt, tRtN, tAs, gSb, tFn, tAC, tA0, tDr, tApp, tExt, tPopA, tLstD, tTupD, tLstM, tCl, tMt, tPr, tNx, tSlD, tON, tOS, tIfD, DL.tAndT, DL.tOrT, DL.tNotT, tTru, tChainT, tNeg, tListM, List.map_cons, List.map_nil, List.length_cons, List.length_nil, List.replicate, List.cons_append, List.nil_append, List.getElem?_cons_zero, List.getElem?_cons_succ, List.set_cons_zero, List.set_cons_succ, Option.some.injEq, exists_eq_left', exists_eq_left, D.bl.injEq, D.int.injEq, D.str.injEq, D.lst.injEq, D.ref.injEq, if_true, if_false, Bool.true_eq_false, Bool.false_eq_true, startD, bodyEnds, Nat.reduceSub, Nat.reduceAdd, true_and, and_true, dIx, look, hp, L2.atI, L2.ixN, d1, dInt, dMod, dDiv, d2I, dStore, dAdd, r_l_draw_13, dMul]
    simp [r_l_draw_12, tSq, DL.tIfS, tBinT, tBin, tV, tK, DL.tSet, tRt, tRtN, tAs, gSb, tFn, tAC, tA0, tDr, tApp, tExt, tPopA, tLstD, tTupD, tLstM, tCl, tMt, tPr, tNx, tSlD, tON, tOS, tIfD, DL.tAndT, DL.tOrT, DL.tNotT, tTru, tChainT, tNeg, tListM, List.map_cons, List.map_nil, List.length_cons, List.length_nil, List.replicate, List.cons_append, List.nil_append, List.getElem?_cons_zero, List.getElem?_cons_succ, List.set_cons_zero, List.set_cons_succ, Option.some.injEq, exists_eq_left', exists_eq_left, D.bl.injEq, D.int.injEq, D.str.injEq, D.lst.injEq, D.ref.injEq, if_true, if_false, Bool.true_eq_false, Bool.false_eq_true, startD, bodyEnds, Nat.reduceSub, Nat.reduceAdd, true_and, and_true, dIx, look, updM, L2.atI, L2.ixN, dNe, dEqB_nil (datL_ints 59 cells)]
    have pd : ∀ r, 0 ≤ r → PenD (.lst [.lst (cells.map .int), .int (at_ + 1), .int r]) (a + 1) := fun r hr => ⟨cells, at_ + 1, r, rfl, by omega, by omega, hr⟩
    have fin : ∀ c : Int, r_l_draw_11 [some (.ref p), some (.int n), none, some (.int at_), some (.int c), none, none] (updM m p (.lst [.lst (cells.map .int), .int (at_ + 1), .int rest])) { nx := fun _ m => Q .non m, rt := Q } := by
      intro c
      simp [r_l_draw_11, tSq, DL.tIfS, tBinT, tBin, tV, tK, DL.tSet, tRt, tRtN, tAs, gSb, tFn, tAC, tA0, tDr, tApp, tExt, tPopA, tLstD, tTupD, tLstM, tCl, tMt, tPr, tNx, tSlD, tON, tOS, tIfD, DL.tAndT, DL.tOrT, DL.tNotT, tTru, tChainT, tNeg, tListM, List.map_cons, List.map_nil, List.length_cons, List.length_nil, List.replicate, List.cons_append, List.nil_append, List.getElem?_cons_zero, List.getElem?_cons_succ, List.set_cons_zero, List.set_cons_succ, Option.some.injEq, exists_eq_left', exists_eq_left, D.bl.injEq, D.int.injEq, D.str.injEq, D.lst.injEq, D.ref.injEq, if_true, if_false, Bool.true_eq_false, Bool.false_eq_true, startD, bodyEnds, Nat.reduceSub, Nat.reduceAdd, true_and, and_true, dIx, look, updM_same, L2.atI, L2.ixN, d1, dLen, dLt, d2IB, dAbs, dPow, d2I, dGe]
      have go := draw_tail (m := updM m p (.lst [.lst (cells.map .int), .int (at_ + 1), .int rest])) (c := c) (e0 := some (.ref p)) (e2 := none) (e5 := none) (Q := Q) h1 h2 ha hn hn2 fun v b1 b2 => k v _ b1 b2 (pd rest h3)
      by_cases g1 : at_ < cells.length
      · refine .inr ⟨g1, ?_⟩
        by_cases g2 : (if c < 0 then -c else c) < 1000000000000000000
        · exact .inl ⟨g2, go⟩
        · refine .inr ⟨by omega, ?_⟩
          simp [r_l_draw_7, r_l_draw_6, r_l_draw_5, tSq, DL.tIfS, tBinT, tBin, tV, tK, DL.tSet, tRt, tRtN, tAs, gSb, tFn, tAC, tA0, tDr, tApp, tExt, tPopA, tLstD, tTupD, tLstM, tCl, tMt, tPr, tNx, tSlD, tON, tOS, tIfD, DL.tAndT, DL.tOrT, DL.tNotT, tTru, tChainT, tNeg, tListM, List.map_cons, List.map_nil, List.length_cons, List.length_nil, List.replicate, List.cons_append, List.nil_append, List.getElem?_cons_zero, List.getElem?_cons_succ, List.set_cons_zero, List.set_cons_succ, Option.some.injEq, exists_eq_left', exists_eq_left, D.bl.injEq, D.int.injEq, D.str.injEq, D.lst.injEq, D.ref.injEq, if_true, if_false, Bool.true_eq_false, Bool.false_eq_true, startD, bodyEnds, Nat.reduceSub, Nat.reduceAdd, true_and, and_true, dIx, look, updM_same, updM_over, L2.atI, L2.ixN, d1, dInt, dLt, d2IB, dAbs, dPow, d2I, dMul, dSub, dAdd, dDiv, dMod, dStore, hn, hn2]
          exact k _ _ (Int.emod_nonneg _ (by omega)) (Int.emod_lt_of_pos _ hn) (pd _ (Int.ediv_nonneg (by split <;> omega) (by omega)))
      · exact .inl ⟨by omega, go⟩
    by_cases hc : cells = []
    · exact .inl ⟨hc, fin _⟩
    · refine .inr ⟨hc, ?_⟩
      have hl : 0 < cells.length := List.length_pos_iff.mpr hc
      have i0 := Int.emod_nonneg at_ (show (cells.length : Int) ≠ 0 by omega)
      have i1 := Int.emod_lt_of_pos at_ (show (0 : Int) < cells.length by omega)
      have i2 : (at_ % (cells.length : Int)).toNat < cells.length := by omega
      simp [r_l_draw_4, tSq, DL.tIfS, tBinT, tBin, tV, tK, DL.tSet, tRt, tRtN, tAs, gSb, tFn, tAC, tA0, tDr, tApp, tExt, tPopA, tLstD, tTupD, tLstM, tCl, tMt, tPr, tNx, tSlD, tON, tOS, tIfD, DL.tAndT, DL.tOrT, DL.tNotT, tTru, tChainT, tNeg, tListM, List.map_cons, List.map_nil, List.length_cons, List.length_nil, List.replicate, List.cons_append, List.nil_append, List.getElem?_cons_zero, List.getElem?_cons_succ, List.set_cons_zero, List.set_cons_succ, Option.some.injEq, exists_eq_left', exists_eq_left, D.bl.injEq, D.int.injEq, D.str.injEq, D.lst.injEq, D.ref.injEq, if_true, if_false, Bool.true_eq_false, Bool.false_eq_true, startD, bodyEnds, Nat.reduceSub, Nat.reduceAdd, true_and, and_true, dIx, look, updM_same, L2.atI, L2.ixN, d1, dInt, dLen, dMod, d2I, hl, i0, i1, i2]
      exact fin _
theorem draw_ok {m : M} {p : Addr} {l : D} {a n : Int} {Q : DK} (hp : m p = some l) (h : PenD l a) (ha : a < 1048576) (hn : 0 < n) (hn2 : n < 1073741824)
    (k : ∀ v l', 0 ≤ v → v < n → PenD l' (a + 1) → Q (.int v) (updM m p l')) : sp_l_draw [.ref p, .int n] m Q :=
  ⟨rfl, draw_r hp h ha hn hn2 fun v l' h1 h2 h3 => DL.dropR.self (k v l' h1 h2 h3)⟩
theorem PenD.mono {l : D} {a b : Int} (h : PenD l a) (hb : a ≤ b) : PenD l b := by
  obtain ⟨c, t, r, e, h1, h2, h3⟩ := h
  exact ⟨c, t, r, e, h1, by omega, h3⟩
end K33
namespace K33
open PySem PySem.Spec PyProof.Rows DL
open SX (S S_len S_cat S_inj S_tl)
theorem pen_ok {m : M} {ns : List Int} {Q : DK} (k : ∀ p l, m p = none → PenD l 0 → Q (.ref p) (updM m p l)) : sp_l_pen [.scr ns] m Q := by
  refine ⟨rfl, ?_⟩
  show r_l_pen_1 _ _ _
  simp [r_l_pen_1, tSq, DL.tIfS, tBinT, tBin, tV, tK, DL.tSet, tRt, tRtN, tAs, gSb, tFn, tAC, tA0, tDr, tApp, tExt, tPopA, tLstD, tTupD, tLstM, tCl, tMt, tPr, tNx, tSlD, tON, tOS, tIfD, DL.tAndT, DL.tOrT, DL.tNotT, tTru, tChainT, tNeg, tListM, List.map_cons, List.map_nil, List.length_cons, List.length_nil, List.replicate, List.cons_append, List.nil_append, List.getElem?_cons_zero, List.getElem?_cons_succ, List.set_cons_zero, List.set_cons_succ, Option.some.injEq, exists_eq_left', exists_eq_left, D.bl.injEq, D.int.injEq, D.str.injEq, D.lst.injEq, D.ref.injEq, if_true, if_false, Bool.true_eq_false, Bool.false_eq_true, startD, bodyEnds, Nat.reduceSub, Nat.reduceAdd, true_and, and_true, dSl, look, d1, dList]
  refine ⟨by decide, fun p hp => dropR.self (k p _ hp ⟨_, 0, 0, rfl, by decide, by decide, by decide⟩)⟩
def Lt : List Nat := [97, 98, 99, 100, 101, 102, 103, 104, 105, 106, 107, 108, 109, 110, 111, 112, 113, 114, 115, 116, 117, 118, 119, 120, 121, 122]
theorem lt_eq : Str.ofString "abcdefghijklmnopqrstuvwxyz" = S Lt := by decide +kernel
theorem lt_nd : Lt.Nodup := by decide
theorem lt_len : Lt.length = 26 := rfl
theorem s_nil : Str.ofString "" = S [] := by decide +kernel
theorem small {n : Nat} (h : n ≤ 1000) : n ≤ sizeLine := Nat.le_trans h (by decide)
theorem smallLt {n : Nat} (h : n ≤ 1000) : n < sizeLine := Nat.lt_of_le_of_lt h (by decide)
theorem strs_one (cs : List Nat) : strsOf (cs.map fun c => D.str (S [c])) = some (cs.map fun c => S [c]) := by
  have : (cs.map fun c => D.str (S [c])) = (cs.map fun c => S [c]).map D.str := by rw [List.map_map]; rfl
  rw [this, strsOf_map]
theorem sum_one : ∀ cs : List Nat, ((cs.map fun c => S [c]).map (·.length)).sum = cs.length
  | [] => rfl
  | c :: cs => by
    simp only [List.map_cons, List.sum_cons, List.length_cons, sum_one cs]
    show 1 + _ = _
    omega
def bar : List Str := ([("pass" : Str), ("raise" : Str), ("from" : Str), ("none" : Str), ("again" : Str), ("return" : Str), ("returns" : Str), ("break" : Str), ("call" : Str), ("handling" : Str), ("else" : Str)] ++ [("either" : Str), ("or" : Str), ("loop" : Str), ("try" : Str), ("except" : Str), ("as" : Str), ("finally" : Str), ("with" : Str), ("quiet" : Str), ("class" : Str), ("def" : Str)]) ++ [("error" : Str), ("vacant" : Str)]
structure Wd (w : Str) (cs : List Nat) : Prop where
  e : w = S cs
  l1 : 1 ≤ cs.length
  l8 : cs.length ≤ 8
  lt : ∀ c ∈ cs, c ∈ Lt
def Word (w : Str) : Prop := (∃ cs, Wd w cs) ∧ w ∉ bar
structure WordsOk (n : Nat) (ws : List Str) : Prop where
  len : ws.length = n
  nd : ws.Nodup
  wd : ∀ w ∈ ws, Word w
theorem nd_len : ∀ (l k : List Str), l.Nodup → (∀ x ∈ l, x ∈ k) → l.length ≤ k.length
  | [], k, _, _ => Nat.zero_le _
  | a :: l, k, h, s => by
    rw [List.nodup_cons] at h
    have ha := s a List.mem_cons_self
    have := nd_len l (k.erase a) h.2 fun x hx => (List.mem_erase_of_ne (fun e => h.1 (by rw [← e]; exact hx))).mpr (s x (List.mem_cons_of_mem _ hx))
    rw [List.length_erase_of_mem ha] at this
    have := List.length_pos_of_mem ha
    rw [List.length_cons]; omega
def cand (cs : List Nat) : List Str := S cs :: Lt.map fun c => S (cs.take 7 ++ [c])
def tailC (cs : List Nat) : List Str := Lt.map fun c => S (cs.take 7 ++ [c])
theorem bar_last : (bar.map fun b => b.cps.toList.dropLast).Nodup := by decide +kernel
theorem one_of {α β : Type} [DecidableEq β] (f : α → β) (b : β) : ∀ xs : List α, (xs.map f).Nodup → (xs.filter fun x => decide (f x = b)).length ≤ 1
  | [], _ => by simp
  | x :: xs, h => by
    rw [List.map_cons, List.nodup_cons] at h
    have ih := one_of f b xs h.2
    by_cases e : f x = b
    · rw [List.filter_cons_of_pos (by simpa using e)]
      have : xs.filter (fun x => decide (f x = b)) = [] := by
        rw [List.filter_eq_nil_iff]
        intro y hy hb
        have hb := of_decide_eq_true hb
        exact h.1 (List.mem_map.mpr ⟨y, hy, hb.trans e.symm⟩)
      rw [this]; simp
    · rw [List.filter_cons_of_neg (by simpa using e)]
      exact ih
theorem some_good {cs : List Nat} {found : List Str} (h : found.length ≤ 7) : ∃ w ∈ cand cs, w ∉ found ∧ w ∉ bar := by
  refine Classical.byContradiction fun g => ?_
  have hall : ∀ w ∈ tailC cs, w ∈ found ++ bar.filter fun b => decide (b.cps.toList.dropLast = cs.take 7) := by
    intro w hw
    by_cases hf : w ∈ found
    · exact List.mem_append_left _ hf
    · have hb : w ∈ bar := Classical.byContradiction fun z => g ⟨w, List.mem_cons_of_mem _ hw, hf, z⟩
      refine List.mem_append_right _ (List.mem_filter.mpr ⟨hb, decide_eq_true ?_⟩)
      obtain ⟨c, _, rfl⟩ := List.mem_map.mp hw
      show (cs.take 7 ++ [c]).dropLast = cs.take 7
      rw [List.dropLast_concat]
  have hnd : (tailC cs).Nodup := by
    unfold tailC
    rw [List.nodup_iff_pairwise_ne, List.pairwise_map]
    refine lt_nd.imp fun {a b} hab e => hab ?_
    have := List.append_cancel_left (S_inj e)
    simpa using this
  have h1 := nd_len _ _ hnd hall
  have h2 := one_of (fun b : Str => b.cps.toList.dropLast) (cs.take 7) bar bar_last
  rw [List.length_append] at h1
  have h3 : (tailC cs).length = 26 := by unfold tailC; rw [List.length_map, lt_len]
  omega
theorem cand_wd {cs : List Nat} (h1 : 1 ≤ cs.length) (h8 : cs.length ≤ 8) (hl : ∀ c ∈ cs, c ∈ Lt) : ∀ w ∈ cand cs, ∃ ds, Wd w ds := by
  intro w hw
  rcases List.mem_cons.mp hw with rfl | hw
  · exact ⟨cs, rfl, h1, h8, hl⟩
  · obtain ⟨c, hc, rfl⟩ := List.mem_map.mp hw
    refine ⟨cs.take 7 ++ [c], rfl, by simp, by rw [List.length_append, List.length_take]; simp; omega, fun x hx => ?_⟩
    rcases List.mem_append.mp hx with hx | hx
    · exact hl x (List.mem_of_mem_take hx)
    · rw [List.mem_singleton] at hx; subst hx; exact hc
/-- one letter drawn -/
theorem letter_ok {m : M} {p : Addr} {l : D} {a : Int} {Q : DK} (hp : m p = some l) (h : PenD l a) (ha : a < 1048576) (k : ∀ c l', c ∈ Lt → PenD l' (a + 1) → Q (.str (S [c])) (updM m p l')) :
    sp_l_draw [.ref p, .int 26] m fun v m' => ∃ d, dIx m' (.str (S Lt)) v = some d ∧ Q d m' := by
  refine draw_ok hp h ha (by decide) (by decide) fun v l' h1 h2 h3 => ?_
  obtain ⟨c, e, hc⟩ := mem_getElem? (xs := Lt) h1 (by rw [lt_len]; exact h2)
  exact ⟨_, dIx_S rfl rfl (small (by rw [lt_len]; decide)) (atI_pos h1 e), k c l' hc h3⟩
def tRand (i : Nat) : DTE := tJoin (tK (.str "")) (tFrz (tLcM (iRg (tAC (tBin dAdd (tK (.int 1)) (tCl sp_l_draw (tAC (tV 0) (tAC (tK (.int 8)) tA0)))) tA0)) (.one i) tYe (tBin dIx (tV 2) (tCl sp_l_draw (tAC (tV 0) (tAC (tK (.int 26)) tA0)))) [i]))
theorem rand_ok {m : M} {p : Addr} {l : D} {a : Int} {env : DL.Env} {i : Nat} {Q : DK} (hp : m p = some l) (h : PenD l a) (ha : a + 20 < 1048576) (he : env[0]? = some (some (.ref p))) (e0 : ∀ d, ((wipeD env [i]).set i d)[0]? = some (some (.ref p))) (e2 : ∀ d, ((wipeD env [i]).set i d)[2]? = some (some (.str (S Lt))))
    (k : ∀ cs l', 1 ≤ cs.length → cs.length ≤ 8 → (∀ c ∈ cs, c ∈ Lt) → PenD l' (a + 9) → Q (.str (S cs)) (updM m p l')) : tRand i env m Q := by
  unfold tRand
  simp only [tSq, DL.tIfS, tBinT, tBin, tV, tK, DL.tSet, tRt, tRtN, tAs, gSb, tFn, tAC, tA0, tDr, tApp, tExt, tPopA, tLstD, tTupD, tLstM, tCl, tMt, tPr, tNx, tSlD, tON, tOS, tIfD, DL.tAndT, DL.tOrT, DL.tNotT, tTru, tChainT, tNeg, tListM, List.map_cons, List.map_nil, List.length_cons, List.length_nil, List.replicate, List.cons_append, List.nil_append, List.getElem?_cons_zero, List.getElem?_cons_succ, List.set_cons_zero, List.set_cons_succ, Option.some.injEq, exists_eq_left', exists_eq_left, D.bl.injEq, D.int.injEq, D.str.injEq, D.lst.injEq, D.ref.injEq, if_true, if_false, Bool.true_eq_false, Bool.false_eq_true, startD, bodyEnds, Nat.reduceSub, Nat.reduceAdd, true_and, and_true, tJoin, tFrz, tLcM, iRg]
  refine ⟨.ref p, he, ?_⟩
  refine draw_ok hp h (by omega) (by decide) (by decide) fun v l1 v1 v2 h1 => ?_
  obtain ⟨vn, rfl⟩ := Int.eq_ofNat_of_zero_le v1
  refine ⟨.int (1 + vn), by simp only [dAdd, look], ?_⟩
  refine ⟨1 + vn, rfl, by omega, by omega, fun r hr => ?_⟩
  have pr : p ≠ r := by rintro rfl; rw [updM_same] at hr; cases hr
  have hr0 : m r = none := by rw [updM_ne pr.symm] at hr; exact hr
  have tn : (1 + (vn : Int)).toNat = vn + 1 := by omega
  rw [tn]
  refine lcD_inv (fun j acc m' => ∃ l' cs, m' = updM (updM m p l') r (.lst acc) ∧ acc = cs.map (fun c => D.str (S [c])) ∧ (∀ c ∈ cs, c ∈ Lt) ∧ cs.length = j ∧ PenD l' (a + 1 + j)) ⟨l1, [], rfl, rfl, by simp, rfl, h1.mono (by omega)⟩ ?_ ?_
  · rintro j acc d m' N hd ⟨l', cs, rfl, rfl, hc, hcl, hl'⟩ hN
    have hj : j < vn + 1 := by
      have := List.getElem?_eq_some_iff.mp hd
      obtain ⟨z, _⟩ := this
      simpa [rngD] using z
    simp only [tgD, gN, tYe, tSq, DL.tIfS, tBinT, tBin, tV, tK, DL.tSet, tRt, tRtN, tAs, gSb, tFn, tAC, tA0, tDr, tApp, tExt, tPopA, tLstD, tTupD, tLstM, tCl, tMt, tPr, tNx, tSlD, tON, tOS, tIfD, DL.tAndT, DL.tOrT, DL.tNotT, tTru, tChainT, tNeg, tListM, List.map_cons, List.map_nil, List.length_cons, List.length_nil, List.replicate, List.cons_append, List.nil_append, List.getElem?_cons_zero, List.getElem?_cons_succ, List.set_cons_zero, List.set_cons_succ, Option.some.injEq, exists_eq_left', exists_eq_left, D.bl.injEq, D.int.injEq, D.str.injEq, D.lst.injEq, D.ref.injEq, if_true, if_false, Bool.true_eq_false, Bool.false_eq_true, startD, bodyEnds, Nat.reduceSub, Nat.reduceAdd, true_and, and_true]
    refine ⟨.str (S Lt), e2 _, .ref p, e0 _, ?_⟩
    refine letter_ok (l := l') (by rw [updM_ne pr, updM_same]) hl' (by omega) fun c l2 hcm h2 => ?_
    rw [updM_comm pr.symm, updM_over]
    refine ⟨_, updM_same, by rw [List.length_map]; exact smallLt (by omega), hN _ _ ⟨l2, cs ++ [c], by rw [updM_over], by rw [List.map_append]; rfl, ?_, by simp [hcl], h2.mono (by omega)⟩⟩
    intro x hx
    rcases List.mem_append.mp hx with hx | hx
    · exact hc x hx
    · rw [List.mem_singleton] at hx; subst hx; exact hcm
  · rintro acc m' ⟨l', cs, rfl, rfl, hc, hcl, hl'⟩
    have hz : (rngD 0 (vn + 1)).length = vn + 1 := by simp [rngD]
    rw [hz] at hcl hl'
    refine ⟨_, updM_same, _, _, rfl, strs_one cs, ?_, ?_⟩
    · rw [sum_one, s_nil]
      show _ + _ * 0 ≤ _
      have : cs.length ≤ 9 := by omega
      exact Nat.le_trans (by omega : cs.length + _ * 0 ≤ 100) (by decide)
    · have hr2 : updM m p l' r = none := by rw [updM_ne pr.symm]; exact hr0
      rw [delM_upd hr2, s_nil, DL.join_one]
      exact k cs l' (by omega) (by omega) hc (hl'.mono (by omega))
def addF (cs : List Nat) : D → Option D
  | .str x => some (.str (S (cs.take 7) ++ x))
  | _ => none
theorem addF_eq (cs : List Nat) : (Lt.map fun c => D.str (S [c])).filterMap (addF cs) = (tailC cs).map .str := by
  unfold tailC
  rw [List.filterMap_map, List.map_map, ← List.filterMap_eq_map]
  congr 1
  funext c
  show some (D.str (S (cs.take 7) ++ S [c])) = _
  rw [S_cat]; rfl
def goodF (found : List Str) : D → Option D
  | .str x => if x ∉ found ∧ x ∉ bar then some (.str x) else none
  | _ => none
theorem goodF_eq (found xs : List Str) : (xs.map D.str).filterMap (goodF found) = (xs.filter fun x => decide (x ∉ found ∧ x ∉ bar)).map .str := by
  induction xs with
  | nil => rfl
  | cons u us ih =>
    rw [List.map_cons, List.filterMap_cons, ih]
    by_cases h : u ∉ found ∧ u ∉ bar
    · have e : goodF found (.str u) = some (.str u) := if_pos h
      rw [e, List.filter_cons_of_pos (by simpa using h)]; rfl
    · have e : goodF found (.str u) = none := if_neg h
      rw [e, List.filter_cons_of_neg (by simpa using h)]
theorem words_turn {m : M} {q : Addr} {found : List Str} {cs : List Nat} {e0 e1 e4 e6 e7 e9 e10 e11 e12 : Option D} {E : DEnds} (hq : m q = some (.lst (found.map .str))) (hf : found.length ≤ 7) (h1 : 1 ≤ cs.length) (h8 : cs.length ≤ 8) (hl : ∀ c ∈ cs, c ∈ Lt)
    (k : ∀ w e9 e10 e11 e12, w ∉ found → Word w → E.nx [e0, e1, some (.str (S Lt)), some (.lst (bar.map .str)), e4, some (.ref q), e6, e7, some (.str (S cs)), e9, e10, e11, e12] (updM m q (.lst ((found ++ [w]).map .str)))) :
    r_l_words_10 [e0, e1, some (.str (S Lt)), some (.lst (bar.map .str)), e4, some (.ref q), e6, e7, some (.str (S cs)), e9, e10, e11, e12] m E := by
  simp only [r_l_words_10, tSq, DL.tIfS, tBinT, tBin, tV, tK, DL.tSet, tRt, tRtN, tAs, gSb, tFn, tAC, tA0, tDr, tApp, tExt, tPopA, tLstD, tTupD, tLstM, tCl, tMt, tPr, tNx, tSlD, tON, tOS, tIfD, DL.tAndT, DL.tOrT, DL.tNotT, tTru, tChainT, tNeg, tListM, List.map_cons, List.map_nil, List.length_cons, List.length_nil, List.replicate, List.cons_append, List.nil_append, List.getElem?_cons_zero, List.getElem?_cons_succ, List.set_cons_zero, List.set_cons_succ, Option.some.injEq, exists_eq_left', exists_eq_left, D.bl.injEq, D.int.injEq, D.str.injEq, D.lst.injEq, D.ref.injEq, if_true, if_false, Bool.true_eq_false, Bool.false_eq_true, startD, bodyEnds, Nat.reduceSub, Nat.reduceAdd, true_and, and_true]
  refine ⟨by decide, ?_⟩
  refine lc_pure (ds := Lt.map fun c => D.str (S [c])) (addF cs) (fun R hR => ?_) (by rw [List.length_map, lt_len]; exact smallLt (by decide)) (fun d m1 R hd hm hy hno => ?_) ?_
  · simp only [iSeq, dSeq, tSq, DL.tIfS, tBinT, tBin, tV, tK, DL.tSet, tRt, tRtN, tAs, gSb, tFn, tAC, tA0, tDr, tApp, tExt, tPopA, tLstD, tTupD, tLstM, tCl, tMt, tPr, tNx, tSlD, tON, tOS, tIfD, DL.tAndT, DL.tOrT, DL.tNotT, tTru, tChainT, tNeg, tListM, List.map_cons, List.map_nil, List.length_cons, List.length_nil, List.replicate, List.cons_append, List.nil_append, List.getElem?_cons_zero, List.getElem?_cons_succ, List.set_cons_zero, List.set_cons_succ, Option.some.injEq, exists_eq_left', exists_eq_left, D.bl.injEq, D.int.injEq, D.str.injEq, D.lst.injEq, D.ref.injEq, if_true, if_false, Bool.true_eq_false, Bool.false_eq_true, startD, bodyEnds, Nat.reduceSub, Nat.reduceAdd, true_and, and_true]
    exact hR
  · obtain ⟨c, hc, rfl⟩ := List.mem_map.mp hd
    simp only [tgD, gN, wipeD, tYe, r_l_words_6, tSq, DL.tIfS, tBinT, tBin, tV, tK, DL.tSet, tRt, tRtN, tAs, gSb, tFn, tAC, tA0, tDr, tApp, tExt, tPopA, tLstD, tTupD, tLstM, tCl, tMt, tPr, tNx, tSlD, tON, tOS, tIfD, DL.tAndT, DL.tOrT, DL.tNotT, tTru, tChainT, tNeg, tListM, List.map_cons, List.map_nil, List.length_cons, List.length_nil, List.replicate, List.cons_append, List.nil_append, List.getElem?_cons_zero, List.getElem?_cons_succ, List.set_cons_zero, List.set_cons_succ, Option.some.injEq, exists_eq_left', exists_eq_left, D.bl.injEq, D.int.injEq, D.str.injEq, D.lst.injEq, D.ref.injEq, if_true, if_false, Bool.true_eq_false, Bool.false_eq_true, startD, bodyEnds, Nat.reduceSub, Nat.reduceAdd, true_and, and_true]
    refine ⟨7, rfl, .str (S (cs.take 7)), ?_, .str (S (cs.take 7) ++ S [c]), ?_, hy _ rfl⟩
    · simp only [dSl, look, S_len]
      rw [if_pos (small (by omega)), cutS_to (by decide)]; rfl
    · simp only [dAdd, look, S_len]
      rw [if_pos (small (by rw [List.length_take]; simp; omega))]
  · rw [addF_eq]
    refine ⟨.lst ((cand cs).map .str), ?_, ?_⟩
    · simp only [dAdd, look, List.length_map, List.length_cons, List.length_nil]
      have : (tailC cs).length = 26 := by unfold tailC; rw [List.length_map, lt_len]
      rw [if_pos (small (by rw [this]; decide))]; rfl
    simp only [r_l_words_9, tSq, DL.tIfS, tBinT, tBin, tV, tK, DL.tSet, tRt, tRtN, tAs, gSb, tFn, tAC, tA0, tDr, tApp, tExt, tPopA, tLstD, tTupD, tLstM, tCl, tMt, tPr, tNx, tSlD, tON, tOS, tIfD, DL.tAndT, DL.tOrT, DL.tNotT, tTru, tChainT, tNeg, tListM, List.map_cons, List.map_nil, List.length_cons, List.length_nil, List.replicate, List.cons_append, List.nil_append, List.getElem?_cons_zero, List.getElem?_cons_succ, List.set_cons_zero, List.set_cons_succ, Option.some.injEq, exists_eq_left', exists_eq_left, D.bl.injEq, D.int.injEq, D.str.injEq, D.lst.injEq, D.ref.injEq, if_true, if_false, Bool.true_eq_false, Bool.false_eq_true, startD, bodyEnds, Nat.reduceSub, Nat.reduceAdd, true_and, and_true]
    refine ⟨q, _, rfl, hq, ?_⟩
    have hlc : (cand cs).length = 27 := by unfold cand; rw [List.length_cons, List.length_map, lt_len]
    refine lc_pure (ds := (cand cs).map .str) (goodF found) (fun R hR => ?_) (by rw [List.length_map, hlc]; exact smallLt (by decide)) (fun d m1 R hd hm hy hno => ?_) ?_
    · simp only [iSeq, dSeq, tSq, DL.tIfS, tBinT, tBin, tV, tK, DL.tSet, tRt, tRtN, tAs, gSb, tFn, tAC, tA0, tDr, tApp, tExt, tPopA, tLstD, tTupD, tLstM, tCl, tMt, tPr, tNx, tSlD, tON, tOS, tIfD, DL.tAndT, DL.tOrT, DL.tNotT, tTru, tChainT, tNeg, tListM, List.map_cons, List.map_nil, List.length_cons, List.length_nil, List.replicate, List.cons_append, List.nil_append, List.getElem?_cons_zero, List.getElem?_cons_succ, List.set_cons_zero, List.set_cons_succ, Option.some.injEq, exists_eq_left', exists_eq_left, D.bl.injEq, D.int.injEq, D.str.injEq, D.lst.injEq, D.ref.injEq, if_true, if_false, Bool.true_eq_false, Bool.false_eq_true, startD, bodyEnds, Nat.reduceSub, Nat.reduceAdd, true_and, and_true]
      exact hR
    · obtain ⟨x, hx, rfl⟩ := List.mem_map.mp hd
      obtain ⟨pp, acc, hpp, rfl⟩ := hm
      have qp : q ≠ pp := by rintro rfl; rw [hq] at hpp; cases hpp
      have lq : look (updM m pp (.lst acc)) (.ref q) = .lst (found.map .str) := by simp only [look, updM_ne qp, hq, Option.getD_some]
      simp only [tgD, gN, wipeD, r_l_words_7, r_l_words_8, tSq, DL.tIfS, tBinT, tBin, tV, tK, DL.tSet, tRt, tRtN, tAs, gSb, tFn, tAC, tA0, tDr, tApp, tExt, tPopA, tLstD, tTupD, tLstM, tCl, tMt, tPr, tNx, tSlD, tON, tOS, tIfD, DL.tAndT, DL.tOrT, DL.tNotT, tTru, tChainT, tNeg, tListM, List.map_cons, List.map_nil, List.length_cons, List.length_nil, List.replicate, List.cons_append, List.nil_append, List.getElem?_cons_zero, List.getElem?_cons_succ, List.set_cons_zero, List.set_cons_succ, Option.some.injEq, exists_eq_left', exists_eq_left, D.bl.injEq, D.int.injEq, D.str.injEq, D.lst.injEq, D.ref.injEq, if_true, if_false, Bool.true_eq_false, Bool.false_eq_true, startD, bodyEnds, Nat.reduceSub, Nat.reduceAdd, true_and, and_true]
      simp only [dNotIn, dInB_strs (m := updM m pp (.lst acc)) (y := .ref q) (x := x) (xs := found) (.inl lq), dInB_strs (m := updM m pp (.lst acc)) (y := .lst (bar.map .str)) (x := x) (xs := bar) (.inl rfl), Option.map_some, Option.some.injEq, exists_eq_left', D.bl.injEq]
      by_cases hxf : x ∈ found
      · simp only [hxf, decide_true, Bool.not_true, Bool.false_eq_true, if_false]
        exact hno (if_neg fun z => z.1 hxf)
      · by_cases hxb : x ∈ bar
        · simp only [hxf, hxb, decide_true, decide_false, Bool.not_true, Bool.not_false, Bool.false_eq_true, if_false, if_true]
          exact hno (if_neg fun z => z.2 hxb)
        · simp only [hxf, hxb, decide_false, Bool.not_false, if_true]
          exact hy _ (if_pos ⟨hxf, hxb⟩)
    · rw [goodF_eq]
      obtain ⟨w0, hw0, hg⟩ := some_good (cs := cs) hf
      have hw1 : w0 ∈ (cand cs).filter fun x => decide (x ∉ found ∧ x ∉ bar) := List.mem_filter.mpr ⟨hw0, decide_eq_true hg⟩
      obtain ⟨w, r, hfl⟩ : ∃ w r, ((cand cs).filter fun x => decide (x ∉ found ∧ x ∉ bar)) = w :: r := by
        cases e : (cand cs).filter fun x => decide (x ∉ found ∧ x ∉ bar) with
        | nil => rw [e] at hw1; cases hw1
        | cons w r => exact ⟨w, r, rfl⟩
      have hw2 : w ∈ (cand cs).filter fun x => decide (x ∉ found ∧ x ∉ bar) := by rw [hfl]; exact List.mem_cons_self
      obtain ⟨hc, hd⟩ := List.mem_filter.mp hw2
      have hd := of_decide_eq_true hd
      rw [hfl]
      refine ⟨.str w, dIx_lst rfl rfl (atI_pos (by decide) rfl), found.map .str, hq, by rw [List.length_map]; exact smallLt (by omega), ?_⟩
      have := k w (some (.lst ((cand cs).map .str))) e10 e11 e12 hd.1 ⟨cand_wd h1 h8 hl w hc, hd.2⟩
      rw [List.map_append] at this
      exact this
theorem words_tail {m : M} {p : Addr} {l : D} {a : Int} {n : Nat} {bs : List Nat} {Q : DK} {e6 : Option D} (hp : m p = some l) (hl : PenD l a) (ha : a + 150 < 1048576) (hn : n ≤ 8) (hb1 : 1 ≤ bs.length) (hb8 : bs.length ≤ 8) (hb : ∀ c ∈ bs, c ∈ Lt)
    (k : ∀ ws l', WordsOk n ws → PenD l' (a + 12 * n) → Q (.lst (ws.map .str)) (updM m p l')) :
    r_l_words_16 [some (.ref p), some (.int n), some (.str (S Lt)), some (.lst (bar.map .str)), some (.str (S bs)), none, e6, none, none, none, none, none, none] m { nx := fun _ m => dropR Q .non m, rt := dropR Q } := by
  simp only [r_l_words_16, r_l_words_15, tSq, DL.tIfS, tBinT, tBin, tV, tK, DL.tSet, tRt, tRtN, tAs, gSb, tFn, tAC, tA0, tDr, tApp, tExt, tPopA, tLstD, tTupD, tLstM, tCl, tMt, tPr, tNx, tSlD, tON, tOS, tIfD, DL.tAndT, DL.tOrT, DL.tNotT, tTru, tChainT, tNeg, tListM, List.map_cons, List.map_nil, List.length_cons, List.length_nil, List.replicate, List.cons_append, List.nil_append, List.getElem?_cons_zero, List.getElem?_cons_succ, List.set_cons_zero, List.set_cons_succ, Option.some.injEq, exists_eq_left', exists_eq_left, D.bl.injEq, D.int.injEq, D.str.injEq, D.lst.injEq, D.ref.injEq, if_true, if_false, Bool.true_eq_false, Bool.false_eq_true, startD, bodyEnds, Nat.reduceSub, Nat.reduceAdd, true_and, and_true, tFo, iRg]
  refine ⟨by decide, fun q hq => ⟨n, rfl, by omega, by omega, ?_⟩⟩
  have pq : p ≠ q := by rintro rfl; rw [hp] at hq; cases hq
  refine forD_inv (fun i env m' => ∃ l' ws e6 e7 e8 e9 e10 e11 e12, env = [some (.ref p), some (.int n), some (.str (S Lt)), some (.lst (bar.map .str)), some (.str (S bs)), some (.ref q), e6, e7, e8, e9, e10, e11, e12] ∧ m' = updM (updM m p l') q (.lst (ws.map .str)) ∧ WordsOk i ws ∧ PenD l' (a + 12 * i))
    ⟨l, [], _, _, _, _, _, _, _, rfl, by rw [updM_self hp]; rfl, ⟨rfl, List.nodup_nil, fun w h => by cases h⟩, hl.mono (by omega)⟩ ?_ ?_
  · rintro i d env m' N hd ⟨l', ws, e6, e7, e8, e9, e10, e11, e12, rfl, rfl, hw, hl'⟩ hN
    have hi : i < n := by
      have := List.getElem?_eq_some_iff.mp hd
      obtain ⟨z, _⟩ := this
      simpa [rngD] using z
    have lw := hw.len
    have m_p : ∀ z b, updM (updM m p z) q b p = some z := fun z b => by rw [updM_ne pq, updM_same]
    have sw : ∀ z b z', updM (updM (updM m p z) q b) p z' = updM (updM m p z') q b := fun z b z' => by rw [updM_comm pq.symm, updM_over]
    simp only [tgD, gN, r_l_words_13, tSq, DL.tIfS, tBinT, tBin, tV, tK, DL.tSet, tRt, tRtN, tAs, gSb, tFn, tAC, tA0, tDr, tApp, tExt, tPopA, tLstD, tTupD, tLstM, tCl, tMt, tPr, tNx, tSlD, tON, tOS, tIfD, DL.tAndT, DL.tOrT, DL.tNotT, tTru, tChainT, tNeg, tListM, List.map_cons, List.map_nil, List.length_cons, List.length_nil, List.replicate, List.cons_append, List.nil_append, List.getElem?_cons_zero, List.getElem?_cons_succ, List.set_cons_zero, List.set_cons_succ, Option.some.injEq, exists_eq_left', exists_eq_left, D.bl.injEq, D.int.injEq, D.str.injEq, D.lst.injEq, D.ref.injEq, if_true, if_false, Bool.true_eq_false, Bool.false_eq_true, startD, bodyEnds, Nat.reduceSub, Nat.reduceAdd, true_and, and_true]
    refine ⟨.int bs.length, by simp only [d1, look, dLen, S_len]; rw [if_pos (small (by omega))], .int (bs.length + 3), by simp only [dAdd, look], ?_⟩
    refine draw_ok (m_p _ _) hl' (by omega) (by omega) (by omega) fun v l2 v1 v2 h2 => ?_
    rw [sw]
    obtain ⟨vn, rfl⟩ := Int.eq_ofNat_of_zero_le v1
    have fin : ∀ (cs : List Nat) (l3 : D) (e9 e10 e11 e12 : Option D) (E : DEnds), E.nx = N → 1 ≤ cs.length → cs.length ≤ 8 → (∀ c ∈ cs, c ∈ Lt) → PenD l3 (a + 12 * (i + 1)) → r_l_words_10 [some (.ref p), some (.int n), some (.str (S Lt)), some (.lst (bar.map .str)), some (.str (S bs)), some (.ref q), some d, some (.int vn), some (.str (S cs)), e9, e10, e11, e12] (updM (updM m p l3) q (.lst (ws.map .str))) E := by
      intro cs l3 e9 e10 e11 e12 E hE c1 c8 cl h3
      refine words_turn (found := ws) updM_same (by omega) c1 c8 cl fun w e9 e10 e11 e12 hwf hww => ?_
      rw [updM_over, hE]
      refine hN _ _ ⟨l3, ws ++ [w], _, _, _, _, _, _, _, rfl, rfl, ⟨by simp [lw], ?_, fun x hx => ?_⟩, h3.mono (by omega)⟩
      · rw [List.nodup_append]
        exact ⟨hw.nd, by simp, fun x hx y hy e => hwf (by rw [List.mem_singleton] at hy; subst hy; subst e; exact hx)⟩
      · rcases List.mem_append.mp hx with hx | hx
        · exact hw.wd x hx
        · rw [List.mem_singleton] at hx; subst hx; exact hww
    simp only [r_l_words_12, tSq, DL.tIfS, tBinT, tBin, tV, tK, DL.tSet, tRt, tRtN, tAs, gSb, tFn, tAC, tA0, tDr, tApp, tExt, tPopA, tLstD, tTupD, tLstM, tCl, tMt, tPr, tNx, tSlD, tON, tOS, tIfD, DL.tAndT, DL.tOrT, DL.tNotT, tTru, tChainT, tNeg, tListM, List.map_cons, List.map_nil, List.length_cons, List.length_nil, List.replicate, List.cons_append, List.nil_append, List.getElem?_cons_zero, List.getElem?_cons_succ, List.set_cons_zero, List.set_cons_succ, Option.some.injEq, exists_eq_left', exists_eq_left, D.bl.injEq, D.int.injEq, D.str.injEq, D.lst.injEq, D.ref.injEq, if_true, if_false, Bool.true_eq_false, Bool.false_eq_true, startD, bodyEnds, Nat.reduceSub, Nat.reduceAdd, true_and, and_true]
    refine ⟨vn, rfl, .str (S (bs.take vn)), ?_, ?_⟩
    · simp only [dSl, look, S_len]
      rw [if_pos (small (by omega)), cutS_to (by omega), Int.toNat_natCast]
    refine letter_ok (m_p _ _) h2 (by omega) fun c l3 hc h3 => ?_
    rw [sw]
    refine ⟨.str (S (bs.take vn ++ [c])), ?_, .int (vn + 1), by simp only [dAdd, look], vn + 1, rfl, .str (S (bs.drop (vn + 1))), ?_, .str (S (bs.take vn ++ [c] ++ bs.drop (vn + 1))), ?_, ?_⟩
    · simp only [dAdd, look, S_len]
      rw [if_pos (small (by rw [List.length_take]; simp; omega)), S_cat]
    · simp only [dSl, look, S_len]
      rw [if_pos (small (by omega)), cutS_from (by omega)]
      rfl
    · simp only [dAdd, look, S_len]
      rw [if_pos (small (by rw [List.length_append, List.length_take, List.length_drop]; simp; omega)), S_cat]
    simp only [r_l_words_11, tSq, DL.tIfS, tBinT, tBin, tV, tK, DL.tSet, tRt, tRtN, tAs, gSb, tFn, tAC, tA0, tDr, tApp, tExt, tPopA, tLstD, tTupD, tLstM, tCl, tMt, tPr, tNx, tSlD, tON, tOS, tIfD, DL.tAndT, DL.tOrT, DL.tNotT, tTru, tChainT, tNeg, tListM, List.map_cons, List.map_nil, List.length_cons, List.length_nil, List.replicate, List.cons_append, List.nil_append, List.getElem?_cons_zero, List.getElem?_cons_succ, List.set_cons_zero, List.set_cons_succ, Option.some.injEq, exists_eq_left', exists_eq_left, D.bl.injEq, D.int.injEq, D.str.injEq, D.lst.injEq, D.ref.injEq, if_true, if_false, Bool.true_eq_false, Bool.false_eq_true, startD, bodyEnds, Nat.reduceSub, Nat.reduceAdd, true_and, and_true]
    refine ⟨.int bs.length, by simp only [d1, look, dLen, S_len]; rw [if_pos (small (by omega))], decide ((vn : Int) = bs.length), rfl, ?_⟩
    by_cases g1 : (vn : Int) = bs.length
    · simp only [g1, decide_true, if_true]
      rw [← g1]
      simp only [r_l_words_2, tSq, DL.tIfS, tBinT, tBin, tV, tK, DL.tSet, tRt, tRtN, tAs, gSb, tFn, tAC, tA0, tDr, tApp, tExt, tPopA, tLstD, tTupD, tLstM, tCl, tMt, tPr, tNx, tSlD, tON, tOS, tIfD, DL.tAndT, DL.tOrT, DL.tNotT, tTru, tChainT, tNeg, tListM, List.map_cons, List.map_nil, List.length_cons, List.length_nil, List.replicate, List.cons_append, List.nil_append, List.getElem?_cons_zero, List.getElem?_cons_succ, List.set_cons_zero, List.set_cons_succ, Option.some.injEq, exists_eq_left', exists_eq_left, D.bl.injEq, D.int.injEq, D.str.injEq, D.lst.injEq, D.ref.injEq, if_true, if_false, Bool.true_eq_false, Bool.false_eq_true, startD, bodyEnds, Nat.reduceSub, Nat.reduceAdd, true_and, and_true]
      refine ⟨.int bs.length, by simp only [d1, look, dLen, S_len]; rw [if_pos (small (by omega))], ?_⟩
      refine draw_ok (m_p _ _) h3 (by omega) (by omega) (by omega) fun u l4 u1 u2 h4 => ?_
      rw [sw]
      refine ⟨.int (1 + u), by simp only [dAdd, look], 1 + u, rfl, .str (S (bs.take (1 + u).toNat)), ?_, ?_⟩
      · simp only [dSl, look, S_len]
        rw [if_pos (small (by omega)), cutS_to (by omega)]
      · exact fin _ l4 _ _ _ _ _ rfl (by rw [List.length_take]; omega) (by rw [List.length_take]; omega) (fun c hc => hb c (List.mem_of_mem_take hc)) (h4.mono (by omega))
    · simp only [g1, decide_false, Bool.false_eq_true, if_false]
      simp only [r_l_words_5, tSq, DL.tIfS, tBinT, tBin, tV, tK, DL.tSet, tRt, tRtN, tAs, gSb, tFn, tAC, tA0, tDr, tApp, tExt, tPopA, tLstD, tTupD, tLstM, tCl, tMt, tPr, tNx, tSlD, tON, tOS, tIfD, DL.tAndT, DL.tOrT, DL.tNotT, tTru, tChainT, tNeg, tListM, List.map_cons, List.map_nil, List.length_cons, List.length_nil, List.replicate, List.cons_append, List.nil_append, List.getElem?_cons_zero, List.getElem?_cons_succ, List.set_cons_zero, List.set_cons_succ, Option.some.injEq, exists_eq_left', exists_eq_left, D.bl.injEq, D.int.injEq, D.str.injEq, D.lst.injEq, D.ref.injEq, if_true, if_false, Bool.true_eq_false, Bool.false_eq_true, startD, bodyEnds, Nat.reduceSub, Nat.reduceAdd, true_and, and_true]
      refine ⟨.int bs.length, by simp only [d1, look, dLen, S_len]; rw [if_pos (small (by omega))], decide ((bs.length : Int) < vn), rfl, ?_⟩
      by_cases g2 : (bs.length : Int) < vn
      · simp only [g2, decide_true, if_true]
        refine rand_ok (i := 12) (l := l3) (m_p _ _) h3 (by omega) rfl (fun _ => rfl) (fun _ => rfl) fun cs l4 c1 c8 cl h4 => ?_
        rw [sw]
        exact fin _ l4 _ _ _ _ _ rfl c1 c8 cl (h4.mono (by omega))
      · simp only [g2, decide_false, Bool.false_eq_true, if_false]
        refine fin _ l3 _ _ _ _ _ rfl ?_ ?_ (fun x hx => ?_) (h3.mono (by omega))
        · simp; omega
        · rw [List.length_append, List.length_append, List.length_take, List.length_drop]; simp; omega
        · rw [List.mem_append, List.mem_append, List.mem_singleton] at hx
          rcases hx with (hx | hx) | hx
          · exact hb x (List.mem_of_mem_take hx)
          · subst hx; exact hc
          · exact hb x (List.mem_of_mem_drop hx)
  · rintro env m' ⟨l', ws, e6, e7, e8, e9, e10, e11, e12, rfl, rfl, hw, hl'⟩
    have hz : (rngD 0 (Int.toNat n)).length = n := by simp [rngD]
    rw [hz] at hw hl'
    simp only [r_l_words_14, tSq, DL.tIfS, tBinT, tBin, tV, tK, DL.tSet, tRt, tRtN, tAs, gSb, tFn, tAC, tA0, tDr, tApp, tExt, tPopA, tLstD, tTupD, tLstM, tCl, tMt, tPr, tNx, tSlD, tON, tOS, tIfD, DL.tAndT, DL.tOrT, DL.tNotT, tTru, tChainT, tNeg, tListM, List.map_cons, List.map_nil, List.length_cons, List.length_nil, List.replicate, List.cons_append, List.nil_append, List.getElem?_cons_zero, List.getElem?_cons_succ, List.set_cons_zero, List.set_cons_succ, Option.some.injEq, exists_eq_left', exists_eq_left, D.bl.injEq, D.int.injEq, D.str.injEq, D.lst.injEq, D.ref.injEq, if_true, if_false, Bool.true_eq_false, Bool.false_eq_true, startD, bodyEnds, Nat.reduceSub, Nat.reduceAdd, true_and, and_true, tFrz]
    refine ⟨_, updM_same, updM m p l', fun b => ?_, k ws l' hw (hl'.mono (by omega))⟩
    unfold delM updM
    by_cases b2 : b = q
    · right; subst b2; simp [pq.symm, hq]
    · left; simp [b2]
theorem words_ok {m : M} {p : Addr} {l : D} {a : Int} {n : Nat} {Q : DK} (hp : m p = some l) (hl : PenD l a) (ha : a + 200 < 1048576) (hn : n ≤ 8)
    (k : ∀ ws l', WordsOk n ws → PenD l' (a + 150) → Q (.lst (ws.map .str)) (updM m p l')) : sp_l_words [.ref p, .int n] m Q := by
  refine ⟨rfl, ?_⟩
  show r_l_words_21 _ _ _
  simp only [r_l_words_21, r_l_words_20, r_l_words_19, r_l_words_18, tSq, DL.tIfS, tBinT, tBin, tV, tK, DL.tSet, tRt, tRtN, tAs, gSb, tFn, tAC, tA0, tDr, tApp, tExt, tPopA, tLstD, tTupD, tLstM, tCl, tMt, tPr, tNx, tSlD, tON, tOS, tIfD, DL.tAndT, DL.tOrT, DL.tNotT, tTru, tChainT, tNeg, tListM, List.map_cons, List.map_nil, List.length_cons, List.length_nil, List.replicate, List.cons_append, List.nil_append, List.getElem?_cons_zero, List.getElem?_cons_succ, List.set_cons_zero, List.set_cons_succ, Option.some.injEq, exists_eq_left', exists_eq_left, D.bl.injEq, D.int.injEq, D.str.injEq, D.lst.injEq, D.ref.injEq, if_true, if_false, Bool.true_eq_false, Bool.false_eq_true, startD, bodyEnds, Nat.reduceSub, Nat.reduceAdd, true_and, and_true]
  rw [lt_eq]
  refine ⟨by decide, by decide, _, by simp only [dAdd, look]; exact if_pos (by decide), by decide, _, by simp only [dAdd, look]; exact if_pos (by decide), ?_⟩
  simp only [r_l_words_17, tSq, DL.tSet]
  refine rand_ok (i := 6) (p := p) (l := l) hp hl (by omega) rfl (fun _ => rfl) (fun _ => rfl) fun cs l2 c1 c8 cl h2 => ?_
  refine words_tail (e6 := none) (l := l2) updM_same h2 (by omega) hn c1 c8 cl fun ws l3 hw h3 => ?_
  rw [updM_over]
  exact k ws l3 hw (h3.mono (by omega))
end K33
namespace K33
open PySem PySem.Spec PyProof.Rows DL
open SX (S S_len S_cat S_inj S_tl)
structure Act where
  c : Str
  h : Option Str
  o : Str
deriving DecidableEq
def hD : Option Str → D
  | none => .non
  | some s => .str s
def actD (a : Act) : D := .tup [.str a.c, hD a.h, .str a.o]
def WOk (w : Str) : Prop := (∃ cs, Wd w cs) ∧ w ∉ c_RESERVED
structure AOk (a : Act) : Prop where
  c : WOk a.c
  h : ∀ s, a.h = some s → WOk s
  o : WOk a.o ∨ a.o = "returns"
theorem res_bar : ∀ x ∈ c_RESERVED, x ∈ bar := by decide +kernel
theorem ret_res : ("returns" : Str) ∈ c_RESERVED := by decide +kernel
theorem word_wok {w : Str} (h : Word w) : WOk w := ⟨h.1, fun z => h.2 (res_bar w z)⟩
theorem wok_ret {w : Str} (h : WOk w) : w ≠ "returns" := fun e => h.2 (e ▸ ret_res)
theorem wok_nil {w : Str} (h : WOk w) : w ≠ "" := by
  rintro rfl
  obtain ⟨⟨cs, e, l1, _⟩, _⟩ := h
  rw [s_nil] at e
  have := S_inj e
  subst this
  simp at l1
theorem strOk_S {cs : List Nat} (hl : ∀ c ∈ cs, c ∈ Lt) : PyData.strOk (S cs) = true := by
  unfold PyData.strOk
  rw [← Array.all_toList, List.all_eq_true]
  intro c hc
  have hc : c ∈ cs := hc
  have : ∀ c ∈ Lt, decide (c < 0x110000) = true := by decide
  exact this c (hl c hc)
theorem wok_str {w : Str} (h : WOk w) : PyData.strOk w = true := by
  obtain ⟨⟨cs, rfl, _, _, hl⟩, _⟩ := h
  exact strOk_S hl
theorem ret_str : PyData.strOk ("returns" : Str) = true := by decide +kernel
theorem nil_str : PyData.strOk ("" : Str) = true := by decide +kernel
theorem hD_dat {h : Option Str} {n : Nat} (k : ∀ s, h = some s → WOk s) : dat n (hD h) = true := by
  cases h with
  | none => simp [hD, dat]
  | some s => simp [hD, dat, wok_str (k s rfl)]
theorem o_str {a : Act} (ok : AOk a) : PyData.strOk a.o = true := by
  rcases ok.o with h | h
  · exact wok_str h
  · rw [h]; exact ret_str
theorem act_dat {a : Act} {n : Nat} (ok : AOk a) : dat (n + 1) (actD a) = true := by
  simp [actD, dat, datL, wok_str ok.c, hD_dat ok.h, o_str ok]
theorem acts_dat {as : List Act} {n : Nat} (ok : ∀ a ∈ as, AOk a) : datL (n + 1) (as.map actD) = true := by
  rw [datL_all, List.all_map, List.all_eq_true]
  exact fun a ha => act_dat (ok a ha)
theorem str_beq (a b : Str) : (a == b) = decide (a = b) := by
  by_cases e : a = b
  · subst e; simp
  · simp only [e, decide_false]; exact beq_eq_false_iff_ne.mpr e
theorem eqv_act (a b : Act) : eqvD (actD a) (actD b) = decide (a = b) := by
  obtain ⟨c, h, o⟩ := a
  obtain ⟨c', h', o'⟩ := b
  have main : ∀ x y : Option Str, PyData.eqv (toPd (hD x)) (toPd (hD y)) = decide (x = y) := by
    intro x y
    cases x <;> cases y <;> simp [hD, toPd, PyData.eqv, str_beq]
  show PyData.eqv (toPd (actD ⟨c, h, o⟩)) (toPd (actD ⟨c', h', o'⟩)) = _
  simp only [actD, toPd, toPdL, PyData.eqv, PyData.eqvAll, main, str_beq, Act.mk.injEq, Bool.and_true]
  by_cases h1 : c = c' <;> by_cases h2 : h = h' <;> by_cases h3 : o = o' <;> simp [h1, h2, h3]
theorem eqv_acts : ∀ (as bs : List Act), PyData.eqvAll (toPdL (as.map actD)) (toPdL (bs.map actD)) = decide (as = bs)
  | [], [] => by simp [toPdL, PyData.eqvAll]
  | [], b :: bs => by simp [toPdL, PyData.eqvAll]
  | a :: as, [] => by simp [toPdL, PyData.eqvAll]
  | a :: as, b :: bs => by
    have e := eqv_act a b
    unfold eqvD at e
    simp only [List.map_cons, toPdL, PyData.eqvAll, e, eqv_acts as bs, List.cons.injEq]
    by_cases h1 : a = b <;> by_cases h2 : as = bs <;> simp [h1, h2]
theorem any_act (a : Act) (as : List Act) : ((as.map actD).any fun y => eqvD y (actD a)) = decide (a ∈ as) := by
  induction as with
  | nil => rfl
  | cons b bs ih =>
    rw [List.map_cons, List.any_cons, ih, eqv_act]
    by_cases e : b = a
    · subst e; simp
    · have : ¬ a = b := fun z => e z.symm
      simp [e, this]
theorem in_acts {m : M} {y : D} {a : Act} {as : List Act} (oka : AOk a) (ok : ∀ a ∈ as, AOk a) (hy : look m y = .lst (as.map actD) ∨ look m y = .tup (as.map actD)) : dInB m (actD a) y = some (decide (a ∈ as)) := by
  have hf : (flatD (actD a) = true ∧ (as.map actD).all flatD = true) ∨ (dat 60 (actD a) = true ∧ datL 59 (as.map actD) = true) := .inr ⟨act_dat oka, acts_dat ok⟩
  unfold dInB
  rcases hy with e | e <;> (rw [e]; simp only []; rw [if_pos hf, any_act])
/-! keys -/
theorem hKey {x y : Option Str} : keyD (hD x) = keyD (hD y) ↔ x = y := by
  cases x <;> cases y <;> simp [hD, keyD]
theorem act_key {a b : Act} : keyD (actD a) = keyD (actD b) ↔ a = b := by
  obtain ⟨c, h, o⟩ := a
  obtain ⟨c', h', o'⟩ := b
  simp [actD, keyD, keyDs, hKey]
theorem act_tupKey (a : Act) : tupKey (actD a) = true := by
  obtain ⟨c, h, o⟩ := a
  cases h <;> rfl
def addA (as : List Act) (a : Act) : List Act := if a ∈ as then as else as ++ [a]
theorem kput_act (a : Act) : ∀ as : List Act, kputK (as.map actD) (actD a) = (addA as a).map actD
  | [] => by simp [kputK, addA]
  | b :: bs => by
    rw [List.map_cons, kputK]
    by_cases e : b = a
    · subst e
      rw [if_pos rfl]
      simp [addA]
    · rw [if_neg (fun z => e (act_key.mp z)), kput_act a bs]
      have e' : ¬ a = b := fun z => e z.symm
      unfold addA
      by_cases h : a ∈ bs <;> simp [h, e']
def dd (as : List Act) : List Act := as.foldl addA []
theorem dd_snoc (as : List Act) (a : Act) : dd (as ++ [a]) = addA (dd as) a := by unfold dd; rw [List.foldl_append]; rfl
theorem addA_mem {as : List Act} {a x : Act} : x ∈ addA as a ↔ x ∈ as ∨ x = a := by
  unfold addA
  by_cases h : a ∈ as
  · rw [if_pos h]
    exact ⟨.inl, fun z => z.elim id fun e => e ▸ h⟩
  · rw [if_neg h]; simp
theorem addA_nd {as : List Act} {a : Act} (h : as.Nodup) : (addA as a).Nodup := by
  unfold addA
  split
  · exact h
  · rename_i g
    rw [List.nodup_append]
    exact ⟨h, by simp, fun x hx y hy e => g (by rw [List.mem_singleton] at hy; subst hy; subst e; exact hx)⟩
theorem addA_len {as : List Act} {a : Act} : (addA as a).length ≤ as.length + 1 := by
  unfold addA
  split <;> simp
theorem dd_facts (as : List Act) : (dd as).Nodup ∧ (∀ x, x ∈ dd as ↔ x ∈ as) ∧ (dd as).length ≤ as.length := by
  have main : ∀ (as acc : List Act), acc.Nodup → (as.foldl addA acc).Nodup ∧ (∀ x, x ∈ as.foldl addA acc ↔ x ∈ acc ∨ x ∈ as) ∧ (as.foldl addA acc).length ≤ acc.length + as.length := by
    intro as
    induction as with
    | nil => intro acc h; exact ⟨h, by simp, by simp⟩
    | cons a as ih =>
      intro acc h
      obtain ⟨i1, i2, i3⟩ := ih (addA acc a) (addA_nd h)
      refine ⟨i1, fun x => ?_, ?_⟩
      · rw [List.foldl_cons, i2, addA_mem, List.mem_cons, or_assoc]
      · have := addA_len (as := acc) (a := a)
        rw [List.foldl_cons, List.length_cons]; omega
  obtain ⟨h1, h2, h3⟩ := main as [] List.nodup_nil
  exact ⟨h1, by simpa [dd] using h2, by simpa [dd] using h3⟩
/-! places -/
def plA (a : Act) : D := .tup [.str a.c, .str (a.h.getD ""), .str (if a.o = "returns" then "" else a.o)]
def kfD : D → D
  | .tup [.str c, .str h, .str o] => .tup [.str c, .str h, .str (if o = "returns" then "" else o)]
  | .tup [.str c, .non, .str o] => .tup [.str c, .str "", .str (if o = "returns" then "" else o)]
  | d => d
theorem kf_act (a : Act) : kfD (actD a) = plA a := by
  obtain ⟨c, h, o⟩ := a
  cases h <;> rfl
def ltA (a b : Act) : Bool := PySem.W.dataLt (toPd (plA a)) (toPd (plA b))
theorem pl_dat {a : Act} (ok : AOk a) : dat 8 (plA a) = true := by
  have h1 : PyData.strOk (a.h.getD "") = true := by
    cases e : a.h with
    | none => exact nil_str
    | some s => exact wok_str (ok.h s e)
  have h2 : PyData.strOk (if a.o = "returns" then "" else a.o) = true := by
    split
    · exact nil_str
    · exact o_str ok
  simp [plA, dat, datL, wok_str ok.c, h1, h2]
theorem pl_alike (a b : Act) : PySem.W.alike (toPd (plA a)) (toPd (plA b)) = true := by
  simp [plA, toPd, toPdL, PySem.W.alike, PySem.W.alikeAll]
theorem pl_inj {a b : Act} (oka : AOk a) (okb : AOk b) (e : PySem.W.keyToks (toPd (plA a)) = PySem.W.keyToks (toPd (plA b))) : a = b := by
  obtain ⟨c, h, o⟩ := a
  obtain ⟨c', h', o'⟩ := b
  simp only [plA, toPd, toPdL, PySem.W.keyToks, PySem.W.keyToksAll, List.cons_append, List.nil_append, List.cons.injEq, Sum.inr.injEq, true_and, and_true] at e
  obtain ⟨e1, e2, e3⟩ := e
  have e1 := PySem.W.str_of_cps e1
  have e2 := PySem.W.str_of_cps e2
  have e3 := PySem.W.str_of_cps e3
  have hh : h = h' := by
    cases h with
    | none => cases h' with
      | none => rfl
      | some s => exact absurd e2.symm (wok_nil (okb.h s rfl))
    | some s => cases h' with
      | none => exact absurd e2 (wok_nil (oka.h s rfl))
      | some s' => exact congrArg some e2
  have ho : o = o' := by
    have n1 := oka.o
    have n2 := okb.o
    simp only at n1 n2 e3
    by_cases g1 : o = "returns" <;> by_cases g2 : o' = "returns"
    · rw [g1, g2]
    · rw [if_pos g1, if_neg g2] at e3
      exact absurd e3.symm (wok_nil (n2.resolve_right g2))
    · rw [if_neg g1, if_pos g2] at e3
      exact absurd e3 (wok_nil (n1.resolve_right g1))
    · rw [if_neg g1, if_neg g2] at e3
      exact e3
  simp only [e1, hh, ho]
theorem ltA_irr (a : Act) : ltA a a = false := PyProof.Rows.lex_irrefl _
theorem ltA_trans {a b c : Act} (h1 : ltA a b = true) (h2 : ltA b c = true) : ltA a c = true := PyProof.Rows.lex_trans _ _ _ h1 h2
theorem ltA_tri {a b : Act} (oka : AOk a) (okb : AOk b) (h1 : ltA a b = false) (h2 : ltA b a = false) : a = b := pl_inj oka okb (PyProof.Rows.lex_total _ _ h1 h2)
/-- in strict order -/
def Srt (as : List Act) : Prop := as.Pairwise fun a b => ltA a b = true
theorem srt_uniq : ∀ {as bs : List Act}, Srt as → Srt bs → (∀ x, x ∈ as ↔ x ∈ bs) → as = bs
  | [], [], _, _, _ => rfl
  | [], b :: bs, _, _, h => absurd ((h b).mpr List.mem_cons_self) (by simp)
  | a :: as, [], _, _, h => absurd ((h a).mp List.mem_cons_self) (by simp)
  | a :: as, b :: bs, h1, h2, h => by
    unfold Srt at h1 h2
    rw [List.pairwise_cons] at h1 h2
    have e : a = b := by
      refine Classical.byContradiction fun ne => ?_
      have m1 : a ∈ bs := ((List.mem_cons.mp ((h a).mp List.mem_cons_self)).resolve_left ne)
      have m2 : b ∈ as := ((List.mem_cons.mp ((h b).mpr List.mem_cons_self)).resolve_left fun z => ne z.symm)
      have := ltA_trans (h1.1 b m2) (h2.1 a m1)
      rw [ltA_irr] at this
      cases this
    subst e
    congr 1
    refine srt_uniq h1.2 h2.2 fun x => ⟨fun hx => ?_, fun hx => ?_⟩
    · refine (List.mem_cons.mp ((h x).mp (List.mem_cons_of_mem _ hx))).resolve_left ?_
      rintro rfl
      have := h1.1 x hx
      rw [ltA_irr] at this; cases this
    · refine (List.mem_cons.mp ((h x).mpr (List.mem_cons_of_mem _ hx))).resolve_left ?_
      rintro rfl
      have := h2.1 x hx
      rw [ltA_irr] at this; cases this
theorem Srt.nd {as : List Act} (h : Srt as) : as.Nodup := by
  rw [List.nodup_iff_pairwise_ne]
  refine List.Pairwise.imp (fun {a b} h e => ?_) h
  subst e
  rw [ltA_irr] at h; cases h
def leA (a b : Act) : Bool := !ltA b a
theorem srtK_acts (as : List Act) : srtK kfD (as.map actD) = (as.mergeSort leA).map actD := by
  unfold srtK
  refine (List.map_mergeSort (f := actD) fun a _ b _ => ?_).symm
  show (!ltA b a) = (!PySem.W.dataLt (toPd (kfD (actD b))) (toPd (kfD (actD a))))
  rw [kf_act, kf_act]; rfl
theorem leA_total : (∀ a b c, leA a b = true → leA b c = true → leA a c = true) ∧ ∀ a b, (leA a b || leA b a) = true := by
  have T := PySem.W.sortLe_total (PyProof.Rows.listOrd itemOrd) false fun a : Act => PySem.W.keyToks (toPd (plA a))
  exact ⟨T.trans, fun a b => by rw [Bool.or_eq_true]; exact T.total a b⟩
def ordA (as : List Act) : List Act := (dd as).mergeSort leA
theorem ordA_srt {as : List Act} (ok : ∀ a ∈ as, AOk a) : Srt (ordA as) := by
  have pw := List.pairwise_mergeSort (le := leA) leA_total.1 leA_total.2 (dd as)
  have nd : (ordA as).Nodup := (List.mergeSort_perm _ _).nodup_iff.mpr (dd_facts as).1
  have both := pw.and (List.nodup_iff_pairwise_ne.mp nd)
  refine List.Pairwise.imp_of_mem (fun {a b} ha hb h => ?_) both
  have ha := (dd_facts as).2.1 a |>.mp ((List.mergeSort_perm _ _).mem_iff.mp ha)
  have hb := (dd_facts as).2.1 b |>.mp ((List.mergeSort_perm _ _).mem_iff.mp hb)
  refine Classical.byContradiction fun n => h.2 (ltA_tri (ok a ha) (ok b hb) (by simpa using n) ?_)
  have := h.1
  unfold leA at this
  simpa using this
theorem ordA_mem {as : List Act} {x : Act} : x ∈ ordA as ↔ x ∈ as := (List.mergeSort_perm _ _).mem_iff.trans ((dd_facts as).2.1 x)
theorem ordA_len (as : List Act) : (ordA as).length ≤ as.length := by
  unfold ordA
  rw [List.length_mergeSort]
  exact (dd_facts as).2.2
theorem ordA_eq {as bs : List Act} (ok : ∀ a ∈ as, AOk a) (h : Srt bs) (e : ∀ x, x ∈ bs ↔ x ∈ as) : ordA as = bs := srt_uniq (ordA_srt ok) h fun x => ordA_mem.trans (e x).symm
theorem ordA_same {as bs : List Act} (ok : ∀ a ∈ as, AOk a) (e : ∀ x, x ∈ bs ↔ x ∈ as) : ordA as = ordA bs := ordA_eq ok (ordA_srt fun a ha => ok a ((e a).mp ha)) fun x => ordA_mem.trans (e x)
/-! putting one in -/
def putA (as : List Act) (a : Act) : List Act := if a ∈ as then as else
  let n := (as.filter fun x => ltA x a).length
  as.take n ++ [a] ++ as.drop n
theorem cut_at {a : Act} : ∀ {as : List Act}, Srt as → (as.take (as.filter fun x => ltA x a).length).all (fun x => ltA x a) = true ∧ (as.drop (as.filter fun x => ltA x a).length).all (fun x => !ltA x a) = true
  | [], _ => ⟨rfl, rfl⟩
  | b :: bs, h => by
    unfold Srt at h
    rw [List.pairwise_cons] at h
    obtain ⟨i1, i2⟩ := cut_at (a := a) h.2
    by_cases e : ltA b a = true
    · rw [List.filter_cons_of_pos (p := fun x => ltA x a) e, List.length_cons, List.take_succ_cons, List.drop_succ_cons, List.all_cons, e, i1]
      exact ⟨rfl, i2⟩
    · have none : bs.filter (fun x => ltA x a) = [] := by
        rw [List.filter_eq_nil_iff]
        intro x hx z
        exact e (ltA_trans (h.1 x hx) z)
      rw [List.filter_cons_of_neg (p := fun x => ltA x a) e, none]
      refine ⟨rfl, ?_⟩
      rw [List.length_nil, List.drop_zero, List.all_cons]
      rw [none] at i2
      rw [List.length_nil, List.drop_zero] at i2
      rw [i2]
      simp [e]
theorem putA_facts {as : List Act} {a : Act} (h : Srt as) (ok : ∀ x ∈ as, AOk x) (oka : AOk a) : Srt (putA as a) ∧ (∀ x, x ∈ putA as a ↔ x ∈ as ∨ x = a) ∧ (putA as a).length ≤ as.length + 1 := by
  unfold putA
  by_cases g : a ∈ as
  · rw [if_pos g]
    exact ⟨h, fun x => ⟨.inl, fun z => z.elim id fun e => e ▸ g⟩, by omega⟩
  · rw [if_neg g]
    obtain ⟨c1, c2⟩ := cut_at (a := a) h
    simp only
    generalize (as.filter fun x => ltA x a).length = n at c1 c2
    rw [List.all_eq_true] at c1 c2
    have up : ∀ x ∈ as.drop n, ltA a x = true := fun x hx => by
      have h1 := c2 x hx
      have hm := List.mem_of_mem_drop hx
      refine Classical.byContradiction fun z => g ?_
      have : a = x := ltA_tri oka (ok x hm) (by simpa using z) (by simpa using h1)
      rw [this]; exact hm
    have h3 : as.take n ++ as.drop n = as := List.take_append_drop n as
    refine ⟨?_, fun x => ?_, ?_⟩
    · unfold Srt at h ⊢
      rw [← h3, List.pairwise_append] at h
      rw [List.append_assoc, List.pairwise_append]
      refine ⟨h.1, ?_, fun x hx y hy => ?_⟩
      · rw [List.singleton_append, List.pairwise_cons]
        exact ⟨up, h.2.1⟩
      · rw [List.singleton_append, List.mem_cons] at hy
        rcases hy with rfl | hy
        · exact c1 x hx
        · exact h.2.2 x hx y hy
    · have : x ∈ as ↔ x ∈ as.take n ∨ x ∈ as.drop n := by rw [← List.mem_append, h3]
      rw [this, List.mem_append, List.mem_append, List.mem_singleton]
      constructor
      · rintro ((h | h) | h)
        · exact .inl (.inl h)
        · exact .inr h
        · exact .inl (.inr h)
      · rintro ((h | h) | h)
        · exact .inl (.inl h)
        · exact .inr h
        · exact .inl (.inr h)
    · rw [List.length_append, List.length_append, List.length_take, List.length_drop, List.length_singleton]; omega
def lawS (as : List Act) : List Act := as.foldl putA []
theorem lawS_facts {as : List Act} (ok : ∀ x ∈ as, AOk x) : Srt (lawS as) ∧ (∀ x, x ∈ lawS as ↔ x ∈ as) ∧ (lawS as).length ≤ as.length := by
  have main : ∀ (as acc : List Act), Srt acc → (∀ x ∈ acc, AOk x) → (∀ x ∈ as, AOk x) → Srt (as.foldl putA acc) ∧ (∀ x, x ∈ as.foldl putA acc ↔ x ∈ acc ∨ x ∈ as) ∧ (as.foldl putA acc).length ≤ acc.length + as.length := by
    intro as
    induction as with
    | nil => intro acc h _ _; exact ⟨h, by simp, by simp⟩
    | cons a as ih =>
      intro acc h h1 h2
      obtain ⟨p1, p2, p3⟩ := putA_facts h h1 (h2 a List.mem_cons_self)
      obtain ⟨i1, i2, i3⟩ := ih (putA acc a) p1 (fun x hx => ((p2 x).mp hx).elim (h1 x) fun e => e ▸ h2 a List.mem_cons_self) fun x hx => h2 x (List.mem_cons_of_mem _ hx)
      refine ⟨i1, fun x => ?_, ?_⟩
      · rw [List.foldl_cons, i2, p2, List.mem_cons, or_assoc]
      · rw [List.foldl_cons, List.length_cons]; omega
  obtain ⟨h1, h2, h3⟩ := main as [] List.Pairwise.nil (by simp) ok
  exact ⟨h1, by simpa [lawS] using h2, by simpa [lawS] using h3⟩
theorem lawS_eq {as : List Act} (ok : ∀ x ∈ as, AOk x) : ordA as = lawS as := ordA_eq ok (lawS_facts ok).1 (lawS_facts ok).2.1
end K33
namespace K33
open PySem PySem.Spec PyProof.Rows DL
open SX (S S_len S_cat S_inj S_tl)
theorem dAll_true {α : Type} (xs : List α) : dAll (.lst (xs.map fun _ => D.bl true)) = some (.bl true) := by
  have h : boolsOf (xs.map fun _ => D.bl true) = some (xs.map fun _ => true) := by
    induction xs with
    | nil => rfl
    | cons x xs ih => simp only [List.map_cons, boolsOf, ih, Option.map_some]
  show (boolsOf (xs.map fun _ => D.bl true)).map (fun bs => D.bl (bs.all id)) = _
  rw [h]
  show some (D.bl ((xs.map fun _ => true).all id)) = _
  congr 2
  rw [List.all_eq_true]
  intro b hb
  obtain ⟨_, _, rfl⟩ := List.mem_map.mp hb
  rfl
theorem dAll_bl {α : Type} (xs : List α) (f : α → Bool) : dAll (.lst (xs.map fun x => D.bl (f x))) = some (.bl (xs.all f)) := by
  have h : boolsOf (xs.map fun x => D.bl (f x)) = some (xs.map f) := by
    induction xs with
    | nil => rfl
    | cons x xs ih => simp only [List.map_cons, boolsOf, ih, Option.map_some]
  show (boolsOf (xs.map fun x => D.bl (f x))).map (fun bs => D.bl (bs.all id)) = _
  rw [h]
  show some (D.bl ((xs.map f).all id)) = _
  rw [List.all_map]
  rfl
theorem fm_true {α : Type} (xs : List α) (f : α → D) : (xs.map f).filterMap (fun _ => some (D.bl true)) = xs.map fun _ => D.bl true := by
  induction xs with
  | nil => rfl
  | cons x xs ih => rw [List.map_cons, List.filterMap_cons, ih]; rfl
theorem is_word_ok {m : M} {w : Str} {Q : DK} (hw : WOk w) (k : Q (.bl true) m) : sp_is_word [.str w] m Q := by
  obtain ⟨⟨cs, rfl, h1, h2, h4⟩, h3⟩ := hw
  refine ⟨rfl, ?_⟩
  show r_is_word_4 _ _ _
  simp only [r_is_word_4, tSq, DL.tIfS, tBinT, tBin, tV, tK, DL.tSet, tRt, tRtN, tAs, gSb, tFn, tAC, tA0, tDr, tApp, tExt, tPopA, tLstD, tTupD, tLstM, tCl, tMt, tPr, tNx, tSlD, tON, tOS, tIfD, DL.tAndT, DL.tOrT, DL.tNotT, tTru, tChainT, tNeg, tListM, List.map_cons, List.map_nil, List.length_cons, List.length_nil, List.replicate, List.cons_append, List.nil_append, List.getElem?_cons_zero, List.getElem?_cons_succ, List.set_cons_zero, List.set_cons_succ, Option.some.injEq, exists_eq_left', exists_eq_left, D.bl.injEq, D.int.injEq, D.str.injEq, D.lst.injEq, D.ref.injEq, if_true, if_false, Bool.true_eq_false, Bool.false_eq_true, startD, bodyEnds, Nat.reduceSub, Nat.reduceAdd, true_and, and_true]
  simp only [dIsi, tyD, clD, look, JB, kb_str_str, Option.map_some, Option.some.injEq, exists_eq_left', dTru, Bool.not_true, Bool.false_eq_true, if_false]
  simp only [d1, dLen, look, S_len, if_pos (small (by omega : cs.length ≤ 1000)), Option.some.injEq, exists_eq_left', dLe, d2IB, D.bl.injEq, dIn, dInB_strs (m := m) (y := .tup (c_RESERVED.map .str)) (x := S cs) (xs := c_RESERVED) (.inr rfl), Option.map_some, h3, decide_false]
  have e1 : decide ((1 : Int) ≤ (cs.length : Int)) = true := decide_eq_true (by omega)
  have e2 : decide ((cs.length : Int) ≤ 8) = true := decide_eq_true (by omega)
  simp only [e1, e2, if_true, Bool.not_true, Bool.false_eq_true, if_false]
  simp only [r_is_word_3, tSq, DL.tIfS, tBinT, tBin, tV, tK, DL.tSet, tRt, tRtN, tAs, gSb, tFn, tAC, tA0, tDr, tApp, tExt, tPopA, tLstD, tTupD, tLstM, tCl, tMt, tPr, tNx, tSlD, tON, tOS, tIfD, DL.tAndT, DL.tOrT, DL.tNotT, tTru, tChainT, tNeg, tListM, List.map_cons, List.map_nil, List.length_cons, List.length_nil, List.replicate, List.cons_append, List.nil_append, List.getElem?_cons_zero, List.getElem?_cons_succ, List.set_cons_zero, List.set_cons_succ, Option.some.injEq, exists_eq_left', exists_eq_left, D.bl.injEq, D.int.injEq, D.str.injEq, D.lst.injEq, D.ref.injEq, if_true, if_false, Bool.true_eq_false, Bool.false_eq_true, startD, bodyEnds, Nat.reduceSub, Nat.reduceAdd, true_and, and_true]
  refine lc_pure (ds := cs.map fun c => .str (S [c])) (fun _ => some (.bl true)) (fun R hR => ?_) (by rw [List.length_map]; exact smallLt (by omega)) (fun d m1 R hd _ hy _ => ?_) ?_
  · simp only [iSeq, dSeq, tSq, DL.tIfS, tBinT, tBin, tV, tK, DL.tSet, tRt, tRtN, tAs, gSb, tFn, tAC, tA0, tDr, tApp, tExt, tPopA, tLstD, tTupD, tLstM, tCl, tMt, tPr, tNx, tSlD, tON, tOS, tIfD, DL.tAndT, DL.tOrT, DL.tNotT, tTru, tChainT, tNeg, tListM, List.map_cons, List.map_nil, List.length_cons, List.length_nil, List.replicate, List.cons_append, List.nil_append, List.getElem?_cons_zero, List.getElem?_cons_succ, List.set_cons_zero, List.set_cons_succ, Option.some.injEq, exists_eq_left', exists_eq_left, D.bl.injEq, D.int.injEq, D.str.injEq, D.lst.injEq, D.ref.injEq, if_true, if_false, Bool.true_eq_false, Bool.false_eq_true, startD, bodyEnds, Nat.reduceSub, Nat.reduceAdd, true_and, and_true]
    exact hR
  · obtain ⟨c, hc, rfl⟩ := List.mem_map.mp hd
    simp only [tgD, gN, wipeD, tYe, r_is_word_2, tSq, DL.tIfS, tBinT, tBin, tV, tK, DL.tSet, tRt, tRtN, tAs, gSb, tFn, tAC, tA0, tDr, tApp, tExt, tPopA, tLstD, tTupD, tLstM, tCl, tMt, tPr, tNx, tSlD, tON, tOS, tIfD, DL.tAndT, DL.tOrT, DL.tNotT, tTru, tChainT, tNeg, tListM, List.map_cons, List.map_nil, List.length_cons, List.length_nil, List.replicate, List.cons_append, List.nil_append, List.getElem?_cons_zero, List.getElem?_cons_succ, List.set_cons_zero, List.set_cons_succ, Option.some.injEq, exists_eq_left', exists_eq_left, D.bl.injEq, D.int.injEq, D.str.injEq, D.lst.injEq, D.ref.injEq, if_true, if_false, Bool.true_eq_false, Bool.false_eq_true, startD, bodyEnds, Nat.reduceSub, Nat.reduceAdd, true_and, and_true]
    have hcl := h4 c hc
    rw [lt_eq]
    simp only [dIn, dInB, look, in_one_S, Option.map_some, Option.some.injEq, exists_eq_left', hcl, decide_true]
    exact hy _ rfl
  · rw [fm_true]
    exact ⟨_, by simp only [d1, look]; exact dAll_true _, dropR.self k⟩
/-- "returns" is no word -/
theorem is_word_ret {m : M} {Q : DK} (k : Q (.bl false) m) : sp_is_word [.str "returns"] m Q := by
  refine ⟨rfl, ?_⟩
  show r_is_word_4 _ _ _
  simp only [r_is_word_4, tSq, DL.tIfS, tBinT, tBin, tV, tK, DL.tSet, tRt, tRtN, tAs, gSb, tFn, tAC, tA0, tDr, tApp, tExt, tPopA, tLstD, tTupD, tLstM, tCl, tMt, tPr, tNx, tSlD, tON, tOS, tIfD, DL.tAndT, DL.tOrT, DL.tNotT, tTru, tChainT, tNeg, tListM, List.map_cons, List.map_nil, List.length_cons, List.length_nil, List.replicate, List.cons_append, List.nil_append, List.getElem?_cons_zero, List.getElem?_cons_succ, List.set_cons_zero, List.set_cons_succ, Option.some.injEq, exists_eq_left', exists_eq_left, D.bl.injEq, D.int.injEq, D.str.injEq, D.lst.injEq, D.ref.injEq, if_true, if_false, Bool.true_eq_false, Bool.false_eq_true, startD, bodyEnds, Nat.reduceSub, Nat.reduceAdd, true_and, and_true]
  simp only [dIsi, tyD, clD, look, JB, kb_str_str, Option.map_some, Option.some.injEq, exists_eq_left', dTru, Bool.not_true, Bool.false_eq_true, if_false]
  have hz : ("returns" : Str).length = 7 := by decide +kernel
  simp only [d1, dLen, look, hz, if_pos (small (by omega : 7 ≤ 1000)), Option.some.injEq, exists_eq_left', dLe, d2IB, D.bl.injEq, dIn, dInB_strs (m := m) (y := .tup (c_RESERVED.map .str)) (x := "returns") (xs := c_RESERVED) (.inr rfl), Option.map_some, ret_res, decide_true]
  have e1 : decide ((1 : Int) ≤ ((7 : Nat) : Int)) = true := by decide
  have e2 : decide (((7 : Nat) : Int) ≤ 8) = true := by decide
  simp only [e1, e2, if_true, Bool.not_true, Bool.false_eq_true, if_false]
  simp only [r_is_word_1, tSq, DL.tIfS, tBinT, tBin, tV, tK, DL.tSet, tRt, tRtN, tAs, gSb, tFn, tAC, tA0, tDr, tApp, tExt, tPopA, tLstD, tTupD, tLstM, tCl, tMt, tPr, tNx, tSlD, tON, tOS, tIfD, DL.tAndT, DL.tOrT, DL.tNotT, tTru, tChainT, tNeg, tListM, List.map_cons, List.map_nil, List.length_cons, List.length_nil, List.replicate, List.cons_append, List.nil_append, List.getElem?_cons_zero, List.getElem?_cons_succ, List.set_cons_zero, List.set_cons_succ, Option.some.injEq, exists_eq_left', exists_eq_left, D.bl.injEq, D.int.injEq, D.str.injEq, D.lst.injEq, D.ref.injEq, if_true, if_false, Bool.true_eq_false, Bool.false_eq_true, startD, bodyEnds, Nat.reduceSub, Nat.reduceAdd, true_and, and_true]
  exact dropR.self k
theorem is_act_ok {m : M} {a : Act} {Q : DK} (ok : AOk a) (k : Q (.bl true) m) : sp_is_act [actD a] m Q := by
  obtain ⟨c, h, o⟩ := a
  have okc := ok.c
  have okh := ok.h
  have oko := ok.o
  simp only at okc okh oko
  refine ⟨rfl, ?_⟩
  show r_is_act_6 _ _ _
  simp only [r_is_act_6, tSq, DL.tIfS, tBinT, tBin, tV, tK, DL.tSet, tRt, tRtN, tAs, gSb, tFn, tAC, tA0, tDr, tApp, tExt, tPopA, tLstD, tTupD, tLstM, tCl, tMt, tPr, tNx, tSlD, tON, tOS, tIfD, DL.tAndT, DL.tOrT, DL.tNotT, tTru, tChainT, tNeg, tListM, List.map_cons, List.map_nil, List.length_cons, List.length_nil, List.replicate, List.cons_append, List.nil_append, List.getElem?_cons_zero, List.getElem?_cons_succ, List.set_cons_zero, List.set_cons_succ, Option.some.injEq, exists_eq_left', exists_eq_left, D.bl.injEq, D.int.injEq, D.str.injEq, D.lst.injEq, D.ref.injEq, if_true, if_false, Bool.true_eq_false, Bool.false_eq_true, startD, bodyEnds, Nat.reduceSub, Nat.reduceAdd, true_and, and_true]
  simp only [dIsi, tyD, clD, look, actD, JB, kb_tup_tup, Option.map_some, Option.some.injEq, exists_eq_left', dTru, Bool.not_true, Bool.false_eq_true, if_false]
  have e3 : decide (((3 : Nat) : Int) = 3) = true := by decide
  simp only [d1, dLen, look, tSq, DL.tIfS, tBinT, tBin, tV, tK, DL.tSet, tRt, tRtN, tAs, gSb, tFn, tAC, tA0, tDr, tApp, tExt, tPopA, tLstD, tTupD, tLstM, tCl, tMt, tPr, tNx, tSlD, tON, tOS, tIfD, DL.tAndT, DL.tOrT, DL.tNotT, tTru, tChainT, tNeg, tListM, List.map_cons, List.map_nil, List.length_cons, List.length_nil, List.replicate, List.cons_append, List.nil_append, List.getElem?_cons_zero, List.getElem?_cons_succ, List.set_cons_zero, List.set_cons_succ, Option.some.injEq, exists_eq_left', exists_eq_left, D.bl.injEq, D.int.injEq, D.str.injEq, D.lst.injEq, D.ref.injEq, if_true, if_false, Bool.true_eq_false, Bool.false_eq_true, startD, bodyEnds, Nat.reduceSub, Nat.reduceAdd, true_and, and_true, dNe, dEqB, Option.map_some, e3, Bool.not_true, Bool.false_eq_true, if_false]
  simp only [r_is_act_5, tSq, DL.tIfS, tBinT, tBin, tV, tK, DL.tSet, tRt, tRtN, tAs, gSb, tFn, tAC, tA0, tDr, tApp, tExt, tPopA, tLstD, tTupD, tLstM, tCl, tMt, tPr, tNx, tSlD, tON, tOS, tIfD, DL.tAndT, DL.tOrT, DL.tNotT, tTru, tChainT, tNeg, tListM, List.map_cons, List.map_nil, List.length_cons, List.length_nil, List.replicate, List.cons_append, List.nil_append, List.getElem?_cons_zero, List.getElem?_cons_succ, List.set_cons_zero, List.set_cons_succ, Option.some.injEq, exists_eq_left', exists_eq_left, D.bl.injEq, D.int.injEq, D.str.injEq, D.lst.injEq, D.ref.injEq, if_true, if_false, Bool.true_eq_false, Bool.false_eq_true, startD, bodyEnds, Nat.reduceSub, Nat.reduceAdd, true_and, and_true]
  refine ⟨_, rfl, rfl, ?_⟩
  simp only [setL, List.set_cons_succ, List.set_cons_zero, r_is_act_4, tSq, DL.tIfS, tBinT, tBin, tV, tK, DL.tSet, tRt, tRtN, tAs, gSb, tFn, tAC, tA0, tDr, tApp, tExt, tPopA, tLstD, tTupD, tLstM, tCl, tMt, tPr, tNx, tSlD, tON, tOS, tIfD, DL.tAndT, DL.tOrT, DL.tNotT, tTru, tChainT, tNeg, tListM, List.map_cons, List.map_nil, List.length_cons, List.length_nil, List.replicate, List.cons_append, List.nil_append, List.getElem?_cons_zero, List.getElem?_cons_succ, List.set_cons_zero, List.set_cons_succ, Option.some.injEq, exists_eq_left', exists_eq_left, D.bl.injEq, D.int.injEq, D.str.injEq, D.lst.injEq, D.ref.injEq, if_true, if_false, Bool.true_eq_false, Bool.false_eq_true, startD, bodyEnds, Nat.reduceSub, Nat.reduceAdd, true_and, and_true]
  refine is_word_ok okc ?_
  simp only [look, dTru, Option.some.injEq, exists_eq_left', Bool.not_true, Bool.false_eq_true, if_false]
  have fin : r_is_act_3 [some (.tup [.str c, hD h, .str o]), some (.str c), some (hD h), some (.str o)] m (bodyEnds (dropR Q)) := by
    simp only [r_is_act_3, tSq, DL.tIfS, tBinT, tBin, tV, tK, DL.tSet, tRt, tRtN, tAs, gSb, tFn, tAC, tA0, tDr, tApp, tExt, tPopA, tLstD, tTupD, tLstM, tCl, tMt, tPr, tNx, tSlD, tON, tOS, tIfD, DL.tAndT, DL.tOrT, DL.tNotT, tTru, tChainT, tNeg, tListM, List.map_cons, List.map_nil, List.length_cons, List.length_nil, List.replicate, List.cons_append, List.nil_append, List.getElem?_cons_zero, List.getElem?_cons_succ, List.set_cons_zero, List.set_cons_succ, Option.some.injEq, exists_eq_left', exists_eq_left, D.bl.injEq, D.int.injEq, D.str.injEq, D.lst.injEq, D.ref.injEq, if_true, if_false, Bool.true_eq_false, Bool.false_eq_true, startD, bodyEnds, Nat.reduceSub, Nat.reduceAdd, true_and, and_true, tOrV, tAndV]
    rcases oko with g | g
    · refine is_word_ok g ?_
      simp only [look, dTru, Option.some.injEq, exists_eq_left', tSq, DL.tIfS, tBinT, tBin, tV, tK, DL.tSet, tRt, tRtN, tAs, gSb, tFn, tAC, tA0, tDr, tApp, tExt, tPopA, tLstD, tTupD, tLstM, tCl, tMt, tPr, tNx, tSlD, tON, tOS, tIfD, DL.tAndT, DL.tOrT, DL.tNotT, tTru, tChainT, tNeg, tListM, List.map_cons, List.map_nil, List.length_cons, List.length_nil, List.replicate, List.cons_append, List.nil_append, List.getElem?_cons_zero, List.getElem?_cons_succ, List.set_cons_zero, List.set_cons_succ, Option.some.injEq, exists_eq_left', exists_eq_left, D.bl.injEq, D.int.injEq, D.str.injEq, D.lst.injEq, D.ref.injEq, if_true, if_false, Bool.true_eq_false, Bool.false_eq_true, startD, bodyEnds, Nat.reduceSub, Nat.reduceAdd, true_and, and_true]
      exact dropR.self k
    · subst g
      refine is_word_ret ?_
      simp only [look, dTru, Option.some.injEq, exists_eq_left', tSq, DL.tIfS, tBinT, tBin, tV, tK, DL.tSet, tRt, tRtN, tAs, gSb, tFn, tAC, tA0, tDr, tApp, tExt, tPopA, tLstD, tTupD, tLstM, tCl, tMt, tPr, tNx, tSlD, tON, tOS, tIfD, DL.tAndT, DL.tOrT, DL.tNotT, tTru, tChainT, tNeg, tListM, List.map_cons, List.map_nil, List.length_cons, List.length_nil, List.replicate, List.cons_append, List.nil_append, List.getElem?_cons_zero, List.getElem?_cons_succ, List.set_cons_zero, List.set_cons_succ, Option.some.injEq, exists_eq_left', exists_eq_left, D.bl.injEq, D.int.injEq, D.str.injEq, D.lst.injEq, D.ref.injEq, if_true, if_false, Bool.true_eq_false, Bool.false_eq_true, startD, bodyEnds, Nat.reduceSub, Nat.reduceAdd, true_and, and_true, dIsi, tyD, clD, JB, kb_str_str, Option.map_some, dEq, dEqB, decide_true]
      exact dropR.self k
  cases h with
  | none =>
    refine ⟨true, by simp only [hD, dIs], ?_⟩
    simp only [tSq, DL.tIfS, tBinT, tBin, tV, tK, DL.tSet, tRt, tRtN, tAs, gSb, tFn, tAC, tA0, tDr, tApp, tExt, tPopA, tLstD, tTupD, tLstM, tCl, tMt, tPr, tNx, tSlD, tON, tOS, tIfD, DL.tAndT, DL.tOrT, DL.tNotT, tTru, tChainT, tNeg, tListM, List.map_cons, List.map_nil, List.length_cons, List.length_nil, List.replicate, List.cons_append, List.nil_append, List.getElem?_cons_zero, List.getElem?_cons_succ, List.set_cons_zero, List.set_cons_succ, Option.some.injEq, exists_eq_left', exists_eq_left, D.bl.injEq, D.int.injEq, D.str.injEq, D.lst.injEq, D.ref.injEq, if_true, if_false, Bool.true_eq_false, Bool.false_eq_true, startD, bodyEnds, Nat.reduceSub, Nat.reduceAdd, true_and, and_true, Bool.not_true]
    exact fin
  | some s =>
    refine ⟨false, by simp only [hD, dIs], ?_⟩
    simp only [tSq, DL.tIfS, tBinT, tBin, tV, tK, DL.tSet, tRt, tRtN, tAs, gSb, tFn, tAC, tA0, tDr, tApp, tExt, tPopA, tLstD, tTupD, tLstM, tCl, tMt, tPr, tNx, tSlD, tON, tOS, tIfD, DL.tAndT, DL.tOrT, DL.tNotT, tTru, tChainT, tNeg, tListM, List.map_cons, List.map_nil, List.length_cons, List.length_nil, List.replicate, List.cons_append, List.nil_append, List.getElem?_cons_zero, List.getElem?_cons_succ, List.set_cons_zero, List.set_cons_succ, Option.some.injEq, exists_eq_left', exists_eq_left, D.bl.injEq, D.int.injEq, D.str.injEq, D.lst.injEq, D.ref.injEq, if_true, if_false, Bool.true_eq_false, Bool.false_eq_true, startD, bodyEnds, Nat.reduceSub, Nat.reduceAdd, true_and, and_true, hD]
    refine is_word_ok (okh s rfl) ?_
    simp only [look, dTru, Option.some.injEq, exists_eq_left', Bool.not_true, Bool.false_eq_true, if_false]
    exact fin
theorem act_place_ok {m : M} {a : Act} {Q : DK} (k : Q (plA a) m) : sp_act_place [actD a] m Q := by
  obtain ⟨c, h, o⟩ := a
  refine ⟨rfl, ?_⟩
  show r_act_place_2 _ _ _
  simp only [r_act_place_2, tSq, DL.tIfS, tBinT, tBin, tV, tK, DL.tSet, tRt, tRtN, tAs, gSb, tFn, tAC, tA0, tDr, tApp, tExt, tPopA, tLstD, tTupD, tLstM, tCl, tMt, tPr, tNx, tSlD, tON, tOS, tIfD, DL.tAndT, DL.tOrT, DL.tNotT, tTru, tChainT, tNeg, tListM, List.map_cons, List.map_nil, List.length_cons, List.length_nil, List.replicate, List.cons_append, List.nil_append, List.getElem?_cons_zero, List.getElem?_cons_succ, List.set_cons_zero, List.set_cons_succ, Option.some.injEq, exists_eq_left', exists_eq_left, D.bl.injEq, D.int.injEq, D.str.injEq, D.lst.injEq, D.ref.injEq, if_true, if_false, Bool.true_eq_false, Bool.false_eq_true, startD, bodyEnds, Nat.reduceSub, Nat.reduceAdd, true_and, and_true]
  refine ⟨_, rfl, rfl, ?_⟩
  simp only [setL, List.set_cons_succ, List.set_cons_zero, r_act_place_1, tSq, DL.tIfS, tBinT, tBin, tV, tK, DL.tSet, tRt, tRtN, tAs, gSb, tFn, tAC, tA0, tDr, tApp, tExt, tPopA, tLstD, tTupD, tLstM, tCl, tMt, tPr, tNx, tSlD, tON, tOS, tIfD, DL.tAndT, DL.tOrT, DL.tNotT, tTru, tChainT, tNeg, tListM, List.map_cons, List.map_nil, List.length_cons, List.length_nil, List.replicate, List.cons_append, List.nil_append, List.getElem?_cons_zero, List.getElem?_cons_succ, List.set_cons_zero, List.set_cons_succ, Option.some.injEq, exists_eq_left', exists_eq_left, D.bl.injEq, D.int.injEq, D.str.injEq, D.lst.injEq, D.ref.injEq, if_true, if_false, Bool.true_eq_false, Bool.false_eq_true, startD, bodyEnds, Nat.reduceSub, Nat.reduceAdd, true_and, and_true]
  cases h with
  | none =>
    refine ⟨true, by simp only [hD, dIs], ?_⟩
    simp only [tSq, DL.tIfS, tBinT, tBin, tV, tK, DL.tSet, tRt, tRtN, tAs, gSb, tFn, tAC, tA0, tDr, tApp, tExt, tPopA, tLstD, tTupD, tLstM, tCl, tMt, tPr, tNx, tSlD, tON, tOS, tIfD, DL.tAndT, DL.tOrT, DL.tNotT, tTru, tChainT, tNeg, tListM, List.map_cons, List.map_nil, List.length_cons, List.length_nil, List.replicate, List.cons_append, List.nil_append, List.getElem?_cons_zero, List.getElem?_cons_succ, List.set_cons_zero, List.set_cons_succ, Option.some.injEq, exists_eq_left', exists_eq_left, D.bl.injEq, D.int.injEq, D.str.injEq, D.lst.injEq, D.ref.injEq, if_true, if_false, Bool.true_eq_false, Bool.false_eq_true, startD, bodyEnds, Nat.reduceSub, Nat.reduceAdd, true_and, and_true]
    refine ⟨decide (o = "returns"), by simp only [dEq, dEqB, look, Option.map_some], ?_⟩
    unfold plA at k
    by_cases e : o = "returns"
    · simp only [e, decide_true, if_true]
      simp only [e, if_true] at k
      exact ⟨by decide, dropR.self k⟩
    · simp only [e, decide_false, Bool.false_eq_true, if_false]
      simp only [e, if_false] at k
      exact ⟨by decide, dropR.self k⟩
  | some s =>
    refine ⟨false, by simp only [hD, dIs], ?_⟩
    simp only [tSq, DL.tIfS, tBinT, tBin, tV, tK, DL.tSet, tRt, tRtN, tAs, gSb, tFn, tAC, tA0, tDr, tApp, tExt, tPopA, tLstD, tTupD, tLstM, tCl, tMt, tPr, tNx, tSlD, tON, tOS, tIfD, DL.tAndT, DL.tOrT, DL.tNotT, tTru, tChainT, tNeg, tListM, List.map_cons, List.map_nil, List.length_cons, List.length_nil, List.replicate, List.cons_append, List.nil_append, List.getElem?_cons_zero, List.getElem?_cons_succ, List.set_cons_zero, List.set_cons_succ, Option.some.injEq, exists_eq_left', exists_eq_left, D.bl.injEq, D.int.injEq, D.str.injEq, D.lst.injEq, D.ref.injEq, if_true, if_false, Bool.true_eq_false, Bool.false_eq_true, startD, bodyEnds, Nat.reduceSub, Nat.reduceAdd, true_and, and_true]
    refine ⟨decide (o = "returns"), by simp only [dEq, dEqB, look, Option.map_some], ?_⟩
    unfold plA at k
    by_cases e : o = "returns"
    · simp only [e, decide_true, if_true]
      simp only [e, if_true] at k
      exact ⟨by decide, dropR.self k⟩
    · simp only [e, decide_false, Bool.false_eq_true, if_false]
      simp only [e, if_false] at k
      exact ⟨by decide, dropR.self k⟩
theorem tix0 {m : M} {a : D} {r : List D} : dIx m (.tup (a :: r)) (.int 0) = some a := dIx_tup rfl rfl (atI_pos (by decide) rfl)
theorem tix1 {m : M} {a b : D} {r : List D} : dIx m (.tup (a :: b :: r)) (.int 1) = some b := dIx_tup rfl rfl (atI_pos (by decide) rfl)
theorem tix2 {m : M} {a b c : D} {r : List D} : dIx m (.tup (a :: b :: c :: r)) (.int 2) = some c := dIx_tup rfl rfl (atI_pos (by decide) rfl)
theorem l_place_ok {m : M} {a : Act} {Q : DK} (k : Q (plA a) m) : sp_l_place [actD a] m Q := by
  obtain ⟨c, h, o⟩ := a
  refine ⟨rfl, ?_⟩
  show r_l_place_1 _ _ _
  simp only [r_l_place_1, tSq, DL.tIfS, tBinT, tBin, tV, tK, DL.tSet, tRt, tRtN, tAs, gSb, tFn, tAC, tA0, tDr, tApp, tExt, tPopA, tLstD, tTupD, tLstM, tCl, tMt, tPr, tNx, tSlD, tON, tOS, tIfD, DL.tAndT, DL.tOrT, DL.tNotT, tTru, tChainT, tNeg, tListM, List.map_cons, List.map_nil, List.length_cons, List.length_nil, List.replicate, List.cons_append, List.nil_append, List.getElem?_cons_zero, List.getElem?_cons_succ, List.set_cons_zero, List.set_cons_succ, Option.some.injEq, exists_eq_left', exists_eq_left, D.bl.injEq, D.int.injEq, D.str.injEq, D.lst.injEq, D.ref.injEq, if_true, if_false, Bool.true_eq_false, Bool.false_eq_true, startD, bodyEnds, Nat.reduceSub, Nat.reduceAdd, true_and, and_true, actD, tix0, tix1, tix2]
  cases h with
  | none =>
    refine ⟨true, by simp only [hD, dIs], ?_⟩
    simp only [tSq, DL.tIfS, tBinT, tBin, tV, tK, DL.tSet, tRt, tRtN, tAs, gSb, tFn, tAC, tA0, tDr, tApp, tExt, tPopA, tLstD, tTupD, tLstM, tCl, tMt, tPr, tNx, tSlD, tON, tOS, tIfD, DL.tAndT, DL.tOrT, DL.tNotT, tTru, tChainT, tNeg, tListM, List.map_cons, List.map_nil, List.length_cons, List.length_nil, List.replicate, List.cons_append, List.nil_append, List.getElem?_cons_zero, List.getElem?_cons_succ, List.set_cons_zero, List.set_cons_succ, Option.some.injEq, exists_eq_left', exists_eq_left, D.bl.injEq, D.int.injEq, D.str.injEq, D.lst.injEq, D.ref.injEq, if_true, if_false, Bool.true_eq_false, Bool.false_eq_true, startD, bodyEnds, Nat.reduceSub, Nat.reduceAdd, true_and, and_true]
    refine ⟨decide (o = "returns"), by simp only [dEq, dEqB, look, Option.map_some], ?_⟩
    unfold plA at k
    by_cases e : o = "returns"
    · simp only [e, decide_true, if_true]
      simp only [e, if_true] at k
      exact ⟨by decide, dropR.self k⟩
    · simp only [e, decide_false, Bool.false_eq_true, if_false, tix2, tSq, DL.tIfS, tBinT, tBin, tV, tK, DL.tSet, tRt, tRtN, tAs, gSb, tFn, tAC, tA0, tDr, tApp, tExt, tPopA, tLstD, tTupD, tLstM, tCl, tMt, tPr, tNx, tSlD, tON, tOS, tIfD, DL.tAndT, DL.tOrT, DL.tNotT, tTru, tChainT, tNeg, tListM, List.map_cons, List.map_nil, List.length_cons, List.length_nil, List.replicate, List.cons_append, List.nil_append, List.getElem?_cons_zero, List.getElem?_cons_succ, List.set_cons_zero, List.set_cons_succ, Option.some.injEq, exists_eq_left', exists_eq_left, D.bl.injEq, D.int.injEq, D.str.injEq, D.lst.injEq, D.ref.injEq, if_true, if_false, Bool.true_eq_false, Bool.false_eq_true, startD, bodyEnds, Nat.reduceSub, Nat.reduceAdd, true_and, and_true]
      simp only [e, if_false] at k
      exact ⟨by decide, dropR.self k⟩
  | some s =>
    refine ⟨false, by simp only [hD, dIs], ?_⟩
    simp only [tSq, DL.tIfS, tBinT, tBin, tV, tK, DL.tSet, tRt, tRtN, tAs, gSb, tFn, tAC, tA0, tDr, tApp, tExt, tPopA, tLstD, tTupD, tLstM, tCl, tMt, tPr, tNx, tSlD, tON, tOS, tIfD, DL.tAndT, DL.tOrT, DL.tNotT, tTru, tChainT, tNeg, tListM, List.map_cons, List.map_nil, List.length_cons, List.length_nil, List.replicate, List.cons_append, List.nil_append, List.getElem?_cons_zero, List.getElem?_cons_succ, List.set_cons_zero, List.set_cons_succ, Option.some.injEq, exists_eq_left', exists_eq_left, D.bl.injEq, D.int.injEq, D.str.injEq, D.lst.injEq, D.ref.injEq, if_true, if_false, Bool.true_eq_false, Bool.false_eq_true, startD, bodyEnds, Nat.reduceSub, Nat.reduceAdd, true_and, and_true, tix1, hD]
    refine ⟨decide (o = "returns"), by simp only [dEq, dEqB, look, Option.map_some], ?_⟩
    unfold plA at k
    by_cases e : o = "returns"
    · simp only [e, decide_true, if_true]
      simp only [e, if_true] at k
      exact ⟨by decide, dropR.self k⟩
    · simp only [e, decide_false, Bool.false_eq_true, if_false, tix2, tSq, DL.tIfS, tBinT, tBin, tV, tK, DL.tSet, tRt, tRtN, tAs, gSb, tFn, tAC, tA0, tDr, tApp, tExt, tPopA, tLstD, tTupD, tLstM, tCl, tMt, tPr, tNx, tSlD, tON, tOS, tIfD, DL.tAndT, DL.tOrT, DL.tNotT, tTru, tChainT, tNeg, tListM, List.map_cons, List.map_nil, List.length_cons, List.length_nil, List.replicate, List.cons_append, List.nil_append, List.getElem?_cons_zero, List.getElem?_cons_succ, List.set_cons_zero, List.set_cons_succ, Option.some.injEq, exists_eq_left', exists_eq_left, D.bl.injEq, D.int.injEq, D.str.injEq, D.lst.injEq, D.ref.injEq, if_true, if_false, Bool.true_eq_false, Bool.false_eq_true, startD, bodyEnds, Nat.reduceSub, Nat.reduceAdd, true_and, and_true]
      simp only [e, if_false] at k
      exact ⟨by decide, dropR.self k⟩
def nsA : List Str := [("rows" : Str)]
/-- Acts as data -/
def actsD (C : Addr) (as : List Act) : D := .ins C nsA [.tup (as.map actD)]
theorem get_rows (as : List Act) : fget ("rows" : Str) nsA [.tup (as.map actD)] = some (.tup (as.map actD)) := by
  simp only [nsA, fget, if_true]
theorem okKeys_acts {as : List Act} (ok : ∀ a ∈ as, AOk a) : okKeys kfD (as.map actD) := by
  have e : (as.map actD).map (fun d => toPd (kfD d)) = as.map fun a => toPd (plA a) := by
    rw [List.map_map]
    exact List.map_congr_left fun a _ => congrArg toPd (kf_act a)
  refine ⟨?_, ?_, fun d hd => ?_⟩
  · rw [e]; exact PySem.W.AllAlike.of fun a b => pl_alike a b
  · rw [e]; exact PySem.W.Sortable.tuples fun a => ⟨_, _, by simp [plA, toPd, toPdL]; exact ⟨rfl, rfl⟩⟩
  · obtain ⟨a, ha, rfl⟩ := List.mem_map.mp hd
    rw [kf_act]
    exact pl_dat (ok a ha)
theorem in_tup {m : M} {a : Act} {as : List Act} (oka : AOk a) (ok : ∀ a ∈ as, AOk a) : dInB m (actD a) (.tup (as.map actD)) = some (decide (a ∈ as)) := in_acts oka ok (.inr rfl)
theorem in_lst {m : M} {a : Act} {as : List Act} (oka : AOk a) (ok : ∀ a ∈ as, AOk a) : dInB m (actD a) (.lst (as.map actD)) = some (decide (a ∈ as)) := in_acts oka ok (.inl rfl)
theorem init_ok {P : Program} {w : World} {m : M} {C x : Addr} {as : List Act} {Q : DK} (hx : m x = some (.ins C [] [])) (hn : as.length ≤ 100) (ok : ∀ a ∈ as, AOk a) (k : Q .non (updM m x (actsD C (ordA as)))) : sp_Acts_init P w C (.ref x :: as.map actD) m Q := by
  refine ⟨by simp, by simp; exact small (by omega), rfl, ?_⟩
  show r_Acts_init_7 P w C _ _ _
  simp only [r_Acts_init_7, tSq, DL.tIfS, tBinT, tBin, tV, tK, DL.tSet, tRt, tRtN, tAs, gSb, tFn, tAC, tA0, tDr, tApp, tExt, tPopA, tLstD, tTupD, tLstM, tCl, tMt, tPr, tNx, tSlD, tON, tOS, tIfD, DL.tAndT, DL.tOrT, DL.tNotT, tTru, tChainT, tNeg, tListM, List.map_cons, List.map_nil, List.length_cons, List.length_nil, List.replicate, List.cons_append, List.nil_append, List.getElem?_cons_zero, List.getElem?_cons_succ, List.set_cons_zero, List.set_cons_succ, Option.some.injEq, exists_eq_left', exists_eq_left, D.bl.injEq, D.int.injEq, D.str.injEq, D.lst.injEq, D.ref.injEq, if_true, if_false, Bool.true_eq_false, Bool.false_eq_true, startD, bodyEnds, Nat.reduceSub, Nat.reduceAdd, true_and, and_true, List.take_succ_cons, List.take_zero, List.drop_succ_cons, List.drop_zero, tFo, iRg]
  refine ⟨.int as.length, by simp only [d1, look, dLen, List.length_map], as.length, rfl, by omega, by omega, ?_⟩
  refine forD_inv (fun i env m' => ∃ e2, env = [some (.ref x), some (.tup (as.map actD)), e2, none, none] ∧ m' = m) ⟨none, rfl, rfl⟩ ?_ ?_
  · rintro i d env m' N hd ⟨e2, rfl, rfl⟩ hN
    have hi : i < as.length := by
      have := (List.getElem?_eq_some_iff.mp hd).1
      simpa [rngD] using this
    have hdi : d = .int i := by
      have := (List.getElem?_eq_some_iff.mp hd).2
      simpa [rngD] using this.symm
    subst hdi
    simp only [tgD, gN, r_Acts_init_2, tSq, DL.tIfS, tBinT, tBin, tV, tK, DL.tSet, tRt, tRtN, tAs, gSb, tFn, tAC, tA0, tDr, tApp, tExt, tPopA, tLstD, tTupD, tLstM, tCl, tMt, tPr, tNx, tSlD, tON, tOS, tIfD, DL.tAndT, DL.tOrT, DL.tNotT, tTru, tChainT, tNeg, tListM, List.map_cons, List.map_nil, List.length_cons, List.length_nil, List.replicate, List.cons_append, List.nil_append, List.getElem?_cons_zero, List.getElem?_cons_succ, List.set_cons_zero, List.set_cons_succ, Option.some.injEq, exists_eq_left', exists_eq_left, D.bl.injEq, D.int.injEq, D.str.injEq, D.lst.injEq, D.ref.injEq, if_true, if_false, Bool.true_eq_false, Bool.false_eq_true, startD, bodyEnds, Nat.reduceSub, Nat.reduceAdd, true_and, and_true]
    refine ⟨actD as[i], dIx_tup rfl rfl (atI_pos (by omega) (by rw [Int.toNat_natCast, List.getElem?_map, List.getElem?_eq_getElem hi]; rfl)), ?_⟩
    refine is_act_ok (ok _ (List.getElem_mem hi)) ?_
    simp only [look, dTru, Option.some.injEq, exists_eq_left', Bool.not_true, Bool.false_eq_true, if_false]
    exact hN _ _ ⟨_, rfl, rfl⟩
  · rintro env m' ⟨e2, rfl, rfl⟩
    simp only [r_Acts_init_6, tSq, DL.tIfS, tBinT, tBin, tV, tK, DL.tSet, tRt, tRtN, tAs, gSb, tFn, tAC, tA0, tDr, tApp, tExt, tPopA, tLstD, tTupD, tLstM, tCl, tMt, tPr, tNx, tSlD, tON, tOS, tIfD, DL.tAndT, DL.tOrT, DL.tNotT, tTru, tChainT, tNeg, tListM, List.map_cons, List.map_nil, List.length_cons, List.length_nil, List.replicate, List.cons_append, List.nil_append, List.getElem?_cons_zero, List.getElem?_cons_succ, List.set_cons_zero, List.set_cons_succ, Option.some.injEq, exists_eq_left', exists_eq_left, D.bl.injEq, D.int.injEq, D.str.injEq, D.lst.injEq, D.ref.injEq, if_true, if_false, Bool.true_eq_false, Bool.false_eq_true, startD, bodyEnds, Nat.reduceSub, Nat.reduceAdd, true_and, and_true, tDcD, iSeq, dSeq, wipeD]
    intro p hp
    have xp : x ≠ p := by rintro rfl; rw [hx] at hp; cases hp
    have loop : ∀ (bs acc : List Act) (vs : List D), (∀ a ∈ bs, a ∈ as) → acc.length + bs.length ≤ as.length → ∀ (R : M → Prop), (∀ vs', R (updM m' p (.dky P w ((bs.foldl addA acc).map actD) vs'))) →
        dcD P w p (.one 4) tYe r_Acts_init_3 r_Acts_init_4 [some (.ref x), some (.tup (as.map actD)), e2, none, none] R (bs.map actD) (updM m' p (.dky P w (acc.map actD) vs)) := by
      intro bs
      induction bs with
      | nil => intro acc vs _ _ R hR; exact hR vs
      | cons b bs ih =>
        intro acc vs hb hl R hR
        rw [List.map_cons]
        unfold dcD
        simp only [tgD, gN, tYe, r_Acts_init_3, r_Acts_init_4, tSq, DL.tIfS, tBinT, tBin, tV, tK, DL.tSet, tRt, tRtN, tAs, gSb, tFn, tAC, tA0, tDr, tApp, tExt, tPopA, tLstD, tTupD, tLstM, tCl, tMt, tPr, tNx, tSlD, tON, tOS, tIfD, DL.tAndT, DL.tOrT, DL.tNotT, tTru, tChainT, tNeg, tListM, List.map_cons, List.map_nil, List.length_cons, List.length_nil, List.replicate, List.cons_append, List.nil_append, List.getElem?_cons_zero, List.getElem?_cons_succ, List.set_cons_zero, List.set_cons_succ, Option.some.injEq, exists_eq_left', exists_eq_left, D.bl.injEq, D.int.injEq, D.str.injEq, D.lst.injEq, D.ref.injEq, if_true, if_false, Bool.true_eq_false, Bool.false_eq_true, startD, bodyEnds, Nat.reduceSub, Nat.reduceAdd, true_and, and_true]
        refine ⟨_, _, updM_same, act_tupKey b, by rw [List.length_map]; rw [List.length_cons] at hl; exact smallLt (by omega), ?_⟩
        rw [updM_over, kput_act]
        refine ih (addA acc b) _ (fun a ha => hb a (List.mem_cons_of_mem _ ha)) ?_ R hR
        have := addA_len (as := acc) (a := b)
        rw [List.length_cons] at hl; omega
    refine loop as [] [] (fun a h => h) (by simp) _ fun vs' => ?_
    have lp : look (updM m' p (.dky P w ((dd as).map actD) vs')) (.ref p) = .dky P w ((dd as).map actD) vs' := by simp only [look, updM_same, Option.getD_some]
    show r_Acts_init_5 P w C [some (D.ref x), some (D.tup (List.map actD as)), e2, some (D.ref p), none] (updM m' p (D.dky P w (List.map actD (dd as)) vs')) _
    have dds := dd_facts as
    simp only [r_Acts_init_5, tSq, DL.tIfS, tBinT, tBin, tV, tK, DL.tSet, tRt, tRtN, tAs, gSb, tFn, tAC, tA0, tDr, tApp, tExt, tPopA, tLstD, tTupD, tLstM, tCl, tMt, tPr, tNx, tSlD, tON, tOS, tIfD, DL.tAndT, DL.tOrT, DL.tNotT, tTru, tChainT, tNeg, tListM, List.map_cons, List.map_nil, List.length_cons, List.length_nil, List.replicate, List.cons_append, List.nil_append, List.getElem?_cons_zero, List.getElem?_cons_succ, List.set_cons_zero, List.set_cons_succ, Option.some.injEq, exists_eq_left', exists_eq_left, D.bl.injEq, D.int.injEq, D.str.injEq, D.lst.injEq, D.ref.injEq, if_true, if_false, Bool.true_eq_false, Bool.false_eq_true, startD, bodyEnds, Nat.reduceSub, Nat.reduceAdd, true_and, and_true, tFlS, tSortK, d1, lp, dListK_at]
    refine ⟨(dd as).map actD, kfD, .inr rfl, by rw [List.length_map]; exact small (by omega), okKeys_acts fun a ha => ok a ((dds.2.1 a).mp ha), fun d hd => ?_, ?_⟩
    · obtain ⟨a, ha, rfl⟩ := List.mem_map.mp hd
      exact act_place_ok ⟨(kf_act a).symm, rfl⟩
    · rw [srtK_acts]
      refine ⟨.tup ((ordA as).map actD), rfl, x, [], [], rfl, by rw [updM_ne xp, hx], by decide, ?_⟩
      refine ⟨updM m' x (actsD C (ordA as)), fun b => ?_, k⟩
      unfold updM
      by_cases e1 : b = x
      · left; subst e1; simp only [if_true]; rfl
      · by_cases e2 : b = p
        · right; subst e2; simp [e1, hp]
        · left; simp [e1, e2]
theorem new_ok {P : Program} {w : World} {m : M} {C : Addr} {as : List Act} {Q : DK} (hn : as.length ≤ 100) (ok : ∀ a ∈ as, AOk a) (k : Q (actsD C (ordA as)) m) {x : Addr} (hx : m x = none) :
    sp_Acts_init P w C (.ref x :: as.map actD) (updM m x (.ins C [] [])) fun d m2 => d = .non ∧ ∃ c, m2 x = some c ∧ Q c (delM m2 x) := by
  refine init_ok updM_same hn ok ⟨rfl, actsD C (ordA as), updM_same, ?_⟩
  rw [updM_over, delM_upd hx]
  exact k
theorem made_ok {P : Program} {w : World} {m : M} {C : Addr} {as : List Act} {Q : DK} (hn : as.length ≤ 100) (ok : ∀ a ∈ as, AOk a) (k : Q (actsD C (ordA as)) m) : sp_Acts_made P w C [.ref C, .lst (as.map actD)] m Q := by
  refine ⟨rfl, ?_⟩
  show r_Acts_made_2 P w C _ _ _
  simp only [r_Acts_made_2, r_Acts_made_1, tSq, DL.tIfS, tBinT, tBin, tV, tK, DL.tSet, tRt, tRtN, tAs, gSb, tFn, tAC, tA0, tDr, tApp, tExt, tPopA, tLstD, tTupD, tLstM, tCl, tMt, tPr, tNx, tSlD, tON, tOS, tIfD, DL.tAndT, DL.tOrT, DL.tNotT, tTru, tChainT, tNeg, tListM, List.map_cons, List.map_nil, List.length_cons, List.length_nil, List.replicate, List.cons_append, List.nil_append, List.getElem?_cons_zero, List.getElem?_cons_succ, List.set_cons_zero, List.set_cons_succ, Option.some.injEq, exists_eq_left', exists_eq_left, D.bl.injEq, D.int.injEq, D.str.injEq, D.lst.injEq, D.ref.injEq, if_true, if_false, Bool.true_eq_false, Bool.false_eq_true, startD, bodyEnds, Nat.reduceSub, Nat.reduceAdd, true_and, and_true, tFrz, tNwF, tNw, tAS, d1, look, dList]
  refine ⟨as.map actD, .inr rfl, fun x hx => ?_⟩
  rw [List.append_nil]
  exact new_ok hn ok (dropR.self k) hx
/-! the rows of two -/
theorem and_ok {P : Program} {w : World} {m : M} {C : Addr} {as bs : List Act} {Q : DK} (hn : as.length ≤ 100) (ok : ∀ a ∈ as, AOk a) (okb : ∀ a ∈ bs, AOk a) (k : Q (actsD C (ordA (as.filter fun a => decide (a ∈ bs)))) m) : sp_Acts_and P w C [actsD C as, actsD C bs] m Q := by
  refine ⟨rfl, ?_⟩
  show r_Acts_and_4 P w C _ _ _
  simp only [r_Acts_and_4, tSq, DL.tIfS, tBinT, tBin, tV, tK, DL.tSet, tRt, tRtN, tAs, gSb, tFn, tAC, tA0, tDr, tApp, tExt, tPopA, tLstD, tTupD, tLstM, tCl, tMt, tPr, tNx, tSlD, tON, tOS, tIfD, DL.tAndT, DL.tOrT, DL.tNotT, tTru, tChainT, tNeg, tListM, List.map_cons, List.map_nil, List.length_cons, List.length_nil, List.replicate, List.cons_append, List.nil_append, List.getElem?_cons_zero, List.getElem?_cons_succ, List.set_cons_zero, List.set_cons_succ, Option.some.injEq, exists_eq_left', exists_eq_left, D.bl.injEq, D.int.injEq, D.str.injEq, D.lst.injEq, D.ref.injEq, if_true, if_false, Bool.true_eq_false, Bool.false_eq_true, startD, bodyEnds, Nat.reduceSub, Nat.reduceAdd, true_and, and_true]
  refine lc_pure (ds := as.map actD) (fun d => if (bs.map actD).any (fun y => eqvD y d) = true then some d else none) (fun R hR => ?_) (by rw [List.length_map]; exact smallLt (by omega)) (fun d m1 R hd hm hy hno => ?_) ?_
  · simp only [iSeq, dSeq, tSq, DL.tIfS, tBinT, tBin, tV, tK, DL.tSet, tRt, tRtN, tAs, gSb, tFn, tAC, tA0, tDr, tApp, tExt, tPopA, tLstD, tTupD, tLstM, tCl, tMt, tPr, tNx, tSlD, tON, tOS, tIfD, DL.tAndT, DL.tOrT, DL.tNotT, tTru, tChainT, tNeg, tListM, List.map_cons, List.map_nil, List.length_cons, List.length_nil, List.replicate, List.cons_append, List.nil_append, List.getElem?_cons_zero, List.getElem?_cons_succ, List.set_cons_zero, List.set_cons_succ, Option.some.injEq, exists_eq_left', exists_eq_left, D.bl.injEq, D.int.injEq, D.str.injEq, D.lst.injEq, D.ref.injEq, if_true, if_false, Bool.true_eq_false, Bool.false_eq_true, startD, bodyEnds, Nat.reduceSub, Nat.reduceAdd, true_and, and_true, tFl]
    exact ⟨_, _, _, rfl, get_rows as, _, rfl, hR⟩
  · obtain ⟨a, ha, rfl⟩ := List.mem_map.mp hd
    simp only [tgD, gN, wipeD, r_Acts_and_1, r_Acts_and_2, tSq, DL.tIfS, tBinT, tBin, tV, tK, DL.tSet, tRt, tRtN, tAs, gSb, tFn, tAC, tA0, tDr, tApp, tExt, tPopA, tLstD, tTupD, tLstM, tCl, tMt, tPr, tNx, tSlD, tON, tOS, tIfD, DL.tAndT, DL.tOrT, DL.tNotT, tTru, tChainT, tNeg, tListM, List.map_cons, List.map_nil, List.length_cons, List.length_nil, List.replicate, List.cons_append, List.nil_append, List.getElem?_cons_zero, List.getElem?_cons_succ, List.set_cons_zero, List.set_cons_succ, Option.some.injEq, exists_eq_left', exists_eq_left, D.bl.injEq, D.int.injEq, D.str.injEq, D.lst.injEq, D.ref.injEq, if_true, if_false, Bool.true_eq_false, Bool.false_eq_true, startD, bodyEnds, Nat.reduceSub, Nat.reduceAdd, true_and, and_true, tFl]
    refine ⟨_, _, _, rfl, get_rows bs, decide (a ∈ bs), by simp only [dIn, in_tup (ok a ha) okb, Option.map_some], ?_⟩
    have e := any_act a bs
    by_cases g : a ∈ bs
    · simp only [g, decide_true, if_true] at e ⊢
      exact hy _ (if_pos e)
    · simp only [g, decide_false, Bool.false_eq_true, if_false] at e ⊢
      exact hno (if_neg (by rw [e]; exact Bool.false_ne_true))
  · have e : (as.map actD).filterMap (fun d => if (bs.map actD).any (fun y => eqvD y d) = true then some d else none) = (as.filter fun a => decide (a ∈ bs)).map actD := by
      clear hn ok k
      induction as with
      | nil => rfl
      | cons a as ih =>
        rw [List.map_cons, List.filterMap_cons, ih, any_act]
        by_cases g : a ∈ bs <;> simp [g]
    rw [e]
    simp only [r_Acts_and_3, tSq, DL.tIfS, tBinT, tBin, tV, tK, DL.tSet, tRt, tRtN, tAs, gSb, tFn, tAC, tA0, tDr, tApp, tExt, tPopA, tLstD, tTupD, tLstM, tCl, tMt, tPr, tNx, tSlD, tON, tOS, tIfD, DL.tAndT, DL.tOrT, DL.tNotT, tTru, tChainT, tNeg, tListM, List.map_cons, List.map_nil, List.length_cons, List.length_nil, List.replicate, List.cons_append, List.nil_append, List.getElem?_cons_zero, List.getElem?_cons_succ, List.set_cons_zero, List.set_cons_succ, Option.some.injEq, exists_eq_left', exists_eq_left, D.bl.injEq, D.int.injEq, D.str.injEq, D.lst.injEq, D.ref.injEq, if_true, if_false, Bool.true_eq_false, Bool.false_eq_true, startD, bodyEnds, Nat.reduceSub, Nat.reduceAdd, true_and, and_true, tFrz, tNwF, tNw, tAS]
    refine ⟨_, .inr rfl, fun x hx => ?_⟩
    rw [List.append_nil]
    exact new_ok (Nat.le_trans (List.length_filter_le _ _) hn) (fun a ha => ok a (List.mem_filter.mp ha).1) (dropR.self k) hx
theorem fm_not (as bs : List Act) : (as.map actD).filterMap (fun d => if (bs.map actD).any (fun y => eqvD y d) = true then none else some d) = (as.filter fun a => decide (a ∉ bs)).map actD := by
  induction as with
  | nil => rfl
  | cons a as ih =>
    rw [List.map_cons, List.filterMap_cons, ih, any_act]
    by_cases g : a ∈ bs <;> simp [g]
theorem fm_in (as bs : List Act) : (as.map actD).filterMap (fun d => if (bs.map actD).any (fun y => eqvD y d) = true then some d else none) = (as.filter fun a => decide (a ∈ bs)).map actD := by
  induction as with
  | nil => rfl
  | cons a as ih =>
    rw [List.map_cons, List.filterMap_cons, ih, any_act]
    by_cases g : a ∈ bs <;> simp [g]
theorem sub_ok {P : Program} {w : World} {m : M} {C : Addr} {as bs : List Act} {Q : DK} (hn : as.length ≤ 100) (ok : ∀ a ∈ as, AOk a) (okb : ∀ a ∈ bs, AOk a) (k : Q (actsD C (ordA (as.filter fun a => decide (a ∉ bs)))) m) : sp_Acts_sub P w C [actsD C as, actsD C bs] m Q := by
  refine ⟨rfl, ?_⟩
  show r_Acts_sub_4 P w C _ _ _
  simp only [r_Acts_sub_4, tSq, DL.tIfS, tBinT, tBin, tV, tK, DL.tSet, tRt, tRtN, tAs, gSb, tFn, tAC, tA0, tDr, tApp, tExt, tPopA, tLstD, tTupD, tLstM, tCl, tMt, tPr, tNx, tSlD, tON, tOS, tIfD, DL.tAndT, DL.tOrT, DL.tNotT, tTru, tChainT, tNeg, tListM, List.map_cons, List.map_nil, List.length_cons, List.length_nil, List.replicate, List.cons_append, List.nil_append, List.getElem?_cons_zero, List.getElem?_cons_succ, List.set_cons_zero, List.set_cons_succ, Option.some.injEq, exists_eq_left', exists_eq_left, D.bl.injEq, D.int.injEq, D.str.injEq, D.lst.injEq, D.ref.injEq, if_true, if_false, Bool.true_eq_false, Bool.false_eq_true, startD, bodyEnds, Nat.reduceSub, Nat.reduceAdd, true_and, and_true]
  refine lc_pure (ds := as.map actD) (fun d => if (bs.map actD).any (fun y => eqvD y d) = true then none else some d) (fun R hR => ?_) (by rw [List.length_map]; exact smallLt (by omega)) (fun d m1 R hd hm hy hno => ?_) ?_
  · simp only [iSeq, dSeq, tSq, DL.tIfS, tBinT, tBin, tV, tK, DL.tSet, tRt, tRtN, tAs, gSb, tFn, tAC, tA0, tDr, tApp, tExt, tPopA, tLstD, tTupD, tLstM, tCl, tMt, tPr, tNx, tSlD, tON, tOS, tIfD, DL.tAndT, DL.tOrT, DL.tNotT, tTru, tChainT, tNeg, tListM, List.map_cons, List.map_nil, List.length_cons, List.length_nil, List.replicate, List.cons_append, List.nil_append, List.getElem?_cons_zero, List.getElem?_cons_succ, List.set_cons_zero, List.set_cons_succ, Option.some.injEq, exists_eq_left', exists_eq_left, D.bl.injEq, D.int.injEq, D.str.injEq, D.lst.injEq, D.ref.injEq, if_true, if_false, Bool.true_eq_false, Bool.false_eq_true, startD, bodyEnds, Nat.reduceSub, Nat.reduceAdd, true_and, and_true, tFl]
    exact ⟨_, _, _, rfl, get_rows as, _, rfl, hR⟩
  · obtain ⟨a, ha, rfl⟩ := List.mem_map.mp hd
    simp only [tgD, gN, wipeD, r_Acts_sub_1, r_Acts_sub_2, tSq, DL.tIfS, tBinT, tBin, tV, tK, DL.tSet, tRt, tRtN, tAs, gSb, tFn, tAC, tA0, tDr, tApp, tExt, tPopA, tLstD, tTupD, tLstM, tCl, tMt, tPr, tNx, tSlD, tON, tOS, tIfD, DL.tAndT, DL.tOrT, DL.tNotT, tTru, tChainT, tNeg, tListM, List.map_cons, List.map_nil, List.length_cons, List.length_nil, List.replicate, List.cons_append, List.nil_append, List.getElem?_cons_zero, List.getElem?_cons_succ, List.set_cons_zero, List.set_cons_succ, Option.some.injEq, exists_eq_left', exists_eq_left, D.bl.injEq, D.int.injEq, D.str.injEq, D.lst.injEq, D.ref.injEq, if_true, if_false, Bool.true_eq_false, Bool.false_eq_true, startD, bodyEnds, Nat.reduceSub, Nat.reduceAdd, true_and, and_true, tFl]
    refine ⟨_, _, _, rfl, get_rows bs, !decide (a ∈ bs), by simp only [dNotIn, in_tup (ok a ha) okb, Option.map_some], ?_⟩
    have e := any_act a bs
    by_cases g : a ∈ bs
    · simp only [g, decide_true, Bool.not_true, Bool.false_eq_true, if_false] at e ⊢
      exact hno (if_pos e)
    · simp only [g, decide_false, Bool.not_false, if_true] at e ⊢
      exact hy _ (if_neg (by rw [e]; exact Bool.false_ne_true))
  · rw [fm_not]
    simp only [r_Acts_sub_3, tSq, DL.tIfS, tBinT, tBin, tV, tK, DL.tSet, tRt, tRtN, tAs, gSb, tFn, tAC, tA0, tDr, tApp, tExt, tPopA, tLstD, tTupD, tLstM, tCl, tMt, tPr, tNx, tSlD, tON, tOS, tIfD, DL.tAndT, DL.tOrT, DL.tNotT, tTru, tChainT, tNeg, tListM, List.map_cons, List.map_nil, List.length_cons, List.length_nil, List.replicate, List.cons_append, List.nil_append, List.getElem?_cons_zero, List.getElem?_cons_succ, List.set_cons_zero, List.set_cons_succ, Option.some.injEq, exists_eq_left', exists_eq_left, D.bl.injEq, D.int.injEq, D.str.injEq, D.lst.injEq, D.ref.injEq, if_true, if_false, Bool.true_eq_false, Bool.false_eq_true, startD, bodyEnds, Nat.reduceSub, Nat.reduceAdd, true_and, and_true, tFrz, tNwF, tNw, tAS]
    refine ⟨_, .inr rfl, fun x hx => ?_⟩
    rw [List.append_nil]
    exact new_ok (Nat.le_trans (List.length_filter_le _ _) hn) (fun a ha => ok a (List.mem_filter.mp ha).1) (dropR.self k) hx
theorem or_ok {P : Program} {w : World} {m : M} {C : Addr} {as bs : List Act} {Q : DK} (hn : as.length + bs.length ≤ 100) (ok : ∀ a ∈ as, AOk a) (okb : ∀ a ∈ bs, AOk a) (k : Q (actsD C (ordA (as ++ bs))) m) : sp_Acts_or P w C [actsD C as, actsD C bs] m Q := by
  refine ⟨rfl, ?_⟩
  show r_Acts_or_1 P w C _ _ _
  simp only [r_Acts_or_1, tSq, DL.tIfS, tBinT, tBin, tV, tK, DL.tSet, tRt, tRtN, tAs, gSb, tFn, tAC, tA0, tDr, tApp, tExt, tPopA, tLstD, tTupD, tLstM, tCl, tMt, tPr, tNx, tSlD, tON, tOS, tIfD, DL.tAndT, DL.tOrT, DL.tNotT, tTru, tChainT, tNeg, tListM, List.map_cons, List.map_nil, List.length_cons, List.length_nil, List.replicate, List.cons_append, List.nil_append, List.getElem?_cons_zero, List.getElem?_cons_succ, List.set_cons_zero, List.set_cons_succ, Option.some.injEq, exists_eq_left', exists_eq_left, D.bl.injEq, D.int.injEq, D.str.injEq, D.lst.injEq, D.ref.injEq, if_true, if_false, Bool.true_eq_false, Bool.false_eq_true, startD, bodyEnds, Nat.reduceSub, Nat.reduceAdd, true_and, and_true, tFrz, tNwF, tNw, tAS, tFl]
  refine ⟨_, _, _, rfl, get_rows as, _, .inl rfl, _, _, _, rfl, get_rows bs, _, .inl rfl, fun x hx => ?_⟩
  rw [List.append_nil, ← List.map_append]
  exact new_ok (by rw [List.length_append]; exact hn) (fun a ha => (List.mem_append.mp ha).elim (ok a) (okb a)) (dropR.self k) hx
theorem xor_ok {P : Program} {w : World} {m : M} {C : Addr} {as bs : List Act} {Q : DK} (hn : as.length + bs.length ≤ 100) (ok : ∀ a ∈ as, AOk a) (okb : ∀ a ∈ bs, AOk a) (k : Q (actsD C (ordA ((as.filter fun a => decide (a ∉ bs)) ++ bs.filter fun a => decide (a ∉ as)))) m) : sp_Acts_xor P w C [actsD C as, actsD C bs] m Q := by
  refine ⟨rfl, ?_⟩
  show r_Acts_xor_7 P w C _ _ _
  simp only [r_Acts_xor_7, tSq, DL.tIfS, tBinT, tBin, tV, tK, DL.tSet, tRt, tRtN, tAs, gSb, tFn, tAC, tA0, tDr, tApp, tExt, tPopA, tLstD, tTupD, tLstM, tCl, tMt, tPr, tNx, tSlD, tON, tOS, tIfD, DL.tAndT, DL.tOrT, DL.tNotT, tTru, tChainT, tNeg, tListM, List.map_cons, List.map_nil, List.length_cons, List.length_nil, List.replicate, List.cons_append, List.nil_append, List.getElem?_cons_zero, List.getElem?_cons_succ, List.set_cons_zero, List.set_cons_succ, Option.some.injEq, exists_eq_left', exists_eq_left, D.bl.injEq, D.int.injEq, D.str.injEq, D.lst.injEq, D.ref.injEq, if_true, if_false, Bool.true_eq_false, Bool.false_eq_true, startD, bodyEnds, Nat.reduceSub, Nat.reduceAdd, true_and, and_true]
  refine lc_pure (ds := as.map actD) (fun d => if (bs.map actD).any (fun y => eqvD y d) = true then none else some d) (fun R hR => ?_) (by rw [List.length_map]; exact smallLt (by omega)) (fun d m1 R hd hm hy hno => ?_) ?_
  · simp only [iSeq, dSeq, tSq, DL.tIfS, tBinT, tBin, tV, tK, DL.tSet, tRt, tRtN, tAs, gSb, tFn, tAC, tA0, tDr, tApp, tExt, tPopA, tLstD, tTupD, tLstM, tCl, tMt, tPr, tNx, tSlD, tON, tOS, tIfD, DL.tAndT, DL.tOrT, DL.tNotT, tTru, tChainT, tNeg, tListM, List.map_cons, List.map_nil, List.length_cons, List.length_nil, List.replicate, List.cons_append, List.nil_append, List.getElem?_cons_zero, List.getElem?_cons_succ, List.set_cons_zero, List.set_cons_succ, Option.some.injEq, exists_eq_left', exists_eq_left, D.bl.injEq, D.int.injEq, D.str.injEq, D.lst.injEq, D.ref.injEq, if_true, if_false, Bool.true_eq_false, Bool.false_eq_true, startD, bodyEnds, Nat.reduceSub, Nat.reduceAdd, true_and, and_true, tFl]
    exact ⟨_, _, _, rfl, get_rows as, _, rfl, hR⟩
  · obtain ⟨a, ha, rfl⟩ := List.mem_map.mp hd
    simp only [tgD, gN, wipeD, r_Acts_xor_1, r_Acts_xor_2, tSq, DL.tIfS, tBinT, tBin, tV, tK, DL.tSet, tRt, tRtN, tAs, gSb, tFn, tAC, tA0, tDr, tApp, tExt, tPopA, tLstD, tTupD, tLstM, tCl, tMt, tPr, tNx, tSlD, tON, tOS, tIfD, DL.tAndT, DL.tOrT, DL.tNotT, tTru, tChainT, tNeg, tListM, List.map_cons, List.map_nil, List.length_cons, List.length_nil, List.replicate, List.cons_append, List.nil_append, List.getElem?_cons_zero, List.getElem?_cons_succ, List.set_cons_zero, List.set_cons_succ, Option.some.injEq, exists_eq_left', exists_eq_left, D.bl.injEq, D.int.injEq, D.str.injEq, D.lst.injEq, D.ref.injEq, if_true, if_false, Bool.true_eq_false, Bool.false_eq_true, startD, bodyEnds, Nat.reduceSub, Nat.reduceAdd, true_and, and_true, tFl]
    refine ⟨_, _, _, rfl, get_rows bs, !decide (a ∈ bs), by simp only [dNotIn, in_tup (ok a ha) okb, Option.map_some], ?_⟩
    have e := any_act a bs
    by_cases g : a ∈ bs
    · simp only [g, decide_true, Bool.not_true, Bool.false_eq_true, if_false] at e ⊢
      exact hno (if_pos e)
    · simp only [g, decide_false, Bool.not_false, if_true] at e ⊢
      exact hy _ (if_neg (by rw [e]; exact Bool.false_ne_true))
  rw [fm_not]
  simp only [r_Acts_xor_6, tSq, DL.tIfS, tBinT, tBin, tV, tK, DL.tSet, tRt, tRtN, tAs, gSb, tFn, tAC, tA0, tDr, tApp, tExt, tPopA, tLstD, tTupD, tLstM, tCl, tMt, tPr, tNx, tSlD, tON, tOS, tIfD, DL.tAndT, DL.tOrT, DL.tNotT, tTru, tChainT, tNeg, tListM, List.map_cons, List.map_nil, List.length_cons, List.length_nil, List.replicate, List.cons_append, List.nil_append, List.getElem?_cons_zero, List.getElem?_cons_succ, List.set_cons_zero, List.set_cons_succ, Option.some.injEq, exists_eq_left', exists_eq_left, D.bl.injEq, D.int.injEq, D.str.injEq, D.lst.injEq, D.ref.injEq, if_true, if_false, Bool.true_eq_false, Bool.false_eq_true, startD, bodyEnds, Nat.reduceSub, Nat.reduceAdd, true_and, and_true]
  refine lc_pure (ds := bs.map actD) (fun d => if (as.map actD).any (fun y => eqvD y d) = true then none else some d) (fun R hR => ?_) (by rw [List.length_map]; exact smallLt (by omega)) (fun d m1 R hd hm hy hno => ?_) ?_
  · simp only [iSeq, dSeq, tSq, DL.tIfS, tBinT, tBin, tV, tK, DL.tSet, tRt, tRtN, tAs, gSb, tFn, tAC, tA0, tDr, tApp, tExt, tPopA, tLstD, tTupD, tLstM, tCl, tMt, tPr, tNx, tSlD, tON, tOS, tIfD, DL.tAndT, DL.tOrT, DL.tNotT, tTru, tChainT, tNeg, tListM, List.map_cons, List.map_nil, List.length_cons, List.length_nil, List.replicate, List.cons_append, List.nil_append, List.getElem?_cons_zero, List.getElem?_cons_succ, List.set_cons_zero, List.set_cons_succ, Option.some.injEq, exists_eq_left', exists_eq_left, D.bl.injEq, D.int.injEq, D.str.injEq, D.lst.injEq, D.ref.injEq, if_true, if_false, Bool.true_eq_false, Bool.false_eq_true, startD, bodyEnds, Nat.reduceSub, Nat.reduceAdd, true_and, and_true, tFl]
    exact ⟨_, _, _, rfl, get_rows bs, _, rfl, hR⟩
  · obtain ⟨a, ha, rfl⟩ := List.mem_map.mp hd
    simp only [tgD, gN, wipeD, r_Acts_xor_3, r_Acts_xor_4, tSq, DL.tIfS, tBinT, tBin, tV, tK, DL.tSet, tRt, tRtN, tAs, gSb, tFn, tAC, tA0, tDr, tApp, tExt, tPopA, tLstD, tTupD, tLstM, tCl, tMt, tPr, tNx, tSlD, tON, tOS, tIfD, DL.tAndT, DL.tOrT, DL.tNotT, tTru, tChainT, tNeg, tListM, List.map_cons, List.map_nil, List.length_cons, List.length_nil, List.replicate, List.cons_append, List.nil_append, List.getElem?_cons_zero, List.getElem?_cons_succ, List.set_cons_zero, List.set_cons_succ, Option.some.injEq, exists_eq_left', exists_eq_left, D.bl.injEq, D.int.injEq, D.str.injEq, D.lst.injEq, D.ref.injEq, if_true, if_false, Bool.true_eq_false, Bool.false_eq_true, startD, bodyEnds, Nat.reduceSub, Nat.reduceAdd, true_and, and_true, tFl]
    refine ⟨_, _, _, rfl, get_rows as, !decide (a ∈ as), by simp only [dNotIn, in_tup (okb a ha) ok, Option.map_some], ?_⟩
    have e := any_act a as
    by_cases g : a ∈ as
    · simp only [g, decide_true, Bool.not_true, Bool.false_eq_true, if_false] at e ⊢
      exact hno (if_pos e)
    · simp only [g, decide_false, Bool.not_false, if_true] at e ⊢
      exact hy _ (if_neg (by rw [e]; exact Bool.false_ne_true))
  rw [fm_not]
  simp only [r_Acts_xor_5, tSq, DL.tIfS, tBinT, tBin, tV, tK, DL.tSet, tRt, tRtN, tAs, gSb, tFn, tAC, tA0, tDr, tApp, tExt, tPopA, tLstD, tTupD, tLstM, tCl, tMt, tPr, tNx, tSlD, tON, tOS, tIfD, DL.tAndT, DL.tOrT, DL.tNotT, tTru, tChainT, tNeg, tListM, List.map_cons, List.map_nil, List.length_cons, List.length_nil, List.replicate, List.cons_append, List.nil_append, List.getElem?_cons_zero, List.getElem?_cons_succ, List.set_cons_zero, List.set_cons_succ, Option.some.injEq, exists_eq_left', exists_eq_left, D.bl.injEq, D.int.injEq, D.str.injEq, D.lst.injEq, D.ref.injEq, if_true, if_false, Bool.true_eq_false, Bool.false_eq_true, startD, bodyEnds, Nat.reduceSub, Nat.reduceAdd, true_and, and_true, tFrz, tNwF, tNw, tAS]
  refine ⟨_, .inr rfl, _, .inr rfl, fun x hx => ?_⟩
  rw [List.append_nil, ← List.map_append]
  have l1 := List.length_filter_le (fun a => decide (a ∉ bs)) as
  have l2 := List.length_filter_le (fun a => decide (a ∉ as)) bs
  exact new_ok (by rw [List.length_append]; omega) (fun a ha => (List.mem_append.mp ha).elim (fun h => ok a (List.mem_filter.mp h).1) fun h => okb a (List.mem_filter.mp h).1) (dropR.self k) hx
theorem len_ok {m : M} {C : Addr} {as : List Act} {Q : DK} (k : Q (.int as.length) m) : sp_Acts_len C [actsD C as] m Q := by
  refine ⟨rfl, ?_⟩
  show r_Acts_len_1 C _ _ _
  simp only [r_Acts_len_1, tSq, DL.tIfS, tBinT, tBin, tV, tK, DL.tSet, tRt, tRtN, tAs, gSb, tFn, tAC, tA0, tDr, tApp, tExt, tPopA, tLstD, tTupD, tLstM, tCl, tMt, tPr, tNx, tSlD, tON, tOS, tIfD, DL.tAndT, DL.tOrT, DL.tNotT, tTru, tChainT, tNeg, tListM, List.map_cons, List.map_nil, List.length_cons, List.length_nil, List.replicate, List.cons_append, List.nil_append, List.getElem?_cons_zero, List.getElem?_cons_succ, List.set_cons_zero, List.set_cons_succ, Option.some.injEq, exists_eq_left', exists_eq_left, D.bl.injEq, D.int.injEq, D.str.injEq, D.lst.injEq, D.ref.injEq, if_true, if_false, Bool.true_eq_false, Bool.false_eq_true, startD, bodyEnds, Nat.reduceSub, Nat.reduceAdd, true_and, and_true, tFl]
  exact ⟨_, _, _, rfl, get_rows as, .int as.length, by simp only [d1, look, dLen, List.length_map], dropR.self k⟩
theorem within_ok {m : M} {C : Addr} {as bs : List Act} {Q : DK} (hn : as.length ≤ 100) (ok : ∀ a ∈ as, AOk a) (okb : ∀ a ∈ bs, AOk a) (k : Q (.bl (as.all fun a => decide (a ∈ bs))) m) : sp_Acts_within C [actsD C as, actsD C bs] m Q := by
  refine ⟨rfl, ?_⟩
  show r_Acts_within_2 C _ _ _
  simp only [r_Acts_within_2, tSq, DL.tIfS, tBinT, tBin, tV, tK, DL.tSet, tRt, tRtN, tAs, gSb, tFn, tAC, tA0, tDr, tApp, tExt, tPopA, tLstD, tTupD, tLstM, tCl, tMt, tPr, tNx, tSlD, tON, tOS, tIfD, DL.tAndT, DL.tOrT, DL.tNotT, tTru, tChainT, tNeg, tListM, List.map_cons, List.map_nil, List.length_cons, List.length_nil, List.replicate, List.cons_append, List.nil_append, List.getElem?_cons_zero, List.getElem?_cons_succ, List.set_cons_zero, List.set_cons_succ, Option.some.injEq, exists_eq_left', exists_eq_left, D.bl.injEq, D.int.injEq, D.str.injEq, D.lst.injEq, D.ref.injEq, if_true, if_false, Bool.true_eq_false, Bool.false_eq_true, startD, bodyEnds, Nat.reduceSub, Nat.reduceAdd, true_and, and_true]
  refine lc_pure (ds := as.map actD) (fun d => some (.bl ((bs.map actD).any fun y => eqvD y d))) (fun R hR => ?_) (by rw [List.length_map]; exact smallLt (by omega)) (fun d m1 R hd hm hy hno => ?_) ?_
  · simp only [iSeq, dSeq, tSq, DL.tIfS, tBinT, tBin, tV, tK, DL.tSet, tRt, tRtN, tAs, gSb, tFn, tAC, tA0, tDr, tApp, tExt, tPopA, tLstD, tTupD, tLstM, tCl, tMt, tPr, tNx, tSlD, tON, tOS, tIfD, DL.tAndT, DL.tOrT, DL.tNotT, tTru, tChainT, tNeg, tListM, List.map_cons, List.map_nil, List.length_cons, List.length_nil, List.replicate, List.cons_append, List.nil_append, List.getElem?_cons_zero, List.getElem?_cons_succ, List.set_cons_zero, List.set_cons_succ, Option.some.injEq, exists_eq_left', exists_eq_left, D.bl.injEq, D.int.injEq, D.str.injEq, D.lst.injEq, D.ref.injEq, if_true, if_false, Bool.true_eq_false, Bool.false_eq_true, startD, bodyEnds, Nat.reduceSub, Nat.reduceAdd, true_and, and_true, tFl]
    exact ⟨_, _, _, rfl, get_rows as, _, rfl, hR⟩
  · obtain ⟨a, ha, rfl⟩ := List.mem_map.mp hd
    simp only [tgD, gN, wipeD, tYe, r_Acts_within_1, tSq, DL.tIfS, tBinT, tBin, tV, tK, DL.tSet, tRt, tRtN, tAs, gSb, tFn, tAC, tA0, tDr, tApp, tExt, tPopA, tLstD, tTupD, tLstM, tCl, tMt, tPr, tNx, tSlD, tON, tOS, tIfD, DL.tAndT, DL.tOrT, DL.tNotT, tTru, tChainT, tNeg, tListM, List.map_cons, List.map_nil, List.length_cons, List.length_nil, List.replicate, List.cons_append, List.nil_append, List.getElem?_cons_zero, List.getElem?_cons_succ, List.set_cons_zero, List.set_cons_succ, Option.some.injEq, exists_eq_left', exists_eq_left, D.bl.injEq, D.int.injEq, D.str.injEq, D.lst.injEq, D.ref.injEq, if_true, if_false, Bool.true_eq_false, Bool.false_eq_true, startD, bodyEnds, Nat.reduceSub, Nat.reduceAdd, true_and, and_true, tFl]
    refine ⟨_, _, _, rfl, get_rows bs, .bl (decide (a ∈ bs)), by simp only [dIn, in_tup (ok a ha) okb, Option.map_some], ?_⟩
    exact hy _ (by rw [any_act])
  · have e : (as.map actD).filterMap (fun d => some (D.bl ((bs.map actD).any fun y => eqvD y d))) = as.map fun a => D.bl (decide (a ∈ bs)) := by
      clear hn ok k
      induction as with
      | nil => rfl
      | cons a as ih => rw [List.map_cons, List.filterMap_cons, ih, any_act]; rfl
    rw [e]
    exact ⟨_, by simp only [d1, look]; exact dAll_bl as fun a => decide (a ∈ bs), dropR.self k⟩
end K33
namespace K33
open PySem PySem.Spec PyProof.Rows DL
open SX (S S_len S_cat S_inj S_tl)
theorem lt_pl {m : M} {x a : Act} (okx : AOk x) (oka : AOk a) : dLtD m (plA x) (plA a) = some (.bl (ltA x a)) := by
  unfold dLtD
  exact if_pos ⟨pl_dat okx, pl_dat oka, pl_alike x a⟩
theorem fm_lt (a : Act) (as : List Act) : (as.map actD).filterMap (fun d => if PySem.W.dataLt (toPd (kfD d)) (toPd (plA a)) = true then some d else none) = (as.filter fun x => ltA x a).map actD := by
  induction as with
  | nil => rfl
  | cons b as ih =>
    rw [List.map_cons, List.filterMap_cons, ih, kf_act]
    by_cases g : ltA b a = true
    · have g' : PySem.W.dataLt (toPd (plA b)) (toPd (plA a)) = true := g
      simp only [g', if_true, List.filter_cons_of_pos (p := fun x => ltA x a) g, List.map_cons]
    · have g' : ¬ PySem.W.dataLt (toPd (plA b)) (toPd (plA a)) = true := g
      simp only [if_neg g', List.filter_cons_of_neg (p := fun x => ltA x a) g]
theorem l_sorted_ok {m : M} {as : List Act} {Q : DK} (hn : as.length ≤ 100) (ok : ∀ a ∈ as, AOk a) (k : Q (.tup ((ordA as).map actD)) m) : sp_l_sorted [.lst (as.map actD)] m Q := by
  rw [lawS_eq ok] at k
  refine ⟨rfl, ?_⟩
  show r_l_sorted_8 _ _ _
  simp only [r_l_sorted_8, r_l_sorted_7, tSq, DL.tIfS, tBinT, tBin, tV, tK, DL.tSet, tRt, tRtN, tAs, gSb, tFn, tAC, tA0, tDr, tApp, tExt, tPopA, tLstD, tTupD, tLstM, tCl, tMt, tPr, tNx, tSlD, tON, tOS, tIfD, DL.tAndT, DL.tOrT, DL.tNotT, tTru, tChainT, tNeg, tListM, List.map_cons, List.map_nil, List.length_cons, List.length_nil, List.replicate, List.cons_append, List.nil_append, List.getElem?_cons_zero, List.getElem?_cons_succ, List.set_cons_zero, List.set_cons_succ, Option.some.injEq, exists_eq_left', exists_eq_left, D.bl.injEq, D.int.injEq, D.str.injEq, D.lst.injEq, D.ref.injEq, if_true, if_false, Bool.true_eq_false, Bool.false_eq_true, startD, bodyEnds, Nat.reduceSub, Nat.reduceAdd, true_and, and_true, tFo, iSeq, dSeq, look]
  refine ⟨by decide, ?_⟩
  refine forD_inv (ds := as.map actD) (fun i env m' => ∃ e2 e3, env = [some (.lst (as.map actD)), some (.lst ((lawS (as.take i)).map actD)), e2, e3, none] ∧ m' = m) ⟨none, none, rfl, rfl⟩ ?_ ?_
  · rintro i d env m' N hd ⟨e2, e3, rfl, rfl⟩ hN
    rw [List.getElem?_map] at hd
    obtain ⟨a, ha, rfl⟩ := Option.map_eq_some_iff.mp hd
    have oka := ok a (List.mem_of_getElem? ha)
    have okt : ∀ x ∈ as.take i, AOk x := fun x hx => ok x (List.mem_of_mem_take hx)
    obtain ⟨f1, f2, f3⟩ := lawS_facts okt
    have okf : ∀ x ∈ lawS (as.take i), AOk x := fun x hx => okt x ((f2 x).mp hx)
    have ht : lawS (as.take (i + 1)) = putA (lawS (as.take i)) a := by
      have : as.take (i + 1) = as.take i ++ [a] := by rw [List.take_add_one, ha] <;> rfl
      rw [this]; unfold lawS; rw [List.foldl_append]; rfl
    have fl : (lawS (as.take i)).length ≤ 100 := by
      have := List.length_take_le i as
      have h2 : (as.take i).length ≤ as.length := by rw [List.length_take]; omega
      omega
    generalize lawS (as.take i) = fs at *
    simp only [tgD, gN, r_l_sorted_5, tSq, DL.tIfS, tBinT, tBin, tV, tK, DL.tSet, tRt, tRtN, tAs, gSb, tFn, tAC, tA0, tDr, tApp, tExt, tPopA, tLstD, tTupD, tLstM, tCl, tMt, tPr, tNx, tSlD, tON, tOS, tIfD, DL.tAndT, DL.tOrT, DL.tNotT, tTru, tChainT, tNeg, tListM, List.map_cons, List.map_nil, List.length_cons, List.length_nil, List.replicate, List.cons_append, List.nil_append, List.getElem?_cons_zero, List.getElem?_cons_succ, List.set_cons_zero, List.set_cons_succ, Option.some.injEq, exists_eq_left', exists_eq_left, D.bl.injEq, D.int.injEq, D.str.injEq, D.lst.injEq, D.ref.injEq, if_true, if_false, Bool.true_eq_false, Bool.false_eq_true, startD, bodyEnds, Nat.reduceSub, Nat.reduceAdd, true_and, and_true]
    refine ⟨!decide (a ∈ fs), by simp only [dNotIn, in_lst oka okf, Option.map_some], ?_⟩
    by_cases g : a ∈ fs
    · simp only [g, decide_true, Bool.not_true, Bool.false_eq_true, if_false]
      have e : putA fs a = fs := by unfold putA; rw [if_pos g]
      rw [ht, e] at hN
      exact hN _ _ ⟨_, e3, rfl, rfl⟩
    · simp only [g, decide_false, Bool.not_false, if_true]
      simp only [r_l_sorted_4, tSq, DL.tIfS, tBinT, tBin, tV, tK, DL.tSet, tRt, tRtN, tAs, gSb, tFn, tAC, tA0, tDr, tApp, tExt, tPopA, tLstD, tTupD, tLstM, tCl, tMt, tPr, tNx, tSlD, tON, tOS, tIfD, DL.tAndT, DL.tOrT, DL.tNotT, tTru, tChainT, tNeg, tListM, List.map_cons, List.map_nil, List.length_cons, List.length_nil, List.replicate, List.cons_append, List.nil_append, List.getElem?_cons_zero, List.getElem?_cons_succ, List.set_cons_zero, List.set_cons_succ, Option.some.injEq, exists_eq_left', exists_eq_left, D.bl.injEq, D.int.injEq, D.str.injEq, D.lst.injEq, D.ref.injEq, if_true, if_false, Bool.true_eq_false, Bool.false_eq_true, startD, bodyEnds, Nat.reduceSub, Nat.reduceAdd, true_and, and_true]
      refine lc_pure (ds := fs.map actD) (fun d => if PySem.W.dataLt (toPd (kfD d)) (toPd (plA a)) = true then some d else none) (fun R hR => ?_) (by rw [List.length_map]; exact smallLt (by omega)) (fun d m1 R hd hm hy hno => ?_) ?_
      · simp only [iSeq, dSeq, tSq, DL.tIfS, tBinT, tBin, tV, tK, DL.tSet, tRt, tRtN, tAs, gSb, tFn, tAC, tA0, tDr, tApp, tExt, tPopA, tLstD, tTupD, tLstM, tCl, tMt, tPr, tNx, tSlD, tON, tOS, tIfD, DL.tAndT, DL.tOrT, DL.tNotT, tTru, tChainT, tNeg, tListM, List.map_cons, List.map_nil, List.length_cons, List.length_nil, List.replicate, List.cons_append, List.nil_append, List.getElem?_cons_zero, List.getElem?_cons_succ, List.set_cons_zero, List.set_cons_succ, Option.some.injEq, exists_eq_left', exists_eq_left, D.bl.injEq, D.int.injEq, D.str.injEq, D.lst.injEq, D.ref.injEq, if_true, if_false, Bool.true_eq_false, Bool.false_eq_true, startD, bodyEnds, Nat.reduceSub, Nat.reduceAdd, true_and, and_true]
        exact hR
      · obtain ⟨x, hx, rfl⟩ := List.mem_map.mp hd
        simp only [tgD, gN, wipeD, r_l_sorted_1, r_l_sorted_2, tSq, DL.tIfS, tBinT, tBin, tV, tK, DL.tSet, tRt, tRtN, tAs, gSb, tFn, tAC, tA0, tDr, tApp, tExt, tPopA, tLstD, tTupD, tLstM, tCl, tMt, tPr, tNx, tSlD, tON, tOS, tIfD, DL.tAndT, DL.tOrT, DL.tNotT, tTru, tChainT, tNeg, tListM, List.map_cons, List.map_nil, List.length_cons, List.length_nil, List.replicate, List.cons_append, List.nil_append, List.getElem?_cons_zero, List.getElem?_cons_succ, List.set_cons_zero, List.set_cons_succ, Option.some.injEq, exists_eq_left', exists_eq_left, D.bl.injEq, D.int.injEq, D.str.injEq, D.lst.injEq, D.ref.injEq, if_true, if_false, Bool.true_eq_false, Bool.false_eq_true, startD, bodyEnds, Nat.reduceSub, Nat.reduceAdd, true_and, and_true]
        refine l_place_ok (l_place_ok ⟨ltA x a, lt_pl (okf x hx) oka, ?_⟩)
        rw [kf_act] at hy hno
        by_cases g2 : ltA x a = true
        · simp only [g2, if_true]
          exact hy _ (if_pos g2)
        · simp only [g2, if_false, Bool.false_eq_true]
          exact hno (if_neg g2)
      · rw [fm_lt]
        have e : putA fs a = fs.take (fs.filter fun x => ltA x a).length ++ [a] ++ fs.drop (fs.filter fun x => ltA x a).length := by unfold putA; rw [if_neg g]
        have hl := List.length_filter_le (fun x => ltA x a) fs
        generalize (fs.filter fun x => ltA x a) = ls at *
        refine ⟨.int ls.length, by simp only [d1, look, dLen, List.length_map], ?_⟩
        simp only [r_l_sorted_3, tSq, DL.tIfS, tBinT, tBin, tV, tK, DL.tSet, tRt, tRtN, tAs, gSb, tFn, tAC, tA0, tDr, tApp, tExt, tPopA, tLstD, tTupD, tLstM, tCl, tMt, tPr, tNx, tSlD, tON, tOS, tIfD, DL.tAndT, DL.tOrT, DL.tNotT, tTru, tChainT, tNeg, tListM, List.map_cons, List.map_nil, List.length_cons, List.length_nil, List.replicate, List.cons_append, List.nil_append, List.getElem?_cons_zero, List.getElem?_cons_succ, List.set_cons_zero, List.set_cons_succ, Option.some.injEq, exists_eq_left', exists_eq_left, D.bl.injEq, D.int.injEq, D.str.injEq, D.lst.injEq, D.ref.injEq, if_true, if_false, Bool.true_eq_false, Bool.false_eq_true, startD, bodyEnds, Nat.reduceSub, Nat.reduceAdd, true_and, and_true]
        refine ⟨ls.length, rfl, .lst ((fs.take ls.length).map actD), ?_, by decide, .lst ((fs.take ls.length).map actD ++ [actD a]), ?_, ls.length, rfl, .lst ((fs.drop ls.length).map actD), ?_, .lst ((fs.take ls.length).map actD ++ [actD a] ++ (fs.drop ls.length).map actD), ?_, ?_⟩
        · simp only [dSl, look]
          rw [cut_to (by omega), Int.toNat_natCast, List.map_take]
        · simp only [dAdd, look]
          rw [if_pos (small (by rw [List.length_map, List.length_take, List.length_singleton]; omega))]
        · simp only [dSl, look]
          rw [cut_from (by omega), Int.toNat_natCast, List.map_drop]
        · simp only [dAdd, look]
          rw [if_pos (small (by rw [List.length_append, List.length_map, List.length_map, List.length_take, List.length_drop, List.length_singleton]; omega))]
        · refine hN _ _ ⟨some (actD a), some (.int ls.length), ?_, rfl⟩
          rw [ht, e, List.map_append, List.map_append]; rfl
  · rintro env m' ⟨e2, e3, rfl, rfl⟩
    rw [List.length_map, List.take_length]
    simp only [r_l_sorted_6, tSq, DL.tIfS, tBinT, tBin, tV, tK, DL.tSet, tRt, tRtN, tAs, gSb, tFn, tAC, tA0, tDr, tApp, tExt, tPopA, tLstD, tTupD, tLstM, tCl, tMt, tPr, tNx, tSlD, tON, tOS, tIfD, DL.tAndT, DL.tOrT, DL.tNotT, tTru, tChainT, tNeg, tListM, List.map_cons, List.map_nil, List.length_cons, List.length_nil, List.replicate, List.cons_append, List.nil_append, List.getElem?_cons_zero, List.getElem?_cons_succ, List.set_cons_zero, List.set_cons_succ, Option.some.injEq, exists_eq_left', exists_eq_left, D.bl.injEq, D.int.injEq, D.str.injEq, D.lst.injEq, D.ref.injEq, if_true, if_false, Bool.true_eq_false, Bool.false_eq_true, startD, bodyEnds, Nat.reduceSub, Nat.reduceAdd, true_and, and_true]
    exact ⟨.tup ((lawS as).map actD), by simp only [d1, look, dTuple], dropR.self k⟩
end K33
namespace K33
open PySem PySem.Spec PyProof.Rows DL
open SX (S S_len S_cat S_inj S_tl)
def rowsD (as : List Act) : D := .tup (as.map actD)
theorem isi_acts {m : M} {C : Addr} {as : List Act} : dIsiO (JS (.inr C) [(C, true)]) m [actsD C as, .ref C] = some (.bl true) := by
  have h1 : tyD (look m (actsD C as)) = some (.inr C) := rfl
  have h2 : clD (.ref C) = some (.inr C) := rfl
  unfold dIsiO
  simp only [h1, h2]
  have : JS (.inr C) [(C, true)] (.inr C) (.inr C) = some true := by simp [JS, jbT]
  rw [this]; rfl
theorem eq_rows {xs ys : List Act} (hx : ∀ a ∈ xs, AOk a) (hy : ∀ a ∈ ys, AOk a) : dEqB (.tup (xs.map actD)) (.tup (ys.map actD)) = some (decide (xs = ys)) := by
  have d1 : dat 60 (.tup (xs.map actD)) = true := by simp only [dat]; exact acts_dat hx
  have d2 : dat 60 (.tup (ys.map actD)) = true := by simp only [dat]; exact acts_dat hy
  unfold dEqB
  simp only
  rw [if_pos ⟨d1, d2⟩]
  refine congrArg some ?_
  unfold eqvD
  simp only [toPd, PyData.eqv]
  exact eqv_acts xs ys
theorem ne_same {m : M} {xs : List Act} (hx : ∀ a ∈ xs, AOk a) : dNe m (.tup (xs.map actD)) (rowsD xs) = some (.bl false) := by
  unfold dNe rowsD
  show (dEqB (.tup (xs.map actD)) (.tup (xs.map actD))).map _ = _
  rw [eq_rows hx hx]; simp
theorem eq_same {m : M} {xs : List Act} (hx : ∀ a ∈ xs, AOk a) : dEq m (.tup (xs.map actD)) (rowsD xs) = some (.bl true) := by
  unfold dEq rowsD
  show (dEqB (.tup (xs.map actD)) (.tup (xs.map actD))).map _ = _
  rw [eq_rows hx hx]; simp
theorem ord_ok {as : List Act} (ok : ∀ a ∈ as, AOk a) : ∀ a ∈ ordA as, AOk a := fun a ha => ok a (ordA_mem.mp ha)
theorem no_within : ∀ {as : List Act}, fget ("within" : Str) nsA [.tup (as.map actD)] = none := fun {as} => by
  have : ¬ ("rows" : Str) = ("within" : Str) := by decide +kernel
  simp only [nsA, fget, if_neg this]
theorem right_ok {P : Program} {w : World} {m : M} {C : Addr} {as bs : List Act} {Q : DK} (hna : as.length ≤ 40) (hnb : bs.length ≤ 40) (oka : ∀ a ∈ as, AOk a) (okb : ∀ a ∈ bs, AOk a) (k : Q (.bl true) m) :
    sp_l_right P w C [.lst (as.map actD), .lst (bs.map actD)] m Q := by
  refine ⟨rfl, ?_⟩
  show r_l_right_20 P w C _ _ _
  simp only [r_l_right_20, r_l_right_19, tSq, DL.tIfS, tBinT, tBin, tV, tK, DL.tSet, tRt, tRtN, tAs, gSb, tFn, tAC, tA0, tDr, tApp, tExt, tPopA, tLstD, tTupD, tLstM, tCl, tMt, tPr, tNx, tSlD, tON, tOS, tIfD, DL.tAndT, DL.tOrT, DL.tNotT, tTru, tChainT, tNeg, tListM, List.map_cons, List.map_nil, List.length_cons, List.length_nil, List.replicate, List.cons_append, List.nil_append, List.getElem?_cons_zero, List.getElem?_cons_succ, List.set_cons_zero, List.set_cons_succ, Option.some.injEq, exists_eq_left', exists_eq_left, D.bl.injEq, D.int.injEq, D.str.injEq, D.lst.injEq, D.ref.injEq, if_true, if_false, Bool.true_eq_false, Bool.false_eq_true, startD, bodyEnds, Nat.reduceSub, Nat.reduceAdd, true_and, and_true, tCm]
  refine made_ok (by omega) oka (made_ok (by omega) okb ?_)
  have la := ordA_len as
  have lb := ordA_len bs
  have oX := ord_ok oka
  have oY := ord_ok okb
  have mX : ∀ x, x ∈ ordA as ↔ x ∈ as := fun x => ordA_mem
  have mY : ∀ x, x ∈ ordA bs ↔ x ∈ bs := fun x => ordA_mem
  simp only [r_l_right_18, tSq, DL.tIfS, tBinT, tBin, tV, tK, DL.tSet, tRt, tRtN, tAs, gSb, tFn, tAC, tA0, tDr, tApp, tExt, tPopA, tLstD, tTupD, tLstM, tCl, tMt, tPr, tNx, tSlD, tON, tOS, tIfD, DL.tAndT, DL.tOrT, DL.tNotT, tTru, tChainT, tNeg, tListM, List.map_cons, List.map_nil, List.length_cons, List.length_nil, List.replicate, List.cons_append, List.nil_append, List.getElem?_cons_zero, List.getElem?_cons_succ, List.set_cons_zero, List.set_cons_succ, Option.some.injEq, exists_eq_left', exists_eq_left, D.bl.injEq, D.int.injEq, D.str.injEq, D.lst.injEq, D.ref.injEq, if_true, if_false, Bool.true_eq_false, Bool.false_eq_true, startD, bodyEnds, Nat.reduceSub, Nat.reduceAdd, true_and, and_true]
  refine lc_pure (ds := as.map actD) (fun d => if (bs.map actD).any (fun y => eqvD y d) = true then some d else none) (fun R hR => ?_) (by rw [List.length_map]; exact smallLt (by omega)) (fun d m1 R hd hm hy hno => ?_) ?_
  · simp only [iSeq, dSeq, tSq, DL.tIfS, tBinT, tBin, tV, tK, DL.tSet, tRt, tRtN, tAs, gSb, tFn, tAC, tA0, tDr, tApp, tExt, tPopA, tLstD, tTupD, tLstM, tCl, tMt, tPr, tNx, tSlD, tON, tOS, tIfD, DL.tAndT, DL.tOrT, DL.tNotT, tTru, tChainT, tNeg, tListM, List.map_cons, List.map_nil, List.length_cons, List.length_nil, List.replicate, List.cons_append, List.nil_append, List.getElem?_cons_zero, List.getElem?_cons_succ, List.set_cons_zero, List.set_cons_succ, Option.some.injEq, exists_eq_left', exists_eq_left, D.bl.injEq, D.int.injEq, D.str.injEq, D.lst.injEq, D.ref.injEq, if_true, if_false, Bool.true_eq_false, Bool.false_eq_true, startD, bodyEnds, Nat.reduceSub, Nat.reduceAdd, true_and, and_true]
    exact hR
  · obtain ⟨a, ha, rfl⟩ := List.mem_map.mp hd
    simp only [tgD, gN, wipeD, r_l_right_1, r_l_right_2, tSq, DL.tIfS, tBinT, tBin, tV, tK, DL.tSet, tRt, tRtN, tAs, gSb, tFn, tAC, tA0, tDr, tApp, tExt, tPopA, tLstD, tTupD, tLstM, tCl, tMt, tPr, tNx, tSlD, tON, tOS, tIfD, DL.tAndT, DL.tOrT, DL.tNotT, tTru, tChainT, tNeg, tListM, List.map_cons, List.map_nil, List.length_cons, List.length_nil, List.replicate, List.cons_append, List.nil_append, List.getElem?_cons_zero, List.getElem?_cons_succ, List.set_cons_zero, List.set_cons_succ, Option.some.injEq, exists_eq_left', exists_eq_left, D.bl.injEq, D.int.injEq, D.str.injEq, D.lst.injEq, D.ref.injEq, if_true, if_false, Bool.true_eq_false, Bool.false_eq_true, startD, bodyEnds, Nat.reduceSub, Nat.reduceAdd, true_and, and_true]
    refine ⟨decide (a ∈ bs), by simp only [dIn, in_lst (oka a ha) okb, Option.map_some], ?_⟩
    have e := any_act a bs
    by_cases g : a ∈ bs
    · simp only [g, decide_true, if_true] at e ⊢
      exact hy _ (if_pos e)
    · simp only [g, decide_false, Bool.false_eq_true, if_false] at e ⊢
      exact hno (if_neg (by rw [e]; exact Bool.false_ne_true))
  rw [fm_in]
  simp only [r_l_right_17, tSq, DL.tIfS, tBinT, tBin, tV, tK, DL.tSet, tRt, tRtN, tAs, gSb, tFn, tAC, tA0, tDr, tApp, tExt, tPopA, tLstD, tTupD, tLstM, tCl, tMt, tPr, tNx, tSlD, tON, tOS, tIfD, DL.tAndT, DL.tOrT, DL.tNotT, tTru, tChainT, tNeg, tListM, List.map_cons, List.map_nil, List.length_cons, List.length_nil, List.replicate, List.cons_append, List.nil_append, List.getElem?_cons_zero, List.getElem?_cons_succ, List.set_cons_zero, List.set_cons_succ, Option.some.injEq, exists_eq_left', exists_eq_left, D.bl.injEq, D.int.injEq, D.str.injEq, D.lst.injEq, D.ref.injEq, if_true, if_false, Bool.true_eq_false, Bool.false_eq_true, startD, bodyEnds, Nat.reduceSub, Nat.reduceAdd, true_and, and_true]
  refine lc_pure (ds := as.map actD) (fun d => if (bs.map actD).any (fun y => eqvD y d) = true then none else some d) (fun R hR => ?_) (by rw [List.length_map]; exact smallLt (by omega)) (fun d m1 R hd hm hy hno => ?_) ?_
  · simp only [iSeq, dSeq, tSq, DL.tIfS, tBinT, tBin, tV, tK, DL.tSet, tRt, tRtN, tAs, gSb, tFn, tAC, tA0, tDr, tApp, tExt, tPopA, tLstD, tTupD, tLstM, tCl, tMt, tPr, tNx, tSlD, tON, tOS, tIfD, DL.tAndT, DL.tOrT, DL.tNotT, tTru, tChainT, tNeg, tListM, List.map_cons, List.map_nil, List.length_cons, List.length_nil, List.replicate, List.cons_append, List.nil_append, List.getElem?_cons_zero, List.getElem?_cons_succ, List.set_cons_zero, List.set_cons_succ, Option.some.injEq, exists_eq_left', exists_eq_left, D.bl.injEq, D.int.injEq, D.str.injEq, D.lst.injEq, D.ref.injEq, if_true, if_false, Bool.true_eq_false, Bool.false_eq_true, startD, bodyEnds, Nat.reduceSub, Nat.reduceAdd, true_and, and_true]
    exact hR
  · obtain ⟨a, ha, rfl⟩ := List.mem_map.mp hd
    simp only [tgD, gN, wipeD, r_l_right_3, r_l_right_4, tSq, DL.tIfS, tBinT, tBin, tV, tK, DL.tSet, tRt, tRtN, tAs, gSb, tFn, tAC, tA0, tDr, tApp, tExt, tPopA, tLstD, tTupD, tLstM, tCl, tMt, tPr, tNx, tSlD, tON, tOS, tIfD, DL.tAndT, DL.tOrT, DL.tNotT, tTru, tChainT, tNeg, tListM, List.map_cons, List.map_nil, List.length_cons, List.length_nil, List.replicate, List.cons_append, List.nil_append, List.getElem?_cons_zero, List.getElem?_cons_succ, List.set_cons_zero, List.set_cons_succ, Option.some.injEq, exists_eq_left', exists_eq_left, D.bl.injEq, D.int.injEq, D.str.injEq, D.lst.injEq, D.ref.injEq, if_true, if_false, Bool.true_eq_false, Bool.false_eq_true, startD, bodyEnds, Nat.reduceSub, Nat.reduceAdd, true_and, and_true]
    refine ⟨!decide (a ∈ bs), by simp only [dNotIn, in_lst (oka a ha) okb, Option.map_some], ?_⟩
    have e := any_act a bs
    by_cases g : a ∈ bs
    · simp only [g, decide_true, Bool.not_true, Bool.false_eq_true, if_false] at e ⊢
      exact hno (if_pos e)
    · simp only [g, decide_false, Bool.not_false, if_true] at e ⊢
      exact hy _ (if_neg (by rw [e]; exact Bool.false_ne_true))
  rw [fm_not]
  simp only [r_l_right_16, tSq, DL.tIfS, tBinT, tBin, tV, tK, DL.tSet, tRt, tRtN, tAs, gSb, tFn, tAC, tA0, tDr, tApp, tExt, tPopA, tLstD, tTupD, tLstM, tCl, tMt, tPr, tNx, tSlD, tON, tOS, tIfD, DL.tAndT, DL.tOrT, DL.tNotT, tTru, tChainT, tNeg, tListM, List.map_cons, List.map_nil, List.length_cons, List.length_nil, List.replicate, List.cons_append, List.nil_append, List.getElem?_cons_zero, List.getElem?_cons_succ, List.set_cons_zero, List.set_cons_succ, Option.some.injEq, exists_eq_left', exists_eq_left, D.bl.injEq, D.int.injEq, D.str.injEq, D.lst.injEq, D.ref.injEq, if_true, if_false, Bool.true_eq_false, Bool.false_eq_true, startD, bodyEnds, Nat.reduceSub, Nat.reduceAdd, true_and, and_true]
  refine lc_pure (ds := bs.map actD) (fun d => if (as.map actD).any (fun y => eqvD y d) = true then none else some d) (fun R hR => ?_) (by rw [List.length_map]; exact smallLt (by omega)) (fun d m1 R hd hm hy hno => ?_) ?_
  · simp only [iSeq, dSeq, tSq, DL.tIfS, tBinT, tBin, tV, tK, DL.tSet, tRt, tRtN, tAs, gSb, tFn, tAC, tA0, tDr, tApp, tExt, tPopA, tLstD, tTupD, tLstM, tCl, tMt, tPr, tNx, tSlD, tON, tOS, tIfD, DL.tAndT, DL.tOrT, DL.tNotT, tTru, tChainT, tNeg, tListM, List.map_cons, List.map_nil, List.length_cons, List.length_nil, List.replicate, List.cons_append, List.nil_append, List.getElem?_cons_zero, List.getElem?_cons_succ, List.set_cons_zero, List.set_cons_succ, Option.some.injEq, exists_eq_left', exists_eq_left, D.bl.injEq, D.int.injEq, D.str.injEq, D.lst.injEq, D.ref.injEq, if_true, if_false, Bool.true_eq_false, Bool.false_eq_true, startD, bodyEnds, Nat.reduceSub, Nat.reduceAdd, true_and, and_true]
    exact hR
  · obtain ⟨a, ha, rfl⟩ := List.mem_map.mp hd
    simp only [tgD, gN, wipeD, r_l_right_5, r_l_right_6, tSq, DL.tIfS, tBinT, tBin, tV, tK, DL.tSet, tRt, tRtN, tAs, gSb, tFn, tAC, tA0, tDr, tApp, tExt, tPopA, tLstD, tTupD, tLstM, tCl, tMt, tPr, tNx, tSlD, tON, tOS, tIfD, DL.tAndT, DL.tOrT, DL.tNotT, tTru, tChainT, tNeg, tListM, List.map_cons, List.map_nil, List.length_cons, List.length_nil, List.replicate, List.cons_append, List.nil_append, List.getElem?_cons_zero, List.getElem?_cons_succ, List.set_cons_zero, List.set_cons_succ, Option.some.injEq, exists_eq_left', exists_eq_left, D.bl.injEq, D.int.injEq, D.str.injEq, D.lst.injEq, D.ref.injEq, if_true, if_false, Bool.true_eq_false, Bool.false_eq_true, startD, bodyEnds, Nat.reduceSub, Nat.reduceAdd, true_and, and_true]
    refine ⟨!decide (a ∈ as), by simp only [dNotIn, in_lst (okb a ha) oka, Option.map_some], ?_⟩
    have e := any_act a as
    by_cases g : a ∈ as
    · simp only [g, decide_true, Bool.not_true, Bool.false_eq_true, if_false] at e ⊢
      exact hno (if_pos e)
    · simp only [g, decide_false, Bool.not_false, if_true] at e ⊢
      exact hy _ (if_neg (by rw [e]; exact Bool.false_ne_true))
  rw [fm_not]
  have lB := List.length_filter_le (fun a => decide (a ∈ bs)) as
  have lL := List.length_filter_le (fun a => decide (a ∉ bs)) as
  have lR := List.length_filter_le (fun a => decide (a ∉ as)) bs
  have mB : ∀ x, x ∈ as.filter (fun a => decide (a ∈ bs)) ↔ x ∈ as ∧ x ∈ bs := fun x => by rw [List.mem_filter, decide_eq_true_eq]
  have mL : ∀ x, x ∈ as.filter (fun a => decide (a ∉ bs)) ↔ x ∈ as ∧ x ∉ bs := fun x => by rw [List.mem_filter, decide_eq_true_eq]
  have mR : ∀ x, x ∈ bs.filter (fun a => decide (a ∉ as)) ↔ x ∈ bs ∧ x ∉ as := fun x => by rw [List.mem_filter, decide_eq_true_eq]
  generalize as.filter (fun a => decide (a ∈ bs)) = both at *
  generalize as.filter (fun a => decide (a ∉ bs)) = left at *
  generalize bs.filter (fun a => decide (a ∉ as)) = right at *
  have okB : ∀ a ∈ both, AOk a := fun a ha => oka a ((mB a).mp ha).1
  have okL : ∀ a ∈ left, AOk a := fun a ha => oka a ((mL a).mp ha).1
  have okR : ∀ a ∈ right, AOk a := fun a ha => okb a ((mR a).mp ha).1
  have okU : ∀ a ∈ as ++ bs, AOk a := fun a ha => (List.mem_append.mp ha).elim (oka a) (okb a)
  have okLR : ∀ a ∈ left ++ right, AOk a := fun a ha => (List.mem_append.mp ha).elim (okL a) (okR a)
  have E0 : ordA (ordA as ++ ordA bs) = ordA (as ++ bs) := (ordA_same okU fun x => by rw [List.mem_append, List.mem_append, mX, mY]).symm
  have E1 : ordA ((ordA as).filter fun a => decide (a ∈ ordA bs)) = ordA both := (ordA_same okB fun x => by rw [List.mem_filter, decide_eq_true_eq, mX, mY, mB]).symm
  have E2 : ordA ((ordA as).filter fun a => decide (a ∉ ordA bs)) = ordA left := (ordA_same okL fun x => by rw [List.mem_filter, decide_eq_true_eq, mX, mY, mL]).symm
  have E3 : ordA ((ordA bs).filter fun a => decide (a ∉ ordA as)) = ordA right := (ordA_same okR fun x => by rw [List.mem_filter, decide_eq_true_eq, mX, mY, mR]).symm
  have E4 : ordA (((ordA as).filter fun a => decide (a ∉ ordA bs)) ++ (ordA bs).filter fun a => decide (a ∉ ordA as)) = ordA (left ++ right) := (ordA_same okLR fun x => by rw [List.mem_append, List.mem_append, List.mem_filter, List.mem_filter, decide_eq_true_eq, decide_eq_true_eq, mX, mY, mL, mR]).symm
  simp only [r_l_right_15, tSq, DL.tIfS, tBinT, tBin, tV, tK, DL.tSet, tRt, tRtN, tAs, gSb, tFn, tAC, tA0, tDr, tApp, tExt, tPopA, tLstD, tTupD, tLstM, tCl, tMt, tPr, tNx, tSlD, tON, tOS, tIfD, DL.tAndT, DL.tOrT, DL.tNotT, tTru, tChainT, tNeg, tListM, List.map_cons, List.map_nil, List.length_cons, List.length_nil, List.replicate, List.cons_append, List.nil_append, List.getElem?_cons_zero, List.getElem?_cons_succ, List.set_cons_zero, List.set_cons_succ, Option.some.injEq, exists_eq_left', exists_eq_left, D.bl.injEq, D.int.injEq, D.str.injEq, D.lst.injEq, D.ref.injEq, if_true, if_false, Bool.true_eq_false, Bool.false_eq_true, startD, bodyEnds, Nat.reduceSub, Nat.reduceAdd, true_and, and_true, tBinO]
  refine ⟨⟨_, _, rfl⟩, ⟨_, _, rfl⟩, or_ok (by omega) oX oY ?_⟩
  refine ⟨⟨_, _, rfl⟩, ⟨_, _, rfl⟩, and_ok (by omega) oX oY ?_⟩
  refine ⟨⟨_, _, rfl⟩, ⟨_, _, rfl⟩, sub_ok (by omega) oX oY ?_⟩
  refine ⟨⟨_, _, rfl⟩, ⟨_, _, rfl⟩, sub_ok (by omega) oY oX ?_⟩
  refine ⟨⟨_, _, rfl⟩, ⟨_, _, rfl⟩, xor_ok (by omega) oX oY ⟨by decide, ?_⟩⟩
  rw [E0, E1, E2, E3, E4]
  simp only [r_l_right_14, tSq, DL.tIfS, tBinT, tBin, tV, tK, DL.tSet, tRt, tRtN, tAs, gSb, tFn, tAC, tA0, tDr, tApp, tExt, tPopA, tLstD, tTupD, tLstM, tCl, tMt, tPr, tNx, tSlD, tON, tOS, tIfD, DL.tAndT, DL.tOrT, DL.tNotT, tTru, tChainT, tNeg, tListM, List.map_cons, List.map_nil, List.length_cons, List.length_nil, List.replicate, List.cons_append, List.nil_append, List.getElem?_cons_zero, List.getElem?_cons_succ, List.set_cons_zero, List.set_cons_succ, Option.some.injEq, exists_eq_left', exists_eq_left, D.bl.injEq, D.int.injEq, D.str.injEq, D.lst.injEq, D.ref.injEq, if_true, if_false, Bool.true_eq_false, Bool.false_eq_true, startD, bodyEnds, Nat.reduceSub, Nat.reduceAdd, true_and, and_true]
  have plus : ∀ {xs ys : List Act} {m : M}, xs.length ≤ 40 → ys.length ≤ 40 → dAdd m (.lst (xs.map actD)) (.lst (ys.map actD)) = some (.lst ((xs ++ ys).map actD)) := fun {xs ys m} h1 h2 => by
    simp only [dAdd, look]
    rw [if_pos (small (by rw [List.length_map, List.length_map]; omega)), List.map_append]
  refine ⟨_, plus hna hnb, ?_⟩
  refine l_sorted_ok (by rw [List.length_append]; omega) okU ?_
  refine l_sorted_ok (by omega) okB ?_
  refine l_sorted_ok (by omega) okL ?_
  refine l_sorted_ok (by omega) okR ⟨by decide, fun q hq => ?_⟩
  simp only [r_l_right_13, tSq, DL.tIfS, tBinT, tBin, tV, tK, DL.tSet, tRt, tRtN, tAs, gSb, tFn, tAC, tA0, tDr, tApp, tExt, tPopA, tLstD, tTupD, tLstM, tCl, tMt, tPr, tNx, tSlD, tON, tOS, tIfD, DL.tAndT, DL.tOrT, DL.tNotT, tTru, tChainT, tNeg, tListM, List.map_cons, List.map_nil, List.length_cons, List.length_nil, List.replicate, List.cons_append, List.nil_append, List.getElem?_cons_zero, List.getElem?_cons_succ, List.set_cons_zero, List.set_cons_succ, Option.some.injEq, exists_eq_left', exists_eq_left, D.bl.injEq, D.int.injEq, D.str.injEq, D.lst.injEq, D.ref.injEq, if_true, if_false, Bool.true_eq_false, Bool.false_eq_true, startD, bodyEnds, Nat.reduceSub, Nat.reduceAdd, true_and, and_true]
  refine ⟨q, _, rfl, updM_same, _, plus (by omega) (by omega), ?_⟩
  refine l_sorted_ok (by rw [List.length_append]; omega) okLR ?_
  refine ⟨_, updM_same, by simp only [List.length_cons, List.length_nil]; exact smallLt (by decide), ?_⟩
  rw [updM_over]
  have okF : ∀ r ∈ [ordA (as ++ bs), ordA both, ordA left, ordA right, ordA (left ++ right)], ∀ a ∈ r, AOk a := by
    intro r hr
    simp only [List.mem_cons, List.not_mem_nil, or_false] at hr
    rcases hr with rfl | rfl | rfl | rfl | rfl
    · exact ord_ok okU
    · exact ord_ok okB
    · exact ord_ok okL
    · exact ord_ok okR
    · exact ord_ok okLR
  have lF : ∀ r ∈ [ordA (as ++ bs), ordA both, ordA left, ordA right, ordA (left ++ right)], r.length ≤ 100 := by
    intro r hr
    have l1 := ordA_len (as ++ bs)
    have l2 := ordA_len both
    have l3 := ordA_len left
    have l4 := ordA_len right
    have l5 := ordA_len (left ++ right)
    rw [List.length_append] at l1 l5
    simp only [List.mem_cons, List.not_mem_nil, or_false] at hr
    rcases hr with rfl | rfl | rfl | rfl | rfl <;> omega
  have fE : [actsD C (ordA (as ++ bs)), actsD C (ordA both), actsD C (ordA left), actsD C (ordA right), actsD C (ordA (left ++ right))] = [ordA (as ++ bs), ordA both, ordA left, ordA right, ordA (left ++ right)].map (actsD C) := rfl
  have dE : [D.tup (List.map actD (ordA (as ++ bs))), D.tup (List.map actD (ordA both)), D.tup (List.map actD (ordA left)), D.tup (List.map actD (ordA right))] ++ [D.tup (List.map actD (ordA (left ++ right)))] = [ordA (as ++ bs), ordA both, ordA left, ordA right, ordA (left ++ right)].map rowsD := rfl
  have fl : [ordA (as ++ bs), ordA both, ordA left, ordA right, ordA (left ++ right)].length = 5 := rfl
  rw [fE, dE]
  generalize [ordA (as ++ bs), ordA both, ordA left, ordA right, ordA (left ++ right)] = F at *
  have lq : look (updM m q (.lst (F.map rowsD))) (.ref q) = .lst (F.map rowsD) := by simp only [look, updM_same, Option.getD_some]
  simp only [r_l_right_12, tSq, DL.tIfS, tBinT, tBin, tV, tK, DL.tSet, tRt, tRtN, tAs, gSb, tFn, tAC, tA0, tDr, tApp, tExt, tPopA, tLstD, tTupD, tLstM, tCl, tMt, tPr, tNx, tSlD, tON, tOS, tIfD, DL.tAndT, DL.tOrT, DL.tNotT, tTru, tChainT, tNeg, tListM, List.map_cons, List.map_nil, List.length_cons, List.length_nil, List.replicate, List.cons_append, List.nil_append, List.getElem?_cons_zero, List.getElem?_cons_succ, List.set_cons_zero, List.set_cons_succ, Option.some.injEq, exists_eq_left', exists_eq_left, D.bl.injEq, D.int.injEq, D.str.injEq, D.lst.injEq, D.ref.injEq, if_true, if_false, Bool.true_eq_false, Bool.false_eq_true, startD, bodyEnds, Nat.reduceSub, Nat.reduceAdd, true_and, and_true, tFo, iRg]
  refine ⟨5, rfl, by decide, by decide, ?_⟩
  refine forD_inv (fun i env m' => ∃ e9, env = [some (.lst (as.map actD)), some (.lst (bs.map actD)), some (actsD C (ordA as)), some (actsD C (ordA bs)), some (.lst (both.map actD)), some (.lst (left.map actD)), some (.lst (right.map actD)), some (.lst (F.map (actsD C))), some (.ref q), e9, none] ∧ m' = updM m q (.lst (F.map rowsD))) ⟨none, rfl, rfl⟩ ?_ ?_
  · rintro i d env m' N hd ⟨e9, rfl, rfl⟩ hN
    have hi : i < 5 := by
      have := (List.getElem?_eq_some_iff.mp hd).1
      simpa [rngD] using this
    have hdi : d = .int i := by
      have := (List.getElem?_eq_some_iff.mp hd).2
      simpa [rngD] using this.symm
    subst hdi
    have hiF : i < F.length := by omega
    have hm := List.getElem_mem hiF
    have ix1 : dIx (updM m q (.lst (F.map rowsD))) (.lst (F.map (actsD C))) (.int i) = some (actsD C F[i]) := dIx_lst rfl rfl (atI_pos (by omega) (by rw [Int.toNat_natCast, List.getElem?_map, List.getElem?_eq_getElem hiF]; rfl))
    have ix2 : dIx (updM m q (.lst (F.map rowsD))) (.ref q) (.int i) = some (rowsD F[i]) := dIx_lst lq rfl (atI_pos (by omega) (by rw [Int.toNat_natCast, List.getElem?_map, List.getElem?_eq_getElem hiF]; rfl))
    simp only [tgD, gN, r_l_right_8, tSq, DL.tIfS, tBinT, tBin, tV, tK, DL.tSet, tRt, tRtN, tAs, gSb, tFn, tAC, tA0, tDr, tApp, tExt, tPopA, tLstD, tTupD, tLstM, tCl, tMt, tPr, tNx, tSlD, tON, tOS, tIfD, DL.tAndT, DL.tOrT, DL.tNotT, tTru, tChainT, tNeg, tListM, List.map_cons, List.map_nil, List.length_cons, List.length_nil, List.replicate, List.cons_append, List.nil_append, List.getElem?_cons_zero, List.getElem?_cons_succ, List.set_cons_zero, List.set_cons_succ, Option.some.injEq, exists_eq_left', exists_eq_left, D.bl.injEq, D.int.injEq, D.str.injEq, D.lst.injEq, D.ref.injEq, if_true, if_false, Bool.true_eq_false, Bool.false_eq_true, startD, bodyEnds, Nat.reduceSub, Nat.reduceAdd, true_and, and_true, ix1, ix2, isi_acts, dTru, look, Bool.not_true, tFl, tLenO]
    refine ⟨_, _, _, rfl, get_rows _, false, ne_same (okF _ hm), ?_⟩
    simp only [tSq, DL.tIfS, tBinT, tBin, tV, tK, DL.tSet, tRt, tRtN, tAs, gSb, tFn, tAC, tA0, tDr, tApp, tExt, tPopA, tLstD, tTupD, tLstM, tCl, tMt, tPr, tNx, tSlD, tON, tOS, tIfD, DL.tAndT, DL.tOrT, DL.tNotT, tTru, tChainT, tNeg, tListM, List.map_cons, List.map_nil, List.length_cons, List.length_nil, List.replicate, List.cons_append, List.nil_append, List.getElem?_cons_zero, List.getElem?_cons_succ, List.set_cons_zero, List.set_cons_succ, Option.some.injEq, exists_eq_left', exists_eq_left, D.bl.injEq, D.int.injEq, D.str.injEq, D.lst.injEq, D.ref.injEq, if_true, if_false, Bool.true_eq_false, Bool.false_eq_true, startD, bodyEnds, Nat.reduceSub, Nat.reduceAdd, true_and, and_true]
    refine ⟨⟨_, _, rfl⟩, len_ok ⟨_, rfl, by omega, by have := lF _ hm; omega, ?_⟩⟩
    refine ⟨_, ix2, .int (F[i].length), by simp only [d1, rowsD, look, dLen, List.length_map], false, by simp only [dNe, look, dEqB, Option.map_some, decide_true, Bool.not_true], ?_⟩
    simp only [tSq, DL.tIfS, tBinT, tBin, tV, tK, DL.tSet, tRt, tRtN, tAs, gSb, tFn, tAC, tA0, tDr, tApp, tExt, tPopA, tLstD, tTupD, tLstM, tCl, tMt, tPr, tNx, tSlD, tON, tOS, tIfD, DL.tAndT, DL.tOrT, DL.tNotT, tTru, tChainT, tNeg, tListM, List.map_cons, List.map_nil, List.length_cons, List.length_nil, List.replicate, List.cons_append, List.nil_append, List.getElem?_cons_zero, List.getElem?_cons_succ, List.set_cons_zero, List.set_cons_succ, Option.some.injEq, exists_eq_left', exists_eq_left, D.bl.injEq, D.int.injEq, D.str.injEq, D.lst.injEq, D.ref.injEq, if_true, if_false, Bool.true_eq_false, Bool.false_eq_true, startD, bodyEnds, Nat.reduceSub, Nat.reduceAdd, true_and, and_true]
    exact hN _ _ ⟨_, rfl, rfl⟩
  · rintro env m' ⟨e9, rfl, rfl⟩
    have wi : ∀ {xs ys : List Act} {zs : List Act}, (∀ x, x ∈ zs ↔ x ∈ xs ∧ x ∉ ys) → decide ((xs.all fun a => decide (a ∈ ys)) = true) = decide (zs.map actD = []) := fun {xs ys zs} h => by
      refine decide_eq_decide.mpr ?_
      rw [List.all_eq_true, List.map_eq_nil_iff]
      constructor
      · intro g
        refine List.eq_nil_iff_forall_not_mem.mpr fun x hx => ?_
        have := (h x).mp hx
        exact this.2 (of_decide_eq_true (g x this.1))
      · rintro rfl x hx
        refine decide_eq_true (Classical.byContradiction fun n => ?_)
        exact absurd ((h x).mpr ⟨hx, n⟩) (by simp)
    have nw : ("within" : Str) ∉ nsA := by decide +kernel
    simp only [r_l_right_11, tSq, DL.tIfS, tBinT, tBin, tV, tK, DL.tSet, tRt, tRtN, tAs, gSb, tFn, tAC, tA0, tDr, tApp, tExt, tPopA, tLstD, tTupD, tLstM, tCl, tMt, tPr, tNx, tSlD, tON, tOS, tIfD, DL.tAndT, DL.tOrT, DL.tNotT, tTru, tChainT, tNeg, tListM, List.map_cons, List.map_nil, List.length_cons, List.length_nil, List.replicate, List.cons_append, List.nil_append, List.getElem?_cons_zero, List.getElem?_cons_succ, List.set_cons_zero, List.set_cons_succ, Option.some.injEq, exists_eq_left', exists_eq_left, D.bl.injEq, D.int.injEq, D.str.injEq, D.lst.injEq, D.ref.injEq, if_true, if_false, Bool.true_eq_false, Bool.false_eq_true, startD, bodyEnds, Nat.reduceSub, Nat.reduceAdd, true_and, and_true, tMt]
    refine ⟨_, _, rfl, nw, within_ok (by omega) oX oY ?_⟩
    simp only [dIs, tSq, DL.tIfS, tBinT, tBin, tV, tK, DL.tSet, tRt, tRtN, tAs, gSb, tFn, tAC, tA0, tDr, tApp, tExt, tPopA, tLstD, tTupD, tLstM, tCl, tMt, tPr, tNx, tSlD, tON, tOS, tIfD, DL.tAndT, DL.tOrT, DL.tNotT, tTru, tChainT, tNeg, tListM, List.map_cons, List.map_nil, List.length_cons, List.length_nil, List.replicate, List.cons_append, List.nil_append, List.getElem?_cons_zero, List.getElem?_cons_succ, List.set_cons_zero, List.set_cons_succ, Option.some.injEq, exists_eq_left', exists_eq_left, D.bl.injEq, D.int.injEq, D.str.injEq, D.lst.injEq, D.ref.injEq, if_true, if_false, Bool.true_eq_false, Bool.false_eq_true, startD, bodyEnds, Nat.reduceSub, Nat.reduceAdd, true_and, and_true]
    refine ⟨by decide, _, by unfold dEq; simp only [look]; rw [dEqB_nil (acts_dat okL)]; rfl, false, ?_, ?_⟩
    · simp only [dNe, look, dEqB, Option.map_some]
      rw [wi fun x => by rw [mL, mX, mY]]
      simp
    simp only [tSq, DL.tIfS, tBinT, tBin, tV, tK, DL.tSet, tRt, tRtN, tAs, gSb, tFn, tAC, tA0, tDr, tApp, tExt, tPopA, tLstD, tTupD, tLstM, tCl, tMt, tPr, tNx, tSlD, tON, tOS, tIfD, DL.tAndT, DL.tOrT, DL.tNotT, tTru, tChainT, tNeg, tListM, List.map_cons, List.map_nil, List.length_cons, List.length_nil, List.replicate, List.cons_append, List.nil_append, List.getElem?_cons_zero, List.getElem?_cons_succ, List.set_cons_zero, List.set_cons_succ, Option.some.injEq, exists_eq_left', exists_eq_left, D.bl.injEq, D.int.injEq, D.str.injEq, D.lst.injEq, D.ref.injEq, if_true, if_false, Bool.true_eq_false, Bool.false_eq_true, startD, bodyEnds, Nat.reduceSub, Nat.reduceAdd, true_and, and_true]
    refine ⟨_, _, rfl, nw, within_ok (by omega) oY oX ?_⟩
    simp only [dIs, tSq, DL.tIfS, tBinT, tBin, tV, tK, DL.tSet, tRt, tRtN, tAs, gSb, tFn, tAC, tA0, tDr, tApp, tExt, tPopA, tLstD, tTupD, tLstM, tCl, tMt, tPr, tNx, tSlD, tON, tOS, tIfD, DL.tAndT, DL.tOrT, DL.tNotT, tTru, tChainT, tNeg, tListM, List.map_cons, List.map_nil, List.length_cons, List.length_nil, List.replicate, List.cons_append, List.nil_append, List.getElem?_cons_zero, List.getElem?_cons_succ, List.set_cons_zero, List.set_cons_succ, Option.some.injEq, exists_eq_left', exists_eq_left, D.bl.injEq, D.int.injEq, D.str.injEq, D.lst.injEq, D.ref.injEq, if_true, if_false, Bool.true_eq_false, Bool.false_eq_true, startD, bodyEnds, Nat.reduceSub, Nat.reduceAdd, true_and, and_true]
    refine ⟨by decide, _, by unfold dEq; simp only [look]; rw [dEqB_nil (acts_dat okR)]; rfl, false, ?_, ?_⟩
    · simp only [dNe, look, dEqB, Option.map_some]
      rw [wi fun x => by rw [mR, mX, mY]]
      simp
    simp only [tSq, DL.tIfS, tBinT, tBin, tV, tK, DL.tSet, tRt, tRtN, tAs, gSb, tFn, tAC, tA0, tDr, tApp, tExt, tPopA, tLstD, tTupD, tLstM, tCl, tMt, tPr, tNx, tSlD, tON, tOS, tIfD, DL.tAndT, DL.tOrT, DL.tNotT, tTru, tChainT, tNeg, tListM, List.map_cons, List.map_nil, List.length_cons, List.length_nil, List.replicate, List.cons_append, List.nil_append, List.getElem?_cons_zero, List.getElem?_cons_succ, List.set_cons_zero, List.set_cons_succ, Option.some.injEq, exists_eq_left', exists_eq_left, D.bl.injEq, D.int.injEq, D.str.injEq, D.lst.injEq, D.ref.injEq, if_true, if_false, Bool.true_eq_false, Bool.false_eq_true, startD, bodyEnds, Nat.reduceSub, Nat.reduceAdd, true_and, and_true]
    simp only [r_l_right_10, tSq, DL.tIfS, tBinT, tBin, tV, tK, DL.tSet, tRt, tRtN, tAs, gSb, tFn, tAC, tA0, tDr, tApp, tExt, tPopA, tLstD, tTupD, tLstM, tCl, tMt, tPr, tNx, tSlD, tON, tOS, tIfD, DL.tAndT, DL.tOrT, DL.tNotT, tTru, tChainT, tNeg, tListM, List.map_cons, List.map_nil, List.length_cons, List.length_nil, List.replicate, List.cons_append, List.nil_append, List.getElem?_cons_zero, List.getElem?_cons_succ, List.set_cons_zero, List.set_cons_succ, Option.some.injEq, exists_eq_left', exists_eq_left, D.bl.injEq, D.int.injEq, D.str.injEq, D.lst.injEq, D.ref.injEq, if_true, if_false, Bool.true_eq_false, Bool.false_eq_true, startD, bodyEnds, Nat.reduceSub, Nat.reduceAdd, true_and, and_true, tAndV, tFl]
    refine ⟨_, _, _, rfl, get_rows _, ?_⟩
    refine l_sorted_ok (by omega) oka ?_
    refine ⟨_, eq_same oX, true, rfl, ?_⟩
    simp only [if_true]
    refine ⟨_, _, _, rfl, get_rows _, ?_⟩
    refine l_sorted_ok (by omega) okb ?_
    refine ⟨_, eq_same oY, m, fun b => ?_, k⟩
    unfold updM
    by_cases e1 : b = q
    · right; subst e1; exact hq
    · left; rw [if_neg e1]
end K33
namespace K33
open PySem PySem.Spec PyProof.Rows DL
open SX (S S_len S_cat S_inj S_tl)
theorem acts_ok {m : M} {p : Addr} {l : D} {a : Int} {n : Nat} {os cs : List Str} {Q : DK} (hp : m p = some l) (hl : PenD l a) (ha : a + 60 < 1048576) (hn : n ≤ 16) (ho : os ≠ []) (hol : os.length ≤ 100) (hcl : cs.length ≤ 100) (oko : ∀ w ∈ os, WOk w) (okc : ∀ w ∈ cs, WOk w)
    (k : ∀ (as : List Act) (l' : D), as.length = n → (∀ x ∈ as, AOk x) → PenD l' (a + 3 * n) → Q (.lst (as.map actD)) (updM m p l')) : sp_l_acts [.ref p, .lst (os.map .str), .lst (cs.map .str), .int n] m Q := by
  have hpo : 0 < os.length := List.length_pos_iff.mpr ho
  refine ⟨rfl, ?_⟩
  show r_l_acts_6 _ _ _
  simp only [r_l_acts_6, r_l_acts_5, tSq, DL.tIfS, tBinT, tBin, tV, tK, DL.tSet, tRt, tRtN, tAs, gSb, tFn, tAC, tA0, tDr, tApp, tExt, tPopA, tLstD, tTupD, tLstM, tCl, tMt, tPr, tNx, tSlD, tON, tOS, tIfD, DL.tAndT, DL.tOrT, DL.tNotT, tTru, tChainT, tNeg, tListM, List.map_cons, List.map_nil, List.length_cons, List.length_nil, List.replicate, List.cons_append, List.nil_append, List.getElem?_cons_zero, List.getElem?_cons_succ, List.set_cons_zero, List.set_cons_succ, Option.some.injEq, exists_eq_left', exists_eq_left, D.bl.injEq, D.int.injEq, D.str.injEq, D.lst.injEq, D.ref.injEq, if_true, if_false, Bool.true_eq_false, Bool.false_eq_true, startD, bodyEnds, Nat.reduceSub, Nat.reduceAdd, true_and, and_true, tFo, iRg]
  refine ⟨by decide, fun q hq => ⟨n, rfl, by omega, by omega, ?_⟩⟩
  have pq : p ≠ q := by rintro rfl; rw [hp] at hq; cases hq
  have m_p : ∀ z b, updM (updM m p z) q b p = some z := fun z b => by rw [updM_ne pq, updM_same]
  have sw : ∀ z b z', updM (updM (updM m p z) q b) p z' = updM (updM m p z') q b := fun z b z' => by rw [updM_comm pq.symm, updM_over]
  have tn : (Int.toNat (n : Int)) = n := by omega
  refine forD_inv (fun i env m' => ∃ l' as e5 e6 e7, env = [some (.ref p), some (.lst (os.map .str)), some (.lst (cs.map .str)), some (.int n), some (.ref q), e5, e6, e7] ∧ m' = updM (updM m p l') q (.lst (as.map actD)) ∧ as.length = i ∧ (∀ x ∈ as, AOk x) ∧ PenD l' (a + 3 * i))
    ⟨l, [], none, none, none, rfl, by rw [updM_self hp]; rfl, rfl, by simp, by simpa using hl⟩ ?_ ?_
  · rintro i d env m' N hd ⟨l', as, e5, e6, e7, rfl, rfl, hlen, hok, hl'⟩ hN
    have hi : i < n := by
      have := (List.getElem?_eq_some_iff.mp hd).1
      simpa [rngD] using this
    simp only [tgD, gN, r_l_acts_3, tSq, DL.tIfS, tBinT, tBin, tV, tK, DL.tSet, tRt, tRtN, tAs, gSb, tFn, tAC, tA0, tDr, tApp, tExt, tPopA, tLstD, tTupD, tLstM, tCl, tMt, tPr, tNx, tSlD, tON, tOS, tIfD, DL.tAndT, DL.tOrT, DL.tNotT, tTru, tChainT, tNeg, tListM, List.map_cons, List.map_nil, List.length_cons, List.length_nil, List.replicate, List.cons_append, List.nil_append, List.getElem?_cons_zero, List.getElem?_cons_succ, List.set_cons_zero, List.set_cons_succ, Option.some.injEq, exists_eq_left', exists_eq_left, D.bl.injEq, D.int.injEq, D.str.injEq, D.lst.injEq, D.ref.injEq, if_true, if_false, Bool.true_eq_false, Bool.false_eq_true, startD, bodyEnds, Nat.reduceSub, Nat.reduceAdd, true_and, and_true]
    have plus : ∀ (x : D) {m : M}, dAdd m (.lst [x]) (.lst (cs.map .str)) = some (.lst (x :: cs.map .str)) := fun x {m} => by
      simp only [dAdd, look]
      rw [if_pos (small (by rw [List.length_map, List.length_singleton]; omega))]; rfl
    refine ⟨by decide, _, plus _, .int cs.length, by simp only [d1, look, dLen, List.length_map], .int (cs.length + 1), by simp only [dAdd, look], ?_⟩
    refine draw_ok (m_p _ _) hl' (by omega) (by omega) (by omega) fun v l1 v1 v2 h1 => ?_
    rw [sw]
    obtain ⟨x, ex, hx⟩ := mem_getElem? (xs := none :: cs.map some) v1 (by rw [List.length_cons, List.length_map]; omega)
    have eM : (D.non :: cs.map .str) = (none :: cs.map some).map hD := by
      rw [List.map_cons, List.map_map]; rfl
    have okx : ∀ s, x = some s → WOk s := by
      rintro s rfl
      rcases List.mem_cons.mp hx with h | h
      · cases h
      · obtain ⟨s', hs, e⟩ := List.mem_map.mp h
        cases e
        exact okc s hs
    refine ⟨hD x, dIx_lst rfl rfl (atI_pos v1 (by rw [eM, List.getElem?_map, ex]; rfl)), ?_⟩
    simp only [r_l_acts_2, tSq, DL.tIfS, tBinT, tBin, tV, tK, DL.tSet, tRt, tRtN, tAs, gSb, tFn, tAC, tA0, tDr, tApp, tExt, tPopA, tLstD, tTupD, tLstM, tCl, tMt, tPr, tNx, tSlD, tON, tOS, tIfD, DL.tAndT, DL.tOrT, DL.tNotT, tTru, tChainT, tNeg, tListM, List.map_cons, List.map_nil, List.length_cons, List.length_nil, List.replicate, List.cons_append, List.nil_append, List.getElem?_cons_zero, List.getElem?_cons_succ, List.set_cons_zero, List.set_cons_succ, Option.some.injEq, exists_eq_left', exists_eq_left, D.bl.injEq, D.int.injEq, D.str.injEq, D.lst.injEq, D.ref.injEq, if_true, if_false, Bool.true_eq_false, Bool.false_eq_true, startD, bodyEnds, Nat.reduceSub, Nat.reduceAdd, true_and, and_true]
    refine ⟨by decide, _, plus _, .int cs.length, by simp only [d1, look, dLen, List.length_map], .int (cs.length + 1), by simp only [dAdd, look], ?_⟩
    refine draw_ok (m_p _ _) h1 (by omega) (by omega) (by omega) fun v l2 v3 v4 h2 => ?_
    rw [sw]
    obtain ⟨y, ey, hy⟩ := mem_getElem? (xs := ("returns" : Str) :: cs) v3 (by rw [List.length_cons]; omega)
    have oky : WOk y ∨ y = "returns" := by
      rcases List.mem_cons.mp hy with h | h
      · exact .inr h
      · exact .inl (okc y h)
    refine ⟨.str y, dIx_lst rfl rfl (atI_pos v3 (by rw [show (D.str "returns" :: cs.map .str) = (("returns" : Str) :: cs).map .str from rfl, List.getElem?_map, ey]; rfl)), ?_⟩
    simp only [r_l_acts_1, tSq, DL.tIfS, tBinT, tBin, tV, tK, DL.tSet, tRt, tRtN, tAs, gSb, tFn, tAC, tA0, tDr, tApp, tExt, tPopA, tLstD, tTupD, tLstM, tCl, tMt, tPr, tNx, tSlD, tON, tOS, tIfD, DL.tAndT, DL.tOrT, DL.tNotT, tTru, tChainT, tNeg, tListM, List.map_cons, List.map_nil, List.length_cons, List.length_nil, List.replicate, List.cons_append, List.nil_append, List.getElem?_cons_zero, List.getElem?_cons_succ, List.set_cons_zero, List.set_cons_succ, Option.some.injEq, exists_eq_left', exists_eq_left, D.bl.injEq, D.int.injEq, D.str.injEq, D.lst.injEq, D.ref.injEq, if_true, if_false, Bool.true_eq_false, Bool.false_eq_true, startD, bodyEnds, Nat.reduceSub, Nat.reduceAdd, true_and, and_true]
    refine ⟨q, _, rfl, updM_same, .int os.length, by simp only [d1, look, dLen, List.length_map], ?_⟩
    refine draw_ok (m_p _ _) h2 (by omega) (by omega) (by omega) fun v l3 v5 v6 h3 => ?_
    rw [sw]
    obtain ⟨z, ez, hz⟩ := mem_getElem? (xs := os) v5 (by omega)
    refine ⟨.str z, dIx_lst rfl rfl (atI_pos v5 (by rw [List.getElem?_map, ez]; rfl)), by decide, as.map actD, updM_same, by rw [List.length_map]; exact smallLt (by omega), ?_⟩
    rw [updM_over]
    refine hN _ _ ⟨l3, as ++ [⟨z, x, y⟩], _, _, _, rfl, by rw [List.map_append]; rfl, by rw [List.length_append, hlen]; rfl, fun b hb => ?_, h3.mono (by omega)⟩
    rcases List.mem_append.mp hb with hb | hb
    · exact hok b hb
    · rw [List.mem_singleton] at hb; subst hb
      exact ⟨oko z hz, okx, oky⟩
  · rintro env m' ⟨l', as, e5, e6, e7, rfl, rfl, hlen, hok, hl'⟩
    have hz : (rngD 0 (Int.toNat n)).length = n := by simp [rngD]
    rw [hz] at hlen hl'
    simp only [r_l_acts_4, tSq, DL.tIfS, tBinT, tBin, tV, tK, DL.tSet, tRt, tRtN, tAs, gSb, tFn, tAC, tA0, tDr, tApp, tExt, tPopA, tLstD, tTupD, tLstM, tCl, tMt, tPr, tNx, tSlD, tON, tOS, tIfD, DL.tAndT, DL.tOrT, DL.tNotT, tTru, tChainT, tNeg, tListM, List.map_cons, List.map_nil, List.length_cons, List.length_nil, List.replicate, List.cons_append, List.nil_append, List.getElem?_cons_zero, List.getElem?_cons_succ, List.set_cons_zero, List.set_cons_succ, Option.some.injEq, exists_eq_left', exists_eq_left, D.bl.injEq, D.int.injEq, D.str.injEq, D.lst.injEq, D.ref.injEq, if_true, if_false, Bool.true_eq_false, Bool.false_eq_true, startD, bodyEnds, Nat.reduceSub, Nat.reduceAdd, true_and, and_true, tFrz]
    refine ⟨_, updM_same, updM m p l', fun b => ?_, k as l' hlen hok hl'⟩
    unfold delM updM
    by_cases b2 : b = q
    · right; subst b2; simp [pq.symm, hq]
    · left; simp [b2]
theorem many_of {xs : List Nat} {v : Int} {m : M} (h0 : 0 ≤ v) (h1 : v < xs.length) : ∃ n ∈ xs, dIx m (.lst (xs.map fun n : Nat => .int n)) (.int v) = some (.int n) := by
  obtain ⟨n, e, hn⟩ := mem_getElem? h0 h1
  exact ⟨n, hn, dIx_lst rfl rfl (atI_pos h0 (by rw [List.getElem?_map, e]; rfl))⟩
def pairD (r : List Act × List Act) : D := .tup [.lst (r.1.map actD), .lst (r.2.map actD)]
def okPair (r : List Act × List Act) : Prop := r.1.length ≤ 40 ∧ r.2.length ≤ 40 ∧ (∀ a ∈ r.1, AOk a) ∧ ∀ a ∈ r.2, AOk a
theorem pairs_ok {P : Program} {w : World} {C : Addr} {fs : List (List Act × List Act)} {E : DEnds} {e0 e1 e2 e3 e4 e5 e6 e7 : Option D} {m : M} (ok : ∀ r ∈ fs, okPair r) (k : ∀ e7, E.nx [e0, e1, e2, e3, e4, e5, e6, e7] m) :
    forD (.one 7) (r_law_3 P w C) E (fs.map pairD) [e0, e1, e2, e3, e4, e5, e6, e7] m := by
  refine forD_inv (fun i env m' => ∃ e7, env = [e0, e1, e2, e3, e4, e5, e6, e7] ∧ m' = m) ⟨e7, rfl, rfl⟩ ?_ ?_
  · rintro i d env m' N hd ⟨e7', rfl, rfl⟩ hN
    rw [List.getElem?_map] at hd
    obtain ⟨r, hr, rfl⟩ := Option.map_eq_some_iff.mp hd
    obtain ⟨h1, h2, h3, h4⟩ := ok r (List.mem_of_getElem? hr)
    simp only [tgD, gN, r_law_3, tSq, DL.tIfS, tBinT, tBin, tV, tK, DL.tSet, tRt, tRtN, tAs, gSb, tFn, tAC, tA0, tDr, tApp, tExt, tPopA, tLstD, tTupD, tLstM, tCl, tMt, tPr, tNx, tSlD, tON, tOS, tIfD, DL.tAndT, DL.tOrT, DL.tNotT, tTru, tChainT, tNeg, tListM, List.map_cons, List.map_nil, List.length_cons, List.length_nil, List.replicate, List.cons_append, List.nil_append, List.getElem?_cons_zero, List.getElem?_cons_succ, List.set_cons_zero, List.set_cons_succ, Option.some.injEq, exists_eq_left', exists_eq_left, D.bl.injEq, D.int.injEq, D.str.injEq, D.lst.injEq, D.ref.injEq, if_true, if_false, Bool.true_eq_false, Bool.false_eq_true, startD, bodyEnds, Nat.reduceSub, Nat.reduceAdd, true_and, and_true]
    refine ⟨_, tix0, _, tix1, right_ok h1 h2 h3 h4 ?_⟩
    simp only [look, dTru, tSq, DL.tIfS, tBinT, tBin, tV, tK, DL.tSet, tRt, tRtN, tAs, gSb, tFn, tAC, tA0, tDr, tApp, tExt, tPopA, tLstD, tTupD, tLstM, tCl, tMt, tPr, tNx, tSlD, tON, tOS, tIfD, DL.tAndT, DL.tOrT, DL.tNotT, tTru, tChainT, tNeg, tListM, List.map_cons, List.map_nil, List.length_cons, List.length_nil, List.replicate, List.cons_append, List.nil_append, List.getElem?_cons_zero, List.getElem?_cons_succ, List.set_cons_zero, List.set_cons_succ, Option.some.injEq, exists_eq_left', exists_eq_left, D.bl.injEq, D.int.injEq, D.str.injEq, D.lst.injEq, D.ref.injEq, if_true, if_false, Bool.true_eq_false, Bool.false_eq_true, startD, bodyEnds, Nat.reduceSub, Nat.reduceAdd, true_and, and_true, Bool.not_true]
    exact hN _ _ ⟨_, rfl, rfl⟩
  · rintro env m' ⟨e7, rfl, rfl⟩
    exact k e7
theorem tail_ok {P : Program} {w : World} {C : Addr} {as bs : List Act} {E : DEnds} {e0 e1 e2 e3 e4 e7 : Option D} {m : M} (la : as.length ≤ 40) (lb : bs.length ≤ 40) (oka : ∀ a ∈ as, AOk a) (okb : ∀ a ∈ bs, AOk a) (k : ∀ e7, E.nx [e0, e1, e2, e3, e4, some (.lst (as.map actD)), some (.lst (bs.map actD)), e7] m) :
    r_law_4 P w C [e0, e1, e2, e3, e4, some (.lst (as.map actD)), some (.lst (bs.map actD)), e7] m E := by
  simp only [r_law_4, tSq, DL.tIfS, tBinT, tBin, tV, tK, DL.tSet, tRt, tRtN, tAs, gSb, tFn, tAC, tA0, tDr, tApp, tExt, tPopA, tLstD, tTupD, tLstM, tCl, tMt, tPr, tNx, tSlD, tON, tOS, tIfD, DL.tAndT, DL.tOrT, DL.tNotT, tTru, tChainT, tNeg, tListM, List.map_cons, List.map_nil, List.length_cons, List.length_nil, List.replicate, List.cons_append, List.nil_append, List.getElem?_cons_zero, List.getElem?_cons_succ, List.set_cons_zero, List.set_cons_succ, Option.some.injEq, exists_eq_left', exists_eq_left, D.bl.injEq, D.int.injEq, D.str.injEq, D.lst.injEq, D.ref.injEq, if_true, if_false, Bool.true_eq_false, Bool.false_eq_true, startD, bodyEnds, Nat.reduceSub, Nat.reduceAdd, true_and, and_true, tFo, iSeq, d1, look, dList, dSeq]
  refine ⟨by decide, by decide, by decide, by decide, by decide, by decide, by decide, by decide, ?_⟩
  refine pairs_ok (fs := [(as, bs), (bs, as), (as, as), (as, []), ([], bs)]) ?_ k
  intro r hr
  simp only [List.mem_cons, List.not_mem_nil, or_false] at hr
  rcases hr with rfl | rfl | rfl | rfl | rfl
  · exact ⟨la, lb, oka, okb⟩
  · exact ⟨lb, la, okb, oka⟩
  · exact ⟨la, la, oka, oka⟩
  · exact ⟨la, by simp, oka, by simp⟩
  · exact ⟨by simp, lb, by simp, okb⟩
theorem law_ok {P : Program} {w : World} {m : M} {C : Addr} {ns : List Int} : sp_law P w C [.scr ns] m fun d _ => d = .bl true := by
  refine ⟨rfl, ?_⟩
  show r_law_12 P w C _ _ _
  simp only [r_law_12, tSq, DL.tIfS, tBinT, tBin, tV, tK, DL.tSet, tRt, tRtN, tAs, gSb, tFn, tAC, tA0, tDr, tApp, tExt, tPopA, tLstD, tTupD, tLstM, tCl, tMt, tPr, tNx, tSlD, tON, tOS, tIfD, DL.tAndT, DL.tOrT, DL.tNotT, tTru, tChainT, tNeg, tListM, List.map_cons, List.map_nil, List.length_cons, List.length_nil, List.replicate, List.cons_append, List.nil_append, List.getElem?_cons_zero, List.getElem?_cons_succ, List.set_cons_zero, List.set_cons_succ, Option.some.injEq, exists_eq_left', exists_eq_left, D.bl.injEq, D.int.injEq, D.str.injEq, D.lst.injEq, D.ref.injEq, if_true, if_false, Bool.true_eq_false, Bool.false_eq_true, startD, bodyEnds, Nat.reduceSub, Nat.reduceAdd, true_and, and_true]
  refine pen_ok fun p l hp hl => ?_
  simp only [r_law_11, tSq, DL.tIfS, tBinT, tBin, tV, tK, DL.tSet, tRt, tRtN, tAs, gSb, tFn, tAC, tA0, tDr, tApp, tExt, tPopA, tLstD, tTupD, tLstM, tCl, tMt, tPr, tNx, tSlD, tON, tOS, tIfD, DL.tAndT, DL.tOrT, DL.tNotT, tTru, tChainT, tNeg, tListM, List.map_cons, List.map_nil, List.length_cons, List.length_nil, List.replicate, List.cons_append, List.nil_append, List.getElem?_cons_zero, List.getElem?_cons_succ, List.set_cons_zero, List.set_cons_succ, Option.some.injEq, exists_eq_left', exists_eq_left, D.bl.injEq, D.int.injEq, D.str.injEq, D.lst.injEq, D.ref.injEq, if_true, if_false, Bool.true_eq_false, Bool.false_eq_true, startD, bodyEnds, Nat.reduceSub, Nat.reduceAdd, true_and, and_true, tFo, iRg]
  refine ⟨3, rfl, by decide, by decide, ?_⟩
  refine forD_inv (fun i env m' => ∃ l' e2 e3 e4 e5 e6 e7, env = [some (.scr ns), some (.ref p), e2, e3, e4, e5, e6, e7] ∧ m' = updM m p l' ∧ PenD l' (300 * i)) ⟨l, none, none, none, none, none, none, rfl, rfl, by simpa using hl⟩ ?_ ?_
  · rintro i d env m' N hd ⟨l0, e2, e3, e4, e5, e6, e7, rfl, rfl, h0⟩ hN
    have hi : i < 3 := by
      have := (List.getElem?_eq_some_iff.mp hd).1
      simpa [rngD] using this
    simp only [tgD, gN, r_law_9, tSq, DL.tIfS, tBinT, tBin, tV, tK, DL.tSet, tRt, tRtN, tAs, gSb, tFn, tAC, tA0, tDr, tApp, tExt, tPopA, tLstD, tTupD, tLstM, tCl, tMt, tPr, tNx, tSlD, tON, tOS, tIfD, DL.tAndT, DL.tOrT, DL.tNotT, tTru, tChainT, tNeg, tListM, List.map_cons, List.map_nil, List.length_cons, List.length_nil, List.replicate, List.cons_append, List.nil_append, List.getElem?_cons_zero, List.getElem?_cons_succ, List.set_cons_zero, List.set_cons_succ, Option.some.injEq, exists_eq_left', exists_eq_left, D.bl.injEq, D.int.injEq, D.str.injEq, D.lst.injEq, D.ref.injEq, if_true, if_false, Bool.true_eq_false, Bool.false_eq_true, startD, bodyEnds, Nat.reduceSub, Nat.reduceAdd, true_and, and_true]
    refine words_ok (n := 5) updM_same h0 (by omega) (by decide) fun ws l1 hw h1 => ?_
    rw [updM_over]
    simp only [r_law_8, tSq, DL.tIfS, tBinT, tBin, tV, tK, DL.tSet, tRt, tRtN, tAs, gSb, tFn, tAC, tA0, tDr, tApp, tExt, tPopA, tLstD, tTupD, tLstM, tCl, tMt, tPr, tNx, tSlD, tON, tOS, tIfD, DL.tAndT, DL.tOrT, DL.tNotT, tTru, tChainT, tNeg, tListM, List.map_cons, List.map_nil, List.length_cons, List.length_nil, List.replicate, List.cons_append, List.nil_append, List.getElem?_cons_zero, List.getElem?_cons_succ, List.set_cons_zero, List.set_cons_succ, Option.some.injEq, exists_eq_left', exists_eq_left, D.bl.injEq, D.int.injEq, D.str.injEq, D.lst.injEq, D.ref.injEq, if_true, if_false, Bool.true_eq_false, Bool.false_eq_true, startD, bodyEnds, Nat.reduceSub, Nat.reduceAdd, true_and, and_true]
    refine draw_ok updM_same h1 (by omega) (by decide) (by decide) fun v l2 v1 v2 h2 => ?_
    rw [updM_over]
    have ht : (ws.take 2).map D.str = (ws.map .str).take 2 := List.map_take
    have hdr : (ws.drop 2).map D.str = (ws.map .str).drop 2 := List.map_drop
    have s1 : ∀ {m : M}, dSl m (.lst (ws.map .str)) none (some 2) = some (.lst ((ws.take 2).map .str)) := fun {m} => by
      simp only [dSl, look]
      rw [cut_to (by decide), ht]; rfl
    have s2 : ∀ {m : M}, dSl m (.lst (ws.map .str)) (some 2) none = some (.lst ((ws.drop 2).map .str)) := fun {m} => by
      simp only [dSl, look]
      rw [cut_from (by decide), hdr]; rfl
    have wl := hw.len
    have t2 : (ws.take 2).length = 2 := by rw [List.length_take, wl]; rfl
    have tne : ws.take 2 ≠ [] := fun e => by rw [e] at t2; cases t2
    have dl : (ws.drop 2).length = 3 := by rw [List.length_drop, wl]
    have wo : ∀ w ∈ ws.take 2, WOk w := fun w h => word_wok (hw.wd w (List.mem_of_mem_take h))
    have wc : ∀ w ∈ ws.drop 2, WOk w := fun w h => word_wok (hw.wd w (List.mem_of_mem_drop h))
    simp only [r_law_7, tSq, DL.tIfS, tBinT, tBin, tV, tK, DL.tSet, tRt, tRtN, tAs, gSb, tFn, tAC, tA0, tDr, tApp, tExt, tPopA, tLstD, tTupD, tLstM, tCl, tMt, tPr, tNx, tSlD, tON, tOS, tIfD, DL.tAndT, DL.tOrT, DL.tNotT, tTru, tChainT, tNeg, tListM, List.map_cons, List.map_nil, List.length_cons, List.length_nil, List.replicate, List.cons_append, List.nil_append, List.getElem?_cons_zero, List.getElem?_cons_succ, List.set_cons_zero, List.set_cons_succ, Option.some.injEq, exists_eq_left', exists_eq_left, D.bl.injEq, D.int.injEq, D.str.injEq, D.lst.injEq, D.ref.injEq, if_true, if_false, Bool.true_eq_false, Bool.false_eq_true, startD, bodyEnds, Nat.reduceSub, Nat.reduceAdd, true_and, and_true]
    refine ⟨2, rfl, _, s1, 2, rfl, _, s2, by decide, ?_⟩
    refine draw_ok updM_same h2 (by omega) (by decide) (by decide) fun v3' l3 v3 v4 h3 => ?_
    rw [updM_over]
    obtain ⟨n, hn, en⟩ := many_of (xs := [0, 1, 4, 9, 16]) (m := updM m p l3) v3 (by simpa using v4)
    refine ⟨_, en, ?_⟩
    have n16 : n ≤ 16 := by simp at hn; omega
    refine acts_ok updM_same h3 (by omega) n16 tne (by omega) (by omega) wo wc fun as l4 al aok h4 => ?_
    rw [updM_over]
    simp only [r_law_6, tSq, DL.tIfS, tBinT, tBin, tV, tK, DL.tSet, tRt, tRtN, tAs, gSb, tFn, tAC, tA0, tDr, tApp, tExt, tPopA, tLstD, tTupD, tLstM, tCl, tMt, tPr, tNx, tSlD, tON, tOS, tIfD, DL.tAndT, DL.tOrT, DL.tNotT, tTru, tChainT, tNeg, tListM, List.map_cons, List.map_nil, List.length_cons, List.length_nil, List.replicate, List.cons_append, List.nil_append, List.getElem?_cons_zero, List.getElem?_cons_succ, List.set_cons_zero, List.set_cons_succ, Option.some.injEq, exists_eq_left', exists_eq_left, D.bl.injEq, D.int.injEq, D.str.injEq, D.lst.injEq, D.ref.injEq, if_true, if_false, Bool.true_eq_false, Bool.false_eq_true, startD, bodyEnds, Nat.reduceSub, Nat.reduceAdd, true_and, and_true]
    refine ⟨2, rfl, _, s1, 2, rfl, _, s2, by decide, ?_⟩
    refine draw_ok updM_same h4 (by omega) (by decide) (by decide) fun v5' l5 v5 v6 h5 => ?_
    rw [updM_over]
    obtain ⟨n', hn', en⟩ := many_of (xs := [0, 1, 3, 8, 16]) (m := updM m p l5) v5 (by simpa using v6)
    refine ⟨_, en, ?_⟩
    have n16' : n' ≤ 16 := by simp at hn'; omega
    refine acts_ok updM_same h5 (by omega) n16' tne (by omega) (by omega) wo wc fun bs l6 bl bok h6 => ?_
    rw [updM_over]
    simp only [r_law_5, tSq, DL.tIfS, tBinT, tBin, tV, tK, DL.tSet, tRt, tRtN, tAs, gSb, tFn, tAC, tA0, tDr, tApp, tExt, tPopA, tLstD, tTupD, tLstM, tCl, tMt, tPr, tNx, tSlD, tON, tOS, tIfD, DL.tAndT, DL.tOrT, DL.tNotT, tTru, tChainT, tNeg, tListM, List.map_cons, List.map_nil, List.length_cons, List.length_nil, List.replicate, List.cons_append, List.nil_append, List.getElem?_cons_zero, List.getElem?_cons_succ, List.set_cons_zero, List.set_cons_succ, Option.some.injEq, exists_eq_left', exists_eq_left, D.bl.injEq, D.int.injEq, D.str.injEq, D.lst.injEq, D.ref.injEq, if_true, if_false, Bool.true_eq_false, Bool.false_eq_true, startD, bodyEnds, Nat.reduceSub, Nat.reduceAdd, true_and, and_true]
    refine ⟨decide (v = 0), by simp only [dEq, dEqB, look, Option.map_some], ?_⟩
    by_cases g : v = 0
    · simp only [g, decide_true, if_true]
      simp only [r_law_1, tSq, DL.tIfS, tBinT, tBin, tV, tK, DL.tSet, tRt, tRtN, tAs, gSb, tFn, tAC, tA0, tDr, tApp, tExt, tPopA, tLstD, tTupD, tLstM, tCl, tMt, tPr, tNx, tSlD, tON, tOS, tIfD, DL.tAndT, DL.tOrT, DL.tNotT, tTru, tChainT, tNeg, tListM, List.map_cons, List.map_nil, List.length_cons, List.length_nil, List.replicate, List.cons_append, List.nil_append, List.getElem?_cons_zero, List.getElem?_cons_succ, List.set_cons_zero, List.set_cons_succ, Option.some.injEq, exists_eq_left', exists_eq_left, D.bl.injEq, D.int.injEq, D.str.injEq, D.lst.injEq, D.ref.injEq, if_true, if_false, Bool.true_eq_false, Bool.false_eq_true, startD, bodyEnds, Nat.reduceSub, Nat.reduceAdd, true_and, and_true]
      refine ⟨.lst ((bs ++ as).map actD), ?_, ?_⟩
      · simp only [dAdd, look]
        rw [if_pos (small (by rw [List.length_map, List.length_map]; omega)), List.map_append]
      · exact tail_ok (by omega) (by rw [List.length_append]; omega) aok (fun a ha => (List.mem_append.mp ha).elim (bok a) (aok a)) fun e7 => hN _ _ ⟨l6, _, _, _, _, _, _, rfl, rfl, h6.mono (by omega)⟩
    · simp only [g, decide_false, Bool.false_eq_true, if_false]
      exact tail_ok (by omega) (by omega) aok bok fun e7 => hN _ _ ⟨l6, _, _, _, _, _, _, rfl, rfl, h6.mono (by omega)⟩
  · rintro env m' ⟨l', e2, e3, e4, e5, e6, e7, rfl, rfl, _⟩
    simp only [r_law_10, tSq, DL.tIfS, tBinT, tBin, tV, tK, DL.tSet, tRt, tRtN, tAs, gSb, tFn, tAC, tA0, tDr, tApp, tExt, tPopA, tLstD, tTupD, tLstM, tCl, tMt, tPr, tNx, tSlD, tON, tOS, tIfD, DL.tAndT, DL.tOrT, DL.tNotT, tTru, tChainT, tNeg, tListM, List.map_cons, List.map_nil, List.length_cons, List.length_nil, List.replicate, List.cons_append, List.nil_append, List.getElem?_cons_zero, List.getElem?_cons_succ, List.set_cons_zero, List.set_cons_succ, Option.some.injEq, exists_eq_left', exists_eq_left, D.bl.injEq, D.int.injEq, D.str.injEq, D.lst.injEq, D.ref.injEq, if_true, if_false, Bool.true_eq_false, Bool.false_eq_true, startD, bodyEnds, Nat.reduceSub, Nat.reduceAdd, true_and, and_true]
    exact dropR.self rfl
end K33
namespace K33
open PySem PySem.Spec PyProof.Rows L2 DL
/-! ### the facts of the top that the walk asks for -/
set_option maxHeartbeats 4000000 in
theorem all_mk {l : PySem.W.OpenLaw} {w : World} {K : PySem.W.Frag} {h : Heap} {mg : Str → Option Value} {fa C_Acts : Addr} (X : K.In h) (G : h.Ns mainGlobals mg) (hfa : mg "law" = some (.ref fa))
    {t_LONGEST : Tok}
    {r_RESERVED : Addr} {dd_RESERVED : Option Addr} {it_RESERVED : Array Value} {n_RESERVED : Nat} {sl_RESERVED : Array (Option Value)}
    {t_LETTERS : Tok}
    {f_l_pen : Addr} {od_l_pen an_l_pen : Option Addr} {sl_l_pen : Array (Option Value)} {oc_l_pen kV_l_pen dc_l_pen pm_l_pen cd_l_pen ct_l_pen : Value}
    {f_l_draw : Addr} {od_l_draw an_l_draw : Option Addr} {sl_l_draw : Array (Option Value)} {oc_l_draw kV_l_draw dc_l_draw pm_l_draw cd_l_draw ct_l_draw : Value}
    {f_l_words : Addr} {od_l_words an_l_words : Option Addr} {sl_l_words : Array (Option Value)} {oc_l_words kV_l_words dc_l_words pm_l_words cd_l_words ct_l_words : Value}
    {f_l_acts : Addr} {od_l_acts an_l_acts : Option Addr} {sl_l_acts : Array (Option Value)} {oc_l_acts kV_l_acts dc_l_acts pm_l_acts cd_l_acts ct_l_acts : Value}
    {f_is_word : Addr} {od_is_word an_is_word : Option Addr} {sl_is_word : Array (Option Value)} {oc_is_word kV_is_word dc_is_word pm_is_word cd_is_word ct_is_word : Value}
    {f_is_act : Addr} {od_is_act an_is_act : Option Addr} {sl_is_act : Array (Option Value)} {oc_is_act kV_is_act dc_is_act pm_is_act cd_is_act ct_is_act : Value}
    {f_act_place : Addr} {od_act_place an_act_place : Option Addr} {sl_act_place : Array (Option Value)} {oc_act_place kV_act_place dc_act_place pm_act_place cd_act_place ct_act_place : Value}
    {f_Acts_init : Addr} {od_Acts_init an_Acts_init : Option Addr} {sl_Acts_init : Array (Option Value)} {oc_Acts_init kV_Acts_init dc_Acts_init pm_Acts_init cd_Acts_init ct_Acts_init : Value}
    {f_Acts_made : Addr} {od_Acts_made an_Acts_made : Option Addr} {sl_Acts_made : Array (Option Value)} {oc_Acts_made kV_Acts_made dc_Acts_made pm_Acts_made cd_Acts_made ct_Acts_made : Value}
    {p_Acts_made : Addr} {rest_Acts_made : List Value}
    {f_Acts_or : Addr} {od_Acts_or an_Acts_or : Option Addr} {sl_Acts_or : Array (Option Value)} {oc_Acts_or kV_Acts_or dc_Acts_or pm_Acts_or cd_Acts_or ct_Acts_or : Value}
    {f_Acts_and : Addr} {od_Acts_and an_Acts_and : Option Addr} {sl_Acts_and : Array (Option Value)} {oc_Acts_and kV_Acts_and dc_Acts_and pm_Acts_and cd_Acts_and ct_Acts_and : Value}
    {f_Acts_sub : Addr} {od_Acts_sub an_Acts_sub : Option Addr} {sl_Acts_sub : Array (Option Value)} {oc_Acts_sub kV_Acts_sub dc_Acts_sub pm_Acts_sub cd_Acts_sub ct_Acts_sub : Value}
    {f_Acts_xor : Addr} {od_Acts_xor an_Acts_xor : Option Addr} {sl_Acts_xor : Array (Option Value)} {oc_Acts_xor kV_Acts_xor dc_Acts_xor pm_Acts_xor cd_Acts_xor ct_Acts_xor : Value}
    {f_l_place : Addr} {od_l_place an_l_place : Option Addr} {sl_l_place : Array (Option Value)} {oc_l_place kV_l_place dc_l_place pm_l_place cd_l_place ct_l_place : Value}
    {f_l_sorted : Addr} {od_l_sorted an_l_sorted : Option Addr} {sl_l_sorted : Array (Option Value)} {oc_l_sorted kV_l_sorted dc_l_sorted pm_l_sorted cd_l_sorted ct_l_sorted : Value}
    {f_Acts_len : Addr} {od_Acts_len an_Acts_len : Option Addr} {sl_Acts_len : Array (Option Value)} {oc_Acts_len kV_Acts_len dc_Acts_len pm_Acts_len cd_Acts_len ct_Acts_len : Value}
    {f_Acts_within : Addr} {od_Acts_within an_Acts_within : Option Addr} {sl_Acts_within : Array (Option Value)} {oc_Acts_within kV_Acts_within dc_Acts_within pm_Acts_within cd_Acts_within ct_Acts_within : Value}
    {f_l_right : Addr} {od_l_right an_l_right : Option Addr} {sl_l_right : Array (Option Value)} {oc_l_right kV_l_right dc_l_right pm_l_right cd_l_right ct_l_right : Value}
    {f_law : Addr} {od_law an_law : Option Addr} {sl_law : Array (Option Value)} {oc_law kV_law dc_law pm_law cd_law ct_law : Value}
    (zz_list : PySem.W.nsIn K mainGlobals "list" = some none)
    (zz_int : PySem.W.nsIn K mainGlobals "int" = some none)
    (zz_len : PySem.W.nsIn K mainGlobals "len" = some none)
    (zz_abs : PySem.W.nsIn K mainGlobals "abs" = some none)
    (zz_range : PySem.W.nsIn K mainGlobals "range" = some none)
    (zz_str : PySem.W.nsIn K mainGlobals "str" = some none)
    (zz_isinstance : PySem.W.nsIn K mainGlobals "isinstance" = some none)
    (zz_all : PySem.W.nsIn K mainGlobals "all" = some none)
    (zz_tuple : PySem.W.nsIn K mainGlobals "tuple" = some none)
    (zz_sorted : PySem.W.nsIn K mainGlobals "sorted" = some none)
    (sf_Acts : PySem.W.selfFirst K C_Acts = true)
    (aC_Acts : PySem.W.nsIn K mainGlobals "Acts" = some (some (.ref C_Acts)))
    (pg_Acts : PySem.W.plainGet K C_Acts Str.empty = true)
    (hd_Acts : PySem.W.hasDictIn K C_Acts = true)
    (po_Acts : PySem.W.plainOver K C_Acts = true)
    (sa_Acts : PySem.W.findIn K (.ref C_Acts) "__setattr__" = some (some (.builtin "object.__setattr__")))
    (ha_Acts : PySem.W.findIn K (.ref C_Acts) "__class__" = some (some (.builtin "object.__class__")))
    (hn_ob : PySem.W.specialIn K (.builtin "object.__class__") "__get__" = some (some (.builtin "getset_descriptor.__get__")))
    (ht_ob : PySem.W.takesIn K (.builtin "object.__class__") = some true)
    (hm_Acts : PySem.W.mroIn K C_Acts (.type "object") = some true)
    (a_LONGEST : PySem.W.nsIn K mainGlobals "LONGEST" = some (some (.int 8 t_LONGEST)))
    (a_RESERVED : PySem.W.nsIn K mainGlobals "RESERVED" = some (some (.ref r_RESERVED)))
    (l_RESERVED : K.lookup r_RESERVED = some ⟨.type "tuple", dd_RESERVED, .seq it_RESERVED n_RESERVED, sl_RESERVED⟩)
    (hz_RESERVED : it_RESERVED.size ≤ sizeLine) (hv_RESERVED : StrVals c_RESERVED it_RESERVED.toList)
    (a_LETTERS : PySem.W.nsIn K mainGlobals "LETTERS" = some (some (.str "abcdefghijklmnopqrstuvwxyz" t_LETTERS)))
    (fn_Acts_rows : PySem.W.findIn K (.ref C_Acts) "rows" = some none)
    (at_l_pen : PySem.W.nsIn K mainGlobals "_law_pen" = some (some (.ref f_l_pen)))
    (lk_l_pen : K.lookup f_l_pen = some ⟨oc_l_pen, od_l_pen, .func (PySem.W.fnOf "_law_pen" "_law_pen" (defArgs s_l_pen) (defBody s_l_pen) (defScope s_l_pen) .none kV_l_pen dc_l_pen pm_l_pen an_l_pen cd_l_pen ct_l_pen), sl_l_pen⟩)
    (cd2_l_pen : PySem.W.codeIn K cd_l_pen "_law_pen" = true)
    (kp_l_pen : PySem.W.keepIn K (.ref f_l_pen) = true)
    (at_l_draw : PySem.W.nsIn K mainGlobals "_law_draw" = some (some (.ref f_l_draw)))
    (lk_l_draw : K.lookup f_l_draw = some ⟨oc_l_draw, od_l_draw, .func (PySem.W.fnOf "_law_draw" "_law_draw" (defArgs s_l_draw) (defBody s_l_draw) (defScope s_l_draw) .none kV_l_draw dc_l_draw pm_l_draw an_l_draw cd_l_draw ct_l_draw), sl_l_draw⟩)
    (cd2_l_draw : PySem.W.codeIn K cd_l_draw "_law_draw" = true)
    (kp_l_draw : PySem.W.keepIn K (.ref f_l_draw) = true)
    (at_l_words : PySem.W.nsIn K mainGlobals "_law_words" = some (some (.ref f_l_words)))
    (lk_l_words : K.lookup f_l_words = some ⟨oc_l_words, od_l_words, .func (PySem.W.fnOf "_law_words" "_law_words" (defArgs s_l_words) (defBody s_l_words) (defScope s_l_words) .none kV_l_words dc_l_words pm_l_words an_l_words cd_l_words ct_l_words), sl_l_words⟩)
    (cd2_l_words : PySem.W.codeIn K cd_l_words "_law_words" = true)
    (kp_l_words : PySem.W.keepIn K (.ref f_l_words) = true)
    (at_l_acts : PySem.W.nsIn K mainGlobals "_law_acts" = some (some (.ref f_l_acts)))
    (lk_l_acts : K.lookup f_l_acts = some ⟨oc_l_acts, od_l_acts, .func (PySem.W.fnOf "_law_acts" "_law_acts" (defArgs s_l_acts) (defBody s_l_acts) (defScope s_l_acts) .none kV_l_acts dc_l_acts pm_l_acts an_l_acts cd_l_acts ct_l_acts), sl_l_acts⟩)
    (cd2_l_acts : PySem.W.codeIn K cd_l_acts "_law_acts" = true)
    (kp_l_acts : PySem.W.keepIn K (.ref f_l_acts) = true)
    (at_is_word : PySem.W.nsIn K mainGlobals "is_word" = some (some (.ref f_is_word)))
    (lk_is_word : K.lookup f_is_word = some ⟨oc_is_word, od_is_word, .func (PySem.W.fnOf "is_word" "is_word" (defArgs s_is_word) (defBody s_is_word) (defScope s_is_word) .none kV_is_word dc_is_word pm_is_word an_is_word cd_is_word ct_is_word), sl_is_word⟩)
    (cd2_is_word : PySem.W.codeIn K cd_is_word "is_word" = true)
    (kp_is_word : PySem.W.keepIn K (.ref f_is_word) = true)
    (at_is_act : PySem.W.nsIn K mainGlobals "is_act" = some (some (.ref f_is_act)))
    (lk_is_act : K.lookup f_is_act = some ⟨oc_is_act, od_is_act, .func (PySem.W.fnOf "is_act" "is_act" (defArgs s_is_act) (defBody s_is_act) (defScope s_is_act) .none kV_is_act dc_is_act pm_is_act an_is_act cd_is_act ct_is_act), sl_is_act⟩)
    (cd2_is_act : PySem.W.codeIn K cd_is_act "is_act" = true)
    (kp_is_act : PySem.W.keepIn K (.ref f_is_act) = true)
    (at_act_place : PySem.W.nsIn K mainGlobals "act_place" = some (some (.ref f_act_place)))
    (lk_act_place : K.lookup f_act_place = some ⟨oc_act_place, od_act_place, .func (PySem.W.fnOf "act_place" "act_place" (defArgs s_act_place) (defBody s_act_place) (defScope s_act_place) .none kV_act_place dc_act_place pm_act_place an_act_place cd_act_place ct_act_place), sl_act_place⟩)
    (cd2_act_place : PySem.W.codeIn K cd_act_place "act_place" = true)
    (kp_act_place : PySem.W.keepIn K (.ref f_act_place) = true)
    (at_Acts_init : PySem.W.findIn K (.ref C_Acts) "__init__" = some (some (.ref f_Acts_init)))
    (fi_Acts_init : PySem.W.isFn K (.ref f_Acts_init) = true)
    (lk_Acts_init : K.lookup f_Acts_init = some ⟨oc_Acts_init, od_Acts_init, .func (PySem.W.fnOf "__init__" "Acts.__init__" (defArgs s_Acts_init) (defBody s_Acts_init) (defScope s_Acts_init) .none kV_Acts_init dc_Acts_init pm_Acts_init an_Acts_init cd_Acts_init ct_Acts_init), sl_Acts_init⟩)
    (cd2_Acts_init : PySem.W.codeIn K cd_Acts_init "Acts.__init__" = true)
    (kp_Acts_init : PySem.W.keepIn K (.ref f_Acts_init) = true)
    (mk2_Acts : PySem.W.makesIn K C_Acts = true)
    (kc_Acts : PySem.W.keepIn K (.ref C_Acts) = true)
    (rd_Acts : PySem.W.readsIn K C_Acts (.type "type") = true)
    (ga_Acts : PySem.W.specialIn K (.ref C_Acts) "__getattribute__" = some (some (.builtin "type.__getattribute__")))
    (at_Acts_made : PySem.W.findCls K (.ref C_Acts) (.type "type") "made" = some (.get (.builtin "classmethod.__get__") (.ref p_Acts_made) .none (.ref C_Acts)))
    (rc_Acts_made : PySem.W.recIn K p_Acts_made "classmethod" = some (.ref f_Acts_made :: rest_Acts_made))
    (fi_Acts_made : PySem.W.fnIn K f_Acts_made = true)
    (lk_Acts_made : K.lookup f_Acts_made = some ⟨oc_Acts_made, od_Acts_made, .func (PySem.W.fnOf "made" "Acts.made" (defArgs s_Acts_made) (defBody s_Acts_made) (defScope s_Acts_made) .none kV_Acts_made dc_Acts_made pm_Acts_made an_Acts_made cd_Acts_made ct_Acts_made), sl_Acts_made⟩)
    (cd2_Acts_made : PySem.W.codeIn K cd_Acts_made "Acts.made" = true)
    (kp_Acts_made : PySem.W.keepIn K (.ref f_Acts_made) = true)
    (at_Acts_or : PySem.W.findIn K (.ref C_Acts) "__or__" = some (some (.ref f_Acts_or)))
    (fi_Acts_or : PySem.W.isFn K (.ref f_Acts_or) = true)
    (lk_Acts_or : K.lookup f_Acts_or = some ⟨oc_Acts_or, od_Acts_or, .func (PySem.W.fnOf "__or__" "Acts.__or__" (defArgs s_Acts_or) (defBody s_Acts_or) (defScope s_Acts_or) .none kV_Acts_or dc_Acts_or pm_Acts_or an_Acts_or cd_Acts_or ct_Acts_or), sl_Acts_or⟩)
    (cd2_Acts_or : PySem.W.codeIn K cd_Acts_or "Acts.__or__" = true)
    (kp_Acts_or : PySem.W.keepIn K (.ref f_Acts_or) = true)
    (at_Acts_and : PySem.W.findIn K (.ref C_Acts) "__and__" = some (some (.ref f_Acts_and)))
    (fi_Acts_and : PySem.W.isFn K (.ref f_Acts_and) = true)
    (lk_Acts_and : K.lookup f_Acts_and = some ⟨oc_Acts_and, od_Acts_and, .func (PySem.W.fnOf "__and__" "Acts.__and__" (defArgs s_Acts_and) (defBody s_Acts_and) (defScope s_Acts_and) .none kV_Acts_and dc_Acts_and pm_Acts_and an_Acts_and cd_Acts_and ct_Acts_and), sl_Acts_and⟩)
    (cd2_Acts_and : PySem.W.codeIn K cd_Acts_and "Acts.__and__" = true)
    (kp_Acts_and : PySem.W.keepIn K (.ref f_Acts_and) = true)
    (at_Acts_sub : PySem.W.findIn K (.ref C_Acts) "__sub__" = some (some (.ref f_Acts_sub)))
    (fi_Acts_sub : PySem.W.isFn K (.ref f_Acts_sub) = true)
    (lk_Acts_sub : K.lookup f_Acts_sub = some ⟨oc_Acts_sub, od_Acts_sub, .func (PySem.W.fnOf "__sub__" "Acts.__sub__" (defArgs s_Acts_sub) (defBody s_Acts_sub) (defScope s_Acts_sub) .none kV_Acts_sub dc_Acts_sub pm_Acts_sub an_Acts_sub cd_Acts_sub ct_Acts_sub), sl_Acts_sub⟩)
    (cd2_Acts_sub : PySem.W.codeIn K cd_Acts_sub "Acts.__sub__" = true)
    (kp_Acts_sub : PySem.W.keepIn K (.ref f_Acts_sub) = true)
    (at_Acts_xor : PySem.W.findIn K (.ref C_Acts) "__xor__" = some (some (.ref f_Acts_xor)))
    (fi_Acts_xor : PySem.W.isFn K (.ref f_Acts_xor) = true)
    (lk_Acts_xor : K.lookup f_Acts_xor = some ⟨oc_Acts_xor, od_Acts_xor, .func (PySem.W.fnOf "__xor__" "Acts.__xor__" (defArgs s_Acts_xor) (defBody s_Acts_xor) (defScope s_Acts_xor) .none kV_Acts_xor dc_Acts_xor pm_Acts_xor an_Acts_xor cd_Acts_xor ct_Acts_xor), sl_Acts_xor⟩)
    (cd2_Acts_xor : PySem.W.codeIn K cd_Acts_xor "Acts.__xor__" = true)
    (kp_Acts_xor : PySem.W.keepIn K (.ref f_Acts_xor) = true)
    (at_l_place : PySem.W.nsIn K mainGlobals "_law_place" = some (some (.ref f_l_place)))
    (lk_l_place : K.lookup f_l_place = some ⟨oc_l_place, od_l_place, .func (PySem.W.fnOf "_law_place" "_law_place" (defArgs s_l_place) (defBody s_l_place) (defScope s_l_place) .none kV_l_place dc_l_place pm_l_place an_l_place cd_l_place ct_l_place), sl_l_place⟩)
    (cd2_l_place : PySem.W.codeIn K cd_l_place "_law_place" = true)
    (kp_l_place : PySem.W.keepIn K (.ref f_l_place) = true)
    (at_l_sorted : PySem.W.nsIn K mainGlobals "_law_sorted" = some (some (.ref f_l_sorted)))
    (lk_l_sorted : K.lookup f_l_sorted = some ⟨oc_l_sorted, od_l_sorted, .func (PySem.W.fnOf "_law_sorted" "_law_sorted" (defArgs s_l_sorted) (defBody s_l_sorted) (defScope s_l_sorted) .none kV_l_sorted dc_l_sorted pm_l_sorted an_l_sorted cd_l_sorted ct_l_sorted), sl_l_sorted⟩)
    (cd2_l_sorted : PySem.W.codeIn K cd_l_sorted "_law_sorted" = true)
    (kp_l_sorted : PySem.W.keepIn K (.ref f_l_sorted) = true)
    (at_Acts_len : PySem.W.findIn K (.ref C_Acts) "__len__" = some (some (.ref f_Acts_len)))
    (fi_Acts_len : PySem.W.isFn K (.ref f_Acts_len) = true)
    (lk_Acts_len : K.lookup f_Acts_len = some ⟨oc_Acts_len, od_Acts_len, .func (PySem.W.fnOf "__len__" "Acts.__len__" (defArgs s_Acts_len) (defBody s_Acts_len) (defScope s_Acts_len) .none kV_Acts_len dc_Acts_len pm_Acts_len an_Acts_len cd_Acts_len ct_Acts_len), sl_Acts_len⟩)
    (cd2_Acts_len : PySem.W.codeIn K cd_Acts_len "Acts.__len__" = true)
    (kp_Acts_len : PySem.W.keepIn K (.ref f_Acts_len) = true)
    (at_Acts_within : PySem.W.findIn K (.ref C_Acts) "within" = some (some (.ref f_Acts_within)))
    (fi_Acts_within : PySem.W.isFn K (.ref f_Acts_within) = true)
    (lk_Acts_within : K.lookup f_Acts_within = some ⟨oc_Acts_within, od_Acts_within, .func (PySem.W.fnOf "within" "Acts.within" (defArgs s_Acts_within) (defBody s_Acts_within) (defScope s_Acts_within) .none kV_Acts_within dc_Acts_within pm_Acts_within an_Acts_within cd_Acts_within ct_Acts_within), sl_Acts_within⟩)
    (cd2_Acts_within : PySem.W.codeIn K cd_Acts_within "Acts.within" = true)
    (kp_Acts_within : PySem.W.keepIn K (.ref f_Acts_within) = true)
    (at_l_right : PySem.W.nsIn K mainGlobals "_law_right" = some (some (.ref f_l_right)))
    (lk_l_right : K.lookup f_l_right = some ⟨oc_l_right, od_l_right, .func (PySem.W.fnOf "_law_right" "_law_right" (defArgs s_l_right) (defBody s_l_right) (defScope s_l_right) .none kV_l_right dc_l_right pm_l_right an_l_right cd_l_right ct_l_right), sl_l_right⟩)
    (cd2_l_right : PySem.W.codeIn K cd_l_right "_law_right" = true)
    (kp_l_right : PySem.W.keepIn K (.ref f_l_right) = true)
    (at_law : PySem.W.nsIn K mainGlobals "law" = some (some (.ref f_law)))
    (lk_law : K.lookup f_law = some ⟨oc_law, od_law, .func (PySem.W.fnOf "law" "law" (defArgs s_law) (defBody s_law) (defScope s_law) .none kV_law dc_law pm_law an_law cd_law ct_law), sl_law⟩)
    (cd2_law : PySem.W.codeIn K cd_law "law" = true)
    (kp_law : PySem.W.keepIn K (.ref f_law) = true)
    : ∀ base : Heap, K.In base → base.Ns mainGlobals mg → FnG l.prog w K mg base CX0 8 fa (liftSp K (fun ds m R => ∀ w : World, ∀ C_Acts : Addr, (sp_law l.prog w C_Acts) ds m R)) := by
  intro base _ _
  have z_list := PySem.W.mg_none_of X G zz_list
  have z_int := PySem.W.mg_none_of X G zz_int
  have z_len := PySem.W.mg_none_of X G zz_len
  have z_abs := PySem.W.mg_none_of X G zz_abs
  have z_range := PySem.W.mg_none_of X G zz_range
  have z_str := PySem.W.mg_none_of X G zz_str
  have z_isinstance := PySem.W.mg_none_of X G zz_isinstance
  have z_all := PySem.W.mg_none_of X G zz_all
  have z_tuple := PySem.W.mg_none_of X G zz_tuple
  have z_sorted := PySem.W.mg_none_of X G zz_sorted
  have mg_Acts := PySem.W.mg_of X G aC_Acts
  have g_Acts : GV K mg "Acts" (.ref C_Acts) := gv_ref mg_Acts
  have cl_Acts : Cls K C_Acts := ⟨pg_Acts, hd_Acts, po_Acts, sa_Acts⟩
  have js_Acts : JOk K (JS (.inr C_Acts) [(C_Acts, true)]) := js_ok (by
    intro e he
    simp only [List.mem_cons, List.not_mem_nil, or_false] at he
    rcases he with rfl
    · exact ⟨kit_self, ⟨cl_Acts, ha_Acts, hn_ob, ht_ob, hm_Acts⟩⟩)
  have g_LONGEST : GV K mg "LONGEST" (.int 8) := gv_int (PySem.W.mg_of X G a_LONGEST)
  have g_RESERVED : GV K mg "RESERVED" (.tup (c_RESERVED.map .str)) := gv_strs (PySem.W.mg_of X G a_RESERVED) l_RESERVED hz_RESERVED hv_RESERVED
  have g_LETTERS : GV K mg "LETTERS" (.str "abcdefghijklmnopqrstuvwxyz") := gv_str (PySem.W.mg_of X G a_LETTERS)
  have n_Acts_rows : NoAttr K C_Acts "rows" := fn_Acts_rows
  have F_l_pen := fun_mk (st := s_l_pen) lk_l_pen cd2_l_pen kp_l_pen
  have c_l_pen : CalW l.prog w K mg base "_law_pen" 1 sp_l_pen := ⟨_, PySem.W.mg_of X G at_l_pen, kp_l_pen, K33.f_l_pen (P := l.prog) (w := w) (base := base) z_list F_l_pen⟩
  have F_l_draw := fun_mk (st := s_l_draw) lk_l_draw cd2_l_draw kp_l_draw
  have c_l_draw : CalW l.prog w K mg base "_law_draw" 1 sp_l_draw := ⟨_, PySem.W.mg_of X G at_l_draw, kp_l_draw, K33.f_l_draw (P := l.prog) (w := w) (base := base) z_int z_len z_abs F_l_draw⟩
  have F_l_words := fun_mk (st := s_l_words) lk_l_words cd2_l_words kp_l_words
  have c_l_words : CalW l.prog w K mg base "_law_words" 2 sp_l_words := ⟨_, PySem.W.mg_of X G at_l_words, kp_l_words, K33.f_l_words (P := l.prog) (w := w) (base := base) c_l_draw z_range z_len F_l_words⟩
  have F_l_acts := fun_mk (st := s_l_acts) lk_l_acts cd2_l_acts kp_l_acts
  have c_l_acts : CalW l.prog w K mg base "_law_acts" 2 sp_l_acts := ⟨_, PySem.W.mg_of X G at_l_acts, kp_l_acts, K33.f_l_acts (P := l.prog) (w := w) (base := base) z_range c_l_draw z_len F_l_acts⟩
  have F_is_word := fun_mk (st := s_is_word) lk_is_word cd2_is_word kp_is_word
  have c_is_word : CalW l.prog w K mg base "is_word" 1 sp_is_word := ⟨_, PySem.W.mg_of X G at_is_word, kp_is_word, K33.f_is_word (P := l.prog) (w := w) (base := base) z_str z_isinstance z_len g_LONGEST g_RESERVED g_LETTERS z_all F_is_word⟩
  have F_is_act := fun_mk (st := s_is_act) lk_is_act cd2_is_act kp_is_act
  have c_is_act : CalW l.prog w K mg base "is_act" 2 sp_is_act := ⟨_, PySem.W.mg_of X G at_is_act, kp_is_act, K33.f_is_act (P := l.prog) (w := w) (base := base) z_tuple z_isinstance z_len c_is_word z_str F_is_act⟩
  have F_act_place := fun_mk (st := s_act_place) lk_act_place cd2_act_place kp_act_place
  have c_act_place : CalW l.prog w K mg base "act_place" 1 sp_act_place := ⟨_, PySem.W.mg_of X G at_act_place, kp_act_place, K33.f_act_place (P := l.prog) (w := w) (base := base)  F_act_place⟩
  have F_Acts_init := fun_mk (st := s_Acts_init) lk_Acts_init cd2_Acts_init kp_Acts_init
  have mk_Acts : CalCW l.prog w K mg base C_Acts 4 (sp_Acts_init l.prog w C_Acts) := ⟨_, ⟨mk2_Acts, at_Acts_init, fi_Acts_init, kc_Acts⟩, K33.f_Acts_init (P := l.prog) (w := w) (base := base) z_len z_range c_is_act cl_Acts c_act_place z_list z_sorted z_tuple n_Acts_rows F_Acts_init⟩
  have F_Acts_made := fun_mk (st := s_Acts_made) lk_Acts_made cd2_Acts_made kp_Acts_made
  have k_Acts_made : CalKW l.prog w K mg base C_Acts "made" 6 (sp_Acts_made l.prog w C_Acts) := ⟨_, _, _, ⟨rd_Acts, ga_Acts⟩, ⟨at_Acts_made, ⟨_, rc_Acts_made⟩, fi_Acts_made⟩, K33.f_Acts_made (P := l.prog) (w := w) (base := base) z_list mk_Acts F_Acts_made⟩
  have F_Acts_or := fun_mk (st := s_Acts_or) lk_Acts_or cd2_Acts_or kp_Acts_or
  have m_Acts___or__ : CalMW l.prog w K mg base C_Acts "__or__" 6 (sp_Acts_or l.prog w C_Acts) := ⟨_, ⟨at_Acts_or, fi_Acts_or, kp_Acts_or⟩, K33.f_Acts_or (P := l.prog) (w := w) (base := base) mk_Acts mg_Acts cl_Acts n_Acts_rows g_Acts F_Acts_or⟩
  have F_Acts_and := fun_mk (st := s_Acts_and) lk_Acts_and cd2_Acts_and kp_Acts_and
  have m_Acts___and__ : CalMW l.prog w K mg base C_Acts "__and__" 6 (sp_Acts_and l.prog w C_Acts) := ⟨_, ⟨at_Acts_and, fi_Acts_and, kp_Acts_and⟩, K33.f_Acts_and (P := l.prog) (w := w) (base := base) cl_Acts n_Acts_rows mk_Acts mg_Acts g_Acts F_Acts_and⟩
  have F_Acts_sub := fun_mk (st := s_Acts_sub) lk_Acts_sub cd2_Acts_sub kp_Acts_sub
  have m_Acts___sub__ : CalMW l.prog w K mg base C_Acts "__sub__" 6 (sp_Acts_sub l.prog w C_Acts) := ⟨_, ⟨at_Acts_sub, fi_Acts_sub, kp_Acts_sub⟩, K33.f_Acts_sub (P := l.prog) (w := w) (base := base) cl_Acts n_Acts_rows mk_Acts mg_Acts g_Acts F_Acts_sub⟩
  have F_Acts_xor := fun_mk (st := s_Acts_xor) lk_Acts_xor cd2_Acts_xor kp_Acts_xor
  have m_Acts___xor__ : CalMW l.prog w K mg base C_Acts "__xor__" 6 (sp_Acts_xor l.prog w C_Acts) := ⟨_, ⟨at_Acts_xor, fi_Acts_xor, kp_Acts_xor⟩, K33.f_Acts_xor (P := l.prog) (w := w) (base := base) cl_Acts n_Acts_rows mk_Acts mg_Acts g_Acts F_Acts_xor⟩
  have F_l_place := fun_mk (st := s_l_place) lk_l_place cd2_l_place kp_l_place
  have c_l_place : CalW l.prog w K mg base "_law_place" 1 sp_l_place := ⟨_, PySem.W.mg_of X G at_l_place, kp_l_place, K33.f_l_place (P := l.prog) (w := w) (base := base)  F_l_place⟩
  have F_l_sorted := fun_mk (st := s_l_sorted) lk_l_sorted cd2_l_sorted kp_l_sorted
  have c_l_sorted : CalW l.prog w K mg base "_law_sorted" 2 sp_l_sorted := ⟨_, PySem.W.mg_of X G at_l_sorted, kp_l_sorted, K33.f_l_sorted (P := l.prog) (w := w) (base := base) c_l_place z_len z_tuple F_l_sorted⟩
  have F_Acts_len := fun_mk (st := s_Acts_len) lk_Acts_len cd2_Acts_len kp_Acts_len
  have m_Acts___len__ : CalMW l.prog w K mg base C_Acts "__len__" 1 (sp_Acts_len C_Acts) := ⟨_, ⟨at_Acts_len, fi_Acts_len, kp_Acts_len⟩, K33.f_Acts_len (P := l.prog) (w := w) (base := base) cl_Acts n_Acts_rows z_len F_Acts_len⟩
  have F_Acts_within := fun_mk (st := s_Acts_within) lk_Acts_within cd2_Acts_within kp_Acts_within
  have m_Acts_within : CalMW l.prog w K mg base C_Acts "within" 1 (sp_Acts_within C_Acts) := ⟨_, ⟨at_Acts_within, fi_Acts_within, kp_Acts_within⟩, K33.f_Acts_within (P := l.prog) (w := w) (base := base) cl_Acts n_Acts_rows z_all F_Acts_within⟩
  have F_l_right := fun_mk (st := s_l_right) lk_l_right cd2_l_right kp_l_right
  have c_l_right : CalW l.prog w K mg base "_law_right" 7 (sp_l_right l.prog w C_Acts) := ⟨_, PySem.W.mg_of X G at_l_right, kp_l_right, K33.f_l_right (P := l.prog) (w := w) (base := base) k_Acts_made mg_Acts m_Acts___or__ sf_Acts m_Acts___and__ m_Acts___sub__ m_Acts___xor__ c_l_sorted z_range js_Acts g_Acts z_isinstance cl_Acts n_Acts_rows m_Acts___len__ z_len m_Acts_within F_l_right⟩
  have F_law := fun_mk (st := s_law) lk_law cd2_law kp_law
  have e := hfa.symm.trans (PySem.W.mg_of X G at_law)
  cases e
  exact FnG.imp (K33.f_law (P := l.prog) (w := w) (base := base) c_l_pen z_range c_l_words c_l_draw c_l_acts z_list c_l_right F_law) (liftSp_imp fun ds m R q => q w _)
end K33
open PySem PySem.W PyProof.Rows
set_option maxRecDepth 100000 in
set_option maxHeartbeats 0 in
theorem PySem.Challenge.cw_whatleaves_k33_acts_combined_holds : PySem.Challenge.rw_whatleaves_k33_acts_combined.Holds := by
  w_on; o_law; k_head; (case hw => w_witness2)
  k_fill
  refine DL.walk_ofG (l := PySem.Challenge.rw_whatleaves_k33_acts_combined) (n := 63) (k := 8) (sp := (fun ds m R => ∀ w : World, ∀ C_Acts : Addr, K33.sp_law PySem.Challenge.rw_whatleaves_k33_acts_combined.prog w C_Acts ds m R)) rfl (by decide) rfl ⟨rfl, by decide, by decide⟩ (fun w h Y => PySem.W.kIn_of Y) ?F (fun ns _ _ _ => K33.law_ok)
  case F =>
    intro w mg fa h KX G hmg
    refine' K33.all_mk KX G hmg ?zz_list ?zz_int ?zz_len ?zz_abs ?zz_range ?zz_str ?zz_isinstance ?zz_all ?zz_tuple ?zz_sorted ?sf_Acts ?aC_Acts ?pg_Acts ?hd_Acts ?po_Acts ?sa_Acts ?ha_Acts ?hn_ob ?ht_ob ?hm_Acts ?a_LONGEST ?a_RESERVED ?l_RESERVED ?hz_RESERVED ?hv_RESERVED ?a_LETTERS ?fn_Acts_rows ?at_l_pen ?lk_l_pen ?cd2_l_pen ?kp_l_pen ?at_l_draw ?lk_l_draw ?cd2_l_draw ?kp_l_draw ?at_l_words ?lk_l_words ?cd2_l_words ?kp_l_words ?at_l_acts ?lk_l_acts ?cd2_l_acts ?kp_l_acts ?at_is_word ?lk_is_word ?cd2_is_word ?kp_is_word ?at_is_act ?lk_is_act ?cd2_is_act ?kp_is_act ?at_act_place ?lk_act_place ?cd2_act_place ?kp_act_place ?at_Acts_init ?fi_Acts_init ?lk_Acts_init ?cd2_Acts_init ?kp_Acts_init ?mk2_Acts ?kc_Acts ?rd_Acts ?ga_Acts ?at_Acts_made ?rc_Acts_made ?fi_Acts_made ?lk_Acts_made ?cd2_Acts_made ?kp_Acts_made ?at_Acts_or ?fi_Acts_or ?lk_Acts_or ?cd2_Acts_or ?kp_Acts_or ?at_Acts_and ?fi_Acts_and ?lk_Acts_and ?cd2_Acts_and ?kp_Acts_and ?at_Acts_sub ?fi_Acts_sub ?lk_Acts_sub ?cd2_Acts_sub ?kp_Acts_sub ?at_Acts_xor ?fi_Acts_xor ?lk_Acts_xor ?cd2_Acts_xor ?kp_Acts_xor ?at_l_place ?lk_l_place ?cd2_l_place ?kp_l_place ?at_l_sorted ?lk_l_sorted ?cd2_l_sorted ?kp_l_sorted ?at_Acts_len ?fi_Acts_len ?lk_Acts_len ?cd2_Acts_len ?kp_Acts_len ?at_Acts_within ?fi_Acts_within ?lk_Acts_within ?cd2_Acts_within ?kp_Acts_within ?at_l_right ?lk_l_right ?cd2_l_right ?kp_l_right ?at_law ?lk_law ?cd2_law ?kp_law
    (case zz_list => k_is)
    (case zz_int => k_is)
    (case zz_len => k_is)
    (case zz_abs => k_is)
    (case zz_range => k_is)
    (case zz_str => k_is)
    (case zz_isinstance => k_is)
    (case zz_all => k_is)
    (case zz_tuple => k_is)
    (case zz_sorted => k_is)
    (case aC_Acts => k_is)
    (case pg_Acts => k_is)
    (case hd_Acts => k_is)
    (case po_Acts => k_is)
    (case sa_Acts => k_is)
    (case ha_Acts => k_is)
    (case hn_ob => k_is)
    (case ht_ob => k_is)
    (case hm_Acts => k_is)
    (case a_LONGEST => k_is)
    (case a_RESERVED => k_is)
    (case l_RESERVED => k_is)
    (case a_LETTERS => k_is)
    (case fn_Acts_rows => k_is)
    (case at_l_pen => k_is)
    (case lk_l_pen => k_is)
    (case cd2_l_pen => k_is)
    (case kp_l_pen => k_is)
    (case at_l_draw => k_is)
    (case lk_l_draw => k_is)
    (case cd2_l_draw => k_is)
    (case kp_l_draw => k_is)
    (case at_l_words => k_is)
    (case lk_l_words => k_is)
    (case cd2_l_words => k_is)
    (case kp_l_words => k_is)
    (case at_l_acts => k_is)
    (case lk_l_acts => k_is)
    (case cd2_l_acts => k_is)
    (case kp_l_acts => k_is)
    (case at_is_word => k_is)
    (case lk_is_word => k_is)
    (case cd2_is_word => k_is)
    (case kp_is_word => k_is)
    (case at_is_act => k_is)
    (case lk_is_act => k_is)
    (case cd2_is_act => k_is)
    (case kp_is_act => k_is)
    (case at_act_place => k_is)
    (case lk_act_place => k_is)
    (case cd2_act_place => k_is)
    (case kp_act_place => k_is)
    (case at_Acts_init => k_is)
    (case fi_Acts_init => k_is)
    (case lk_Acts_init => k_is)
    (case cd2_Acts_init => k_is)
    (case kp_Acts_init => k_is)
    (case mk2_Acts => k_is)
    (case kc_Acts => k_is)
    (case rd_Acts => k_is)
    (case ga_Acts => k_is)
    (case at_Acts_made => k_is)
    (case rc_Acts_made => k_is)
    (case fi_Acts_made => k_is)
    (case lk_Acts_made => k_is)
    (case cd2_Acts_made => k_is)
    (case kp_Acts_made => k_is)
    (case at_Acts_or => k_is)
    (case fi_Acts_or => k_is)
    (case lk_Acts_or => k_is)
    (case cd2_Acts_or => k_is)
    (case kp_Acts_or => k_is)
    (case at_Acts_and => k_is)
    (case fi_Acts_and => k_is)
    (case lk_Acts_and => k_is)
    (case cd2_Acts_and => k_is)
    (case kp_Acts_and => k_is)
    (case at_Acts_sub => k_is)
    (case fi_Acts_sub => k_is)
    (case lk_Acts_sub => k_is)
    (case cd2_Acts_sub => k_is)
    (case kp_Acts_sub => k_is)
    (case at_Acts_xor => k_is)
    (case fi_Acts_xor => k_is)
    (case lk_Acts_xor => k_is)
    (case cd2_Acts_xor => k_is)
    (case kp_Acts_xor => k_is)
    (case at_l_place => k_is)
    (case lk_l_place => k_is)
    (case cd2_l_place => k_is)
    (case kp_l_place => k_is)
    (case at_l_sorted => k_is)
    (case lk_l_sorted => k_is)
    (case cd2_l_sorted => k_is)
    (case kp_l_sorted => k_is)
    (case at_Acts_len => k_is)
    (case fi_Acts_len => k_is)
    (case lk_Acts_len => k_is)
    (case cd2_Acts_len => k_is)
    (case kp_Acts_len => k_is)
    (case at_Acts_within => k_is)
    (case fi_Acts_within => k_is)
    (case lk_Acts_within => k_is)
    (case cd2_Acts_within => k_is)
    (case kp_Acts_within => k_is)
    (case at_l_right => k_is)
    (case lk_l_right => k_is)
    (case cd2_l_right => k_is)
    (case kp_l_right => k_is)
    (case at_law => k_is)
    (case lk_law => k_is)
    (case cd2_law => k_is)
    (case kp_law => k_is)
    (case sf_Acts => first | rfl | decide +kernel)
    (case hz_RESERVED => decide); (case hv_RESERVED => repeat constructor)
