import PyProof.Rows.All
import Wide.All
import OpenK.AllK
import Wide.FinOn
import HandS.ForMost
import HandS.Wide
import HandS.IsInst
import HandS.Style
import HandS.Defaults
import HandS.Evl
import HandS.Walk
import HandS.Zip
import HandS.TupAny
import HandS.Lambda
import HandS.EndOwn
import HandS.ExcOwn
import HandS.WordsExc
import HandS.ExcIs
import HandS.ClsMeth
import HandS.RaiseMore
import HandS.TryMany
import HandS.Conv
import KE.KSortKey
import KE.SortKeyHeap
import KE.KDictPairs
import KE.KDictSum
import HandS.DictComp
import HandS.ExcValue
import HandS.Text
import KE.SortData
import PySem.Challenge.RW_handedpast_k24_orders_refused

set_option Elab.async false
set_option linter.all false
set_option maxRecDepth 100000
set_option maxHeartbeats 4000000
/-! Pw: pure data over the hand layer's readings: a def's body is walked over pure data, the heap is out of sight. -/
namespace Pw
open PySem L2

/-- data: what a value is, without addresses; adr: a thing that may change, by its address -/
inductive D where
  | non | bl (b : Bool) | int (i : Int) | str (x : Str)
  | tup (ds : List D) | lst (ds : List D)
  | ins (C : Addr) (fs : List (Str × D))
  | emp
  | scr (ns : List Int)
  | adr (a : Addr)
  | ty (n : String)
  | dct (kvs : List (Key × D)) | dtp (kvs : List (List Key × D))
  | exc (C : Addr) | exf (C : Addr) (fs : List (Str × D))

/-- a tuple of the written part -/
def KT (K : PySem.W.Frag) (a : Addr) (xs : List V) : Prop :=
  ∃ (o : Obj) (its : Array Value) (n : Nat), K.lookup a = some o ∧ o.cls = .type "tuple" ∧ o.data = .seq its n ∧ its.size ≤ sizeLine ∧ Vals xs its.toList

/-- a list of the written part -/
def KL (K : PySem.W.Frag) (a : Addr) (xs : List V) : Prop :=
  ∃ (o : Obj) (its : Array Value) (n : Nat), K.lookup a = some o ∧ o.cls = .type "list" ∧ o.dict = none ∧ o.data = .seq its n ∧ its.size ≤ sizeLine ∧ Vals xs its.toList

/-- a caught error of the class cls, its dict at d -/
def XcV (cls : Value) (d : Option Addr) (a : Addr) : HO := .ext fun h => ∃ (oe : Obj) (vs : Array Value), h.get? a = some oe ∧ Zc cls d oe ∧ oe.data = .fields vs
abbrev XcO (C : Addr) (d : Option Addr) (a : Addr) : HO := XcV (.ref C) d a

mutual
def Is (K : PySem.W.Frag) (Xs : List Addr) (H : Hp) : D → V → Prop
  | .non, v => v = .non
  | .bl b, v => v = .bl b
  | .int i, v => v = .int i
  | .str x, v => v = .str x
  | .tup ds, v => ∃ a xs, v = .ref a ∧ (H a = some (.tup xs) ∨ KT K a xs) ∧ IsL K Xs H ds xs
  | .lst ds, v => ∃ a xs, v = .ref a ∧ a ∉ Xs ∧ H a = some (.lst xs) ∧ IsL K Xs H ds xs
  | .ins C fs, v => ∃ a dx vs, v = .ref a ∧ a ∉ Xs ∧ H a = some (.ins C dx vs) ∧ IsF K Xs H fs vs
  | .emp, v => ∃ a, v = .ref a ∧ a ∉ Xs ∧ Rd H a (.dK [])
  | .scr ns, v => ∃ a, v = .ref a ∧ ((∃ o, H a = some (.frz o (.lst (ns.map V.int)))) ∨ KL K a (ns.map V.int) ∨ (a ∉ Xs ∧ H a = some (.lst (ns.map V.int))))
  | .adr a, v => v = .ref a
  | .ty n, v => v = .ty n
  | .dct kvs, v => ∃ a vs, v = .ref a ∧ a ∉ Xs ∧ Rd H a (.dK vs) ∧ IsK K Xs H kvs vs
  | .dtp kvs, v => ∃ a vs, v = .ref a ∧ a ∉ Xs ∧ H a = some (.dT vs) ∧ IsT K Xs H kvs vs
  | .exc C, v => ∃ a, v = .ref a ∧ a ∉ Xs ∧ H a = some (XcO C none a)
  | .exf C fs, v => ∃ a d vs, v = .ref a ∧ a ∉ Xs ∧ d ∉ Xs ∧ H a = some (XcO C (some d) a) ∧ H d = some (.xd vs) ∧ IsF K Xs H fs vs
def IsL (K : PySem.W.Frag) (Xs : List Addr) (H : Hp) : List D → List V → Prop
  | [], xs => xs = []
  | d :: ds, xs => ∃ x r, xs = x :: r ∧ Is K Xs H d x ∧ IsL K Xs H ds r
def IsF (K : PySem.W.Frag) (Xs : List Addr) (H : Hp) : List (Str × D) → List (Str × V) → Prop
  | [], xs => xs = []
  | (f, d) :: ds, xs => ∃ x r, xs = (f, x) :: r ∧ Is K Xs H d x ∧ IsF K Xs H ds r
def IsK (K : PySem.W.Frag) (Xs : List Addr) (H : Hp) : List (Key × D) → List (Key × V) → Prop
  | [], xs => xs = []
  | (f, d) :: ds, xs => ∃ x r, xs = (f, x) :: r ∧ Is K Xs H d x ∧ IsK K Xs H ds r
def IsT (K : PySem.W.Frag) (Xs : List Addr) (H : Hp) : List (List Key × D) → List (List Key × V) → Prop
  | [], xs => xs = []
  | (f, d) :: ds, xs => ∃ x r, xs = (f, x) :: r ∧ Is K Xs H d x ∧ IsT K Xs H ds r
end

/-- no table of code -/
def NT (o : HO) : Prop := ∀ ps, o ≠ .tbl ps
theorem nt_xc {c : Value} {d : Option Addr} {a : Addr} : NT (XcV c d a) := fun _ z => by unfold XcV at z; cases z
structure Goes (Xs : List Addr) (H H' : Hp) : Prop where
  keep : ∀ a o, a ∉ Xs → NT o → H a = some o → H' a = some o
  mu : ∀ a ∈ Xs, (∀ xs, H a ≠ some (.tup xs)) ∧ ∀ o u, H a ≠ some (.frz o u)

theorem Goes.tup {Xs : List Addr} {H H' : Hp} (g : Goes Xs H H') {a : Addr} {xs : List V} (h : H a = some (.tup xs)) : H' a = some (.tup xs) :=
  g.keep a _ (fun hm => (g.mu a hm).1 xs h) (by intro _ z; cases z) h
theorem Goes.frz {Xs : List Addr} {H H' : Hp} (g : Goes Xs H H') {a : Addr} {o : Obj} {u : HO} (h : H a = some (.frz o u)) : H' a = some (.frz o u) :=
  g.keep a _ (fun hm => (g.mu a hm).2 o u h) (by intro _ z; cases z) h
theorem no_tup {H : Hp} {a : Addr} (h : Mut (H a)) : (∀ xs, H a ≠ some (.tup xs)) ∧ ∀ o u, H a ≠ some (.frz o u) :=
  ⟨fun xs e => by rw [e] at h; exact h, fun o u e => by rw [e] at h; exact h⟩

mutual
theorem Is.goes {K : PySem.W.Frag} {Xs : List Addr} {H H' : Hp} (g : Goes Xs H H') : ∀ (d : D) (v : V), Is K Xs H d v → Is K Xs H' d v
  | .non, v, h => h
  | .bl b, v, h => h
  | .int i, v, h => h
  | .str x, v, h => h
  | .tup ds, v, h => by
    obtain ⟨a, xs, e, h1, h2⟩ := h
    refine ⟨a, xs, e, ?_, IsL.goes g ds xs h2⟩
    rcases h1 with h1 | h1
    · exact .inl (g.tup h1)
    · exact .inr h1
  | .lst ds, v, h => by
    obtain ⟨a, xs, e, hx, h1, h2⟩ := h
    exact ⟨a, xs, e, hx, g.keep a _ hx (by intro _ z; cases z) h1, IsL.goes g ds xs h2⟩
  | .ins C fs, v, h => by
    obtain ⟨a, dx, vs, e, hx, h1, h2⟩ := h
    exact ⟨a, dx, vs, e, hx, g.keep a _ hx (by intro _ z; cases z) h1, IsF.goes g fs vs h2⟩
  | .emp, v, h => by
    obtain ⟨a, e, hx, h1⟩ := h
    exact ⟨a, e, hx, h1.imp (g.keep a _ hx (by intro _ z; cases z)) (fun ⟨o, z⟩ => ⟨o, g.keep a _ hx (by intro _ z; cases z) z⟩)⟩
  | .scr ns, v, h => by
    obtain ⟨a, e, h1⟩ := h
    refine ⟨a, e, ?_⟩
    rcases h1 with ⟨o, h1⟩ | h1 | ⟨hx, h1⟩
    · exact .inl ⟨o, g.frz h1⟩
    · exact .inr (.inl h1)
    · exact .inr (.inr ⟨hx, g.keep a _ hx (by intro _ z; cases z) h1⟩)
  | .adr a, v, h => h
  | .ty n, v, h => h
  | .dct kvs, v, h => by
    obtain ⟨a, vs, e, hx, h1, h2⟩ := h
    exact ⟨a, vs, e, hx, h1.imp (g.keep a _ hx (by intro _ z; cases z)) (fun ⟨o, z⟩ => ⟨o, g.keep a _ hx (by intro _ z; cases z) z⟩), IsK.goes g kvs vs h2⟩
  | .dtp kvs, v, h => by
    obtain ⟨a, vs, e, hx, h1, h2⟩ := h
    exact ⟨a, vs, e, hx, g.keep a _ hx (by intro _ z; cases z) h1, IsT.goes g kvs vs h2⟩
  | .exc C, v, h => by
    obtain ⟨a, e, hx, h1⟩ := h
    exact ⟨a, e, hx, g.keep a _ hx nt_xc h1⟩
  | .exf C fs, v, h => by
    obtain ⟨a, d, vs, e, hx, hd, h1, h2, h3⟩ := h
    exact ⟨a, d, vs, e, hx, hd, g.keep a _ hx nt_xc h1, g.keep d _ hd (by intro _ z; cases z) h2, IsF.goes g fs vs h3⟩
theorem IsL.goes {K : PySem.W.Frag} {Xs : List Addr} {H H' : Hp} (g : Goes Xs H H') : ∀ (ds : List D) (vs : List V), IsL K Xs H ds vs → IsL K Xs H' ds vs
  | [], vs, h => h
  | d :: ds, vs, h => by
    obtain ⟨x, r, e, h1, h2⟩ := h
    exact ⟨x, r, e, Is.goes g d x h1, IsL.goes g ds r h2⟩
theorem IsF.goes {K : PySem.W.Frag} {Xs : List Addr} {H H' : Hp} (g : Goes Xs H H') : ∀ (ds : List (Str × D)) (vs : List (Str × V)), IsF K Xs H ds vs → IsF K Xs H' ds vs
  | [], vs, h => h
  | (f, d) :: ds, vs, h => by
    obtain ⟨x, r, e, h1, h2⟩ := h
    exact ⟨x, r, e, Is.goes g d x h1, IsF.goes g ds r h2⟩
theorem IsK.goes {K : PySem.W.Frag} {Xs : List Addr} {H H' : Hp} (g : Goes Xs H H') : ∀ (ds : List (Key × D)) (vs : List (Key × V)), IsK K Xs H ds vs → IsK K Xs H' ds vs
  | [], vs, h => h
  | (f, d) :: ds, vs, h => by
    obtain ⟨x, r, e, h1, h2⟩ := h
    exact ⟨x, r, e, Is.goes g d x h1, IsK.goes g ds r h2⟩
theorem IsT.goes {K : PySem.W.Frag} {Xs : List Addr} {H H' : Hp} (g : Goes Xs H H') : ∀ (ds : List (List Key × D)) (vs : List (List Key × V)), IsT K Xs H ds vs → IsT K Xs H' ds vs
  | [], vs, h => h
  | (f, d) :: ds, vs, h => by
    obtain ⟨x, r, e, h1, h2⟩ := h
    exact ⟨x, r, e, Is.goes g d x h1, IsT.goes g ds r h2⟩
end

mutual
/-- the addresses shut out: fewer, or more that are new -/
theorem Is.anti {K : PySem.W.Frag} {Xs Ys : List Addr} {H : Hp} (g : ∀ a, a ∉ Xs → (∃ o, NT o ∧ H a = some o) → a ∉ Ys) : ∀ (d : D) (v : V), Is K Xs H d v → Is K Ys H d v
  | .non, v, h => h
  | .bl b, v, h => h
  | .int i, v, h => h
  | .str x, v, h => h
  | .tup ds, v, h => by
    obtain ⟨a, xs, e, h1, h2⟩ := h
    exact ⟨a, xs, e, h1, IsL.anti g ds xs h2⟩
  | .lst ds, v, h => by
    obtain ⟨a, xs, e, hx, h1, h2⟩ := h
    exact ⟨a, xs, e, g a hx ⟨_, (by intro _ z; cases z), h1⟩, h1, IsL.anti g ds xs h2⟩
  | .ins C fs, v, h => by
    obtain ⟨a, dx, vs, e, hx, h1, h2⟩ := h
    exact ⟨a, dx, vs, e, g a hx ⟨_, (by intro _ z; cases z), h1⟩, h1, IsF.anti g fs vs h2⟩
  | .emp, v, h => by
    obtain ⟨a, e, hx, h1⟩ := h
    exact ⟨a, e, g a hx (h1.elim (fun z => ⟨_, (by intro _ y; cases y), z⟩) fun ⟨o, z⟩ => ⟨_, (by intro _ y; cases y), z⟩), h1⟩
  | .scr ns, v, h => by
    obtain ⟨a, e, h1⟩ := h
    refine ⟨a, e, ?_⟩
    rcases h1 with h1 | h1 | ⟨hx, h1⟩
    · exact .inl h1
    · exact .inr (.inl h1)
    · exact .inr (.inr ⟨g a hx ⟨_, (by intro _ z; cases z), h1⟩, h1⟩)
  | .adr a, v, h => h
  | .ty n, v, h => h
  | .dct kvs, v, h => by
    obtain ⟨a, vs, e, hx, h1, h2⟩ := h
    exact ⟨a, vs, e, g a hx (h1.elim (fun z => ⟨_, (by intro _ y; cases y), z⟩) fun ⟨o, z⟩ => ⟨_, (by intro _ y; cases y), z⟩), h1, IsK.anti g kvs vs h2⟩
  | .dtp kvs, v, h => by
    obtain ⟨a, vs, e, hx, h1, h2⟩ := h
    exact ⟨a, vs, e, g a hx ⟨_, (by intro _ z; cases z), h1⟩, h1, IsT.anti g kvs vs h2⟩
  | .exc C, v, h => by
    obtain ⟨a, e, hx, h1⟩ := h
    exact ⟨a, e, g a hx ⟨_, nt_xc, h1⟩, h1⟩
  | .exf C fs, v, h => by
    obtain ⟨a, d, vs, e, hx, hd, h1, h2, h3⟩ := h
    exact ⟨a, d, vs, e, g a hx ⟨_, nt_xc, h1⟩, g d hd ⟨_, (by intro _ z; cases z), h2⟩, h1, h2, IsF.anti g fs vs h3⟩
theorem IsL.anti {K : PySem.W.Frag} {Xs Ys : List Addr} {H : Hp} (g : ∀ a, a ∉ Xs → (∃ o, NT o ∧ H a = some o) → a ∉ Ys) : ∀ (ds : List D) (vs : List V), IsL K Xs H ds vs → IsL K Ys H ds vs
  | [], vs, h => h
  | d :: ds, vs, h => by
    obtain ⟨x, r, e, h1, h2⟩ := h
    exact ⟨x, r, e, Is.anti g d x h1, IsL.anti g ds r h2⟩
theorem IsF.anti {K : PySem.W.Frag} {Xs Ys : List Addr} {H : Hp} (g : ∀ a, a ∉ Xs → (∃ o, NT o ∧ H a = some o) → a ∉ Ys) : ∀ (ds : List (Str × D)) (vs : List (Str × V)), IsF K Xs H ds vs → IsF K Ys H ds vs
  | [], vs, h => h
  | (f, d) :: ds, vs, h => by
    obtain ⟨x, r, e, h1, h2⟩ := h
    exact ⟨x, r, e, Is.anti g d x h1, IsF.anti g ds r h2⟩
theorem IsK.anti {K : PySem.W.Frag} {Xs Ys : List Addr} {H : Hp} (g : ∀ a, a ∉ Xs → (∃ o, NT o ∧ H a = some o) → a ∉ Ys) : ∀ (ds : List (Key × D)) (vs : List (Key × V)), IsK K Xs H ds vs → IsK K Ys H ds vs
  | [], vs, h => h
  | (f, d) :: ds, vs, h => by
    obtain ⟨x, r, e, h1, h2⟩ := h
    exact ⟨x, r, e, Is.anti g d x h1, IsK.anti g ds r h2⟩
theorem IsT.anti {K : PySem.W.Frag} {Xs Ys : List Addr} {H : Hp} (g : ∀ a, a ∉ Xs → (∃ o, NT o ∧ H a = some o) → a ∉ Ys) : ∀ (ds : List (List Key × D)) (vs : List (List Key × V)), IsT K Xs H ds vs → IsT K Ys H ds vs
  | [], vs, h => h
  | (f, d) :: ds, vs, h => by
    obtain ⟨x, r, e, h1, h2⟩ := h
    exact ⟨x, r, e, Is.anti g d x h1, IsT.anti g ds r h2⟩
end

mutual
/-- data without lists, instances, dicts: told by any shut-out set -/
def Imm : D → Bool
  | .non => true | .bl _ => true | .int _ => true | .str _ => true
  | .tup ds => ImmL ds
  | .lst _ => false | .ins _ _ => false | .emp => false | .scr _ => false
  | .adr _ => true | .ty _ => true
  | .dct _ => false | .dtp _ => false | .exc _ => false | .exf _ _ => false
def ImmL : List D → Bool
  | [] => true
  | d :: ds => Imm d && ImmL ds
end
mutual
theorem Is.imm {K : PySem.W.Frag} {Xs Ys : List Addr} {H : Hp} : ∀ (d : D) (v : V), Imm d = true → Is K Xs H d v → Is K Ys H d v
  | .non, v, _, h => h
  | .bl b, v, _, h => h
  | .int i, v, _, h => h
  | .str x, v, _, h => h
  | .tup ds, v, i, h => by
    obtain ⟨a, xs, e, h1, h2⟩ := h
    exact ⟨a, xs, e, h1, IsL.imm ds xs i h2⟩
  | .lst ds, v, i, h => nomatch i
  | .ins C fs, v, i, h => nomatch i
  | .emp, v, i, h => nomatch i
  | .scr ns, v, i, h => nomatch i
  | .adr a, v, _, h => h
  | .ty n, v, _, h => h
  | .dct kvs, v, i, h => nomatch i
  | .dtp kvs, v, i, h => nomatch i
  | .exc C, v, i, h => nomatch i
  | .exf C fs, v, i, h => nomatch i
theorem IsL.imm {K : PySem.W.Frag} {Xs Ys : List Addr} {H : Hp} : ∀ (ds : List D) (vs : List V), ImmL ds = true → IsL K Xs H ds vs → IsL K Ys H ds vs
  | [], vs, _, h => h
  | d :: ds, vs, i, h => by
    obtain ⟨x, r, e, h1, h2⟩ := h
    have i' : (Imm d && ImmL ds) = true := i
    rw [Bool.and_eq_true] at i'
    exact ⟨x, r, e, Is.imm d x i'.1 h1, IsL.imm ds r i'.2 h2⟩
end

theorem IsL.length {K : PySem.W.Frag} {Xs : List Addr} {H : Hp} : ∀ {ds : List D} {vs : List V}, IsL K Xs H ds vs → vs.length = ds.length
  | [], vs, h => by
    have e : vs = [] := h
    rw [e]
    rfl
  | d :: ds, vs, h => by
    obtain ⟨x, r, e, h1, h2⟩ := h
    rw [e, List.length_cons, List.length_cons, IsL.length h2]
theorem IsL.get {K : PySem.W.Frag} {Xs : List Addr} {H : Hp} : ∀ {ds : List D} {vs : List V} {i : Nat} {d : D}, IsL K Xs H ds vs → ds[i]? = some d → ∃ v, vs[i]? = some v ∧ Is K Xs H d v
  | [], vs, i, d, h, e => by simp at e
  | d :: ds, vs, 0, d', h, e => by
    obtain ⟨x, r, e', h1, h2⟩ := h
    have : d = d' := by simpa using e
    subst this
    subst e'
    exact ⟨x, rfl, h1⟩
  | d :: ds, vs, i + 1, d', h, e => by
    obtain ⟨x, r, e', h1, h2⟩ := h
    subst e'
    obtain ⟨v, e1, e2⟩ := IsL.get h2 (show ds[i]? = some d' by simpa using e)
    exact ⟨v, by simpa using e1, e2⟩
theorem IsL.append {K : PySem.W.Frag} {Xs : List Addr} {H : Hp} : ∀ {ds es : List D} {vs ws : List V}, IsL K Xs H ds vs → IsL K Xs H es ws → IsL K Xs H (ds ++ es) (vs ++ ws)
  | [], es, vs, ws, h, h' => by
    have e : vs = [] := h
    subst e
    exact h'
  | d :: ds, es, vs, ws, h, h' => by
    obtain ⟨x, r, e, h1, h2⟩ := h
    subst e
    exact ⟨x, r ++ ws, rfl, h1, IsL.append h2 h'⟩
theorem IsL.set {K : PySem.W.Frag} {Xs : List Addr} {H : Hp} {d : D} {v : V} (hd : Is K Xs H d v) : ∀ {ds : List D} {vs : List V} (i : Nat), IsL K Xs H ds vs → IsL K Xs H (ds.set i d) (vs.set i v)
  | [], vs, i, h => by
    have e : vs = [] := h
    subst e
    exact rfl
  | d0 :: ds, vs, 0, h => by
    obtain ⟨x, r, e, h1, h2⟩ := h
    subst e
    exact ⟨v, r, rfl, hd, h2⟩
  | d0 :: ds, vs, i + 1, h => by
    obtain ⟨x, r, e, h1, h2⟩ := h
    subst e
    exact ⟨x, r.set i v, rfl, h1, IsL.set hd i h2⟩
theorem IsL.take {K : PySem.W.Frag} {Xs : List Addr} {H : Hp} : ∀ {ds : List D} {vs : List V} (i : Nat), IsL K Xs H ds vs → IsL K Xs H (ds.take i) (vs.take i)
  | ds, vs, 0, h => by
    rw [List.take_zero, List.take_zero]
    exact rfl
  | [], vs, i + 1, h => by
    have e : vs = [] := h
    subst e
    exact rfl
  | d0 :: ds, vs, i + 1, h => by
    obtain ⟨x, r, e, h1, h2⟩ := h
    subst e
    exact ⟨x, r.take i, rfl, h1, IsL.take i h2⟩
theorem IsL.drop {K : PySem.W.Frag} {Xs : List Addr} {H : Hp} : ∀ {ds : List D} {vs : List V} (i : Nat), IsL K Xs H ds vs → IsL K Xs H (ds.drop i) (vs.drop i)
  | ds, vs, 0, h => h
  | [], vs, i + 1, h => by
    have e : vs = [] := h
    subst e
    exact rfl
  | d0 :: ds, vs, i + 1, h => by
    obtain ⟨x, r, e, h1, h2⟩ := h
    subst e
    exact IsL.drop i h2
theorem IsL.none {K : PySem.W.Frag} {Xs : List Addr} {H : Hp} {ds : List D} {vs : List V} {i : Nat} (h : IsL K Xs H ds vs) (e : vs[i]? = none) : ds[i]? = none := by
  have hl := h.length
  rw [List.getElem?_eq_none_iff] at e ⊢
  omega
theorem IsL.snoc {K : PySem.W.Frag} {Xs : List Addr} {H : Hp} {ds : List D} {vs : List V} {d : D} {v : V} (h : IsL K Xs H ds vs) (h1 : Is K Xs H d v) : IsL K Xs H (ds ++ [d]) (vs ++ [v]) :=
  h.append ⟨v, [], rfl, h1, rfl⟩
theorem IsL.reverse {K : PySem.W.Frag} {Xs : List Addr} {H : Hp} : ∀ {ds : List D} {vs : List V}, IsL K Xs H ds vs → IsL K Xs H ds.reverse vs.reverse
  | [], vs, h => by
    have e : vs = [] := h
    subst e
    exact rfl
  | d0 :: ds, vs, h => by
    obtain ⟨x, r, e, h1, h2⟩ := h
    subst e
    rw [List.reverse_cons, List.reverse_cons]
    exact IsL.snoc (IsL.reverse h2) h1
theorem IsL.sqT {K : PySem.W.Frag} {H : Hp} {a : Addr} {xs : List V} (h : H a = some (.tup xs) ∨ KT K a xs) : SqT K H a xs := by
  rcases h with h | h
  · exact .inl (.inl h)
  · exact .inr h
theorem ints_is {K : PySem.W.Frag} {Xs : List Addr} {H : Hp} : ∀ ns : List Int, IsL K Xs H (ns.map D.int) (ns.map V.int)
  | [] => rfl
  | n :: r => ⟨.int n, r.map V.int, rfl, rfl, ints_is r⟩
end Pw

namespace Pw
open PySem L2

/-! ### what may change: the draw's dict, lists of one's own -/
structure Rs where
  own : List (Addr × D) := []
  drw : List (Addr × Addr × Addr × Nat) := []
  oth : List Addr := []
def drwA (l : List (Addr × Addr × Addr × Nat)) : List Addr := l.flatMap fun e => [e.1, e.2.1, e.2.2.1]
def adrs (s : Rs) : List Addr := s.own.map (·.1) ++ (drwA s.drw ++ s.oth)

/-! the names of the draw's fields, and what its items are (asm.py exchanges these three rows for the other kind of draw) -/
def kItems : Str := "cells"
def kLeft : Str := "rest"
def ItemOk (_ : Int) : Prop := True
def Drw (e : Addr × Addr × Addr × Nat) (H : Hp) : Prop :=
  ∃ (ls items : List Int) (l t : Int), H e.1 = some (.dK [(.inr "large", .ref e.2.1), (.inr kItems, .ref e.2.2.1), (.inr kLeft, .int l), (.inr "turn", .int t)]) ∧
    H e.2.1 = some (.lst (ls.map V.int)) ∧ H e.2.2.1 = some (.lst (items.map V.int)) ∧ (∀ x ∈ ls, 0 ≤ x) ∧ (∀ x ∈ items, ItemOk x) ∧ items.length ≤ 63 ∧ 0 ≤ l ∧ 0 ≤ t ∧ t + e.2.2.2 ≤ 2 ^ 40

/-- a thing of one's own, at a -/
def Ow (K : PySem.W.Frag) (Xs : List Addr) (H : Hp) (a : Addr) : D → Prop
  | .lst ds => ∃ xs, H a = some (.lst xs) ∧ IsL K Xs H ds xs
  | .dct kvs => ∃ vs, H a = some (.dK vs) ∧ IsK K Xs H kvs vs
  | .dtp kvs => ∃ vs, H a = some (.dT vs) ∧ IsT K Xs H kvs vs
  | .ins C fs => ∃ dx vs, H a = some (.ins C dx vs) ∧ IsF K Xs H fs vs
  | _ => False
theorem Ow.goes {K : PySem.W.Frag} {Xs : List Addr} {H H' : Hp} {a : Addr} {d : D} (g : Goes Xs H H') (k : ∀ o, NT o → H a = some o → H' a = some o) (h : Ow K Xs H a d) : Ow K Xs H' a d := by
  cases d with
  | lst ds => obtain ⟨xs, h1, h2⟩ := h; exact ⟨xs, k _ (by intro _ z; cases z) h1, IsL.goes g _ _ h2⟩
  | dct kvs => obtain ⟨vs, h1, h2⟩ := h; exact ⟨vs, k _ (by intro _ z; cases z) h1, IsK.goes g _ _ h2⟩
  | dtp kvs => obtain ⟨vs, h1, h2⟩ := h; exact ⟨vs, k _ (by intro _ z; cases z) h1, IsT.goes g _ _ h2⟩
  | ins C fs => obtain ⟨dx, vs, h1, h2⟩ := h; exact ⟨dx, vs, k _ (by intro _ z; cases z) h1, IsF.goes g _ _ h2⟩
  | _ => exact h.elim
theorem Ow.anti {K : PySem.W.Frag} {Xs Ys : List Addr} {H : Hp} {a : Addr} {d : D} (g : ∀ a, a ∉ Xs → (∃ o, NT o ∧ H a = some o) → a ∉ Ys) (h : Ow K Xs H a d) : Ow K Ys H a d := by
  cases d with
  | lst ds => obtain ⟨xs, h1, h2⟩ := h; exact ⟨xs, h1, IsL.anti g _ _ h2⟩
  | dct kvs => obtain ⟨vs, h1, h2⟩ := h; exact ⟨vs, h1, IsK.anti g _ _ h2⟩
  | dtp kvs => obtain ⟨vs, h1, h2⟩ := h; exact ⟨vs, h1, IsT.anti g _ _ h2⟩
  | ins C fs => obtain ⟨dx, vs, h1, h2⟩ := h; exact ⟨dx, vs, h1, IsF.anti g _ _ h2⟩
  | _ => exact h.elim
/-- an object that its owner may change -/
def Chg : HO → Prop
  | .lst _ => True | .dK _ => True | .dT _ => True | .ins _ _ _ => True
  | _ => False
theorem Chg.mut {o : HO} (h : Chg o) : Mut (some o) := by
  cases o <;> first | trivial | exact h.elim
theorem Ow.obj {K : PySem.W.Frag} {Xs : List Addr} {H : Hp} {a : Addr} {d : D} (h : Ow K Xs H a d) : ∃ o, H a = some o ∧ Chg o := by
  cases d with
  | lst ds => obtain ⟨xs, h1, h2⟩ := h; exact ⟨_, h1, trivial⟩
  | dct kvs => obtain ⟨vs, h1, h2⟩ := h; exact ⟨_, h1, trivial⟩
  | dtp kvs => obtain ⟨vs, h1, h2⟩ := h; exact ⟨_, h1, trivial⟩
  | ins C fs => obtain ⟨dx, vs, h1, h2⟩ := h; exact ⟨_, h1, trivial⟩
  | _ => exact h.elim
/-- seen as data by those who don't shut it out -/
theorem Ow.is {K : PySem.W.Frag} {Xs : List Addr} {H : Hp} {a : Addr} {d : D} (ha : a ∉ Xs) (h : Ow K Xs H a d) : Is K Xs H d (.ref a) := by
  cases d with
  | lst ds => obtain ⟨xs, h1, h2⟩ := h; exact ⟨a, xs, rfl, ha, h1, h2⟩
  | dct kvs => obtain ⟨vs, h1, h2⟩ := h; exact ⟨a, vs, rfl, ha, .inl h1, h2⟩
  | dtp kvs => obtain ⟨vs, h1, h2⟩ := h; exact ⟨a, vs, rfl, ha, h1, h2⟩
  | ins C fs => obtain ⟨dx, vs, h1, h2⟩ := h; exact ⟨a, dx, vs, rfl, ha, h1, h2⟩
  | _ => exact h.elim
theorem Chg.nt {o : HO} (h : Chg o) : NT o := fun ps z => by rw [z] at h; exact h
/-- nothing, or a table of code -/
def NTN (x : Option HO) : Prop := ∀ o, x = some o → ∃ ps, o = .tbl ps
theorem NTN.none {x : Option HO} (h : x = Option.none) : NTN x := fun o e => by rw [h] at e; cases e
theorem NTN.no {x : Option HO} {o : HO} (h : NTN x) (e : x = some o) (n : NT o) : False := by
  obtain ⟨ps, z⟩ := h o e
  exact n ps z
theorem NTN.tup {x : Option HO} (h : NTN x) : (∀ xs, x ≠ some (.tup xs)) ∧ ∀ o u, x ≠ some (.frz o u) :=
  ⟨fun xs e => h.no e (by intro _ z; cases z), fun o u e => h.no e (by intro _ z; cases z)⟩
theorem NTN.mut {x : Option HO} (h : NTN x) : ¬ Mut x := fun m => by
  cases x with
  | none => exact m
  | some o =>
    obtain ⟨ps, z⟩ := h o rfl
    rw [z] at m
    exact m
structure Rok (K : PySem.W.Frag) (s : Rs) (H : Hp) : Prop where
  mu : ∀ a ∈ adrs s, Mut (H a)
  nd : (adrs s).Nodup
  dr : ∀ e ∈ s.drw, Drw e H
  ow : ∀ e ∈ s.own, Ow K (adrs s) H e.1 e.2

theorem mem_drwA {l : List (Addr × Addr × Addr × Nat)} {e : Addr × Addr × Addr × Nat} (h : e ∈ l) : e.1 ∈ drwA l ∧ e.2.1 ∈ drwA l ∧ e.2.2.1 ∈ drwA l := by
  unfold drwA
  refine ⟨List.mem_flatMap.mpr ⟨e, h, ?_⟩, List.mem_flatMap.mpr ⟨e, h, ?_⟩, List.mem_flatMap.mpr ⟨e, h, ?_⟩⟩ <;> simp

theorem Mut.some {H : Hp} {a : Addr} (h : Mut (H a)) : ∃ o, H a = some o := by
  cases q : H a with
  | none => rw [q] at h; exact h.elim
  | some o => exact ⟨o, rfl⟩
theorem Mut.same {H H' : Hp} {a : Addr} (h : Mut (H a)) (e : Same H H') : Mut (H' a) := by
  obtain ⟨o, q⟩ := Mut.some h
  rw [e a o q, ← q]
  exact h
theorem Same.new {H : Hp} {p : Addr} {o : HO} (h : H p = none) : Same H (upd H p o) := fun a u e => by
  rw [upd_ne (ne_of_none e h)]
  exact e
theorem Rok.goes {K : PySem.W.Frag} {s : Rs} {H H' : Hp} (r : Rok K s H) (e : Same H H') : Goes (adrs s) H H' := ⟨fun a o _ _ h => e a o h, fun a ha => no_tup (r.mu a ha)⟩
theorem Drw.same {H H' : Hp} {e : Addr × Addr × Addr × Nat} (h : Drw e H) (q : Same H H') : Drw e H' := by
  obtain ⟨ls, items, l, t, h1, h2, h3, r⟩ := h
  exact ⟨ls, items, l, t, q _ _ h1, q _ _ h2, q _ _ h3, r⟩
theorem Rok.same {K : PySem.W.Frag} {s : Rs} {H H' : Hp} (r : Rok K s H) (e : Same H H') : Rok K s H' :=
  ⟨fun a h => Mut.same (r.mu a h) e, r.nd, fun d h => (r.dr d h).same e, fun d h => (r.ow d h).goes (r.goes e) fun o _ q => e _ _ q⟩

/-- tables of code are no lists, no dicts -/
theorem _root_.LamX.Tabs.upto {T : List (Addr × Str)} {H H' : Hp} (t : LamX.Tabs T H) (k : ∀ b o, H b = some o → ¬ Chg o → H' b = some o) : LamX.Tabs T H' := fun p hp => by
  obtain ⟨ps, h1, h2, h3⟩ := t p hp
  refine ⟨ps, k _ _ h1 (fun z => z), h2, fun pos cv hc => ?_⟩
  obtain ⟨c, e1, e2⟩ := h3 pos cv hc
  exact ⟨c, e1, k _ _ e2 (fun z => by unfold LamX.CodeO at z; exact z)⟩
/-- the tables of code, and none at the entry -/
structure TbO (T : List (Addr × Str)) (H0 H : Hp) : Prop where
  t : LamX.Tabs T H
  n : ∀ a ps, H0 a ≠ some (.tbl ps)
theorem TbO.ext {T : List (Addr × Str)} {H0 H H' : Hp} (o : TbO T H0 H) (e : ∀ b o, H b = some o → H' b = some o) : TbO T H0 H' := ⟨o.t.ext e, o.n⟩
theorem TbO.upto {T : List (Addr × Str)} {H0 H H' : Hp} (o : TbO T H0 H) (k : ∀ b o, H b = some o → ¬ Chg o → H' b = some o) : TbO T H0 H' := ⟨o.t.upto k, o.n⟩
theorem TbO.nt {T : List (Addr × Str)} {H0 H : Hp} (o : TbO T H0 H) {a : Addr} {u : HO} (e : H0 a = some u) : NT u := fun ps z => o.n a ps (by rw [e, z])
abbrev En := List (Option D)
structure Wd where
  K : PySem.W.Frag
  H0 : Hp
  X0 : List Addr
  X1 : List Addr
  tm : List (D × V) := []
  tb : List (Addr × Str) := []

structure Ok (W : Wd) (σ : L2.St) (H : Hp) (ρ : En) (s : Rs) : Prop where
  rk : Rok W.K s H
  fr : ∀ a o, a ∉ W.X0 → W.H0 a = some o → H a = some o
  sub : ∀ a ∈ W.X1, a ∈ adrs s
  dx : ∀ e ∈ s.drw, ∀ a ∈ [e.1, e.2.1], a ∈ W.X0 ∨ W.H0 a = none
  ox : ∀ e ∈ s.own, e.1 ∉ W.X1 ∧ (e.1 ∈ W.X0 ∨ W.H0 e.1 = none)
  tms : ∀ e ∈ W.tm, Is W.K (adrs s) H e.1 e.2
  tbs : TbO W.tb W.H0 H
  len : σ.length = ρ.length
  sl : ∀ (i : Nat) d, ρ[i]? = some (some d) → ∃ v, σ[i]? = some (some v) ∧ Is W.K (adrs s) H d v

/-- from s, H to s', H': what the one does not hold as changeable is kept, what the other holds besides is new -/
structure Pres (K : PySem.W.Frag) (s : Rs) (H : Hp) (s' : Rs) (H' : Hp) : Prop where
  keep : ∀ a o, a ∉ adrs s → NT o → H a = some o → H' a = some o
  new : ∀ a ∈ adrs s', a ∈ adrs s ∨ NTN (H a)
  mu : ∀ a ∈ adrs s, (∀ xs, H a ≠ some (.tup xs)) ∧ ∀ o u, H a ≠ some (.frz o u)
theorem Pres.refl {K : PySem.W.Frag} {s : Rs} {H : Hp} (r : Rok K s H) : Pres K s H s H := ⟨fun _ _ _ _ h => h, fun _ h => .inl h, fun a h => no_tup (r.mu a h)⟩
theorem Pres.trans {K : PySem.W.Frag} {s s1 s2 : Rs} {H H1 H2 : Hp} (a : Pres K s H s1 H1) (b : Pres K s1 H1 s2 H2) : Pres K s H s2 H2 where
  keep := fun x o h1 nt h2 => b.keep x o (fun z => (a.new x z).elim h1 fun y => y.no h2 nt) nt (a.keep x o h1 nt h2)
  new := fun x hx => by
    rcases b.new x hx with z | z
    · exact a.new x z
    · by_cases hm : x ∈ adrs s
      · exact .inl hm
      · refine .inr fun o q => ?_
        by_cases ht : ∃ ps, o = .tbl ps
        · exact ht
        · exact (z.no (a.keep x o hm (fun ps e => ht ⟨ps, e⟩) q) (fun ps e => ht ⟨ps, e⟩)).elim
  mu := a.mu
theorem Pres.goes {K : PySem.W.Frag} {s s' : Rs} {H H' : Hp} (p : Pres K s H s' H') : Goes (adrs s ++ adrs s') H H' :=
  ⟨fun a o h1 nt h2 => p.keep a o (fun z => h1 (List.mem_append_left _ z)) nt h2, fun a ha => by
    rcases List.mem_append.mp ha with z | z
    · exact p.mu a z
    · rcases p.new a z with y | y
      · exact p.mu a y
      · exact y.tup⟩
theorem Pres.shut {K : PySem.W.Frag} {s s' : Rs} {H H' : Hp} (p : Pres K s H s' H') : ∀ a, a ∉ adrs s → (∃ o, NT o ∧ H a = some o) → a ∉ adrs s ++ adrs s' := fun a h1 ⟨o, n, h2⟩ h3 => by
  rcases List.mem_append.mp h3 with z | z
  · exact h1 z
  · rcases p.new a z with y | y
    · exact h1 y
    · exact y.no h2 n
theorem Pres.is {K : PySem.W.Frag} {s s' : Rs} {H H' : Hp} (p : Pres K s H s' H') {d : D} {v : V} (h : Is K (adrs s) H d v) : Is K (adrs s') H' d v :=
  Is.anti (fun a h1 _ h2 => h1 (List.mem_append_right _ h2)) d v (Is.goes p.goes d v (Is.anti p.shut d v h))
theorem Pres.list {K : PySem.W.Frag} {s s' : Rs} {H H' : Hp} (p : Pres K s H s' H') {ds : List D} {vs : List V} (h : IsL K (adrs s) H ds vs) : IsL K (adrs s') H' ds vs :=
  IsL.anti (fun a h1 _ h2 => h1 (List.mem_append_right _ h2)) ds vs (IsL.goes p.goes ds vs (IsL.anti p.shut ds vs h))
theorem Pres.kvs {K : PySem.W.Frag} {s s' : Rs} {H H' : Hp} (p : Pres K s H s' H') {ds : List (Key × D)} {vs : List (Key × V)} (h : IsK K (adrs s) H ds vs) : IsK K (adrs s') H' ds vs :=
  IsK.anti (fun a h1 _ h2 => h1 (List.mem_append_right _ h2)) ds vs (IsK.goes p.goes ds vs (IsK.anti p.shut ds vs h))
theorem Pres.tks {K : PySem.W.Frag} {s s' : Rs} {H H' : Hp} (p : Pres K s H s' H') {ds : List (List Key × D)} {vs : List (List Key × V)} (h : IsT K (adrs s) H ds vs) : IsT K (adrs s') H' ds vs :=
  IsT.anti (fun a h1 _ h2 => h1 (List.mem_append_right _ h2)) ds vs (IsT.goes p.goes ds vs (IsT.anti p.shut ds vs h))
theorem Pres.flds {K : PySem.W.Frag} {s s' : Rs} {H H' : Hp} (p : Pres K s H s' H') {ds : List (Str × D)} {vs : List (Str × V)} (h : IsF K (adrs s) H ds vs) : IsF K (adrs s') H' ds vs :=
  IsF.anti (fun a h1 _ h2 => h1 (List.mem_append_right _ h2)) ds vs (IsF.goes p.goes ds vs (IsF.anti p.shut ds vs h))
/-- a thing of one's own that stood still -/
theorem Pres.ow {K : PySem.W.Frag} {s s' : Rs} {H H' : Hp} (p : Pres K s H s' H') {a : Addr} {d : D} (k : ∀ o, NT o → H a = some o → H' a = some o) (h : Ow K (adrs s) H a d) : Ow K (adrs s') H' a d := by
  cases d with
  | lst ds => obtain ⟨xs, h1, h2⟩ := h; exact ⟨xs, k _ (by intro _ z; cases z) h1, p.list h2⟩
  | dct kvs => obtain ⟨vs, h1, h2⟩ := h; exact ⟨vs, k _ (by intro _ z; cases z) h1, p.kvs h2⟩
  | dtp kvs => obtain ⟨vs, h1, h2⟩ := h; exact ⟨vs, k _ (by intro _ z; cases z) h1, p.tks h2⟩
  | ins C fs => obtain ⟨dx, vs, h1, h2⟩ := h; exact ⟨dx, vs, k _ (by intro _ z; cases z) h1, p.flds h2⟩
  | _ => exact h.elim
/-- .. also with more shut out -/
theorem Pres.isX {K : PySem.W.Frag} {s s' : Rs} {H H' : Hp} (p : Pres K s H s' H') {Ys : List Addr} {d : D} {v : V} (hY : ∀ a ∈ Ys, (∀ xs, H a ≠ some (.tup xs)) ∧ ∀ o u, H a ≠ some (.frz o u)) (hs : ∀ a ∈ adrs s, a ∈ Ys) (h : Is K Ys H d v) : Is K Ys H' d v :=
  Is.goes ⟨fun a o h1 nt h2 => p.keep a o (fun z => h1 (hs a z)) nt h2, hY⟩ d v h

section
variable {W : Wd} {σ : L2.St} {H H' : Hp} {ρ : En} {s s' : Rs}
theorem Ok.same (o : Ok W σ H ρ s) (e : Same H H') : Ok W σ H' ρ s :=
  ⟨o.rk.same e, fun a u h1 h2 => e _ _ (o.fr a u h1 h2), o.sub, o.dx, o.ox, fun e' he => Is.goes (o.rk.goes e) _ _ (o.tms e' he), o.tbs.ext e, o.len, fun i d h => by
    obtain ⟨v, h1, h2⟩ := o.sl i d h
    exact ⟨v, h1, Is.goes (o.rk.goes e) d v h2⟩⟩
theorem Ok.pres (o : Ok W σ H ρ s) (e : Same H H') : Pres W.K s H s H' := ⟨fun a u _ _ h => e a u h, fun _ h => .inl h, fun a h => no_tup (o.rk.mu a h)⟩
theorem Ok.set {i : Nat} {d : D} {v : V} (o : Ok W σ H ρ s) (h : Is W.K (adrs s) H d v) : Ok W (σ.set i (some v)) H (ρ.set i (some d)) s :=
  ⟨o.rk, o.fr, o.sub, o.dx, o.ox, o.tms, o.tbs, by rw [List.length_set, List.length_set, o.len], fun j d' hj => by
    by_cases e : i = j
    · subst e
      rw [List.getElem?_set] at hj ⊢
      simp only [if_true] at hj ⊢
      have hl := o.len
      split at hj
      · rename_i h1
        cases hj
        exact ⟨v, by rw [if_pos (by omega)], h⟩
      · cases hj
    · rw [List.getElem?_set_ne e] at hj ⊢
      exact o.sl j d' hj⟩
/-- forgetting a slot -/
theorem Ok.drop {i : Nat} (o : Ok W σ H ρ s) : Ok W σ H (ρ.set i none) s :=
  ⟨o.rk, o.fr, o.sub, o.dx, o.ox, o.tms, o.tbs, by rw [List.length_set, o.len], fun j d' hj => by
    by_cases e : i = j
    · subst e
      rw [List.getElem?_set] at hj
      simp only [if_true] at hj
      split at hj <;> cases hj
    · rw [List.getElem?_set_ne e] at hj
      exact o.sl j d' hj⟩
end

theorem tabs_upd {T : List (Addr × Str)} {H : Hp} {a : Addr} {o u : HO} (t : LamX.Tabs T H) (h : H a = some u) (c : Chg u) : LamX.Tabs T (upd H a o) := t.upto fun b w hb hc => by
  rw [upd_ne (fun z => hc (by rw [z, h] at hb; cases hb; exact c))]; exact hb
/-! ### all but tables of code is kept -/
structure ExtT (T : List (Addr × Str)) (H H' : Hp) : Prop where
  e : LamX.ExtN H H'
  t : LamX.Tabs T H'
theorem ExtT.same {T : List (Addr × Str)} {H H' : Hp} (t : LamX.Tabs T H) (e : Same H H') : ExtT T H H' := ⟨fun b o h _ => e b o h, t.ext e⟩
theorem ExtT.trans {T : List (Addr × Str)} {H H1 H2 : Hp} (a : ExtT T H H1) (b : ExtT T H1 H2) : ExtT T H H2 := ⟨a.e.trans b.e, b.t⟩
theorem Mut.lam {H H' : Hp} {a : Addr} (g : LamX.ExtN H H') (h : Mut (H a)) : Mut (H' a) := by
  obtain ⟨o, q⟩ := Mut.some h
  rw [g a o q (fun ps z => by rw [q, z] at h; exact h), ← q]
  exact h
theorem Drw.lam {H H' : Hp} {e : Addr × Addr × Addr × Nat} (g : LamX.ExtN H H') (h : Drw e H) : Drw e H' := by
  obtain ⟨ls, items, l, t, h1, h2, h3, r⟩ := h
  exact ⟨ls, items, l, t, g _ _ h1 (fun _ z => by cases z), g _ _ h2 (fun _ z => by cases z), g _ _ h3 (fun _ z => by cases z), r⟩
theorem Rok.goesT {K : PySem.W.Frag} {s : Rs} {H H' : Hp} (r : Rok K s H) (g : LamX.ExtN H H') : Goes (adrs s) H H' := ⟨fun a o _ n h => g a o h n, fun a ha => no_tup (r.mu a ha)⟩
theorem Rok.lam {K : PySem.W.Frag} {s : Rs} {H H' : Hp} (r : Rok K s H) (g : LamX.ExtN H H') : Rok K s H' :=
  ⟨fun a h => Mut.lam g (r.mu a h), r.nd, fun d h => (r.dr d h).lam g, fun d h => (r.ow d h).goes (r.goesT g) fun o n q => g _ _ q n⟩
section
variable {W : Wd} {σ : L2.St} {H H' : Hp} {ρ : En} {s s' : Rs}
theorem Ok.ext (o : Ok W σ H ρ s) (e : ExtT W.tb H H') : Ok W σ H' ρ s :=
  ⟨o.rk.lam e.e, fun a u h1 h2 => e.e _ _ (o.fr a u h1 h2) (o.tbs.nt h2), o.sub, o.dx, o.ox, fun e' he => Is.goes (o.rk.goesT e.e) _ _ (o.tms e' he), ⟨e.t, o.tbs.n⟩, o.len, fun i d h => by
    obtain ⟨v, h1, h2⟩ := o.sl i d h
    exact ⟨v, h1, Is.goes (o.rk.goesT e.e) d v h2⟩⟩
theorem Ok.presT (o : Ok W σ H ρ s) (e : ExtT W.tb H H') : Pres W.K s H s H' := ⟨fun a u _ n h => e.e a u h n, fun _ h => .inl h, fun a h => no_tup (o.rk.mu a h)⟩
theorem Ok.nt (o : Ok W σ H ρ s) {a : Addr} {u : HO} (e : W.H0 a = some u) : NT u := o.tbs.nt e
end
/-- the entry heap, tables left out -/
def noTb (H : Hp) : Hp := fun a => match H a with
  | some (.tbl _) => none
  | x => x
theorem noTb_get {H : Hp} {a : Addr} {o : HO} (h : noTb H a = some o) : H a = some o ∧ ∀ ps, o ≠ .tbl ps := by
  unfold noTb at h
  split at h
  · cases h
  · rename_i q
    refine ⟨h, fun ps z => ?_⟩
    rw [z] at h
    exact q ps h
theorem noTb_of {H : Hp} {a : Addr} {o : HO} (h : H a = some o) (n : NT o) : noTb H a = some o := by
  unfold noTb
  split
  · rename_i ps q
    rw [h] at q
    exact absurd (Option.some.inj q) (n ps)
  · exact h
theorem noTb_n {H : Hp} : ∀ a ps, noTb H a ≠ some (.tbl ps) := fun a ps e => (noTb_get e).2 ps rfl
theorem noTb_ntn {H : Hp} {a : Addr} (h : noTb H a = none) : NTN (H a) := fun o e => by
  by_cases n : ∃ ps, o = .tbl ps
  · exact n
  · rw [noTb_of e fun ps z => n ⟨ps, z⟩] at h
    cases h
def SX (T : List (Addr × Str)) (H H' : Hp) : Prop := Same H H' ∨ ExtT T H H'
instance {T : List (Addr × Str)} {H H' : Hp} : Coe (Same H H') (SX T H H') := ⟨Or.inl⟩
instance {T : List (Addr × Str)} {H H' : Hp} : Coe (ExtT T H H') (SX T H H') := ⟨Or.inr⟩
theorem Ok.sx {W : Wd} {σ : L2.St} {H H' : Hp} {ρ : En} {s : Rs} (o : Ok W σ H ρ s) (e : SX W.tb H H') : Ok W σ H' ρ s := Or.elim e o.same o.ext
theorem Ok.presX {W : Wd} {σ : L2.St} {H H' : Hp} {ρ : En} {s : Rs} (o : Ok W σ H ρ s) (e : SX W.tb H H') : Pres W.K s H s H' := Or.elim e o.pres o.presT
structure RokT (W : Wd) (s : Rs) (H : Hp) : Prop extends Rok W.K s H where
  tb : LamX.Tabs W.tb H
theorem Ok.rkT {W : Wd} {σ : L2.St} {H : Hp} {ρ : En} {s : Rs} (o : Ok W σ H ρ s) : RokT W s H := { toRok := o.rk, tb := o.tbs.t }
/-! ### what an expression, a test, a list of arguments may come to -/
def LE (W : Wd) (te : TE) (ρ : En) (s : Rs) (Φ : D → Rs → Prop) : Prop :=
  ∀ (σ : L2.St) (H : Hp), Ok W σ H ρ s → ∀ Q : VK, (∀ v H' d s', Ok W σ H' ρ s' → Pres W.K s H s' H' → Is W.K (adrs s') H' d v → Φ d s' → Q v H') → te σ H Q
def LT (W : Wd) (tt : TT) (ρ : En) (s : Rs) (Φ : Bool → Rs → Prop) : Prop :=
  ∀ (σ : L2.St) (H : Hp), Ok W σ H ρ s → ∀ Q : Bool → Hp → Prop, (∀ b H' s', Ok W σ H' ρ s' → Pres W.K s H s' H' → Φ b s' → Q b H') → tt σ H Q
def LA (W : Wd) (ta : TA) (ρ : En) (s : Rs) (Φ : List D → Rs → Prop) : Prop :=
  ∀ (σ : L2.St) (H : Hp), Ok W σ H ρ s → ∀ Q : List V → Hp → Prop, (∀ vs H' ds s', Ok W σ H' ρ s' → Pres W.K s H s' H' → IsL W.K (adrs s') H' ds vs → Φ ds s' → Q vs H') → ta σ H Q
/-- a two-place operation, a one-place one, a call of a built-in, upon data; what may change stays -/
def OpD (W : Wd) (r : R2) (s : Rs) (x y : D) (Ψ : D → Prop) : Prop :=
  ∀ H vx vy, RokT W s H → Is W.K (adrs s) H x vx → Is W.K (adrs s) H y vy → ∀ Q : VK, (∀ v H' d, SX W.tb H H' → Is W.K (adrs s) H' d v → Ψ d → Q v H') → r vx vy H Q
def UnD (W : Wd) (r : V → Hp → VK → Prop) (s : Rs) (x : D) (Ψ : D → Prop) : Prop :=
  ∀ H vx, RokT W s H → Is W.K (adrs s) H x vx → ∀ Q : VK, (∀ v H' d, SX W.tb H H' → Is W.K (adrs s) H' d v → Ψ d → Q v H') → r vx H Q
def CbD (W : Wd) (r : List V → Hp → VK → Prop) (s : Rs) (xs : List D) (Ψ : D → Prop) : Prop :=
  ∀ H vs, RokT W s H → IsL W.K (adrs s) H xs vs → ∀ Q : VK, (∀ v H' d, SX W.tb H H' → Is W.K (adrs s) H' d v → Ψ d → Q v H') → r vs H Q

section
variable {W : Wd} {ρ : En} {s : Rs} {Φ : D → Rs → Prop} {ta tb te : TE} {t u : TT}
theorem LE.mono {Φ' : D → Rs → Prop} (h : LE W te ρ s Φ) (q : ∀ d s', Φ d s' → Φ' d s') : LE W te ρ s Φ' := fun σ H o Q k => h σ H o Q fun v H' d s' o' p i f => k v H' d s' o' p i (q _ _ f)
theorem LE.var {i : Nat} {d : D} (h : ρ[i]? = some (some d)) (k : Φ d s) : LE W (tVar i) ρ s Φ := fun σ H o Q q => by
  obtain ⟨v, h1, h2⟩ := o.sl i d h
  exact ⟨v, h1, q v H d s o (.refl o.rk) h2 k⟩
theorem LE.int {i : Int} (k : Φ (.int i) s) : LE W (tC (.int i)) ρ s Φ := fun σ H o Q q => q _ _ (.int i) s o (.refl o.rk) rfl k
theorem LE.bl {b : Bool} (k : Φ (.bl b) s) : LE W (tC (.bl b)) ρ s Φ := fun σ H o Q q => q _ _ (.bl b) s o (.refl o.rk) rfl k
theorem LE.non (k : Φ .non s) : LE W (tC .non) ρ s Φ := fun σ H o Q q => q _ _ .non s o (.refl o.rk) rfl k
theorem LE.str {x : Str} (k : Φ (.str x) s) : LE W (tC (.str x)) ρ s Φ := fun σ H o Q q => q _ _ (.str x) s o (.refl o.rk) rfl k
theorem LE.ty {x : String} (k : Φ (.ty x) s) : LE W (tC (.ty x)) ρ s Φ := fun σ H o Q q => q _ _ (.ty x) s o (.refl o.rk) rfl k
/-- a constant of the written part -/
theorem LE.con {v : V} {d : D} (h : ∀ Xs H, Is W.K Xs H d v) (k : Φ d s) : LE W (tC v) ρ s Φ := fun σ H o Q q => q _ _ d s o (.refl o.rk) (h _ _) k
theorem LE.op {r : R2} (h : LE W ta ρ s fun x s1 => LE W tb ρ s1 fun y s2 => OpD W r s2 x y fun d => Φ d s2) : LE W (tOp r ta tb) ρ s Φ := fun σ H o Q q => by
  refine h σ H o _ fun vx H1 x s1 o1 p1 i1 k1 => ?_
  refine k1 σ H1 o1 _ fun vy H2 y s2 o2 p2 i2 k2 => ?_
  refine k2 H2 vx vy o2.rkT (p2.is i1) i2 Q fun v H' d e i f => ?_
  exact q v H' d s2 (o2.sx e) ((p1.trans p2).trans (o2.presX e)) i f
theorem LE.un {r : V → Hp → VK → Prop} (h : LE W ta ρ s fun x s1 => UnD W r s1 x fun d => Φ d s1) : LE W (tUn r ta) ρ s Φ := fun σ H o Q q => by
  refine h σ H o _ fun vx H1 x s1 o1 p1 i1 k1 => ?_
  refine k1 H1 vx o1.rkT i1 Q fun v H' d e i f => ?_
  exact q v H' d s1 (o1.sx e) (p1.trans (o1.presX e)) i f
theorem LE.ifE (h : LT W t ρ s fun b s1 => (b = true → LE W ta ρ s1 Φ) ∧ (b = false → LE W tb ρ s1 Φ)) : LE W (tIf t ta tb) ρ s Φ := fun σ H o Q q => by
  refine h σ H o _ fun b H1 s1 o1 p1 k => ?_
  cases b with
  | true => exact k.1 rfl σ H1 o1 Q fun v H' d s' o' p' => q v H' d s' o' (p1.trans p')
  | false => exact k.2 rfl σ H1 o1 Q fun v H' d s' o' p' => q v H' d s' o' (p1.trans p')
theorem LE.andV (h : LE W ta ρ s fun x s1 => ∃ b, x = .bl b ∧ (b = true → LE W tb ρ s1 Φ) ∧ (b = false → Φ (.bl false) s1)) : LE W (tAndV ta tb) ρ s Φ := fun σ H o Q q => by
  refine h σ H o _ fun v H1 x s1 o1 p1 i1 k => ?_
  obtain ⟨b, rfl, k1, k2⟩ := k
  refine ⟨b, i1, ?_⟩
  cases b with
  | true => exact k1 rfl σ H1 o1 Q fun v H' d s' o' p' => q v H' d s' o' (p1.trans p')
  | false => exact q _ H1 (.bl false) s1 o1 p1 rfl (k2 rfl)
theorem LE.orV (h : LE W ta ρ s fun x s1 => ∃ b, x = .bl b ∧ (b = false → LE W tb ρ s1 Φ) ∧ (b = true → Φ (.bl true) s1)) : LE W (tOrV ta tb) ρ s Φ := fun σ H o Q q => by
  refine h σ H o _ fun v H1 x s1 o1 p1 i1 k => ?_
  obtain ⟨b, rfl, k1, k2⟩ := k
  refine ⟨b, i1, ?_⟩
  cases b with
  | false => exact k1 rfl σ H1 o1 Q fun v H' d s' o' p' => q v H' d s' o' (p1.trans p')
  | true => exact q _ H1 (.bl true) s1 o1 p1 rfl (k2 rfl)
theorem LE.notV (h : LE W ta ρ s fun x s1 => ∃ b, x = .bl b ∧ Φ (.bl (!b)) s1) : LE W (tNotV ta) ρ s Φ := fun σ H o Q q => by
  refine h σ H o _ fun v H1 x s1 o1 p1 i1 k => ?_
  obtain ⟨b, rfl, k1⟩ := k
  exact ⟨b, i1, q _ H1 (.bl (!b)) s1 o1 p1 rfl k1⟩

/-! arguments -/
theorem LA.nil {Φ : List D → Rs → Prop} (k : Φ [] s) : LA W tNil ρ s Φ := fun σ H o Q q => q [] H [] s o (.refl o.rk) rfl k
theorem LA.cons {Φ : List D → Rs → Prop} {tr : TA} (h : LE W te ρ s fun d s1 => LA W tr ρ s1 fun ds s2 => Φ (d :: ds) s2) : LA W (tCons te tr) ρ s Φ := fun σ H o Q q => by
  refine h σ H o _ fun v H1 d s1 o1 p1 i1 k => ?_
  refine k σ H1 o1 _ fun vs H2 ds s2 o2 p2 i2 k2 => ?_
  exact q (v :: vs) H2 (d :: ds) s2 o2 (p1.trans p2) ⟨v, vs, rfl, p2.is i1, i2⟩ k2
theorem LE.tup {tr : TA} (h : LA W tr ρ s fun ds s1 => ds.length ≤ 1000 ∧ Φ (.tup ds) s1) : LE W (tTup tr) ρ s Φ := fun σ H o Q q => by
  refine h σ H o _ fun vs H1 ds s1 o1 p1 i1 k => ?_
  refine ⟨Nat.le_of_lt (small1000 (by rw [i1.length]; exact k.1)), fun p hp => ?_⟩
  have e : Same H1 (upd H1 p (.tup vs)) := Same.new hp
  exact q _ _ (.tup ds) s1 (o1.same e) (p1.trans (o1.pres e)) ⟨p, vs, rfl, .inl upd_same, IsL.goes (o1.rk.goes e) _ _ i1⟩ k.2
theorem Rok.fresh {K : PySem.W.Frag} {H : Hp} (r : Rok K s H) {p : Addr} (hp : H p = none) : p ∉ adrs s := fun hm => by
  obtain ⟨o, e⟩ := Mut.some (r.mu p hm)
  rw [hp] at e
  cases e
/-- a new list, never to be changed -/
theorem LE.lst {tr : TA} (h : LA W tr ρ s fun ds s1 => ds.length ≤ 1000 ∧ Φ (.lst ds) s1) : LE W (tLst tr) ρ s Φ := fun σ H o Q q => by
  refine h σ H o _ fun vs H1 ds s1 o1 p1 i1 k => ?_
  refine ⟨Nat.le_of_lt (small1000 (by rw [i1.length]; exact k.1)), fun p hp => ?_⟩
  have e : Same H1 (upd H1 p (.lst vs)) := Same.new hp
  exact q _ _ (.lst ds) s1 (o1.same e) (p1.trans (o1.pres e)) ⟨p, vs, rfl, o1.rk.fresh hp, upd_same, IsL.goes (o1.rk.goes e) _ _ i1⟩ k.2
theorem LE.cb {r : List V → Hp → VK → Prop} {tr : TA} (h : LA W tr ρ s fun ds s1 => CbD W r s1 ds fun d => Φ d s1) : LE W (tCB r tr) ρ s Φ := fun σ H o Q q => by
  refine h σ H o _ fun vs H1 ds s1 o1 p1 i1 k => ?_
  refine k H1 vs o1.rkT i1 Q fun v H' d e i f => ?_
  exact q v H' d s1 (o1.sx e) (p1.trans (o1.presX e)) i f
/-! tests -/
variable {Ψ : Bool → Rs → Prop}
theorem LT.mono {Ψ' : Bool → Rs → Prop} (h : LT W t ρ s Ψ) (q : ∀ d s', Ψ d s' → Ψ' d s') : LT W t ρ s Ψ' := fun σ H o Q k => h σ H o Q fun v H' s' o' p f => k v H' s' o' p (q _ _ f)
theorem LT.test (h : LE W te ρ s fun x s1 => ∃ b, x = .bl b ∧ Ψ b s1) : LT W (tTest te) ρ s Ψ := fun σ H o Q q => by
  refine h σ H o _ fun v H1 x s1 o1 p1 i1 k => ?_
  obtain ⟨b, rfl, k1⟩ := k
  exact ⟨b, i1, q b H1 s1 o1 p1 k1⟩
theorem LT.val (h : LE W te ρ s fun x s1 => ∃ b, x = .bl b ∧ Ψ b s1) : LT W (tB te) ρ s Ψ := fun σ H o Q q => by
  refine h σ H o _ fun v H1 x s1 o1 p1 i1 k => ?_
  obtain ⟨b, rfl, k1⟩ := k
  exact ⟨b, i1, q b H1 s1 o1 p1 k1⟩
theorem LT.not (h : LT W t ρ s fun b s1 => Ψ (!b) s1) : LT W (tNot t) ρ s Ψ := fun σ H o Q q => h σ H o _ fun b H1 s1 o1 p1 k => q (!b) H1 s1 o1 p1 k
theorem LT.and (h : LT W t ρ s fun b s1 => (b = true → LT W u ρ s1 Ψ) ∧ (b = false → Ψ false s1)) : LT W (tAnd t u) ρ s Ψ := fun σ H o Q q => by
  refine h σ H o _ fun b H1 s1 o1 p1 k => ?_
  cases b with
  | true => exact k.1 rfl σ H1 o1 Q fun b H' s' o' p' => q b H' s' o' (p1.trans p')
  | false => exact q false H1 s1 o1 p1 (k.2 rfl)
theorem LT.or (h : LT W t ρ s fun b s1 => (b = false → LT W u ρ s1 Ψ) ∧ (b = true → Ψ true s1)) : LT W (tOr t u) ρ s Ψ := fun σ H o Q q => by
  refine h σ H o _ fun b H1 s1 o1 p1 k => ?_
  cases b with
  | false => exact k.1 rfl σ H1 o1 Q fun b H' s' o' p' => q b H' s' o' (p1.trans p')
  | true => exact q true H1 s1 o1 p1 (k.2 rfl)
end

/-! ### statements -/
structure Fits (W : Wd) (N : En → Rs → Prop) (R : D → Rs → Prop) (B C : En → Rs → Prop) (Dn : Ends) : Prop where
  nx : ∀ σ' H' ρ' s', Ok W σ' H' ρ' s' → N ρ' s' → Dn.nx σ' H'
  rt : ∀ v σ' H' ρ' d s', Ok W σ' H' ρ' s' → Is W.K (adrs s') H' d v → R d s' → Dn.rt v H'
  bk : ∀ σ' H' ρ' s', Ok W σ' H' ρ' s' → B ρ' s' → Dn.bk σ' H'
  ct : ∀ σ' H' ρ' s', Ok W σ' H' ρ' s' → C ρ' s' → Dn.ct σ' H'
/-- a statement: N what follows, R a return, B a break, C a continue -/
def LS (W : Wd) (ts : TS) (ρ : En) (s : Rs) (N : En → Rs → Prop) (R : D → Rs → Prop) (B C : En → Rs → Prop) : Prop := ∀ (Dn : Ends) (σ : L2.St) (H : Hp), Ok W σ H ρ s → Fits W N R B C Dn → ts Dn σ H
section
variable {W : Wd} {ρ : En} {s : Rs} {N : En → Rs → Prop} {R : D → Rs → Prop} {B C : En → Rs → Prop} {te : TE} {ts tu : TS} {t : TT}
theorem LS.seq (h : LS W ts ρ s (fun ρ' s' => LS W tu ρ' s' N R B C) R B C) : LS W (tSeq ts tu) ρ s N R B C := fun Dn σ H o f =>
  h _ σ H o ⟨fun σ' H' ρ' s' o' k => k Dn σ' H' o' f, f.rt, f.bk, f.ct⟩
theorem LS.next (h : N ρ s) : LS W tNext ρ s N R B C := fun Dn σ H o f => f.nx σ H ρ s o h
theorem LS.brk (h : B ρ s) : LS W tBreak ρ s N R B C := fun Dn σ H o f => f.bk σ H ρ s o h
theorem LS.cont (h : C ρ s) : LS W tCont ρ s N R B C := fun Dn σ H o f => f.ct σ H ρ s o h
theorem LS.ret (h : LE W te ρ s R) : LS W (tRet te) ρ s N R B C := fun Dn σ H o f => h σ H o _ fun v H' d s' o' p i k => f.rt v σ H' ρ d s' o' i k
theorem LS.retN (h : R .non s) : LS W tRetN ρ s N R B C := fun Dn σ H o f => f.rt .non σ H ρ .non s o rfl h
theorem LS.drop (h : LE W te ρ s fun _ s' => N ρ s') : LS W (tDrop te) ρ s N R B C := fun Dn σ H o f => h σ H o _ fun v H' d s' o' p i k => f.nx σ H' ρ s' o' k
theorem LS.set {i : Nat} (h : LE W te ρ s fun d s' => N (ρ.set i (some d)) s') : LS W (tAsg te (gName i)) ρ s N R B C := fun Dn σ H o f =>
  h σ H o _ fun v H' d s' o' p i' k => f.nx _ H' _ s' (o'.set i') k
theorem LS.ite (h : LT W t ρ s fun b s1 => (b = true → LS W ts ρ s1 N R B C) ∧ (b = false → LS W tu ρ s1 N R B C)) : LS W (tIfS t ts tu) ρ s N R B C := fun Dn σ H o f => by
  refine h σ H o _ fun b H1 s1 o1 p1 k => ?_
  cases b with
  | true => exact k.1 rfl Dn σ H1 o1 f
  | false => exact k.2 rfl Dn σ H1 o1 f
/-- a, b = e1, e2 -/
theorem LS.par {i j : Nat} {ta : TA} (h : LA W ta ρ s fun ds s' => ∃ d e, ds = [d, e] ∧ N ((ρ.set i (some d)).set j (some e)) s') : LS W (tPar i j ta) ρ s N R B C := fun Dn σ H o f =>
  h σ H o _ fun vs H' ds s' o' p i' k => by
    obtain ⟨d, e, rfl, k⟩ := k
    obtain ⟨v, r, rfl, i1, i2⟩ := i'
    obtain ⟨w, r, rfl, i2, i3⟩ := i2
    have e : r = [] := i3
    subst e
    exact ⟨v, w, rfl, f.nx _ H' _ s' ((o'.set i1).set i2) k⟩
/-- several targets -/
theorem LS.par3 {i j l : Nat} {ta : TA} (h : LA W ta ρ s fun ds s' => ∃ d e g, ds = [d, e, g] ∧ N (((ρ.set i (some d)).set j (some e)).set l (some g)) s') : LS W (tPar3 i j l ta) ρ s N R B C := fun Dn σ H o f =>
  h σ H o _ fun vs H' ds s' o' p i' k => by
    obtain ⟨d, e, g, rfl, k⟩ := k
    obtain ⟨v, r, rfl, i1, i2⟩ := i'
    obtain ⟨w, r, rfl, i2, i3⟩ := i2
    obtain ⟨z, r, rfl, i3, i4⟩ := i3
    have e : r = [] := i4
    subst e
    exact ⟨v, w, z, rfl, f.nx _ H' _ s' (((o'.set i1).set i2).set i3) k⟩
/-- a tuple unpacked -/
def LG (W : Wd) (g : TG) (d : D) (ρ : En) (s : Rs) (Φ : En → Rs → Prop) : Prop :=
  ∀ v σ H, Ok W σ H ρ s → Is W.K (adrs s) H d v → ∀ Q : L2.St → Hp → Prop, (∀ σ' H' ρ' s', Ok W σ' H' ρ' s' → Pres W.K s H s' H' → Φ ρ' s' → Q σ' H') → g v σ H Q
def LGs (W : Wd) (g : TGs) (ds : List D) (ρ : En) (s : Rs) (Φ : En → Rs → Prop) : Prop :=
  ∀ vs σ H, Ok W σ H ρ s → IsL W.K (adrs s) H ds vs → ∀ Q : L2.St → Hp → Prop, (∀ σ' H' ρ' s', Ok W σ' H' ρ' s' → Pres W.K s H s' H' → Φ ρ' s' → Q σ' H') → g vs σ H Q
theorem LG.name {i : Nat} {d : D} {Φ : En → Rs → Prop} (h : Φ (ρ.set i (some d)) s) : LG W (gName i) d ρ s Φ := fun v σ H o i' Q q => q _ H _ s (o.set i') (.refl o.rk) h
theorem LGs.nil {Φ : En → Rs → Prop} (h : Φ ρ s) : LGs W gNil [] ρ s Φ := fun vs σ H o i Q q => ⟨i, q σ H ρ s o (.refl o.rk) h⟩
theorem LGs.consN {i : Nat} {gs : TGs} {d : D} {ds : List D} {Φ : En → Rs → Prop} (h : LGs W gs ds (ρ.set i (some d)) s Φ) : LGs W (gCons (gName i) gs) (d :: ds) ρ s Φ := fun vs σ H o i' Q q => by
  obtain ⟨v, r, rfl, i1, i2⟩ := i'
  exact ⟨v, r, rfl, h r _ H (o.set i1) i2 Q q⟩
theorem LG.tup {n : Nat} {gs : TGs} {ds : List D} {Φ : En → Rs → Prop} (hn : ds.length = n) (h : LGs W gs ds ρ s Φ) : LG W (gTup W.K n gs) (.tup ds) ρ s Φ := fun v σ H o i Q q => by
  obtain ⟨a, xs, rfl, h1, h2⟩ := i
  exact ⟨a, xs, rfl, IsL.sqT h1, by rw [h2.length, hn], h xs σ H o h2 Q q⟩
theorem LS.asg {g : TG} (h : LE W te ρ s fun d s' => LG W g d ρ s' N) : LS W (tAsg te g) ρ s N R B C := fun Dn σ H o f =>
  h σ H o _ fun v H' d s' o' p i k => k v σ H' o' i _ fun σ2 H2 ρ2 s2 o2 p2 k2 => f.nx σ2 H2 ρ2 s2 o2 k2
/-- loops -/
theorem LS.loop (I : Nat → En → Rs → Prop) (m : Nat) (h0 : I m ρ s)
    (hs : ∀ m ρ' s', I m ρ' s' → LT W t ρ' s' fun b s1 => (b = true → LS W ts ρ' s1 (fun ρ2 s2 => ∃ m', m' < m ∧ I m' ρ2 s2) R N (fun ρ2 s2 => ∃ m', m' < m ∧ I m' ρ2 s2)) ∧ (b = false → N ρ' s1)) : LS W (tWhile t ts) ρ s N R B C := fun Dn σ H o f => by
  refine ⟨fun m σ H => ∃ ρ s, Ok W σ H ρ s ∧ I m ρ s, ⟨m, ρ, s, o, h0⟩, fun m σ H ⟨ρ1, s1, o1, i1⟩ => ?_⟩
  refine hs m ρ1 s1 i1 σ H o1 _ fun b H2 s2 o2 p2 k => ?_
  cases b with
  | true =>
    refine ⟨fun σ' H' => ∃ m', m' < m ∧ ∃ ρ s, Ok W σ' H' ρ s ∧ I m' ρ s, fun _ _ q => q, ?_⟩
    refine k.1 rfl _ σ H2 o2 ⟨?_, f.rt, f.nx, ?_⟩
    · rintro σ' H' ρ' s' o' ⟨m', l, i'⟩
      exact ⟨m', l, ρ', s', o', i'⟩
    · rintro σ' H' ρ' s' o' ⟨m', l, i'⟩
      exact ⟨m', l, ρ', s', o', i'⟩
  | false => exact f.nx σ H2 ρ1 s2 o2 (k.2 rfl)
theorem LS.forRange {lo : Int} {n : Nat} {g : TG} (I : Nat → En → Rs → Prop) (h0 : I 0 ρ s)
    (hs : ∀ i ρ' s', i < n → I i ρ' s' → LG W g (.int (lo + i)) ρ' s' fun ρ2 s2 => LS W ts ρ2 s2 (I (i + 1)) R N (I (i + 1))) (hd : ∀ ρ' s', I n ρ' s' → N ρ' s')
    {Dn : Ends} {σ : L2.St} {H : Hp} (o : Ok W σ H ρ s) (f : Fits W N R B C Dn) :
    ∃ W : Nat → Nat → L2.St → Hp → Prop, (∃ m, W 0 m σ H) ∧ ∀ i m σ H, W i m σ H →
      ((Itr lo n).stop i H ∧ Dn.nx σ H) ∨ ((Itr lo n).go i H ∧ ∃ N : L2.St → Hp → Prop, (∀ σ' H', N σ' H' → ∃ m', m' < m ∧ W (i + 1) m' σ' H') ∧ ∀ x H', (Itr lo n).yld i H x H' → g x σ H' fun σ2 H2 => ts { Dn with nx := N, ct := N, bk := Dn.nx } σ2 H2) :=
  for_range (fun i σ H => ∃ ρ s, Ok W σ H ρ s ∧ I i ρ s) ⟨ρ, s, o, h0⟩ (fun i σ H hi ⟨ρ1, s1, o1, i1⟩ =>
    hs i ρ1 s1 hi i1 _ σ H o1 rfl _ fun σ2 H2 ρ2 s2 o2 p2 k => k _ σ2 H2 o2 ⟨fun _ _ ρ3 s3 o3 i3 => ⟨ρ3, s3, o3, i3⟩, f.rt, f.nx, fun _ _ ρ3 s3 o3 i3 => ⟨ρ3, s3, o3, i3⟩⟩)
    fun σ H ⟨ρ1, s1, o1, i1⟩ => f.nx σ H ρ1 s1 o1 (hd _ _ i1)
/-- for k in range(n) -/
theorem LS.range1 {ta : TA} {g : TG} (h : LA W ta ρ s fun ds s1 => ∃ (j : Int) (I : Nat → En → Rs → Prop), ds = [.int j] ∧ -(2 ^ 62) ≤ j ∧ j < 2 ^ 62 ∧ I 0 ρ s1 ∧
      (∀ i ρ' s', i < j.toNat → I i ρ' s' → LG W g (.int (0 + i)) ρ' s' fun ρ2 s2 => LS W ts ρ2 s2 (I (i + 1)) R N (I (i + 1))) ∧ (∀ ρ' s', I j.toNat ρ' s' → N ρ' s')) :
    LS W (tFor (iRng1 ta) g ts) ρ s N R B C := fun Dn σ H o f => by
  refine h σ H o _ fun vs H1 ds s1 o1 p1 i1 k => ?_
  obtain ⟨j, I, rfl, l1, l2, h0, hs, hd⟩ := k
  obtain ⟨v, r, rfl, e1, e2⟩ := i1
  have e1 : v = .int j := e1
  have e2 : r = [] := e2
  subst e1 e2
  exact ⟨j, rfl, l1, l2, LS.forRange I h0 hs hd o1 f⟩
theorem LS.range2 {ta : TA} {g : TG} (h : LA W ta ρ s fun ds s1 => ∃ (lo j : Int) (I : Nat → En → Rs → Prop), ds = [.int lo, .int j] ∧ (-(2 ^ 62) ≤ lo ∧ lo < 2 ^ 62 ∧ -(2 ^ 62) ≤ j ∧ j < 2 ^ 62) ∧ I 0 ρ s1 ∧
      (∀ i ρ' s', i < (j - lo).toNat → I i ρ' s' → LG W g (.int (lo + i)) ρ' s' fun ρ2 s2 => LS W ts ρ2 s2 (I (i + 1)) R N (I (i + 1))) ∧ (∀ ρ' s', I (j - lo).toNat ρ' s' → N ρ' s')) :
    LS W (tFor (iRng2 ta) g ts) ρ s N R B C := fun Dn σ H o f => by
  refine h σ H o _ fun vs H1 ds s1 o1 p1 i1 k => ?_
  obtain ⟨lo, j, I, rfl, l, h0, hs, hd⟩ := k
  obtain ⟨v, r, rfl, e1, e2⟩ := i1
  obtain ⟨v2, r, rfl, e2, e3⟩ := e2
  have e1 : v = .int lo := e1
  have e2 : v2 = .int j := e2
  have e3 : r = [] := e3
  subst e1 e2 e3
  exact ⟨lo, j, rfl, l, LS.forRange I h0 hs hd o1 f⟩
end
end Pw

namespace Pw
open PySem L2

/-! ### operations upon data -/
section
variable {W : Wd} {s : Rs} {Ψ : D → Prop}
theorem OpD.i0 {g : Int → Int → Int} {i j : Int} (h : Ψ (.int (g i j))) : OpD W (rI0 fun i j => .int (g i j)) s (.int i) (.int j) Ψ := fun H vx vy r h1 h2 Q q =>
  ⟨i, j, h1, h2, q _ H (.int (g i j)) (Same.refl H) rfl h⟩
theorem OpD.b0 {g : Int → Int → Bool} {i j : Int} (h : Ψ (.bl (g i j))) : OpD W (rI0 fun i j => .bl (g i j)) s (.int i) (.int j) Ψ := fun H vx vy r h1 h2 Q q =>
  ⟨i, j, h1, h2, q _ H (.bl (g i j)) (Same.refl H) rfl h⟩
theorem OpD.ic {C : Int → Int → Prop} {g : Int → Int → Int} {i j : Int} (hc : C i j) (h : Ψ (.int (g i j))) : OpD W (rI C fun i j => .int (g i j)) s (.int i) (.int j) Ψ := fun H vx vy r h1 h2 Q q =>
  ⟨i, j, h1, h2, hc, q _ H (.int (g i j)) (Same.refl H) rfl h⟩
theorem UnD.i {g : Int → Int} {i : Int} (h : Ψ (.int (g i))) : UnD W (rU fun i => .int (g i)) s (.int i) Ψ := fun H vx r h1 Q q =>
  ⟨i, h1, q _ H (.int (g i)) (Same.refl H) rfl h⟩
theorem OpD.eqI {i j : Int} (h : Ψ (.bl (decide (i = j)))) : OpD W rEq s (.int i) (.int j) Ψ := fun H vx vy r h1 h2 Q q => by
  cases (show vx = .int i from h1)
  cases (show vy = .int j from h2)
  exact ⟨rfl, q _ H (.bl (decide (V.int i = V.int j))) (Same.refl H) rfl (by
    have e : decide (V.int i = V.int j) = decide (i = j) := by rw [Bool.eq_iff_iff]; simp
    rw [e]
    exact h)⟩
theorem OpD.neI {i j : Int} (h : Ψ (.bl (!decide (i = j)))) : OpD W rNe s (.int i) (.int j) Ψ := fun H vx vy r h1 h2 Q q => by
  cases (show vx = .int i from h1)
  cases (show vy = .int j from h2)
  exact ⟨rfl, q _ H (.bl (!decide (V.int i = V.int j))) (Same.refl H) rfl (by
    have e : decide (V.int i = V.int j) = decide (i = j) := by rw [Bool.eq_iff_iff]; simp
    rw [e]
    exact h)⟩
theorem OpD.eqB {i j : Bool} (h : Ψ (.bl (decide (i = j)))) : OpD W rEq s (.bl i) (.bl j) Ψ := fun H vx vy r h1 h2 Q q => by
  cases (show vx = .bl i from h1)
  cases (show vy = .bl j from h2)
  exact ⟨rfl, q _ H (.bl (decide (V.bl i = V.bl j))) (Same.refl H) rfl (by
    have e : decide (V.bl i = V.bl j) = decide (i = j) := by rw [Bool.eq_iff_iff]; simp
    rw [e]
    exact h)⟩
theorem OpD.neB {i j : Bool} (h : Ψ (.bl (!decide (i = j)))) : OpD W rNe s (.bl i) (.bl j) Ψ := fun H vx vy r h1 h2 Q q => by
  cases (show vx = .bl i from h1)
  cases (show vy = .bl j from h2)
  exact ⟨rfl, q _ H (.bl (!decide (V.bl i = V.bl j))) (Same.refl H) rfl (by
    have e : decide (V.bl i = V.bl j) = decide (i = j) := by rw [Bool.eq_iff_iff]; simp
    rw [e]
    exact h)⟩
theorem OpD.isB {i j : Bool} (h : Ψ (.bl (decide (i = j)))) : OpD W rIsB s (.bl i) (.bl j) Ψ := fun H vx vy r h1 h2 Q q =>
  ⟨i, j, h1, h2, q _ H (.bl (decide (i = j))) (Same.refl H) rfl h⟩
theorem OpD.notB {i j : Bool} (h : Ψ (.bl (!decide (i = j)))) : OpD W rNotB s (.bl i) (.bl j) Ψ := fun H vx vy r h1 h2 Q q =>
  ⟨i, j, h1, h2, q _ H (.bl (!decide (i = j))) (Same.refl H) rfl h⟩
theorem atI_is {K : PySem.W.Frag} {Xs : List Addr} {H : Hp} {ds : List D} {vs : List V} {i : Int} {d : D} (h : IsL K Xs H ds vs) (e : atI ds i = some d) : ∃ v, atI vs i = some v ∧ Is K Xs H d v := by
  unfold atI at e ⊢
  rw [h.length]
  cases q : ixN ds.length i with
  | none => rw [q] at e; cases e
  | some j =>
    rw [q] at e
    obtain ⟨v, h1, h2⟩ := h.get (show ds[j]? = some d from e)
    exact ⟨v, h1, h2⟩
theorem OpD.ixT {ds : List D} {i : Int} {d : D} (e : atI ds i = some d) (h : Ψ d) : OpD W (rIxT W.K) s (.tup ds) (.int i) Ψ := fun H vx vy r h1 h2 Q q => by
  obtain ⟨a, xs, rfl, g1, g2⟩ := h1
  obtain ⟨v, e1, e2⟩ := atI_is g2 e
  exact ⟨a, xs, i, v, rfl, h2, IsL.sqT g1, e1, q v H d (Same.refl H) e2 h⟩
theorem OpD.ixL {ds : List D} {i : Int} {d : D} (e : atI ds i = some d) (h : Ψ d) : OpD W (rIxL W.K) s (.lst ds) (.int i) Ψ := fun H vx vy r h1 h2 Q q => by
  obtain ⟨a, xs, rfl, g0, g1, g2⟩ := h1
  obtain ⟨v, e1, e2⟩ := atI_is g2 e
  exact ⟨a, xs, i, v, rfl, h2, SqL.of g1, e1, q v H d (Same.refl H) e2 h⟩
/-- .. of a list of one's own -/
theorem OpD.ixO {p : Addr} {ds : List D} {i : Int} {d : D} (hp : (p, .lst ds) ∈ s.own) (e : atI ds i = some d) (h : Ψ d) : OpD W (rIxL W.K) s (.adr p) (.int i) Ψ := fun H vx vy r h1 h2 Q q => by
  obtain ⟨xs, g1, g2⟩ := r.ow _ hp
  obtain ⟨v, e1, e2⟩ := atI_is g2 e
  exact ⟨p, xs, i, v, h1, h2, SqL.of g1, e1, q v H d (Same.refl H) e2 h⟩
theorem OpD.cat {ds es : List D} (hl : ds.length + es.length ≤ 1000) (h : Ψ (.lst (ds ++ es))) : OpD W rCat s (.lst ds) (.lst es) Ψ := fun H vx vy r h1 h2 Q q => by
  obtain ⟨a, xs, rfl, g0, g1, g2⟩ := h1
  obtain ⟨b, ys, rfl, k0, k1, k2⟩ := h2
  refine ⟨a, b, xs, ys, rfl, rfl, g1, k1, Nat.le_of_lt (small1000 (by rw [g2.length, k2.length]; exact hl)), fun p hp => ?_⟩
  have e : Same H (upd H p (.lst (xs ++ ys))) := Same.new hp
  exact q _ _ (.lst (ds ++ es)) e ⟨p, _, rfl, r.fresh hp, upd_same, IsL.goes (r.goes e) _ _ (g2.append k2)⟩ h
theorem OpD.catT {ds es : List D} (hl : ds.length + es.length ≤ 1000) (h0 : ds ≠ []) (h : Ψ (.tup (ds ++ es))) : OpD W (rCatT W.K) s (.tup ds) (.tup es) Ψ := fun H vx vy r h1 h2 Q q => by
  obtain ⟨a, xs, rfl, g1, g2⟩ := h1
  obtain ⟨b, ys, rfl, k1, k2⟩ := h2
  have hx : xs ≠ [] := fun z => h0 (by
    have := g2.length
    rw [z] at this
    exact List.eq_nil_of_length_eq_zero this.symm)
  refine ⟨a, b, xs, ys, rfl, rfl, IsL.sqT g1, IsL.sqT k1, hx, Nat.le_of_lt (small1000 (by rw [g2.length, k2.length]; exact hl)), fun hy => ?_, fun hy p hp => ?_⟩
  · have he : es = [] := by
      have := k2.length
      rw [hy] at this
      exact List.eq_nil_of_length_eq_zero this.symm
    subst he
    rw [List.append_nil] at h
    exact q _ H (.tup ds) (Same.refl H) ⟨a, xs, rfl, g1, g2⟩ h
  · have e : Same H (upd H p (.tup (xs ++ ys))) := Same.new hp
    exact q _ _ (.tup (ds ++ es)) e ⟨p, _, rfl, .inl upd_same, IsL.goes (r.goes e) _ _ (g2.append k2)⟩ h
end

/-! ### == of data: ints, None, texts (short), tuples, lists -/
mutual
def pd : D → PyData
  | .non => .none | .bl b => .bool b | .int i => .int i | .str x => .str x
  | .tup ds => .tuple (pdL ds) | .lst ds => .list (pdL ds)
  | .ins _ _ => .none | .emp => .none | .scr _ => .none | .adr _ => .none | .ty _ => .none
  | .dct _ => .none | .dtp _ => .none | .exc _ => .none | .exf _ _ => .none
def pdL : List D → List PyData
  | [] => [] | d :: ds => pd d :: pdL ds
end
mutual
/-- ints and Nones in tuples and lists, to a depth -/
def Ip : Nat → D → Bool
  | _, .non => true | _, .int _ => true | _, .str x => PyData.strOk x
  | n + 1, .tup ds => IpL n ds | n + 1, .lst ds => IpL n ds
  | _, _ => false
def IpL : Nat → List D → Bool
  | _, [] => true | n, d :: ds => Ip n d && IpL n ds
end
mutual
theorem Is.dp {K : PySem.W.Frag} {Xs : List Addr} {H : Hp} : ∀ (n : Nat) (d : D) (v : V), Ip n d = true → Is K Xs H d v → Dp K H v (pd d)
  | _, .non, v, _, h => by cases (show v = .non from h); exact .non
  | _, .int i, v, _, h => by cases (show v = .int i from h); exact .int i
  | _, .str x, v, _, h => by cases (show v = .str x from h); exact .str x
  | n + 1, .tup ds, v, i, h => by
    obtain ⟨a, xs, rfl, h1, h2⟩ := h
    exact .tup (IsL.sqT h1) (IsL.dp n ds xs i h2)
  | n + 1, .lst ds, v, i, h => by
    obtain ⟨a, xs, rfl, h0, h1, h2⟩ := h
    exact .lst (SqL.of h1) (IsL.dp n ds xs i h2)
  | 0, .tup _, _, i, _ => nomatch i
  | 0, .lst _, _, i, _ => nomatch i
  | _, .bl _, _, i, _ => by simp [Ip] at i
  | _, .ins _ _, _, i, _ => by simp [Ip] at i
  | _, .emp, _, i, _ => by simp [Ip] at i
  | _, .scr _, _, i, _ => by simp [Ip] at i
  | _, .adr _, _, i, _ => by simp [Ip] at i
  | _, .ty _, _, i, _ => by simp [Ip] at i
  | _, .dct _, _, i, _ => by simp [Ip] at i
  | _, .dtp _, _, i, _ => by simp [Ip] at i
  | _, .exc _, _, i, _ => by simp [Ip] at i
  | _, .exf _ _, _, i, _ => by simp [Ip] at i
theorem IsL.dp {K : PySem.W.Frag} {Xs : List Addr} {H : Hp} : ∀ (n : Nat) (ds : List D) (vs : List V), IpL n ds = true → IsL K Xs H ds vs → DpAll K H vs (pdL ds)
  | _, [], vs, _, h => by cases (show vs = [] from h); exact .nil
  | n, d :: ds, vs, i, h => by
    obtain ⟨x, r, rfl, h1, h2⟩ := h
    have i' : (Ip n d && IpL n ds) = true := by simpa [IpL] using i
    rw [Bool.and_eq_true] at i'
    exact .cons (Is.dp n d x i'.1 h1) (IsL.dp n ds r i'.2 h2)
end
mutual
theorem ip_lay : ∀ (n : Nat) (d : D), Ip n d = true → (pd d).canLay0 = true ∧ (pd d).depth ≤ n + 1
  | _, .non, _ => by simp [pd, PyData.canLay0, PyData.depth]
  | _, .int i, _ => by simp [pd, PyData.canLay0, PyData.depth]
  | _, .str x, i => by
    have i' : PyData.strOk x = true := by simpa [Ip] using i
    simp [pd, PyData.canLay0, PyData.depth, i']
  | n + 1, .tup ds, i => by
    have h := ipL_lay n ds i
    simp only [pd, PyData.canLay0, PyData.depth]
    exact ⟨h.1, by omega⟩
  | n + 1, .lst ds, i => by
    have h := ipL_lay n ds i
    simp only [pd, PyData.canLay0, PyData.depth]
    exact ⟨h.1, by omega⟩
  | 0, .tup _, i => nomatch i
  | 0, .lst _, i => nomatch i
  | _, .bl _, i => by simp [Ip] at i
  | _, .ins _ _, i => by simp [Ip] at i
  | _, .emp, i => by simp [Ip] at i
  | _, .scr _, i => by simp [Ip] at i
  | _, .adr _, i => by simp [Ip] at i
  | _, .ty _, i => by simp [Ip] at i
  | _, .dct _, i => by simp [Ip] at i
  | _, .dtp _, i => by simp [Ip] at i
  | _, .exc _, i => by simp [Ip] at i
  | _, .exf _ _, i => by simp [Ip] at i
theorem ipL_lay : ∀ (n : Nat) (ds : List D), IpL n ds = true → PyData.canLayAll0 (pdL ds) = true ∧ PyData.depthAll (pdL ds) ≤ n + 1
  | _, [], _ => by simp [pdL, PyData.canLayAll0, PyData.depthAll]
  | n, d :: ds, i => by
    have i' : (Ip n d && IpL n ds) = true := by simpa [IpL] using i
    rw [Bool.and_eq_true] at i'
    have h1 := ip_lay n d i'.1
    have h2 := ipL_lay n ds i'.2
    simp only [pdL, PyData.canLayAll0, PyData.depthAll, Bool.and_eq_true]
    exact ⟨⟨h1.1, h2.1⟩, by omega⟩
end
mutual
theorem ip_eqv : ∀ (n : Nat) (d e : D), Ip n d = true → Ip n e = true → (PyData.eqv (pd d) (pd e) = true ↔ d = e)
  | _, .non, .non, _, _ => by simp [pd, PyData.eqv]
  | _, .int i, .int j, _, _ => by simp [pd, PyData.eqv]
  | _, .str x, .str y, _, _ => by simp [pd, PyData.eqv]
  | _, .str _, .non, _, _ => by simp [pd, PyData.eqv]
  | _, .non, .str _, _, _ => by simp [pd, PyData.eqv]
  | _, .str _, .int _, _, _ => by simp [pd, PyData.eqv]
  | _, .int _, .str _, _, _ => by simp [pd, PyData.eqv]
  | _, .str _, .tup _, _, _ => by simp [pd, PyData.eqv]
  | _, .tup _, .str _, _, _ => by simp [pd, PyData.eqv]
  | _, .str _, .lst _, _, _ => by simp [pd, PyData.eqv]
  | _, .lst _, .str _, _, _ => by simp [pd, PyData.eqv]
  | n + 1, .tup ds, .tup es, i, j => by
    have h := ipL_eqv n ds es i j
    simp only [pd, PyData.eqv]
    rw [h]
    exact ⟨fun z => by rw [z], fun z => D.tup.inj z⟩
  | n + 1, .lst ds, .lst es, i, j => by
    have h := ipL_eqv n ds es i j
    simp only [pd, PyData.eqv]
    rw [h]
    exact ⟨fun z => by rw [z], fun z => D.lst.inj z⟩
  | _, .non, .int _, _, _ => by simp [pd, PyData.eqv]
  | _, .non, .tup _, _, _ => by simp [pd, PyData.eqv]
  | _, .non, .lst _, _, _ => by simp [pd, PyData.eqv]
  | _, .int _, .non, _, _ => by simp [pd, PyData.eqv]
  | _, .int _, .tup _, _, _ => by simp [pd, PyData.eqv]
  | _, .int _, .lst _, _, _ => by simp [pd, PyData.eqv]
  | _, .tup _, .non, _, _ => by simp [pd, PyData.eqv]
  | _, .tup _, .int _, _, _ => by simp [pd, PyData.eqv]
  | _, .tup _, .lst _, _, _ => by simp [pd, PyData.eqv]
  | _, .lst _, .non, _, _ => by simp [pd, PyData.eqv]
  | _, .lst _, .int _, _, _ => by simp [pd, PyData.eqv]
  | _, .lst _, .tup _, _, _ => by simp [pd, PyData.eqv]
  | 0, .tup _, .tup _, i, _ => nomatch i
  | 0, .lst _, .lst _, i, _ => nomatch i
  | _, .bl _, _, i, _ => by simp [Ip] at i
  | _, .ins _ _, _, i, _ => by simp [Ip] at i
  | _, .emp, _, i, _ => by simp [Ip] at i
  | _, .scr _, _, i, _ => by simp [Ip] at i
  | _, .adr _, _, i, _ => by simp [Ip] at i
  | _, .ty _, _, i, _ => by simp [Ip] at i
  | _, .dct _, _, i, _ => by simp [Ip] at i
  | _, .dtp _, _, i, _ => by simp [Ip] at i
  | _, .exc _, _, i, _ => by simp [Ip] at i
  | _, .exf _ _, _, i, _ => by simp [Ip] at i
  | _, _, .bl _, _, i => by simp [Ip] at i
  | _, _, .ins _ _, _, i => by simp [Ip] at i
  | _, _, .emp, _, i => by simp [Ip] at i
  | _, _, .scr _, _, i => by simp [Ip] at i
  | _, _, .adr _, _, i => by simp [Ip] at i
  | _, _, .ty _, _, i => by simp [Ip] at i
  | _, _, .dct _, _, i => by simp [Ip] at i
  | _, _, .dtp _, _, i => by simp [Ip] at i
  | _, _, .exc _, _, i => by simp [Ip] at i
  | _, _, .exf _ _, _, i => by simp [Ip] at i
theorem ipL_eqv : ∀ (n : Nat) (ds es : List D), IpL n ds = true → IpL n es = true → (PyData.eqvAll (pdL ds) (pdL es) = true ↔ ds = es)
  | _, [], [], _, _ => by simp [pdL, PyData.eqvAll]
  | n, d :: ds, e :: es, i, j => by
    have i' : (Ip n d && IpL n ds) = true := by simpa [IpL] using i
    have j' : (Ip n e && IpL n es) = true := by simpa [IpL] using j
    rw [Bool.and_eq_true] at i' j'
    have h1 := ip_eqv n d e i'.1 j'.1
    have h2 := ipL_eqv n ds es i'.2 j'.2
    simp only [pdL, PyData.eqvAll, Bool.and_eq_true, h1, h2, List.cons.injEq]
  | _, [], _ :: _, _, _ => by simp [pdL, PyData.eqvAll]
  | _, _ :: _, [], _, _ => by simp [pdL, PyData.eqvAll]
end
theorem ip_shaped {d : D} (h : Ip 40 d = true) : SeqAt.shaped (pd d) = true := by
  have := ip_lay 40 d h
  unfold SeqAt.shaped
  rw [Bool.and_eq_true, decide_eq_true_eq]
  exact ⟨this.1, by omega⟩
section
variable {W : Wd} {s : Rs} {Ψ : D → Prop}
theorem OpD.eqD {d e : D} (hd : Ip 40 d = true) (he : Ip 40 e = true) (h : ∀ b : Bool, (b = true ↔ d = e) → Ψ (.bl b)) : OpD W (rEqD W.K) s d e Ψ := fun H vx vy r h1 h2 Q q =>
  ⟨pd d, pd e, Is.dp 40 d vx hd h1, Is.dp 40 e vy he h2, ip_shaped hd, ip_shaped he, q _ H (.bl _) (Same.refl H) rfl (h _ (ip_eqv 40 d e hd he))⟩
theorem OpD.neD {d e : D} (hd : Ip 40 d = true) (he : Ip 40 e = true) (h : ∀ b : Bool, (b = true ↔ d ≠ e) → Ψ (.bl b)) : OpD W (rNeD W.K) s d e Ψ := fun H vx vy r h1 h2 Q q =>
  ⟨pd d, pd e, Is.dp 40 d vx hd h1, Is.dp 40 e vy he h2, ip_shaped hd, ip_shaped he, q _ H (.bl _) (Same.refl H) rfl (h _ (by
    have e := ip_eqv 40 d e hd he
    rw [Bool.not_eq_true', ← Bool.not_eq_true, e]))⟩
end

/-! ### calls of built-ins -/
section
variable {W : Wd} {s : Rs} {Ψ : D → Prop}
theorem IsL.one {K : PySem.W.Frag} {Xs : List Addr} {H : Hp} {d : D} {vs : List V} (h : IsL K Xs H [d] vs) : ∃ v, vs = [v] ∧ Is K Xs H d v := by
  obtain ⟨v, r, rfl, h1, h2⟩ := h
  cases (show r = [] from h2)
  exact ⟨v, rfl, h1⟩
theorem IsL.two {K : PySem.W.Frag} {Xs : List Addr} {H : Hp} {d e : D} {vs : List V} (h : IsL K Xs H [d, e] vs) : ∃ v w, vs = [v, w] ∧ Is K Xs H d v ∧ Is K Xs H e w := by
  obtain ⟨v, r, rfl, h1, h2⟩ := h
  obtain ⟨w, rfl, h3⟩ := IsL.one h2
  exact ⟨v, w, rfl, h1, h3⟩
theorem CbD.abs {i : Int} (h : Ψ (.int i.natAbs)) : CbD W (fun xs H Q => ∃ i, xs = [.int i] ∧ Q (.int (if i < 0 then -i else i)) H) s [.int i] Ψ := fun H vs r h1 Q q => by
  obtain ⟨v, rfl, h2⟩ := IsL.one h1
  cases (show v = .int i from h2)
  refine ⟨i, rfl, q _ H (.int i.natAbs) (Same.refl H) ?_ h⟩
  show V.int _ = V.int _
  congr 1
  split <;> omega
theorem CbD.int1 {i : Int} (h : Ψ (.int i)) : CbD W (fun xs H Q => (∃ i, xs = [.int i] ∧ Q (.int i) H) ∨ ∃ k, xs = [.bl k] ∧ Q (.int (if k then 1 else 0)) H) s [.int i] Ψ := fun H vs r h1 Q q => by
  obtain ⟨v, rfl, h2⟩ := IsL.one h1
  cases (show v = .int i from h2)
  exact .inl ⟨i, rfl, q _ H (.int i) (Same.refl H) rfl h⟩
theorem CbD.intB {k : Bool} (h : Ψ (.int (if k then 1 else 0))) : CbD W (fun xs H Q => (∃ i, xs = [.int i] ∧ Q (.int i) H) ∨ ∃ k, xs = [.bl k] ∧ Q (.int (if k then 1 else 0)) H) s [.bl k] Ψ := fun H vs r h1 Q q => by
  obtain ⟨v, rfl, h2⟩ := IsL.one h1
  cases (show v = .bl k from h2)
  exact .inr ⟨k, rfl, q _ H (.int _) (Same.refl H) rfl h⟩
theorem CbD.max2 {i j : Int} (h : Ψ (.int (if j > i then j else i))) : CbD W (fun xs H Q => ∃ i j, xs = [.int i, .int j] ∧ Q (.int (if j > i then j else i)) H) s [.int i, .int j] Ψ := fun H vs r h1 Q q => by
  obtain ⟨v, w, rfl, h2, h3⟩ := IsL.two h1
  cases (show v = .int i from h2)
  cases (show w = .int j from h3)
  exact ⟨i, j, rfl, q _ H (.int _) (Same.refl H) rfl h⟩
theorem CbD.min2 {i j : Int} (h : Ψ (.int (if j < i then j else i))) : CbD W (fun xs H Q => ∃ i j, xs = [.int i, .int j] ∧ Q (.int (if j < i then j else i)) H) s [.int i, .int j] Ψ := fun H vs r h1 Q q => by
  obtain ⟨v, w, rfl, h2, h3⟩ := IsL.two h1
  cases (show v = .int i from h2)
  cases (show w = .int j from h3)
  exact ⟨i, j, rfl, q _ H (.int _) (Same.refl H) rfl h⟩
/-- len, of the rule call_len_seq -/
abbrev rLen (K : PySem.W.Frag) : List V → Hp → VK → Prop := fun xs H Q => ∃ p ys, xs = [.ref p] ∧ (SqL K H p ys ∨ SqT K H p ys) ∧ Q (.int ys.length) H
theorem CbD.lenT {ds : List D} (h : Ψ (.int ds.length)) : CbD W (rLen W.K) s [.tup ds] Ψ := fun H vs r h1 Q q => by
  obtain ⟨v, rfl, a, xs, rfl, g1, g2⟩ := IsL.one h1
  exact ⟨a, xs, rfl, .inr (IsL.sqT g1), q _ H (.int ds.length) (Same.refl H) (by rw [g2.length]; rfl) h⟩
theorem CbD.lenL {ds : List D} (h : Ψ (.int ds.length)) : CbD W (rLen W.K) s [.lst ds] Ψ := fun H vs r h1 Q q => by
  obtain ⟨v, rfl, a, xs, rfl, g0, g1, g2⟩ := IsL.one h1
  exact ⟨a, xs, rfl, .inl (SqL.of g1), q _ H (.int ds.length) (Same.refl H) (by rw [g2.length]; rfl) h⟩
theorem CbD.lenO {p : Addr} {ds : List D} (hp : (p, .lst ds) ∈ s.own) (h : Ψ (.int ds.length)) : CbD W (rLen W.K) s [.adr p] Ψ := fun H vs r h1 Q q => by
  obtain ⟨v, rfl, h2⟩ := IsL.one h1
  obtain ⟨xs, g1, g2⟩ := r.ow _ hp
  exact ⟨p, xs, by rw [show v = .ref p from h2], .inl (SqL.of g1), q _ H (.int ds.length) (Same.refl H) (by rw [g2.length]; rfl) h⟩
theorem scr_sq {K : PySem.W.Frag} {Xs : List Addr} {H : Hp} {ns : List Int} {v : V} (h : Is K Xs H (.scr ns) v) : ∃ a, v = .ref a ∧ SqL K H a (ns.map V.int) := by
  obtain ⟨a, e, h1⟩ := h
  rcases h1 with ⟨o, h1⟩ | h1 | ⟨_, h1⟩
  · exact ⟨a, e, .inl (.inr ⟨o, h1⟩)⟩
  · exact ⟨a, e, .inr h1⟩
  · exact ⟨a, e, .inl (.inl h1)⟩
theorem CbD.lenS {ns : List Int} (h : Ψ (.int ns.length)) : CbD W (rLen W.K) s [.scr ns] Ψ := fun H vs r h1 Q q => by
  obtain ⟨v, rfl, h2⟩ := IsL.one h1
  obtain ⟨a, rfl, hs⟩ := scr_sq h2
  exact ⟨a, _, rfl, .inl hs, q _ H (.int ns.length) (Same.refl H) (by rw [List.length_map]; rfl) h⟩
theorem CbD.lenD (h : Ψ (.int 0)) : CbD W (fun xs H Q => ∃ x n, xs = [x] ∧ LenV W.K x H n ∧ Q (.int n) H) s [.lst []] Ψ := fun H vs r h1 Q q => by
  obtain ⟨v, rfl, a, xs, rfl, g0, g1, g2⟩ := IsL.one h1
  cases (show xs = [] from g2)
  exact ⟨.ref a, 0, rfl, .inl ⟨_, SqL.of g1, rfl⟩, q _ H (.int 0) (Same.refl H) rfl h⟩
abbrev rListOf (K : PySem.W.Frag) : List V → Hp → VK → Prop := fun xs H Q => ∃ p ys, xs = [.ref p] ∧ (SqL K H p ys ∨ SqT K H p ys) ∧ ∀ l, H l = none → Q (.ref l) (upd H l (.lst ys))
theorem CbD.listOfT {ds : List D} (h : Ψ (.lst ds)) : CbD W (rListOf W.K) s [.tup ds] Ψ := fun H vs r h1 Q q => by
  obtain ⟨v, rfl, a, xs, rfl, g1, g2⟩ := IsL.one h1
  refine ⟨a, xs, rfl, .inr (IsL.sqT g1), fun p hp => ?_⟩
  have e : Same H (upd H p (.lst xs)) := Same.new hp
  exact q _ _ (.lst ds) e ⟨p, xs, rfl, r.fresh hp, upd_same, IsL.goes (r.goes e) _ _ g2⟩ h
theorem CbD.listOfL {ds : List D} (h : Ψ (.lst ds)) : CbD W (rListOf W.K) s [.lst ds] Ψ := fun H vs r h1 Q q => by
  obtain ⟨v, rfl, a, xs, rfl, g0, g1, g2⟩ := IsL.one h1
  refine ⟨a, xs, rfl, .inl (SqL.of g1), fun p hp => ?_⟩
  have e : Same H (upd H p (.lst xs)) := Same.new hp
  exact q _ _ (.lst ds) e ⟨p, xs, rfl, r.fresh hp, upd_same, IsL.goes (r.goes e) _ _ g2⟩ h
abbrev rTupleOf (K : PySem.W.Frag) : List V → Hp → VK → Prop := fun xs H Q => ∃ p ys, xs = [.ref p] ∧ ((SqL K H p ys ∧ ∀ l, H l = none → Q (.ref l) (upd H l (.tup ys))) ∨ (SqT K H p ys ∧ Q (.ref p) H))
theorem CbD.tupleOfL {ds : List D} (h : Ψ (.tup ds)) : CbD W (rTupleOf W.K) s [.lst ds] Ψ := fun H vs r h1 Q q => by
  obtain ⟨v, rfl, a, xs, rfl, g0, g1, g2⟩ := IsL.one h1
  refine ⟨a, xs, rfl, .inl ⟨SqL.of g1, fun p hp => ?_⟩⟩
  have e : Same H (upd H p (.tup xs)) := Same.new hp
  exact q _ _ (.tup ds) e ⟨p, xs, rfl, .inl upd_same, IsL.goes (r.goes e) _ _ g2⟩ h
theorem CbD.tupleOfT {ds : List D} (h : Ψ (.tup ds)) : CbD W (rTupleOf W.K) s [.tup ds] Ψ := fun H vs r h1 Q q => by
  obtain ⟨v, rfl, a, xs, rfl, g1, g2⟩ := IsL.one h1
  exact ⟨a, xs, rfl, .inr ⟨IsL.sqT g1, q _ H (.tup ds) (Same.refl H) ⟨a, xs, rfl, g1, g2⟩ h⟩⟩
/-- the built-in type of data -/
def tyName : D → String
  | .non => "NoneType" | .bl _ => "bool" | .int _ => "int" | .str _ => "str" | .tup _ => "tuple" | .lst _ => "list" | .scr _ => "list" | .emp => "dict"
  | .ins _ _ => "?" | .adr _ => "?" | .ty _ => "?" | .dct _ => "dict" | .dtp _ => "dict" | .exc _ => "?" | .exf _ _ => "?"
theorem Is.tyX {K : PySem.W.Frag} {Xs : List Addr} {H : Hp} {d : D} {v : V} (hn : tyName d ≠ "?") (h : Is K Xs H d v) : TyX K H v (.type (tyName d)) := by
  cases d with
  | non => cases (show v = .non from h); exact .base .non
  | bl b => cases (show v = .bl b from h); exact .base (.bl b)
  | int i => cases (show v = .int i from h); exact .base (.int i)
  | str x => cases (show v = .str x from h); exact .base (.str x)
  | tup ds =>
    obtain ⟨a, xs, rfl, h1, h2⟩ := h
    rcases h1 with h1 | ⟨o, its, n, hk, hc, _⟩
    · exact .base (.tup h1)
    · exact .kTuple hk hc
  | lst ds =>
    obtain ⟨a, xs, rfl, h0, h1, h2⟩ := h
    exact .base (.lst h1)
  | emp =>
    obtain ⟨a, rfl, h0, h1⟩ := h
    exact h1.elim (fun z => .base (.dK z)) fun ⟨o, z⟩ => .fDict z
  | scr ns =>
    obtain ⟨a, rfl, h1⟩ := h
    rcases h1 with ⟨o, h1⟩ | ⟨o, its, n, hk, hc, _⟩ | ⟨_, h1⟩
    · exact .base (.frz h1)
    · exact .kList hk hc
    · exact .base (.lst h1)
  | ins C fs => exact absurd rfl hn
  | adr a => exact absurd rfl hn
  | ty n => exact absurd rfl hn
  | dct kvs =>
    obtain ⟨a, vs, rfl, h0, h1, h2⟩ := h
    exact h1.elim (fun z => .base (.dK z)) fun ⟨o, z⟩ => .fDict z
  | dtp kvs =>
    obtain ⟨a, vs, rfl, h0, h1, h2⟩ := h
    exact .base (.dT h1)
  | exc C => exact absurd rfl hn
  | exf C fs => exact absurd rfl hn
/-- isinstance(x, T), T a built-in type by its name -/
theorem CbD.isi {d : D} {T : String} {b : Bool} (hn : tyName d ≠ "?") (hb : PySem.W.kitOne W.K (.type (tyName d)) (.type T) = some b) (h : Ψ (.bl b)) : CbD W (rIsi W.K) s [d, .ty T] Ψ := fun H vs r h1 Q q => by
  obtain ⟨v, w, rfl, h2, h3⟩ := IsL.two h1
  cases (show w = .ty T from h3)
  exact ⟨v, .ty T, _, _, b, rfl, .ty T, Is.tyX hn h2, hb, q _ H (.bl b) (Same.refl H) rfl h⟩
theorem CbD.isi_non {T : String} (r : Bool) (hb : kitB "NoneType" T = some r) (h : Ψ (.bl r)) : CbD W (rIsi W.K) s [.non, .ty T] Ψ := CbD.isi (d := .non) (fun e => by simp only [tyName] at e; exact absurd e (by decide)) (kit_ty hb) h
theorem CbD.isi_bl {x : Bool} {T : String} (r : Bool) (hb : kitB "bool" T = some r) (h : Ψ (.bl r)) : CbD W (rIsi W.K) s [.bl x, .ty T] Ψ := CbD.isi (d := (.bl x)) (fun e => by simp only [tyName] at e; exact absurd e (by decide)) (kit_ty hb) h
theorem CbD.isi_int {x : Int} {T : String} (r : Bool) (hb : kitB "int" T = some r) (h : Ψ (.bl r)) : CbD W (rIsi W.K) s [.int x, .ty T] Ψ := CbD.isi (d := (.int x)) (fun e => by simp only [tyName] at e; exact absurd e (by decide)) (kit_ty hb) h
theorem CbD.isi_str {x : Str} {T : String} (r : Bool) (hb : kitB "str" T = some r) (h : Ψ (.bl r)) : CbD W (rIsi W.K) s [.str x, .ty T] Ψ := CbD.isi (d := (.str x)) (fun e => by simp only [tyName] at e; exact absurd e (by decide)) (kit_ty hb) h
theorem CbD.isi_tup {x : List D} {T : String} (r : Bool) (hb : kitB "tuple" T = some r) (h : Ψ (.bl r)) : CbD W (rIsi W.K) s [.tup x, .ty T] Ψ := CbD.isi (d := (.tup x)) (fun e => by simp only [tyName] at e; exact absurd e (by decide)) (kit_ty hb) h
theorem CbD.isi_lst {x : List D} {T : String} (r : Bool) (hb : kitB "list" T = some r) (h : Ψ (.bl r)) : CbD W (rIsi W.K) s [.lst x, .ty T] Ψ := CbD.isi (d := (.lst x)) (fun e => by simp only [tyName] at e; exact absurd e (by decide)) (kit_ty hb) h
theorem CbD.isi_emp {T : String} (r : Bool) (hb : kitB "dict" T = some r) (h : Ψ (.bl r)) : CbD W (rIsi W.K) s [.emp, .ty T] Ψ := CbD.isi (d := .emp) (fun e => by simp only [tyName] at e; exact absurd e (by decide)) (kit_ty hb) h
theorem CbD.isi_dct {kvs : List (Key × D)} {T : String} (r : Bool) (hb : kitB "dict" T = some r) (h : Ψ (.bl r)) : CbD W (rIsi W.K) s [.dct kvs, .ty T] Ψ := CbD.isi (d := .dct kvs) (fun e => by simp only [tyName] at e; exact absurd e (by decide)) (kit_ty hb) h
theorem CbD.isi_dtp {kvs : List (List Key × D)} {T : String} (r : Bool) (hb : kitB "dict" T = some r) (h : Ψ (.bl r)) : CbD W (rIsi W.K) s [.dtp kvs, .ty T] Ψ := CbD.isi (d := .dtp kvs) (fun e => by simp only [tyName] at e; exact absurd e (by decide)) (kit_ty hb) h
theorem CbD.isi_d {d : D} {T : String} (r : Bool) (hd : (∃ kvs, d = .dct kvs) ∨ ∃ kvs, d = .dtp kvs) (hb : kitB "dict" T = some r) (h : Ψ (.bl r)) : CbD W (rIsi W.K) s [d, .ty T] Ψ := by
  rcases hd with ⟨kvs, rfl⟩ | ⟨kvs, rfl⟩
  · exact CbD.isi_dct r hb h
  · exact CbD.isi_dtp r hb h
theorem CbD.isi_scr {x : List Int} {T : String} (r : Bool) (hb : kitB "list" T = some r) (h : Ψ (.bl r)) : CbD W (rIsi W.K) s [.scr x, .ty T] Ψ := CbD.isi (d := (.scr x)) (fun e => by simp only [tyName] at e; exact absurd e (by decide)) (kit_ty hb) h
end
end Pw

namespace Pw
open PySem PySem.Spec PyProof.Rows L2

/-! ### promises over data -/
abbrev PSp := List D → (D → Prop) → Prop
abbrev ESp := List D → Nat → (D → Nat → Prop) → Prop
/-- a def that changes nothing -/
def liftP (K : PySem.W.Frag) (T : List (Addr × Str)) (S : PSp) : Sp := fun vs H Q _ => ∃ (Xs : List Addr) (ds : List D) (Φ : D → Prop), Xs.Nodup ∧ (∀ a ∈ Xs, Mut (H a)) ∧ LamX.Tabs T H ∧ IsL K Xs H ds vs ∧ S ds Φ ∧
  ∀ d v H', Φ d → ExtT T H H' → Is K Xs H' d v → Q v H'
/-- a def that draws: its first argument is the draw -/
def liftE (K : PySem.W.Frag) (T : List (Addr × Str)) (S : ESp) : Sp := fun vs H Q _ => ∃ (Xs : List Addr) (A B C : Addr) (n : Nat) (ds : List D) (vs' : List V) (Φ : D → Nat → Prop), vs = .ref A :: vs' ∧ ([A, B, C] ++ Xs).Nodup ∧
  (∀ a ∈ [A, B, C] ++ Xs, Mut (H a)) ∧ LamX.Tabs T H ∧ Drw (A, B, C, n) H ∧ IsL K ([A, B, C] ++ Xs) H ds vs' ∧ S ds n Φ ∧
  ∀ d n' v H', Φ d n' → (∀ a o, a ∉ [A, B] → NT o → H a = some o → H' a = some o) → LamX.Tabs T H' → Drw (A, B, C, n') H' → Is K ([A, B, C] ++ Xs) H' d v → Q v H'
/-- the draw's making -/
def liftB (K : PySem.W.Frag) : Sp := fun vs H Q _ => ∃ (Xs : List Addr) (ns : List Int), Xs.Nodup ∧ (∀ a ∈ Xs, Mut (H a)) ∧ IsL K Xs H [.scr ns] vs ∧ ns.length ≤ 63 ∧
  ∀ A B C H', Same H H' → H A = none → H B = none → H C = none → [A, B, C].Nodup → Drw (A, B, C, 2 ^ 39) H' → Q (.ref A) H'

def startD (N : List Str) (ds : List (Option D)) : En := ds ++ List.replicate (N.length - ds.length) none
theorem startD_len {N : List Str} {ds : List (Option D)} (h : ds.length ≤ N.length) : (startD N ds).length = N.length := by
  unfold startD
  rw [List.length_append, List.length_replicate]
  omega
theorem start_len {N : List Str} {vs : List V} (h : vs.length ≤ N.length) : (L2.start N vs).length = N.length := by
  unfold L2.start
  rw [List.length_append, List.length_replicate, List.length_map]
  omega
theorem start_sl {K : PySem.W.Frag} {Xs : List Addr} {H : Hp} {N : List Str} {ds : List D} {vs : List V} (h : IsL K Xs H ds vs) :
    ∀ (i : Nat) d, (startD N (ds.map some))[i]? = some (some d) → ∃ v, (L2.start N vs)[i]? = some (some v) ∧ Is K Xs H d v := fun i d e => by
  unfold startD at e
  by_cases hi : i < (ds.map (some : D → Option D)).length
  · rw [List.getElem?_append_left hi, List.getElem?_map] at e
    cases q : ds[i]? with
    | none => rw [q] at e; cases e
    | some d' =>
      rw [q] at e
      cases e
      obtain ⟨v, h1, h2⟩ := h.get q
      refine ⟨v, ?_, h2⟩
      unfold L2.start
      rw [List.getElem?_append_left (by rw [List.length_map, h.length]; simpa using hi), List.getElem?_map, h1]
      rfl
  · rw [List.getElem?_append_right (Nat.le_of_not_lt hi), List.getElem?_replicate] at e
    split at e <;> cases e

section
variable {P : Program} {w : World} {K : PySem.W.Frag} {mg : Str → Option Value} {base : Heap}
/-- THE RULE for a def over data -/
theorem okP {x qual : Str} {st : Stmt} {f : Addr} {fd : FuncData} {N ps : List Str} {k : Nat} {T : List (Addr × Str)} {S : PSp} (F : Fun K x qual st f fd) (Sc : FnScope N ps (defScope st)) (len : ∀ ds Φ, S ds Φ → ds.length = ps.length) (hN : ps.length ≤ N.length)
    (hbody : ∀ (cdv : Value) (A : Around) (outer : List Env) (s : Shared) (H : Hp) (E : XK), Room k (A.deeper (envOfC qual (defScope st) s.heap.objs.size f cdv)) →
      ∃ t, PSs (cxOf CX0 P w K mg base N qual (defScope st) f cdv A outer s H E).nox (defBody st) t ∧
        ∀ (H0 : Hp) (Xs : List Addr) (ds : List D) (Φ : D → Prop), S ds Φ → LS ⟨K, H0, [], Xs, [], T⟩ t (startD N (ds.map some)) { oth := Xs } (fun _ _ => Φ .non) (fun d _ => Φ d) (fun _ _ => False) (fun _ _ => False)) :
    FnOk P w K mg base CX0 (k + 1) f fd ps (liftP K T S) := by
  refine F.ok Sc (fun vs H Q E h => ?_) fun cdv A outer s H vs Q E hr h => ?_
  · obtain ⟨Xs, ds, Φ, _, _, _, h1, h2, _⟩ := h
    rw [h1.length, len ds Φ h2]
  · obtain ⟨Xs, ds, Φ, hnd, hmu, hT, hds, hS, q⟩ := h
    obtain ⟨t, ht, hL⟩ := hbody cdv A outer s H E hr
    have hl : ds.length = ps.length := len ds Φ hS
    refine ⟨t, ht, hL (noTb H) Xs ds Φ hS _ (L2.start N vs) H ⟨⟨?_, ?_, ?_, ?_⟩, fun _ _ _ h => (noTb_get h).1, ?_, ?_, (fun e he => by cases he), (fun e he => by cases he), ⟨hT, noTb_n⟩, ?_, ?_⟩ ⟨?_, ?_, ?_, ?_⟩⟩
    · exact hmu
    · exact hnd
    · intro e he; cases he
    · intro e he; cases he
    · intro a ha; exact ha
    · intro e he; cases he
    · rw [start_len (by rw [hds.length]; omega), startD_len (by rw [List.length_map]; omega)]
    · exact start_sl hds
    · intro σ' H' ρ' s' o k
      exact q .non .non H' k ⟨fun a u e n => o.fr a u (by simp) (noTb_of e n), o.tbs.t⟩ rfl
    · intro v σ' H' ρ' d s' o i k
      exact q d v H' k ⟨fun a u e n => o.fr a u (by simp) (noTb_of e n), o.tbs.t⟩ (Is.anti (fun a h1 _ h2 => h1 (o.sub a h2)) d v i)
    · intro σ' H' ρ' s' o k; exact k
    · intro σ' H' ρ' s' o k; exact k
theorem okPD {x qual : Str} {params : Arguments} {body : List Stmt} {scope : Scope} {dvs : List V} {kws : List (Str × V)} {f : Addr} {fd : FuncData} {N ps : List Str} {k : Nat} {T : List (Addr × Str)} {S : PSp} (F : FunD K x qual params body scope dvs kws f fd) (Sc : FnScope N ps scope) (len : ∀ ds Φ, S ds Φ → ds.length = ps.length) (hN : ps.length ≤ N.length)
    (hbody : ∀ (cdv : Value) (A : Around) (outer : List Env) (s : Shared) (H : Hp) (E : XK), Room k (A.deeper (envOfC qual scope s.heap.objs.size f cdv)) →
      ∃ t, PSs (cxOf CX0 P w K mg base N qual scope f cdv A outer s H E).nox body t ∧
        ∀ (H0 : Hp) (Xs : List Addr) (ds : List D) (Φ : D → Prop), S ds Φ → LS ⟨K, H0, [], Xs, [], T⟩ t (startD N (ds.map some)) { oth := Xs } (fun _ _ => Φ .non) (fun d _ => Φ d) (fun _ _ => False) (fun _ _ => False)) :
    FnOk P w K mg base CX0 (k + 1) f fd ps (liftP K T S) := by
  refine F.ok Sc (fun vs H Q E h => ?_) fun cdv A outer s H vs Q E hr h => ?_
  · obtain ⟨Xs, ds, Φ, _, _, _, h1, h2, _⟩ := h
    rw [h1.length, len ds Φ h2]
  · obtain ⟨Xs, ds, Φ, hnd, hmu, hT, hds, hS, q⟩ := h
    obtain ⟨t, ht, hL⟩ := hbody cdv A outer s H E hr
    have hl : ds.length = ps.length := len ds Φ hS
    refine ⟨t, ht.nox, hL (noTb H) Xs ds Φ hS _ (L2.start N vs) H ⟨⟨?_, ?_, ?_, ?_⟩, fun _ _ _ h => (noTb_get h).1, ?_, ?_, (fun e he => by cases he), (fun e he => by cases he), ⟨hT, noTb_n⟩, ?_, ?_⟩ ⟨?_, ?_, ?_, ?_⟩⟩
    · exact hmu
    · exact hnd
    · intro e he; cases he
    · intro e he; cases he
    · intro a ha; exact ha
    · intro e he; cases he
    · rw [start_len (by rw [hds.length]; omega), startD_len (by rw [List.length_map]; omega)]
    · exact start_sl hds
    · intro σ' H' ρ' s' o k
      exact q .non .non H' k ⟨fun a u e n => o.fr a u (by simp) (noTb_of e n), o.tbs.t⟩ rfl
    · intro v σ' H' ρ' d s' o i k
      exact q d v H' k ⟨fun a u e n => o.fr a u (by simp) (noTb_of e n), o.tbs.t⟩ (Is.anti (fun a h1 _ h2 => h1 (o.sub a h2)) d v i)
    · intro σ' H' ρ' s' o k; exact k
    · intro σ' H' ρ' s' o k; exact k
theorem okE {x qual : Str} {st : Stmt} {f : Addr} {fd : FuncData} {N ps : List Str} {k : Nat} {T : List (Addr × Str)} {S : ESp} (F : Fun K x qual st f fd) (Sc : FnScope N ps (defScope st)) (len : ∀ ds n Φ, S ds n Φ → ds.length + 1 = ps.length) (hN : ps.length ≤ N.length)
    (hbody : ∀ (cdv : Value) (A : Around) (outer : List Env) (s : Shared) (H : Hp) (E : XK), Room k (A.deeper (envOfC qual (defScope st) s.heap.objs.size f cdv)) →
      ∃ t, PSs (cxOf CX0 P w K mg base N qual (defScope st) f cdv A outer s H E).nox (defBody st) t ∧
        ∀ (H0 : Hp) (Xs : List Addr) (a b c : Addr) (n : Nat) (ds : List D) (Φ : D → Nat → Prop), S ds n Φ → LS ⟨K, H0, [a, b], [a, b, c] ++ Xs, [], T⟩ t (startD N (some (.adr a) :: ds.map some)) { drw := [(a, b, c, n)], oth := Xs }
          (fun _ s' => ∃ n', s'.drw = [(a, b, c, n')] ∧ Φ .non n') (fun d s' => ∃ n', s'.drw = [(a, b, c, n')] ∧ Φ d n') (fun _ _ => False) (fun _ _ => False)) :
    FnOk P w K mg base CX0 (k + 1) f fd ps (liftE K T S) := by
  refine F.ok Sc (fun vs H Q E h => ?_) fun cdv A outer s H vs Q E hr h => ?_
  · obtain ⟨Xs, a, b, c, n, ds, vs', Φ, rfl, _, _, _, _, h1, h2, _⟩ := h
    rw [List.length_cons, h1.length, len ds n Φ h2]
  · obtain ⟨Xs, a, b, c, n, ds, vs', Φ, rfl, hnd, hmu, hT, hdr, hds, hS, q⟩ := h
    obtain ⟨t, ht, hL⟩ := hbody cdv A outer s H E hr
    have hl : ds.length + 1 = ps.length := len ds n Φ hS
    have hds' : IsL K ([a, b, c] ++ Xs) H (.adr a :: ds) (.ref a :: vs') := ⟨.ref a, vs', rfl, rfl, hds⟩
    refine ⟨t, ht, hL (noTb H) Xs a b c n ds Φ hS _ (L2.start N (.ref a :: vs')) H ⟨⟨?_, ?_, ?_, ?_⟩, fun _ _ _ h => (noTb_get h).1, ?_, ?_, (fun e he => by cases he), (fun e he => by cases he), ⟨hT, noTb_n⟩, ?_, ?_⟩ ⟨?_, ?_, ?_, ?_⟩⟩
    · exact hmu
    · exact hnd
    · intro e he
      have : e = (a, b, c, n) := by simpa using he
      rw [this]
      exact hdr
    · intro e he; cases he
    · intro a ha; exact ha
    · intro e he x hx
      have : e = (a, b, c, n) := by simpa using he
      rw [this] at hx
      exact .inl hx
    · rw [start_len (by rw [hds'.length, List.length_cons]; omega), startD_len (by rw [List.length_cons, List.length_map]; omega)]
    · exact start_sl hds'
    · intro σ' H' ρ' s' o k
      obtain ⟨n', e, k⟩ := k
      exact q .non n' .non H' k (fun a u h nt e => o.fr a u h (noTb_of e nt)) o.tbs.t (o.rk.dr _ (by rw [e]; simp)) rfl
    · intro v σ' H' ρ' d s' o i k
      obtain ⟨n', e, k⟩ := k
      exact q d n' v H' k (fun a u h nt e => o.fr a u h (noTb_of e nt)) o.tbs.t (o.rk.dr _ (by rw [e]; simp)) (Is.anti (fun a h1 _ h2 => h1 (o.sub a h2)) d v i)
    · intro σ' H' ρ' s' o k; exact k
    · intro σ' H' ρ' s' o k; exact k
end

/-! ### calls -/
section
variable {W : Wd} {ρ : En} {s : Rs} {Φ : D → Rs → Prop} {t : TA} {E : XK}
theorem LE.callP {S : PSp} {dvs : List V} {dds : List D} (hd : ∀ Xs H, IsL W.K Xs H dds dvs) (h : LA W t ρ s fun ds s1 => S (ds ++ dds) fun d => Φ d s1) : LE W (tCall (liftP W.K W.tb S) dvs E t) ρ s Φ := fun σ H o Q q => by
  refine h σ H o _ fun vs H1 ds s1 o1 p1 i1 k => ?_
  refine ⟨adrs s1, ds ++ dds, fun d => Φ d s1, o1.rk.nd, o1.rk.mu, o1.tbs.t, i1.append (hd _ _), k, fun d v H' f e i => ?_⟩
  exact q v H' d s1 (o1.ext e) (p1.trans (o1.presT e)) i f
/-- no defaults -/
theorem LE.call {S : PSp} (h : LA W t ρ s fun ds s1 => S ds fun d => Φ d s1) : LE W (tCall (liftP W.K W.tb S) [] E t) ρ s Φ :=
  LE.callP (dds := []) (fun _ _ => rfl) (fun σ H o Q q => h σ H o Q fun vs H' ds s' o' p i k => q vs H' ds s' o' p i (by show S (ds ++ []) _; rw [List.append_nil]; exact k))

theorem adrs_perm {s : Rs} {A B C : Addr} {n : Nat} (h : s.drw = [(A, B, C, n)]) : ([A, B, C] ++ (s.own.map (·.1) ++ s.oth)).Perm (adrs s) := by
  unfold adrs drwA
  rw [h]
  show ([A, B, C] ++ (s.own.map (·.1) ++ s.oth)).Perm (s.own.map (·.1) ++ ([A, B, C] ++ s.oth))
  rw [← List.append_assoc, ← List.append_assoc]
  exact List.Perm.append_right _ List.perm_append_comm
theorem adrs_drw {s : Rs} {A B C : Addr} {n n' : Nat} (h : s.drw = [(A, B, C, n)]) : adrs { s with drw := [(A, B, C, n')] } = adrs s := by
  unfold adrs drwA
  rw [h]
  rfl
theorem Mut_drw {e : Addr × Addr × Addr × Nat} {H : Hp} (h : Drw e H) : Mut (H e.1) ∧ Mut (H e.2.1) ∧ Mut (H e.2.2.1) := by
  obtain ⟨ls, items, l, t, h1, h2, h3, _⟩ := h
  rw [h1, h2, h3]
  exact ⟨trivial, trivial, trivial⟩
/-- behind a call that drew -/
theorem Ok.drawn {σ : L2.St} {H H' : Hp} {A B C : Addr} {n n' : Nat} (o : Ok W σ H ρ s) (hd : s.drw = [(A, B, C, n)]) (hk : ∀ a u, a ∉ [A, B] → NT u → H a = some u → H' a = some u) (hT : LamX.Tabs W.tb H') (hD : Drw (A, B, C, n') H') :
    Ok W σ H' ρ { s with drw := [(A, B, C, n')] } ∧ Pres W.K s H { s with drw := [(A, B, C, n')] } H' := by
  have hX : ∀ a ∈ [A, B], a ∈ W.X0 ∨ W.H0 a = none := fun a ha => o.dx (A, B, C, n) (by rw [hd]; simp) a ha
  have ea := adrs_drw (n' := n') hd
  have hin : ∀ a ∈ [A, B], a ∈ adrs s := fun a ha => (adrs_perm hd).mem_iff.mp (by
    have : a = A ∨ a = B := by simpa using ha
    rcases this with e | e <;> simp [e])
  have g : Goes (adrs s) H H' := ⟨fun a u h1 nt h2 => hk a u (fun z => h1 (hin a z)) nt h2, fun a ha => no_tup (o.rk.mu a ha)⟩
  have hmu : ∀ a ∈ adrs s, Mut (H' a) := fun a ha => by
    by_cases hA : a = A
    · rw [hA]; exact (Mut_drw hD).1
    · by_cases hB : a = B
      · rw [hB]; exact (Mut_drw hD).2.1
      · obtain ⟨u, e⟩ := Mut.some (o.rk.mu a ha)
        have : H' a = some u := hk a u (by simp [hA, hB]) (fun ps z => by
          have hm := o.rk.mu a ha
          rw [e, z] at hm
          exact hm) e
        rw [this, ← e]
        exact o.rk.mu a ha
  have nd := o.rk.nd
  refine ⟨⟨⟨?_, ?_, ?_, ?_⟩, ?_, ?_, ?_, o.ox, (fun e he => by rw [ea]; exact Is.goes g _ _ (o.tms e he)), ⟨hT, o.tbs.n⟩, o.len, ?_⟩, ?_⟩
  · rw [ea]; exact hmu
  · rw [ea]; exact nd
  · intro e he
    have : e = (A, B, C, n') := by simpa using he
    rw [this]
    exact hD
  · intro e he
    rw [ea]
    refine (o.rk.ow e he).goes g fun u nt hu => hk _ _ ?_ nt hu
    · intro hm
      have hp := (adrs_perm hd).nodup_iff.mpr nd
      have hmem : e.1 ∈ s.own.map (·.1) ++ s.oth := List.mem_append_left _ (List.mem_map.mpr ⟨e, he, rfl⟩)
      have hdis := (List.nodup_append.mp hp).2.2
      have h1 : e.1 = A ∨ e.1 = B := by simpa using hm
      have hm3 : e.1 ∈ [A, B, C] := by rcases h1 with z | z <;> simp [z]
      exact hdis _ hm3 _ hmem rfl
  · intro a u h1 h2
    exact hk a u (fun z => by
      rcases hX a z with y | y
      · exact h1 y
      · rw [h2] at y; cases y) (o.nt h2) (o.fr a u h1 h2)
  · rw [ea]; exact o.sub
  · intro e he x hx
    have : e = (A, B, C, n') := by simpa using he
    rw [this] at hx
    exact hX x hx
  · intro i d h
    obtain ⟨v, h1, h2⟩ := o.sl i d h
    refine ⟨v, h1, ?_⟩
    rw [ea]
    exact Is.goes g d v h2
  · exact ⟨g.keep, fun a h => .inl (by rw [ea] at h; exact h), g.mu⟩
/-- a call with the draw: W.X0 holds the draw's addresses -/
theorem LE.callE {S : ESp}
    (h : LA W t ρ s fun ds s1 => ∃ A B C n ds' o t, ds = .adr A :: ds' ∧ s1 = ⟨o, [(A, B, C, n)], t⟩ ∧ S ds' n fun d n' => Φ d ⟨o, [(A, B, C, n')], t⟩) : LE W (tCall (liftE W.K W.tb S) [] E t) ρ s Φ := fun σ H o Q q => by
  refine h σ H o _ fun vs H1 ds s1 o1 p1 i1 k => ?_
  obtain ⟨A, B, C, n, ds', ow, ot, rfl, e9, hS⟩ := k
  have hd : s1.drw = [(A, B, C, n)] := by rw [e9]
  have e8 : ∀ n', (⟨ow, [(A, B, C, n')], ot⟩ : Rs) = { s1 with drw := [(A, B, C, n')] } := fun n' => by rw [e9]
  simp only [e8] at hS
  obtain ⟨v, vs', rfl, e1, i2⟩ := i1
  cases (show v = .ref A from e1)
  rw [List.append_nil]
  have hp := adrs_perm hd
  have to : ∀ a, a ∉ adrs s1 → a ∉ [A, B, C] ++ (s1.own.map (·.1) ++ s1.oth) := fun a h1 h2 => h1 (hp.mem_iff.mp h2)
  have fro : ∀ a, a ∉ [A, B, C] ++ (s1.own.map (·.1) ++ s1.oth) → a ∉ adrs s1 := fun a h1 h2 => h1 (hp.mem_iff.mpr h2)
  refine ⟨s1.own.map (·.1) ++ s1.oth, A, B, C, n, ds', vs', fun d n' => Φ d { s1 with drw := [(A, B, C, n')] }, rfl, hp.nodup_iff.mpr o1.rk.nd, fun a ha => o1.rk.mu a (hp.mem_iff.mp ha), o1.tbs.t, o1.rk.dr _ (by rw [hd]; simp),
    IsL.anti (fun a h1 _ => to a h1) _ _ i2, hS, fun d n' v H' f hk hT hD i => ?_⟩
  obtain ⟨o2, p2⟩ := o1.drawn hd hk hT hD
  refine q v H' d _ o2 (p1.trans p2) ?_ f
  rw [adrs_drw hd]
  exact Is.anti (fun a h1 _ => fro a h1) d v i
/-- the draw made -/
theorem LE.callB {ns : List Int} (h : LA W t ρ s fun ds s1 => ∃ o t, ds = [.scr ns] ∧ s1 = ⟨o, [], t⟩ ∧ ns.length ≤ 63 ∧ ∀ A B C, Φ (.adr A) ⟨o, [(A, B, C, 2 ^ 39)], t⟩) : LE W (tCall (liftB W.K) [] E t) ρ s Φ := fun σ H o Q q => by
  refine h σ H o _ fun vs H1 ds s1 o1 p1 i1 k => ?_
  obtain ⟨ow, ot, rfl, e9, hl, k⟩ := k
  have hd : s1.drw = [] := by rw [e9]
  have e8 : ∀ A B C : Addr, (⟨ow, [(A, B, C, 2 ^ 39)], ot⟩ : Rs) = { s1 with drw := [(A, B, C, 2 ^ 39)] } := fun A B C => by rw [e9]
  simp only [e8] at k
  rw [List.append_nil]
  refine ⟨adrs s1, ns, o1.rk.nd, o1.rk.mu, i1, hl, fun A B C H' e hA hB hC nd hD => ?_⟩
  have ea : adrs { s1 with drw := [(A, B, C, 2 ^ 39)] } = s1.own.map (·.1) ++ ([A, B, C] ++ s1.oth) := rfl
  have eb : adrs s1 = s1.own.map (·.1) ++ s1.oth := by unfold adrs; rw [hd]; rfl
  have fresh : ∀ a ∈ [A, B, C], H1 a = none := fun a ha => by
    have : a = A ∨ a = B ∨ a = C := by simpa using ha
    rcases this with z | z | z <;> rw [z] <;> assumption
  have hperm : (adrs { s1 with drw := [(A, B, C, 2 ^ 39)] }).Perm ([A, B, C] ++ adrs s1) := by
    rw [ea, eb, ← List.append_assoc, ← List.append_assoc]
    exact List.Perm.append_right _ List.perm_append_comm
  have mem : ∀ a, a ∈ adrs { s1 with drw := [(A, B, C, 2 ^ 39)] } ↔ a ∈ [A, B, C] ∨ a ∈ adrs s1 := fun a => by
    rw [hperm.mem_iff, List.mem_append]
  have shut : ∀ a, a ∉ adrs s1 → (∃ o, NT o ∧ H1 a = some o) → a ∉ adrs { s1 with drw := [(A, B, C, 2 ^ 39)] } := fun a h1 ⟨u, _, h2⟩ h3 => by
    rcases (mem a).mp h3 with h | h
    · rw [fresh a h] at h2; cases h2
    · exact h1 h
  have g : Goes (adrs { s1 with drw := [(A, B, C, 2 ^ 39)] }) H1 H' := ⟨fun a u h1 _ h2 => e a u h2, fun a ha => by
    rcases (mem a).mp ha with h | h
    · refine ⟨fun xs z => ?_, fun o u z => ?_⟩
      · rw [fresh a h] at z
        cases z
      · rw [fresh a h] at z
        cases z
    · exact no_tup (o1.rk.mu a h)⟩
  have pres : Pres W.K s1 H1 { s1 with drw := [(A, B, C, 2 ^ 39)] } H' := ⟨fun a u _ _ h => e a u h, fun a ha => ((mem a).mp ha).symm.imp id fun h => NTN.none (fresh a h), fun a h => no_tup (o1.rk.mu a h)⟩
  have hM := Mut_drw hD
  refine q (.ref A) H' (.adr A) _ ⟨⟨fun a ha => ?_, ?_, fun d h => ?_, fun d h => ?_⟩, fun a u h1 h2 => e _ _ (o1.fr a u h1 h2), fun a ha => (mem a).mpr (.inr (o1.sub a ha)), fun d h x hx => ?_, o1.ox, (fun e' he => pres.is (o1.tms e' he)), o1.tbs.ext e, o1.len, fun i d h => ?_⟩ (p1.trans pres) rfl (k A B C)
  · rcases (mem a).mp ha with h | h
    · have : a = A ∨ a = B ∨ a = C := by simpa using h
      rcases this with z | z | z
      · rw [z]; exact hM.1
      · rw [z]; exact hM.2.1
      · rw [z]; exact hM.2.2
    · exact Mut.same (o1.rk.mu a h) e
  · refine hperm.nodup_iff.mpr (List.nodup_append.mpr ⟨nd, o1.rk.nd, fun a ha b hb z => ?_⟩)
    subst z
    obtain ⟨u, h2⟩ := Mut.some (o1.rk.mu a hb)
    rw [fresh a ha] at h2
    cases h2
  · have : d = (A, B, C, 2 ^ 39) := by simpa using h
    rw [this]
    exact hD
  · exact pres.ow (fun u _ q => e _ _ q) (o1.rk.ow d h)
  · have : d = (A, B, C, 2 ^ 39) := by simpa using h
    rw [this] at hx
    have hx' : x = A ∨ x = B := by simpa using hx
    have hf := fresh x (by rcases hx' with z | z <;> simp [z])
    by_cases hx0 : x ∈ W.X0
    · exact .inl hx0
    · refine .inr ?_
      cases q : W.H0 x with
      | none => rfl
      | some u =>
        have := o1.fr x u hx0 q
        rw [hf] at this
        cases this
  · obtain ⟨v, h1, h2⟩ := o1.sl i d h
    exact ⟨v, h1, pres.is h2⟩
end

end Pw

namespace Pw
open PySem L2

/-! ### fractions -/
abbrev fr (q : Rat) : D := .tup [.int q.num, .int q.den]
theorem fr_inj {p q : Rat} : fr p = fr q ↔ p = q := by
  constructor
  · intro h
    injection h with h
    injection h with h1 h2
    injection h2 with h2 _
    injection h1 with h1
    injection h2 with h2
    exact Rat.ext h1 (by omega)
  · rintro rfl; rfl
theorem gcd_pos {n d : Int} (h : d ≠ 0) : 0 < Int.gcd n d := Int.gcd_pos_of_ne_zero_right n h
theorem fr_make {n d : Int} (h : d ≠ 0) {c : Int} (hc : c = if d < 0 then -(Int.gcd n d : Int) else (Int.gcd n d : Int)) :
    D.tup [.int (n.fdiv c), .int (d.fdiv c)] = fr (Rat.divInt n d) := by
  have hg : 0 < Int.gcd n d := gcd_pos h
  obtain ⟨a, ha⟩ : (Int.gcd n d : Int) ∣ n := Int.gcd_dvd_left ..
  obtain ⟨b, hb⟩ : (Int.gcd n d : Int) ∣ d := Int.gcd_dvd_right ..
  have e := Int.gcd_comm n d
  generalize hG : Int.gcd n d = g at *
  have g0 : (g : Int) ≠ 0 := by omega
  have hd' : (Int.gcd d n) = g := by rw [← e]
  show D.tup _ = D.tup _
  rw [Rat.num_divInt, Rat.den_divInt, if_neg h, hd']
  have hdiv : ∀ x : Int, ((g : Int) * x).fdiv (g : Int) = x := fun x => by rw [Int.mul_fdiv_cancel_left x g0]
  have hdivn : ∀ x : Int, ((g : Int) * x).fdiv (-(g : Int)) = -x := fun x => by
    have : (g : Int) * x = (-(g : Int)) * (-x) := by rw [Int.neg_mul_neg]
    rw [this, Int.mul_fdiv_cancel_left (-x) (by omega)]
  have hna : d.natAbs / g = b.natAbs := by
    rw [hb, Int.natAbs_mul, Int.natAbs_natCast, Nat.mul_div_cancel_left _ hg]
  by_cases hneg : d < 0
  · rw [if_pos hneg] at hc
    have hbn : b < 0 := by
      rcases (show b < 0 ∨ 0 ≤ b by omega) with z | z
      · exact z
      · exfalso
        have := Int.mul_nonneg (Int.natCast_nonneg g) z
        omega
    have e1 : n.fdiv c = -a := by
      rw [hc]
      conv => lhs; rw [ha]
      exact hdivn a
    have e2 : d.fdiv c = -b := by
      rw [hc]
      conv => lhs; rw [hb]
      exact hdivn b
    have e3 : d.sign * n / (g : Int) = -a := by
      rw [Int.sign_eq_neg_one_of_neg hneg, ha, show (-1 : Int) * ((g : Int) * a) = (g : Int) * (-a) by rw [Int.mul_neg, Int.neg_one_mul], Int.mul_ediv_cancel_left _ g0]
    rw [e1, e2, e3, hna]
    congr 3
    congr 1
    omega
  · rw [if_neg hneg] at hc
    have hbn : 0 < b := by
      rcases (show 0 < b ∨ b ≤ 0 by omega) with z | z
      · exact z
      · exfalso
        have := Int.mul_nonpos_of_nonneg_of_nonpos (Int.natCast_nonneg g) z
        omega
    have e1 : n.fdiv c = a := by
      rw [hc]
      conv => lhs; rw [ha]
      exact hdiv a
    have e2 : d.fdiv c = b := by
      rw [hc]
      conv => lhs; rw [hb]
      exact hdiv b
    have e3 : d.sign * n / (g : Int) = a := by
      rw [Int.sign_eq_one_of_pos (by omega), ha, Int.one_mul, Int.mul_ediv_cancel_left _ g0]
    rw [e1, e2, e3, hna]
    congr 3
    congr 1
    omega

/-- a fraction of at most k bits -/
def Fit (k : Nat) (q : Rat) : Prop := q.num.natAbs < 2 ^ k ∧ q.den < 2 ^ k
theorem Fit.mono {k l : Nat} {q : Rat} (h : Fit k q) (hl : k ≤ l) : Fit l q :=
  ⟨Nat.lt_of_lt_of_le h.1 (Nat.pow_le_pow_right (by decide) hl), Nat.lt_of_lt_of_le h.2 (Nat.pow_le_pow_right (by decide) hl)⟩
theorem fit_divInt {n d : Int} {k : Nat} (h : d ≠ 0) (hn : n.natAbs < 2 ^ k) (hd : d.natAbs < 2 ^ k) : Fit k (Rat.divInt n d) := by
  unfold Fit
  rw [Rat.num_divInt, Rat.den_divInt, if_neg h]
  refine ⟨Nat.lt_of_le_of_lt ?_ hn, Nat.lt_of_le_of_lt (Nat.div_le_self _ _) hd⟩
  have h1 : (d.sign * n).natAbs ≤ n.natAbs := by
    rw [Int.natAbs_mul, Int.natAbs_sign_of_ne_zero h, Nat.one_mul]
    exact Nat.le_refl _
  refine Nat.le_trans ?_ h1
  exact Int.natAbs_ediv_le_natAbs _ _
theorem rat_add (a b : Rat) : Rat.divInt (a.num * b.den + b.num * a.den) (a.den * b.den) = a + b := by
  have ha : (a.den : Rat) ≠ 0 := by exact_mod_cast a.den_nz
  have hb : (b.den : Rat) ≠ 0 := by exact_mod_cast b.den_nz
  have ea := Rat.num_divInt_den a
  have eb := Rat.num_divInt_den b
  rw [Rat.divInt_eq_div] at ea eb ⊢
  simp only [Rat.intCast_add, Rat.intCast_mul, Rat.intCast_natCast] at *
  grind
theorem rat_sub (a b : Rat) : Rat.divInt (a.num * b.den - b.num * a.den) (a.den * b.den) = a - b := by
  have ha : (a.den : Rat) ≠ 0 := by exact_mod_cast a.den_nz
  have hb : (b.den : Rat) ≠ 0 := by exact_mod_cast b.den_nz
  have ea := Rat.num_divInt_den a
  have eb := Rat.num_divInt_den b
  rw [Rat.divInt_eq_div] at ea eb ⊢
  simp only [Rat.intCast_sub, Rat.intCast_mul, Rat.intCast_natCast] at *
  grind
theorem rat_mul (a b : Rat) : Rat.divInt (a.num * b.num) (a.den * b.den) = a * b := by
  have ha : (a.den : Rat) ≠ 0 := by exact_mod_cast a.den_nz
  have hb : (b.den : Rat) ≠ 0 := by exact_mod_cast b.den_nz
  have ea := Rat.num_divInt_den a
  have eb := Rat.num_divInt_den b
  rw [Rat.divInt_eq_div] at ea eb ⊢
  simp only [Rat.intCast_sub, Rat.intCast_mul, Rat.intCast_natCast] at *
  grind
theorem rat_div (a b : Rat) (h : b ≠ 0) : Rat.divInt (a.num * b.den) (a.den * b.num) = a / b := by
  have ha : (a.den : Rat) ≠ 0 := by exact_mod_cast a.den_nz
  have hb : (b.den : Rat) ≠ 0 := by exact_mod_cast b.den_nz
  have ea := Rat.num_divInt_den a
  have eb := Rat.num_divInt_den b
  rw [Rat.divInt_eq_div] at ea eb ⊢
  simp only [Rat.intCast_sub, Rat.intCast_mul, Rat.intCast_natCast] at *
  have hn : (b.num : Rat) ≠ 0 := by
    intro z
    rw [z] at eb
    apply h
    rw [← eb]
    grind
  grind
theorem num_ne {b : Rat} (h : b ≠ 0) : b.num ≠ 0 := fun z => h (Rat.num_eq_zero.mp z)
theorem den_ne (b : Rat) : (b.den : Int) ≠ 0 := by
  have := b.den_nz
  omega
theorem den_pos' (b : Rat) : (0 : Int) < b.den := by
  have := b.den_pos
  omega
theorem nat_mul_lt {x y k l : Nat} (hx : x < 2 ^ k) (hy : y < 2 ^ l) : x * y < 2 ^ (k + l) := by
  rw [Nat.pow_add]
  exact Nat.mul_lt_mul'' hx hy
theorem int_mul_lt {x y : Int} {k l : Nat} (hx : x.natAbs < 2 ^ k) (hy : y.natAbs < 2 ^ l) : (x * y).natAbs < 2 ^ (k + l) := by
  rw [Int.natAbs_mul]
  exact nat_mul_lt hx hy
theorem int_add_lt {x y : Int} {k : Nat} (hx : x.natAbs < 2 ^ k) (hy : y.natAbs < 2 ^ k) : (x + y).natAbs < 2 ^ (k + 1) := by
  rw [Nat.pow_succ]
  omega
theorem int_sub_lt {x y : Int} {k : Nat} (hx : x.natAbs < 2 ^ k) (hy : y.natAbs < 2 ^ k) : (x - y).natAbs < 2 ^ (k + 1) := by
  rw [Nat.pow_succ]
  omega
theorem pow_up {x k l : Nat} (h : x < 2 ^ k) (hl : k ≤ l) : x < 2 ^ l := Nat.lt_of_lt_of_le h (Nat.pow_le_pow_right (by decide) hl)
theorem Fit.add {k l : Nat} {a b : Rat} (ha : Fit k a) (hb : Fit l b) : Fit (k + l + 1) (a + b) := by
  rw [← rat_add]
  refine fit_divInt (Int.mul_ne_zero (den_ne a) (den_ne b)) (int_add_lt (int_mul_lt ha.1 (by simpa using hb.2)) ?_) (pow_up (int_mul_lt (by simpa using ha.2) (by simpa using hb.2)) (by omega))
  rw [Nat.add_comm k l]
  exact int_mul_lt hb.1 (by simpa using ha.2)
theorem Fit.sub {k l : Nat} {a b : Rat} (ha : Fit k a) (hb : Fit l b) : Fit (k + l + 1) (a - b) := by
  rw [← rat_sub]
  refine fit_divInt (Int.mul_ne_zero (den_ne a) (den_ne b)) (int_sub_lt (int_mul_lt ha.1 (by simpa using hb.2)) ?_) (pow_up (int_mul_lt (by simpa using ha.2) (by simpa using hb.2)) (by omega))
  rw [Nat.add_comm k l]
  exact int_mul_lt hb.1 (by simpa using ha.2)
theorem Fit.mul {k l : Nat} {a b : Rat} (ha : Fit k a) (hb : Fit l b) : Fit (k + l) (a * b) := by
  rw [← rat_mul]
  exact fit_divInt (Int.mul_ne_zero (den_ne a) (den_ne b)) (int_mul_lt ha.1 hb.1) (int_mul_lt (by simpa using ha.2) (by simpa using hb.2))
theorem Fit.div {k l : Nat} {a b : Rat} (ha : Fit k a) (hb : Fit l b) (h : b ≠ 0) : Fit (k + l) (a / b) := by
  rw [← rat_div a b h]
  exact fit_divInt (Int.mul_ne_zero (den_ne a) (num_ne h)) (int_mul_lt ha.1 (by simpa using hb.2)) (int_mul_lt (by simpa using ha.2) hb.1)
theorem Fit.neg {k : Nat} {a : Rat} (ha : Fit k a) : Fit k (-a) := by
  have e1 : (-a).num = -a.num := rfl
  have e2 : (-a).den = a.den := rfl
  unfold Fit at *
  rw [e1, e2, Int.natAbs_neg]
  exact ha
theorem rat_lt (a b : Rat) : (a.num * b.den < b.num * a.den) ↔ a < b := (Rat.lt_iff a b).symm

/-! ### // by a divisor of either sign -/
def CDivZ (_ j : Int) : Prop := j ≠ 0 ∧ j.natAbs < 2 ^ 8999
open PySem PySem.Spec PyProof.Rows in
theorem op_fdivZ {X : Cx} : OpR X (binaryOp .FloorDiv) (rI CDivZ fun i j => .int (i.fdiv j)) := opI fun i j _ _ _ _ _ hc q =>
  floordiv_int hc.1 q (.inl (PyProof.noPylong_of_log2 (Nat.lt_of_lt_of_le (PySem.Flt.log2_lt_of (by decide) hc.2) (by decide))))
end Pw
namespace Pw
open PySem L2
section
variable {W : Wd} {ρ : En} {s : Rs} {Φ : D → Rs → Prop}
theorem LE.emp (k : Φ .emp s) : LE W tDNewK ρ s Φ := fun σ H o Q q => fun p hp => by
  have e : Same H (upd H p (.dK [])) := Same.new hp
  exact q _ _ .emp s (o.same e) (o.pres e) ⟨p, rfl, o.rk.fresh hp, .inl upd_same⟩ k
end
end Pw
namespace Pw
open PySem L2
section
variable {W : Wd} {ρ : En} {s : Rs} {N : En → Rs → Prop} {R : D → Rs → Prop} {B C : En → Rs → Prop} {ts : TS}
/-- a word between a statement and what follows -/
theorem LS.mid (M : En → Rs → Prop) (h : LS W ts ρ s M R B C) (k : ∀ ρ' s', M ρ' s' → N ρ' s') : LS W ts ρ s N R B C := fun Dn σ H o f =>
  h Dn σ H o ⟨fun σ' H' ρ' s' o' m => f.nx σ' H' ρ' s' o' (k _ _ m), f.rt, f.bk, f.ct⟩
end
end Pw

namespace Pw
open PySem L2

/-! ### what is walked -/
/-- J yields the data ys, as long as the temps stand -/
def ItOk (W : Wd) (J : It) (ys : List D) (tms : List (D × V)) : Prop :=
  ∃ (G : Hp → Prop) (Y : Nat → Hp → V → Hp → Prop), Walk J ys.length G Y ∧ ∀ (s : Rs) (H : Hp), Rok W.K s H → (∀ e ∈ tms, Is W.K (adrs s) H e.1 e.2) → (∀ a o, a ∉ W.X0 → W.H0 a = some o → H a = some o) →
    G H ∧ ∀ i x H', i < ys.length → Y i H x H' → Same H H' ∧ ∃ d, ys[i]? = some d ∧ Is W.K (adrs s) H' d x
def LI (W : Wd) (wi : TI) (ρ : En) (s : Rs) (Φ : List D → Rs → Prop) : Prop :=
  ∀ (σ : L2.St) (H : Hp), Ok W σ H ρ s → ∀ R : It → Hp → Prop, (∀ J H' ys s' tms, Ok W σ H' ρ s' → Pres W.K s H s' H' → (∀ e ∈ tms, Is W.K (adrs s') H' e.1 e.2) → ItOk W J ys tms → Φ ys s' → R J H') → wi σ H R
section
variable {W : Wd} {ρ : En} {s : Rs} {Φ : List D → Rs → Prop}
theorem sq_is {K : PySem.W.Frag} {Xs : List Addr} {H : Hp} {ds : List D} {a : Addr} (h : Is K Xs H (.lst ds) (.ref a)) : ∃ xs, H a = some (.lst xs) ∧ IsL K Xs H ds xs := by
  obtain ⟨b, xs, e, _, h1, h2⟩ := h
  cases e
  exact ⟨xs, h1, h2⟩
theorem tq_is {K : PySem.W.Frag} {Xs : List Addr} {H : Hp} {ds : List D} {a : Addr} (h : Is K Xs H (.tup ds) (.ref a)) : ∃ xs, SqT K H a xs ∧ IsL K Xs H ds xs := by
  obtain ⟨b, xs, e, h1, h2⟩ := h
  cases e
  exact ⟨xs, IsL.sqT h1, h2⟩
theorem ItOk.list {W : Wd} {a : Addr} {ds : List D} : ItOk W (Itl W.K a) ds [(.lst ds, .ref a)] := by
  refine ⟨fun H => ∃ xs : List V, xs.length = ds.length ∧ SqL W.K H a xs, fun i H x H' => H' = H ∧ ∀ xs, SqL W.K H a xs → xs[i]? = some x, ⟨fun i H hi ⟨xs, hl, q⟩ => ⟨xs, xs[i], q, by simp [show i < xs.length by omega]⟩, fun H ⟨xs, hl, q⟩ => ⟨xs, q, by omega⟩, fun i H x H' _ _ y => y⟩, fun s H r h _ => ?_⟩
  obtain ⟨xs, h1, h2⟩ := sq_is (h _ (List.mem_singleton.mpr rfl))
  refine ⟨⟨xs, h2.length, SqL.of h1⟩, fun i x H' hi ⟨e, y⟩ => ?_⟩
  subst e
  have hx := y xs (SqL.of h1)
  obtain ⟨v, e1, e2⟩ := h2.get (List.getElem?_eq_getElem hi)
  rw [hx] at e1
  cases e1
  exact ⟨Same.refl _, _, List.getElem?_eq_getElem hi, e2⟩
theorem ItOk.tup {W : Wd} {a : Addr} {ds : List D} : ItOk W (Itt W.K a) ds [(.tup ds, .ref a)] := by
  refine ⟨fun H => ∃ xs : List V, xs.length = ds.length ∧ SqT W.K H a xs, fun i H x H' => H' = H ∧ ∀ xs, SqT W.K H a xs → xs[i]? = some x, ⟨fun i H hi ⟨xs, hl, q⟩ => ⟨xs, xs[i], q, by simp [show i < xs.length by omega]⟩, fun H ⟨xs, hl, q⟩ => ⟨xs, q, by omega⟩, fun i H x H' _ _ y => y⟩, fun s H r h _ => ?_⟩
  obtain ⟨xs, h1, h2⟩ := tq_is (h _ (List.mem_singleton.mpr rfl))
  refine ⟨⟨xs, h2.length, h1⟩, fun i x H' hi ⟨e, y⟩ => ?_⟩
  subst e
  have hx := y xs h1
  obtain ⟨v, e1, e2⟩ := h2.get (List.getElem?_eq_getElem hi)
  rw [hx] at e1
  cases e1
  exact ⟨Same.refl _, _, List.getElem?_eq_getElem hi, e2⟩
def rngD (lo : Int) (n : Nat) : List D := (List.range n).map fun i => .int (lo + (i : Nat))
theorem ItOk.rng {W : Wd} {lo : Int} {n : Nat} : ItOk W (Itr lo n) (rngD lo n) [] := by
  have hl : (rngD lo n).length = n := by unfold rngD; rw [List.length_map, List.length_range]
  refine ⟨fun _ => True, YFn fun i => .int (lo + i), (by rw [hl]; exact walk_range), fun s H r h _ => ⟨trivial, fun i x H' hi ⟨e, y⟩ => ?_⟩⟩
  subst e
  have y : x = .int (lo + i) := y
  subst y
  refine ⟨Same.refl _, .int (lo + i), ?_, rfl⟩
  unfold rngD
  rw [hl] at hi
  rw [List.getElem?_map, List.getElem?_range hi]
  rfl
/-- the pairs of two lists -/
def zipD (ds es : List D) : List D := List.zipWith (fun d e => .tup [d, e]) ds es
theorem zipD_len (ds es : List D) : (zipD ds es).length = min ds.length es.length := List.length_zipWith
theorem ItOk.zip {W : Wd} {a b : Addr} {ds es : List D} : ItOk W (Itz W.K a b) (zipD ds es) [(.lst ds, .ref a), (.lst es, .ref b)] := by
  refine ⟨fun H => ∃ xs ys : List V, xs.length = ds.length ∧ ys.length = es.length ∧ SqL W.K H a xs ∧ SqL W.K H b ys, fun i H v H' => ∃ T x y, v = .ref T ∧ H T = none ∧ H' = upd H T (.tup [x, y]) ∧ (∀ xs, SqL W.K H a xs → xs[i]? = some x) ∧ ∀ ys, SqL W.K H b ys → ys[i]? = some y,
    ⟨fun i H hi ⟨xs, ys, hl, hl2, q, q2⟩ => ?_, fun H ⟨xs, ys, hl, hl2, q, q2⟩ => ⟨xs, ys, q, q2, ?_⟩, fun i H x H' _ _ y => y⟩, fun s H r h _ => ?_⟩
  · rw [zipD_len] at hi
    exact ⟨xs, ys, xs[i]'(by omega), ys[i]'(by omega), q, q2, by simp [show i < xs.length by omega], by simp [show i < ys.length by omega]⟩
  · rw [zipD_len]
    omega
  · obtain ⟨xs, h1, h2⟩ := sq_is (h (.lst ds, .ref a) (by simp))
    obtain ⟨ys, k1, k2⟩ := sq_is (h (.lst es, .ref b) (by simp))
    refine ⟨⟨xs, ys, h2.length, k2.length, SqL.of h1, SqL.of k1⟩, fun i v H' hi ⟨T, x, y, e, hT, e2, f1, f2⟩ => ?_⟩
    subst e e2
    rw [zipD_len] at hi
    have sm : Same H (upd H T (.tup [x, y])) := Same.new hT
    obtain ⟨vx, e1, i1⟩ := h2.get (List.getElem?_eq_getElem (show i < ds.length by omega))
    obtain ⟨vy, e2, i2⟩ := k2.get (List.getElem?_eq_getElem (show i < es.length by omega))
    rw [f1 xs (SqL.of h1)] at e1
    rw [f2 ys (SqL.of k1)] at e2
    cases e1
    cases e2
    refine ⟨sm, .tup [ds[i]'(by omega), es[i]'(by omega)], ?_, T, _, rfl, .inl upd_same, ⟨_, _, rfl, Is.goes (r.goes sm) _ _ i1, _, _, rfl, Is.goes (r.goes sm) _ _ i2, rfl⟩⟩
    unfold zipD
    rw [List.getElem?_zipWith, List.getElem?_eq_getElem (show i < ds.length by omega), List.getElem?_eq_getElem (show i < es.length by omega)]
theorem ItOk.zipT {W : Wd} {a b : Addr} {ds es : List D} : ItOk W (RZ.ItzT W.K a b) (zipD ds es) [(.tup ds, .ref a), (.tup es, .ref b)] := by
  refine ⟨fun H => ∃ xs ys : List V, xs.length = ds.length ∧ ys.length = es.length ∧ SqT W.K H a xs ∧ SqT W.K H b ys, fun i H v H' => ∃ T x y, v = .ref T ∧ H T = none ∧ H' = upd H T (.tup [x, y]) ∧ (∀ xs, SqT W.K H a xs → xs[i]? = some x) ∧ ∀ ys, SqT W.K H b ys → ys[i]? = some y,
    ⟨fun i H hi ⟨xs, ys, hl, hl2, q, q2⟩ => ?_, fun H ⟨xs, ys, hl, hl2, q, q2⟩ => ⟨xs, ys, q, q2, ?_⟩, fun i H x H' _ _ y => y⟩, fun s H r h _ => ?_⟩
  · rw [zipD_len] at hi
    exact ⟨xs, ys, xs[i]'(by omega), ys[i]'(by omega), q, q2, by simp [show i < xs.length by omega], by simp [show i < ys.length by omega]⟩
  · rw [zipD_len]
    omega
  · obtain ⟨xs, h1, h2⟩ := tq_is (h (.tup ds, .ref a) (by simp))
    obtain ⟨ys, k1, k2⟩ := tq_is (h (.tup es, .ref b) (by simp))
    refine ⟨⟨xs, ys, h2.length, k2.length, h1, k1⟩, fun i v H' hi ⟨T, x, y, e, hT, e2, f1, f2⟩ => ?_⟩
    subst e e2
    rw [zipD_len] at hi
    have sm : Same H (upd H T (.tup [x, y])) := Same.new hT
    obtain ⟨vx, e1, i1⟩ := h2.get (List.getElem?_eq_getElem (show i < ds.length by omega))
    obtain ⟨vy, e2, i2⟩ := k2.get (List.getElem?_eq_getElem (show i < es.length by omega))
    rw [f1 xs h1] at e1
    rw [f2 ys k1] at e2
    cases e1
    cases e2
    refine ⟨sm, .tup [ds[i]'(by omega), es[i]'(by omega)], ?_, T, _, rfl, .inl upd_same, ⟨_, _, rfl, Is.goes (r.goes sm) _ _ i1, _, _, rfl, Is.goes (r.goes sm) _ _ i2, rfl⟩⟩
    unfold zipD
    rw [List.getElem?_zipWith, List.getElem?_eq_getElem (show i < ds.length by omega), List.getElem?_eq_getElem (show i < es.length by omega)]
def enumD (ds : List D) : List D := ds.mapIdx fun i d => .tup [.int (i : Nat), d]
theorem ItOk.enum {W : Wd} {a : Addr} {ds : List D} : ItOk W (Ite W.K a) (enumD ds) [(.lst ds, .ref a)] := by
  have hl : (enumD ds).length = ds.length := List.length_mapIdx
  refine ⟨fun H => ∃ xs : List V, xs.length = ds.length ∧ SqL W.K H a xs, fun i H v H' => ∃ T x, v = .ref T ∧ H T = none ∧ H' = upd H T (.tup [.int (i : Nat), x]) ∧ ∀ xs, SqL W.K H a xs → xs[i]? = some x,
    ⟨fun i H hi ⟨xs, hl, q⟩ => ⟨xs, xs[i]'(by omega), q, by simp [show i < xs.length by omega]⟩, fun H ⟨xs, hl, q⟩ => ⟨xs, q, by omega⟩, fun i H x H' _ _ y => y⟩, fun s H r h _ => ?_⟩
  obtain ⟨xs, h1, h2⟩ := sq_is (h _ (List.mem_singleton.mpr rfl))
  refine ⟨⟨xs, h2.length, SqL.of h1⟩, fun i v H' hi ⟨T, x, e, hT, e2, f⟩ => ?_⟩
  subst e e2
  rw [hl] at hi
  have sm : Same H (upd H T (.tup [.int (i : Nat), x])) := Same.new hT
  obtain ⟨vx, e1, i1⟩ := h2.get (List.getElem?_eq_getElem hi)
  rw [f xs (SqL.of h1)] at e1
  cases e1
  refine ⟨sm, .tup [.int (i : Nat), ds[i]], ?_, T, _, rfl, .inl upd_same, ⟨_, _, rfl, rfl, _, _, rfl, Is.goes (r.goes sm) _ _ i1, rfl⟩⟩
  unfold enumD
  rw [List.getElem?_mapIdx, List.getElem?_eq_getElem hi]
  rfl

theorem LI.list {tl : TE} (h : LE W tl ρ s fun x s1 => ∃ ds, x = .lst ds ∧ Φ ds s1) : LI W (iList W.K tl) ρ s Φ := fun σ H o R q => by
  refine h σ H o _ fun v H1 x s1 o1 p1 i1 k => ?_
  obtain ⟨ds, rfl, k⟩ := k
  obtain ⟨a, xs, rfl, h0, h1, h2⟩ := i1
  exact ⟨a, rfl, ⟨xs, SqL.of h1⟩, q _ H1 ds s1 [(.lst ds, .ref a)] o1 p1 (fun e he => by rw [List.mem_singleton.mp he]; exact ⟨a, xs, rfl, h0, h1, h2⟩) ItOk.list k⟩
theorem LI.tup {tl : TE} (h : LE W tl ρ s fun x s1 => ∃ ds, x = .tup ds ∧ Φ ds s1) : LI W (iTup W.K tl) ρ s Φ := fun σ H o R q => by
  refine h σ H o _ fun v H1 x s1 o1 p1 i1 k => ?_
  obtain ⟨ds, rfl, k⟩ := k
  obtain ⟨a, xs, rfl, h1, h2⟩ := i1
  exact ⟨a, rfl, ⟨xs, IsL.sqT h1⟩, q _ H1 ds s1 [(.tup ds, .ref a)] o1 p1 (fun e he => by rw [List.mem_singleton.mp he]; exact ⟨a, xs, rfl, h1, h2⟩) ItOk.tup k⟩
theorem LI.range1 {ta : TA} (h : LA W ta ρ s fun ds s1 => ∃ j : Int, ds = [.int j] ∧ -(2 ^ 62) ≤ j ∧ j < 2 ^ 62 ∧ Φ (rngD 0 j.toNat) s1) : LI W (iRng1 ta) ρ s Φ := fun σ H o R q => by
  refine h σ H o _ fun vs H1 ds s1 o1 p1 i1 k => ?_
  obtain ⟨j, rfl, l1, l2, k⟩ := k
  obtain ⟨v, rfl, e1⟩ := IsL.one i1
  cases (show v = .int j from e1)
  exact ⟨j, rfl, l1, l2, q _ H1 _ s1 [] o1 p1 (fun e he => by cases he) ItOk.rng k⟩
theorem LI.range2 {ta : TA} (h : LA W ta ρ s fun ds s1 => ∃ lo j : Int, ds = [.int lo, .int j] ∧ (-(2 ^ 62) ≤ lo ∧ lo < 2 ^ 62 ∧ -(2 ^ 62) ≤ j ∧ j < 2 ^ 62) ∧ Φ (rngD lo (j - lo).toNat) s1) : LI W (iRng2 ta) ρ s Φ := fun σ H o R q => by
  refine h σ H o _ fun vs H1 ds s1 o1 p1 i1 k => ?_
  obtain ⟨lo, j, rfl, l, k⟩ := k
  obtain ⟨v, w, rfl, e1, e2⟩ := IsL.two i1
  cases (show v = .int lo from e1)
  cases (show w = .int j from e2)
  exact ⟨lo, j, rfl, l, q _ H1 _ s1 [] o1 p1 (fun e he => by cases he) ItOk.rng k⟩
theorem LI.zip {ta : TA} (h : LA W ta ρ s fun xs s1 => ∃ ds es, xs = [.lst ds, .lst es] ∧ Φ (zipD ds es) s1) : LI W (iZip W.K ta) ρ s Φ := fun σ H o R q => by
  refine h σ H o _ fun vs H1 xs s1 o1 p1 i1 k => ?_
  obtain ⟨ds, es, rfl, k⟩ := k
  obtain ⟨v, w, rfl, e1, e2⟩ := IsL.two i1
  obtain ⟨a, xs, rfl, h0, h1, h2⟩ := id e1
  obtain ⟨b, ys, rfl, g0, g1, g2⟩ := id e2
  exact ⟨a, b, xs, ys, rfl, SqL.of h1, SqL.of g1, q _ H1 _ s1 [(.lst ds, .ref a), (.lst es, .ref b)] o1 p1 (fun e he => by
    have he : e = (.lst ds, .ref a) ∨ e = (.lst es, .ref b) := by simpa using he
    rcases he with z | z
    · rw [z]; exact e1
    · rw [z]; exact e2) ItOk.zip k⟩
theorem LI.zipT {ta : TA} (h : LA W ta ρ s fun xs s1 => ∃ ds es, xs = [.tup ds, .tup es] ∧ Φ (zipD ds es) s1) : LI W (RZ.iZipA W.K ta) ρ s Φ := fun σ H o R q => by
  refine h σ H o _ fun vs H1 xs s1 o1 p1 i1 k => ?_
  obtain ⟨ds, es, rfl, k⟩ := k
  obtain ⟨v, w, rfl, e1, e2⟩ := IsL.two i1
  obtain ⟨a, xs, rfl, h1, h2⟩ := id e1
  obtain ⟨b, ys, rfl, g1, g2⟩ := id e2
  exact ⟨a, b, xs, ys, rfl, .inr ⟨IsL.sqT h1, IsL.sqT g1, q _ H1 _ s1 [(.tup ds, .ref a), (.tup es, .ref b)] o1 p1 (fun e he => by
    have he : e = (.tup ds, .ref a) ∨ e = (.tup es, .ref b) := by simpa using he
    rcases he with z | z
    · rw [z]; exact e1
    · rw [z]; exact e2) ItOk.zipT k⟩⟩
theorem LI.enum {ta : TA} (h : LA W ta ρ s fun xs s1 => ∃ ds, xs = [.lst ds] ∧ Φ (enumD ds) s1) : LI W (iEnum W.K ta) ρ s Φ := fun σ H o R q => by
  refine h σ H o _ fun vs H1 xs s1 o1 p1 i1 k => ?_
  obtain ⟨ds, rfl, k⟩ := k
  obtain ⟨v, rfl, e1⟩ := IsL.one i1
  obtain ⟨a, xs, rfl, h0, h1, h2⟩ := id e1
  exact ⟨a, xs, rfl, SqL.of h1, q _ H1 _ s1 [(.lst ds, .ref a)] o1 p1 (fun e he => by rw [List.mem_singleton.mp he]; exact e1) ItOk.enum k⟩
end
/-- with temps -/
abbrev Wd.tms (W : Wd) (tms : List (D × V)) : Wd := ⟨W.K, W.H0, W.X0, W.X1, tms ++ W.tm, W.tb⟩
theorem Ok.push {W : Wd} {σ : L2.St} {H : Hp} {ρ : En} {s : Rs} {tms : List (D × V)} (o : Ok W σ H ρ s) (h : ∀ e ∈ tms, Is W.K (adrs s) H e.1 e.2) : Ok (W.tms tms) σ H ρ s :=
  ⟨o.rk, o.fr, o.sub, o.dx, o.ox, fun e he => (List.mem_append.mp he).elim (h e) (o.tms e), o.tbs, o.len, o.sl⟩
theorem Ok.pop {W : Wd} {σ : L2.St} {H : Hp} {ρ : En} {s : Rs} {tms : List (D × V)} (o : Ok (W.tms tms) σ H ρ s) : Ok W σ H ρ s :=
  ⟨o.rk, o.fr, o.sub, o.dx, o.ox, fun e he => o.tms e (List.mem_append_right _ he), o.tbs, o.len, o.sl⟩
theorem Ok.tmp {W : Wd} {σ : L2.St} {H : Hp} {ρ : En} {s : Rs} {tms : List (D × V)} (o : Ok (W.tms tms) σ H ρ s) : ∀ e ∈ tms, Is W.K (adrs s) H e.1 e.2 := fun e he => o.tms e (List.mem_append_left _ he)
section
variable {W : Wd} {ρ : En} {s : Rs} {N : En → Rs → Prop} {R : D → Rs → Prop} {B C : En → Rs → Prop} {ts : TS} {g : TG} {wi : TI}
/-- for target in .. -/
theorem LS.for (h : LI W wi ρ s fun ys s1 => ∃ I : Nat → En → Rs → Prop, I 0 ρ s1 ∧ (∀ tms i d ρ' s', ys[i]? = some d → I i ρ' s' → LG ⟨W.K, W.H0, W.X0, W.X1, tms, W.tb⟩ g d ρ' s' fun ρ2 s2 => LS ⟨W.K, W.H0, W.X0, W.X1, tms, W.tb⟩ ts ρ2 s2 (I (i + 1)) R N (I (i + 1))) ∧
      ∀ ρ' s', I ys.length ρ' s' → N ρ' s') : LS W (tFor wi g ts) ρ s N R B C := fun Dn σ H o f => by
  refine h σ H o _ fun J H1 ys s1 tms o1 p1 ht hJ k => ?_
  obtain ⟨I, h0, hs, hd⟩ := k
  obtain ⟨G, Y, hw, hG⟩ := hJ
  refine for_it hw (fun i σ H => ∃ ρ s, Ok (W.tms tms) σ H ρ s ∧ I i ρ s) ⟨ρ, s1, o1.push ht, h0⟩ (fun i σ H _ ⟨ρ2, s2, o2, _⟩ => (hG s2 H o2.rk o2.tmp o2.fr).1) (fun i x σ H H' hi ⟨ρ2, s2, o2, k2⟩ hy => ?_) fun σ H ⟨ρ2, s2, o2, k2⟩ => f.nx σ H ρ2 s2 o2.pop (hd _ _ k2)
  obtain ⟨sm, d, e, ix⟩ := (hG s2 H o2.rk o2.tmp o2.fr).2 i x H' hi hy
  refine hs (tms ++ W.tm) i d ρ2 s2 e k2 x σ H' (o2.same sm) ix _ fun σ3 H3 ρ3 s3 o3 p3 k3 => ?_
  exact k3 _ σ3 H3 o3 ⟨fun σ4 H4 ρ4 s4 o4 k4 => ⟨ρ4, s4, o4, k4⟩, fun v σ4 H4 ρ4 d4 s4 o4 i4 k4 => f.rt v σ4 H4 ρ4 d4 s4 (Ok.pop (W := W) (tms := tms) o4) i4 k4, fun σ4 H4 ρ4 s4 o4 k4 => f.nx σ4 H4 ρ4 s4 (Ok.pop (W := W) (tms := tms) o4) k4, fun σ4 H4 ρ4 s4 o4 k4 => ⟨ρ4, s4, o4, k4⟩⟩
end

/-! ### things of one's own -/
abbrev Rs.pushD (s : Rs) (p : Addr) (d : D) : Rs := ⟨(p, d) :: s.own, s.drw, s.oth⟩
abbrev Rs.push (s : Rs) (p : Addr) (ds : List D) : Rs := ⟨(p, .lst ds) :: s.own, s.drw, s.oth⟩
theorem adrs_push (s : Rs) (p : Addr) (ds : List D) : adrs (s.push p ds) = p :: adrs s := rfl
/-- a new object comes to s: it is nowhere else -/
theorem Ok.newO {W : Wd} {σ : L2.St} {H H' : Hp} {ρ : En} {s : Rs} {p : Addr} {d : D} (o : Ok W σ H ρ s) (e : ExtT W.tb H H') (hp : NTN (H p)) (h : Ow W.K (p :: adrs s) H' p d) :
    Ok W σ H' ρ (s.pushD p d) ∧ Pres W.K s H (s.pushD p d) H' := by
  have hf : p ∉ adrs s := fun z => hp.mut (o.rk.mu p z)
  have pr : Pres W.K s H (s.pushD p d) H' := ⟨fun a u _ n h => e.e a u h n, fun a ha => by
    rcases List.mem_cons.mp (show a ∈ p :: adrs s from ha) with z | z
    · rw [z]; exact .inr hp
    · exact .inl z, fun a h => no_tup (o.rk.mu a h)⟩
  obtain ⟨u0, hu0, hc0⟩ := h.obj
  have o1 := o.ext e
  refine ⟨⟨⟨fun a ha => ?_, ?_, o1.rk.dr, fun d' hd => ?_⟩, o1.fr, fun a ha => List.mem_cons_of_mem _ (o.sub a ha), o.dx, fun d' hd => ?_, fun e' he => pr.is (o.tms e' he), o1.tbs, o.len, fun i d hi => ?_⟩, pr⟩
  · rcases List.mem_cons.mp (show a ∈ p :: adrs s from ha) with z | z
    · rw [z, hu0]; exact hc0.mut
    · exact o1.rk.mu a z
  · exact List.nodup_cons.mpr ⟨hf, o.rk.nd⟩
  · rcases List.mem_cons.mp (show d' ∈ (p, d) :: s.own from hd) with z | z
    · rw [z]
      exact h
    · exact pr.ow (fun u n q => e.e _ _ q n) (o.rk.ow d' z)
  · rcases List.mem_cons.mp (show d' ∈ (p, d) :: s.own from hd) with z | z
    · rw [z]
      refine ⟨fun z2 => hf (o.sub p z2), ?_⟩
      by_cases hx : p ∈ W.X0
      · exact .inl hx
      · refine .inr ?_
        show W.H0 p = none
        cases q : W.H0 p with
        | none => rfl
        | some u => exact (hp.no (o.fr p u hx q) (o.nt q)).elim
    · exact o.ox d' z
  · obtain ⟨v, h1, h2⟩ := o.sl i d hi
    exact ⟨v, h1, pr.is h2⟩
/-- what is read before the new object is shut out -/
theorem shutN {s : Rs} {H : Hp} {p : Addr} (hp : H p = none) : ∀ a, a ∉ adrs s → (∃ o, NT o ∧ H a = some o) → a ∉ p :: adrs s := fun a h1 ⟨o, _, h2⟩ h3 => by
  rcases List.mem_cons.mp h3 with z | z
  · rw [z, hp] at h2; cases h2
  · exact h1 z
theorem goesN {K : PySem.W.Frag} {s : Rs} {H H' : Hp} {p : Addr} (r : Rok K s H) (e : Same H H') (hp : H p = none) : Goes (p :: adrs s) H H' := ⟨fun a u _ _ h => e a u h, fun a ha => by
  rcases List.mem_cons.mp ha with z | z
  · rw [z, hp]; exact ⟨(fun _ q => by cases q), (fun _ _ q => by cases q)⟩
  · exact no_tup (r.mu a z)⟩
theorem Ok.newL {W : Wd} {σ : L2.St} {H : Hp} {ρ : En} {s : Rs} {p : Addr} {ds : List D} {vs : List V} (o : Ok W σ H ρ s) (hp : H p = none) (h : IsL W.K (adrs s) H ds vs) :
    Ok W σ (upd H p (.lst vs)) ρ (s.push p ds) ∧ Pres W.K s H (s.push p ds) (upd H p (.lst vs)) :=
  o.newO (.same o.tbs.t (Same.new hp)) (NTN.none hp) (d := .lst ds) ⟨vs, upd_same, IsL.goes (goesN o.rk (Same.new hp) hp) _ _ (IsL.anti (shutN hp) _ _ h)⟩
/-- a thing of one's own is changed -/
theorem Ok.chgO {W : Wd} {σ : L2.St} {H H' : Hp} {ρ : En} {p : Addr} {d d' : D} {ow : List (Addr × D)} {dr : List (Addr × Addr × Addr × Nat)} {ot : List Addr} (o : Ok W σ H ρ ⟨(p, d) :: ow, dr, ot⟩) 
    (e : ∀ a u, a ≠ p → H a = some u → H' a = some u) (h : Ow W.K (adrs ⟨(p, d) :: ow, dr, ot⟩) H' p d') : Ok W σ H' ρ ⟨(p, d') :: ow, dr, ot⟩ ∧ Pres W.K ⟨(p, d) :: ow, dr, ot⟩ H ⟨(p, d') :: ow, dr, ot⟩ H' := by
  have hX : p ∈ W.X0 ∨ W.H0 p = none := (o.ox (p, d) (List.mem_cons_self ..)).2
  have ea : adrs ⟨(p, d') :: ow, dr, ot⟩ = adrs ⟨(p, d) :: ow, dr, ot⟩ := rfl
  have hp : p ∈ adrs ⟨(p, d) :: ow, dr, ot⟩ := List.mem_cons_self ..
  have kp : ∀ a u, a ∉ adrs ⟨(p, d) :: ow, dr, ot⟩ → NT u → H a = some u → H' a = some u := fun a u h1 _ h2 => e a u (fun z => h1 (by rw [z]; exact hp)) h2
  have pr : Pres W.K ⟨(p, d) :: ow, dr, ot⟩ H ⟨(p, d') :: ow, dr, ot⟩ H' := ⟨kp, fun a ha => .inl ha, fun a h => no_tup (o.rk.mu a h)⟩
  have nd := o.rk.nd
  obtain ⟨u0, hu0, hc0⟩ := h.obj
  have npr : ∀ a ∈ ow.map (·.1) ++ (drwA dr ++ ot), a ≠ p := fun a ha z => by
    have := (List.nodup_cons.mp (show (p :: (ow.map (·.1) ++ (drwA dr ++ ot))).Nodup from nd)).1
    rw [z] at ha
    exact this ha
  refine ⟨⟨⟨fun a ha => ?_, nd, fun d hd => ?_, fun d hd => ?_⟩, fun a u h1 h2 => ?_, o.sub, o.dx, (fun x hd => by
    rcases List.mem_cons.mp (show x ∈ (p, d') :: ow from hd) with z | z
    · rw [z]; exact o.ox (p, d) (List.mem_cons_self ..)
    · exact o.ox x (List.mem_cons_of_mem _ z)), fun e' he => pr.is (o.tms e' he), (o.tbs.upto fun a u h2 h3 => e a u (fun z => by
      obtain ⟨u1, hu1, hc1⟩ := (o.rk.ow (p, d) (List.mem_cons_self ..)).obj
      rw [z] at h2
      exact h3 (by rw [Option.some.inj (h2.symm.trans hu1)]; exact hc1)) h2), o.len, fun i d hi => ?_⟩, pr⟩
  · by_cases z : a = p
    · rw [z, hu0]; exact hc0.mut
    · obtain ⟨u, q⟩ := Mut.some (o.rk.mu a ha)
      have hm := o.rk.mu a ha
      rw [e a u z q, ← q]
      exact hm
  · obtain ⟨ls, items, l, t, h1, h2, h3, r⟩ := o.rk.dr d hd
    have hm := mem_drwA hd
    exact ⟨ls, items, l, t, e _ _ (npr _ (List.mem_append_right _ (List.mem_append_left _ hm.1))) h1, e _ _ (npr _ (List.mem_append_right _ (List.mem_append_left _ hm.2.1))) h2, e _ _ (npr _ (List.mem_append_right _ (List.mem_append_left _ hm.2.2))) h3, r⟩
  · rcases List.mem_cons.mp (show d ∈ (p, d') :: ow from hd) with z | z
    · rw [z]
      exact h
    · exact pr.ow (fun u _ q => e _ _ (npr _ (List.mem_append_left _ (List.mem_map.mpr ⟨d, z, rfl⟩))) q) (o.rk.ow d (List.mem_cons_of_mem _ z))
  · have hne : a ≠ p := fun z => by
      rcases hX with y | y
      · exact h1 (by rw [z]; exact y)
      · rw [z, y] at h2; cases h2
    exact e _ _ hne (o.fr a u h1 h2)
  · obtain ⟨v, h1, h2⟩ := o.sl i d hi
    exact ⟨v, h1, pr.is h2⟩
theorem Ok.goesP {W : Wd} {σ : L2.St} {H H' : Hp} {ρ : En} {p : Addr} {d : D} {ow : List (Addr × D)} {dr : List (Addr × Addr × Addr × Nat)} {ot : List Addr} (o : Ok W σ H ρ ⟨(p, d) :: ow, dr, ot⟩) 
    (e : ∀ a u, a ≠ p → H a = some u → H' a = some u) : Goes (adrs ⟨(p, d) :: ow, dr, ot⟩) H H' :=
  ⟨fun a u h1 _ h2 => e a u (fun z => h1 (by rw [z]; exact List.mem_cons_self ..)) h2, fun a h => no_tup (o.rk.mu a h)⟩
theorem Ok.chg {W : Wd} {σ : L2.St} {H : Hp} {ρ : En} {p : Addr} {d : D} {ds' : List D} {vs' : List V} {ow : List (Addr × D)} {dr : List (Addr × Addr × Addr × Nat)} {ot : List Addr} (o : Ok W σ H ρ ⟨(p, d) :: ow, dr, ot⟩) 
    (h : IsL W.K (adrs ⟨(p, d) :: ow, dr, ot⟩) H ds' vs') : Ok W σ (upd H p (.lst vs')) ρ ⟨(p, .lst ds') :: ow, dr, ot⟩ ∧ Pres W.K ⟨(p, d) :: ow, dr, ot⟩ H ⟨(p, .lst ds') :: ow, dr, ot⟩ (upd H p (.lst vs')) :=
  have e : ∀ a u, a ≠ p → H a = some u → upd H p (.lst vs') a = some u := fun a u z q => by rw [upd_ne z]; exact q
  o.chgO e (d' := .lst ds') ⟨vs', upd_same, IsL.goes (o.goesP e) _ _ h⟩
/-- the first thing of one's own is never changed any more -/
theorem Ok.freezeD {W : Wd} {σ : L2.St} {H : Hp} {ρ : En} {p : Addr} {d : D} {ow : List (Addr × D)} {dr : List (Addr × Addr × Addr × Nat)} {ot : List Addr} (o : Ok W σ H ρ ⟨(p, d) :: ow, dr, ot⟩) :
    Ok W σ H ρ ⟨ow, dr, ot⟩ ∧ Pres W.K ⟨(p, d) :: ow, dr, ot⟩ H ⟨ow, dr, ot⟩ H ∧ Is W.K (adrs ⟨ow, dr, ot⟩) H d (.ref p) := by
  have hs : p ∉ W.X1 := (o.ox (p, d) (List.mem_cons_self ..)).1
  have ea : adrs ⟨(p, d) :: ow, dr, ot⟩ = p :: adrs ⟨ow, dr, ot⟩ := rfl
  have pr : Pres W.K ⟨(p, d) :: ow, dr, ot⟩ H ⟨ow, dr, ot⟩ H := ⟨fun a u _ _ h => h, fun a ha => .inl (List.mem_cons_of_mem _ ha), fun a h => no_tup (o.rk.mu a h)⟩
  have nd := List.nodup_cons.mp (show (p :: adrs ⟨ow, dr, ot⟩).Nodup from o.rk.nd)
  refine ⟨⟨⟨fun a ha => o.rk.mu a (List.mem_cons_of_mem _ ha), nd.2, o.rk.dr, fun d hd => ?_⟩, o.fr, fun a ha => ?_, o.dx, fun d hd => o.ox d (List.mem_cons_of_mem _ hd), fun e he => pr.is (o.tms e he), o.tbs, o.len, fun i d hi => ?_⟩, pr, ?_⟩
  · exact pr.ow (fun _ _ q => q) (o.rk.ow d (List.mem_cons_of_mem _ hd))
  · rcases List.mem_cons.mp (show a ∈ p :: adrs ⟨ow, dr, ot⟩ from o.sub a ha) with z | z
    · exact absurd (by rw [← z]; exact ha) hs
    · exact z
  · obtain ⟨v, h1, h2⟩ := o.sl i d hi
    exact ⟨v, h1, pr.is h2⟩
  · exact (pr.ow (fun _ _ q => q) (o.rk.ow (p, d) (List.mem_cons_self ..))).is nd.1
theorem Ok.freeze {W : Wd} {σ : L2.St} {H : Hp} {ρ : En} {p : Addr} {ds : List D} {ow : List (Addr × D)} {dr : List (Addr × Addr × Addr × Nat)} {ot : List Addr} (o : Ok W σ H ρ ⟨(p, .lst ds) :: ow, dr, ot⟩) :
    Ok W σ H ρ ⟨ow, dr, ot⟩ ∧ Pres W.K ⟨(p, .lst ds) :: ow, dr, ot⟩ H ⟨ow, dr, ot⟩ H ∧ Is W.K (adrs ⟨ow, dr, ot⟩) H (.lst ds) (.ref p) := o.freezeD
end Pw

namespace Pw
open PySem L2

/-! ### new lists -/
def LEL (W : Wd) (te : TE) (ρ : En) (s : Rs) (Φ : List D → Rs → Prop) : Prop :=
  ∀ (σ : L2.St) (H : Hp), Ok W σ H ρ s → ∀ Q : VK, (∀ p H' ds s', Ok W σ H' ρ (s'.push p ds) → Pres W.K s H (s'.push p ds) H' → Φ ds s' → Q (.ref p) H') → te σ H Q
section
variable {W : Wd} {ρ : En} {s : Rs} {te : TE}
theorem LE.ofL {Φ : D → Rs → Prop} (h : LEL W te ρ s fun ds s' => Φ (.lst ds) s') : LE W te ρ s Φ := fun σ H o Q q => by
  refine h σ H o Q fun p H' ds s' o' p' k => ?_
  obtain ⟨o2, p2, i2⟩ := o'.freeze
  exact q _ H' _ s' o2 (p'.trans p2) i2 k
theorem LEL.lst {Φ : List D → Rs → Prop} {ta : TA} (h : LA W ta ρ s fun ds s1 => ds.length ≤ 1000 ∧ Φ ds s1) : LEL W (tLst ta) ρ s Φ := fun σ H o Q q => by
  refine h σ H o _ fun vs H1 ds s1 o1 p1 i1 k => ?_
  refine ⟨Nat.le_of_lt (small1000 (by rw [i1.length]; exact k.1)), fun p hp => ?_⟩
  obtain ⟨o2, p2⟩ := o1.newL hp i1
  exact q p _ ds s1 o2 (p1.trans p2) k.2
theorem LEL.cat {Φ : List D → Rs → Prop} {ta tb : TE} (h : LE W ta ρ s fun x s1 => LE W tb ρ s1 fun y s2 => ∃ ds es, x = .lst ds ∧ y = .lst es ∧ ds.length + es.length ≤ 1000 ∧ Φ (ds ++ es) s2) : LEL W (tOp rCat ta tb) ρ s Φ := fun σ H o Q q => by
  refine h σ H o _ fun vx H1 x s1 o1 p1 i1 k1 => ?_
  refine k1 σ H1 o1 _ fun vy H2 y s2 o2 p2 i2 k2 => ?_
  obtain ⟨ds, es, rfl, rfl, hl, k⟩ := k2
  obtain ⟨a, xs, rfl, _, h1, h2⟩ := p2.is i1
  obtain ⟨b, ys, rfl, _, g1, g2⟩ := i2
  refine ⟨a, b, xs, ys, rfl, rfl, h1, g1, Nat.le_of_lt (small1000 (by rw [h2.length, g2.length]; exact hl)), fun p hp => ?_⟩
  obtain ⟨o3, p3⟩ := o2.newL hp (h2.append g2)
  exact q p _ _ s2 o3 ((p1.trans p2).trans p3) k
theorem LEL.listOf {Φ : List D → Rs → Prop} {ta : TA} (h : LA W ta ρ s fun xs s1 => ∃ ds, (xs = [.lst ds] ∨ xs = [.tup ds]) ∧ Φ ds s1) : LEL W (tCB (rListOf W.K) ta) ρ s Φ := fun σ H o Q q => by
  refine h σ H o _ fun vs H1 xs s1 o1 p1 i1 k => ?_
  obtain ⟨ds, hx, k⟩ := k
  rcases hx with rfl | rfl
  · obtain ⟨v, rfl, a, xs, rfl, _, h1, h2⟩ := IsL.one i1
    refine ⟨a, xs, rfl, .inl (SqL.of h1), fun p hp => ?_⟩
    obtain ⟨o3, p3⟩ := o1.newL hp h2
    exact q p _ _ s1 o3 (p1.trans p3) k
  · obtain ⟨v, rfl, a, xs, rfl, h1, h2⟩ := IsL.one i1
    refine ⟨a, xs, rfl, .inr (IsL.sqT h1), fun p hp => ?_⟩
    obtain ⟨o3, p3⟩ := o1.newL hp h2
    exact q p _ _ s1 o3 (p1.trans p3) k
/-! slices -/
def LO (W : Wd) (to : TO) (ρ : En) (s : Rs) (Φ : Option Int → Rs → Prop) : Prop :=
  ∀ (σ : L2.St) (H : Hp), Ok W σ H ρ s → ∀ Q : Option Int → Hp → Prop, (∀ i H' s', Ok W σ H' ρ s' → Pres W.K s H s' H' → Φ i s' → Q i H') → to σ H Q
theorem LO.none {Φ : Option Int → Rs → Prop} (h : Φ none s) : LO W tNoPart ρ s Φ := fun σ H o Q q => q _ H s o (.refl o.rk) h
theorem LO.some {Φ : Option Int → Rs → Prop} (h : LE W te ρ s fun x s1 => ∃ i, x = .int i ∧ Φ (some i) s1) : LO W (tPart te) ρ s Φ := fun σ H o Q q => by
  refine h σ H o _ fun v H1 x s1 o1 p1 i1 k => ?_
  obtain ⟨i, rfl, k⟩ := k
  exact ⟨i, i1, q _ H1 s1 o1 p1 k⟩
def cutD (xs : List D) (lo hi : Option Int) : List D := (xs.drop (HT.sIx xs.length 0 lo)).take (HT.sIx xs.length xs.length hi - HT.sIx xs.length 0 lo)
theorem IsL.cut {K : PySem.W.Frag} {Xs : List Addr} {H : Hp} {ds : List D} {vs : List V} (h : IsL K Xs H ds vs) (lo hi : Option Int) : IsL K Xs H (cutD ds lo hi) (cutV vs lo hi) := by
  unfold cutD cutV
  rw [h.length]
  exact (h.drop _).take _
theorem LEL.slice {Φ : List D → Rs → Prop} {tl th : TO} (h : LE W te ρ s fun x s1 => LO W tl ρ s1 fun lo s2 => LO W th ρ s2 fun hi s3 => ∃ ds, x = .lst ds ∧ Φ (cutD ds lo hi) s3) : LEL W (tSl (rSlL W.K) te tl th) ρ s Φ := fun σ H o Q q => by
  refine h σ H o _ fun vx H1 x s1 o1 p1 i1 k1 => ?_
  refine k1 σ H1 o1 _ fun lo H2 s2 o2 p2 k2 => ?_
  refine k2 σ H2 o2 _ fun hi H3 s3 o3 p3 k3 => ?_
  obtain ⟨ds, rfl, k⟩ := k3
  obtain ⟨a, xs, rfl, _, h1, h2⟩ := (p2.trans p3).is i1
  refine ⟨a, xs, rfl, SqL.of h1, fun p hp => ?_⟩
  obtain ⟨o4, p4⟩ := o3.newL hp (h2.cut lo hi)
  exact q p _ _ s3 o4 (((p1.trans p2).trans p3).trans p4) k
theorem LE.sliceT {Φ : D → Rs → Prop} {tl th : TO} (h : LE W te ρ s fun x s1 => LO W tl ρ s1 fun lo s2 => LO W th ρ s2 fun hi s3 => ∃ ds, x = .tup ds ∧ Φ (.tup (cutD ds lo hi)) s3) : LE W (tSl (rSlA W.K) te tl th) ρ s Φ := fun σ H o Q q => by
  refine h σ H o _ fun vx H1 x s1 o1 p1 i1 k1 => ?_
  refine k1 σ H1 o1 _ fun lo H2 s2 o2 p2 k2 => ?_
  refine k2 σ H2 o2 _ fun hi H3 s3 o3 p3 k3 => ?_
  obtain ⟨ds, rfl, k⟩ := k3
  obtain ⟨a, xs, rfl, h1, h2⟩ := (p2.trans p3).is i1
  have h3 := h2.cut lo hi
  refine ⟨a, xs, rfl, IsL.sqT h1, fun hw => ?_, fun hw p hp => ?_⟩
  · have e : cutV xs lo hi = xs := by
      unfold cutV
      rw [hw.1, hw.2]
      simp
    rw [e] at h3
    exact q _ H3 (.tup (cutD ds lo hi)) s3 o3 ((p1.trans p2).trans p3) ⟨a, xs, rfl, h1, h3⟩ k
  · have sm : Same H3 (upd H3 p (.tup (cutV xs lo hi))) := Same.new hp
    exact q _ _ (.tup (cutD ds lo hi)) s3 (o3.same sm) (((p1.trans p2).trans p3).trans (o3.pres sm)) ⟨p, _, rfl, .inl upd_same, IsL.goes (o3.rk.goes sm) _ _ h3⟩ k
/-! comprehensions -/
def wipeD (ρ : En) : List Nat → En
  | [] => ρ
  | v :: vs => (wipeD ρ vs).set v none
theorem Ok.wipe {σ : L2.St} {H : Hp} (o : Ok W σ H ρ s) : ∀ vs : List Nat, Ok W (wipe σ vs) H (wipeD ρ vs) s
  | [] => o
  | v :: vs => by
    have o2 := Ok.wipe o vs
    refine ⟨o2.rk, o2.fr, o2.sub, o2.dx, o2.ox, o2.tms, o2.tbs, by unfold L2.wipe wipeD; rw [List.length_set, List.length_set, o2.len], fun j d hj => ?_⟩
    unfold wipeD at hj
    unfold L2.wipe
    by_cases e : v = j
    · subst e
      rw [List.getElem?_set] at hj
      simp only [if_true] at hj
      split at hj <;> cases hj
    · rw [List.getElem?_set_ne e] at hj ⊢
      exact o2.sl j d hj
theorem Ok.slots {σ σ' : L2.St} {H H' : Hp} {ρ' : En} {s' : Rs} (o : Ok W σ H ρ s) (o' : Ok W σ' H' ρ' s') (p : Pres W.K s H s' H') : Ok W σ H' ρ s' :=
  ⟨o'.rk, o'.fr, o'.sub, o'.dx, o'.ox, o'.tms, o'.tbs, o.len, fun i d hi => by
    obtain ⟨v, h1, h2⟩ := o.sl i d hi
    exact ⟨v, h1, p.is h2⟩⟩
/-- the target stores in the block's own slots alone -/
def Tg (g : TG) (vs : List Nat) : Prop := ∀ v σ H (Q : L2.St → Hp → Prop), g v (wipe σ vs) H Q → g v (wipe σ vs) H fun σ2 H2 => wipe σ2 vs = wipe σ vs ∧ Q σ2 H2
theorem Tg.name {j : Nat} : Tg (gName j) [j] := fun v σ H Q h => ⟨by
  show ((σ.set j none).set j (some v)).set j none = σ.set j none
  rw [List.set_set, List.set_set], h⟩
theorem Tg.tup2 {K : PySem.W.Frag} {i j : Nat} (hij : i ≠ j) : Tg (gTup K 2 (gCons (gName i) (gCons (gName j) gNil))) [i, j] := fun v σ H Q h => by
  obtain ⟨a, xs, e, hs, hl, x, r, e2, y, r2, e3, e4, q⟩ := h
  refine ⟨a, xs, e, hs, hl, x, r, e2, y, r2, e3, e4, ?_, q⟩
  show ((((((σ.set j none).set i none).set i (some x)).set j (some y)).set j none).set i none) = (σ.set j none).set i none
  rw [List.set_set, List.set_comm (some x) none hij, List.set_set, List.set_comm none none hij, List.set_set, List.set_set]
theorem LEL.lc {Φ : List D → Rs → Prop} {wi : TI} {g : TG} {tt : TT} {vs : List Nat} (hg : Tg g vs)
    (h : LI W wi ρ s fun ys s1 => ∃ Inv : Nat → List D → Rs → Prop, ys.length ≤ 1000 ∧ Inv 0 [] s1 ∧
      (∀ tms p i d acc s2, ys[i]? = some d → Inv i acc s2 → LG ⟨W.K, W.H0, W.X0, W.X1, tms, W.tb⟩ g d (wipeD ρ vs) (s2.push p acc) fun ρ3 s3 => LT ⟨W.K, W.H0, W.X0, W.X1, tms, W.tb⟩ tt ρ3 s3 fun b s4 =>
        (b = true → LE ⟨W.K, W.H0, W.X0, W.X1, tms, W.tb⟩ te ρ3 s4 fun y s5 => ∃ s6, s5 = Rs.push s6 p acc ∧ Inv (i + 1) (acc ++ [y]) s6) ∧ (b = false → ∃ s6, s4 = Rs.push s6 p acc ∧ Inv (i + 1) acc s6)) ∧
      ∀ acc s2, Inv ys.length acc s2 → Φ acc s2) : LEL W (tLc wi g tt te vs) ρ s Φ := fun σ H o Q q => by
  refine h σ H o _ fun J H1 ys s1 tms o1 p1 ht hJ k => ?_
  obtain ⟨Inv, hlen, h0, hs, hd⟩ := k
  obtain ⟨G, Y, hw, hG⟩ := hJ
  intro Dp hDp
  obtain ⟨o2, p2⟩ := o1.newL (ds := []) hDp rfl
  refine lc_it hw (fun i H' => ∃ acc s2, acc.length ≤ i ∧ Ok (W.tms tms) (wipe σ vs) H' (wipeD ρ vs) (s2.push Dp acc) ∧ Pres W.K s1 H1 (s2.push Dp acc) H' ∧ Inv i acc s2) ⟨[], s1, Nat.le_refl _, ?_, p2, h0⟩
    (fun i H' _ ⟨acc, s2, _, o3, _, _⟩ => (hG _ H' o3.rk o3.tmp o3.fr).1) (fun i x H2 H3 hi ⟨acc, s2, hal, o3, p3, k3⟩ hy => ?_) fun H' ⟨acc, s2, hal, o3, p3, k3⟩ => ?_
  · exact (o2.push (fun e he => p2.is (ht e he))).wipe vs
  · obtain ⟨sm, d, e, ix⟩ := (hG _ H2 o3.rk o3.tmp o3.fr).2 i x H3 hi hy
    refine hg x σ H3 _ ?_
    have p3' := p3.trans (o3.pres sm)
    refine hs (tms ++ W.tm) Dp i d acc s2 e k3 x _ H3 (o3.same sm) ix _ fun σ4 H4 ρ4 s4 o4 p4 k4 => ?_
    refine k4 σ4 H4 o4 _ fun b H5 s5 o5 p5 k5 => ?_
    cases b with
    | true =>
      refine k5.1 rfl σ4 H5 o5 _ fun y H6 yd s6 o6 p6 i6 k6 => ?_
      obtain ⟨s7, rfl, k7⟩ := k6
      obtain ⟨xs, h1, h2⟩ := o6.rk.ow (Dp, .lst acc) (List.mem_cons_self ..)
      have hya : i < ys.length := by
        rcases Nat.lt_or_ge i ys.length with z | z
        · exact z
        · rw [List.getElem?_eq_none_iff.mpr z] at e; cases e
      refine ⟨xs, h1, small1000 (by rw [show xs.length = acc.length from h2.length]; omega), acc ++ [yd], s7, by rw [List.length_append]; simp; omega, ?_, ?_, k7⟩
      · exact o3.slots (o6.chg (h2.snoc i6)).1 ((((o3.pres sm).trans p4).trans (p5.trans p6)).trans (o6.chg (h2.snoc i6)).2)
      · exact ((p3'.trans p4).trans (p5.trans p6)).trans (o6.chg (h2.snoc i6)).2
    | false =>
      obtain ⟨s7, rfl, k7⟩ := k5.2 rfl
      exact ⟨acc, s7, by omega, o3.slots o5 (((o3.pres sm).trans p4).trans p5), (p3'.trans p4).trans p5, k7⟩
  · have o4 : Ok W σ H' ρ (s2.push Dp acc) := ⟨o3.rk, o3.fr, o3.sub, o3.dx, o3.ox, fun e he => o3.tms e (List.mem_append_right _ he), o3.tbs, o.len, fun i d hi => by
      obtain ⟨v, h1, h2⟩ := o1.sl i d hi
      exact ⟨v, h1, p3.is h2⟩⟩
    exact q Dp H' acc s2 o4 (p1.trans p3) (hd _ _ k3)
end
end Pw

namespace Pw
open PySem L2
section
variable {W : Wd} {ρ : En} {s : Rs}
theorem LG.mono {g : TG} {d : D} {Φ Ψ : En → Rs → Prop} (h : LG W g d ρ s Φ) (q : ∀ ρ' s', Φ ρ' s' → Ψ ρ' s') : LG W g d ρ s Ψ := fun v σ H o i Q k => h v σ H o i Q fun σ' H' ρ' s' o' p f => k σ' H' ρ' s' o' p (q _ _ f)
end
/-! ### bool − bool -/
def rSubBl : R2 := fun x y H Q => ∃ p q, x = .bl p ∧ y = .bl q ∧ Q (.int ((if p = true then (1 : Int) else 0) - if q = true then (1 : Int) else 0)) H
open PySem PySem.Spec PyProof.Rows in
theorem op_subBl {X : Cx} : OpR X (binaryOp .Sub) rSubBl := by
  intro pins s σ H x y v u Q I rx ry h
  obtain ⟨p, q, rfl, rfl, k⟩ := h
  cases rx
  cases ry
  exact sub_bool ⟨.int _, H, I.tok _, ⟨_, rfl⟩, k⟩
section
variable {W : Wd} {s : Rs} {Ψ : D → Prop}
theorem OpD.subBl {p q : Bool} (h : Ψ (.int ((if p = true then (1 : Int) else 0) - if q = true then (1 : Int) else 0))) : OpD W rSubBl s (.bl p) (.bl q) Ψ := fun H vx vy r h1 h2 Q k =>
  ⟨p, q, h1, h2, k _ H (.int _) (Same.refl H) rfl h⟩
theorem OpD.catA {ds es : List D} (hl : ds.length + es.length ≤ 1000) (h : Ψ (.tup (ds ++ es))) : OpD W (rCatA W.K) s (.tup ds) (.tup es) Ψ := fun H vx vy r h1 h2 Q q => by
  obtain ⟨a, xs, rfl, g1, g2⟩ := id h1
  obtain ⟨b, ys, rfl, k1, k2⟩ := id h2
  refine ⟨a, b, xs, ys, rfl, rfl, IsL.sqT g1, IsL.sqT k1, Nat.le_of_lt (small1000 (by rw [g2.length, k2.length]; exact hl)), fun hx => ?_, fun hx hy => ?_, fun hx hy p hp => ?_⟩
  · have he : ds = [] := by
      have := g2.length
      rw [hx] at this
      exact List.eq_nil_of_length_eq_zero this.symm
    subst he
    exact q _ H (.tup es) (Same.refl H) h2 h
  · have he : es = [] := by
      have := k2.length
      rw [hy] at this
      exact List.eq_nil_of_length_eq_zero this.symm
    subst he
    rw [List.append_nil] at h
    exact q _ H (.tup ds) (Same.refl H) h1 h
  · have e : Same H (upd H p (.tup (xs ++ ys))) := Same.new hp
    exact q _ _ (.tup (ds ++ es)) e ⟨p, _, rfl, .inl upd_same, IsL.goes (r.goes e) _ _ (g2.append k2)⟩ h
/-- tuple(list), tuple(tuple) -/
theorem CbD.tupL {ds : List D} (h : Ψ (.tup ds)) : CbD W (fun xs H Q => ∃ p ys, xs = [.ref p] ∧ ((SqL W.K H p ys ∧ ∀ l, H l = none → Q (.ref l) (upd H l (.tup ys))) ∨ (SqT W.K H p ys ∧ Q (.ref p) H))) s [.lst ds] Ψ := fun H vs r h1 Q q => by
  obtain ⟨v, rfl, a, xs, rfl, g0, g1, g2⟩ := IsL.one h1
  refine ⟨a, xs, rfl, .inl ⟨SqL.of g1, fun l hl => ?_⟩⟩
  have e : Same H (upd H l (.tup xs)) := Same.new hl
  exact q _ _ (.tup ds) e ⟨l, xs, rfl, .inl upd_same, IsL.goes (r.goes e) _ _ g2⟩ h
theorem CbD.tupT {ds : List D} (h : Ψ (.tup ds)) : CbD W (fun xs H Q => ∃ p ys, xs = [.ref p] ∧ ((SqL W.K H p ys ∧ ∀ l, H l = none → Q (.ref l) (upd H l (.tup ys))) ∨ (SqT W.K H p ys ∧ Q (.ref p) H))) s [.tup ds] Ψ := fun H vs r h1 Q q => by
  obtain ⟨v, rfl, a, xs, rfl, g1, g2⟩ := IsL.one h1
  exact ⟨a, xs, rfl, .inr ⟨IsL.sqT g1, q _ H (.tup ds) (Same.refl H) ⟨a, xs, rfl, g1, g2⟩ h⟩⟩
theorem OpD.fdivZ {i j : Int} (h0 : j ≠ 0) (h1 : j.natAbs < 2 ^ 8999) (h : Ψ (.int (i.fdiv j))) : OpD W (rI CDivZ fun i j => .int (i.fdiv j)) s (.int i) (.int j) Ψ := OpD.ic ⟨h0, h1⟩ h
theorem OpD.mulW {i j : Int} {a b : Nat} (h1 : i.natAbs < 2 ^ a) (h2 : j.natAbs < 2 ^ b) (h : a ≤ 100000 ∧ b ≤ 100000) (k : Ψ (.int (i * j))) : OpD W (rI CMulW fun i j => .int (i * j)) s (.int i) (.int j) Ψ := OpD.ic (wide_mul (a := a + 1) (b := b + 1) (pow_up h1 (by omega)) (pow_up h2 (by omega)) (by omega) (by omega) (by omega)) k
end
/-! ### data that is a fraction of at most k bits -/
def Fr (d : D) (q : Rat) (k : Nat) : Prop := d = fr q ∧ Fit k q
theorem Fr.of {q : Rat} {k : Nat} (h : Fit k q) : Fr (fr q) q k := ⟨rfl, h⟩
theorem Fr.ng {q : Rat} {k : Nat} (h : Fit k q) : Fr (.tup [.int (0 - q.num), .int q.den]) (-q) k := ⟨by
  show D.tup [.int (0 - q.num), .int q.den] = .tup [.int (-q.num), .int q.den]
  rw [Int.zero_sub], h.neg⟩
theorem divInt_self' {n d : Int} (h0 : 0 < d) (h1 : Int.gcd n d = 1) : (Rat.divInt n d).num = n ∧ ((Rat.divInt n d).den : Int) = d := by
  have e := fr_make (n := n) (d := d) (by omega) (c := (Int.gcd n d : Int)) (by rw [if_neg (by omega)])
  rw [h1] at e
  injection e with e
  injection e with e1 e2
  injection e2 with e2 _
  injection e1 with e1
  injection e2 with e2
  simp at e1 e2
  exact ⟨e1.symm, e2.symm⟩
theorem Fr.lit {n d : Int} (k : Nat) (h0 : 0 < d) (h1 : Int.gcd n d = 1) (h2 : n.natAbs < 2 ^ k) (h3 : d.natAbs < 2 ^ k) : Fr (.tup [.int n, .int d]) (Rat.divInt n d) k := by
  obtain ⟨e1, e2⟩ := divInt_self' h0 h1
  refine ⟨?_, fit_divInt (by omega) h2 h3⟩
  show D.tup [.int n, .int d] = .tup [.int (Rat.divInt n d).num, .int (Rat.divInt n d).den]
  rw [e1, e2]
theorem Fit.int {n : Int} {k : Nat} (h : n.natAbs < 2 ^ k) : Fit (k + 1) (n : Rat) := by
  refine ⟨pow_up (show (n : Rat).num.natAbs < 2 ^ k from h) (by omega), ?_⟩
  show (1 : Nat) < 2 ^ (k + 1)
  have : 0 < 2 ^ k := Nat.two_pow_pos k
  rw [Nat.pow_succ]; omega
theorem Fr.int {n : Int} {k : Nat} (h : n.natAbs < 2 ^ k) : Fr (.tup [.int n, .int 1]) (n : Rat) (k + 1) := ⟨rfl, Fit.int h⟩
theorem Fr.zero : Fr (.tup [.int 0, .int 1]) 0 1 := ⟨rfl, by decide, by decide⟩
theorem Fr.one : Fr (.tup [.int 1, .int 1]) 1 1 := ⟨rfl, by decide, by decide⟩
theorem Fit.zero : Fit 1 (0 : Rat) := ⟨by decide, by decide⟩
theorem Fit.one : Fit 1 (1 : Rat) := ⟨by decide, by decide⟩
theorem Fit.dI {k : Nat} {q : Rat} (h : Fit k q) : (q.den : Int).natAbs < 2 ^ k := by rw [Int.natAbs_natCast]; exact h.2
theorem gcd_turn (x y : Nat) : Nat.gcd y (x % y) = Nat.gcd x y := by
  rw [Nat.gcd_comm, ← Nat.gcd_rec, Nat.gcd_comm]
theorem divInt_num_den (q : Rat) : Rat.divInt q.num q.den = q := Rat.num_divInt_den q
/-- the size and the sort of what new_fraction meets -/
theorem den2 {k l m : Nat} {a b : Rat} (ha : Fit k a) (hb : Fit l b) (h : k + l ≤ m) : ((a.den : Int) * b.den) ≠ 0 ∧ ((a.den : Int) * b.den).natAbs < 2 ^ m :=
  ⟨Int.mul_ne_zero (den_ne a) (den_ne b), pow_up (int_mul_lt ha.dI hb.dI) h⟩
theorem num2 {k l m : Nat} {a b : Rat} (ha : Fit k a) (hb : Fit l b) (h : k + l ≤ m) (h0 : b ≠ 0) : ((a.den : Int) * b.num) ≠ 0 ∧ ((a.den : Int) * b.num).natAbs < 2 ^ m :=
  ⟨Int.mul_ne_zero (den_ne a) (num_ne h0), pow_up (int_mul_lt ha.dI hb.1) h⟩
theorem num_nz {a : Rat} (h : ¬ a.num = 0) : a ≠ 0 := fun z => h (by rw [z]; rfl)
theorem Fit.dU {k : Nat} {q : Rat} (h : Fit k q) (hk : k ≤ 8999) : (q.den : Int).natAbs < 2 ^ 8999 := pow_up h.dI hk
def ordq (a b : Rat) : Int := (if b < a then 1 else 0) - if a < b then 1 else 0
theorem floor_eq (a : Rat) : a.num.fdiv a.den = a.floor := by
  rw [Int.fdiv_eq_ediv_of_nonneg _ (Int.natCast_nonneg _), Rat.floor_def]
section
variable {W : Wd} {s : Rs} {Ψ : D → Prop}
theorem OpD.eqS {d : D} (h : Ip 40 d = true) (k : Ψ (.bl true)) : OpD W (rEqD W.K) s d d Ψ := OpD.eqD h h fun b hb => by
  have e : b = true := hb.mpr rfl
  rw [e]; exact k
theorem OpD.neS {d : D} (h : Ip 40 d = true) (k : Ψ (.bl false)) : OpD W (rNeD W.K) s d d Ψ := OpD.neD h h fun b hb => by
  have e : b = false := by
    cases b with
    | false => rfl
    | true => exact absurd rfl (hb.mp rfl)
  rw [e]; exact k
end
/-! ### comprehensions that draw nothing -/
section
variable {W : Wd} {ρ : En} {s : Rs} {te : TE}
theorem LEL.lcF {Φ : List D → Rs → Prop} {wi : TI} {g : TG} {tt : TT} {vs : List Nat} (hg : Tg g vs)
    (h : LI W wi ρ s fun ys s1 => ∃ f : Nat → List D, ys.length ≤ 1000 ∧ f 0 = [] ∧
      (∀ tms p i d, ys[i]? = some d → LG ⟨W.K, W.H0, W.X0, W.X1, tms, W.tb⟩ g d (wipeD ρ vs) (s1.push p (f i)) fun ρ3 s3 => LT ⟨W.K, W.H0, W.X0, W.X1, tms, W.tb⟩ tt ρ3 s3 fun b s4 =>
        (b = true → LE ⟨W.K, W.H0, W.X0, W.X1, tms, W.tb⟩ te ρ3 s4 fun y s5 => s5 = s1.push p (f i) ∧ f (i + 1) = f i ++ [y]) ∧ (b = false → s4 = s1.push p (f i) ∧ f (i + 1) = f i)) ∧
      Φ (f ys.length) s1) : LEL W (tLc wi g tt te vs) ρ s Φ := LEL.lc hg fun σ H o R q => h σ H o R fun J H' ys s1 tms o1 p1 ht hJ k => by
  obtain ⟨f, hl, h0, hs, hfin⟩ := k
  refine q J H' ys s1 tms o1 p1 ht hJ ⟨fun i acc s2 => s2 = s1 ∧ acc = f i, hl, ⟨rfl, h0.symm⟩, fun tms p i d acc s2 hd hI => ?_, fun acc s2 hI => ?_⟩
  · obtain ⟨rfl, rfl⟩ := hI
    have := hs tms p i d hd
    exact LG.mono this fun ρ3 s3 k => LT.mono k fun b s4 k => ⟨fun e => LE.mono (k.1 e) fun y s5 k => ⟨s2, k.1, rfl, k.2.symm⟩, fun e => ⟨s2, (k.2 e).1, rfl, (k.2 e).2.symm⟩⟩
  · obtain ⟨rfl, rfl⟩ := hI
    exact hfin
end
end Pw
namespace Pw
open PySem L2
/-! ### isinstance(x, (T, U)) -/
section
variable {W : Wd} {ρ : En} {s : Rs} {te : TE} {Φ : D → Rs → Prop}
theorem LE.isiT {A B : String} (h : LE W te ρ s fun d s1 => tyName d ≠ "?" ∧ ∃ x y, kitB (tyName d) A = some x ∧ kitB (tyName d) B = some y ∧ Φ (.bl (x || y)) s1) :
    LE W (tCB (rIsiT W.K) (tCons te (tCons (tTup (tCons (tC (.ty A)) (tCons (tC (.ty B)) tNil))) tNil))) ρ s Φ := fun σ H o Q q => by
  refine h σ H o _ fun v H1 d s1 o1 p1 i1 k => ?_
  obtain ⟨hn, x, y, hx, hy, k⟩ := k
  refine ⟨(show 2 ≤ sizeLine by decide), fun p hp => ?_⟩
  have sm : Same H1 (upd H1 p (.tup [.ty A, .ty B])) := Same.new hp
  have i2 := Is.goes (o1.rk.goes sm) _ _ i1
  refine ⟨v, p, [.ty A, .ty B], _, [.type A, .type B], x || y, rfl, upd_same, .cons (.ty A) (.cons (.ty B) .nil), Is.tyX hn i2, ?_, q _ _ (.bl (x || y)) s1 (o1.same sm) (p1.trans (o1.pres sm)) rfl k⟩
  refine kitAny_cons (b := x) (kit_ty hx) (fun e => ?_) (fun e => by rw [e]; rfl)
  subst e
  refine kitAny_cons (b := y) (kit_ty hy) (fun e => ?_) (fun e => by rw [e]; rfl)
  subst e
  exact kitAny_nil
end
end Pw

namespace Pw
open PySem L2
/-! ### lists of one's own: read, frozen, changed -/
section
variable {W : Wd} {σ : L2.St} {H H' : Hp} {ρ : En} {s s' : Rs}
theorem Ok.slot {i : Nat} {v : V} {d : D} (o : Ok W σ H ρ s) (hi : σ[i]? = some (some v)) (h : Is W.K (adrs s) H d v) : Ok W σ H (ρ.set i (some d)) s :=
  ⟨o.rk, o.fr, o.sub, o.dx, o.ox, o.tms, o.tbs, by rw [List.length_set, o.len], fun j d' hj => by
    by_cases e : i = j
    · subst e
      rw [List.getElem?_set] at hj
      simp only [if_true] at hj
      split at hj
      · cases hj
        exact ⟨v, hi, h⟩
      · cases hj
    · rw [List.getElem?_set_ne e] at hj
      exact o.sl j d' hj⟩
/-- what is held by a thing of one's own is immutable -/
def ImmK : List (Key × D) → Bool
  | [] => true
  | e :: r => Imm e.2 && ImmK r
def ImmT : List (List Key × D) → Bool
  | [] => true
  | e :: r => Imm e.2 && ImmT r
def ImmF : List (Str × D) → Bool
  | [] => true
  | e :: r => Imm e.2 && ImmF r
def ImmO : D → Bool
  | .lst ds => ImmL ds | .dct kvs => ImmK kvs | .dtp kvs => ImmT kvs | .ins _ fs => ImmF fs
  | _ => true
theorem IsK.imm {K : PySem.W.Frag} {Xs Ys : List Addr} {H : Hp} : ∀ (ds : List (Key × D)) (vs : List (Key × V)), ImmK ds = true → IsK K Xs H ds vs → IsK K Ys H ds vs
  | [], vs, _, h => h
  | (f, d) :: ds, vs, i, h => by
    obtain ⟨x, r, e, h1, h2⟩ := h
    have i' : (Imm d && ImmK ds) = true := i
    rw [Bool.and_eq_true] at i'
    exact ⟨x, r, e, Is.imm d x i'.1 h1, IsK.imm ds r i'.2 h2⟩
theorem IsT.imm {K : PySem.W.Frag} {Xs Ys : List Addr} {H : Hp} : ∀ (ds : List (List Key × D)) (vs : List (List Key × V)), ImmT ds = true → IsT K Xs H ds vs → IsT K Ys H ds vs
  | [], vs, _, h => h
  | (f, d) :: ds, vs, i, h => by
    obtain ⟨x, r, e, h1, h2⟩ := h
    have i' : (Imm d && ImmT ds) = true := i
    rw [Bool.and_eq_true] at i'
    exact ⟨x, r, e, Is.imm d x i'.1 h1, IsT.imm ds r i'.2 h2⟩
theorem IsF.imm {K : PySem.W.Frag} {Xs Ys : List Addr} {H : Hp} : ∀ (ds : List (Str × D)) (vs : List (Str × V)), ImmF ds = true → IsF K Xs H ds vs → IsF K Ys H ds vs
  | [], vs, _, h => h
  | (f, d) :: ds, vs, i, h => by
    obtain ⟨x, r, e, h1, h2⟩ := h
    have i' : (Imm d && ImmF ds) = true := i
    rw [Bool.and_eq_true] at i'
    exact ⟨x, r, e, Is.imm d x i'.1 h1, IsF.imm ds r i'.2 h2⟩
theorem Ow.imm {K : PySem.W.Frag} {Xs Ys : List Addr} {H : Hp} {a : Addr} {d : D} (i : ImmO d = true) (h : Ow K Xs H a d) : Ow K Ys H a d := by
  cases d with
  | lst ds => obtain ⟨xs, h1, h2⟩ := h; exact ⟨xs, h1, IsL.imm _ _ i h2⟩
  | dct kvs => obtain ⟨vs, h1, h2⟩ := h; exact ⟨vs, h1, IsK.imm _ _ i h2⟩
  | dtp kvs => obtain ⟨vs, h1, h2⟩ := h; exact ⟨vs, h1, IsT.imm _ _ i h2⟩
  | ins C fs => obtain ⟨dx, vs, h1, h2⟩ := h; exact ⟨dx, vs, h1, IsF.imm _ _ i h2⟩
  | _ => exact h.elim
theorem Pres.pushed {K : PySem.W.Frag} {p : Addr} {d : D} (hp : ∃ u, H p = some u ∧ Chg u) (k : Pres K s H s' H') : Pres K (s.pushD p d) H (s'.pushD p d) H' where
  keep := fun a o h1 nt h2 => k.keep a o (fun z => h1 (List.mem_cons_of_mem _ z)) nt h2
  new := fun a ha => by
    rcases List.mem_cons.mp (show a ∈ p :: adrs s' from ha) with z | z
    · rw [z]; exact .inl (List.mem_cons_self ..)
    · rcases k.new a z with y | y
      · exact .inl (List.mem_cons_of_mem _ y)
      · exact .inr y
  mu := fun a ha => by
    rcases List.mem_cons.mp (show a ∈ p :: adrs s from ha) with z | z
    · obtain ⟨u, e, c⟩ := hp
      rw [z]
      exact no_tup (by rw [e]; exact c.mut)
    · exact k.mu a z
theorem Ok.unfreeze {ρ' : En} {p : Addr} {d : D} (o : Ok W σ H ρ (s.pushD p d)) (o' : Ok W σ H' ρ' s') (k : Pres W.K s H s' H') (hI : ∀ e ∈ s'.own, ImmO e.2 = true) :
    Ok W σ H' ρ (s'.pushD p d) ∧ Pres W.K (s.pushD p d) H (s'.pushD p d) H' := by
  have ho := o.rk.ow (p, d) (List.mem_cons_self ..)
  obtain ⟨u, hp, hc⟩ := ho.obj
  have nd := List.nodup_cons.mp (show (p :: adrs s).Nodup from o.rk.nd)
  have pr := k.pushed (d := d) ⟨u, hp, hc⟩
  have hp' := k.keep p _ nd.1 (fun ps z => by rw [z] at hc; exact hc) hp
  have np : p ∉ adrs s' := fun z => by
    rcases k.new p z with y | y
    · exact nd.1 y
    · exact y.no (show H p = some u from hp) hc.nt
  refine ⟨⟨⟨fun a ha => ?_, List.nodup_cons.mpr ⟨np, o'.rk.nd⟩, o'.rk.dr, fun x hd => ?_⟩, o'.fr, fun a ha => List.mem_cons_of_mem _ (o'.sub a ha), o'.dx, fun x hd => ?_, fun e he => pr.is (o.tms e he), o'.tbs, o.len, fun i d hi => ?_⟩, pr⟩
  · rcases List.mem_cons.mp (show a ∈ p :: adrs s' from ha) with z | z
    · rw [z, hp']; exact hc.mut
    · exact o'.rk.mu a z
  · rcases List.mem_cons.mp (show x ∈ (p, d) :: s'.own from hd) with z | z
    · rw [z]
      exact pr.ow (fun u nt q => k.keep p _ nd.1 nt q) ho
    · exact (o'.rk.ow x z).imm (hI x z)
  · rcases List.mem_cons.mp (show x ∈ (p, d) :: s'.own from hd) with z | z
    · rw [z]; exact o.ox (p, d) (List.mem_cons_self ..)
    · exact o'.ox x z
  · obtain ⟨v, h1, h2⟩ := o.sl i d hi
    exact ⟨v, h1, pr.is h2⟩
theorem Ok.frozen {i : Nat} {p : Addr} {d : D} (hi : ρ[i]? = some (some (.adr p))) (o : Ok W σ H ρ (s.pushD p d)) :
    Ok W σ H (ρ.set i (some d)) s ∧ Pres W.K (s.pushD p d) H s H := by
  obtain ⟨o2, p2, i2⟩ := o.freezeD
  obtain ⟨v, h1, h2⟩ := o.sl i _ hi
  cases (show v = .ref p from h2)
  exact ⟨o2.slot h1 i2, p2⟩
theorem Ok.swap {a b : Addr × D} {ow : List (Addr × D)} {dr : List (Addr × Addr × Addr × Nat)} {ot : List Addr} (o : Ok W σ H ρ ⟨a :: b :: ow, dr, ot⟩) : Ok W σ H ρ ⟨b :: a :: ow, dr, ot⟩ ∧ Pres W.K ⟨a :: b :: ow, dr, ot⟩ H ⟨b :: a :: ow, dr, ot⟩ H := by
  have hm : ∀ x, x ∈ adrs ⟨b :: a :: ow, dr, ot⟩ ↔ x ∈ adrs ⟨a :: b :: ow, dr, ot⟩ := fun x => by
    show x ∈ b.1 :: a.1 :: _ ↔ x ∈ a.1 :: b.1 :: _
    simp only [List.mem_cons]
    exact ⟨fun h => h.elim (fun z => .inr (.inl z)) fun h => h.elim .inl fun z => .inr (.inr z), fun h => h.elim (fun z => .inr (.inl z)) fun h => h.elim .inl fun z => .inr (.inr z)⟩
  have ho : ∀ e, e ∈ b :: a :: ow ↔ e ∈ a :: b :: ow := fun x => by
    simp only [List.mem_cons]
    exact ⟨fun h => h.elim (fun z => .inr (.inl z)) fun h => h.elim .inl fun z => .inr (.inr z), fun h => h.elim (fun z => .inr (.inl z)) fun h => h.elim .inl fun z => .inr (.inr z)⟩
  have pr : Pres W.K ⟨a :: b :: ow, dr, ot⟩ H ⟨b :: a :: ow, dr, ot⟩ H := ⟨fun _ _ _ _ h => h, fun x h => .inl ((hm x).mp h), fun x h => no_tup (o.rk.mu x h)⟩
  refine ⟨⟨⟨fun x h => o.rk.mu x ((hm x).mp h), ?_, o.rk.dr, fun e he => ?_⟩, o.fr, fun x h => (hm x).mpr (o.sub x h), o.dx, fun e he => o.ox e ((ho e).mp he), fun e he => pr.is (o.tms e he), o.tbs, o.len, fun i d hi => ?_⟩, pr⟩
  · have := o.rk.nd
    exact (List.Perm.swap b.1 a.1 _).nodup_iff.mp this
  · exact pr.ow (fun _ _ q => q) (o.rk.ow e ((ho e).mp he))
  · obtain ⟨v, h1, h2⟩ := o.sl i d hi
    exact ⟨v, h1, pr.is h2⟩
end
section
variable {W : Wd} {ρ : En} {s : Rs} {te : TE} {Φ : D → Rs → Prop} {i : Nat} {p : Addr} {ds : List D} {d0 : D}
variable {ow : List (Addr × D)} {dr : List (Addr × Addr × Addr × Nat)} {ot : List Addr}
/-- a list of one's own read in an expression, the result free of it -/
theorem LE.view (hi : ρ[i]? = some (some (.adr p))) (h : LE W te (ρ.set i (some d0)) ⟨ow, dr, ot⟩ fun d s' => Imm d = true ∧ (∀ e ∈ s'.own, ImmO e.2 = true) ∧ Φ d (s'.pushD p d0)) : LE W te ρ ⟨(p, d0) :: ow, dr, ot⟩ Φ := fun σ H o Q q => by
  have o : Ok W σ H ρ ((⟨ow, dr, ot⟩ : Rs).pushD p d0) := o
  obtain ⟨o1, p1⟩ := o.frozen hi
  refine h σ H o1 _ fun v H1 d s1 o2 p2 i2 k => ?_
  obtain ⟨o3, p3⟩ := o.unfreeze o2 p2 k.2.1
  exact q v H1 d _ o3 p3 (Is.imm _ _ k.1 i2) k.2.2
theorem LT.view {tt : TT} {Ψ : Bool → Rs → Prop} (hi : ρ[i]? = some (some (.adr p))) (h : LT W tt (ρ.set i (some d0)) ⟨ow, dr, ot⟩ fun b s' => (∀ e ∈ s'.own, ImmO e.2 = true) ∧ Ψ b (s'.pushD p d0)) : LT W tt ρ ⟨(p, d0) :: ow, dr, ot⟩ Ψ := fun σ H o Q q => by
  have o : Ok W σ H ρ ((⟨ow, dr, ot⟩ : Rs).pushD p d0) := o
  obtain ⟨o1, p1⟩ := o.frozen hi
  refine h σ H o1 _ fun b H1 s1 o2 p2 k => ?_
  obtain ⟨o3, p3⟩ := o.unfreeze o2 p2 k.1
  exact q b H1 _ o3 p3 k.2
theorem LA.view {ta : TA} {Ψ : List D → Rs → Prop} (hi : ρ[i]? = some (some (.adr p))) (h : LA W ta (ρ.set i (some d0)) ⟨ow, dr, ot⟩ fun es s' => ImmL es = true ∧ (∀ e ∈ s'.own, ImmO e.2 = true) ∧ Ψ es (s'.pushD p d0)) : LA W ta ρ ⟨(p, d0) :: ow, dr, ot⟩ Ψ := fun σ H o Q q => by
  have o : Ok W σ H ρ ((⟨ow, dr, ot⟩ : Rs).pushD p d0) := o
  obtain ⟨o1, p1⟩ := o.frozen hi
  refine h σ H o1 _ fun v H1 d s1 o2 p2 i2 k => ?_
  obtain ⟨o3, p3⟩ := o.unfreeze o2 p2 k.2.1
  exact q v H1 d _ o3 p3 (IsL.imm _ _ k.1 i2) k.2.2
theorem LEL.view {Ψ : List D → Rs → Prop} (hi : ρ[i]? = some (some (.adr p))) (h : LEL W te (ρ.set i (some d0)) ⟨ow, dr, ot⟩ fun es s' => ImmL es = true ∧ (∀ e ∈ s'.own, ImmO e.2 = true) ∧ Ψ es (s'.pushD p d0)) : LEL W te ρ ⟨(p, d0) :: ow, dr, ot⟩ Ψ := fun σ H o Q q => by
  have o : Ok W σ H ρ ((⟨ow, dr, ot⟩ : Rs).pushD p d0) := o
  obtain ⟨o1, p1⟩ := o.frozen hi
  refine h σ H o1 _ fun a H1 es s1 o2 p2 k => ?_
  obtain ⟨o3, p3⟩ := o.unfreeze o2 p2 (fun e he => by
    rcases List.mem_cons.mp (show e ∈ (a, .lst es) :: s1.own from he) with z | z
    · rw [z]; exact k.1
    · exact k.2.1 e z)
  obtain ⟨o4, p4⟩ := Ok.swap (a := (p, d0)) (b := (a, .lst es)) (ow := s1.own) (dr := s1.drw) (ot := s1.oth) o3
  exact q a H1 es (s1.pushD p d0) o4 (p3.trans p4) k.2.2
/-- never changed any more -/
theorem LE.frz (hi : ρ[i]? = some (some (.adr p))) (h : LE W te (ρ.set i (some d0)) ⟨ow, dr, ot⟩ Φ) : LE W te ρ ⟨(p, d0) :: ow, dr, ot⟩ Φ := fun σ H o Q q => by
  have o : Ok W σ H ρ ((⟨ow, dr, ot⟩ : Rs).pushD p d0) := o
  obtain ⟨o1, p1⟩ := o.frozen hi
  refine h σ H o1 Q fun v H1 d s1 o2 p2 i2 k => ?_
  -- the slots as they were
  exact q v H1 d s1 (o.slots o2 (p1.trans p2)) (p1.trans p2) i2 k
end
section
variable {W : Wd} {ρ : En} {s : Rs} {N : En → Rs → Prop} {R : D → Rs → Prop} {B C : En → Rs → Prop} {ts : TS} {te : TE} {i : Nat} {p : Addr} {ds : List D} {d0 : D}
variable {ow : List (Addr × D)} {dr : List (Addr × Addr × Addr × Nat)} {ot : List Addr}
theorem LS.frz (i : Nat) (hi : ρ[i]? = some (some (.adr p))) (h : LS W ts (ρ.set i (some d0)) ⟨ow, dr, ot⟩ N R B C) : LS W ts ρ ⟨(p, d0) :: ow, dr, ot⟩ N R B C := fun Dn σ H o f => by
  have o : Ok W σ H ρ ((⟨ow, dr, ot⟩ : Rs).pushD p d0) := o
  exact h Dn σ H (o.frozen hi).1 f
theorem LS.swap {a b : Addr × D} (h : LS W ts ρ ⟨b :: a :: ow, dr, ot⟩ N R B C) : LS W ts ρ ⟨a :: b :: ow, dr, ot⟩ N R B C := fun Dn σ H o f => h Dn σ H o.swap.1 f
/-- x = a new list -/
theorem LS.setL (h : LEL W te ρ s fun ds s' => ∀ p, N (ρ.set i (some (.adr p))) (s'.push p ds)) : LS W (tAsg te (gName i)) ρ s N R B C := fun Dn σ H o f =>
  h σ H o _ fun p H' ds s' o' p' k => f.nx _ H' _ _ (o'.set (d := .adr p) rfl) (k p)
theorem LA.consL {Ψ : List D → Rs → Prop} {tr : TA} (h : LEL W te ρ s fun ds s1 => ∀ p, LA W tr ρ (s1.push p ds) fun es s2 => Ψ (.adr p :: es) s2) : LA W (tCons te tr) ρ s Ψ := fun σ H o Q q => by
  refine h σ H o _ fun p H1 ds s1 o1 p1 k => ?_
  refine k p σ H1 o1 _ fun vs H2 es s2 o2 p2 i2 k2 => ?_
  exact q (.ref p :: vs) H2 (.adr p :: es) s2 o2 (p1.trans p2) ⟨.ref p, vs, rfl, rfl, i2⟩ k2
theorem LE.lstA {Φ : D → Rs → Prop} (h : LEL W te ρ s fun ds s' => ∀ p, Φ (.adr p) (s'.push p ds)) : LE W te ρ s Φ := fun σ H o Q q =>
  h σ H o _ fun p H' ds s' o' p' k => q (.ref p) H' (.adr p) _ o' p' rfl (k p)
theorem own_at {σ : L2.St} {H : Hp} (o : Ok W σ H ρ ⟨(p, .lst ds) :: ow, dr, ot⟩) : ∃ xs, H p = some (.lst xs) ∧ IsL W.K (adrs ⟨(p, .lst ds) :: ow, dr, ot⟩) H ds xs := o.rk.ow (p, .lst ds) (List.mem_cons_self ..)
/-- x.append(e) -/
theorem LS.app (hi : ρ[i]? = some (some (.adr p))) (h : LE W te ρ ⟨(p, .lst ds) :: ow, dr, ot⟩ fun d s' => ∃ ow' dr' ot', s' = ⟨(p, .lst ds) :: ow', dr', ot'⟩ ∧ ds.length ≤ 990 ∧ N ρ ⟨(p, .lst (ds ++ [d])) :: ow', dr', ot'⟩) :
    LS W (tDrop (tBM W.K "list" rAppend (tVar i) (tCons te tNil))) ρ ⟨(p, .lst ds) :: ow, dr, ot⟩ N R B C := fun Dn σ H o f => by
  obtain ⟨v, h1, h2⟩ := o.sl i _ hi
  cases (show v = .ref p from h2)
  obtain ⟨xs, e1, _⟩ := own_at o
  refine ⟨.ref p, h1, .inl ⟨rfl, xs, SqL.of e1⟩, h σ H o _ fun w H1 d s1 o1 p1 i1 k => ?_⟩
  obtain ⟨ow', dr', ot', rfl, hl, k⟩ := k
  obtain ⟨ys, e2, i2⟩ := own_at o1
  obtain ⟨o2, p2⟩ := o1.chg (i2.snoc i1)
  exact ⟨p, ys, w, rfl, rfl, e2, small1000 (by rw [i2.length]; omega), f.nx σ _ ρ _ o2 k⟩
/-- x.reverse() -/
theorem LS.rev (hi : ρ[i]? = some (some (.adr p))) (h : N ρ ⟨(p, .lst ds.reverse) :: ow, dr, ot⟩) : LS W (tDrop (tBM0 W.K "list" rReverse (tVar i))) ρ ⟨(p, .lst ds) :: ow, dr, ot⟩ N R B C := fun Dn σ H o f => by
  obtain ⟨v, h1, h2⟩ := o.sl i _ hi
  cases (show v = .ref p from h2)
  obtain ⟨xs, e1, i1⟩ := own_at o
  obtain ⟨o2, p2⟩ := o.chg i1.reverse
  exact ⟨.ref p, h1, .inl ⟨rfl, xs, SqL.of e1⟩, p, xs, rfl, rfl, e1, f.nx σ _ ρ _ o2 h⟩
/-- x.clear() -/
theorem LS.clr (hi : ρ[i]? = some (some (.adr p))) (h : N ρ ⟨(p, .lst []) :: ow, dr, ot⟩) : LS W (tDrop (tBM0 W.K "list" rClear (tVar i))) ρ ⟨(p, .lst ds) :: ow, dr, ot⟩ N R B C := fun Dn σ H o f => by
  obtain ⟨v, h1, h2⟩ := o.sl i _ hi
  cases (show v = .ref p from h2)
  obtain ⟨xs, e1, i1⟩ := own_at o
  obtain ⟨o2, p2⟩ := o.chg (ds' := []) (vs' := []) rfl
  exact ⟨.ref p, h1, .inl ⟨rfl, xs, SqL.of e1⟩, p, xs, rfl, rfl, e1, f.nx σ _ ρ _ o2 h⟩
/-- x[e1] = e -/
theorem LS.setI {ti : TE} (hi : ρ[i]? = some (some (.adr p))) (h : LE W te ρ ⟨(p, .lst ds) :: ow, dr, ot⟩ fun d s1 => LE W ti ρ s1 fun x s' => ∃ k j ow' dr' ot', x = .int k ∧ s' = ⟨(p, .lst ds) :: ow', dr', ot'⟩ ∧ ixN ds.length k = some j ∧ N ρ ⟨(p, .lst (ds.set j d)) :: ow', dr', ot'⟩) :
    LS W (tAsg te (gSub (tVar i) ti rSetL)) ρ ⟨(p, .lst ds) :: ow, dr, ot⟩ N R B C := fun Dn σ H o f => by
  refine h σ H o _ fun w H1 d s1 o1 p1 i1 k => ?_
  obtain ⟨v, h1, h2⟩ := o1.sl i _ hi
  cases (show v = .ref p from h2)
  refine ⟨.ref p, h1, k σ H1 o1 _ fun z H2 x s2 o2 p2 i2 k2 => ?_⟩
  obtain ⟨k, j, ow', dr', ot', rfl, rfl, hj, k2⟩ := k2
  cases (show z = .int k from i2)
  obtain ⟨ys, e2, i3⟩ := own_at o2
  obtain ⟨o3, p3⟩ := o2.chg (IsL.set (p2.is i1) j i3)
  exact ⟨p, ys, k, j, rfl, rfl, e2, by rw [i3.length]; exact hj, f.nx σ _ ρ _ o3 k2⟩
/-- x += e, ints -/
theorem LS.augI {f : Int → Int → Int} {a : Int} (hi : ρ[i]? = some (some (.int a))) (h : LE W te ρ s fun d s' => ∃ b, d = .int b ∧ N (ρ.set i (some (.int (f a b)))) s') : LS W (tAug i te (ipI f)) ρ s N R B C := fun Dn σ H o fi => by
  obtain ⟨v, h1, h2⟩ := o.sl i _ hi
  cases (show v = .int a from h2)
  refine ⟨.int a, h1, h σ H o _ fun w H1 d s1 o1 p1 i1 k => ?_⟩
  obtain ⟨b, rfl, k⟩ := k
  cases (show w = .int b from i1)
  exact ⟨a, b, rfl, rfl, fi.nx _ _ _ _ (o1.set (d := .int (f a b)) rfl) k⟩
end
/-- a statement that is never reached -/
def tDead : TS := fun _ _ _ => False
theorem ps_dead {X : Cx} {st : Stmt} : PS X st tDead := ⟨fun _ _ _ _ _ _ h => h.elim⟩
end Pw

namespace Pw
open PySem L2
/-! ### instances -/
theorem IsF.lookup {K : PySem.W.Frag} {Xs : List Addr} {H : Hp} {f : Str} : ∀ {fs : List (Str × D)} {vs : List (Str × V)} {d : D}, IsF K Xs H fs vs → fs.lookup f = some d → ∃ v, vs.lookup f = some v ∧ Is K Xs H d v
  | [], _, _, _, e => by cases e
  | (g, d0) :: fs, vs, d, h, e => by
    obtain ⟨x, r, rfl, h1, h2⟩ := h
    rw [List.lookup_cons] at e ⊢
    by_cases q : (f == g) = true
    · rw [q] at e ⊢
      cases e
      exact ⟨x, rfl, h1⟩
    · rw [Bool.not_eq_true] at q
      rw [q] at e ⊢
      exact IsF.lookup h2 e
theorem IsF.none {K : PySem.W.Frag} {Xs : List Addr} {H : Hp} {f : Str} : ∀ {fs : List (Str × D)} {vs : List (Str × V)}, IsF K Xs H fs vs → fs.lookup f = none → vs.lookup f = none
  | [], _, h, _ => by
    have e : _ = [] := h
    rw [e]; rfl
  | (g, d0) :: fs, vs, h, e => by
    obtain ⟨x, r, rfl, h1, h2⟩ := h
    rw [List.lookup_cons] at e ⊢
    by_cases q : (f == g) = true
    · rw [q] at e; cases e
    · rw [Bool.not_eq_true] at q
      rw [q] at e ⊢
      exact IsF.none h2 e
theorem IsF.length {K : PySem.W.Frag} {Xs : List Addr} {H : Hp} : ∀ {fs : List (Str × D)} {vs : List (Str × V)}, IsF K Xs H fs vs → vs.length = fs.length
  | [], _, h => by
    have e : _ = [] := h
    rw [e]; rfl
  | (g, d0) :: fs, vs, h => by
    obtain ⟨x, r, rfl, h1, h2⟩ := h
    rw [List.length_cons, List.length_cons, IsF.length h2]
def putFD (f : Str) (d : D) : List (Str × D) → List (Str × D)
  | [] => [(f, d)]
  | (g, x) :: r => if g = f then (g, d) :: r else (g, x) :: putFD f d r
theorem IsF.put {K : PySem.W.Frag} {Xs : List Addr} {H : Hp} {f : Str} {d : D} {v : V} (hd : Is K Xs H d v) : ∀ {fs : List (Str × D)} {vs : List (Str × V)}, IsF K Xs H fs vs → IsF K Xs H (putFD f d fs) (putF f v vs)
  | [], _, h => by
    have e : _ = [] := h
    rw [e]
    exact ⟨v, [], rfl, hd, rfl⟩
  | (g, d0) :: fs, vs, h => by
    obtain ⟨x, r, rfl, h1, h2⟩ := h
    unfold putFD putF
    by_cases q : g = f
    · rw [if_pos q, if_pos q]
      exact ⟨v, r, rfl, hd, h2⟩
    · rw [if_neg q, if_neg q]
      exact ⟨x, _, rfl, h1, IsF.put hd h2⟩
section
variable {W : Wd} {ρ : En} {s : Rs} {te : TE} {ta : TA} {Φ : D → Rs → Prop} {C : Addr} {f m : Str} {E : XK}
theorem LE.fld (c : Cls W.K C) (n : NoAttr W.K C f) (h : LE W te ρ s fun x s1 => ∃ fs d, x = .ins C fs ∧ fs.lookup f = some d ∧ Φ d s1) : LE W (tFld W.K te f) ρ s Φ := fun σ H o Q q => by
  refine h σ H o _ fun v H1 x s1 o1 p1 i1 k => ?_
  obtain ⟨fs, d, rfl, hl, k⟩ := k
  obtain ⟨a, dx, vs, rfl, h0, h1, h2⟩ := i1
  obtain ⟨w, e1, e2⟩ := h2.lookup hl
  exact ⟨a, C, dx, vs, w, rfl, h1, c, n, e1, q w H1 d s1 o1 p1 e2 k⟩
theorem LE.conF {v : V} {u : Value} {d : D} (c : Cls W.K C) (n : Con W.K C f v u) (hd : ∀ Xs H, Is W.K Xs H d v) (h : LE W te ρ s fun x s1 => ∃ fs, x = .ins C fs ∧ fs.lookup f = none ∧ Φ d s1) : LE W (tCon W.K te f) ρ s Φ := fun σ H o Q q => by
  refine h σ H o _ fun w H1 x s1 o1 p1 i1 k => ?_
  obtain ⟨fs, rfl, hl, k⟩ := k
  obtain ⟨a, dx, vs, rfl, h0, h1, h2⟩ := i1
  exact ⟨a, C, dx, vs, v, u, rfl, h1, c, n, h2.none hl, q v H1 d s1 o1 p1 (hd _ _) k⟩
theorem LE.meth {S : PSp} (h : LE W te ρ s fun x s1 => ∃ fs, x = .ins C fs ∧ fs.lookup m = none ∧ LA W ta ρ s1 fun ds s2 => S (.ins C fs :: ds) fun d => Φ d s2) : LE W (tMeth C m (liftP W.K W.tb S) [] E te ta) ρ s Φ := fun σ H o Q q => by
  refine h σ H o _ fun w H1 x s1 o1 p1 i1 k => ?_
  obtain ⟨fs, rfl, hl, k⟩ := k
  obtain ⟨a, dx, vs, rfl, h0, h1, h2⟩ := id i1
  refine ⟨a, dx, vs, rfl, h1, h2.none hl, k σ H1 o1 _ fun ws H2 ds s2 o2 p2 i2 k2 => ?_⟩
  rw [List.append_nil]
  refine ⟨adrs s2, .ins C fs :: ds, fun d => Φ d s2, o2.rk.nd, o2.rk.mu, o2.tbs.t, ⟨.ref a, ws, rfl, p2.is i1, i2⟩, k2, fun d v H' f e i => ?_⟩
  exact q v H' d s2 (o2.ext e) ((p1.trans p2).trans (o2.presT e)) i f
end
/-! ### the making: __init__ over data -/
abbrev ISp := List D → (List (Str × D) → Prop) → Prop
/-- __init__ of an instance at x, with no fields as yet: it changes nothing else -/
def liftI (K : PySem.W.Frag) (T : List (Addr × Str)) (C : Addr) (S : ISp) : Sp := fun vs H Q _ => ∃ (Xs : List Addr) (x dx : Addr) (ds : List D) (vs' : List V) (Φ : List (Str × D) → Prop), vs = .ref x :: vs' ∧ H x = some (.ins C dx []) ∧ x ∉ Xs ∧ Xs.Nodup ∧ (∀ a ∈ Xs, Mut (H a)) ∧ LamX.Tabs T H ∧
  IsL K (x :: Xs) H ds vs' ∧ S ds Φ ∧ ∀ fs dx' ws H', Φ fs → (∀ a o, a ≠ x → NT o → H a = some o → H' a = some o) → LamX.Tabs T H' → H' x = some (.ins C dx' ws) → IsF K (x :: Xs) H' fs ws → Q .non H'
structure OkN (K : PySem.W.Frag) (T : List (Addr × Str)) (H0 : Hp) (Xs : List Addr) (x C : Addr) (σ : L2.St) (H : Hp) (ρ : En) (fs : List (Str × D)) : Prop where
  at_ : ∃ dx vs, H x = some (.ins C dx vs) ∧ IsF K (x :: Xs) H fs vs
  nx : x ∉ Xs
  nd : Xs.Nodup
  mu : ∀ a ∈ Xs, Mut (H a)
  fr : ∀ a o, a ≠ x → NT o → H0 a = some o → H a = some o
  tb : LamX.Tabs T H
  len : σ.length = ρ.length
  sl : ∀ (i : Nat) d, ρ[i]? = some (some d) → ∃ v, σ[i]? = some (some v) ∧ Is K (x :: Xs) H d v
def LN (K : PySem.W.Frag) (T : List (Addr × Str)) (Xs : List Addr) (x C : Addr) (ts : TS) (ρ : En) (fs : List (Str × D)) (N : En → List (Str × D) → Prop) : Prop :=
  ∀ (Dn : Ends) (σ : L2.St) (H0 H : Hp), OkN K T H0 Xs x C σ H ρ fs → (∀ σ' H' ρ' fs', OkN K T H0 Xs x C σ' H' ρ' fs' → N ρ' fs' → Dn.nx σ' H') → ts Dn σ H
section
variable {K : PySem.W.Frag} {T : List (Addr × Str)} {H0 H : Hp} {Xs : List Addr} {x C : Addr} {σ : L2.St} {ρ : En} {fs : List (Str × D)} {ts tu : TS} {tt : TT} {te : TE} {N : En → List (Str × D) → Prop}
/-- the instance read as it stands -/
theorem OkN.seen (o : OkN K T H0 Xs x C σ H ρ fs) (h0 : σ[0]? = some (some (.ref x))) : Ok ⟨K, noTb H, [], Xs, [], T⟩ σ H (ρ.set 0 (some (.ins C fs))) { oth := Xs } := by
  obtain ⟨dx, vs, e, i⟩ := o.at_
  refine ⟨⟨o.mu, o.nd, (fun e he => by cases he), fun e he => by cases he⟩, fun a u _ h => (noTb_get h).1, fun a h => h, (fun e he => by cases he), (fun e he => by cases he), (fun e he => by cases he), ⟨o.tb, noTb_n⟩, by rw [List.length_set, o.len], fun j d hj => ?_⟩
  by_cases q : 0 = j
  · subst q
    rw [List.getElem?_set] at hj
    simp only [if_true] at hj
    split at hj
    · cases hj
      exact ⟨.ref x, h0, x, dx, vs, rfl, o.nx, e, IsF.anti (fun a h1 _ h2 => h1 (List.mem_cons_of_mem _ h2)) _ _ i⟩
    · cases hj
  · rw [List.getElem?_set_ne q] at hj
    obtain ⟨v, h1, h2⟩ := o.sl j d hj
    exact ⟨v, h1, Is.anti (fun a h1 _ h2 => h1 (List.mem_cons_of_mem _ h2)) _ _ h2⟩
/-- behind something that changed nothing -/
theorem OkN.same {H' : Hp} (o : OkN K T H0 Xs x C σ H ρ fs) (e : ExtT T H H') : OkN K T H0 Xs x C σ H' ρ fs := by
  obtain ⟨dx, vs, h, i⟩ := o.at_
  have g : Goes (x :: Xs) H H' := ⟨fun a u _ n h => e.e a u h n, fun a ha => by
    rcases List.mem_cons.mp ha with z | z
    · rw [z, h]; exact ⟨(fun _ q => by cases q), (fun _ _ q => by cases q)⟩
    · exact no_tup (o.mu a z)⟩
  refine ⟨⟨dx, vs, e.e _ _ h (by intro _ z; cases z), IsF.goes g _ _ i⟩, o.nx, o.nd, fun a ha => Mut.lam e.e (o.mu a ha), fun a u h1 n h2 => e.e _ _ (o.fr a u h1 n h2) n, e.t, o.len, fun j d hj => ?_⟩
  obtain ⟨v, h1, h2⟩ := o.sl j d hj
  exact ⟨v, h1, Is.goes g _ _ h2⟩
theorem LN.seq (h : LN K T Xs x C ts ρ fs fun ρ' fs' => LN K T Xs x C tu ρ' fs' N) : LN K T Xs x C (tSeq ts tu) ρ fs N := fun Dn σ H0 H o f =>
  h _ σ H0 H o fun σ' H' ρ' fs' o' k => k Dn σ' H0 H' o' f
theorem LN.skip (h0 : ρ[0]? = some (some (.adr x))) (h : ∀ H, LT ⟨K, noTb H, [], Xs, [], T⟩ tt (ρ.set 0 (some (.ins C fs))) { oth := Xs } fun b s => b = false ∧ N ρ fs) : LN K T Xs x C (tIfS tt ts tNext) ρ fs N := fun Dn σ H0 H o f => by
  obtain ⟨v, h1, h2⟩ := o.sl 0 _ h0
  cases (show v = .ref x from h2)
  refine h H σ H (o.seen h1) _ fun b H1 s1 o1 p1 k => ?_
  obtain ⟨rfl, k⟩ := k
  exact f σ H1 ρ fs (o.same ⟨fun a u e n => o1.fr a u (by simp) (noTb_of e n), o1.tbs.t⟩) k
theorem LN.fld {f : Str} (c : Cls K C) (n : NoAttr K C f) (hl : fs.length < 900) (h0 : ρ[0]? = some (some (.adr x))) (h : ∀ H, LE ⟨K, noTb H, [], Xs, [], T⟩ te (ρ.set 0 (some (.ins C fs))) { oth := Xs } fun d s => Imm d = true ∧ N ρ (putFD f d fs)) :
    LN K T Xs x C (sFld K (tVar 0) te f) ρ fs N := fun Dn σ H0 H o k => by
  obtain ⟨v, h1, h2⟩ := o.sl 0 _ h0
  cases (show v = .ref x from h2)
  refine h H σ H (o.seen h1) _ fun w H1 d s1 o1 p1 i1 kk => ?_
  have o2 := o.same ⟨fun a u e n => o1.fr a u (by simp) (noTb_of e n), o1.tbs.t⟩
  obtain ⟨dx, vs, e, i⟩ := o2.at_
  refine ⟨.ref x, h1, x, C, dx, vs, rfl, e, c, n, by rw [i.length]; omega, ?_⟩
  have hd : Is K (x :: Xs) H1 d w := Is.imm _ _ kk.1 i1
  have g : Goes (x :: Xs) H1 (upd H1 x (.ins C dx (putF f w vs))) := ⟨fun a u h1 _ h2 => by rw [upd_ne (fun z => h1 (by rw [z]; exact List.mem_cons_self ..))]; exact h2, fun a ha => by
    rcases List.mem_cons.mp ha with z | z
    · rw [z, e]; exact ⟨(fun _ q => by cases q), (fun _ _ q => by cases q)⟩
    · exact no_tup (o2.mu a z)⟩
  refine k _ _ ρ _ ⟨⟨dx, _, upd_same, IsF.put (Is.goes g _ _ hd) (IsF.goes g _ _ i)⟩, o2.nx, o2.nd, fun a ha => ?_, fun a u h1 n h2 => ?_, o2.tb.upto fun b u hb hc => ?_, o2.len, fun j d' hj => ?_⟩ kk.2
  · rw [upd_ne (fun z => o2.nx (by rw [← z]; exact ha))]
    exact o2.mu a ha
  · rw [upd_ne h1]; exact o2.fr a u h1 n h2
  · rw [upd_ne (fun z => by
      rw [z, e] at hb
      cases hb
      exact hc trivial)]
    exact hb
  · obtain ⟨v, h3, h4⟩ := o2.sl j d' hj
    exact ⟨v, h3, Is.goes g _ _ h4⟩
end
section
open PySem PySem.Spec PyProof.Rows L2
variable {P : Program} {w : World} {K : PySem.W.Frag} {mg : Str → Option Value} {base : Heap}
theorem okI {x qual : Str} {st : Stmt} {f C : Addr} {fd : FuncData} {N ps : List Str} {k : Nat} {T : List (Addr × Str)} {S : ISp} (F : Fun K x qual st f fd) (Sc : FnScope N ps (defScope st)) (len : ∀ ds Φ, S ds Φ → ds.length + 1 = ps.length) (hN : ps.length ≤ N.length)
    (hbody : ∀ (cdv : Value) (A : Around) (outer : List Env) (s : Shared) (H : Hp) (E : XK), Room k (A.deeper (envOfC qual (defScope st) s.heap.objs.size f cdv)) →
      ∃ t, PSs (cxOf CX0 P w K mg base N qual (defScope st) f cdv A outer s H E).nox (defBody st) t ∧
        ∀ (Xs : List Addr) (a : Addr) (ds : List D) (Φ : List (Str × D) → Prop), S ds Φ → LN K T Xs a C t (startD N (some (.adr a) :: ds.map some)) [] fun _ fs => Φ fs) :
    FnOk P w K mg base CX0 (k + 1) f fd ps (liftI K T C S) := by
  refine F.ok Sc (fun vs H Q E h => ?_) fun cdv A outer s H vs Q E hr h => ?_
  · obtain ⟨Xs, a, dx, ds, vs', Φ, rfl, _, _, _, _, _, h1, h2, _⟩ := h
    rw [List.length_cons, h1.length, len ds Φ h2]
  · obtain ⟨Xs, a, dx, ds, vs', Φ, rfl, ha, hx, hnd, hmu, hT, hds, hS, q⟩ := h
    obtain ⟨t, ht, hL⟩ := hbody cdv A outer s H E hr
    have hl : ds.length + 1 = ps.length := len ds Φ hS
    have hds' : IsL K (a :: Xs) H (.adr a :: ds) (.ref a :: vs') := ⟨.ref a, vs', rfl, rfl, hds⟩
    refine ⟨t, ht, hL Xs a ds Φ hS _ (L2.start N (.ref a :: vs')) H H ⟨⟨dx, [], ha, rfl⟩, hx, hnd, hmu, fun _ _ _ _ h => h, hT, ?_, start_sl hds'⟩ fun σ' H' ρ' fs' o' k => ?_⟩
    · rw [start_len (by rw [hds'.length, List.length_cons]; omega), startD_len (by rw [List.length_cons, List.length_map]; omega)]
    · obtain ⟨dx', ws, e, i⟩ := o'.at_
      exact q fs' dx' ws H' k o'.fr o'.tb e i
end
section
variable {W : Wd} {ρ : En} {s : Rs} {ta : TA} {Φ : D → Rs → Prop} {C : Addr} {E : XK}
theorem LE.make {S : ISp} (h : LA W ta ρ s fun ds s1 => S ds fun fs => Φ (.ins C fs) s1) : LE W (tMake C (liftI W.K W.tb C S) [] E ta) ρ s Φ := fun σ H o Q q => by
  refine h σ H o _ fun vs H1 ds s1 o1 p1 i1 k x dx hx hdx hne => ?_
  rw [List.append_nil]
  have sm : Same H1 (upd (upd H1 dx (.own x)) x (.ins C dx [])) := fun a u e => by
    rw [upd_ne (ne_of_none e hx), upd_ne (ne_of_none e hdx)]; exact e
  have hf := o1.rk.fresh hx
  have g : Goes (x :: adrs s1) H1 (upd (upd H1 dx (.own x)) x (.ins C dx [])) := ⟨fun a u _ _ e => sm a u e, fun a ha => by
    rcases List.mem_cons.mp ha with z | z
    · rw [z, hx]; exact ⟨(fun _ q => by cases q), (fun _ _ q => by cases q)⟩
    · exact no_tup (o1.rk.mu a z)⟩
  refine ⟨adrs s1, x, dx, ds, vs, fun fs => Φ (.ins C fs) s1, rfl, upd_same, hf, o1.rk.nd, fun a ha => Mut.same (o1.rk.mu a ha) sm, o1.tbs.t.ext sm, IsL.goes g _ _ (IsL.anti (fun a h1 he h2 => (List.mem_cons.mp h2).elim (fun z => by
      obtain ⟨u, _, e⟩ := he
      rw [z, hx] at e; cases e) h1) _ _ i1), k, fun fs dx' ws H' hΦ hk hT hx' hF => ⟨rfl, ?_⟩⟩
  · have sm2 : ExtT W.tb H1 H' := ⟨fun a u e n => hk a u (ne_of_none e hx) n (sm a u e), hT⟩
    refine q (.ref x) H' (.ins C fs) s1 (o1.ext sm2) (p1.trans (o1.presT sm2)) ⟨x, dx', ws, rfl, hf, hx', IsF.anti (fun a h1 _ h2 => h1 (List.mem_cons_of_mem _ h2)) _ _ hF⟩ hΦ
end
end Pw

namespace Pw
open PySem PySem.Spec PyProof.Rows L2
/-! ### == and != of instances of a class with an __eq__ of its own; isinstance of a class -/
structure OwnE (K : PySem.W.Frag) (C : Addr) : Prop where
  ca : PySem.W.findIn K (.ref C) "__class__" = some (some (.builtin "object.__class__"))
  cn : PySem.W.specialIn K (.builtin "object.__class__") "__get__" = some (some (.builtin "getset_descriptor.__get__"))
  ct : PySem.W.takesIn K (.builtin "object.__class__") = some true
  cm : PySem.W.mroIn K C (.type "object") = some true
  ne : PySem.W.findIn K (.ref C) "__ne__" = some (some (.builtin "object.__ne__"))
section
variable {M : Model} {prog : Program} {w : World} {A : Around} {E : Value → Shared → Prop} {s : Shared} {K : PySem.W.Frag} {x C L f : Addr} {ox : Obj} {od : Option Obj} {h₀ : Heap} {m : Str → Option Value} {b tb : Value}
theorem ifBound_ne {args : List Value} {Q : Option Value → Shared → Prop} (X : K.In s.heap) (I : PySem.W.InstAt s.heap x ox C od) (hs : PySem.W.findIn K (.ref C) "__ne__" = some (some (.builtin "object.__ne__")))
    (h : wpAny M A (call (.builtin "object.__ne__") (.ref x :: args)) (fun v => Q (some v)) E s) : wpAny M A (callSpecialIfBound? (.ref x) "__ne__" args) Q E s := by
  simp only [callSpecialIfBound?, bindSpecialIfBound?]
  refine wpAny_holding (wpAny_bind (wpAny_bind (wpAny_bind (I.type.here ((PySem.W.looks_findIn X hs).here ?_)))))
  refine wpAny_bind (wpAny_askSetting (wpAny_ite ?_))
  have fin : wpAny M A (call (.builtin "object.__ne__") ([.ref x] ++ args) >>= fun v => pure (some v)) Q E s := wpAny_bind (wpAny_mono h (fun v s' h' => wpAny_pure h') fun _ _ h' => h')
  split
  · exact wpAny_bind (wpAny_of_eq (F.cmp_object.ne.bind _) (wpAny_pure (by exact fin)))
  · exact wpAny_tryCatch (wpAny_bind (wpAny_of_eq (F.cmp_object.ne.bind _) (wpAny_pure (by exact fin))))
theorem entry_ne (X : K.In s.heap) (I : PySem.W.InstAt s.heap x ox C od) (hs : PySem.W.findIn K (.ref C) "__eq__" = some (some (.ref f))) (hf : PySem.W.isFn K (.ref f) = true) (hu : A.units < cLine) {Q : Fin → Shared → Prop}
    (hcall : wpAny (model prog w) A (call (.ref f) [.ref x, b]) (fun v s' => ∃ r, v = .bool r ∧ Q (.done (.ret (.bool (!r)))) s') E s) :
    wpAny (model prog w) A (Builtin.«object.__ne__» ⟨[.ref x, b], []⟩) Q E s := by
  unfold Builtin.«object.__ne__»
  repeat (first
    | with_reducible refine wpAny_cRoomFor hu ?_
    | (refine wpAny_bind (m := callSpecialIfBound? (.ref x) (Str.ofString "__eq__") [b]) (PySem.W.ifBound_K X I hs hf (wpAny_mono hcall (fun r s' hr => by
          obtain ⟨b, rfl, hq⟩ := hr
          repeat (first | exact hq | exact wpAny_pure hq | exact wpAny_truthy_bool hq | (refine wpAny_bind (m := truthy (.bool _)) (wpAny_truthy_bool ?_)) | wp_step)) fun _ _ e => e)))
    | wp_step)
theorem call_ne (X : K.In s.heap) (I : PySem.W.InstAt s.heap x ox C od) (hm : PySem.W.mroIn K C (.type "object") = some true) (hs : PySem.W.findIn K (.ref C) "__eq__" = some (some (.ref f))) (hf : PySem.W.isFn K (.ref f) = true) (hu : A.units + 1 < cLine) {Q : Value → Shared → Prop}
    (hcall : wpAny (model prog w) A.in1 (call (.ref f) [.ref x, b]) (fun v s' => ∃ r, v = .bool r ∧ Q (.bool (!r)) s') E s) :
    wpAny (model prog w) A (call (.builtin "object.__ne__") [.ref x, b]) Q E s :=
  wpAny_call (codeAny_call_builtin F.cmp_object.ne.plain F.cmpEntry_ne (PySem.W.check_slot F.cmpKind_ne F.cmpSplit_ne (I.type.andThen (PySem.W.looks_mroIn X hm)) (F.cmpArgs_ne _ _) (entry_ne (A := A.in1) X I hs hf hu hcall)))
theorem cmp_ne {Q : Value → Shared → Prop} (hu : A.units + 1 < cLine) (F : PyProof.Rows.Fr h₀ L s.heap m) (X₀ : K.In h₀) (I : PySem.W.InstAt s.heap x ox C od) (hb : PySem.W.Looks (model prog w) s.heap (typeOf b) tb) (hn : PySem.W.notFirst K C tb = true)
    (hne : PySem.W.findIn K (.ref C) "__ne__" = some (some (.builtin "object.__ne__"))) (hm : PySem.W.mroIn K C (.type "object") = some true)
    (hs : PySem.W.findIn K (.ref C) "__eq__" = some (some (.ref f))) (hf : PySem.W.isFn K (.ref f) = true)
    (h : wpAny (model prog w) A.in1 (call (.ref f) [.ref x, b]) (fun v s' => ∃ r, v = .bool r ∧ Q (.bool (!r)) s') E s) : wpAny (model prog w) A (richCompare .NotEq (.ref x) b) Q E s := by
  have X := X₀.keeps F.keep
  have one : wpAny (model prog w) A (tryCompare (.ref x) "__ne__" b) (fun r s' => ∃ v, r = some v ∧ Q v s') E s := by
    unfold tryCompare
    refine wpAny_bind (ifBound_ne X I hne (call_ne X I hm hs hf hu (wpAny_mono h (fun v s' hv => ?_) fun _ _ e => e)))
    obtain ⟨r, hr, hq⟩ := hv
    exact ⟨r, hr, wpAny_pure ⟨_, rfl, hq⟩⟩
  unfold richCompare
  simp only [oneThing_ref, cmpInfo_NotEq]
  refine wpAny_holding (wpAny_bind (wpAny_cRoomFor (Nat.lt_of_succ_lt hu) ?_))
  refine wpAny_bind (I.type.here (wpAny_bind (hb.here ?_)))
  split
  · rename_i q
    have e : PySem.W.subIn K tb (.ref C) = some false := by
      rcases Bool.or_eq_true_iff.mp hn with e | e
      · rw [beq_iff_eq.mp e] at q; simp at q
      · exact beq_iff_eq.mp e
    refine wpAny_bind ((PySem.W.looks_subIn X e).here ?_)
    simp only [Bool.false_eq_true, if_false]
    refine wpAny_bind (wpAny_mono one (fun r s' z => ?_) fun _ _ e => e)
    obtain ⟨v, rfl, hq⟩ := z
    exact wpAny_pure hq
  · refine wpAny_bind (wpAny_pure ?_)
    simp only [Bool.false_eq_true, if_false]
    refine wpAny_bind (wpAny_mono one (fun r s' z => ?_) fun _ _ e => e)
    obtain ⟨v, rfl, hq⟩ := z
    exact wpAny_pure hq
end
def rEqS (C : Addr) (sp : Sp) (E : XK) : R2 := fun x y H Q => ∃ a b dx dy fs gs, x = .ref a ∧ y = .ref b ∧ H a = some (.ins C dx fs) ∧ H b = some (.ins C dy gs) ∧ sp [x, y] H (fun z H' => ∃ r, z = .bl r ∧ Q (.bl r) H') E
def rNeS (C : Addr) (sp : Sp) (E : XK) : R2 := fun x y H Q => ∃ a b dx dy fs gs, x = .ref a ∧ y = .ref b ∧ H a = some (.ins C dx fs) ∧ H b = some (.ins C dy gs) ∧ sp [x, y] H (fun z H' => ∃ r, z = .bl r ∧ Q (.bl (!r)) H') E
section
variable {X : Cx} {CX : CXT} {n : Nat} {C f : Addr} {fd : FuncData} {ps : List Str} {sp : Sp} {E : XK}
theorem run_in {A : Around} {pins : List (Addr × Obj)} {σ : L2.St} {H : Hp} {s : Shared} {Q : VK} {a b : Addr} (F : FnOk X.prog X.w X.K X.mg X.base CX n f fd ps sp) (hr : Room n A) (e0 : Env0 X.prog X.w X.K X.mg X.base A X.stack s H) (hb : Binds X.K fd ps []) (hx : Passes CX X E) (I : Inv X pins σ H s)
    (q : sp [.ref a, .ref b] H Q E) : wpAny (model X.prog X.w) A (call (.ref f) [.ref a, .ref b]) (EP X pins σ Q) X.xe s := by
  have hl := F.len _ _ _ _ q
  have r2 : Vals [V.ref a, V.ref b] [Value.ref a, Value.ref b] := .cons rfl (.cons rfl .nil)
  refine wpAny_call (codeAny_mono (F.run A X.stack s H ⟨[.ref a, .ref b], []⟩ [.ref a, .ref b] [.ref a, .ref b] _ E hr e0 (by
    have := hb s [.ref a, .ref b] I.kIn (by simpa using hl)
    simpa using this) r2 q) fun r s' hq => ?_)
  cases r with
  | error e => exact hx pins σ H s e s' I hq
  | ok fl =>
    cases fl with
    | ret w => exact I.after hq
    | next => exact False.elim hq
    | brk => exact False.elim hq
    | cont => exact False.elim hq
theorem op_eqC (F : FnOk X.prog X.w X.K X.mg X.base CX n f fd ps sp) (hr : Room n X.A) (hm : Meth X.K C "__eq__" f) (hb : Binds X.K fd ps []) (hx : Passes CX X E) : OpR X (compareOp .Eq) (rEqS C sp E) := by
  intro pins s σ H x y v u Q I rx ry h
  obtain ⟨a, b, dx, dy, fs, gs, rfl, rfl, ha, hb', q⟩ := h
  cases (show v = Value.ref a from rx)
  cases (show u = Value.ref b from ry)
  obtain ⟨mA, J, _⟩ := ins_get I.hok ha
  obtain ⟨mB, J', _⟩ := ins_get I.hok hb'
  obtain ⟨od, J, _⟩ := J.look
  obtain ⟨od', J', _⟩ := J'.look
  obtain ⟨m, hF⟩ := I.fr
  show wpAny (model X.prog X.w) X.A (richCompare .Eq _ _) (EP X pins σ Q) X.xe s
  refine PySem.W.cmp_K (op := .Eq) (tb := .ref C) hr.units0 hF I.ok.mod.kin J J'.type (by simp [PySem.W.notFirst]) hm.at_ hm.fn ?_
  refine wpAny_mono (run_in F hr I.env0 hb hx I q) (fun w s' z => ?_) fun _ _ x => x
  obtain ⟨z', H', I', rz, r, rfl, qz⟩ := z
  cases (show w = Value.bool r from rz)
  exact ⟨.bl r, H', I', rfl, qz⟩
theorem op_neC (F : FnOk X.prog X.w X.K X.mg X.base CX n f fd ps sp) (hr : Room (n + 1) X.A) (hm : Meth X.K C "__eq__" f) (ho : OwnE X.K C) (hb : Binds X.K fd ps []) (hx : Passes CX X E) : OpR X (compareOp .NotEq) (rNeS C sp E) := by
  intro pins s σ H x y v u Q I rx ry h
  obtain ⟨a, b, dx, dy, fs, gs, rfl, rfl, ha, hb', q⟩ := h
  cases (show v = Value.ref a from rx)
  cases (show u = Value.ref b from ry)
  obtain ⟨mA, J, _⟩ := ins_get I.hok ha
  obtain ⟨mB, J', _⟩ := ins_get I.hok hb'
  obtain ⟨od, J, _⟩ := J.look
  obtain ⟨od', J', _⟩ := J'.look
  obtain ⟨m, hF⟩ := I.fr
  show wpAny (model X.prog X.w) X.A (richCompare .NotEq _ _) (EP X pins σ Q) X.xe s
  refine cmp_ne (tb := .ref C) hr.in1.units0 hF I.ok.mod.kin J J'.type (by simp [PySem.W.notFirst]) ho.ne ho.cm hm.at_ hm.fn ?_
  refine wpAny_mono (run_in F hr.in1 I.env0.in1 hb hx I q) (fun w s' z => ?_) fun _ _ x => x
  obtain ⟨z', H', I', rz, r, rfl, qz⟩ := z
  cases (show w = Value.bool r from rz)
  exact ⟨r, rfl, .bl (!r), H', I', rfl, qz⟩
end
section
variable {W : Wd} {s : Rs} {Ψ : D → Prop} {C : Addr} {fs gs : List (Str × D)} {E : XK}
theorem OpD.eqC {S : PSp} (h : S [.ins C fs, .ins C gs] fun d => ∃ r, d = .bl r ∧ Ψ (.bl r)) : OpD W (rEqS C (liftP W.K W.tb S) E) s (.ins C fs) (.ins C gs) Ψ := fun H vx vy r h1 h2 Q q => by
  obtain ⟨a, dx, vs, rfl, g0, g1, g2⟩ := id h1
  obtain ⟨b, dy, ws, rfl, k0, k1, k2⟩ := id h2
  refine ⟨a, b, dx, dy, vs, ws, rfl, rfl, g1, k1, adrs s, [.ins C fs, .ins C gs], _, r.nd, r.mu, r.tb, ⟨_, _, rfl, h1, _, _, rfl, h2, rfl⟩, h, fun d v H' hd e i => ?_⟩
  obtain ⟨z, rfl, hz⟩ := hd
  cases (show v = .bl z from i)
  exact ⟨z, rfl, q _ H' (.bl z) e rfl hz⟩
theorem OpD.neC {S : PSp} (h : S [.ins C fs, .ins C gs] fun d => ∃ r, d = .bl r ∧ Ψ (.bl (!r))) : OpD W (rNeS C (liftP W.K W.tb S) E) s (.ins C fs) (.ins C gs) Ψ := fun H vx vy r h1 h2 Q q => by
  obtain ⟨a, dx, vs, rfl, g0, g1, g2⟩ := id h1
  obtain ⟨b, dy, ws, rfl, k0, k1, k2⟩ := id h2
  refine ⟨a, b, dx, dy, vs, ws, rfl, rfl, g1, k1, adrs s, [.ins C fs, .ins C gs], _, r.nd, r.mu, r.tb, ⟨_, _, rfl, h1, _, _, rfl, h2, rfl⟩, h, fun d v H' hd e i => ?_⟩
  obtain ⟨z, rfl, hz⟩ := hd
  cases (show v = .bl z from i)
  exact ⟨z, rfl, q _ H' (.bl (!z)) e rfl hz⟩
theorem CbD.isiC (c : Cls W.K C) (i : OwnE W.K C) (h : Ψ (.bl true)) : CbD W (rIsi W.K) s [.ins C fs, .adr C] Ψ := fun H vs r h1 Q q => by
  obtain ⟨v, w, rfl, h2, h3⟩ := IsL.two h1
  cases (show w = .ref C from h3)
  obtain ⟨a, dx, vs, rfl, h0, h1, h2⟩ := h2
  exact ⟨.ref a, .ref C, .ref C, .ref C, true, rfl, .own C, .base (.ins h1 c i.ca i.cn i.ct i.cm), by simp [PySem.W.kitOne], q _ H (.bl true) (Same.refl H) rfl h⟩
end
theorem LE.cls {W : Wd} {ρ : En} {s : Rs} {Φ : D → Rs → Prop} {C : Addr} (k : Φ (.adr C) s) : LE W (tC (.ref C)) ρ s Φ := LE.con (d := .adr C) (fun _ _ => rfl) k
end Pw

namespace Pw
open PySem L2
theorem Is.ofInt {K : PySem.W.Frag} {Xs : List Addr} {H : Hp} {i : Int} : Is K Xs H (.int i) (.int i) := rfl
/-! ### knots and timetables -/
abbrev Kn := Rat × Rat
abbrev kn (p : Kn) : D := .tup [fr p.1, fr p.2]
def knL (ps : List Kn) : List D := ps.map kn
def slope (a b : Kn) : Rat := (b.2 - a.2) / (b.1 - a.1)
def slopes (ps : List Kn) : List Rat := List.zipWith slope ps (ps.drop 1) ++ [0]
def turnAt (ps : List Kn) (i : Nat) : Bool := decide ((slopes ps)[i + 1]? ≠ (slopes ps)[i]?)
/-- the knots behind the first one at which the slope changes -/
def turnsB (ps : List Kn) : Nat → List Kn
  | 0 => []
  | n + 1 => turnsB ps n ++ (if turnAt ps n then (ps[n + 1]?).toList else [])
def turns (ps : List Kn) : List Kn := ps.take 1 ++ turnsB ps (ps.length - 1)
def asc : List Kn → Prop
  | a :: b :: r => a.1 < b.1 ∧ asc (b :: r)
  | _ => True
structure KOk (ps : List Kn) : Prop where
  ne : 0 < ps.length
  len : ps.length ≤ 900
  asc : asc ps
  fit : ∀ p ∈ ps, Fit 400 p.1 ∧ Fit 400 p.2
theorem asc_lt : ∀ {ps : List Kn} {i : Nat} {a b : Kn}, asc ps → ps[i]? = some a → ps[i + 1]? = some b → a.1 < b.1
  | [], i, a, b, _, h, _ => by simp at h
  | [x], i, a, b, _, _, h => by simp at h
  | x :: y :: r, 0, a, b, h, h1, h2 => by
    simp at h1 h2
    rw [← h1, ← h2]
    exact h.1
  | x :: y :: r, i + 1, a, b, h, h1, h2 => asc_lt (ps := y :: r) (i := i) h.2 (by simpa using h1) (by simpa using h2)
theorem lt_ne {a b : Rat} (h : a < b) : b - a ≠ 0 := by grind
theorem knL_len (ps : List Kn) : (knL ps).length = ps.length := by unfold knL; rw [List.length_map]
theorem knL_get {ps : List Kn} {i : Nat} {d : D} (h : (knL ps)[i]? = some d) : ∃ p, ps[i]? = some p ∧ d = kn p := by
  unfold knL at h
  rw [List.getElem?_map] at h
  cases e : ps[i]? with
  | none => rw [e] at h; cases h
  | some p =>
    rw [e] at h
    cases h
    exact ⟨p, rfl, rfl⟩
theorem knL_at {ps : List Kn} {i : Nat} {p : Kn} (h : ps[i]? = some p) : atI (knL ps) (i : Int) = some (kn p) := atI_nat (by unfold knL; rw [List.getElem?_map, h]; rfl)
theorem knL_imm (ps : List Kn) : ImmL (knL ps) = true := by
  induction ps with
  | nil => rfl
  | cons p r ih => exact ih
theorem knL_ip (ps : List Kn) : ∀ n, IpL (n + 2) (knL ps) = true := by
  induction ps with
  | nil => intro n; rfl
  | cons p r ih => intro n; exact ih n
theorem knL_inj {ps qs : List Kn} (h : knL ps = knL qs) : ps = qs := by
  induction ps generalizing qs with
  | nil => cases qs with
    | nil => rfl
    | cons q r => cases h
  | cons p r ih => cases qs with
    | nil => cases h
    | cons q r' =>
      have h : kn p :: knL r = kn q :: knL r' := h
      injection h with h1 h2
      injection h1 with h1
      injection h1 with h1 h3
      injection h3 with h3 _
      rw [ih h2, Prod.ext (fr_inj.mp h1) (fr_inj.mp h3)]
theorem frL_ip (qs : List Rat) : ∀ n, IpL (n + 1) (qs.map fr) = true := by
  induction qs with
  | nil => intro n; rfl
  | cons p r ih => intro n; exact ih n
theorem KOk.mem {ps : List Kn} (h : KOk ps) {i : Nat} {p : Kn} (e : ps[i]? = some p) : Fit 400 p.1 ∧ Fit 400 p.2 := h.fit p (List.mem_of_getElem? e)
/-- the pairs of neighbours -/
theorem nb_get {ps : List Kn} {i : Nat} {d : D} (h : (zipD (knL ps) (cutD (knL ps) (some 1) none))[i]? = some d) (hl : 0 < ps.length) : ∃ p q, ps[i]? = some p ∧ ps[i + 1]? = some q ∧ d = .tup [kn p, kn q] := by
  have ec : cutD (knL ps) (some 1) none = knL (ps.drop 1) := by
    unfold cutD knL
    have h1 : HT.sIx (ps.map kn).length 0 (some 1) = 1 := by
      rw [List.length_map]
      unfold HT.sIx
      simp
      omega
    have h2 : HT.sIx (ps.map kn).length (ps.map kn).length none = (ps.map kn).length := rfl
    rw [h1, h2, List.take_of_length_le (by rw [List.length_drop]; exact Nat.le_refl _), List.map_drop]
  rw [ec] at h
  unfold zipD at h
  rw [List.getElem?_zipWith] at h
  cases e1 : (knL ps)[i]? with
  | none => rw [e1] at h; cases h
  | some x =>
    cases e2 : (knL (ps.drop 1))[i]? with
    | none => rw [e1, e2] at h; cases h
    | some y =>
      rw [e1, e2] at h
      cases h
      obtain ⟨p, hp, rfl⟩ := knL_get e1
      obtain ⟨q, hq, rfl⟩ := knL_get e2
      rw [List.getElem?_drop] at hq
      exact ⟨p, q, hp, by rw [Nat.add_comm]; exact hq, rfl⟩
theorem nw1 {α : Type} {l : List α} (hl : 0 < l.length) : ¬ (HT.sIx l.length 0 (some 1) = 0 ∧ HT.sIx l.length l.length none = l.length) := by
  have h1 : HT.sIx l.length 0 (some 1) = 1 := by
    unfold HT.sIx
    simp
    omega
  rw [h1]
  omega
theorem nb_len {ps : List Kn} (hl : 0 < ps.length) : (zipD (knL ps) (cutD (knL ps) (some 1) none)).length = ps.length - 1 := by
  unfold zipD cutD
  have h1 : HT.sIx (knL ps).length 0 (some 1) = 1 := by
    rw [knL_len]
    unfold HT.sIx
    simp
    omega
  have h2 : HT.sIx (knL ps).length (knL ps).length none = (knL ps).length := rfl
  rw [h1, h2, List.length_zipWith, List.length_take, List.length_drop, knL_len]
  omega
theorem slopes_get {ps : List Kn} {i : Nat} {p q : Kn} (h1 : ps[i]? = some p) (h2 : ps[i + 1]? = some q) : (List.zipWith slope ps (ps.drop 1))[i]? = some (slope p q) := by
  rw [List.getElem?_zipWith, h1, List.getElem?_drop, Nat.add_comm 1 i, h2]
theorem slopes_len (ps : List Kn) (h : 0 < ps.length) : (slopes ps).length = ps.length := by
  unfold slopes
  rw [List.length_append, List.length_zipWith, List.length_drop, List.length_singleton]
  omega
/-! ### the data of a timetable -/
theorem lk2_1 {f g : Str} {x y : D} (h : (f == f) = true) : List.lookup f [(f, x), (g, y)] = some x := by
  rw [List.lookup_cons, h]
theorem lk2_2 {f g : Str} {x y : D} (h : (g == f) = false) (h2 : (g == g) = true) : List.lookup g [(f, x), (g, y)] = some y := by
  rw [List.lookup_cons, h]
  show (match (g == g) with | true => some y | false => _) = _
  rw [h2]
theorem lk2_0 {f g m : Str} {x y : D} (h : (m == f) = false) (h2 : (m == g) = false) : List.lookup m [(f, x), (g, y)] = none := by
  rw [List.lookup_cons, h]
  show (match (m == g) with | true => some y | false => _) = _
  rw [h2]
  rfl
theorem lk_points {x y : D} : List.lookup ("points" : Str) [(("points" : Str), x), (("turns" : Str), y)] = some x := lk2_1 (by decide +kernel)
theorem lk_turns {x y : D} : List.lookup ("turns" : Str) [(("points" : Str), x), (("turns" : Str), y)] = some y := lk2_2 (by decide +kernel) (by decide +kernel)
abbrev tb (C : Addr) (ps : List Kn) : D := .ins C [(("points" : Str), .tup (knL ps)), (("turns" : Str), .tup (knL (turns ps)))]
theorem put_points {x : D} : putFD ("points" : Str) x [] = [(("points" : Str), x)] := rfl
theorem put_turns {x y : D} : putFD ("turns" : Str) y [(("points" : Str), x)] = [(("points" : Str), x), (("turns" : Str), y)] := by
  unfold putFD
  rw [if_neg (by decide +kernel)]
  rfl
theorem lk1_points {x : D} : List.lookup ("points" : Str) [(("points" : Str), x)] = some x := by
  rw [List.lookup_cons, show (("points" : Str) == "points") = true by decide +kernel]
theorem lk0 {f : Str} : List.lookup f ([] : List (Str × D)) = none := rfl
theorem take_succ_get {α : Type} {l : List α} {i : Nat} {x : α} (h : l[i]? = some x) : l.take (i + 1) = l.take i ++ [x] := by
  rw [List.take_add_one, h]
  rfl
end Pw
namespace Pw
open PySem L2
theorem rngD_get {lo : Int} {n i : Nat} {d : D} (h : (rngD lo n)[i]? = some d) : d = .int (lo + i) ∧ i < n := by
  unfold rngD at h
  rw [List.getElem?_map] at h
  cases e : (List.range n)[i]? with
  | none => rw [e] at h; cases h
  | some j =>
    rw [e] at h
    obtain ⟨hi, hj⟩ := List.getElem?_eq_some_iff.mp e
    rw [List.length_range] at hi
    rw [List.getElem_range] at hj
    subst hj
    cases h
    exact ⟨rfl, hi⟩
theorem frL_at {qs : List Rat} {i : Nat} {q : Rat} (h : qs[i]? = some q) : atI (qs.map fr) (i : Int) = some (fr q) := atI_nat (by rw [List.getElem?_map, h]; rfl)
theorem get_of_lt {α : Type} {l : List α} {i : Nat} (h : i < l.length) : ∃ x, l[i]? = some x := ⟨_, List.getElem?_eq_getElem h⟩
theorem cut_take1 (l : List D) (hl : 0 < l.length) : cutD l none (some 1) = l.take 1 := by
  unfold cutD
  have h1 : HT.sIx l.length l.length (some 1) = 1 := by
    unfold HT.sIx
    simp
    omega
  have h2 : HT.sIx l.length 0 none = 0 := rfl
  rw [h1, h2]
  rfl
theorem turnsB_len (ps : List Kn) : ∀ n, (turnsB ps n).length ≤ n
  | 0 => Nat.le_refl _
  | n + 1 => by
    have := turnsB_len ps n
    show (turnsB ps n ++ _).length ≤ n + 1
    rw [List.length_append]
    split
    · cases ps[n + 1]? <;> simp <;> omega
    · simp; omega
end Pw
namespace Pw
open PySem L2
/-! ### the piece of a time -/
def IsPiece (ps : List Kn) (t : Rat) (i : Nat) : Prop := ∃ p, ps[i]? = some p ∧ p.1 ≤ t ∧ ∀ q, ps[i + 1]? = some q → t < q.1
def pc : List Kn → Rat → Nat
  | a :: b :: r, t => if t < b.1 then 0 else pc (b :: r) t + 1
  | _, _ => 0
theorem asc_le' {ps : List Kn} {i : Nat} {a : Kn} (h : asc ps) (h1 : ps[i]? = some a) : ∀ (j : Nat) (b : Kn), i ≤ j → ps[j]? = some b → a.1 ≤ b.1 := by
  intro j
  induction j with
  | zero =>
    intro b hij h2
    have : i = 0 := by omega
    subst this
    rw [h1] at h2
    cases h2
    exact Rat.le_refl
  | succ j ih =>
    intro b hij h2
    by_cases e : i = j + 1
    · subst e
      rw [h1] at h2
      cases h2
      exact Rat.le_refl
    · have hl : j + 1 < ps.length := (List.getElem?_eq_some_iff.mp h2).1
      obtain ⟨c, hc⟩ : ∃ c, ps[j]? = some c := ⟨_, List.getElem?_eq_getElem (show j < ps.length by omega)⟩
      have h3 := ih c (by omega) hc
      have h4 := asc_lt h hc h2
      grind
theorem asc_le {ps : List Kn} {i j : Nat} {a b : Kn} (h : asc ps) (hij : i ≤ j) (h1 : ps[i]? = some a) (h2 : ps[j]? = some b) : a.1 ≤ b.1 := asc_le' h h1 j b hij h2
theorem pc_of : ∀ {ps : List Kn} {t : Rat} {i : Nat}, asc ps → IsPiece ps t i → pc ps t = i
  | [], t, i, _, ⟨p, h, _⟩ => by simp at h
  | [x], t, i, _, ⟨p, h, _⟩ => by
    have : i = 0 := by
      have := (List.getElem?_eq_some_iff.mp h).1
      simp at this
      exact this
    rw [this]; rfl
  | x :: y :: r, t, 0, _, ⟨p, h, h1, h2⟩ => by
    have := h2 y (by simp)
    unfold pc
    rw [if_pos this]
  | x :: y :: r, t, i + 1, ha, ⟨p, h, h1, h2⟩ => by
    have hp : (y :: r)[i]? = some p := by simpa using h
    have hy : y.1 ≤ p.1 := asc_le (ps := y :: r) (i := 0) (j := i) ha.2 (Nat.zero_le _) (by simp) hp
    have : ¬ t < y.1 := by grind
    unfold pc
    rw [if_neg this, pc_of ha.2 ⟨p, hp, h1, fun q hq => h2 q (by simpa using hq)⟩]
def paceQ (ps : List Kn) (t : Rat) : Rat := ((slopes ps)[pc ps t]?).getD 0
def posQ (ps : List Kn) (t : Rat) : Rat := match ps[pc ps t]? with
  | some p => p.2 + paceQ ps t * (t - p.1)
  | none => 0
/-- t is not before the first knot -/
def Late (ps : List Kn) (t : Rat) : Prop := ∀ p, ps[0]? = some p → p.1 ≤ t
theorem slopes_at {ps : List Kn} {i : Nat} {p q : Kn} (h1 : ps[i]? = some p) (h2 : ps[i + 1]? = some q) : (slopes ps)[i]? = some (slope p q) := by
  unfold slopes
  have h := slopes_get h1 h2
  rw [List.getElem?_append_left (List.getElem?_eq_some_iff.mp h).1]
  exact h
theorem slopes_last {ps : List Kn} {i : Nat} (h : i + 1 = ps.length) : (slopes ps)[i]? = some 0 := by
  unfold slopes
  have hl : (List.zipWith slope ps (ps.drop 1)).length = i := by
    rw [List.length_zipWith, List.length_drop]
    omega
  rw [List.getElem?_append_right (by omega), hl, Nat.sub_self]
  rfl
theorem exists_piece {ps : List Kn} {t : Rat} (h : 0 < ps.length) (hl : Late ps t) : ∃ i, IsPiece ps t i := by
  -- the last knot whose time is not behind t
  have : ∀ n, n < ps.length → (∀ q, ps[n + 1]? = some q → t < q.1) → ∃ i, IsPiece ps t i := by
    intro n
    induction n with
    | zero =>
        intro hn hq
        obtain ⟨p, hp⟩ : ∃ p, ps[0]? = some p := ⟨_, List.getElem?_eq_getElem hn⟩
        exact ⟨0, p, hp, hl p hp, hq⟩
    | succ n ih =>
        intro hn hq
        obtain ⟨p, hp⟩ : ∃ p, ps[n + 1]? = some p := ⟨_, List.getElem?_eq_getElem hn⟩
        by_cases hx : p.1 ≤ t
        · exact ⟨n + 1, p, hp, hx, hq⟩
        · refine ih (by omega) fun q hq' => ?_
          rw [hp] at hq'
          cases hq'
          grind
  refine this (ps.length - 1) (by omega) fun q hq => ?_
  have := (List.getElem?_eq_some_iff.mp hq).1
  omega
end Pw
namespace Pw
open PySem L2
/-- the piece, its knot, the next one -/
theorem pc_lt {ps : List Kn} {t : Rat} (h : KOk ps) (hl : Late ps t) : ∃ p, ps[pc ps t]? = some p ∧ p.1 ≤ t ∧ ∀ q, ps[pc ps t + 1]? = some q → t < q.1 := by
  obtain ⟨i, hi⟩ := exists_piece h.ne hl
  rw [pc_of h.asc hi]
  exact hi
theorem paceQ_last {ps : List Kn} {t : Rat} (h : pc ps t + 1 = ps.length) : paceQ ps t = 0 := by
  unfold paceQ
  rw [slopes_last h]
  rfl
theorem paceQ_at {ps : List Kn} {t : Rat} {p q : Kn} (h1 : ps[pc ps t]? = some p) (h2 : ps[pc ps t + 1]? = some q) : paceQ ps t = slope p q := by
  unfold paceQ
  rw [slopes_at h1 h2]
  rfl
theorem posQ_at {ps : List Kn} {t : Rat} {p : Kn} (h1 : ps[pc ps t]? = some p) : posQ ps t = p.2 + paceQ ps t * (t - p.1) := by
  unfold posQ
  rw [h1]
theorem paceQ_fit {ps : List Kn} {t : Rat} (h : KOk ps) (hl : Late ps t) : Fit 1602 (paceQ ps t) := by
  obtain ⟨p, hp, _, _⟩ := pc_lt h hl
  have hlt := (List.getElem?_eq_some_iff.mp hp).1
  by_cases e : pc ps t + 1 = ps.length
  · rw [paceQ_last e]
    exact Fit.zero.mono (by decide)
  · obtain ⟨q, hq⟩ := get_of_lt (l := ps) (i := pc ps t + 1) (by omega)
    rw [paceQ_at hp hq]
    have fp := h.mem hp
    have fq := h.mem hq
    exact ((fq.2.sub fp.2).div (fq.1.sub fp.1) (lt_ne (asc_lt h.asc hp hq))).mono (by decide)
theorem posQ_fit {ps : List Kn} {t : Rat} {k : Nat} (h : KOk ps) (hl : Late ps t) (ht : Fit k t) (hk : k ≤ 1000) : Fit 3500 (posQ ps t) := by
  obtain ⟨p, hp, _, _⟩ := pc_lt h hl
  rw [posQ_at hp]
  have fp := h.mem hp
  exact (fp.2.add ((paceQ_fit h hl).mul (ht.sub fp.1))).mono (by omega)
theorem knL_last {ps : List Kn} {p : Kn} (h : ps[ps.length - 1]? = some p) (h0 : 0 < ps.length) : atI (knL ps) (-1) = some (kn p) := by
  have e : ixN (knL ps).length (-1) = some (ps.length - 1) := by
    unfold ixN
    rw [knL_len, if_neg (by decide), if_pos (by omega)]
    congr 1
    omega
  unfold atI
  rw [e]
  show (knL ps)[ps.length - 1]? = some (kn p)
  unfold knL
  rw [List.getElem?_map, h]
  rfl
end Pw
namespace Pw
open PySem L2
/-! ### the law's own fractions: over one denominator -/
def D0 : Nat := 420 * (10 ^ 9 + 9)
def Gr (M : Nat) (q : Rat) : Prop := ∃ z : Int, q = (z : Rat) / ((D0 : Nat) : Rat) ∧ z.natAbs ≤ M
theorem D0_ne : ((D0 : Nat) : Rat) ≠ 0 := by exact_mod_cast (show D0 ≠ 0 by decide)
theorem Gr.mono {M N : Nat} {q : Rat} (h : Gr M q) (hm : M ≤ N) : Gr N q := by
  obtain ⟨z, e, hz⟩ := h
  exact ⟨z, e, Nat.le_trans hz hm⟩
theorem Gr.add {M N : Nat} {a b : Rat} (ha : Gr M a) (hb : Gr N b) : Gr (M + N) (a + b) := by
  obtain ⟨z, rfl, hz⟩ := ha
  obtain ⟨y, rfl, hy⟩ := hb
  refine ⟨z + y, ?_, by omega⟩
  rw [Rat.intCast_add]
  have := D0_ne
  grind
theorem Gr.of {n d : Int} (hd : 0 < d) (hdv : d.natAbs ∣ D0) (hn : n.natAbs < 2 ^ 65) : Gr (2 ^ 104) (Rat.divInt n d) := by
  obtain ⟨c, hc⟩ := hdv
  have hc0 : 0 < c := by
    rcases Nat.eq_zero_or_pos c with z | z
    · rw [z, Nat.mul_zero] at hc; exact absurd hc (by decide)
    · exact z
  have hcl : c ≤ D0 := by
    rw [hc]
    exact Nat.le_mul_of_pos_left c (by omega)
  refine ⟨n * c, ?_, ?_⟩
  · have e : ((D0 : Nat) : Rat) = (d : Rat) * (c : Rat) := by
      have : ((D0 : Nat) : Int) = d * (c : Int) := by
        rw [hc, Int.natCast_mul, Int.natAbs_of_nonneg (by omega)]
      have h2 : (((D0 : Nat) : Int) : Rat) = ((d * (c : Int) : Int) : Rat) := by rw [this]
      rw [Rat.intCast_mul, Rat.intCast_natCast, Rat.intCast_natCast] at h2
      exact h2
    rw [Rat.divInt_eq_div, e, Rat.intCast_mul, Rat.intCast_natCast]
    have h1 : (d : Rat) ≠ 0 := by exact_mod_cast (show d ≠ 0 by omega)
    have h2 : (c : Rat) ≠ 0 := by exact_mod_cast (show c ≠ 0 by omega)
    grind
  · rw [Int.natAbs_mul, Int.natAbs_natCast]
    have h1 : n.natAbs * c ≤ 2 ^ 65 * D0 := Nat.mul_le_mul (Nat.le_of_lt hn) hcl
    exact Nat.le_trans h1 (by decide)
theorem Gr.fit {M k : Nat} {q : Rat} (h : Gr M q) (hm : M < 2 ^ k) (hk : D0 < 2 ^ k) : Fit k q := by
  obtain ⟨z, rfl, hz⟩ := h
  have e : (z : Rat) / ((D0 : Nat) : Rat) = Rat.divInt z (D0 : Nat) := by
    rw [Rat.divInt_eq_div, Rat.intCast_natCast]
  rw [e]
  exact fit_divInt (by decide) (Nat.lt_of_le_of_lt hz hm) (by rw [Int.natAbs_natCast]; exact hk)
theorem asc_snoc : ∀ {ps : List Kn} {k : Kn}, asc ps → (∀ p, ps[ps.length - 1]? = some p → p.1 < k.1) → asc (ps ++ [k])
  | [], k, _, _ => trivial
  | [x], k, _, h => ⟨h x rfl, trivial⟩
  | x :: y :: r, k, ha, h => ⟨ha.1, asc_snoc (ps := y :: r) ha.2 fun p hp => h p (by
      show (x :: y :: r)[(y :: r).length]? = some p
      rw [List.length_cons] at hp ⊢
      rw [Nat.add_sub_cancel] at hp
      simpa using hp)⟩
theorem knL_snoc (ps : List Kn) (k : Kn) : knL (ps ++ [k]) = knL ps ++ [kn k] := by
  unfold knL
  rw [List.map_append]
  rfl
theorem knL_mem {ps : List Kn} {d : D} (h : d ∈ knL ps) : ∃ p, p ∈ ps ∧ d = kn p := by
  unfold knL at h
  obtain ⟨p, hp, e⟩ := List.mem_map.mp h
  exact ⟨p, hp, e.symm⟩
end Pw
namespace Pw
open PySem L2
def absQ (a : Rat) : Rat := if a < 0 then -a else a
theorem num_neg {a : Rat} : a.num < 0 ↔ a < 0 := by
  rw [Rat.lt_iff]
  show a.num < 0 ↔ a.num * ((1 : Nat) : Int) < 0 * (a.den : Int)
  omega
theorem absQ_num (a : Rat) : (absQ a).num = (a.num.natAbs : Int) ∧ (absQ a).den = a.den := by
  unfold absQ
  by_cases h : a < 0
  · rw [if_pos h]
    have := num_neg.mpr h
    exact ⟨by show -a.num = _; omega, rfl⟩
  · rw [if_neg h]
    have : ¬ a.num < 0 := fun z => h (num_neg.mp z)
    exact ⟨by omega, rfl⟩
theorem absQ_fr (a : Rat) : fr (absQ a) = .tup [.int (a.num.natAbs : Int), .int a.den] := by
  show D.tup [.int (absQ a).num, .int (absQ a).den] = _
  rw [(absQ_num a).1, (absQ_num a).2]
theorem absQ_fit {a : Rat} {k : Nat} (h : Fit k a) : Fit k (absQ a) := by
  unfold absQ
  split
  · exact h.neg
  · exact h
end Pw
namespace Pw
open PySem L2
theorem LT.yes {W : Wd} {ρ : En} {s : Rs} {Ψ : Bool → Rs → Prop} (k : Ψ true s) : LT W tYes ρ s Ψ := fun σ H o Q q => q true H s o (.refl o.rk) k
end Pw
namespace Pw
theorem Fit.num {k : Nat} {q : Rat} (h : Fit k q) : q.num.natAbs < 2 ^ k := h.1
end Pw
namespace Pw
theorem rat_mul3 {n d : Int} (g : Rat) (h : d ≠ 0) : Rat.divInt (n * g.num) (d * g.den) = Rat.divInt n d * g := by
  have ha : (g.den : Rat) ≠ 0 := by exact_mod_cast g.den_nz
  have ea := Rat.num_divInt_den g
  have hd : (d : Rat) ≠ 0 := by exact_mod_cast h
  rw [Rat.divInt_eq_div] at ea ⊢
  rw [Rat.divInt_eq_div]
  simp only [Rat.intCast_mul, Rat.intCast_natCast] at *
  grind
end Pw

namespace Pw
/-! ### a change of a timetable: times moved by s, positions multiplied by c and moved by x -/
def chg (s c x : Rat) (p : Kn) : Kn := (p.1 + s, p.2 * c + x)
theorem pc_chg (s c x t : Rat) : ∀ ps : List Kn, pc (ps.map (chg s c x)) (t + s) = pc ps t
  | [] => rfl
  | [a] => rfl
  | a :: b :: r => by
    have ih := pc_chg s c x t (b :: r)
    show (if t + s < (chg s c x b).1 then 0 else pc ((b :: r).map (chg s c x)) (t + s) + 1) = (if t < b.1 then 0 else pc (b :: r) t + 1)
    rw [ih]
    have e : (t + s < (chg s c x b).1) ↔ t < b.1 := by
      show (t + s < b.1 + s) ↔ _
      constructor <;> intro h <;> grind
    simp only [e]
theorem slope_chg (s c x : Rat) (a b : Kn) : slope (chg s c x a) (chg s c x b) = slope a b * c := by
  show ((b.2 * c + x) - (a.2 * c + x)) / ((b.1 + s) - (a.1 + s)) = (b.2 - a.2) / (b.1 - a.1) * c
  have e1 : (b.2 * c + x) - (a.2 * c + x) = (b.2 - a.2) * c := by grind
  have e2 : (b.1 + s) - (a.1 + s) = b.1 - a.1 := by grind
  rw [e1, e2, Rat.div_def, Rat.div_def]
  grind
theorem slopes_chg (s c x : Rat) (ps : List Kn) : slopes (ps.map (chg s c x)) = (slopes ps).map (· * c) := by
  unfold slopes
  rw [← List.map_drop, List.zipWith_map, List.map_append, List.map_zipWith]
  congr 1
  · congr 1
    funext a b
    exact slope_chg s c x a b
  · show [(0 : Rat)] = [0 * c]
    rw [Rat.zero_mul]
theorem paceQ_chg (s c x t : Rat) (ps : List Kn) : paceQ (ps.map (chg s c x)) (t + s) = paceQ ps t * c := by
  unfold paceQ
  rw [pc_chg, slopes_chg, List.getElem?_map]
  cases (slopes ps)[pc ps t]? with
  | none => exact (Rat.zero_mul _).symm
  | some q => rfl
theorem posQ_chg {s c x t : Rat} {ps : List Kn} (h : KOk ps) (hl : Late ps t) : posQ (ps.map (chg s c x)) (t + s) = posQ ps t * c + x := by
  obtain ⟨p, hp, _, _⟩ := pc_lt h hl
  rw [posQ_at hp, posQ_at (p := chg s c x p) (by rw [pc_chg, List.getElem?_map, hp]; rfl), paceQ_chg]
  show p.2 * c + x + paceQ ps t * c * (t + s - (p.1 + s)) = _
  grind
theorem asc_chg (s c x : Rat) : ∀ {ps : List Kn}, asc ps → asc (ps.map (chg s c x))
  | [], _ => trivial
  | [a], _ => trivial
  | a :: b :: r, h => ⟨by show a.1 + s < b.1 + s; have := h.1; grind, asc_chg s c x h.2⟩
theorem KOk.chg {s c x : Rat} {ps : List Kn} (h : KOk ps) (hf : ∀ p ∈ ps, Fit 400 (p.1 + s) ∧ Fit 400 (p.2 * c + x)) : KOk (ps.map (chg s c x)) :=
  ⟨by rw [List.length_map]; exact h.ne, by rw [List.length_map]; exact h.len, asc_chg s c x h.asc, fun q hq => by
    obtain ⟨p, hp, rfl⟩ := List.mem_map.mp hq
    exact hf p hp⟩
theorem Late.chg {s c x t : Rat} {ps : List Kn} (h : Late ps t) : Late (ps.map (chg s c x)) (t + s) := fun q hq => by
  rw [List.getElem?_map] at hq
  cases e : ps[0]? with
  | none => rw [e] at hq; cases hq
  | some p =>
    rw [e] at hq
    cases hq
    have := h p e
    show p.1 + s ≤ t + s
    grind
theorem chg_id {f : Kn → Kn} (h : ∀ p, f p = p) (ps : List Kn) : ps.map f = ps := by
  have : f = id := funext h
  rw [this, List.map_id]
/-! the distance walked -/
theorem absQ_nonneg (a : Rat) : 0 ≤ absQ a := by
  unfold absQ
  split <;> grind
theorem absQ_of_nonneg {a : Rat} (h : 0 ≤ a) : absQ a = a := by
  unfold absQ
  rw [if_neg (by grind)]
theorem absQ_mul (a c : Rat) : absQ (a * c) = absQ a * absQ c := by
  by_cases ha : a < 0
  · by_cases hc : c < 0
    · have h := Rat.mul_nonneg (show 0 ≤ -a by grind) (show 0 ≤ -c by grind)
      unfold absQ
      rw [if_pos ha, if_pos hc]
      split <;> grind
    · have h := Rat.mul_nonneg (show 0 ≤ -a by grind) (show 0 ≤ c by grind)
      unfold absQ
      rw [if_pos ha, if_neg hc]
      split <;> grind
  · by_cases hc : c < 0
    · have h := Rat.mul_nonneg (show 0 ≤ a by grind) (show 0 ≤ -c by grind)
      unfold absQ
      rw [if_neg ha, if_pos hc]
      split <;> grind
    · have h := Rat.mul_nonneg (show 0 ≤ a by grind) (show 0 ≤ c by grind)
      unfold absQ
      rw [if_neg ha, if_neg hc]
      split <;> grind
theorem absQ_add_le (a b : Rat) : absQ (a + b) ≤ absQ a + absQ b := by
  unfold absQ
  split <;> split <;> split <;> grind
theorem absQ_sub_le (a b : Rat) : absQ (a - b) ≤ absQ a + absQ b := by
  unfold absQ
  split <;> split <;> split <;> grind
theorem absQ_int (z : Int) : absQ (z : Rat) = ((z.natAbs : Nat) : Rat) := by
  unfold absQ
  by_cases h : (z : Rat) < 0
  · rw [if_pos h]
    have hz : z < 0 := by exact_mod_cast h
    have e : (z.natAbs : Int) = -z := by omega
    have e2 : ((z.natAbs : Int) : Rat) = ((-z : Int) : Rat) := by rw [e]
    rw [Rat.intCast_natCast, Rat.intCast_neg] at e2
    exact e2.symm
  · rw [if_neg h]
    have hz : ¬ z < 0 := fun q => h (by exact_mod_cast q)
    have e : (z.natAbs : Int) = z := by omega
    have e2 : ((z.natAbs : Int) : Rat) = ((z : Int) : Rat) := by rw [e]
    rw [Rat.intCast_natCast] at e2
    exact e2.symm
/-- over the denominator N -/
def GN (N : Nat) (q : Rat) : Prop := ∃ z : Int, q * (N : Rat) = (z : Rat)
theorem GN.add {N : Nat} {a b : Rat} (ha : GN N a) (hb : GN N b) : GN N (a + b) := by
  obtain ⟨z, hz⟩ := ha
  obtain ⟨y, hy⟩ := hb
  exact ⟨z + y, by rw [Rat.intCast_add]; grind⟩
theorem GN.neg {N : Nat} {a : Rat} (ha : GN N a) : GN N (-a) := by
  obtain ⟨z, hz⟩ := ha
  exact ⟨-z, by rw [Rat.intCast_neg]; grind⟩
theorem GN.sub {N : Nat} {a b : Rat} (ha : GN N a) (hb : GN N b) : GN N (a - b) := by
  rw [Rat.sub_eq_add_neg]
  exact ha.add hb.neg
theorem GN.abs {N : Nat} {a : Rat} (ha : GN N a) : GN N (absQ a) := by
  unfold absQ
  split
  · exact ha.neg
  · exact ha
theorem GN.zero {N : Nat} : GN N 0 := ⟨0, by rw [Rat.zero_mul]; rfl⟩
theorem GN.mul {N M : Nat} {a b : Rat} (ha : GN N a) (hb : GN M b) : GN (N * M) (a * b) := by
  obtain ⟨z, hz⟩ := ha
  obtain ⟨y, hy⟩ := hb
  refine ⟨z * y, ?_⟩
  rw [Rat.intCast_mul, ← hz, ← hy, Rat.natCast_mul]
  grind
theorem GN.up {N : Nat} {a : Rat} (ha : GN N a) (M : Nat) : GN (N * M) a := by
  obtain ⟨z, hz⟩ := ha
  refine ⟨z * M, ?_⟩
  rw [Rat.intCast_mul, ← hz, Rat.natCast_mul, Rat.intCast_natCast]
  grind
theorem GN.den (q : Rat) : GN q.den q := by
  refine ⟨q.num, ?_⟩
  have ha : (q.den : Rat) ≠ 0 := by exact_mod_cast q.den_nz
  have ea := Rat.num_divInt_den q
  rw [Rat.divInt_eq_div, Rat.intCast_natCast] at ea
  grind
theorem Gr.gn {M : Nat} {q : Rat} (h : Gr M q) : GN D0 q := by
  obtain ⟨z, rfl, _⟩ := h
  refine ⟨z, ?_⟩
  have := D0_ne
  grind
theorem GN.fit {N M b B : Nat} {q : Rat} (h : GN N q) (h0 : 0 < N) (hN : N < 2 ^ M) (hq : absQ q ≤ ((B : Nat) : Rat)) (hB : B < 2 ^ b) : Fit (b + M) q := by
  obtain ⟨z, hz⟩ := h
  have hn : (N : Rat) ≠ 0 := by exact_mod_cast (show N ≠ 0 by omega)
  have hnn : (0 : Rat) ≤ (N : Rat) := by exact_mod_cast (Nat.zero_le N)
  have e : q = Rat.divInt z (N : Int) := by
    rw [Rat.divInt_eq_div, Rat.intCast_natCast, ← hz]
    grind
  have e2 : absQ q * (N : Rat) = ((z.natAbs : Nat) : Rat) := by
    rw [← absQ_int, ← hz, absQ_mul, absQ_of_nonneg hnn]
  have h3 : ((z.natAbs : Nat) : Rat) ≤ ((B * N : Nat) : Rat) := by
    rw [← e2, Rat.natCast_mul]
    exact Rat.mul_le_mul_of_nonneg_right hq hnn
  have h4 : z.natAbs ≤ B * N := by exact_mod_cast h3
  rw [e]
  exact fit_divInt (by omega) (Nat.lt_of_le_of_lt h4 (nat_mul_lt hB hN)) (by rw [Int.natAbs_natCast]; exact pow_up hN (by omega))
theorem Fit.abs_le {k : Nat} {q : Rat} (h : Fit k q) : absQ q ≤ ((2 ^ k : Nat) : Rat) := by
  obtain ⟨z, hz⟩ := GN.den q
  have hd1 : (1 : Rat) ≤ (q.den : Rat) := by exact_mod_cast q.den_pos
  have hd0 : (0 : Rat) ≤ (q.den : Rat) := by grind
  have ea : q * (q.den : Rat) = (q.num : Rat) := by
    have ha : (q.den : Rat) ≠ 0 := by exact_mod_cast q.den_nz
    have ea := Rat.num_divInt_den q
    rw [Rat.divInt_eq_div, Rat.intCast_natCast] at ea
    grind
  have e2 : absQ q * (q.den : Rat) = ((q.num.natAbs : Nat) : Rat) := by
    rw [← absQ_int, ← ea, absQ_mul, absQ_of_nonneg hd0]
  have h1 : absQ q * 1 ≤ absQ q * (q.den : Rat) := Rat.mul_le_mul_of_nonneg_left hd1 (absQ_nonneg q)
  rw [Rat.mul_one, e2] at h1
  have h2 : ((q.num.natAbs : Nat) : Rat) ≤ ((2 ^ k : Nat) : Rat) := by exact_mod_cast (Nat.le_of_lt h.1)
  exact Rat.le_trans h1 h2
def wstep (a : Rat × Rat) (p : Kn) : Rat × Rat := (a.1 + absQ (p.2 - a.2), p.2)
def wfold (a : Rat × Rat) (l : List Kn) : Rat × Rat := l.foldl wstep a
theorem wfold_snoc (a : Rat × Rat) (l : List Kn) (p : Kn) : wfold a (l ++ [p]) = wstep (wfold a l) p := by
  unfold wfold
  rw [List.foldl_append]
  rfl
def seg (ps : List Kn) (t u : Rat) : List Kn := (ps.drop (pc ps t + 1)).take (pc ps u - pc ps t)
def walkQ (ps : List Kn) (t u : Rat) : Rat := (wfold (0, posQ ps t) (seg ps t u)).1 + absQ (posQ ps u - (wfold (0, posQ ps t) (seg ps t u)).2)
theorem wfold_chg (s c x : Rat) : ∀ (l : List Kn) (tot here : Rat), wfold (tot * absQ c, here * c + x) (l.map (chg s c x)) = ((wfold (tot, here) l).1 * absQ c, (wfold (tot, here) l).2 * c + x)
  | [], tot, here => rfl
  | p :: r, tot, here => by
    have e : wstep (tot * absQ c, here * c + x) (chg s c x p) = ((tot + absQ (p.2 - here)) * absQ c, p.2 * c + x) := by
      show (tot * absQ c + absQ (p.2 * c + x - (here * c + x)), p.2 * c + x) = _
      rw [show p.2 * c + x - (here * c + x) = (p.2 - here) * c by grind, absQ_mul, Rat.add_mul]
    show wfold (wstep (tot * absQ c, here * c + x) (chg s c x p)) (r.map (chg s c x)) = _
    rw [e, wfold_chg s c x r]
    rfl
theorem walkQ_chg {s c x t u : Rat} {ps : List Kn} (h : KOk ps) (ht : Late ps t) (hu : Late ps u) : walkQ (ps.map (chg s c x)) (t + s) (u + s) = walkQ ps t u * absQ c := by
  have e : seg (ps.map (chg s c x)) (t + s) (u + s) = (seg ps t u).map (chg s c x) := by
    unfold seg
    rw [pc_chg, pc_chg, List.map_take, List.map_drop]
  unfold walkQ
  rw [e, posQ_chg h ht, posQ_chg h hu]
  have e2 := wfold_chg s c x (seg ps t u) 0 (posQ ps t)
  rw [Rat.zero_mul] at e2
  rw [e2]
  dsimp only
  rw [show posQ ps u * c + x - ((wfold (0, posQ ps t) (seg ps t u)).2 * c + x) = (posQ ps u - (wfold (0, posQ ps t) (seg ps t u)).2) * c by grind, absQ_mul, Rat.add_mul]
/-- the size of what was walked -/
structure WI (N B i : Nat) (a : Rat × Rat) : Prop where
  g1 : GN N a.1
  g2 : GN N a.2
  p1 : 0 ≤ a.1
  l1 : a.1 ≤ ((i * (2 * B) : Nat) : Rat)
  l2 : absQ a.2 ≤ ((B : Nat) : Rat)
theorem WI.step {N B i : Nat} {a : Rat × Rat} {p : Kn} (h : WI N B i a) (hg : GN N p.2) (hb : absQ p.2 ≤ ((B : Nat) : Rat)) : WI N B (i + 1) (wstep a p) := by
  refine ⟨h.g1.add (hg.sub h.g2).abs, hg, ?_, ?_, hb⟩
  · show 0 ≤ a.1 + absQ (p.2 - a.2)
    have := h.p1
    have := absQ_nonneg (p.2 - a.2)
    grind
  · show a.1 + absQ (p.2 - a.2) ≤ _
    have h1 := absQ_sub_le p.2 a.2
    have h2 := h.l1
    have h3 := h.l2
    have e : (((i + 1) * (2 * B) : Nat) : Rat) = ((i * (2 * B) : Nat) : Rat) + ((B : Nat) : Rat) + ((B : Nat) : Rat) := by
      rw [show (i + 1) * (2 * B) = i * (2 * B) + B + B by rw [Nat.add_mul]; omega, Rat.natCast_add, Rat.natCast_add]
    rw [e]
    grind
theorem pc_first {ps : List Kn} {p : Kn} (h : KOk ps) (hp : ps[0]? = some p) : pc ps p.1 = 0 :=
  pc_of h.asc ⟨p, hp, Rat.le_refl, fun q hq => asc_lt h.asc hp hq⟩
theorem posQ_first {ps : List Kn} {p : Kn} (h : KOk ps) (hp : ps[0]? = some p) : posQ ps p.1 = p.2 := by
  rw [posQ_at (p := p) (by rw [pc_first h hp]; exact hp)]
  grind
theorem late_first {ps : List Kn} {p : Kn} (hp : ps[0]? = some p) : Late ps p.1 := fun q hq => by
  rw [hp] at hq
  cases hq
  exact Rat.le_refl
theorem paceQ_fitP {ps : List Kn} {t : Rat} {a b : Nat} (h : KOk ps) (hl : Late ps t) (hf : ∀ p ∈ ps, Fit a p.1 ∧ Fit b p.2) : Fit (2 * b + 2 * a + 2) (paceQ ps t) := by
  obtain ⟨p, hp, _, _⟩ := pc_lt h hl
  have hlt := (List.getElem?_eq_some_iff.mp hp).1
  by_cases e : pc ps t + 1 = ps.length
  · rw [paceQ_last e]
    exact Fit.zero.mono (by omega)
  · obtain ⟨q, hq⟩ := get_of_lt (l := ps) (i := pc ps t + 1) (by omega)
    rw [paceQ_at hp hq]
    have fp := hf p (List.mem_of_getElem? hp)
    have fq := hf q (List.mem_of_getElem? hq)
    exact ((fq.2.sub fp.2).div (fq.1.sub fp.1) (lt_ne (asc_lt h.asc hp hq))).mono (by omega)
theorem posQ_fitP {ps : List Kn} {t : Rat} {a b k : Nat} (h : KOk ps) (hl : Late ps t) (hf : ∀ p ∈ ps, Fit a p.1 ∧ Fit b p.2) (ht : Fit k t) : Fit (3 * b + 3 * a + k + 4) (posQ ps t) := by
  obtain ⟨p, hp, _, _⟩ := pc_lt h hl
  rw [posQ_at hp]
  have fp := hf p (List.mem_of_getElem? hp)
  exact (fp.2.add ((paceQ_fitP h hl hf).mul (ht.sub fp.1))).mono (by omega)
/-- the knots between two times, as a slice -/
theorem cut_seg (ps : List Kn) {i j : Nat} (hi : i + 1 ≤ ps.length) (hj : j + 1 ≤ ps.length) : cutD (knL ps) (some ((i : Int) + 1)) (some ((j : Int) + 1)) = knL ((ps.drop (i + 1)).take (j - i)) := by
  unfold cutD
  have h1 : HT.sIx (knL ps).length 0 (some ((i : Int) + 1)) = i + 1 := by
    rw [knL_len]
    unfold HT.sIx
    simp
    rw [if_neg (by omega)]
    omega
  have h2 : HT.sIx (knL ps).length (knL ps).length (some ((j : Int) + 1)) = j + 1 := by
    rw [knL_len]
    unfold HT.sIx
    simp
    rw [if_neg (by omega)]
    omega
  rw [h1, h2, show j + 1 - (i + 1) = j - i by omega]
  unfold knL
  rw [List.map_take, List.map_drop]
/-- the law's own knots -/
structure LKn (ps : List Kn) : Prop where
  ne : 0 < ps.length
  len : ps.length ≤ 40
  asc : asc ps
  fit : ∀ p ∈ ps, Fit 112 p.1 ∧ Fit 112 p.2
  gr : ∀ p ∈ ps, GN D0 p.1 ∧ GN D0 p.2
theorem LKn.ok {ps : List Kn} (h : LKn ps) : KOk ps := ⟨h.ne, Nat.le_trans h.len (by decide), h.asc, fun p hp => ⟨(h.fit p hp).1.mono (by decide), (h.fit p hp).2.mono (by decide)⟩⟩
theorem D0_pos : 0 < D0 := by decide
theorem D0_lt : D0 < 2 ^ 39 := by decide
theorem D02_pos : 0 < D0 * D0 := by decide
theorem D02_lt : D0 * D0 < 2 ^ 78 := by decide
theorem map_last {ps : List Kn} {g : Kn → Kn} {p : Kn} (h : ps[ps.length - 1]? = some p) : (ps.map g)[(ps.map g).length - 1]? = some (g p) := by
  rw [List.length_map, List.getElem?_map, h]; rfl
theorem map_first {ps : List Kn} {g : Kn → Kn} {p : Kn} (h : ps[0]? = some p) : (ps.map g)[0]? = some (g p) := by
  rw [List.getElem?_map, h]; rfl
/-! the three changes -/
def M_moved (a : Rat) (p : Kn) : Kn := (p.1, p.2 + a)
def M_later (a : Rat) (p : Kn) : Kn := (p.1 + a, p.2)
def M_scaled (a : Rat) (p : Kn) : Kn := (p.1, p.2 * a)
theorem M_scaled_eq (a : Rat) : M_scaled a = chg 0 a 0 := funext fun p => Prod.ext (Rat.add_zero _).symm (Rat.add_zero _).symm
theorem M_moved_eq (a : Rat) : M_moved a = chg 0 1 a := funext fun p => Prod.ext (Rat.add_zero _).symm (by show p.2 + a = p.2 * 1 + a; rw [Rat.mul_one])
theorem M_later_eq (a : Rat) : M_later a = chg a 1 0 := funext fun p => Prod.ext rfl (by show p.2 = p.2 * 1 + 0; rw [Rat.mul_one, Rat.add_zero])
section
variable {ps : List Kn} {t u f : Rat}
theorem scaled_pos (h : KOk ps) (hl : Late ps t) : posQ (ps.map (M_scaled f)) t = posQ ps t * f := by
  have e := posQ_chg (s := 0) (c := f) (x := 0) h hl
  rw [Rat.add_zero, Rat.add_zero] at e
  rw [M_scaled_eq, e]
theorem scaled_pace : paceQ (ps.map (M_scaled f)) t = paceQ ps t * f := by
  have e := paceQ_chg 0 f 0 t ps
  rw [Rat.add_zero] at e
  rw [M_scaled_eq, e]
theorem scaled_walk (h : KOk ps) (hl : Late ps t) (hu : Late ps u) : walkQ (ps.map (M_scaled f)) t u = walkQ ps t u * absQ f := by
  have e := walkQ_chg (s := 0) (c := f) (x := 0) h hl hu
  rw [Rat.add_zero, Rat.add_zero] at e
  rw [M_scaled_eq, e]
theorem scaled_late (hl : Late ps t) : Late (ps.map (M_scaled f)) t := by
  have e := hl.chg (s := 0) (c := f) (x := 0)
  rw [Rat.add_zero] at e
  rw [M_scaled_eq]; exact e
theorem scaled_asc (h : asc ps) : asc (ps.map (M_scaled f)) := by rw [M_scaled_eq]; exact asc_chg _ _ _ h
theorem moved_pos (h : KOk ps) (hl : Late ps t) : posQ (ps.map (M_moved f)) t = posQ ps t + f := by
  have e := posQ_chg (s := 0) (c := 1) (x := f) h hl
  rw [Rat.add_zero, Rat.mul_one] at e
  rw [M_moved_eq, e]
theorem moved_pace : paceQ (ps.map (M_moved f)) t = paceQ ps t := by
  have e := paceQ_chg 0 1 f t ps
  rw [Rat.add_zero, Rat.mul_one] at e
  rw [M_moved_eq, e]
theorem absQ_one : absQ 1 = 1 := absQ_of_nonneg (by decide)
theorem moved_walk (h : KOk ps) (hl : Late ps t) (hu : Late ps u) : walkQ (ps.map (M_moved f)) t u = walkQ ps t u := by
  have e := walkQ_chg (s := 0) (c := 1) (x := f) h hl hu
  rw [Rat.add_zero, Rat.add_zero, absQ_one, Rat.mul_one] at e
  rw [M_moved_eq, e]
theorem moved_late (hl : Late ps t) : Late (ps.map (M_moved f)) t := by
  have e := hl.chg (s := 0) (c := 1) (x := f)
  rw [Rat.add_zero] at e
  rw [M_moved_eq]; exact e
theorem later_pos (h : KOk ps) (hl : Late ps t) : posQ (ps.map (M_later f)) (t + f) = posQ ps t := by
  have e := posQ_chg (s := f) (c := 1) (x := 0) h hl
  rw [Rat.add_zero, Rat.mul_one] at e
  rw [M_later_eq, e]
theorem later_pace : paceQ (ps.map (M_later f)) (t + f) = paceQ ps t := by
  have e := paceQ_chg f 1 0 t ps
  rw [Rat.mul_one] at e
  rw [M_later_eq, e]
theorem later_late (hl : Late ps t) : Late (ps.map (M_later f)) (t + f) := by
  rw [M_later_eq]; exact hl.chg
end
section
variable {ps : List Kn} {f g : Rat}
theorem scaled_two : (ps.map (M_scaled f)).map (M_scaled g) = ps.map (M_scaled (f * g)) := by
  rw [List.map_map]
  congr 1
  funext p
  exact Prod.ext rfl (Rat.mul_assoc ..)
theorem moved_two : (ps.map (M_moved f)).map (M_moved g) = ps.map (M_moved (f + g)) := by
  rw [List.map_map]
  congr 1
  funext p
  exact Prod.ext rfl (Rat.add_assoc ..)
theorem later_two : (ps.map (M_later f)).map (M_later g) = ps.map (M_later (f + g)) := by
  rw [List.map_map]
  congr 1
  funext p
  exact Prod.ext (Rat.add_assoc ..) rfl
theorem scaled_one : ps.map (M_scaled 1) = ps := chg_id (f := M_scaled 1) (fun p => Prod.ext rfl (Rat.mul_one _)) ps
theorem moved_zero : ps.map (M_moved 0) = ps := chg_id (f := M_moved 0) (fun p => Prod.ext rfl (Rat.add_zero _)) ps
theorem later_zero : ps.map (M_later 0) = ps := chg_id (f := M_later 0) (fun p => Prod.ext (Rat.add_zero _) rfl) ps
theorem scaled_back (h : f ≠ 0) : (ps.map (M_scaled f)).map (M_scaled (1 / f)) = ps := by
  rw [scaled_two, show f * (1 / f) = 1 by rw [Rat.div_def, Rat.one_mul]; exact Rat.mul_inv_cancel _ h, scaled_one]
theorem moved_back : (ps.map (M_moved f)).map (M_moved (-f)) = ps := by rw [moved_two, Rat.add_neg_cancel, moved_zero]
theorem later_back : (ps.map (M_later f)).map (M_later (-f)) = ps := by rw [later_two, Rat.add_neg_cancel, later_zero]
theorem LKn.scaled (h : LKn ps) (hf : Fit 65 f) : KOk (ps.map (M_scaled f)) := by
  rw [M_scaled_eq]
  refine h.ok.chg fun p hp => ?_
  rw [Rat.add_zero, Rat.add_zero]
  exact ⟨(h.fit p hp).1.mono (by decide), ((h.fit p hp).2.mul hf).mono (by decide)⟩
theorem LKn.moved {k : Nat} (h : LKn ps) (hf : Fit k f) (hk : k ≤ 280) : KOk (ps.map (M_moved f)) := by
  rw [M_moved_eq]
  refine h.ok.chg fun p hp => ?_
  rw [Rat.add_zero, Rat.mul_one]
  exact ⟨(h.fit p hp).1.mono (by decide), ((h.fit p hp).2.add hf).mono (by omega)⟩
theorem LKn.later (h : LKn ps) (hf : Fit 64 f) : KOk (ps.map (M_later f)) := by
  rw [M_later_eq]
  refine h.ok.chg fun p hp => ?_
  rw [Rat.add_zero, Rat.mul_one]
  exact ⟨((h.fit p hp).1.add hf).mono (by decide), (h.fit p hp).2.mono (by decide)⟩
theorem LKn.scaled_gr (h : LKn ps) (hf : GN D0 f) : ∀ p ∈ ps.map (M_scaled f), GN (D0 * D0) p.2 := fun q hq => by
  obtain ⟨p, hp, rfl⟩ := List.mem_map.mp hq
  exact (h.gr p hp).2.mul hf
theorem LKn.moved_gr (h : LKn ps) (hf : GN D0 f) : ∀ p ∈ ps.map (M_moved f), GN D0 p.2 := fun q hq => by
  obtain ⟨p, hp, rfl⟩ := List.mem_map.mp hq
  exact (h.gr p hp).2.add hf
end
theorem rat_inv (f : Rat) (h : f ≠ 0) : Rat.divInt (f.den : Int) f.num = 1 / f := by
  have e := rat_div 1 f h
  rw [show (1 : Rat).num = 1 from rfl, show (1 : Rat).den = 1 from rfl] at e
  rw [← e]
  congr 1 <;> omega
theorem Fit.inv {k : Nat} {f : Rat} (hf : Fit k f) (h : f ≠ 0) : Fit k (1 / f) := by
  rw [← rat_inv f h]
  exact fit_divInt (num_ne h) (by rw [Int.natAbs_natCast]; exact hf.2) hf.1
end Pw

namespace Pw
/-! ### whole distances -/
theorem filter_drop {α : Type} (f : α → Bool) : ∀ (l : List α) (k : Nat), (∀ i x, l[i]? = some x → (f x = true ↔ k ≤ i)) → l.filter f = l.drop k
  | [], k, _ => by simp
  | a :: l, 0, h => by
    have h0 := (h 0 a (by simp)).mpr (Nat.zero_le _)
    rw [List.filter_cons_of_pos h0, List.drop_zero, filter_drop f l 0 fun i x hx => ⟨fun _ => Nat.zero_le _, fun _ => (h (i + 1) x (by simpa using hx)).mpr (Nat.zero_le _)⟩, List.drop_zero]
  | a :: l, k + 1, h => by
    have h0 : ¬ f a = true := fun z => by
      have := (h 0 a (by simp)).mp z
      omega
    rw [List.filter_cons_of_neg h0, List.drop_succ_cons]
    exact filter_drop f l k fun i x hx => by
      have := h (i + 1) x (by simpa using hx)
      rw [this]
      omega
theorem filter_take {α : Type} (f : α → Bool) : ∀ (l : List α) (k : Nat), (∀ i x, l[i]? = some x → (f x = true ↔ i < k)) → l.filter f = l.take k
  | [], k, _ => by simp
  | a :: l, 0, h => by
    have h0 : ¬ f a = true := fun z => by
      have := (h 0 a (by simp)).mp z
      omega
    rw [List.filter_cons_of_neg h0, List.take_zero, filter_take f l 0 fun i x hx => by
      have := h (i + 1) x (by simpa using hx)
      rw [this]
      omega, List.take_zero]
  | a :: l, k + 1, h => by
    have h0 := (h 0 a (by simp)).mpr (Nat.succ_pos _)
    rw [List.filter_cons_of_pos h0, List.take_succ_cons, filter_take f l k fun i x hx => by
      have := h (i + 1) x (by simpa using hx)
      rw [this]
      omega]
theorem time_le {ps : List Kn} {t : Rat} (h : KOk ps) (hl : Late ps t) {i : Nat} {p : Kn} (hp : ps[i]? = some p) : p.1 ≤ t ↔ i ≤ pc ps t := by
  obtain ⟨k, hk, hkt, hn⟩ := pc_lt h hl
  constructor
  · intro hle
    rcases Nat.lt_or_ge (pc ps t) i with z | z
    · obtain ⟨q, hq⟩ := get_of_lt (l := ps) (i := pc ps t + 1) (by have := (List.getElem?_eq_some_iff.mp hp).1; omega)
      have h1 := hn q hq
      have h2 := asc_le h.asc z hq hp
      grind
    · exact z
  · intro hle
    have := asc_le h.asc hle hp hk
    grind
theorem posQ_knot {ps : List Kn} (h : KOk ps) {i : Nat} {p : Kn} (hp : ps[i]? = some p) : posQ ps p.1 = p.2 := by
  have e : pc ps p.1 = i := pc_of h.asc ⟨p, hp, Rat.le_refl, fun q hq => asc_lt h.asc hp hq⟩
  rw [posQ_at (p := p) (by rw [e]; exact hp)]
  grind
theorem pc_mono {ps : List Kn} {t u : Rat} (h : KOk ps) (hl : Late ps t) (hu : t ≤ u) : pc ps t ≤ pc ps u := by
  obtain ⟨k, hk, hkt, _⟩ := pc_lt h hl
  exact (time_le h (fun p hp => Rat.le_trans (hl p hp) hu) hk).mp (Rat.le_trans hkt hu)
def bet (t u : Rat) (p : Kn) : Bool := decide (t < p.1) && decide (p.1 < u)
/-- the law's stops: the knots between two times -/
theorem bet_seg {ps : List Kn} {t u : Rat} (h : KOk ps) (hl : Late ps t) (hu : t ≤ u) :
    ps.filter (bet t u) = seg ps t u ∨ ∃ p, p ∈ ps ∧ p.1 = u ∧ seg ps t u = ps.filter (bet t u) ++ [p] := by
  have hlu : Late ps u := fun p hp => Rat.le_trans (hl p hp) hu
  obtain ⟨b, hb, hbu, hbn⟩ := pc_lt h hlu
  have hm := pc_mono h hl hu
  have e0 : ps.filter (bet t u) = (ps.drop (pc ps t + 1)).filter fun p => decide (p.1 < u) := by
    rw [← filter_drop (fun p : Kn => decide (t < p.1)) ps (pc ps t + 1) (fun i x hx => by
      have := time_le h hl hx
      rw [decide_eq_true_eq]
      constructor
      · intro z
        rcases Nat.lt_or_ge (pc ps t) i with y | y
        · omega
        · have := this.mpr y
          grind
      · intro z
        have : ¬ x.1 ≤ t := fun y => by have := this.mp y; omega
        grind), List.filter_filter]
    congr 1
    funext p
    unfold bet
    rw [Bool.and_comm]
  by_cases hbe : b.1 < u
  · refine .inl ?_
    rw [e0]
    unfold seg
    refine filter_take _ _ _ fun i x hx => ?_
    rw [List.getElem?_drop] at hx
    have := time_le h hlu hx
    rw [decide_eq_true_eq]
    constructor
    · intro z
      have := this.mp (by grind)
      omega
    · intro z
      have h1 := asc_le h.asc (show pc ps t + 1 + i ≤ pc ps u by omega) hx hb
      grind
  · have hbe2 : b.1 = u := by grind
    by_cases htu : pc ps t = pc ps u
    · refine .inl ?_
      rw [e0]
      unfold seg
      rw [htu, Nat.sub_self]
      refine filter_take _ _ 0 fun i x hx => ?_
      rw [List.getElem?_drop] at hx
      have := time_le h hlu hx
      rw [decide_eq_true_eq]
      constructor
      · intro z
        have := this.mp (by grind)
        omega
      · intro z; omega
    · refine .inr ⟨b, List.mem_of_getElem? hb, hbe2, ?_⟩
      have e1 : ps.filter (bet t u) = (ps.drop (pc ps t + 1)).take (pc ps u - pc ps t - 1) := by
        rw [e0]
        refine filter_take _ _ _ fun i x hx => ?_
        rw [List.getElem?_drop] at hx
        rw [decide_eq_true_eq]
        constructor
        · intro z
          rcases Nat.lt_or_ge i (pc ps u - pc ps t - 1) with y | y
          · exact y
          · have := asc_le h.asc (show pc ps u ≤ pc ps t + 1 + i by omega) hb hx
            grind
        · intro z
          obtain ⟨y, hy⟩ := get_of_lt (l := ps) (i := pc ps t + 1 + i + 1) (by have := (List.getElem?_eq_some_iff.mp hb).1; omega)
          have h1 := asc_lt h.asc hx hy
          have h2 := asc_le h.asc (show pc ps t + 1 + i + 1 ≤ pc ps u by omega) hy hb
          grind
      rw [e1]
      unfold seg
      have hn : (ps.drop (pc ps t + 1))[pc ps u - pc ps t - 1]? = some b := by
        rw [List.getElem?_drop, show pc ps t + 1 + (pc ps u - pc ps t - 1) = pc ps u by omega]
        exact hb
      rw [← take_succ_get hn, show pc ps u - pc ps t - 1 + 1 = pc ps u - pc ps t by omega]
/-- the law's own sum -/
theorem walk_law {ps : List Kn} {t u : Rat} (h : KOk ps) (hl : Late ps t) (hu : t ≤ u) :
    (wfold (0, posQ ps t) (ps.filter (bet t u))).1 + absQ (posQ ps u - (wfold (0, posQ ps t) (ps.filter (bet t u))).2) = walkQ ps t u := by
  rcases bet_seg h hl hu with e | ⟨p, hp, hpu, e⟩
  · rw [e]
    rfl
  · obtain ⟨i, hi⟩ := List.mem_iff_getElem?.mp hp
    have e2 := posQ_knot h hi
    rw [hpu] at e2
    unfold walkQ
    rw [e, wfold_snoc, e2]
    show _ = (wfold (0, posQ ps t) (ps.filter (bet t u))).1 + absQ (p.2 - (wfold (0, posQ ps t) (ps.filter (bet t u))).2) + absQ (p.2 - p.2)
    rw [Rat.sub_self, absQ_of_nonneg Rat.le_refl, Rat.add_zero]
theorem walk_self {ps : List Kn} {t : Rat} : walkQ ps t t = 0 := by
  unfold walkQ seg
  rw [Nat.sub_self, List.take_zero]
  show (0 : Rat) + absQ (posQ ps t - posQ ps t) = 0
  rw [Rat.sub_self, absQ_of_nonneg Rat.le_refl, Rat.add_zero]
theorem absQ_comm (a b : Rat) : absQ (a - b) = absQ (b - a) := by
  unfold absQ
  split <;> split <;> grind
theorem absQ_tri (a b c : Rat) : absQ (a - c) ≤ absQ (a - b) + absQ (b - c) := by
  have := absQ_add_le (a - b) (b - c)
  rw [show a - b + (b - c) = a - c by grind] at this
  exact this
theorem wfold_gap : ∀ (l : List Kn) (a : Rat × Rat) (h0 : Rat), absQ (a.2 - h0) ≤ a.1 → absQ ((wfold a l).2 - h0) ≤ (wfold a l).1
  | [], a, h0, h => h
  | p :: r, a, h0, h => wfold_gap r (wstep a p) h0 (by
    show absQ (p.2 - h0) ≤ a.1 + absQ (p.2 - a.2)
    have := absQ_tri p.2 a.2 h0
    grind)
theorem walk_gap (ps : List Kn) (t u : Rat) : absQ (posQ ps u - posQ ps t) ≤ walkQ ps t u := by
  have h := wfold_gap (seg ps t u) (0, posQ ps t) (posQ ps t) (by
    show absQ (posQ ps t - posQ ps t) ≤ 0
    rw [Rat.sub_self, absQ_of_nonneg Rat.le_refl]
    exact Rat.le_refl)
  have h2 := absQ_tri (posQ ps u) (wfold (0, posQ ps t) (seg ps t u)).2 (posQ ps t)
  unfold walkQ
  grind
/-! adding up -/
theorem wfold_tot (c : Rat) : ∀ (l : List Kn) (tot here : Rat), wfold (tot + c, here) l = ((wfold (tot, here) l).1 + c, (wfold (tot, here) l).2)
  | [], tot, here => rfl
  | p :: r, tot, here => by
    have e : wstep (tot + c, here) p = ((tot + absQ (p.2 - here)) + c, p.2) := by
      show (tot + c + absQ (p.2 - here), p.2) = _
      rw [show tot + c + absQ (p.2 - here) = tot + absQ (p.2 - here) + c by grind]
    show wfold (wstep (tot + c, here) p) r = _
    rw [e, wfold_tot c r]
    rfl
theorem wfold_app (a : Rat × Rat) (l m : List Kn) : wfold a (l ++ m) = wfold (wfold a l) m := by
  unfold wfold
  rw [List.foldl_append]
theorem seg_app {ps : List Kn} {t u v : Rat} (h : KOk ps) (hl : Late ps t) (hu : t ≤ u) (hv : u ≤ v) : seg ps t v = seg ps t u ++ seg ps u v := by
  have h1 := pc_mono h hl hu
  have h2 := pc_mono h (fun p hp => Rat.le_trans (hl p hp) hu) hv
  unfold seg
  rw [show pc ps v - pc ps t = (pc ps u - pc ps t) + (pc ps v - pc ps u) by omega, List.take_add, List.drop_drop, show pc ps t + 1 + (pc ps u - pc ps t) = pc ps u + 1 by omega]
/-- three times of one piece, in order -/
theorem line_abs {s a b c : Rat} (h1 : a ≤ b) (h2 : b ≤ c) : absQ (s * c - s * a) = absQ (s * c - s * b) + absQ (s * b - s * a) := by
  have e1 : s * c - s * a = s * (c - a) := by grind
  have e2 : s * c - s * b = s * (c - b) := by grind
  have e3 : s * b - s * a = s * (b - a) := by grind
  rw [e1, e2, e3, absQ_mul, absQ_mul, absQ_mul, absQ_of_nonneg (show 0 ≤ c - a by grind), absQ_of_nonneg (show 0 ≤ c - b by grind), absQ_of_nonneg (show 0 ≤ b - a by grind)]
  grind
/-- where the walker stood last, ahead of u: a point of the piece of u -/
theorem stood {ps : List Kn} {t u : Rat} (h : KOk ps) (hl : Late ps t) (hu : t ≤ u) {k : Kn} (hk : ps[pc ps u]? = some k) : ∃ x, x ≤ u ∧ k.1 ≤ x ∧ (wfold (0, posQ ps t) (seg ps t u)).2 = k.2 + paceQ ps u * (x - k.1) := by
  have hm := pc_mono h hl hu
  obtain ⟨j, hj, hjt, _⟩ := pc_lt h hl
  by_cases e : pc ps t = pc ps u
  · refine ⟨t, hu, ?_, ?_⟩
    · rw [e, hk] at hj
      cases hj
      exact hjt
    · unfold seg
      rw [e, Nat.sub_self, List.take_zero]
      show posQ ps t = _
      rw [posQ_at (p := k) (by rw [e]; exact hk)]
      have : paceQ ps t = paceQ ps u := by unfold paceQ; rw [e]
      rw [this]
  · have hku : k.1 ≤ u := (time_le h (fun p hp => Rat.le_trans (hl p hp) hu) hk).mpr (Nat.le_refl _)
    refine ⟨k.1, hku, Rat.le_refl, ?_⟩
    have e2 : seg ps t u = (ps.drop (pc ps t + 1)).take (pc ps u - pc ps t - 1) ++ [k] := by
      unfold seg
      have hn : (ps.drop (pc ps t + 1))[pc ps u - pc ps t - 1]? = some k := by
        rw [List.getElem?_drop, show pc ps t + 1 + (pc ps u - pc ps t - 1) = pc ps u by omega]
        exact hk
      rw [← take_succ_get hn, show pc ps u - pc ps t - 1 + 1 = pc ps u - pc ps t by omega]
    rw [e2, wfold_snoc]
    show k.2 = _
    grind
theorem walk_add {ps : List Kn} {t u v : Rat} (h : KOk ps) (hl : Late ps t) (hu : t ≤ u) (hv : u ≤ v) : walkQ ps t v = walkQ ps t u + walkQ ps u v := by
  have hlu : Late ps u := fun p hp => Rat.le_trans (hl p hp) hu
  have hlv : Late ps v := fun p hp => Rat.le_trans (hlu p hp) hv
  obtain ⟨k, hk, hku, hkn⟩ := pc_lt h hlu
  obtain ⟨x, hx, hkx, est⟩ := stood h hl hu hk
  have eu := posQ_at hk
  unfold walkQ
  rw [seg_app h hl hu hv, wfold_app]
  generalize hw : wfold (0, posQ ps t) (seg ps t u) = w at *
  obtain ⟨T, hh⟩ := w
  dsimp only at est ⊢
  by_cases e : pc ps u = pc ps v
  · have es : seg ps u v = [] := by
      unfold seg
      rw [e, Nat.sub_self, List.take_zero]
    rw [es]
    show T + absQ (posQ ps v - hh) = T + absQ (posQ ps u - hh) + (0 + absQ (posQ ps v - posQ ps u))
    have ev : posQ ps v = k.2 + paceQ ps u * (v - k.1) := by
      rw [posQ_at (p := k) (by rw [← e]; exact hk)]
      have : paceQ ps v = paceQ ps u := by unfold paceQ; rw [e]
      rw [this]
    have := line_abs (s := paceQ ps u) hx hv
    rw [ev, eu, est]
    rw [show k.2 + paceQ ps u * (v - k.1) - (k.2 + paceQ ps u * (x - k.1)) = paceQ ps u * v - paceQ ps u * x by grind, show k.2 + paceQ ps u * (u - k.1) - (k.2 + paceQ ps u * (x - k.1)) = paceQ ps u * u - paceQ ps u * x by grind,
      show k.2 + paceQ ps u * (v - k.1) - (k.2 + paceQ ps u * (u - k.1)) = paceQ ps u * v - paceQ ps u * u by grind, this]
    grind
  · have hm := pc_mono h hlu hv
    obtain ⟨q, hq⟩ := get_of_lt (l := ps) (i := pc ps u + 1) (by
      obtain ⟨z, hz, _⟩ := pc_lt h hlv
      have := (List.getElem?_eq_some_iff.mp hz).1
      omega)
    have huq := hkn q hq
    have es : seg ps u v = q :: (ps.drop (pc ps u + 1 + 1)).take (pc ps v - pc ps u - 1) := by
      unfold seg
      have : ps.drop (pc ps u + 1) = q :: ps.drop (pc ps u + 1 + 1) := by
        have hlt := (List.getElem?_eq_some_iff.mp hq).1
        rw [List.drop_eq_getElem_cons hlt]
        congr 1
        exact (List.getElem?_eq_some_iff.mp hq).2
      rw [this, show pc ps v - pc ps u = (pc ps v - pc ps u - 1) + 1 by omega, List.take_succ_cons, Nat.add_sub_cancel]
    rw [es]
    generalize (ps.drop (pc ps u + 1 + 1)).take (pc ps v - pc ps u - 1) = r
    have eq : q.2 = k.2 + paceQ ps u * (q.1 - k.1) := by
      rw [paceQ_at hk hq]
      have hne := lt_ne (asc_lt h.asc hk hq)
      unfold slope
      rw [Rat.div_mul_cancel hne]
      grind
    have key : absQ (q.2 - hh) = absQ (q.2 - posQ ps u) + absQ (posQ ps u - hh) := by
      have := line_abs (s := paceQ ps u) hx (Rat.le_of_lt huq)
      rw [eq, eu, est]
      rw [show k.2 + paceQ ps u * (q.1 - k.1) - (k.2 + paceQ ps u * (x - k.1)) = paceQ ps u * q.1 - paceQ ps u * x by grind, show k.2 + paceQ ps u * (u - k.1) - (k.2 + paceQ ps u * (x - k.1)) = paceQ ps u * u - paceQ ps u * x by grind,
        show k.2 + paceQ ps u * (q.1 - k.1) - (k.2 + paceQ ps u * (u - k.1)) = paceQ ps u * q.1 - paceQ ps u * u by grind, this]
    have e1 : wfold (T, hh) (q :: r) = wfold (0 + absQ (q.2 - posQ ps u) + (T + absQ (posQ ps u - hh)), q.2) r := by
      show wfold (T + absQ (q.2 - hh), q.2) r = _
      rw [key]
      congr 2
      grind
    have e2 : wfold (0, posQ ps u) (q :: r) = wfold (0 + absQ (q.2 - posQ ps u), q.2) r := rfl
    rw [e1, e2, wfold_tot]
    dsimp only
    grind
/-! one direction only -/
def rises : List Rat → Prop
  | a :: b :: r => a ≤ b ∧ rises (b :: r)
  | _ => True
theorem wfold_rise : ∀ (l : List Kn) (tot here : Rat) (z : Kn), rises (here :: l.map (·.2)) → (z :: l).getLast? = some z ∨ True → (wfold (tot, here) l).1 = tot + ((wfold (tot, here) l).2 - here)
  | [], tot, here, z, _, _ => by show tot = tot + (here - here); grind
  | p :: r, tot, here, z, h, _ => by
    have ih := wfold_rise r (tot + absQ (p.2 - here)) p.2 z h.2 (.inr trivial)
    have hle : here ≤ p.2 := h.1
    rw [absQ_of_nonneg (show 0 ≤ p.2 - here by grind)] at ih
    show (wfold (tot + absQ (p.2 - here), p.2) r).1 = _ + ((wfold (tot + absQ (p.2 - here), p.2) r).2 - here)
    rw [absQ_of_nonneg (show 0 ≤ p.2 - here by grind), ih]
    grind
theorem wfold_end : ∀ (l : List Kn) (a : Rat × Rat) (p : Kn), l[l.length - 1]? = some p → (wfold a l).2 = p.2
  | [], a, p, h => by simp at h
  | [x], a, p, h => by
    simp at h
    rw [← h]
    rfl
  | x :: y :: r, a, p, h => wfold_end (y :: r) (wstep a x) p (by simpa using h)
theorem walk_rise {ps : List Kn} {p q : Kn} (h : KOk ps) (hp : ps[0]? = some p) (hq : ps[ps.length - 1]? = some q) (hr : rises (ps.map (·.2))) : walkQ ps p.1 q.1 = q.2 - p.2 := by
  have ep := posQ_knot h hp
  have eq := posQ_knot h hq
  have p0 : pc ps p.1 = 0 := pc_first h hp
  have q0 : pc ps q.1 = ps.length - 1 := pc_of h.asc ⟨q, hq, Rat.le_refl, fun z hz => by
    have := (List.getElem?_eq_some_iff.mp hz).1
    omega⟩
  obtain ⟨a, l, rfl⟩ : ∃ a l, ps = a :: l := by
    cases ps with
    | nil => simp at hp
    | cons a l => exact ⟨a, l, rfl⟩
  have ea : a = p := by simpa using hp
  subst ea
  have es : seg (a :: l) a.1 q.1 = l := by
    unfold seg
    rw [p0, q0]
    simp
  unfold walkQ
  rw [es, ep, eq]
  have hr' : rises (a.2 :: l.map (·.2)) := hr
  have e1 := wfold_rise l 0 a.2 a hr' (.inr trivial)
  rw [e1]
  cases l with
  | nil =>
    have : q = a := by simpa using hq.symm
    rw [this]
    show (0 : Rat) + (a.2 - a.2) + absQ (a.2 - a.2) = _
    rw [Rat.sub_self, absQ_of_nonneg Rat.le_refl]
    grind
  | cons b r =>
    have e2 := wfold_end (b :: r) (0, a.2) q (by simpa using hq)
    rw [e2, Rat.sub_self, absQ_of_nonneg Rat.le_refl]
    grind

/-- a number put in its place -/
def putQ (x : Rat) (qs : List Rat) : List Rat := qs.filter (fun q => decide (q < x)) ++ [x] ++ qs.filter fun q => !decide (q < x)
theorem putQ_mem {x q : Rat} {qs : List Rat} (h : q ∈ putQ x qs) : q = x ∨ q ∈ qs := by
  unfold putQ at h
  simp only [List.mem_append, List.mem_filter, List.mem_singleton] at h
  rcases h with (h | h) | h
  · exact .inr h.1
  · exact .inl h
  · exact .inr h.1
theorem putQ_len (x : Rat) : ∀ qs : List Rat, (putQ x qs).length = qs.length + 1
  | [] => rfl
  | q :: r => by
    have ih := putQ_len x r
    unfold putQ at ih ⊢
    simp only [List.length_append, List.length_cons, List.length_nil, List.filter_cons] at ih ⊢
    by_cases c : q < x
    · rw [decide_eq_true c]
      simp
      omega
    · rw [decide_eq_false c]
      simp
      omega
theorem rises_pw {l : List Rat} (h : l.Pairwise (· ≤ ·)) : rises l := by
  induction l with
  | nil => trivial
  | cons a l ih => cases l with
    | nil => trivial
    | cons b r =>
      have h' := List.pairwise_cons.mp h
      exact ⟨h'.1 b (List.mem_cons_self ..), ih h'.2⟩
theorem putQ_pw {x : Rat} {qs : List Rat} (h : qs.Pairwise (· ≤ ·)) : (putQ x qs).Pairwise (· ≤ ·) := by
  unfold putQ
  rw [List.pairwise_append, List.pairwise_append]
  refine ⟨⟨h.filter _, List.pairwise_singleton _ _, fun a ha b hb => ?_⟩, h.filter _, fun a ha b hb => ?_⟩
  · have h1 := of_decide_eq_true (List.mem_filter.mp ha).2
    rw [List.mem_singleton.mp hb]
    exact Rat.le_of_lt h1
  · have h2 := (List.mem_filter.mp hb).2
    rw [Bool.not_eq_true', decide_eq_false_iff_not] at h2
    rcases List.mem_append.mp ha with z | z
    · have h1 := of_decide_eq_true (List.mem_filter.mp z).2
      grind
    · rw [List.mem_singleton.mp z]
      grind
end Pw

namespace Pw
open PySem PySem.Spec PyProof.Rows L2
/-! ### defs that raise -/
abbrev RSp := List D → Prop
/-- an error of the class at CE for sure; nothing else is changed -/
def liftR (K : PySem.W.Frag) (T : List (Addr × Str)) (CE : Addr) (S : RSp) : Sp := fun vs H _ E => ∃ (Xs : List Addr) (ds : List D), Xs.Nodup ∧ (∀ a ∈ Xs, Mut (H a)) ∧ LamX.Tabs T H ∧ IsL K Xs H ds vs ∧ S ds ∧ ∀ H', ExtT T H H' → E (.ref CE) none H'
def tRaise (E : XK) (CE : Addr) : TS := fun _ _ H => E (.ref CE) none H
section
variable {P : Program} {w : World} {K : PySem.W.Frag} {mg : Str → Option Value} {base : Heap}
theorem okR {x qual : Str} {st : Stmt} {f CE : Addr} {fd : FuncData} {N ps : List Str} {k : Nat} {T : List (Addr × Str)} {S : RSp} (F : Fun K x qual st f fd) (Sc : FnScope N ps (defScope st)) (len : ∀ ds, S ds → ds.length = ps.length) (hN : ps.length ≤ N.length)
    (hbody : ∀ (cdv : Value) (A : Around) (outer : List Env) (s : Shared) (H : Hp) (E : XK), Room k (A.deeper (envOfC qual (defScope st) s.heap.objs.size f cdv)) →
      ∃ t, PSs (cxOf (L2.CX P w) P w K mg base N qual (defScope st) f cdv A outer s H E) (defBody st) t ∧
        ∀ (H0 : Hp) (Xs : List Addr) (ds : List D), (∀ H', Same H0 H' → LamX.Tabs T H' → E (.ref CE) none H') → S ds → LS ⟨K, H0, [], Xs, [], T⟩ t (startD N (ds.map some)) { oth := Xs } (fun _ _ => False) (fun _ _ => False) (fun _ _ => False) (fun _ _ => False)) :
    FnOk P w K mg base (L2.CX P w) (k + 1) f fd ps (liftR K T CE S) := by
  refine F.okX Sc (fun vs H Q E h => ?_) fun cdv A outer s H vs Q E hr h => ?_
  · obtain ⟨Xs, ds, _, _, _, h1, h2, _⟩ := h
    rw [h1.length, len ds h2]
  · obtain ⟨Xs, ds, hnd, hmu, hT, hds, hS, q⟩ := h
    obtain ⟨t, ht, hL⟩ := hbody cdv A outer s H E hr
    have hl : ds.length = ps.length := len ds hS
    refine ⟨t, ht, hL (noTb H) Xs ds (fun H' hs ht => q H' ⟨fun a u e n => hs a u (noTb_of e n), ht⟩) hS _ (L2.start N vs) H ⟨⟨?_, ?_, ?_, ?_⟩, fun _ _ _ h => (noTb_get h).1, ?_, ?_, (fun e he => by cases he), (fun e he => by cases he), ⟨hT, noTb_n⟩, ?_, ?_⟩ ⟨?_, ?_, ?_, ?_⟩⟩
    · exact hmu
    · exact hnd
    · intro e he; cases he
    · intro e he; cases he
    · intro a ha; exact ha
    · intro e he; cases he
    · rw [start_len (by rw [hds.length]; omega), startD_len (by rw [List.length_map]; omega)]
    · exact start_sl hds
    · intro σ' H' ρ' s' o k; exact k.elim
    · intro v σ' H' ρ' d s' o i k; exact k.elim
    · intro σ' H' ρ' s' o k; exact k
    · intro σ' H' ρ' s' o k; exact k
end
section
variable {W : Wd} {ρ : En} {s : Rs} {N : En → Rs → Prop} {R : D → Rs → Prop} {B C : En → Rs → Prop} {E : XK} {CE : Addr} {Φ : D → Rs → Prop} {t : TA} {ta : TE} {S : RSp} {Cl : Addr} {m : Str}
theorem LS.raise (hX : W.X0 = []) (hE : ∀ H', Same W.H0 H' → LamX.Tabs W.tb H' → E (.ref CE) none H') : LS W (tRaise E CE) ρ s N R B C := fun Dn σ H o f => hE H (fun a u e => o.fr a u (by rw [hX]; simp) e) o.tbs.t
theorem LE.callR (hX : W.X0 = []) (hE : ∀ H', Same W.H0 H' → LamX.Tabs W.tb H' → E (.ref CE) none H') (h : LA W t ρ s fun ds _ => S ds) : LE W (tCall (liftR W.K W.tb CE S) [] E t) ρ s Φ := fun σ H o Q q => by
  refine h σ H o _ fun vs H1 ds s1 o1 p1 i1 k => ?_
  rw [List.append_nil]
  exact ⟨adrs s1, ds, o1.rk.nd, o1.rk.mu, o1.tbs.t, i1, k, fun H' e => hE H' (fun a u q => e.e _ _ (o1.fr a u (by rw [hX]; simp) q) (o1.nt q)) e.t⟩
/-- an expression that raises an error of the class at CE for sure -/
def LER (W : Wd) (te : XK → TE) (CE : Addr) (ρ : En) (s : Rs) : Prop :=
  ∀ (σ : L2.St) (H : Hp), Ok W σ H ρ s → ∀ (E : XK) (Q : VK), (∀ H', Ok W σ H' ρ s → Pres W.K s H s H' → E (.ref CE) none H') → te E σ H Q
theorem LER.methS {sp : Sp} (hs : ∀ vs H Q E, liftR W.K W.tb CE S vs H Q E → sp vs H Q E) (h : LE W ta ρ s fun x s1 => ∃ fs, x = .ins Cl fs ∧ fs.lookup m = none ∧ LA W t ρ s1 fun ds s2 => s2 = s ∧ S (.ins Cl fs :: ds)) : LER W (fun E => tMeth Cl m sp [] E ta t) CE ρ s := fun σ H o E Q q => by
  refine h σ H o _ fun v H1 x s1 o1 p1 i1 k => ?_
  obtain ⟨fs, rfl, hl, k⟩ := k
  obtain ⟨a, dx, vs, rfl, h0, h1, h2⟩ := id i1
  refine ⟨a, dx, vs, rfl, h1, h2.none hl, k σ H1 o1 _ fun ws H2 ds s2 o2 p2 i2 k2 => ?_⟩
  rw [List.append_nil]
  obtain ⟨rfl, k2⟩ := k2
  exact hs _ _ _ _ ⟨adrs s2, .ins Cl fs :: ds, o2.rk.nd, o2.rk.mu, o2.tbs.t, ⟨.ref a, ws, rfl, p2.is i1, i2⟩, k2, fun H' e => q H' (o2.ext e) ((p1.trans p2).trans (o2.presT e))⟩
theorem LER.meth (h : LE W ta ρ s fun x s1 => ∃ fs, x = .ins Cl fs ∧ fs.lookup m = none ∧ LA W t ρ s1 fun ds s2 => s2 = s ∧ S (.ins Cl fs :: ds)) : LER W (fun E => tMeth Cl m (liftR W.K W.tb CE S) [] E ta t) CE ρ s := LER.methS (fun _ _ _ _ h => h) h
theorem LER.callS {sp : Sp} (hs : ∀ vs H Q E, liftR W.K W.tb CE S vs H Q E → sp vs H Q E) (h : LA W t ρ s fun ds s2 => s2 = s ∧ S ds) : LER W (fun E => tCall sp [] E t) CE ρ s := fun σ H o E Q q => by
  refine h σ H o _ fun ws H2 ds s2 o2 p2 i2 k2 => ?_
  rw [List.append_nil]
  obtain ⟨rfl, k2⟩ := k2
  exact hs _ _ _ _ ⟨adrs s2, ds, o2.rk.nd, o2.rk.mu, o2.tbs.t, i2, k2, fun H' e => q H' (o2.ext e) (p2.trans (o2.presT e))⟩
theorem LER.call (h : LA W t ρ s fun ds s2 => s2 = s ∧ S ds) : LER W (fun E => tCall (liftR W.K W.tb CE S) [] E t) CE ρ s := LER.callS (fun _ _ _ _ h => h) h
/-- an expression that raises an error, or gives a value -/
def LX (W : Wd) (te : XK → TE) (ρ : En) (s : Rs) (Ψ : Option Addr → Prop) : Prop :=
  ∀ (σ : L2.St) (H : Hp), Ok W σ H ρ s → ∀ (E : XK) (Q : VK), (∀ C H', Ok W σ H' ρ s → Pres W.K s H s H' → Ψ (some C) → E (.ref C) none H') → (∀ v H', Ok W σ H' ρ s → Pres W.K s H s H' → Ψ none → Q v H') → te E σ H Q
theorem LX.bad {te : XK → TE} {Ψ : Option Addr → Prop} (CE : Addr) (h : LER W te CE ρ s) (k : Ψ (some CE)) : LX W te ρ s Ψ := fun σ H o E Q q1 q2 => h σ H o E Q fun H' o' p => q1 CE H' o' p k
theorem LX.good {te : XK → TE} {Ψ : Option Addr → Prop} (h : ∀ E, LE W (te E) ρ s fun _ s' => s' = s ∧ Ψ none) : LX W te ρ s Ψ := fun σ H o E Q q1 q2 => h E σ H o Q fun v H' d s' o' p i k => by
  obtain ⟨rfl, k⟩ := k
  exact q2 v H' o' p k
end
theorem pss_dead {X : Cx} {st : List Stmt} : PSs X st tDead := ⟨fun _ _ _ _ _ _ h => h.elim⟩
theorem passR {X : Cx} {E : XK} (hs : X.stack = X.env :: X.outer) (hf : X.env.frame = some X.env.locals) (hex : X.ex = []) {E₁ : Value → Shared → Prop}
    (hx : X.xe = fun e s' => wpAny (model X.prog X.w) X.A (leaving X.env e) (fun _ s'' => L2.CX X.prog X.w X.outer X.H_0 X.s_0 E e s'') E₁ s') : Passes (L2.CX X.prog X.w) X E :=
  passes_call (takes_of hs hf hex hx) fun _ _ _ _ h => h
/-! ### x(lambda: ..), x a def that says whether an error of the class at CS was raised -/
def TTe (K : PySem.W.Frag) (CS : Addr) : (XK → Hp → VK → Prop) → Hp → VK → Prop := fun tl H Q =>
  ∀ Q' : VK, tl (fun cls _ H' => ∃ b, PySem.W.exmOne K cls (.ref CS) = some b ∧ (b = true → Q (.bl true) H') ∧ (b = false → False)) H Q'
/-- .. x a def that tells by a word which error was raised, by None that none was -/
def TTw (T : List (Addr × Str)) (A : Addr → Prop) (R : Addr → Str) : (XK → Hp → VK → Prop) → Hp → VK → Prop := fun tl H Q =>
  ∀ (Ech : XK) (Qch : VK), (∀ cls d H', (∃ C, cls = .ref C ∧ d = none ∧ A C ∧ LamX.Tabs T H' ∧ ∀ H'', ExtT T H' H'' → Q (.str (R C)) H'') → Ech cls d H') → (∀ v H', LamX.Tabs T H' → (∀ H'', ExtT T H' H'' → Q .non H'') → Qch v H') → tl Ech H Qch
section
variable {W : Wd} {ρ : En} {s : Rs} {Φ : D → Rs → Prop} {CE CS : Addr} {te : XK → TE}
theorem LE.lamE (hx : PySem.W.exmOne W.K (.ref CE) (.ref CS) = some true) (h : LER W te CE ρ s) (k : Φ (.bl true) s) : LE W (LamX.tLam W.tb (TTe W.K CS) te) ρ s Φ := fun σ H o Q q => by
  refine ⟨o.tbs.t, fun H1 g T1 Q' => ?_⟩
  have e1 : ExtT W.tb H H1 := ⟨g, T1⟩
  exact h σ H1 (o.ext e1) _ Q' fun H' o' p' => ⟨true, hx, fun _ => q (.bl true) H' (.bl true) s o' ((o.presT e1).trans p') rfl k, fun z => Bool.noConfusion z⟩
theorem LE.lamW {A : Addr → Prop} {R : Addr → Str} (h : LX W te ρ s fun c => match c with | some C => A C ∧ Φ (.str (R C)) s | none => Φ .non s) : LE W (LamX.tLam W.tb (TTw W.tb A R) te) ρ s Φ := fun σ H o Q q => by
  refine ⟨o.tbs.t, fun H1 g T1 => ?_⟩
  have e1 : ExtT W.tb H H1 := ⟨g, T1⟩
  have o1 := o.ext e1
  intro Ech Qch hE hQ
  refine h σ H1 o1 _ _ (fun C H' o' p' k => hE _ _ _ ⟨C, rfl, rfl, k.1, o'.tbs.t, fun H'' sm => ?_⟩) fun v H' o' p' k => hQ v H' o'.tbs.t fun H'' sm => ?_
  · exact q _ H'' (.str (R C)) s (o'.ext sm) ((o.presT e1).trans (p'.trans (o'.presT sm))) rfl k.2
  · exact q _ H'' .non s (o'.ext sm) ((o.presT e1).trans (p'.trans (o'.presT sm))) rfl k
end
abbrev lamQ (q : Str) : Str := q ++ ".<locals>." ++ "<lambda>"
theorem takes_len {X : Cx} {W : WX} (tk : Takes X W) : Takes X fun cls d σ H => σ.length = X.N.length → W cls d σ H := fun u s' x => by
  obtain ⟨a, B, sI, pins, σ, H, cls, d, e, I, nb, up, sky, na, os, ag, w⟩ := x
  exact tk u s' ⟨a, B, sI, pins, σ, H, cls, d, e, I, nb, up, sky, na, os, ag, w I.len⟩
/-! ### defs that hold lambdas: their code object is known -/
def FunC (K : PySem.W.Frag) (x qual : Str) (st : Stmt) (f : Addr) (fd : FuncData) (c : Addr) : Prop :=
  ∃ (oc kV doc pm ct : Value) (an od : Option Addr) (osl : Array (Option Value)), fd = PySem.W.fnOf x qual (defArgs st) (defBody st) (defScope st) .none kV doc pm an (.ref c) ct ∧ K.lookup f = some ⟨oc, od, .func fd, osl⟩ ∧ PySem.W.codeIn K (.ref c) qual = true
section
variable {P : Program} {w : World} {K : PySem.W.Frag} {mg : Str → Option Value} {base : Heap}
theorem okPL {x qual : Str} {st : Stmt} {f c0 : Addr} {fd : FuncData} {N ps : List Str} {k : Nat} {T : List (Addr × Str)} {S : PSp} (F : FunC K x qual st f fd c0) (Sc : FnScope N ps (defScope st)) (len : ∀ ds Φ, S ds Φ → ds.length = ps.length) (hN : ps.length ≤ N.length)
    (hbody : ∀ (A : Around) (outer : List Env) (s : Shared) (H : Hp) (E : XK), Room k (A.deeper (envOfC qual (defScope st) s.heap.objs.size f (.ref c0))) →
      ∃ t, PSs (cxOf CX0 P w K mg base N qual (defScope st) f (.ref c0) A outer s H E).nox (defBody st) t ∧
        ∀ (H0 : Hp) (Xs : List Addr) (ds : List D) (Φ : D → Prop), S ds Φ → LS ⟨K, H0, [], Xs, [], T⟩ t (startD N (ds.map some)) { oth := Xs } (fun _ _ => Φ .non) (fun d _ => Φ d) (fun _ _ => False) (fun _ _ => False)) :
    FnOk P w K mg base CX0 (k + 1) f fd ps (liftP K T S) := by
  obtain ⟨oc, kV, doc, pm, ct, an, od, osl, rfl, lk, hcd⟩ := F
  refine fn_of lk hcd Sc (fun vs H Q E h => ?_) fun A outer s H vs Q E hr h => ?_
  · obtain ⟨Xs, ds, Φ, _, _, _, h1, h2, _⟩ := h
    rw [h1.length, len ds Φ h2]
  · obtain ⟨Xs, ds, Φ, hnd, hmu, hT, hds, hS, q⟩ := h
    obtain ⟨t, ht, hL⟩ := hbody A outer s H E hr
    have hl : ds.length = ps.length := len ds Φ hS
    refine ⟨t, ht.nox, hL (noTb H) Xs ds Φ hS _ (L2.start N vs) H ⟨⟨?_, ?_, ?_, ?_⟩, fun _ _ _ h => (noTb_get h).1, ?_, ?_, (fun e he => by cases he), (fun e he => by cases he), ⟨hT, noTb_n⟩, ?_, ?_⟩ ⟨?_, ?_, ?_, ?_⟩⟩
    · exact hmu
    · exact hnd
    · intro e he; cases he
    · intro e he; cases he
    · intro a ha; exact ha
    · intro e he; cases he
    · rw [start_len (by rw [hds.length]; omega), startD_len (by rw [List.length_map]; omega)]
    · exact start_sl hds
    · intro σ' H' ρ' s' o k
      exact q .non .non H' k ⟨fun a u e n => o.fr a u (by simp) (noTb_of e n), o.tbs.t⟩ rfl
    · intro v σ' H' ρ' d s' o i k
      exact q d v H' k ⟨fun a u e n => o.fr a u (by simp) (noTb_of e n), o.tbs.t⟩ (Is.anti (fun a h1 _ h2 => h1 (o.sub a h2)) d v i)
    · intro σ' H' ρ' s' o k; exact k
    · intro σ' H' ρ' s' o k; exact k
theorem okEL {x qual : Str} {st : Stmt} {f c0 : Addr} {fd : FuncData} {N ps : List Str} {k : Nat} {T : List (Addr × Str)} {S : ESp} (F : FunC K x qual st f fd c0) (Sc : FnScope N ps (defScope st)) (len : ∀ ds n Φ, S ds n Φ → ds.length + 1 = ps.length) (hN : ps.length ≤ N.length)
    (hbody : ∀ (A : Around) (outer : List Env) (s : Shared) (H : Hp) (E : XK), Room k (A.deeper (envOfC qual (defScope st) s.heap.objs.size f (.ref c0))) →
      ∃ t, PSs (cxOf CX0 P w K mg base N qual (defScope st) f (.ref c0) A outer s H E).nox (defBody st) t ∧
        ∀ (H0 : Hp) (Xs : List Addr) (a b c : Addr) (n : Nat) (ds : List D) (Φ : D → Nat → Prop), S ds n Φ → LS ⟨K, H0, [a, b], [a, b, c] ++ Xs, [], T⟩ t (startD N (some (.adr a) :: ds.map some)) { drw := [(a, b, c, n)], oth := Xs }
          (fun _ s' => ∃ n', s'.drw = [(a, b, c, n')] ∧ Φ .non n') (fun d s' => ∃ n', s'.drw = [(a, b, c, n')] ∧ Φ d n') (fun _ _ => False) (fun _ _ => False)) :
    FnOk P w K mg base CX0 (k + 1) f fd ps (liftE K T S) := by
  obtain ⟨oc, kV, doc, pm, ct, an, od, osl, rfl, lk, hcd⟩ := F
  refine fn_of lk hcd Sc (fun vs H Q E h => ?_) fun A outer s H vs Q E hr h => ?_
  · obtain ⟨Xs, a, b, c, n, ds, vs', Φ, rfl, _, _, _, _, h1, h2, _⟩ := h
    rw [List.length_cons, h1.length, len ds n Φ h2]
  · obtain ⟨Xs, a, b, c, n, ds, vs', Φ, rfl, hnd, hmu, hT, hdr, hds, hS, q⟩ := h
    obtain ⟨t, ht, hL⟩ := hbody A outer s H E hr
    have hl : ds.length + 1 = ps.length := len ds n Φ hS
    have hds' : IsL K ([a, b, c] ++ Xs) H (.adr a :: ds) (.ref a :: vs') := ⟨.ref a, vs', rfl, rfl, hds⟩
    refine ⟨t, ht.nox, hL (noTb H) Xs a b c n ds Φ hS _ (L2.start N (.ref a :: vs')) H ⟨⟨?_, ?_, ?_, ?_⟩, fun z o _ h => (noTb_get h).1, ?_, ?_, (fun e he => by cases he), (fun e he => by cases he), ⟨hT, noTb_n⟩, ?_, ?_⟩ ⟨?_, ?_, ?_, ?_⟩⟩
    · exact hmu
    · exact hnd
    · intro e he
      have : e = (a, b, c, n) := by simpa using he
      rw [this]
      exact hdr
    · intro e he; cases he
    · intro z hz; exact hz
    · intro e he z hz
      have : e = (a, b, c, n) := by simpa using he
      rw [this] at hz
      exact .inl hz
    · rw [start_len (by rw [hds'.length, List.length_cons]; omega), startD_len (by rw [List.length_cons, List.length_map]; omega)]
    · exact start_sl hds'
    · intro σ' H' ρ' s' o k
      obtain ⟨n', e, k⟩ := k
      exact q .non n' .non H' k (fun z u h nt e => o.fr z u h (noTb_of e nt)) o.tbs.t (o.rk.dr _ (by rw [e]; simp)) rfl
    · intro v σ' H' ρ' d s' o i k
      obtain ⟨n', e, k⟩ := k
      exact q d n' v H' k (fun z u h nt e => o.fr z u h (noTb_of e nt)) o.tbs.t (o.rk.dr _ (by rw [e]; simp)) (Is.anti (fun a h1 _ h2 => h1 (o.sub a h2)) d v i)
    · intro σ' H' ρ' s' o k; exact k
    · intro σ' H' ρ' s' o k; exact k
end
/-- a def that keeps the one promise, or the other by an error -/
theorem FnOk_or {P : Program} {w : World} {K : PySem.W.Frag} {mg : Str → Option Value} {base : Heap} {CX : CXT} {k : Nat} {f : Addr} {fd : FuncData} {ps : List Str} {sp1 sp2 : Sp} (F1 : FnOk P w K mg base CX0 k f fd ps sp1) (F2 : FnOk P w K mg base CX k f fd ps sp2) :
    FnOk P w K mg base CX k f fd ps (fun vs H Q E => sp1 vs H Q E ∨ sp2 vs H Q E) := by
  refine ⟨fun vs H Q E h => h.elim (F1.len vs H Q E) (F2.len vs H Q E), fun A outer s H args us vs Q E hr e0 hb r h => ?_⟩
  rcases h with h | h
  · refine codeAny_mono (F1.run A outer s H args us vs Q E hr e0 hb r h) fun x s' hq => ?_
    cases x with
    | ok f => cases f <;> exact hq
    | error e => exact (show False from hq).elim
  · exact F2.run A outer s H args us vs Q E hr e0 hb r h
/-- C(..), __init__ raises for sure -/
theorem LER.make {W : Wd} {ρ : En} {s : Rs} {t : TA} {Cl CE : Addr} {S : RSp} (h : LA W t ρ s fun ds s2 => s2 = s ∧ S (.ins Cl [] :: ds)) : LER W (fun E => tMake Cl (liftR W.K W.tb CE S) [] E t) CE ρ s := fun σ H o E Q q => by
  refine h σ H o _ fun vs H1 ds s1 o1 p1 i1 k x dx hx hdx hne => ?_
  obtain ⟨rfl, k⟩ := k
  rw [List.append_nil]
  have sm : Same H1 (upd (upd H1 dx (.own x)) x (.ins Cl dx [])) := fun a u e => by
    rw [upd_ne (ne_of_none e hx), upd_ne (ne_of_none e hdx)]; exact e
  have hf := o1.rk.fresh hx
  exact ⟨adrs s1, .ins Cl [] :: ds, o1.rk.nd, fun a ha => Mut.same (o1.rk.mu a ha) sm, o1.tbs.t.ext sm, ⟨.ref x, vs, rfl, ⟨x, dx, [], rfl, hf, upd_same, rfl⟩, IsL.goes (o1.rk.goes sm) _ _ i1⟩, k, fun H' e =>
    have e1 : ExtT W.tb H1 H' := (ExtT.same o1.tbs.t sm).trans e
    q H' (o1.ext e1) (p1.trans (o1.presT e1))⟩
/-! ### the defs' own error promises at calls with several promises -/
section
variable {W : Wd} {ρ : En} {s : Rs} {Φ : D → Rs → Prop} {t ta : TA} {te : TE} {E : XK} {C : Addr} {m : Str} {sp : Sp}
theorem LE.callS {S : PSp} (hs : ∀ vs H Q E, liftP W.K W.tb S vs H Q E → sp vs H Q E) (h : LA W t ρ s fun ds s1 => S ds fun d => Φ d s1) : LE W (tCall sp [] E t) ρ s Φ := fun σ H o Q q => by
  refine h σ H o _ fun vs H1 ds s1 o1 p1 i1 k => ?_
  rw [List.append_nil]
  refine hs _ _ _ _ ⟨adrs s1, ds, fun d => Φ d s1, o1.rk.nd, o1.rk.mu, o1.tbs.t, i1, k, fun d v H' f e i => ?_⟩
  exact q v H' d s1 (o1.ext e) (p1.trans (o1.presT e)) i f
end
end Pw

namespace Pw
open PySem L2
/-! ### values of any kind as knots -/
def isIntD : D → Bool | .int _ => true | _ => false
def isFr : D → Bool | .tup [.int n, .int d] => decide (1 ≤ d) && decide (Int.gcd n d = 1) | _ => false
/-- values whose types are known -/
def Okd : D → Bool | .tup ds => ds.all fun d => tyName d != "?" | d => tyName d != "?"
/-- the ints of a pair are not too large -/
def Sm : D → Prop | .tup [.int n, .int d] => d.natAbs < 2 ^ 8000 | _ => True
theorem isFr_fr (q : Rat) : isFr (fr q) = true := by
  show (decide (1 ≤ (q.den : Int)) && decide (Int.gcd q.num q.den = 1)) = true
  rw [Bool.and_eq_true]
  exact ⟨decide_eq_true (den_pos' q), decide_eq_true (by
    have := q.reduced
    rw [Int.gcd, Int.natAbs_natCast]
    exact this)⟩
theorem isFr_of {d : D} (h : isFr d = true) : ∃ q, d = fr q := by
  unfold isFr at h
  split at h
  · rename_i n m
    rw [Bool.and_eq_true, decide_eq_true_eq, decide_eq_true_eq] at h
    obtain ⟨e1, e2⟩ := divInt_self' (by omega) h.2
    exact ⟨Rat.divInt n m, by show D.tup [.int n, .int m] = .tup [.int (Rat.divInt n m).num, .int (Rat.divInt n m).den]; rw [e1, e2]⟩
  · cases h
def isKn : D → Bool | .tup [a, b] => isFr a && isFr b | _ => false
def OkK : D → Bool | .tup [a, b] => Okd a && Okd b | d => tyName d != "?"
theorem isKn_of {d : D} (h : isKn d = true) : ∃ p : Kn, d = kn p := by
  unfold isKn at h
  split at h
  · rw [Bool.and_eq_true] at h
    obtain ⟨a, rfl⟩ := isFr_of h.1
    obtain ⟨b, rfl⟩ := isFr_of h.2
    exact ⟨(a, b), rfl⟩
  · cases h
theorem isKn_kn (p : Kn) : isKn (kn p) = true := by
  show (isFr (fr p.1) && isFr (fr p.2)) = true
  rw [isFr_fr, isFr_fr]; rfl
theorem knL_of : ∀ {ds : List D}, (∀ d ∈ ds, isKn d = true) → ∃ ps, ds = knL ps
  | [], _ => ⟨[], rfl⟩
  | d :: r, h => by
    obtain ⟨p, rfl⟩ := isKn_of (h d (List.mem_cons_self ..))
    obtain ⟨ps, rfl⟩ := knL_of (fun x hx => h x (List.mem_cons_of_mem _ hx))
    exact ⟨p :: ps, rfl⟩
theorem asc_of : ∀ {ps : List Kn}, (∀ i a b, ps[i]? = some a → ps[i + 1]? = some b → a.1 < b.1) → asc ps
  | [], _ => trivial
  | [a], _ => trivial
  | a :: b :: r, h => ⟨h 0 a b (by simp) (by simp), asc_of (ps := b :: r) fun i x y h1 h2 => h (i + 1) x y (by simpa using h1) (by simpa using h2)⟩
/-- the items of a list or a tuple -/
def items : D → Option (List D) | .lst ds => some ds | .tup ds => some ds | _ => none
/-- a value that Timetable takes, but for its length -/
def GoodK (d : D) : Prop := ∃ ps, items d = some (knL ps) ∧ 0 < ps.length ∧ asc ps
/-- what is asked of a value of any kind -/
def OkV (d : D) : Prop := tyName d ≠ "?" ∧ ∀ ds, items d = some ds → ds.length ≤ 900 ∧ (∀ x ∈ ds, OkK x = true) ∧ ∀ p, kn p ∈ ds → Fit 400 p.1 ∧ Fit 400 p.2
/-! lists or tuples -/
def iOr (t1 t2 : TI) : TI := fun σ H R => t1 σ H R ∨ t2 σ H R
theorem pi_or {X : Cx} {tg l : Expr} {t1 t2 : TI} (h1 : PI X tg l t1) (h2 : PI X tg l t2) : PI X tg l (iOr t1 t2) :=
  ⟨fun pins s σ H R I h => h.elim (h1.run pins s σ H R I) (h2.run pins s σ H R I)⟩
section
variable {W : Wd} {ρ : En} {s : Rs} {Φ : List D → Rs → Prop} {t1 t2 : TI}
theorem LI.inl (h : LI W t1 ρ s Φ) : LI W (iOr t1 t2) ρ s Φ := fun σ H o R q => .inl (h σ H o R q)
theorem LI.inr (h : LI W t2 ρ s Φ) : LI W (iOr t1 t2) ρ s Φ := fun σ H o R q => .inr (h σ H o R q)
end
section
variable {W : Wd} {s : Rs} {Ψ : D → Prop} {ds : List D} {i : Int} {d : D}
theorem OpD.ixSL (e : atI ds i = some d) (h : Ψ d) : OpD W (rIx W.K) s (.lst ds) (.int i) Ψ := fun H vx vy r h1 h2 Q q => .inl (OpD.ixL e h H vx vy r h1 h2 Q q)
theorem OpD.ixST (e : atI ds i = some d) (h : Ψ d) : OpD W (rIx W.K) s (.tup ds) (.int i) Ψ := fun H vx vy r h1 h2 Q q => .inr (.inl (OpD.ixT e h H vx vy r h1 h2 Q q))
end
theorem kit_lt {d : D} (h : tyName d ≠ "?") : ∃ x y, kitB (tyName d) "list" = some x ∧ kitB (tyName d) "tuple" = some y ∧ ((x || y) = true ↔ (∃ n, d = .scr n) ∨ (items d).isSome = true) := by
  cases d with
  | non => exact ⟨false, false, by show kitB "NoneType" "list" = _; decide +kernel, by show kitB "NoneType" "tuple" = _; decide +kernel, by simp [items]⟩
  | bl b => exact ⟨false, false, by show kitB "bool" "list" = _; decide +kernel, by show kitB "bool" "tuple" = _; decide +kernel, by simp [items]⟩
  | int i => exact ⟨false, false, by show kitB "int" "list" = _; decide +kernel, by show kitB "int" "tuple" = _; decide +kernel, by simp [items]⟩
  | str x => exact ⟨false, false, by show kitB "str" "list" = _; decide +kernel, by show kitB "str" "tuple" = _; decide +kernel, by simp [items]⟩
  | emp => exact ⟨false, false, by show kitB "dict" "list" = _; decide +kernel, by show kitB "dict" "tuple" = _; decide +kernel, by simp [items]⟩
  | tup ds => exact ⟨false, true, by show kitB "tuple" "list" = _; decide +kernel, by show kitB "tuple" "tuple" = _; decide +kernel, by simp [items]⟩
  | lst ds => exact ⟨true, false, by show kitB "list" "list" = _; decide +kernel, by show kitB "list" "tuple" = _; decide +kernel, by simp [items]⟩
  | scr ns => exact ⟨true, false, by show kitB "list" "list" = _; decide +kernel, by show kitB "list" "tuple" = _; decide +kernel, by simp [items]⟩
  | ins C fs => exact absurd rfl h
  | adr a => exact absurd rfl h
  | ty n => exact absurd rfl h
  | dct kvs => exact ⟨false, false, by show kitB "dict" "list" = _; decide +kernel, by show kitB "dict" "tuple" = _; decide +kernel, by simp [items]⟩
  | dtp kvs => exact ⟨false, false, by show kitB "dict" "list" = _; decide +kernel, by show kitB "dict" "tuple" = _; decide +kernel, by simp [items]⟩
  | exc C => exact absurd rfl h
  | exf C fs => exact absurd rfl h
theorem good_fst {ds : List D} (h : ∀ d ∈ ds, isKn d = true) (h0 : ds ≠ []) (ha : ∀ i p q, ds[i]? = some (kn p) → ds[i + 1]? = some (kn q) → p.1 < q.1) : ∃ ps, ds = knL ps ∧ 0 < ps.length ∧ asc ps := by
  obtain ⟨ps, rfl⟩ := knL_of h
  refine ⟨ps, rfl, ?_, asc_of fun i a b h1 h2 => ha i a b ?_ ?_⟩
  · cases ps with
    | nil => exact absurd rfl h0
    | cons a r => exact Nat.succ_pos _
  · unfold knL; rw [List.getElem?_map, h1]; rfl
  · unfold knL; rw [List.getElem?_map, h2]; rfl
/-! isinstance(x, bool), isinstance(x, int) of any value -/
def isBlD : D → Bool | .bl _ => true | _ => false
section
variable {W : Wd} {s : Rs} {Ψ : D → Prop} {d : D}
theorem CbD.isi_bool (hn : tyName d ≠ "?") (h : Ψ (.bl (isBlD d))) : CbD W (rIsi W.K) s [d, .ty "bool"] Ψ := by
  cases d with
  | non => exact CbD.isi_non false (by decide +kernel) h
  | bl b => exact CbD.isi_bl true (by decide +kernel) h
  | int i => exact CbD.isi_int false (by decide +kernel) h
  | str x => exact CbD.isi_str false (by decide +kernel) h
  | emp => exact CbD.isi_emp false (by decide +kernel) h
  | tup ds => exact CbD.isi_tup false (by decide +kernel) h
  | lst ds => exact CbD.isi_lst false (by decide +kernel) h
  | scr ns => exact CbD.isi_scr false (by decide +kernel) h
  | ins C fs => exact absurd rfl hn
  | adr a => exact absurd rfl hn
  | ty n => exact absurd rfl hn
  | dct kvs => exact CbD.isi_dct false (by decide +kernel) h
  | dtp kvs => exact CbD.isi_dtp false (by decide +kernel) h
  | exc C => exact absurd rfl hn
  | exf C fs => exact absurd rfl hn
theorem CbD.isi_intv (hn : tyName d ≠ "?") (h : Ψ (.bl (isIntD d || isBlD d))) : CbD W (rIsi W.K) s [d, .ty "int"] Ψ := by
  cases d with
  | non => exact CbD.isi_non false (by decide +kernel) h
  | bl b => exact CbD.isi_bl true (by decide +kernel) h
  | int i => exact CbD.isi_int true (by decide +kernel) h
  | str x => exact CbD.isi_str false (by decide +kernel) h
  | emp => exact CbD.isi_emp false (by decide +kernel) h
  | tup ds => exact CbD.isi_tup false (by decide +kernel) h
  | lst ds => exact CbD.isi_lst false (by decide +kernel) h
  | scr ns => exact CbD.isi_scr false (by decide +kernel) h
  | ins C fs => exact absurd rfl hn
  | adr a => exact absurd rfl hn
  | ty n => exact absurd rfl hn
  | dct kvs => exact CbD.isi_dct false (by decide +kernel) h
  | dtp kvs => exact CbD.isi_dtp false (by decide +kernel) h
  | exc C => exact absurd rfl hn
  | exf C fs => exact absurd rfl hn
theorem CbD.isi_tupv (hn : tyName d ≠ "?") (h : ∀ b : Bool, (b = true ↔ ∃ ds, d = .tup ds) → Ψ (.bl b)) : CbD W (rIsi W.K) s [d, .ty "tuple"] Ψ := by
  cases d with
  | non => exact CbD.isi_non false (by decide +kernel) (h _ (by simp))
  | bl b => exact CbD.isi_bl false (by decide +kernel) (h _ (by simp))
  | int i => exact CbD.isi_int false (by decide +kernel) (h _ (by simp))
  | str x => exact CbD.isi_str false (by decide +kernel) (h _ (by simp))
  | emp => exact CbD.isi_emp false (by decide +kernel) (h _ (by simp))
  | tup ds => exact CbD.isi_tup true (by decide +kernel) (h _ (by simp))
  | lst ds => exact CbD.isi_lst false (by decide +kernel) (h _ (by simp))
  | scr ns => exact CbD.isi_scr false (by decide +kernel) (h _ (by simp))
  | ins C fs => exact absurd rfl hn
  | adr a => exact absurd rfl hn
  | ty n => exact absurd rfl hn
  | dct kvs => exact CbD.isi_dct false (by decide +kernel) (h _ (by simp))
  | dtp kvs => exact CbD.isi_dtp false (by decide +kernel) (h _ (by simp))
  | exc C => exact absurd rfl hn
  | exf C fs => exact absurd rfl hn
end
theorem isInt_cases (d : D) : (∃ i, d = .int i) ∨ isIntD d = false := by
  cases d <;> simp [isIntD]
theorem isFr_no1 {x y : D} (h : isIntD x = false) : isFr (.tup [x, y]) = false := by
  cases x <;> first | rfl | (exact absurd h (by simp [isIntD]))
theorem isFr_no2 {x y : D} (h : isIntD y = false) : isFr (.tup [x, y]) = false := by
  cases x <;> cases y <;> first | rfl | (exact absurd h (by simp [isIntD]))
theorem bl_noint {x : D} (h : isBlD x = true) : isIntD x = false := by
  cases x <;> first | rfl | (exact absurd h (by simp [isBlD]))
theorem fr_iff {n d : Int} (h : 1 ≤ d) : fr (Rat.divInt n d) = .tup [.int n, .int d] ↔ Int.gcd n d = 1 := by
  have h0 := gcd_pos (n := n) (d := d) (by omega)
  rw [← fr_make (n := n) (d := d) (by omega) (c := (Int.gcd n d : Int)) (by rw [if_neg (by omega)])]
  constructor
  · intro e
    injection e with e
    injection e with e1 e2
    injection e2 with e2 _
    injection e2 with e2
    obtain ⟨b, hb⟩ : (Int.gcd n d : Int) ∣ d := Int.gcd_dvd_right ..
    generalize Int.gcd n d = g at *
    rw [hb, Int.mul_fdiv_cancel_left b (by omega)] at e2
    have hb0 : b ≠ 0 := by
      intro z
      rw [z] at hb
      omega
    have : (g : Int) * b = 1 * b := by rw [Int.one_mul]; exact e2.symm
    have := Int.eq_of_mul_eq_mul_right hb0 this
    omega
  · intro e
    rw [e]
    simp
theorem ip_fr (q : Rat) : Ip 40 (fr q) = true := rfl
theorem ip_pair (i j : Int) : Ip 40 (.tup [.int i, .int j]) = true := rfl
section
variable {W : Wd} {ρ : En} {s : Rs} {ta tb tc te : TE} {Φ : D → Rs → Prop}
/-- a op b op' c -/
theorem LE.chain {r r' : R2} (h : LE W ta ρ s fun x s1 => LE W tb ρ s1 fun y s2 => OpD W r s2 x y fun d => ∃ k, d = .bl k ∧ (k = true → LE W tc ρ s2 fun w s3 => OpD W r' s3 y w fun d => Φ d s3) ∧ (k = false → Φ (.bl false) s2)) : LE W (tChain r r' ta tb tc) ρ s Φ := fun σ H o Q q => by
  refine h σ H o _ fun vx H1 x s1 o1 p1 i1 k1 => ?_
  refine k1 σ H1 o1 _ fun vy H2 y s2 o2 p2 i2 k2 => ?_
  refine k2 H2 vx vy o2.rkT (p2.is i1) i2 _ fun v H3 d e i f => ?_
  obtain ⟨k, rfl, ft, ff⟩ := f
  have o3 := o2.sx e
  have p3 := (p1.trans p2).trans (o2.presX e)
  refine ⟨k, i, ?_⟩
  cases k with
  | true =>
    rw [if_pos rfl]
    refine ft rfl σ H3 o3 _ fun vw H4 w s4 o4 p4 i4 k4 => ?_
    refine k4 H4 vy vw o4.rkT (p4.is ((o2.presX e).is i2)) i4 Q fun v5 H5 d5 e5 i5 f5 => ?_
    exact q v5 H5 d5 s4 (o4.sx e5) ((p3.trans p4).trans (o4.presX e5)) i5 f5
  | false =>
    rw [if_neg (by decide)]
    exact q _ H3 (.bl false) s2 o3 p3 rfl (ff rfl)
/-- a slice of a list or a tuple -/
theorem LE.sliceSL {tl th : TO} (h : LE W te ρ s fun x s1 => LO W tl ρ s1 fun lo s2 => LO W th ρ s2 fun hi s3 => ∃ ds, x = .lst ds ∧ Φ (.lst (cutD ds lo hi)) s3) : LE W (tSl (fun x lo hi H Q => rSlL W.K x lo hi H Q ∨ rSlA W.K x lo hi H Q) te tl th) ρ s Φ := fun σ H o Q q => by
  refine h σ H o _ fun vx H1 x s1 o1 p1 i1 k1 => ?_
  refine k1 σ H1 o1 _ fun lo H2 s2 o2 p2 k2 => ?_
  refine k2 σ H2 o2 _ fun hi H3 s3 o3 p3 k3 => ?_
  obtain ⟨ds, rfl, k⟩ := k3
  obtain ⟨a, xs, rfl, _, h1, h2⟩ := (p2.trans p3).is i1
  refine .inl ⟨a, xs, rfl, SqL.of h1, fun p hp => ?_⟩
  obtain ⟨o4, p4⟩ := o3.newL hp (h2.cut lo hi)
  obtain ⟨o5, p5, i5⟩ := o4.freeze
  exact q _ _ _ s3 o5 ((((p1.trans p2).trans p3).trans p4).trans p5) i5 k
theorem LE.sliceST {tl th : TO} (h : LE W te ρ s fun x s1 => LO W tl ρ s1 fun lo s2 => LO W th ρ s2 fun hi s3 => ∃ ds, x = .tup ds ∧ Φ (.tup (cutD ds lo hi)) s3) : LE W (tSl (fun x lo hi H Q => rSlL W.K x lo hi H Q ∨ rSlA W.K x lo hi H Q) te tl th) ρ s Φ := fun σ H o Q q => by
  refine h σ H o _ fun vx H1 x s1 o1 p1 i1 k1 => ?_
  refine k1 σ H1 o1 _ fun lo H2 s2 o2 p2 k2 => ?_
  refine k2 σ H2 o2 _ fun hi H3 s3 o3 p3 k3 => ?_
  obtain ⟨ds, rfl, k⟩ := k3
  obtain ⟨a, xs, rfl, h1, h2⟩ := (p2.trans p3).is i1
  have h3 := h2.cut lo hi
  refine .inr ⟨a, xs, rfl, IsL.sqT h1, fun hw => ?_, fun hw p hp => ?_⟩
  · have e : cutV xs lo hi = xs := by
      unfold cutV
      rw [hw.1, hw.2]
      simp
    rw [e] at h3
    exact q _ H3 (.tup (cutD ds lo hi)) s3 o3 ((p1.trans p2).trans p3) ⟨a, xs, rfl, h1, h3⟩ k
  · have sm : Same H3 (upd H3 p (.tup (cutV xs lo hi))) := Same.new hp
    exact q _ _ (.tup (cutD ds lo hi)) s3 (o3.same sm) (((p1.trans p2).trans p3).trans (o3.pres sm)) ⟨p, _, rfl, .inl upd_same, IsL.goes (o3.rk.goes sm) _ _ h3⟩ k
end
theorem LI.zipL {W : Wd} {ρ : En} {s : Rs} {Φ : List D → Rs → Prop} {ta : TA} (h : LA W ta ρ s fun xs s1 => ∃ ds es, xs = [.lst ds, .lst es] ∧ Φ (zipD ds es) s1) : LI W (RZ.iZipA W.K ta) ρ s Φ := fun σ H o R q => by
  refine h σ H o _ fun vs H1 xs s1 o1 p1 i1 k => ?_
  obtain ⟨ds, es, rfl, k⟩ := k
  obtain ⟨v, w, rfl, e1, e2⟩ := IsL.two i1
  obtain ⟨a, xs, rfl, h0, h1, h2⟩ := id e1
  obtain ⟨b, ys, rfl, g0, g1, g2⟩ := id e2
  exact ⟨a, b, xs, ys, rfl, .inl ⟨SqL.of h1, SqL.of g1, q _ H1 _ s1 [(.lst ds, .ref a), (.lst es, .ref b)] o1 p1 (fun e he => by
    have he : e = (.lst ds, .ref a) ∨ e = (.lst es, .ref b) := by simpa using he
    rcases he with z | z
    · rw [z]; exact e1
    · rw [z]; exact e2) ItOk.zip k⟩⟩
/-- no part of a knot is too large -/
def SmK : D → Prop | .tup [a, b] => Sm a ∧ Sm b | _ => True
def OkS (d : D) : Prop := OkV d ∧ (∀ n, d ≠ .scr n) ∧ ∀ ds, items d = some ds → ∀ x ∈ ds, SmK x
/-- where the times do not ascend -/
def viol (ps : List Kn) : List Bool := List.zipWith (fun a b : Kn => !decide (a.1 < b.1)) ps (ps.drop 1)
theorem viol_get {ps : List Kn} {i : Nat} {p q : Kn} (h1 : ps[i]? = some p) (h2 : ps[i + 1]? = some q) : (viol ps)[i]? = some (!decide (p.1 < q.1)) := by
  unfold viol
  rw [List.getElem?_zipWith, h1, List.getElem?_drop, Nat.add_comm 1 i, h2]
theorem viol_len (ps : List Kn) : (viol ps).length = ps.length - 1 := by
  unfold viol
  rw [List.length_zipWith, List.length_drop]
  omega
theorem viol_asc {ps : List Kn} (h : ((viol ps).filter id).map (fun _ => D.int 1) = []) : asc ps := by
  refine asc_of fun i a b h1 h2 => ?_
  have hv := viol_get h1 h2
  have hn : (viol ps).filter id = [] := List.map_eq_nil_iff.mp h
  have := List.filter_eq_nil_iff.mp hn _ (List.mem_of_getElem? hv)
  simpa using this
theorem asc_viol {ps : List Kn} (h : asc ps) : ((viol ps).filter id).map (fun _ => D.int 1) = [] := by
  rw [List.map_eq_nil_iff, List.filter_eq_nil_iff]
  intro x hx
  obtain ⟨i, hi⟩ := List.mem_iff_getElem?.mp hx
  have hl := (List.getElem?_eq_some_iff.mp hi).1
  rw [viol_len] at hl
  obtain ⟨p, hp⟩ := get_of_lt (l := ps) (i := i) (by omega)
  obtain ⟨q, hq⟩ := get_of_lt (l := ps) (i := i + 1) (by omega)
  rw [viol_get hp hq] at hi
  cases hi
  simpa using asc_lt h hp hq
theorem ones_ipL (l : List Bool) : ∀ n, IpL (n + 1) (l.map fun _ => D.int 1) = true := by
  induction l with
  | nil => intro n; rfl
  | cons a r ih => intro n; exact ih n
theorem ones_ip (l : List Bool) (n : Nat) : Ip (n + 3) (.lst (l.map fun _ => D.int 1)) = true := ones_ipL l (n + 1)
end Pw

namespace Pw
open PySem PySem.Spec PyProof.Rows L2
/-! ### values that hold no list stay as they are where a list becomes one's own again -/
mutual
def NoL : D → Bool
  | .non => true | .bl _ => true | .int _ => true | .str _ => true
  | .tup ds => NoLL ds
  | .lst _ => false | .ins _ fs => NoLF fs | .emp => true | .scr _ => false
  | .adr _ => true | .ty _ => true
  | .dct _ => false | .dtp _ => false | .exc _ => false | .exf _ _ => false
def NoLL : List D → Bool
  | [] => true
  | d :: ds => NoL d && NoLL ds
def NoLF : List (Str × D) → Bool
  | [] => true
  | (_, d) :: ds => NoL d && NoLF ds
end
mutual
theorem Is.thaw {K : PySem.W.Frag} {Xs : List Addr} {H : Hp} {p : Addr} {zs : List V} (hp : H p = some (.lst zs)) : ∀ (d : D) (v : V), NoL d = true → Is K Xs H d v → Is K (p :: Xs) H d v
  | .non, v, _, h => h
  | .bl b, v, _, h => h
  | .int i, v, _, h => h
  | .str x, v, _, h => h
  | .tup ds, v, i, h => by
    obtain ⟨a, xs, e, h1, h2⟩ := h
    exact ⟨a, xs, e, h1, IsL.thaw hp ds xs i h2⟩
  | .lst ds, v, i, h => nomatch i
  | .ins C fs, v, i, h => by
    obtain ⟨a, dx, vs, e, hx, h1, h2⟩ := h
    exact ⟨a, dx, vs, e, fun z => (List.mem_cons.mp z).elim (fun y => by rw [y, hp] at h1; cases h1) hx, h1, IsF.thaw hp fs vs i h2⟩
  | .emp, v, i, h => by
    obtain ⟨a, e, hx, h1⟩ := h
    exact ⟨a, e, fun z => (List.mem_cons.mp z).elim (fun y => by
      subst y
      rcases h1 with h1 | ⟨o, h1⟩
      · rw [hp] at h1; cases h1
      · rw [hp] at h1; cases h1) hx, h1⟩
  | .scr ns, v, i, h => nomatch i
  | .adr a, v, _, h => h
  | .ty n, v, _, h => h
  | .dct kvs, v, i, h => nomatch i
  | .dtp kvs, v, i, h => nomatch i
  | .exc C, v, i, h => nomatch i
  | .exf C fs, v, i, h => nomatch i
theorem IsL.thaw {K : PySem.W.Frag} {Xs : List Addr} {H : Hp} {p : Addr} {zs : List V} (hp : H p = some (.lst zs)) : ∀ (ds : List D) (vs : List V), NoLL ds = true → IsL K Xs H ds vs → IsL K (p :: Xs) H ds vs
  | [], vs, _, h => h
  | d :: ds, vs, i, h => by
    obtain ⟨x, r, e, h1, h2⟩ := h
    have i' : (NoL d && NoLL ds) = true := i
    rw [Bool.and_eq_true] at i'
    exact ⟨x, r, e, Is.thaw hp d x i'.1 h1, IsL.thaw hp ds r i'.2 h2⟩
theorem IsF.thaw {K : PySem.W.Frag} {Xs : List Addr} {H : Hp} {p : Addr} {zs : List V} (hp : H p = some (.lst zs)) : ∀ (ds : List (Str × D)) (vs : List (Str × V)), NoLF ds = true → IsF K Xs H ds vs → IsF K (p :: Xs) H ds vs
  | [], vs, _, h => h
  | (f, d) :: ds, vs, i, h => by
    obtain ⟨x, r, e, h1, h2⟩ := h
    have i' : (NoL d && NoLF ds) = true := i
    rw [Bool.and_eq_true] at i'
    exact ⟨x, r, e, Is.thaw hp d x i'.1 h1, IsF.thaw hp ds r i'.2 h2⟩
end
mutual
theorem imm_noL : ∀ d : D, Imm d = true → NoL d = true
  | .non, _ => rfl | .bl _, _ => rfl | .int _, _ => rfl | .str _, _ => rfl
  | .tup ds, h => immL_noL ds h
  | .lst _, h => nomatch h | .ins _ _, h => nomatch h | .emp, h => nomatch h | .scr _, h => nomatch h
  | .adr _, _ => rfl | .ty _, _ => rfl
  | .dct _, h => nomatch h | .dtp _, h => nomatch h | .exc _, h => nomatch h | .exf _ _, h => nomatch h
theorem immL_noL : ∀ ds : List D, ImmL ds = true → NoLL ds = true
  | [], _ => rfl
  | d :: ds, h => by
    have h' : (Imm d && ImmL ds) = true := h
    rw [Bool.and_eq_true] at h'
    show (NoL d && NoLL ds) = true
    rw [imm_noL d h'.1, immL_noL ds h'.2]
    rfl
end
/-- a list of one's own that holds no list -/
def NoLO : D → Bool
  | .lst ds => NoLL ds
  | _ => false
theorem noLL_knL (ps : List Kn) : NoLL (knL ps) = true := immL_noL _ (knL_imm ps)
theorem noL_tb (C : Addr) (ps : List Kn) : NoL (tb C ps) = true := by
  show (NoLL (knL ps) && (NoLL (knL (turns ps)) && true)) = true
  rw [noLL_knL, noLL_knL]
  rfl
/-- the slots but i and j hold no lists -/
def AllNoL (i j : Nat) : Nat → En → Prop
  | _, [] => True
  | n, none :: r => AllNoL i j (n + 1) r
  | n, some d :: r => (n = i ∨ n = j ∨ NoL d = true) ∧ AllNoL i j (n + 1) r
theorem allNoL_get {i j : Nat} : ∀ (n : Nat) (ρ : En), AllNoL i j n ρ → ∀ (k : Nat) (d : D), n + k ≠ i → n + k ≠ j → ρ[k]? = some (some d) → NoL d = true
  | n, [], _, k, d, _, _, e => by simp at e
  | n, none :: r, h, 0, d, _, _, e => by simp at e
  | n, none :: r, h, k + 1, d, h1, h2, e => allNoL_get (n + 1) r h k d (by omega) (by omega) (by simpa using e)
  | n, some x :: r, h, 0, d, h1, h2, e => by
    have e : x = d := by simpa using e
    subst e
    exact h.1.elim (fun z => absurd z h1) fun z => z.elim (fun z => absurd z h2) id
  | n, some x :: r, h, k + 1, d, h1, h2, e => allNoL_get (n + 1) r h.2 k d (by omega) (by omega) (by simpa using e)
section
variable {W : Wd} {σ : L2.St} {H : Hp} {ρ : En} {s : Rs} {N : En → Rs → Prop} {R : D → Rs → Prop} {B C : En → Rs → Prop} {ts : TS}
theorem LS.forget (i : Nat) (h : LS W ts (ρ.set i none) s N R B C) : LS W ts ρ s N R B C := fun Dn σ H o f => h Dn σ H o.drop f
/-- the list in slot i becomes one's own; slot j may hold the same list -/
theorem LS.thaw {ds es : List D} (i j : Nat) (hij : i ≠ j) (h0 : ∀ a, W.H0 a = none) (h1 : W.X1 = []) (ht : W.tm = []) (hi : ρ[i]? = some (some (.lst ds))) (hj : ρ[j]? = some (some (.lst es)))
    (hds : NoLL ds = true) (hes : NoLL es = true) (how : ∀ e ∈ s.own, NoLO e.2 = true) (hn : AllNoL i j 0 ρ)
    (ka : ∀ p, LS W ts ((ρ.set i (some (.adr p))).set j (some (.adr p))) (s.push p ds) N R B C) (kb : ∀ p, LS W ts (ρ.set i (some (.adr p))) (s.push p ds) N R B C) : LS W ts ρ s N R B C := fun Dn σ H o f => by
  have hρ : ∀ (k : Nat) (d : D), k ≠ i → k ≠ j → ρ[k]? = some (some d) → NoL d = true := fun k d h1 h2 e => allNoL_get 0 ρ hn k d (by omega) (by omega) e
  obtain ⟨v, hv, p, xs, rfl, hx, hp, hL⟩ := o.sl i _ hi
  obtain ⟨v', hv', a, ys, rfl, hy, ha, hM⟩ := o.sl j _ hj
  have ok : ∀ ρ' : En, ρ'.length = ρ.length → (∀ (k : Nat) (d : D), ρ'[k]? = some (some d) → ∃ v, σ[k]? = some (some v) ∧ Is W.K (p :: adrs s) H d v) → Ok W σ H ρ' (s.push p ds) := fun ρ' hl hs =>
    by
      refine ⟨⟨fun b hb => ?_, List.nodup_cons.mpr ⟨hx, o.rk.nd⟩, o.rk.dr, fun e he => ?_⟩, o.fr, fun b hb => ?_, o.dx, fun e he => ?_, fun e he => ?_, o.tbs, by rw [hl]; exact o.len, hs⟩
      · rcases List.mem_cons.mp (show b ∈ p :: adrs s from hb) with z | z
        · rw [z, hp]; trivial
        · exact o.rk.mu b z
      · rcases List.mem_cons.mp (show e ∈ (p, .lst ds) :: s.own from he) with z | z
        · rw [z]; exact ⟨xs, hp, IsL.thaw hp _ _ hds hL⟩
        · have hw := how e z
          have ho := o.rk.ow e z
          obtain ⟨ea, ed⟩ := e
          cases ed with
          | lst es =>
            obtain ⟨zs, z1, z2⟩ := ho
            exact ⟨zs, z1, IsL.thaw hp _ _ hw z2⟩
          | _ => exact Bool.noConfusion (show false = true from hw)
      · rw [h1] at hb; cases hb
      · rcases List.mem_cons.mp (show e ∈ (p, .lst ds) :: s.own from he) with z | z
        · rw [z]; exact ⟨by rw [h1]; simp, .inr (h0 _)⟩
        · exact o.ox e z
      · rw [ht] at he; cases he
  have old : ∀ (k : Nat) (d : D), k ≠ i → k ≠ j → ρ[k]? = some (some d) → ∃ v, σ[k]? = some (some v) ∧ Is W.K (p :: adrs s) H d v := fun k d k1 k2 e => by
    obtain ⟨u, u1, u2⟩ := o.sl k d e
    exact ⟨u, u1, Is.thaw hp d u (hρ k d k1 k2 e) u2⟩
  by_cases hap : a = p
  · subst hap
    refine ka a Dn σ H (ok _ (by rw [List.length_set, List.length_set]) fun k d e => ?_) f
    by_cases k1 : j = k
    · subst k1
      rw [List.getElem?_set] at e
      simp only [if_true] at e
      split at e
      · cases e
        exact ⟨_, hv', rfl⟩
      · cases e
    · rw [List.getElem?_set_ne k1] at e
      by_cases k2 : i = k
      · subst k2
        rw [List.getElem?_set] at e
        simp only [if_true] at e
        split at e
        · cases e
          exact ⟨_, hv, rfl⟩
        · cases e
      · rw [List.getElem?_set_ne k2] at e
        exact old k d (fun z => k2 z.symm) (fun z => k1 z.symm) e
  · refine kb p Dn σ H (ok _ (by rw [List.length_set]) fun k d e => ?_) f
    by_cases k2 : i = k
    · subst k2
      rw [List.getElem?_set] at e
      simp only [if_true] at e
      split at e
      · cases e
        exact ⟨_, hv, rfl⟩
      · cases e
    · rw [List.getElem?_set_ne k2] at e
      by_cases k1 : j = k
      · subst k1
        rw [hj] at e
        cases e
        exact ⟨_, hv', a, ys, rfl, fun z => (List.mem_cons.mp z).elim hap hy, ha, IsL.thaw hp _ _ hes hM⟩
      · exact old k d (fun z => k2 z.symm) (fun z => k1 z.symm) e
/-- a list of one's own read in an expression, the result any value that holds no list -/
theorem LE.viewN {te : TE} {Φ : D → Rs → Prop} {i : Nat} {p : Addr} {ds : List D} {ow : List (Addr × D)} {dr : List (Addr × Addr × Addr × Nat)} {ot : List Addr} (hi : ρ[i]? = some (some (.adr p)))
    (h : LE W te (ρ.set i (some (.lst ds))) ⟨ow, dr, ot⟩ fun d s' => NoL d = true ∧ (∀ e ∈ s'.own, ImmO e.2 = true) ∧ Φ d (s'.push p ds)) : LE W te ρ ⟨(p, .lst ds) :: ow, dr, ot⟩ Φ := fun σ H o Q q => by
  have o : Ok W σ H ρ ((⟨ow, dr, ot⟩ : Rs).push p ds) := o
  obtain ⟨o1, p1⟩ := o.frozen hi
  refine h σ H o1 _ fun v H1 d s1 o2 p2 i2 k => ?_
  obtain ⟨o3, p3⟩ := o.unfreeze o2 p2 k.2.1
  obtain ⟨xs, hp, _⟩ := o3.rk.ow (p, .lst ds) (List.mem_cons_self ..)
  exact q v H1 d _ o3 p3 (Is.thaw hp _ _ k.1 i2) k.2.2
end
/-! ### a def whose result is a new list -/
abbrev FSp := List D → (List D → Prop) → Prop
def liftF (K : PySem.W.Frag) (T : List (Addr × Str)) (S : FSp) : Sp := fun vs H Q _ => ∃ (Xs : List Addr) (ds : List D) (Φ : List D → Prop), Xs.Nodup ∧ (∀ a ∈ Xs, Mut (H a)) ∧ LamX.Tabs T H ∧ IsL K Xs H ds vs ∧ S ds Φ ∧
  ∀ es p ws H', Φ es → ExtT T H H' → NTN (H p) → H' p = some (.lst ws) → IsL K (p :: Xs) H' es ws → Q (.ref p) H'
theorem Ok.newR {W : Wd} {σ : L2.St} {H H' : Hp} {ρ : En} {s : Rs} {p : Addr} {ds : List D} {vs : List V} (o : Ok W σ H ρ s) (e : ExtT W.tb H H') (hp : NTN (H p)) (hp' : H' p = some (.lst vs)) (h : IsL W.K (p :: adrs s) H' ds vs) :
    Ok W σ H' ρ (s.push p ds) ∧ Pres W.K s H (s.push p ds) H' := o.newO e hp (d := .lst ds) ⟨vs, hp', h⟩
section
variable {P : Program} {w : World} {K : PySem.W.Frag} {mg : Str → Option Value} {base : Heap}
theorem okF {x qual : Str} {st : Stmt} {f : Addr} {fd : FuncData} {N ps : List Str} {k : Nat} {T : List (Addr × Str)} {S : FSp} (F : Fun K x qual st f fd) (Sc : FnScope N ps (defScope st)) (len : ∀ ds Φ, S ds Φ → ds.length = ps.length) (hN : ps.length ≤ N.length)
    (hbody : ∀ (cdv : Value) (A : Around) (outer : List Env) (s : Shared) (H : Hp) (E : XK), Room k (A.deeper (envOfC qual (defScope st) s.heap.objs.size f cdv)) →
      ∃ t, PSs (cxOf CX0 P w K mg base N qual (defScope st) f cdv A outer s H E).nox (defBody st) t ∧
        ∀ (H0 : Hp) (Xs : List Addr) (ds : List D) (Φ : List D → Prop), S ds Φ → LS ⟨K, H0, [], Xs, [], T⟩ t (startD N (ds.map some)) { oth := Xs } (fun _ _ => False) (fun d s' => ∃ p es, d = .adr p ∧ (p, .lst es) ∈ s'.own ∧ Φ es) (fun _ _ => False) (fun _ _ => False)) :
    FnOk P w K mg base CX0 (k + 1) f fd ps (liftF K T S) := by
  refine F.ok Sc (fun vs H Q E h => ?_) fun cdv A outer s H vs Q E hr h => ?_
  · obtain ⟨Xs, ds, Φ, _, _, _, h1, h2, _⟩ := h
    rw [h1.length, len ds Φ h2]
  · obtain ⟨Xs, ds, Φ, hnd, hmu, hT, hds, hS, q⟩ := h
    obtain ⟨t, ht, hL⟩ := hbody cdv A outer s H E hr
    have hl : ds.length = ps.length := len ds Φ hS
    refine ⟨t, ht, hL (noTb H) Xs ds Φ hS _ (L2.start N vs) H ⟨⟨?_, ?_, ?_, ?_⟩, fun _ _ _ h => (noTb_get h).1, ?_, ?_, (fun e he => by cases he), (fun e he => by cases he), ⟨hT, noTb_n⟩, ?_, ?_⟩ ⟨?_, ?_, ?_, ?_⟩⟩
    · exact hmu
    · exact hnd
    · intro e he; cases he
    · intro e he; cases he
    · intro a ha; exact ha
    · intro e he; cases he
    · rw [start_len (by rw [hds.length]; omega), startD_len (by rw [List.length_map]; omega)]
    · exact start_sl hds
    · intro σ' H' ρ' s' o k; exact k.elim
    · intro v σ' H' ρ' d s' o i k
      obtain ⟨p, es, rfl, hm, hΦ⟩ := k
      cases (show v = .ref p from i)
      obtain ⟨ws, h1, h2⟩ := o.rk.ow (p, .lst es) hm
      obtain ⟨_, hX⟩ := o.ox (p, .lst es) hm
      refine q es p ws H' hΦ ⟨fun a u e n => o.fr a u (by simp) (noTb_of e n), o.tbs.t⟩ (hX.elim (fun z => by cases z) fun z => noTb_ntn z) h1 (IsL.anti (fun a g1 _ g2 => g1 ?_) _ _ h2)
      rcases List.mem_cons.mp g2 with z | z
      · rw [z]
        exact List.mem_append_left _ (List.mem_map.mpr ⟨(p, .lst es), hm, rfl⟩)
      · exact o.sub a z
    · intro σ' H' ρ' s' o k; exact k
    · intro σ' H' ρ' s' o k; exact k
end
section
variable {W : Wd} {ρ : En} {s : Rs} {te : TE} {ta : TA} {C : Addr} {m : Str} {E : XK}
theorem LEL.methF {S : FSp} {Φ : List D → Rs → Prop} (h : LE W te ρ s fun x s1 => ∃ fs, x = .ins C fs ∧ fs.lookup m = none ∧ LA W ta ρ s1 fun ds s2 => S (.ins C fs :: ds) fun es => Φ es s2) : LEL W (tMeth C m (liftF W.K W.tb S) [] E te ta) ρ s Φ := fun σ H o Q q => by
  refine h σ H o _ fun w H1 x s1 o1 p1 i1 k => ?_
  obtain ⟨fs, rfl, hl, k⟩ := k
  obtain ⟨a, dx, vs, rfl, h0, h1, h2⟩ := id i1
  refine ⟨a, dx, vs, rfl, h1, h2.none hl, k σ H1 o1 _ fun ws H2 ds s2 o2 p2 i2 k2 => ?_⟩
  rw [List.append_nil]
  refine ⟨adrs s2, .ins C fs :: ds, fun es => Φ es s2, o2.rk.nd, o2.rk.mu, o2.tbs.t, ⟨.ref a, ws, rfl, p2.is i1, i2⟩, k2, fun es p us H' hΦ e hp hp' i => ?_⟩
  obtain ⟨o3, p3⟩ := o2.newR e hp hp' i
  exact q p H' es s2 o3 ((p1.trans p2).trans p3) hΦ
theorem LEL.callF {S : FSp} {Φ : List D → Rs → Prop} (h : LA W ta ρ s fun ds s2 => S ds fun es => Φ es s2) : LEL W (tCall (liftF W.K W.tb S) [] E ta) ρ s Φ := fun σ H o Q q => by
  refine h σ H o _ fun ws H2 ds s2 o2 p2 i2 k2 => ?_
  rw [List.append_nil]
  refine ⟨adrs s2, ds, fun es => Φ es s2, o2.rk.nd, o2.rk.mu, o2.tbs.t, i2, k2, fun es p us H' hΦ e hp hp' i => ?_⟩
  obtain ⟨o3, p3⟩ := o2.newR e hp hp' i
  exact q p H' es s2 o3 (p2.trans p3) hΦ
end
/-! ### classmethods, constants read on the class, cls(..) -/
section
variable {W : Wd} {ρ : En} {s : Rs} {te : TE} {ta : TA} {Φ : D → Rs → Prop} {C : Addr} {f m : Str} {E : XK}
theorem LE.cval {mc : Value} {v : V} {u : Value} {d : D} (r : ClX.CRead W.K C mc) (c : ClX.CVal W.K C mc f v u) (hd : ∀ Xs H, Is W.K Xs H d v) (h : LE W te ρ s fun x s1 => x = .adr C ∧ Φ d s1) : LE W (ClX.tCVal W.K te f) ρ s Φ := fun σ H o Q q => by
  refine h σ H o _ fun w H1 x s1 o1 p1 i1 k => ?_
  obtain ⟨rfl, k⟩ := k
  exact ⟨C, mc, v, u, i1, r, c, q v H1 d s1 o1 p1 (hd _ _) k⟩
theorem LE.cmeth {S : PSp} (h : LE W te ρ s fun x s1 => x = .adr C ∧ LA W ta ρ s1 fun ds s2 => S (.adr C :: ds) fun d => Φ d s2) : LE W (ClX.tCMeth C (fun vs H Q E => liftP W.K W.tb S (vs ++ []) H Q E) E te ta) ρ s Φ := fun σ H o Q q => by
  refine h σ H o _ fun w H1 x s1 o1 p1 i1 k => ?_
  obtain ⟨rfl, k⟩ := k
  cases (show w = .ref C from i1)
  refine ⟨rfl, k σ H1 o1 _ fun ws H2 ds s2 o2 p2 i2 k2 => ?_⟩
  show liftP W.K W.tb S ((.ref C :: ws) ++ []) H2 Q E
  rw [List.append_nil]
  refine ⟨adrs s2, .adr C :: ds, fun d => Φ d s2, o2.rk.nd, o2.rk.mu, o2.tbs.t, ⟨.ref C, ws, rfl, rfl, i2⟩, k2, fun d v H' f e i => ?_⟩
  exact q v H' d s2 (o2.ext e) ((p1.trans p2).trans (o2.presT e)) i f
/-- cls(..), cls a local name -/
def tMakeL (i : Nat) (C : Addr) (sp : Sp) (dvs : List V) (E : XK) (t : TA) : TE := fun σ H Q => σ[i]? = some (some (.ref C)) ∧ tMake C sp dvs E t σ H Q
theorem LE.makeL {i : Nat} {sp : Sp} (hi : ρ[i]? = some (some (.adr C))) (h : LE W (tMake C sp [] E ta) ρ s Φ) : LE W (tMakeL i C sp [] E ta) ρ s Φ := fun σ H o Q q => by
  obtain ⟨v, h1, h2⟩ := o.sl i _ hi
  cases (show v = .ref C from h2)
  exact ⟨h1, h σ H o Q q⟩
end
section
variable {X : Cx} {CX : CXT} {k i : Nat} {C f : Addr} {fd : FuncData} {ps : List Str} {sp : Sp} {dvs : List V} {ds : List Value} {E : XK} {x : Str} {p pos : Pos} {e : Expr} {es : List Expr} {t : TA}
theorem pe_makeL (M : Mk X.K C f) (F : FnOk X.prog X.w X.K X.mg X.base CX k f fd ps sp) (hr : Room (k + 1) X.A) (hN : X.N[i]? = some x) (hv : Vis X.env.scope x) (hb : Binds X.K fd ps ds) (hd : Vals dvs ds) (hx : Passes CX X E)
    (ha : PA X (e :: es) t) (hdb : (x == ("__debug__" : Str)) = false := by decide) (hcd : (x == ("__classdict__" : Str)) = false := by decide) (he : starEach (e :: es) X.env = (false, eval e X.env) :: starEach es X.env := by rfl) (hpl : (backTo pos (starEach es X.env)).any (·.1) = false := by rfl) :
    PE X (.Call (.Name x p) (e :: es) [] pos) (tMakeL i C sp dvs E t) := by
  refine ⟨fun pins s σ H Q I h => ?_⟩
  obtain ⟨hs, ht⟩ := h
  refine wpAny_Call_Name_kw (thn ((pe_var (pos := p) hN hv hdb hcd).run pins s σ H (fun v H1 => v = .ref C ∧ H1 = H) I ⟨.ref C, hs, rfl, rfl⟩) fun u s1 ⟨v, H1, I1, r1, q1⟩ => ?_)
  obtain ⟨rfl, rfl⟩ := q1
  cases r1
  refine PySem.W.callWith_K (h₀ := X.base) I.ok.mod.kin M.kp (thn (ha.run pos pins s1 σ _ _ I1 ht) fun us s2 ⟨vs, H2, I2, r, q⟩ => ⟨I2.kIn, ?_⟩) he hpl
  exact run_make M F hr hb hd hx I2 r q
end
/-! isinstance(x, list) of any value -/
theorem CbD.isi_lstv {W : Wd} {s : Rs} {Ψ : D → Prop} {d : D} (hn : tyName d ≠ "?") (h : ∀ b : Bool, (b = true ↔ (∃ ds, d = .lst ds) ∨ ∃ ns, d = .scr ns) → Ψ (.bl b)) : CbD W (rIsi W.K) s [d, .ty "list"] Ψ := by
  cases d with
  | non => exact CbD.isi_non false (by decide +kernel) (h _ (by simp))
  | bl b => exact CbD.isi_bl false (by decide +kernel) (h _ (by simp))
  | int i => exact CbD.isi_int false (by decide +kernel) (h _ (by simp))
  | str x => exact CbD.isi_str false (by decide +kernel) (h _ (by simp))
  | emp => exact CbD.isi_emp false (by decide +kernel) (h _ (by simp))
  | tup ds => exact CbD.isi_tup false (by decide +kernel) (h _ (by simp))
  | lst ds => exact CbD.isi_lst true (by decide +kernel) (h _ (by simp))
  | scr ns => exact CbD.isi_scr true (by decide +kernel) (h _ (by simp))
  | ins C fs => exact absurd rfl hn
  | adr a => exact absurd rfl hn
  | ty n => exact absurd rfl hn
  | dct kvs => exact CbD.isi_d false (.inl ⟨_, rfl⟩) (by decide +kernel) (h _ (by simp))
  | dtp kvs => exact CbD.isi_d false (.inr ⟨_, rfl⟩) (by decide +kernel) (h _ (by simp))
  | exc C => exact absurd rfl hn
  | exf C fs => exact absurd rfl hn
/-! ### items of a list that may be knots -/
def OkI (x : D) : Prop := OkK x = true ∧ SmK x ∧ ∀ p, x = kn p → Fit 400 p.1 ∧ Fit 400 p.2
def OkL (es : List D) : Prop := es.length ≤ 900 ∧ ∀ x ∈ es, OkI x
theorem OkL.s {d : D} {es : List D} (h : OkL es) (hd : d = .lst es ∨ d = .tup es) : OkS d := by
  have hi : items d = some es := by rcases hd with rfl | rfl <;> rfl
  refine ⟨⟨?_, fun ds e => ?_⟩, fun n z => ?_, fun ds e x hx => ?_⟩
  · rcases hd with rfl | rfl
    · show ("list" : String) ≠ "?"; decide
    · show ("tuple" : String) ≠ "?"; decide
  · rw [hi] at e
    cases e
    exact ⟨h.1, fun x hx => (h.2 x hx).1, fun p hp => (h.2 _ hp).2.2 p rfl⟩
  · rcases hd with rfl | rfl <;> cases z
  · rw [hi] at e
    cases e
    exact (h.2 x hx).2.1
theorem okI_kn {p : Kn} (h1 : Fit 400 p.1) (h2 : Fit 400 p.2) : OkI (kn p) := by
  refine ⟨rfl, ⟨?_, ?_⟩, fun q e => ?_⟩
  · show (p.1.den : Int).natAbs < 2 ^ 8000
    exact pow_up h1.dI (by decide)
  · show (p.2.den : Int).natAbs < 2 ^ 8000
    exact pow_up h2.dI (by decide)
  · injection e with e
    injection e with e1 e2
    injection e2 with e2 _
    rw [← fr_inj.mp e1, ← fr_inj.mp e2]
    exact ⟨h1, h2⟩
theorem okI_pair {a b c d : Int} (ha : a.natAbs < 2 ^ 400) (hb : b.natAbs < 2 ^ 400) (hc : c.natAbs < 2 ^ 400) (hd : d.natAbs < 2 ^ 400) : OkI (.tup [.tup [.int a, .int b], .tup [.int c, .int d]]) := by
  refine ⟨rfl, ⟨?_, ?_⟩, fun q e => ?_⟩
  · show b.natAbs < 2 ^ 8000
    exact pow_up hb (by decide)
  · show d.natAbs < 2 ^ 8000
    exact pow_up hd (by decide)
  · injection e with e
    injection e with e1 e2
    injection e2 with e2 _
    injection e1 with e1
    injection e1 with x1 x2
    injection x2 with x2 _
    injection e2 with e2
    injection e2 with y1 y2
    injection y2 with y2 _
    injection x1 with x1
    injection x2 with x2
    injection y1 with y1
    injection y2 with y2
    refine ⟨⟨?_, ?_⟩, ?_, ?_⟩
    · rw [← x1]; exact ha
    · rw [← Int.natAbs_natCast q.1.den, ← x2]; exact hb
    · rw [← y1]; exact hc
    · rw [← Int.natAbs_natCast q.2.den, ← y2]; exact hd
theorem okS_no {d : D} (h : tyName d ≠ "?") (hi : items d = none) (hs : ∀ n, d ≠ .scr n) : OkS d :=
  ⟨⟨h, fun ds e => by rw [hi] at e; cases e⟩, hs, fun ds e => by rw [hi] at e; cases e⟩
theorem knL_rev (ps : List Kn) : (knL ps).reverse = knL ps.reverse := by
  unfold knL
  rw [List.map_reverse]
/-- what a pick out of several values may be: a list of items, or no list -/
def Th (d : D) : Prop := OkS d ∧ ((∃ es, d = .lst es ∧ OkL es) ∨ ∀ es, d ≠ .lst es)
theorem Th.lst {es : List D} (h : OkL es) : Th (.lst es) := ⟨h.s (.inl rfl), .inl ⟨es, rfl, h⟩⟩
theorem Th.tup {es : List D} (h : OkL es) : Th (.tup es) := ⟨h.s (.inr rfl), .inr fun _ z => by cases z⟩
theorem Th.no {d : D} (h : tyName d ≠ "?") (hi : items d = none) (hs : ∀ n, d ≠ .scr n) : Th d := ⟨okS_no h hi hs, .inr fun es z => by rw [z] at hi; cases hi⟩
theorem OkL.cut {es : List D} (h : OkL es) (lo hi : Option Int) : OkL (Pw.cutD es lo hi) := by
  refine ⟨Nat.le_trans ?_ h.1, fun x hx => h.2 x (List.mem_of_mem_drop (List.mem_of_mem_take hx))⟩
  unfold Pw.cutD
  rw [List.length_take, List.length_drop]
  omega
theorem OkL.kn {ps : List Kn} (hl : ps.length ≤ 900) (h : ∀ p ∈ ps, Fit 400 p.1 ∧ Fit 400 p.2) : OkL (knL ps) := ⟨by rw [knL_len]; exact hl, fun x hx => by
  obtain ⟨p, hp, rfl⟩ := knL_mem hx
  exact okI_kn (h p hp).1 (h p hp).2⟩
end Pw

namespace Pw
open PySem PySem.Spec PyProof.Rows L2
/-! ### the law itself, called by the caller alone: there nothing is being shown -/
def LawOk (P : Program) (w : World) (K : PySem.W.Frag) (mg : Str → Option Value) (base : Heap) (f : Addr) (fd : FuncData) (ps : List Str) (sp : Sp) : Prop :=
  ∀ (outer : List Env) (s : Shared) (H : Hp) (args : Args) (us : List Value) (vs : List V) (Q : VK) (E : XK),
    Env0 P w K mg base callerA outer s H → BindsTo s fd args (ps.zip us) → Vals vs us → sp vs H Q E →
      codeAny (model P w) callerA (Code.call (.ref f) args) (CR CX0 outer P w H s Q E) s
theorem law_core {P : Program} {w : World} {K : PySem.W.Frag} {mg mb : Str → Option Value} {fa a : Addr} {cs : List (Addr × Addr)} {fd : FuncData} {x : Str} {sp : Sp} {s1 : Shared} {vs : List Value} {H : Hp}
    (KX : K.In s1.heap) (hns : s1.heap.Ns mainGlobals mg) (hb : s1.heap.Ns builtinsNs mb) (hbb : ∀ x : Str, x ≠ "__name__" → mb x = bootBuiltins x) (hlim : s1.heap.NoLimit) (hg : s1.gens = #[])
    (hT : ∀ p ∈ cs, s1.heap.get? p.2 = some { cls := .none, data := .fields #[] }) (nT : ∀ p ∈ cs, K.lookup p.2 = none) (C : ∀ p ∈ cs, PySem.W.CodeHd s1.heap p.1 p.2)
    (hbm : ∃ bm ob, mg "__builtins__" = some (.ref bm) ∧ bm ≠ builtinsNs ∧ s1.heap.get? bm = some ob ∧ ob.cls = .type "module" ∧ ob.dict = some builtinsNs ∧ ob.data = .plain)
    (ha : s1.heap.get? a = some { cls := .type "list", data := .seq vs.toArray 0 })
    (F : ∀ base : Heap, K.In base → base.Ns mainGlobals mg → (∀ p ∈ cs, LamX.TabB base mg p.1 p.2) → LawOk P w K mg base fa fd [x] sp)
    (hbind : ∀ (s : Shared) (u : Value), BindsTo s fd { pos := [u] } [(x, u)])
    (hH : ∀ p ∈ cs, H p.2 = some (.tbl #[])) (hO : ∀ b, H b = none ∨ b ∈ cs.map (·.2) ∨ ∃ ob xs, H b = some (.frz ob (.lst xs)))
    (hsp : sp [.ref a] H (fun v _ => v = .bl true) fun _ _ _ => False) (hok : HOk P w H s1.heap) (hA : ∀ b, H b ≠ none → b = a ∨ b ∈ cs.map (·.2)) (hK : H a ≠ none → K.lookup a = none) :
    codeAny (model P w) callerA (Code.call (.ref fa) { pos := [.ref a] }) (fun r s' => r = .ok (.ret (.bool true)) ∧ OldK s1.heap s'.heap ∧ s'.os = s1.os ∧ AllBare s'.gens) s1 := by
  have atT : ∀ b ∈ cs.map (·.2), s1.heap.get? b = some { cls := .none, data := .fields #[] } := fun b m => by
    obtain ⟨p, hp, e⟩ := List.mem_map.mp m
    rw [← e]; exact hT p hp
  have noD : ∀ {b : Addr} {o : Obj}, s1.heap.get? b = some o → (∀ us n, o.data ≠ .seq us n) → o.data ≠ .fields #[] → H b = none := fun {b} {o} e n1 n2 => by
    by_cases q : H b = none
    · exact q
    · rcases hA b q with z | z
      · rw [z, ha] at e
        cases e
        exact absurd rfl (n1 _ _)
      · rw [atT b z] at e
        cases e
        exact absurd rfl n2
  have nsK : ∀ {b : Addr} {m : Str → Option Value}, s1.heap.Ns b m → (hidT s1.heap H).Ns b m := fun {b} {m} z => by
    obtain ⟨o, es, ep, e, d, r⟩ := z
    exact ⟨o, es, ep, hidT_get e (noD e (fun us n q => by rw [d] at q; cases q) fun q => by rw [d] at q; cases q), d, r⟩
  have hKb : K.In (hidT s1.heap H) := fun b o e => hidT_get (KX b o e) (by
    by_cases q : H b = none
    · exact q
    · rcases hA b q with z | z
      · rw [z, hK (by rw [← z]; exact q)] at e
        cases e
      · obtain ⟨p, hp, e2⟩ := List.mem_map.mp z
        rw [← e2, nT p hp] at e
        cases e)
  have hM : L2.Mod K mg (hidT s1.heap H) := { kin := hKb, glob := nsK hns, blt := ⟨mb, nsK hb, hbb⟩, nolimit := by obtain ⟨mc, h1, h2⟩ := hlim; exact ⟨mc, nsK h1, h2⟩ }
  have TB : ∀ p ∈ cs, LamX.TabB (hidT s1.heap H) mg p.1 p.2 := fun p hp => by
    have hTp := hT p hp
    refine ⟨?_, ?_, ?_⟩
    · obtain ⟨o, us, file, tf, flags, tg, inF, text, tt, e1, r1, r2, r3, r⟩ := C p hp
      refine ⟨o, us, file, tf, flags, tg, inF, text, tt, hidT_get e1 (noD e1 (fun us n q => by rw [r2] at q; cases q) fun q => ?_), r1, r2, r3, r⟩
      rw [r2] at q
      cases q
      simp at r3
    · obtain ⟨bm, ob, b1, b2, b3, b4, b5, b6⟩ := hbm
      refine ⟨bm, ob, b1, b2, ?_, ?_, hidT_get b3 (noD b3 (fun us n q => by rw [b6] at q; cases q) fun q => by rw [b6] at q; cases q), b4, b5, b6⟩
      · intro q
        obtain ⟨o, es, ep, e, hd, _⟩ := hns
        rw [q, e] at b3
        cases b3
        rw [hd] at b6
        cases b6
      · intro q
        rw [q, hTp] at b3
        cases b3
        cases b6
    · intro z
      obtain ⟨o, es, ep, e, hd, _⟩ := hns
      rw [z, hTp] at e
      cases e
      cases hd
  have e0 : Env0 P w K mg (hidT s1.heap H) callerA [] s1 H := { frames := rfl, mod := hM, bs := fun b o e => of_hidT e, bsz := Nat.le_of_eq (hidT_size s1.heap H), funs := trivial, frf := (fun b hb => by cases hb), hok := hok, bare := AllBare.of_eq hg }
  refine codeAny_mono (F _ hKb (nsK hns) TB [] s1 H { pos := [.ref a] } [.ref a] [.ref a] (fun v _ => v = .bl true) (fun _ _ _ => False) e0 (hbind s1 (.ref a)) (.cons rfl .nil) hsp) fun r s' h => ?_
  cases r with
  | error e => exact (show False from h).elim
  | ok fl =>
    cases fl with
    | ret u =>
      obtain ⟨v, H', os, bare, un, hok', r', q⟩ := h
      have q : v = .bl true := q
      subst q
      have r' : u = .bool true := r'
      subst r'
      have key : ∀ b o, b ∉ cs.map (·.2) → s1.heap.get? b = some o → s'.heap.get? b = some o := fun b o nb e => by
        rcases hO b with z | z | ⟨ob, xs, z⟩
        · exact un.keep b o e z (fun z => by cases z) (fun z => by cases z)
        · exact absurd z nb
        · have z2 := un.frzs b ob (.lst xs) z
          have e1 := (hok b _ z).1
          have e2 := (hok' b _ z2).1
          rw [e1] at e
          cases e
          exact e2
      have grown : ∀ p ∈ cs, ∃ more, s'.heap.get? p.2 = some { cls := .none, data := .fields more } := fun p hp => by
        obtain ⟨more, z⟩ := un.tbls p.2 #[] (hH p hp)
        rw [Array.empty_append] at z
        exact ⟨more, hok' p.2 _ z⟩
      refine ⟨rfl, ⟨fun b o e => ?_, fun b o e => ?_⟩, os, bare⟩
      · by_cases hb : b ∈ cs.map (·.2)
        · obtain ⟨p, hp, ep⟩ := List.mem_map.mp hb
          obtain ⟨more, hm⟩ := grown p hp
          have ep : p.2 = b := ep
          subst ep
          rw [hT p hp] at e
          cases e
          exact .inr (.inl ⟨Heap.TableAt.isCodeTable (PySem.W.CodeHd.tab (C p hp) (hT p hp)), rfl, #[], more, rfl, by rw [Array.empty_append]; exact hm⟩)
        · exact .inl (key b o hb e)
      · by_cases hb : b ∈ cs.map (·.2)
        · obtain ⟨p, hp, ep⟩ := List.mem_map.mp hb
          obtain ⟨more, hm⟩ := grown p hp
          have ep : p.2 = b := ep
          subst ep
          exact ⟨_, hm⟩
        · exact ⟨o, key b o hb e⟩
    | _ => exact (show False from h).elim
theorem law_callC {P : Program} {w : World} {K : PySem.W.Frag} {mg mb : Str → Option Value} {fa a : Addr} {cs : List (Addr × Addr)} {fd : FuncData} {x : Str} {sp : Sp} {s1 : Shared} {vs : List Value} {ns : List Int}
    (KX : K.In s1.heap) (hns : s1.heap.Ns mainGlobals mg) (hb : s1.heap.Ns builtinsNs mb) (hbb : ∀ x : Str, x ≠ "__name__" → mb x = bootBuiltins x) (hlim : s1.heap.NoLimit) (hg : s1.gens = #[])
    (hT : ∀ p ∈ cs, s1.heap.get? p.2 = some { cls := .none, data := .fields #[] }) (nT : ∀ p ∈ cs, K.lookup p.2 = none) (C : ∀ p ∈ cs, PySem.W.CodeHd s1.heap p.1 p.2)
    (hbm : ∃ bm ob, mg "__builtins__" = some (.ref bm) ∧ bm ≠ builtinsNs ∧ s1.heap.get? bm = some ob ∧ ob.cls = .type "module" ∧ ob.dict = some builtinsNs ∧ ob.data = .plain)
    (ha : s1.heap.get? a = some { cls := .type "list", data := .seq vs.toArray 0 }) (hi : IntsAre vs ns) (hl : ns.length ≤ sizeLine)
    (F : ∀ base : Heap, K.In base → base.Ns mainGlobals mg → (∀ p ∈ cs, LamX.TabB base mg p.1 p.2) → LawOk P w K mg base fa fd [x] sp)
    (hbind : ∀ (s : Shared) (u : Value), BindsTo s fd { pos := [u] } [(x, u)])
    (hsp : ∀ H : Hp, (∀ p ∈ cs, H p.2 = some (.tbl #[])) → (∀ b, H b = none ∨ b ∈ cs.map (·.2) ∨ ∃ ob xs, H b = some (.frz ob (.lst xs))) → SqL K H a (ns.map V.int) → sp [.ref a] H (fun v _ => v = .bl true) fun _ _ _ => False) :
    codeAny (model P w) callerA (Code.call (.ref fa) { pos := [.ref a] }) (fun r s' => r = .ok (.ret (.bool true)) ∧ OldK s1.heap s'.heap ∧ s'.os = s1.os ∧ AllBare s'.gens) s1 := by
  have rv := vals_ints hi
  have lenV := IntsAre.length hi
  have atT : ∀ b ∈ cs.map (·.2), s1.heap.get? b = some { cls := .none, data := .fields #[] } := fun b m => by
    obtain ⟨p, hp, e⟩ := List.mem_map.mp m
    rw [← e]; exact hT p hp
  have aT : a ∉ cs.map (·.2) := fun z => by
    have e := atT a z
    rw [ha] at e
    cases e
  have memT : ∀ p ∈ cs, p.2 ∈ cs.map (·.2) := fun p hp => List.mem_map.mpr ⟨p, hp, rfl⟩
  let H0 : Hp := fun b => if b ∈ cs.map (·.2) then some (.tbl #[]) else none
  have okT : ∀ (H : Hp) b u, H b = H0 b → H b = some u → ObjOk P w H s1.heap b u := fun H b u e z => by
    rw [e] at z
    by_cases hb : b ∈ cs.map (·.2)
    · have z : (if b ∈ cs.map (·.2) then some (HO.tbl #[]) else none) = some u := z
      rw [if_pos hb] at z
      cases z
      exact atT b hb
    · have z : (if b ∈ cs.map (·.2) then some (HO.tbl #[]) else none) = some u := z
      rw [if_neg hb] at z
      cases z
  cases hk : K.lookup a with
  | none =>
    let H : Hp := fun b => if b = a then some (.frz { cls := .type "list", data := .seq vs.toArray 0 } (.lst (ns.map V.int))) else H0 b
    have Ha : H a = some (.frz { cls := .type "list", data := .seq vs.toArray 0 } (.lst (ns.map V.int))) := if_pos rfl
    have Hn : ∀ b, b ≠ a → H b = H0 b := fun b hb => if_neg hb
    have hH : ∀ p ∈ cs, H p.2 = some (.tbl #[]) := fun p hp => (Hn _ fun z => aT (by rw [← z]; exact memT p hp)).trans (if_pos (memT p hp))
    have hO : ∀ b, H b = none ∨ b ∈ cs.map (·.2) ∨ ∃ ob xs, H b = some (.frz ob (.lst xs)) := fun b => by
      by_cases hb : b = a
      · exact .inr (.inr ⟨_, _, by rw [hb]; exact Ha⟩)
      · by_cases hb2 : b ∈ cs.map (·.2)
        · exact .inr (.inl hb2)
        · exact .inl ((Hn b hb).trans (if_neg hb2))
    refine law_core (H := H) KX hns hb hbb hlim hg hT nT C hbm ha F hbind hH hO (hsp H hH hO (.inl (.inr ⟨_, Ha⟩))) (fun b u z => ?_) (fun b z => ?_) fun _ => hk
    · by_cases hb : b = a
      · rw [hb, Ha] at z
        cases z
        rw [hb]
        exact ⟨ha, by rw [List.length_map]; exact hl, vs, 0, rv, ha⟩
      · exact okT H b u (Hn b hb) z
    · by_cases hb : b = a
      · exact .inl hb
      · by_cases hb2 : b ∈ cs.map (·.2)
        · exact .inr hb2
        · exact absurd ((Hn b hb).trans (if_neg hb2)) z
  | some o =>
    have e := KX a o hk
    rw [ha] at e
    cases e
    have hO : ∀ b, H0 b = none ∨ b ∈ cs.map (·.2) ∨ ∃ ob xs, H0 b = some (.frz ob (.lst xs)) := fun b => by
      by_cases hb2 : b ∈ cs.map (·.2)
      · exact .inr (.inl hb2)
      · exact .inl (if_neg hb2)
    have hH : ∀ p ∈ cs, H0 p.2 = some (.tbl #[]) := fun p hp => if_pos (memT p hp)
    refine law_core (H := H0) KX hns hb hbb hlim hg hT nT C hbm ha F hbind hH hO (hsp H0 hH hO (.inr ⟨_, vs.toArray, 0, hk, rfl, rfl, rfl, by rw [List.size_toArray, lenV]; exact hl, rv⟩)) (fun b u z => okT H0 b u rfl z) (fun b z => ?_) fun z => absurd (if_neg aT) z
    by_cases hb2 : b ∈ cs.map (·.2)
    · exact .inr hb2
    · exact absurd (if_neg hb2) z

/-- a def's promise where the caller is the law's own -/
theorem law_of {P : Program} {w : World} {K : PySem.W.Frag} {mg : Str → Option Value} {base : Heap} {k : Nat} {f : Addr} {x qual : Str} {st : Stmt} {oc kV doc pm cdv ct : Value} {an od : Option Addr} {osl : Array (Option Value)} {N ps : List Str} {sp : Sp}
    (lk : K.lookup f = some ⟨oc, od, .func (PySem.W.fnOf x qual (defArgs st) (defBody st) (defScope st) .none kV doc pm an cdv ct), osl⟩) (hcd : PySem.W.codeIn K cdv qual = true) (S : FnScope N ps (defScope st)) (hr : Room (k + 1) callerA)
    (len : ∀ vs H Q E, sp vs H Q E → vs.length = ps.length)
    (hbody : ∀ (outer : List Env) (s : Shared) (H : Hp) (vs : List V) (Q : VK) (E : XK), Room k (callerA.deeper (envOfC qual (defScope st) s.heap.objs.size f cdv)) → sp vs H Q E →
      ∃ t, PSs (cxOf CX0 P w K mg base N qual (defScope st) f cdv callerA outer s H E) (defBody st) t ∧ t { nx := fun _ H' => Q .non H', rt := Q } (L2.start N vs) H) :
    LawOk P w K mg base f (PySem.W.fnOf x qual (defArgs st) (defBody st) (defScope st) .none kV doc pm an cdv ct) ps sp := fun outer s H args us vs Q E e0 hb r hsp => by
  have hl := len vs H Q E hsp
  have KX := PySem.W.Frag.In.keeps e0.mod.kin fun b o e => (e0.bs b o e).1
  have lim := Heap.NoLimit.keeps e0.mod.nolimit fun b o e => (e0.bs b o e).1
  refine codeAny_call_function hr.depth (KX f _ lk) rfl S.co S.gen rfl (PySem.W.codeRec_of KX hcd) (hb _ _ _ _ ?_)
  refine wpAny_newFunctionEnv_cells S.kind (fun y hy => ?_) fun env he s1 z => ?_
  · obtain ⟨n, v⟩ := y
    rcases S.par n (List.of_mem_zip hy).1 with q | q
    · exact .inl q
    · exact .inr ⟨q, PySem.W.cellsFrom_some _ _ [] (.inl q)⟩
  · subst he
    refine ⟨lim.keeps z.toInCall.keep, codeAny_func ?_⟩
    obtain ⟨t, ht, hq⟩ := hbody outer s H vs Q E (hr.deeper _) hsp
    have I := inv_start (CX := CX0) (P := P) (w := w) (E := E) S hr.hd e0 hl r z
    refine wpAny_mono (ht.run [] s1 _ H _ I hq) (fun fl s' hs => ?_) fun e s' hs => hs
    have fin : ∀ {σ' H' v u}, L2.Inv (cxOf CX0 P w K mg base N qual (defScope st) f cdv callerA outer s H E) [] σ' H' s' → RelV v u → Q v H' → CE outer P w H s Q u s' := fun {σ' H' v u} J rv q => ⟨v, H', J.os, J.bare, J.base, J.hok, rv, q⟩
    cases fl with
    | next =>
      obtain ⟨σ', H', J, q⟩ := hs
      exact fin J (show RelV .non Value.none from rfl) q
    | ret u =>
      obtain ⟨v, σ', H', J, rv, q⟩ := hs
      exact fin J rv q
    | _ => obtain ⟨_, _, _, q⟩ := hs; exact q.elim
/-- the law: its script is a list of ints; the tables of code are empty -/
def spLawT (K : PySem.W.Frag) (T : List (Addr × Str)) : Sp := fun vs H Q _ => ∃ (a : Addr) (ns : List Int), vs = [.ref a] ∧ SqL K H a (ns.map V.int) ∧ (∀ p ∈ T, H p.1 = some (.tbl #[])) ∧ ns.length ≤ 63 ∧ ∀ H', Q (.bl true) H'
section
variable {P : Program} {w : World} {K : PySem.W.Frag} {mg : Str → Option Value} {base : Heap}
theorem law_start {N : List Str} {p : Str} {H : Hp} {a : Addr} {ns : List Int} {T : List (Addr × Str)} (hN : 1 ≤ N.length) (hS : SqL K H a (ns.map V.int)) (hT : ∀ p ∈ T, H p.1 = some (.tbl #[])) :
    Ok ⟨K, fun _ => none, [], [], [], T⟩ (L2.start N [.ref a]) H (startD N [some (.scr ns)]) {} := by
  have hds : IsL K [] H [.scr ns] [.ref a] := by
    refine ⟨.ref a, [], rfl, ⟨a, rfl, ?_⟩, rfl⟩
    rcases hS with (h | ⟨o, h⟩) | h
    · exact .inr (.inr ⟨by simp, h⟩)
    · exact .inl ⟨o, h⟩
    · exact .inr (.inl h)
  refine ⟨⟨?_, List.nodup_nil, ?_, ?_⟩, ?_, ?_, ?_, (fun e he => by cases he), (fun e he => by cases he), ⟨fun e he => LamX.TabS.nil (hT e he), fun a ps z => by cases z⟩, ?_, ?_⟩
  · intro a ha; cases ha
  · intro e he; cases he
  · intro e he; cases he
  · intro a o _ h; cases h
  · intro a ha; cases ha
  · intro e he; cases he
  · rw [start_len (by simpa using hN), startD_len (by simpa using hN)]
  · exact start_sl hds
theorem law_fits {T : List (Addr × Str)} {Q : VK} (q : ∀ H', Q (.bl true) H') : Fits ⟨K, fun _ => none, [], [], [], T⟩ (fun _ _ => False) (fun d _ => d = .bl true) (fun _ _ => False) (fun _ _ => False) { nx := fun _ H' => Q .non H', rt := Q } := by
  refine ⟨?_, ?_, ?_, ?_⟩
  · intro σ' H' ρ' s' o k; exact k.elim
  · intro v σ' H' ρ' d s' o i k
    have k : d = .bl true := k
    subst k
    rw [show v = .bl true from i]
    exact q H'
  · intro σ' H' ρ' s' o k; exact k
  · intro σ' H' ρ' s' o k; exact k
theorem okLawC {x qual : Str} {st : Stmt} {f : Addr} {fd : FuncData} {N : List Str} {p : Str} {k : Nat} {T : List (Addr × Str)} (F : Fun K x qual st f fd) (Sc : FnScope N [p] (defScope st)) (hN : 1 ≤ N.length) (hr : Room (k + 1) callerA)
    (hbody : ∀ (cdv : Value) (outer : List Env) (s : Shared) (H : Hp) (E : XK), Room k (callerA.deeper (envOfC qual (defScope st) s.heap.objs.size f cdv)) →
      ∃ t, PSs (cxOf CX0 P w K mg base N qual (defScope st) f cdv callerA outer s H E).nox (defBody st) t ∧
        ∀ (ns : List Int), ns.length ≤ 63 → LS ⟨K, fun _ => none, [], [], [], T⟩ t (startD N [some (.scr ns)]) {} (fun _ _ => False) (fun d _ => d = .bl true) (fun _ _ => False) (fun _ _ => False)) :
    LawOk P w K mg base f fd [p] (spLawT K T) := by
  obtain ⟨oc, od, kV, dc, pm, an, cdv, ct, sl, rfl, lk, hcd⟩ := F.ex
  refine law_of lk hcd Sc hr (fun vs H Q E h => ?_) fun outer s H vs Q E hr h => ?_
  · obtain ⟨a, ns, rfl, _⟩ := h
    rfl
  · obtain ⟨a, ns, rfl, hS, hT, hl, q⟩ := h
    obtain ⟨t, ht, hL⟩ := hbody cdv outer s H E hr
    exact ⟨t, ht.nox, hL ns hl _ (L2.start N [.ref a]) H (law_start (p := p) hN hS hT) (law_fits q)⟩
/-- .. that holds lambdas -/
theorem okLawL {x qual : Str} {st : Stmt} {f c0 : Addr} {fd : FuncData} {N : List Str} {p : Str} {k : Nat} {T : List (Addr × Str)} (F : FunC K x qual st f fd c0) (Sc : FnScope N [p] (defScope st)) (hN : 1 ≤ N.length) (hr : Room (k + 1) callerA)
    (hbody : ∀ (outer : List Env) (s : Shared) (H : Hp) (E : XK), Room k (callerA.deeper (envOfC qual (defScope st) s.heap.objs.size f (.ref c0))) →
      ∃ t, PSs (cxOf CX0 P w K mg base N qual (defScope st) f (.ref c0) callerA outer s H E).nox (defBody st) t ∧
        ∀ (ns : List Int), ns.length ≤ 63 → LS ⟨K, fun _ => none, [], [], [], T⟩ t (startD N [some (.scr ns)]) {} (fun _ _ => False) (fun d _ => d = .bl true) (fun _ _ => False) (fun _ _ => False)) :
    LawOk P w K mg base f fd [p] (spLawT K T) := by
  obtain ⟨oc, kV, dc, pm, ct, an, od, sl, rfl, lk, hcd⟩ := F
  refine law_of lk hcd Sc hr (fun vs H Q E h => ?_) fun outer s H vs Q E hr h => ?_
  · obtain ⟨a, ns, rfl, _⟩ := h
    rfl
  · obtain ⟨a, ns, rfl, hS, hT, hl, q⟩ := h
    obtain ⟨t, ht, hL⟩ := hbody outer s H E hr
    exact ⟨t, ht.nox, hL ns hl _ (L2.start N [.ref a]) H (law_start (p := p) hN hS hT) (law_fits q)⟩
end
/-- the end, the law called by its caller alone; cs: the code objects of the defs that hold lambdas, with their tables -/
def LawAtC (l : PySem.W.OpenLaw) (w : World) (K : PySem.W.Frag) (x : Str) (mg : Str → Option Value) (fa : Addr) (h : Heap) : Prop :=
  ∃ (fd : FuncData) (cs : List (Addr × Addr)) (T : List (Addr × Str)), (∀ p ∈ cs, h.get? p.2 = some { cls := .none, data := .fields #[] }) ∧ (∀ p ∈ cs, K.lookup p.2 = none) ∧ (∀ p ∈ cs, PySem.W.CodeHd h p.1 p.2) ∧ (∀ (s : Shared) (u : Value), BindsTo s fd ⟨[u], []⟩ [(x, u)]) ∧
    (∀ t ∈ T, ∃ p ∈ cs, p.2 = t.1) ∧ ∀ base : Heap, K.In base → base.Ns mainGlobals mg → (∀ p ∈ cs, LamX.TabB base mg p.1 p.2) → LawOk l.prog w K mg base fa fd [x] (spLawT K T)
theorem walk_ofC {l : PySem.W.OpenLaw} {q : Program} {loose : List Str} {XP : (Str → Option Value) → Heap → Prop} {YP : World → Heap → Prop} {d : DefRec} {KK : Params → PySem.W.Frag} {x : Str}
    (hn : l.most = some 63) (hdf : d.params.defaults = []) (hY : ∀ (w : World) (h : Heap), YP w h → (KK w.params).In h)
    (F : ∀ (w : World) (mg : Str → Option Value) (fa : Addr) (h : Heap), YP w h → (KK w.params).In h → h.Ns mainGlobals mg → mg d.name = some (.ref fa) → LawAtC l w (KK w.params) x mg fa h) :
    PySem.W.WalkO q loose XP YP l.row.toRowW d [] (fun f vs => PySem.call f vs) := by
  refine Att.attach_callB hn hdf fun w s0 s1 mg mb fa o pm cd doc a vs ns TT YY ho hd hcd hmg hobj hints hlen hbits hg => ?_
  have inK := hY w _ YY
  obtain ⟨fd, cs, T, hT, nT, hC, hb, hTc, hF⟩ := F w mg fa _ YY inK TT.T.g hmg
  exact law_callC (cs := cs) inK TT.T.g TT.T.b TT.T.builtins TT.T.nolimit hg hT nT hC TT.T.bmain hobj hints (Nat.le_trans hlen (by decide)) (fun base h1 h2 h3 => hF base h1 h2 h3) hb (fun H hH hO hS => ⟨a, ns, rfl, hS, fun t ht => by
    obtain ⟨p, hp, e⟩ := hTc t ht
    rw [← e]
    exact hH p hp, hlen, fun _ => rfl⟩)

/-! ### repr -/
mutual
def pyd : D → PyData
  | .non => .none
  | .bl b => .bool b
  | .int i => .int i
  | .str x => .str x
  | .tup ds => .tuple (pydL ds)
  | .lst ds => .list (pydL ds)
  | _ => .none
def pydL : List D → List PyData
  | [] => []
  | d :: ds => pyd d :: pydL ds
end
mutual
def rok : D → Prop
  | .non => True
  | .bl _ => True
  | .int i => i.natAbs < 2 ^ 1900
  | .str x => (x.cps.toList.all fun c => decide (c < 16 ^ 8)) = true
  | .tup ds => rokL ds
  | .lst ds => rokL ds
  | _ => False
def rokL : List D → Prop
  | [] => True
  | d :: ds => rok d ∧ rokL ds
end
structure Rpr (d : D) : Prop where
  ok : rok d
  bk : (pyd d).bulk ≤ 20000
  dp : (pyd d).depth ≤ 100
def reprD (d : D) : Str := (pyd d).shown
theorem big_log {n : Nat} (h : n < 2 ^ 1900) : n.log2 < 1920 := by
  by_cases z : n = 0
  · rw [z]; decide
  · have := (Nat.log2_lt z).mpr (Nat.lt_of_lt_of_le h (Nat.pow_le_pow_right (by decide) (show 1900 ≤ 1920 by decide)))
    exact this
theorem int_len {i : Int} (h : i.natAbs < 2 ^ 1900) : (PyData.int i).shown.length ≤ 600 := by
  have key : ∀ n : Nat, n < 2 ^ 1900 → n.repr.toList.length ≤ 599 := fun n hn => by
    rw [Nat.repr_eq_ofList_toDigits, String.toList_ofList]
    exact (Nat.length_toDigits_le_iff (by decide) (by decide)).mpr (Nat.lt_of_lt_of_le hn (by decide +kernel))
  rw [PyData.shown.eq_3, PyProof.Rows.ofString_length]
  cases i with
  | ofNat n => exact Nat.le_succ_of_le (key n h)
  | negSucc n =>
    have := key (n + 1) h
    show ("-" ++ (n + 1).repr).toList.length ≤ 600
    rw [String.toList_append, List.length_append]
    have e : ("-" : String).toList.length = 1 := by decide
    omega
mutual
theorem rok_show : ∀ d : D, rok d → (pyd d).showable = true ∧ (pyd d).hasDict = false ∧ PyData.leavesShort 600 (pyd d) = true
  | .non, _ => ⟨rfl, rfl, rfl⟩
  | .bl b, _ => ⟨rfl, rfl, rfl⟩
  | .int i, h => ⟨decide_eq_true (big_log h), rfl, decide_eq_true (int_len h)⟩
  | .str x, h => ⟨rfl, rfl, h⟩
  | .tup ds, h => rokL_show ds h
  | .lst ds, h => rokL_show ds h
theorem rokL_show : ∀ ds : List D, rokL ds → PyData.showableAll (pydL ds) = true ∧ PyData.hasDictAll (pydL ds) = false ∧ PyData.leavesShortAll 600 (pydL ds) = true
  | [], _ => ⟨rfl, rfl, rfl⟩
  | d :: ds, h => by
    obtain ⟨h1, h2, h3⟩ := rok_show d h.1
    obtain ⟨k1, k2, k3⟩ := rokL_show ds h.2
    refine ⟨?_, ?_, ?_⟩
    · show ((pyd d).showable && PyData.showableAll (pydL ds)) = true
      rw [h1, k1]; rfl
    · show ((pyd d).hasDict || PyData.hasDictAll (pydL ds)) = false
      rw [h2, k2]; rfl
    · show (PyData.leavesShort 600 (pyd d) && PyData.leavesShortAll 600 (pydL ds)) = true
      rw [h3, k3]; rfl
end
theorem Rpr.fits {d : D} (h : Rpr d) : (pyd d).shown.length ≤ sizeLine := by
  have := PyData.shown_le_bulk 600 (by decide) (pyd d) (rok_show d h.ok).2.2
  have := h.bk
  show _ ≤ 16777216
  omega
mutual
theorem reads_of {X : Cx} {pins : List (Addr × Obj)} {σ : L2.St} {H : Hp} {s : Shared} {Xs : List Addr} (I : L2.Inv X pins σ H s) : ∀ (d : D) (v : V) (u : Value), rok d → Is X.K Xs H d v → RelV v u → ∃ as, Reads s.heap u (pyd d) as
  | .non, v, u, _, i, r => by
    cases (show v = .non from i); cases (show u = .none from r); exact ⟨[], .none⟩
  | .bl b, v, u, _, i, r => by
    cases (show v = .bl b from i); cases (show u = .bool b from r); exact ⟨[], .bool b⟩
  | .int j, v, u, _, i, r => by
    cases (show v = .int j from i)
    obtain ⟨t, rfl⟩ := (show ∃ t, u = .int j t from r)
    exact ⟨[], .int j t⟩
  | .str x, v, u, _, i, r => by
    cases (show v = .str x from i)
    obtain ⟨t, rfl⟩ := (show ∃ t, u = .str x t from r)
    exact ⟨[], .str x t⟩
  | .tup ds, v, u, h, i, r => by
    obtain ⟨a, xs, rfl, h1, h2⟩ := i
    cases (show u = .ref a from r)
    obtain ⟨its, hv, ⟨o, e1, e2, n, e3⟩, _⟩ := I.tuple (a := a) (xs := xs) (h1.elim (fun z => .inl (.inl z)) .inr)
    obtain ⟨as, hr⟩ := readsL_of I ds xs its h h2 hv
    exact ⟨as, .tuple e1 e2 e3 (by rw [List.toList_toArray]; exact hr)⟩
  | .lst ds, v, u, h, i, r => by
    obtain ⟨a, xs, rfl, _, h1, h2⟩ := i
    cases (show u = .ref a from r)
    obtain ⟨its, n, hv, e1, _⟩ := I.lst h1
    obtain ⟨as, hr⟩ := readsL_of I ds xs its h h2 hv
    exact ⟨a :: as, .list e1 rfl rfl (by rw [List.toList_toArray]; exact hr)⟩
theorem readsL_of {X : Cx} {pins : List (Addr × Obj)} {σ : L2.St} {H : Hp} {s : Shared} {Xs : List Addr} (I : L2.Inv X pins σ H s) : ∀ (ds : List D) (vs : List V) (us : List Value), rokL ds → IsL X.K Xs H ds vs → Vals vs us → ∃ as, ReadsAll s.heap us (pydL ds) as
  | [], vs, us, _, i, r => by
    cases (show vs = [] from i)
    cases r
    exact ⟨[], .nil⟩
  | d :: ds, vs, us, h, i, r => by
    obtain ⟨x, q, rfl, i1, i2⟩ := i
    cases r with
    | cons r1 r2 =>
      obtain ⟨as, h1⟩ := reads_of I d x _ h.1 i1 r1
      obtain ⟨bs, h2⟩ := readsL_of I ds q _ h.2 i2 r2
      exact ⟨as ++ bs, .cons h1 h2⟩
end
def rRepr (K : PySem.W.Frag) : List V → Hp → VK → Prop := fun xs H Q => ∃ v d Xs, xs = [v] ∧ Is K Xs H d v ∧ Rpr d ∧ Q (.str (reprD d)) H
theorem call_repr {X : Cx} {k : Nat} (hr : Room k X.A) (hg : X.A.guards = some []) : CallR X (.builtin "repr") (rRepr X.K) := fun pins s σ H xs us Q I hv h => by
  obtain ⟨v, d, Xs, rfl, i, r, q⟩ := h
  cases hv with
  | cons r1 r2 =>
    cases r2
    rename_i u
    have fin : ∀ (h' : Heap) (t : Tok) (tk : Nat), (∀ b o, s.heap.get? b = some o → h'.get? b = some o) → EP X pins σ Q (.str (reprD d) t) { heap := h', gens := s.gens, drawn := s.drawn, toks := tk, os := s.os } := fun h' t tk e => ⟨.str (reprD d), H, I.kept e, ⟨t, rfl⟩, q⟩
    obtain ⟨as, hR⟩ := reads_of I d v u r.ok i r1
    obtain ⟨s1, s2, _⟩ := rok_show d r.ok
    have hu := hr.un
    have hd := r.dp
    have ref : ∀ a, u = .ref a → wpAny (model X.prog X.w) X.A (call (.builtin "repr") [u]) (EP X pins σ Q) X.xe s := fun a e => by
      rw [e] at hR ⊢
      exact repr_of_reads' hR s1 (fun z => by rw [s2] at z; cases z) hg (by omega) (fun _ _ e => e) (fun h' t tk e => fin h' t tk e) r.fits
    cases d with
    | non => cases (show v = .non from i); cases (show u = .none from r1); exact P.repr_of_none (fin _ _ _ fun _ _ e => e)
    | bl b => cases (show v = .bl b from i); cases (show u = .bool b from r1); exact P.repr_of_bool (by
        have := fin s.heap s.toks (s.toks + 1) fun _ _ e => e
        exact this)
    | int j =>
      cases (show v = .int j from i)
      obtain ⟨t, rfl⟩ := (show ∃ t, u = .int j t from r1)
      exact P.repr_of_int (big_log r.ok) (fin _ _ _ fun _ _ e => e)
    | str x =>
      cases (show v = .str x from i)
      obtain ⟨t, rfl⟩ := (show ∃ t, u = .str x t from r1)
      exact P.repr_of_str (fin _ _ _ fun _ _ e => e) r.fits
    | tup ds => obtain ⟨a, xs, rfl, _, _⟩ := i; exact ref a r1
    | lst ds => obtain ⟨a, xs, rfl, _, _⟩ := i; exact ref a r1
    | _ => exact r.ok.elim
theorem CbD.repr {W : Wd} {s : Rs} {Ψ : D → Prop} {d : D} (hd : Rpr d) (h : Ψ (.str (reprD d))) : CbD W (rRepr W.K) s [d] Ψ := fun H vs r h1 Q q => by
  obtain ⟨v, rfl, hv⟩ := IsL.one h1
  exact ⟨v, d, adrs s, rfl, hv, hd, q (.str (reprD d)) H (.str (reprD d)) (Same.refl H) rfl h⟩

/-! ### xs[::-1] -/
theorem IsL.rev {K : PySem.W.Frag} {Xs : List Addr} {H : Hp} : ∀ {ds : List D} {vs : List V}, IsL K Xs H ds vs → IsL K Xs H ds.reverse vs.reverse
  | [], vs, h => by cases (show vs = [] from h); rfl
  | d :: ds, vs, h => by
    obtain ⟨x, r, rfl, h1, h2⟩ := h
    rw [List.reverse_cons, List.reverse_cons]
    exact (IsL.rev h2).append ⟨x, [], rfl, h1, rfl⟩
section
variable {W : Wd} {ρ : En} {s : Rs} {te : TE}
theorem LEL.revL {Φ : List D → Rs → Prop} (h : LE W te ρ s fun x s1 => ∃ ds, x = .lst ds ∧ Φ ds.reverse s1) : LEL W (tRevL W.K te) ρ s Φ := fun σ H o Q q => by
  refine h σ H o _ fun v H1 x s1 o1 p1 i1 k => ?_
  obtain ⟨ds, rfl, k⟩ := k
  obtain ⟨a, xs, rfl, _, h1, h2⟩ := i1
  refine ⟨a, xs, rfl, SqL.of h1, fun p hp => ?_⟩
  obtain ⟨o2, p2⟩ := o1.newL hp (IsL.rev h2)
  exact q p _ _ s1 o2 (p1.trans p2) k
end
/-! ### defs with more promises than one -/
theorem FnOk_orX {P : Program} {w : World} {K : PySem.W.Frag} {mg : Str → Option Value} {base : Heap} {CX : CXT} {k : Nat} {f : Addr} {fd : FuncData} {ps : List Str} {sp1 sp2 : Sp} (F1 : FnOk P w K mg base CX k f fd ps sp1) (F2 : FnOk P w K mg base CX k f fd ps sp2) :
    FnOk P w K mg base CX k f fd ps (fun vs H Q E => sp1 vs H Q E ∨ sp2 vs H Q E) :=
  ⟨fun vs H Q E h => h.elim (F1.len vs H Q E) (F2.len vs H Q E), fun A outer s H args us vs Q E hr e0 hb r h => h.elim (F1.run A outer s H args us vs Q E hr e0 hb r) (F2.run A outer s H args us vs Q E hr e0 hb r)⟩
section
variable {W : Wd} {ρ : En} {s : Rs} {N : En → Rs → Prop} {R : D → Rs → Prop} {B C : En → Rs → Prop} {te : TE} {ta : TA} {Cl CE : Addr} {m : Str} {Φ : D → Rs → Prop} {sp : Sp} {E : XK}
theorem LE.methS {S : PSp} (hs : ∀ vs H Q E, liftP W.K W.tb S vs H Q E → sp vs H Q E) (h : LE W te ρ s fun x s1 => ∃ fs, x = .ins Cl fs ∧ fs.lookup m = none ∧ LA W ta ρ s1 fun ds s2 => S (.ins Cl fs :: ds) fun d => Φ d s2) : LE W (tMeth Cl m sp [] E te ta) ρ s Φ := fun σ H o Q q => by
  refine h σ H o _ fun w H1 x s1 o1 p1 i1 k => ?_
  obtain ⟨fs, rfl, hl, k⟩ := k
  obtain ⟨a, dx, vs, rfl, h0, h1, h2⟩ := id i1
  refine ⟨a, dx, vs, rfl, h1, h2.none hl, k σ H1 o1 _ fun ws H2 ds s2 o2 p2 i2 k2 => ?_⟩
  rw [List.append_nil]
  refine hs _ _ _ _ ⟨adrs s2, .ins Cl fs :: ds, fun d => Φ d s2, o2.rk.nd, o2.rk.mu, o2.tbs.t, ⟨.ref a, ws, rfl, p2.is i1, i2⟩, k2, fun d v H' f e i => ?_⟩
  exact q v H' d s2 (o2.ext e) ((p1.trans p2).trans (o2.presT e)) i f
/-- C(..), __init__ raises for sure -/
theorem LE.makeR {S : RSp} (hX : W.X0 = []) (hE : ∀ H', Same W.H0 H' → LamX.Tabs W.tb H' → E (.ref CE) none H') (h : LA W ta ρ s fun ds s2 => s2 = s ∧ S (.ins Cl [] :: ds)) : LE W (tMake Cl (liftR W.K W.tb CE S) [] E ta) ρ s Φ := fun σ H o Q q =>
  LER.make h σ H o E Q fun H' o' _ => hE H' (fun a u e => o'.fr a u (by rw [hX]; simp) e) o'.tbs.t
/-! ### try: x = e, with clauses that name no error -/
abbrev Hdl := List (Value × (Addr → Value → Option Addr → TS))
def tTryL (K : PySem.W.Frag) (n : Nat) (tb : XK → TS) (l : Hdl) : TS := fun D σ H => ∃ Ech : XK, (∀ cls d σ' H', Ech cls d H' → σ'.length = n → wMany K (fun _ _ _ _ => False) D l cls d σ' H') ∧ tb Ech D σ H
theorem LS.tryOk {n : Nat} {tb : XK → TS} {l : Hdl} (h : ∀ E, LS W (tb E) ρ s N R B C) : LS W (tTryL W.K n tb l) ρ s N R B C := fun Dn σ H o f => ⟨fun _ _ _ => False, fun _ _ _ _ z => z.elim, h _ Dn σ H o f⟩
/-- nothing is known of the names -/
theorem Ok.blank {σ σ' : L2.St} {H : Hp} {n : Nat} (o : Ok W σ H ρ s) (hn : σ'.length = n) : Ok W σ' H (List.replicate n none) s :=
  ⟨o.rk, o.fr, o.sub, o.dx, o.ox, o.tms, o.tbs, by rw [List.length_replicate]; exact hn, fun i d h => by
    rw [List.getElem?_replicate] at h
    split at h <;> cases h⟩
/-- the raised error's clause -/
inductive Hit (K : PySem.W.Frag) (CE : Addr) (ts : Addr → Value → Option Addr → TS) : Hdl → Prop
  | here {c : Value} {l : Hdl} (h : PySem.W.exmOne K (.ref CE) c = some true) : Hit K CE ts ((c, ts) :: l)
  | next {c : Value} {tu : Addr → Value → Option Addr → TS} {l : Hdl} (h : PySem.W.exmOne K (.ref CE) c = some false) (k : Hit K CE ts l) : Hit K CE ts ((c, tu) :: l)
theorem Hit.many {K : PySem.W.Frag} {ts : Addr → Value → Option Addr → TS} {Wo : WX} {D : Ends} {d : Option Addr} {σ : L2.St} {H : Hp} {l : Hdl} (h : Hit K CE ts l) (k : ∀ a, H a = none → ts a (.ref CE) d D σ H) : wMany K Wo D l (.ref CE) d σ H := by
  induction h with
  | here h => exact ⟨true, h, fun _ => k, fun z => Bool.noConfusion z⟩
  | next h _ ih => exact ⟨false, h, fun z => Bool.noConfusion z, fun _ => ih⟩
theorem LS.tryBad {n : Nat} {tb : XK → TS} {tee : XK → TE} {l : Hdl} {ts : Addr → Value → Option Addr → TS} (hb : ∀ E D σ H, (∃ Q, tee E σ H Q) → (∀ Q, tee E σ H Q) → tb E D σ H) (h : LER W tee CE ρ s) (hit : Hit W.K CE ts l)
    (k : ∀ a cls d, LS W (ts a cls d) (List.replicate n none) s N R B C) : LS W (tTryL W.K n tb l) ρ s N R B C := fun Dn σ H o f => by
  refine ⟨fun cls d H' => cls = .ref CE ∧ d = none ∧ Ok W σ H' ρ s, ?_, ?_⟩
  · rintro cls d σ' H' ⟨rfl, rfl, o'⟩ hl
    exact hit.many fun a ha => k a _ _ Dn σ' H' (o'.blank hl) f
  · have key : ∀ Q, tee (fun cls d H' => cls = .ref CE ∧ d = none ∧ Ok W σ H' ρ s) σ H Q := fun Q => h σ H o _ Q fun H' o' _ => ⟨rfl, rfl, o'⟩
    exact hb _ Dn σ H ⟨_, key fun _ _ => True⟩ key
end

theorem ps_tryL {X : Cx} {body : List Stmt} {h0 : ExceptHandler} {hds : List ExceptHandler} {l : Hdl} {pos : Pos} {tb : XK → TS} (hs : X.stack = X.env :: X.outer) (hf : X.env.frame = some X.env.locals)
    (hb : ∀ (E : XK) (pn : List (Addr × Obj)) (xe : Value → Shared → Prop), Passes (L2.CX X.prog X.w) (X.tr pn xe) E → PSs (X.tr pn xe) body (tb E)) (hh : HdsOk X (h0 :: hds) l) : PS X (.Try body (h0 :: hds) [] [] pos) (tTryL X.K X.N.length tb l) :=
  ps_try_many (tb := fun W D σ H => ∃ Ech : XK, (∀ cls d σ' H', Ech cls d H' → σ'.length = X.N.length → W cls d σ' H') ∧ tb Ech D σ H) hs hf L2.takes0 (fun W pn xe tk _ => ⟨fun pins s' σ H D I h' => by
    obtain ⟨Ech, hW, h2⟩ := h'
    exact (hb Ech pn xe (passes_call (takes_len tk) fun cls d σ H e hl => hW cls d σ H e hl)).run pins s' σ H D I h2⟩) hh
end Pw

namespace Pw
open PySem PySem.Spec PyProof.Rows L2
/-! ### further knots -/
/-- the knots, and one at t that keeps the last position, unless the last knot is at t -/
def ext (ps : List Kn) (t : Rat) : List Kn := match ps[ps.length - 1]? with
  | some p => if p.1 < t then ps ++ [(t, p.2)] else ps
  | none => ps
theorem ext_at {ps : List Kn} {t : Rat} {p : Kn} (h : ps[ps.length - 1]? = some p) : ext ps t = if p.1 < t then ps ++ [(t, p.2)] else ps := by
  unfold ext; rw [h]
theorem get_last {α : Type} (l : List α) (x : α) : (l ++ [x])[(l ++ [x]).length - 1]? = some x := by
  rw [List.length_append, List.length_singleton, Nat.add_sub_cancel, List.getElem?_append_right (Nat.le_refl _), Nat.sub_self]; rfl
theorem ext_last {ps : List Kn} {t : Rat} {p : Kn} (h : ps[ps.length - 1]? = some p) (ht : p.1 ≤ t) : ∃ q : Kn, (ext ps t)[(ext ps t).length - 1]? = some q ∧ q.1 = t := by
  rw [ext_at h]
  split
  · exact ⟨_, get_last _ _, rfl⟩
  · exact ⟨p, h, by grind⟩
theorem ext_asc {ps : List Kn} {t : Rat} (h : asc ps) : asc (ext ps t) := by
  unfold ext
  split
  · split
    · rename_i p hp hlt
      exact asc_snoc h fun q hq => by
        have := hp.symm.trans hq
        cases this
        exact hlt
    · exact h
  · exact h
theorem ext_len (ps : List Kn) (t : Rat) : (ext ps t).length ≤ ps.length + 1 := by
  unfold ext
  split
  · split
    · rw [List.length_append]; exact Nat.le_refl _
    · omega
  · omega
theorem ext_pos {ps : List Kn} {t : Rat} (h : 0 < ps.length) : 0 < (ext ps t).length := by
  unfold ext
  split
  · split
    · rw [List.length_append]; omega
    · exact h
  · exact h
theorem ext_fit {ps : List Kn} {t : Rat} {k : Nat} (h : ∀ p ∈ ps, Fit k p.1 ∧ Fit k p.2) (ht : Fit k t) : ∀ p ∈ ext ps t, Fit k p.1 ∧ Fit k p.2 := fun p hp => by
  unfold ext at hp
  split at hp
  · split at hp
    · rename_i q hq _
      rcases List.mem_append.mp hp with z | z
      · exact h p z
      · rw [List.mem_singleton.mp z]
        exact ⟨ht, (h q (List.mem_of_getElem? hq)).2⟩
    · exact h p hp
  · exact h p hp
theorem asc_app {ps qs : List Kn} (h1 : asc ps) (h2 : asc qs) (h3 : ∀ p q, ps[ps.length - 1]? = some p → qs[0]? = some q → p.1 < q.1) : asc (ps ++ qs) :=
  asc_of fun i a b ha hb => by
    rcases Nat.lt_trichotomy (i + 1) ps.length with z | z | z
    · rw [List.getElem?_append_left (by omega)] at ha hb
      exact asc_lt h1 ha hb
    · rw [List.getElem?_append_left (by omega)] at ha
      rw [List.getElem?_append_right (by omega), z, Nat.sub_self] at hb
      exact h3 a b (by rw [show ps.length - 1 = i by omega]; exact ha) hb
    · rw [List.getElem?_append_right (by omega)] at ha hb
      exact asc_lt h2 ha (by rw [show i + 1 - ps.length = i - ps.length + 1 by omega] at hb; exact hb)
/-- later knots, all after t -/
def More (t : Rat) (d : D) (qs : List Kn) : Prop := items d = some (knL qs) ∧ 0 < qs.length ∧ asc qs ∧ ∀ q, qs[0]? = some q → t < q.1
theorem More.good {t : Rat} {d : D} {qs : List Kn} (h : More t d qs) : GoodK d := ⟨qs, h.1, h.2.1, h.2.2.1⟩
theorem More.only {t : Rat} {d : D} {qs rs : List Kn} (h : More t d qs) (k : More t d rs) : qs = rs := knL_inj (Option.some.inj (h.1.symm.trans k.1))
def Rest (ps : List Kn) (t : Rat) : Prop := ∀ p, ps[ps.length - 1]? = some p → p.1 ≤ t
theorem led_asc {ps qs : List Kn} {t : Rat} {d : D} (h : KOk ps) (hr : Rest ps t) (hm : More t d qs) : asc (ext ps t ++ qs) := by
  obtain ⟨p, hp⟩ := get_of_lt (l := ps) (i := ps.length - 1) (by have := h.ne; omega)
  obtain ⟨q, hq, e⟩ := ext_last hp (hr p hp)
  refine asc_app (ext_asc h.asc) hm.2.2.1 fun a b ha hb => ?_
  rw [hq] at ha
  cases ha
  rw [e]
  exact hm.2.2.2 b hb
/-- what is due -/
def Due (ps : List Kn) (t : Rat) (d r : D) : Prop :=
  (¬ Rest ps t ∧ r = .str "rest") ∨ (Rest ps t ∧ ((∃ qs, More t d qs ∧ (ext ps t ++ qs).length ≤ 40 ∧ r = .lst (knL (ext ps t ++ qs))) ∨ ((∀ qs, More t d qs → 40 < (ext ps t ++ qs).length) ∧ r = .str "table")))
theorem Due.only {ps : List Kn} {t : Rat} {d r1 r2 : D} (h1 : Due ps t d r1) (h2 : Due ps t d r2) : r1 = r2 := by
  rcases h1 with ⟨n1, rfl⟩ | ⟨y1, h1⟩
  · rcases h2 with ⟨n2, rfl⟩ | ⟨y2, _⟩
    · rfl
    · exact absurd y2 n1
  · rcases h2 with ⟨n2, _⟩ | ⟨y2, h2⟩
    · exact absurd y1 n2
    · rcases h1 with ⟨qs, a1, a2, rfl⟩ | ⟨b1, rfl⟩
      · rcases h2 with ⟨rs, c1, c2, rfl⟩ | ⟨d1, rfl⟩
        · rw [a1.only c1]
        · exact absurd (d1 qs a1) (by omega)
      · rcases h2 with ⟨rs, c1, c2, rfl⟩ | ⟨d1, rfl⟩
        · exact absurd (b1 rs c1) (by omega)
        · rfl

section
variable {W : Wd} {s : Rs} {Ψ : D → Prop}
theorem OpD.eqX {x y : Str} (h : Ψ (.bl (decide (x = y)))) : OpD W rEq s (.str x) (.str y) Ψ := fun H vx vy r h1 h2 Q q => by
  cases (show vx = .str x from h1)
  cases (show vy = .str y from h2)
  exact ⟨rfl, q _ H (.bl (decide (V.str x = V.str y))) (Same.refl H) rfl (by
    have e : decide (V.str x = V.str y) = decide (x = y) := by rw [Bool.eq_iff_iff]; simp
    rw [e]
    exact h)⟩
theorem OpD.neX {x y : Str} (h : Ψ (.bl (!decide (x = y)))) : OpD W rNe s (.str x) (.str y) Ψ := fun H vx vy r h1 h2 Q q => by
  cases (show vx = .str x from h1)
  cases (show vy = .str y from h2)
  exact ⟨rfl, q _ H (.bl (!decide (V.str x = V.str y))) (Same.refl H) rfl (by
    have e : decide (V.str x = V.str y) = decide (x = y) := by rw [Bool.eq_iff_iff]; simp
    rw [e]
    exact h)⟩
end

/-! ### on a grid, and not large -/
structure On (N b : Nat) (q : Rat) : Prop where
  gr : GN N q
  le : absQ q ≤ ((2 ^ b : Nat) : Rat)
theorem two_pow_le {a b : Nat} (h : a ≤ b) : ((2 ^ a : Nat) : Rat) ≤ ((2 ^ b : Nat) : Rat) := by
  exact_mod_cast Nat.pow_le_pow_right (by decide) h
theorem On.mono {N a b : Nat} {q : Rat} (h : On N a q) (hb : a ≤ b) : On N b q := ⟨h.gr, Rat.le_trans h.le (two_pow_le hb)⟩
theorem GN.dvd {N M : Nat} {q : Rat} (h : GN N q) (hd : N ∣ M) : GN M q := by
  obtain ⟨k, rfl⟩ := hd
  exact h.up k
theorem On.dvd {N M b : Nat} {q : Rat} (h : On N b q) (hd : N ∣ M) : On M b q := ⟨h.gr.dvd hd, h.le⟩
theorem two_pow_succ (b : Nat) : ((2 ^ (b + 1) : Nat) : Rat) = ((2 ^ b : Nat) : Rat) + ((2 ^ b : Nat) : Rat) := by
  rw [Nat.pow_succ, Nat.mul_comm, Nat.two_mul, Rat.natCast_add]
theorem On.add {N b : Nat} {p q : Rat} (h : On N b p) (k : On N b q) : On N (b + 1) (p + q) := ⟨h.gr.add k.gr, by
  have h1 := h.le
  have h2 := k.le
  have h3 := absQ_add_le p q
  rw [two_pow_succ]
  grind⟩
theorem On.sub {N b : Nat} {p q : Rat} (h : On N b p) (k : On N b q) : On N (b + 1) (p - q) := ⟨h.gr.sub k.gr, by
  have h1 := h.le
  have h2 := k.le
  have h3 := absQ_sub_le p q
  rw [two_pow_succ]
  grind⟩
theorem absQ_between {a x b B : Rat} (h1 : a ≤ x) (h2 : x ≤ b) (ha : absQ a ≤ B) (hb : absQ b ≤ B) : absQ x ≤ B := by
  unfold absQ at *
  grind
theorem On.between {N b : Nat} {p q x : Rat} (g : GN N x) (h : On N b p) (k : On N b q) (h1 : p ≤ x) (h2 : x ≤ q) : On N b x := ⟨g, absQ_between h1 h2 h.le k.le⟩
theorem On.of {N b : Nat} {q : Rat} (g : GN N q) (h : Fit b q) : On N b q := ⟨g, h.abs_le⟩
theorem On.fit {N b M : Nat} {q : Rat} (h : On N b q) (h0 : 0 < N) (hN : N < 2 ^ M) : Fit (b + 1 + M) q := h.gr.fit h0 hN h.le (Nat.pow_lt_pow_right (by decide) (Nat.lt_succ_self b))
theorem GN.divInt {n j : Int} (hj : 0 < j) : GN j.natAbs (Rat.divInt n j) := by
  refine ⟨n, ?_⟩
  rw [Rat.divInt_eq_div]
  have e : ((j.natAbs : Nat) : Rat) = (j : Rat) := by
    have : ((j.natAbs : Int) : Rat) = ((j : Int) : Rat) := by rw [show (j.natAbs : Int) = j by omega]
    rw [Rat.intCast_natCast] at this
    exact this
  rw [e]
  have hz : (j : Rat) ≠ 0 := by exact_mod_cast (show j ≠ 0 by omega)
  grind
def N1 : Nat := D0 * 21000000
theorem N1_pos : 0 < N1 := by decide
theorem N1_lt : N1 < 2 ^ 64 := by decide
theorem D0_N1 : D0 ∣ N1 := ⟨_, rfl⟩
/-! ### what is shown of a value -/
structure RI (d : D) : Prop where
  ok : rok d
  bk : (pyd d).bulk ≤ 20
  dp : (pyd d).depth ≤ 3
theorem rokL_all : ∀ {ds : List D}, (∀ d ∈ ds, RI d) → rokL ds ∧ PyData.bulkAll (pydL ds) ≤ 21 * ds.length ∧ PyData.depthAll (pydL ds) ≤ 3
  | [], _ => ⟨trivial, Nat.le_refl _, Nat.zero_le _⟩
  | d :: ds, h => by
    obtain ⟨h1, h2, h3⟩ := rokL_all (ds := ds) fun x hx => h x (List.mem_cons_of_mem _ hx)
    have hd := h d (List.mem_cons_self ..)
    refine ⟨⟨hd.ok, h1⟩, ?_, ?_⟩
    · show (pyd d).bulk + 1 + PyData.bulkAll (pydL ds) ≤ _
      have := hd.bk
      rw [List.length_cons]
      omega
    · show max (pyd d).depth (PyData.depthAll (pydL ds)) ≤ 3
      have := hd.dp
      omega
theorem Rpr.lst {ds : List D} (h : ∀ d ∈ ds, RI d) (hl : ds.length ≤ 900) : Rpr (.lst ds) := by
  obtain ⟨h1, h2, h3⟩ := rokL_all h
  exact ⟨h1, by show PyData.bulkAll (pydL ds) ≤ _; omega, by show PyData.depthAll (pydL ds) + 1 ≤ _; omega⟩
theorem Rpr.tup {ds : List D} (h : ∀ d ∈ ds, RI d) (hl : ds.length ≤ 900) : Rpr (.tup ds) := by
  obtain ⟨h1, h2, h3⟩ := rokL_all h
  exact ⟨h1, by show PyData.bulkAll (pydL ds) ≤ _; omega, by show PyData.depthAll (pydL ds) + 1 ≤ _; omega⟩
theorem RI.rpr {d : D} (h : RI d) : Rpr d := ⟨h.ok, Nat.le_trans h.bk (by decide), Nat.le_trans h.dp (by decide)⟩
theorem rok_fr {q : Rat} (h : Fit 400 q) : rok (fr q) := ⟨pow_up h.1 (by decide), pow_up h.dI (by decide), trivial⟩
theorem RI.kn {p : Kn} (h1 : Fit 400 p.1) (h2 : Fit 400 p.2) : RI (kn p) := ⟨⟨rok_fr h1, rok_fr h2, trivial⟩, (show (6 : Nat) ≤ 20 by decide), (show (2 : Nat) ≤ 3 by decide)⟩

/-- a text that stands against itself, compared as data -/
theorem OpD.neW {W : Wd} {s : Rs} {Ψ : D → Prop} {x : Str} (h1 : SeqAt.shaped (.str x) = true) (h2 : PyData.eqv (.str x) (.str x) = true) (k : Ψ (.bl false)) : OpD W (rNeD W.K) s (.str x) (.str x) Ψ := fun H vx vy r i1 i2 Q q => by
  cases (show vx = .str x from i1)
  cases (show vy = .str x from i2)
  exact ⟨_, _, .str x, .str x, h1, h1, q _ H (.bl false) (Same.refl H) (by rw [h2]; rfl) k⟩
theorem rest_w : SeqAt.shaped (.str "rest") = true ∧ PyData.eqv (.str "rest") (.str "rest") = true := by decide +kernel
theorem table_w : SeqAt.shaped (.str "table") = true ∧ PyData.eqv (.str "table") (.str "table") = true := by decide +kernel
end Pw

namespace Pw
/-! ### two lists of knots: one function, one list of turns -/
def nxt : List Kn → Rat
  | a :: b :: _ => slope a b
  | _ => 0
def tr : Rat → List Kn → List Kn
  | _, [] => []
  | s, a :: r => (if nxt (a :: r) = s then [] else [a]) ++ tr (nxt (a :: r)) r
theorem slopes_cons (a b : Kn) (r : List Kn) : slopes (a :: b :: r) = slope a b :: slopes (b :: r) := rfl
theorem slopes_nxt (a : Kn) (r : List Kn) : (slopes (a :: r))[0]? = some (nxt (a :: r)) := by
  cases r <;> rfl
theorem turnAt_cons (a b : Kn) (r : List Kn) (n : Nat) : turnAt (a :: b :: r) (n + 1) = turnAt (b :: r) n := rfl
theorem turnAt_zero (a b : Kn) (r : List Kn) : turnAt (a :: b :: r) 0 = decide (nxt (b :: r) ≠ slope a b) := by
  unfold turnAt
  rw [slopes_cons, List.getElem?_cons_succ, slopes_nxt, List.getElem?_cons_zero, Bool.eq_iff_iff]
  simp
theorem turnsB_cons (a b : Kn) (r : List Kn) : ∀ n, turnsB (a :: b :: r) (n + 1) = (if nxt (b :: r) = slope a b then [] else [b]) ++ turnsB (b :: r) n
  | 0 => by
    show [] ++ (if turnAt (a :: b :: r) 0 then [b] else []) = _ ++ []
    rw [turnAt_zero, List.nil_append, List.append_nil]
    by_cases h : nxt (b :: r) = slope a b
    · simp [h]
    · simp [h]
  | n + 1 => by
    show turnsB (a :: b :: r) (n + 1) ++ (if turnAt (a :: b :: r) (n + 1) then ((a :: b :: r)[n + 1 + 1]?).toList else []) = _ ++ (turnsB (b :: r) n ++ (if turnAt (b :: r) n then ((b :: r)[n + 1]?).toList else []))
    rw [turnsB_cons a b r n, turnAt_cons, List.append_assoc, List.getElem?_cons_succ]
theorem turnsB_tr : ∀ (r : List Kn) (a : Kn), turnsB (a :: r) r.length = tr (nxt (a :: r)) r
  | [], a => rfl
  | b :: r, a => by
    rw [List.length_cons, turnsB_cons, turnsB_tr r b]
    rfl
theorem turns_cons (a : Kn) (r : List Kn) : turns (a :: r) = a :: tr (nxt (a :: r)) r := by
  unfold turns
  rw [List.length_cons, Nat.add_sub_cancel, turnsB_tr]
  rfl
theorem posQ_one (a : Kn) (t : Rat) : posQ [a] t = a.2 := by
  show a.2 + 0 * (t - a.1) = a.2
  grind
theorem posQ_two (a b : Kn) (r : List Kn) (t : Rat) : posQ (a :: b :: r) t = if t < b.1 then a.2 + slope a b * (t - a.1) else posQ (b :: r) t := by
  by_cases h : t < b.1
  · have e : pc (a :: b :: r) t = 0 := by unfold pc; rw [if_pos h]
    rw [if_pos h]
    unfold posQ paceQ
    rw [e]
    rfl
  · have e : pc (a :: b :: r) t = pc (b :: r) t + 1 := by
      show (if t < b.1 then 0 else pc (b :: r) t + 1) = _
      rw [if_neg h]
    rw [if_neg h]
    unfold posQ paceQ
    rw [e, slopes_cons, List.getElem?_cons_succ, List.getElem?_cons_succ]
/-- m is on the piece behind a, ahead of r -/
def OnP (a m : Kn) (r : List Kn) : Prop := a.1 < m.1 ∧ (∀ b s, r = b :: s → m.1 < b.1) ∧ m.2 = a.2 + nxt (a :: r) * (m.1 - a.1)
theorem OnP.slope {a m : Kn} {r : List Kn} (h : OnP a m r) : slope a m = nxt (a :: r) := by
  obtain ⟨h1, _, h3⟩ := h
  unfold Pw.slope
  rw [h3]
  have : m.1 - a.1 ≠ 0 := by grind
  grind
theorem OnP.nxt {a m : Kn} {r : List Kn} (h : OnP a m r) : nxt (m :: r) = nxt (a :: r) := by
  obtain ⟨h1, h2, h3⟩ := h
  cases r with
  | nil => rfl
  | cons b s =>
    have h4 := h2 b s rfl
    show Pw.slope m b = Pw.slope a b
    have h3 : m.2 = a.2 + Pw.slope a b * (m.1 - a.1) := h3
    unfold Pw.slope at *
    have e1 : b.1 - m.1 ≠ 0 := by grind
    have e2 : b.1 - a.1 ≠ 0 := by grind
    rw [h3]
    grind
theorem OnP.tr {a m : Kn} {r : List Kn} (h : OnP a m r) : tr (Pw.nxt (a :: m :: r)) (m :: r) = tr (Pw.nxt (a :: r)) r := by
  show (if Pw.nxt (m :: r) = Pw.slope a m then [] else [m]) ++ Pw.tr (Pw.nxt (m :: r)) r = _
  rw [h.slope, h.nxt, if_pos rfl]
  rfl
theorem OnP.pos {a m : Kn} {r : List Kn} (h : OnP a m r) (t : Rat) : posQ (a :: m :: r) t = posQ (a :: r) t := by
  have hs := h.slope
  have hn := h.nxt
  obtain ⟨h1, h2, h3⟩ := h
  rw [posQ_two, hs]
  cases r with
  | nil =>
    rw [posQ_one, posQ_one]
    have h3 : m.2 = a.2 + 0 * (m.1 - a.1) := h3
    show (if t < m.1 then a.2 + 0 * (t - a.1) else m.2) = a.2
    split <;> grind
  | cons b s =>
    have h4 := h2 b s rfl
    rw [posQ_two, posQ_two]
    have hn : Pw.slope m b = Pw.slope a b := hn
    rw [hn]
    have h3 : m.2 = a.2 + Pw.slope a b * (m.1 - a.1) := h3
    show (if t < m.1 then a.2 + Pw.slope a b * (t - a.1) else _) = _
    by_cases q1 : t < m.1
    · rw [if_pos q1, if_pos (by grind)]
    · rw [if_neg q1]
      by_cases q2 : t < b.1
      · rw [if_pos q2, if_pos q2, h3]; grind
      · rw [if_neg q2, if_neg q2]
/-- the turns alone are the same function -/
theorem pos_tr : ∀ (r : List Kn) (a : Kn) (t : Rat), asc (a :: r) → posQ (a :: tr (nxt (a :: r)) r) t = posQ (a :: r) t
  | [], a, t, _ => rfl
  | b :: r, a, t, h => by
    show posQ (a :: ((if nxt (b :: r) = slope a b then [] else [b]) ++ tr (nxt (b :: r)) r)) t = _
    have hb : asc (b :: r) := h.2
    have hab : a.1 < b.1 := h.1
    by_cases e : nxt (b :: r) = slope a b
    · rw [if_pos e, List.nil_append]
      have on : OnP a b r := by
        refine ⟨hab, fun c s hc => ?_, ?_⟩
        · subst hc; exact hb.1
        · have hz : b.1 - a.1 ≠ 0 := by grind
          cases r with
          | nil =>
            have e : (0 : Rat) = slope a b := e
            show b.2 = a.2 + 0 * (b.1 - a.1)
            unfold slope at e
            grind
          | cons c s =>
            have hbc : b.1 < c.1 := hb.1
            have e : slope b c = slope a b := e
            have hz2 : c.1 - b.1 ≠ 0 := by grind
            have hz3 : c.1 - a.1 ≠ 0 := by grind
            show b.2 = a.2 + slope a c * (b.1 - a.1)
            unfold slope at *
            grind
      have har : asc (a :: r) := by
        cases r with
        | nil => trivial
        | cons c s => exact ⟨by have := hb.1; grind, hb.2⟩
      rw [on.nxt, pos_tr r a t har, on.pos]
    · rw [if_neg e, List.singleton_append, posQ_two, posQ_two]
      split
      · rfl
      · exact pos_tr r b t hb

theorem asc_mem : ∀ {r : List Kn} {a p : Kn}, asc (a :: r) → p ∈ r → a.1 < p.1
  | [], a, p, _, hp => by cases hp
  | b :: r, a, p, h, hp => by
    have h1 : a.1 < b.1 := h.1
    rcases List.mem_cons.mp hp with z | z
    · rw [z]; exact h1
    · have := asc_mem h.2 z
      grind
theorem asc_tail {a : Kn} {r : List Kn} (h : asc (a :: r)) : asc r := by
  cases r with
  | nil => trivial
  | cons b s => exact h.2
theorem posQ_head {a : Kn} {r : List Kn} (h : asc (a :: r)) : posQ (a :: r) a.1 = a.2 := by
  cases r with
  | nil => exact posQ_one a _
  | cons b s =>
    rw [posQ_two, if_pos h.1]
    grind
theorem posQ_on {a b : Kn} {r : List Kn} {t : Rat} (h : b.1 ≤ t) : posQ (a :: b :: r) t = posQ (b :: r) t := by
  rw [posQ_two, if_neg (by grind)]
abbrev TurnEq (r s : List Kn) (a : Kn) : Prop := asc (a :: r) → asc (a :: s) → (∀ p ∈ r ++ s, posQ (a :: r) p.1 = posQ (a :: s) p.1) → nxt (a :: r) = nxt (a :: s) ∧ tr (nxt (a :: r)) r = tr (nxt (a :: s)) s
theorem turn_step {n : Nat} (IH : ∀ r s a, r.length + s.length ≤ n → TurnEq r s a) {r s : List Kn} {a d : Kn} (hl : r.length + s.length ≤ n) (hd : ∀ b t, r = b :: t → d.1 < b.1) : TurnEq r (d :: s) a := fun h1 h2 h3 => by
  have had : a.1 < d.1 := h2.1
  have hds : asc (d :: s) := h2.2
  have e1 := h3 d (List.mem_append_right _ (List.mem_cons_self ..))
  rw [posQ_on Rat.le_refl, posQ_head hds] at e1
  have on : OnP a d r := by
    refine ⟨had, hd, ?_⟩
    rw [← e1]
    cases r with
    | nil => rw [posQ_one]; show a.2 = a.2 + 0 * _; grind
    | cons b t => rw [posQ_two, if_pos (hd b t rfl)]; rfl
  have hdr : asc (d :: r) := by
    cases r with
    | nil => trivial
    | cons b t => exact ⟨hd b t rfl, h1.2⟩
  obtain ⟨i1, i2⟩ := IH r s d hl hdr hds fun p hp => by
    have hle : d.1 ≤ p.1 := by
      rcases List.mem_append.mp hp with z | z
      · exact Rat.le_of_lt (asc_mem hdr z)
      · exact Rat.le_of_lt (asc_mem hds z)
    rw [← posQ_on (a := a) (r := r) hle, on.pos, ← posQ_on (a := a) (r := s) hle]
    refine h3 p ?_
    rcases List.mem_append.mp hp with z | z
    · exact List.mem_append_left _ z
    · exact List.mem_append_right _ (List.mem_cons_of_mem _ z)
  refine ⟨on.slope.symm, ?_⟩
  rw [← on.tr]
  show (if nxt (d :: r) = slope a d then [] else [d]) ++ tr (nxt (d :: r)) r = (if nxt (d :: s) = slope a d then [] else [d]) ++ tr (nxt (d :: s)) s
  rw [i2, i1]
theorem TurnEq.swap {r s : List Kn} {a : Kn} (h : TurnEq s r a) : TurnEq r s a := fun h1 h2 h3 => by
  obtain ⟨i1, i2⟩ := h h2 h1 fun p hp => (h3 p (List.mem_append.mpr (List.mem_append.mp hp).symm)).symm
  exact ⟨i1.symm, i2.symm⟩
theorem turn_eq : ∀ (n : Nat) (r s : List Kn) (a : Kn), r.length + s.length ≤ n → TurnEq r s a
  | n, [], [], a, _ => fun _ _ _ => ⟨rfl, rfl⟩
  | 0, _ :: _, _, a, h => by simp at h
  | 0, [], _ :: _, a, h => by simp at h
  | n + 1, [], d :: s, a, h => turn_step (turn_eq n) (by simp at h ⊢; omega) (fun b t z => by cases z)
  | n + 1, b :: r, [], a, h => TurnEq.swap (turn_step (turn_eq n) (by simp at h ⊢; omega) (fun b t z => by cases z))
  | n + 1, b :: r, d :: s, a, h => by
    simp only [List.length_cons] at h
    by_cases z1 : d.1 < b.1
    · exact turn_step (turn_eq n) (by rw [List.length_cons]; omega) (fun b' t z => by cases z; exact z1)
    · by_cases z2 : b.1 < d.1
      · exact TurnEq.swap (turn_step (turn_eq n) (by rw [List.length_cons]; omega) (fun b' t z => by cases z; exact z2))
      · intro h1 h2 h3
        have e1 : b.1 = d.1 := by grind
        have e2 := h3 b (List.mem_append_left _ (List.mem_cons_self ..))
        rw [posQ_on Rat.le_refl, posQ_on (by grind), posQ_head h1.2, e1, posQ_head h2.2] at e2
        have e : b = d := Prod.ext e1 e2
        subst e
        obtain ⟨i1, i2⟩ := turn_eq n r s b (by omega) h1.2 h2.2 fun p hp => by
          have hle : b.1 ≤ p.1 := by
            rcases List.mem_append.mp hp with z | z
            · exact Rat.le_of_lt (asc_mem h1.2 z)
            · exact Rat.le_of_lt (asc_mem h2.2 z)
          rw [← posQ_on (a := a) (r := r) hle, ← posQ_on (a := a) (r := s) hle]
          refine h3 p ?_
          rcases List.mem_append.mp hp with z | z
          · exact List.mem_append_left _ (List.mem_cons_of_mem _ z)
          · exact List.mem_append_right _ (List.mem_cons_of_mem _ z)
        refine ⟨rfl, ?_⟩
        show (if nxt (b :: r) = slope a b then [] else [b]) ++ tr (nxt (b :: r)) r = (if nxt (b :: s) = slope a b then [] else [b]) ++ tr (nxt (b :: s)) s
        rw [i2, i1]
/-- one function, told at the knots of both -/
def Alike (ps qs : List Kn) : Prop := (∀ p q, ps[0]? = some p → qs[0]? = some q → p.1 = q.1) ∧ ∀ p ∈ ps ++ qs, posQ ps p.1 = posQ qs p.1
theorem alike_iff {ps qs : List Kn} (hp : KOk ps) (hq : KOk qs) : Alike ps qs ↔ turns ps = turns qs := by
  cases ps with
  | nil => exact absurd hp.ne (by decide)
  | cons a r =>
    cases qs with
    | nil => exact absurd hq.ne (by decide)
    | cons c s =>
      have ha := hp.asc
      have hc := hq.asc
      rw [turns_cons, turns_cons]
      constructor
      · rintro ⟨h1, h2⟩
        have e1 : a.1 = c.1 := h1 a c rfl rfl
        have e2 := h2 a (List.mem_append_left _ (List.mem_cons_self ..))
        rw [posQ_head ha, e1, posQ_head hc] at e2
        have e : a = c := Prod.ext e1 e2
        subst e
        obtain ⟨_, i2⟩ := turn_eq _ r s a (Nat.le_refl _) ha hc fun p hp => h2 p (by
          rcases List.mem_append.mp hp with z | z
          · exact List.mem_append_left _ (List.mem_cons_of_mem _ z)
          · exact List.mem_append_right _ (List.mem_cons_of_mem _ z))
        rw [i2]
      · intro h
        have e := (List.cons.inj h).1
        refine ⟨fun p q hp hq => ?_, fun p _ => ?_⟩
        · cases hp; cases hq; rw [e]
        · rw [← pos_tr r a _ ha, ← pos_tr s c _ hc, h]
end Pw

namespace Pw
open PySem PySem.Spec PyProof.Rows L2
/-! ### == and != of an instance with any other value -/
theorem mro_no {T : String} {C : Addr} (h : T = "NoneType" ∨ T = "bool" ∨ T = "int" ∨ T = "str" ∨ T = "tuple" ∨ T = "list" ∨ T = "dict") (K : PySem.W.Frag) : PySem.W.subIn K (.type T) (.ref C) = some false := by
  have key : ∀ l : List Value, fastBuiltinMro T = some l → Value.ref C ∉ l → PySem.W.subIn K (.type T) (.ref C) = some false := fun l e n => by
    show (fastBuiltinMro T).map (fun x => x.contains (.ref C)) = some false
    rw [e]
    show some (l.contains (.ref C)) = some false
    congr 1
    rw [← Bool.not_eq_true, List.contains_iff_mem]
    exact n
  rcases h with rfl | rfl | rfl | rfl | rfl | rfl | rfl
  all_goals exact key _ rfl (by simp)
theorem ty_seven {d : D} (h : tyName d ≠ "?") : tyName d = "NoneType" ∨ tyName d = "bool" ∨ tyName d = "int" ∨ tyName d = "str" ∨ tyName d = "tuple" ∨ tyName d = "list" ∨ tyName d = "dict" := by
  cases d <;> simp_all [tyName]
theorem looks_cls {M : Model} {h : Heap} {a : Addr} {o : Obj} (e : h.get? a = some o) : PySem.W.Looks M h (typeOf (.ref a)) o.cls := fun A Q E s k q => wpAny_typeOf_ref (k a o e) q
theorem looks_d {X : Cx} {pins : List (Addr × Obj)} {σ : L2.St} {H : Hp} {s : Shared} {Xs : List Addr} {d : D} {y : V} {u : Value} (I : L2.Inv X pins σ H s) (i : Is X.K Xs H d y) (r : RelV y u) (hn : tyName d ≠ "?") (hs : ∀ n, d ≠ .scr n) : PySem.W.Looks (model X.prog X.w) s.heap (typeOf u) (.type (tyName d)) := by
  cases d with
  | non => cases (show y = .non from i); cases (show u = .none from r); exact .of_pure rfl
  | bl b => cases (show y = .bl b from i); cases (show u = .bool b from r); exact .of_pure rfl
  | int j =>
    cases (show y = .int j from i)
    obtain ⟨t, rfl⟩ := (show ∃ t, u = .int j t from r)
    exact .of_pure rfl
  | str x =>
    cases (show y = .str x from i)
    obtain ⟨t, rfl⟩ := (show ∃ t, u = .str x t from r)
    exact .of_pure rfl
  | tup ds =>
    obtain ⟨a, xs, rfl, h1, h2⟩ := i
    cases (show u = .ref a from r)
    obtain ⟨its, hv, ⟨o, e1, e2, _⟩, _⟩ := I.tuple (a := a) (xs := xs) (h1.elim (fun z => .inl (.inl z)) .inr)
    have := looks_cls (M := model X.prog X.w) e1
    rw [e2] at this
    exact this
  | lst ds =>
    obtain ⟨a, xs, rfl, _, h1, h2⟩ := i
    cases (show u = .ref a from r)
    obtain ⟨its, n, hv, e1, _⟩ := I.lst h1
    exact looks_cls (M := model X.prog X.w) e1
  | emp =>
    obtain ⟨a, rfl, _, h1⟩ := i
    cases (show u = .ref a from r)
    obtain ⟨_, _, vs, _, o, es, ep, e1, e2, _⟩ := dk_rd I.hok h1
    have := looks_cls (M := model X.prog X.w) e1
    rw [e2.1] at this
    exact this
  | scr ns => exact absurd rfl (hs ns)
  | ins C fs => exact absurd rfl hn
  | adr a => exact absurd rfl hn
  | ty n => exact absurd rfl hn
  | dct kvs =>
    obtain ⟨a, vs, rfl, _, h1, _⟩ := i
    cases (show u = .ref a from r)
    obtain ⟨_, _, vs, _, o, es, ep, e1, e2, _⟩ := dk_rd I.hok h1
    have := looks_cls (M := model X.prog X.w) e1
    rw [e2.1] at this
    exact this
  | dtp kvs =>
    obtain ⟨a, vs, rfl, _, h1, _⟩ := i
    cases (show u = .ref a from r)
    obtain ⟨_, _, xs, _, o, es, ep, e1, e2, _⟩ := I.hok a _ h1
    have := looks_cls (M := model X.prog X.w) e1
    rw [e2.1] at this
    exact this
  | exc C => exact absurd rfl hn
  | exf C fs => exact absurd rfl hn

/-- a class whose type is type -/
structure ClsT (K : PySem.W.Frag) (C : Addr) : Prop where
  c : (PySem.W.clsIn K C).isSome = true
  t : PySem.W.typeIn K (.ref C) = some (.type "type")
theorem CbD.isiN {W : Wd} {s : Rs} {Ψ : D → Prop} {d : D} {C : Addr} (k : ClsT W.K C) (hn : tyName d ≠ "?") (h : Ψ (.bl false)) : CbD W (rIsi W.K) s [d, .adr C] Ψ := fun H vs r h1 Q q => by
  obtain ⟨v, w, rfl, h2, h3⟩ := IsL.two h1
  cases (show w = .ref C from h3)
  refine ⟨v, .ref C, _, _, false, rfl, .own C, Is.tyX hn h2, ?_, q _ H (.bl false) (Same.refl H) rfl h⟩
  show (if (Value.type (tyName d) == Value.ref C) = true then some true else PySem.W.kitCls W.K _ _) = some false
  rw [if_neg (by simp)]
  show (if ((PySem.W.clsIn W.K C).isSome && PySem.W.typeIn W.K (.ref C) == some (.type "type")) = true then PySem.W.subIn W.K (.type (tyName d)) (.ref C) else none) = some false
  rw [k.c, k.t, if_pos (by simp)]
  exact mro_no (ty_seven hn) W.K
/-- == of an instance with data of another kind, or with an instance -/
def rEqG (K : PySem.W.Frag) (C : Addr) (sp : Sp) (E : XK) : R2 := fun x y H Q => rEqS C sp E x y H Q ∨ ∃ a dx fs d Xs, x = .ref a ∧ H a = some (.ins C dx fs) ∧ Is K Xs H d y ∧ tyName d ≠ "?" ∧ (∀ n, d ≠ .scr n) ∧ sp [x, y] H (fun z H' => ∃ r, z = .bl r ∧ Q (.bl r) H') E
def rNeG (K : PySem.W.Frag) (C : Addr) (sp : Sp) (E : XK) : R2 := fun x y H Q => rNeS C sp E x y H Q ∨ ∃ a dx fs d Xs, x = .ref a ∧ H a = some (.ins C dx fs) ∧ Is K Xs H d y ∧ tyName d ≠ "?" ∧ (∀ n, d ≠ .scr n) ∧ sp [x, y] H (fun z H' => ∃ r, z = .bl r ∧ Q (.bl (!r)) H') E
section
variable {X : Cx} {CX : CXT} {n : Nat} {C f : Addr} {fd : FuncData} {ps : List Str} {sp : Sp} {E : XK}
theorem run_any {A : Around} {pins : List (Addr × Obj)} {σ : L2.St} {H : Hp} {s : Shared} {Q : VK} {a : Addr} {y : V} {u : Value} (F : FnOk X.prog X.w X.K X.mg X.base CX n f fd ps sp) (hr : Room n A) (e0 : Env0 X.prog X.w X.K X.mg X.base A X.stack s H) (hb : Binds X.K fd ps []) (hx : Passes CX X E) (I : Inv X pins σ H s)
    (ry : RelV y u) (q : sp [.ref a, y] H Q E) : wpAny (model X.prog X.w) A (call (.ref f) [.ref a, u]) (EP X pins σ Q) X.xe s := by
  have hl := F.len _ _ _ _ q
  have r2 : Vals [V.ref a, y] [Value.ref a, u] := .cons rfl (.cons ry .nil)
  refine wpAny_call (codeAny_mono (F.run A X.stack s H ⟨[.ref a, u], []⟩ [.ref a, u] [.ref a, y] _ E hr e0 (by
    have := hb s [.ref a, u] I.kIn (by simpa using hl)
    simpa using this) r2 q) fun r s' hq => ?_)
  cases r with
  | error e => exact hx pins σ H s e s' I hq
  | ok fl =>
    cases fl with
    | ret w => exact I.after hq
    | next => exact False.elim hq
    | brk => exact False.elim hq
    | cont => exact False.elim hq
theorem op_eqG (F : FnOk X.prog X.w X.K X.mg X.base CX n f fd ps sp) (hr : Room n X.A) (hm : Meth X.K C "__eq__" f) (hb : Binds X.K fd ps []) (hx : Passes CX X E) : OpR X (compareOp .Eq) (rEqG X.K C sp E) := by
  intro pins s σ H x y v u Q I rx ry h
  rcases h with h | h
  · exact op_eqC F hr hm hb hx pins s σ H x y v u Q I rx ry h
  obtain ⟨a, dx, fs, d, Xs, rfl, ha, hi, hn, hs, q⟩ := h
  cases (show v = Value.ref a from rx)
  obtain ⟨mA, J, _⟩ := ins_get I.hok ha
  obtain ⟨od, J, _⟩ := J.look
  obtain ⟨m, hF⟩ := I.fr
  show wpAny (model X.prog X.w) X.A (richCompare .Eq _ _) (EP X pins σ Q) X.xe s
  refine PySem.W.cmp_K (op := .Eq) (tb := .type (tyName d)) hr.units0 hF I.ok.mod.kin J (looks_d I hi ry hn hs) (by simp [PySem.W.notFirst, mro_no (ty_seven hn) X.K]) hm.at_ hm.fn ?_
  refine wpAny_mono (run_any F hr I.env0 hb hx I ry q) (fun w s' z => ?_) fun _ _ x => x
  obtain ⟨z', H', I', rz, r, rfl, qz⟩ := z
  cases (show w = Value.bool r from rz)
  exact ⟨.bl r, H', I', rfl, qz⟩
theorem op_neG (F : FnOk X.prog X.w X.K X.mg X.base CX n f fd ps sp) (hr : Room (n + 1) X.A) (hm : Meth X.K C "__eq__" f) (ho : OwnE X.K C) (hb : Binds X.K fd ps []) (hx : Passes CX X E) : OpR X (compareOp .NotEq) (rNeG X.K C sp E) := by
  intro pins s σ H x y v u Q I rx ry h
  rcases h with h | h
  · exact op_neC F hr hm ho hb hx pins s σ H x y v u Q I rx ry h
  obtain ⟨a, dx, fs, d, Xs, rfl, ha, hi, hn, hs, q⟩ := h
  cases (show v = Value.ref a from rx)
  obtain ⟨mA, J, _⟩ := ins_get I.hok ha
  obtain ⟨od, J, _⟩ := J.look
  obtain ⟨m, hF⟩ := I.fr
  show wpAny (model X.prog X.w) X.A (richCompare .NotEq _ _) (EP X pins σ Q) X.xe s
  refine cmp_ne (tb := .type (tyName d)) hr.in1.units0 hF I.ok.mod.kin J (looks_d I hi ry hn hs) (by simp [PySem.W.notFirst, mro_no (ty_seven hn) X.K]) ho.ne ho.cm hm.at_ hm.fn ?_
  refine wpAny_mono (run_any F hr.in1 I.env0.in1 hb hx I ry q) (fun w s' z => ?_) fun _ _ x => x
  obtain ⟨z', H', I', rz, r, rfl, qz⟩ := z
  cases (show w = Value.bool r from rz)
  exact ⟨r, rfl, .bl (!r), H', I', rfl, qz⟩
end
section
variable {W : Wd} {s : Rs} {Ψ : D → Prop} {C : Addr} {fs gs : List (Str × D)} {E : XK} {d : D}
theorem OpD.eqG {S : PSp} (h : S [.ins C fs, .ins C gs] fun d => ∃ r, d = .bl r ∧ Ψ (.bl r)) : OpD W (rEqG W.K C (liftP W.K W.tb S) E) s (.ins C fs) (.ins C gs) Ψ := fun H vx vy r h1 h2 Q q => .inl (OpD.eqC h H vx vy r h1 h2 Q q)
theorem OpD.neG {S : PSp} (h : S [.ins C fs, .ins C gs] fun d => ∃ r, d = .bl r ∧ Ψ (.bl (!r))) : OpD W (rNeG W.K C (liftP W.K W.tb S) E) s (.ins C fs) (.ins C gs) Ψ := fun H vx vy r h1 h2 Q q => .inl (OpD.neC h H vx vy r h1 h2 Q q)
theorem OpD.eqN {S : PSp} (hn : tyName d ≠ "?") (hs : ∀ n, d ≠ .scr n) (h : S [.ins C fs, d] fun d => ∃ r, d = .bl r ∧ Ψ (.bl r)) : OpD W (rEqG W.K C (liftP W.K W.tb S) E) s (.ins C fs) d Ψ := fun H vx vy r h1 h2 Q q => by
  obtain ⟨a, dx, vs, rfl, g0, g1, g2⟩ := id h1
  refine .inr ⟨a, dx, vs, d, adrs s, rfl, g1, h2, hn, hs, adrs s, [.ins C fs, d], _, r.nd, r.mu, r.tb, ⟨_, _, rfl, h1, _, _, rfl, h2, rfl⟩, h, fun d v H' hd e i => ?_⟩
  obtain ⟨z, rfl, hz⟩ := hd
  cases (show v = .bl z from i)
  exact ⟨z, rfl, q _ H' (.bl z) e rfl hz⟩
theorem OpD.neN {S : PSp} (hn : tyName d ≠ "?") (hs : ∀ n, d ≠ .scr n) (h : S [.ins C fs, d] fun d => ∃ r, d = .bl r ∧ Ψ (.bl (!r))) : OpD W (rNeG W.K C (liftP W.K W.tb S) E) s (.ins C fs) d Ψ := fun H vx vy r h1 h2 Q q => by
  obtain ⟨a, dx, vs, rfl, g0, g1, g2⟩ := id h1
  refine .inr ⟨a, dx, vs, d, adrs s, rfl, g1, h2, hn, hs, adrs s, [.ins C fs, d], _, r.nd, r.mu, r.tb, ⟨_, _, rfl, h1, _, _, rfl, h2, rfl⟩, h, fun d v H' hd e i => ?_⟩
  obtain ⟨z, rfl, hz⟩ := hd
  cases (show v = .bl z from i)
  exact ⟨z, rfl, q _ H' (.bl (!z)) e rfl hz⟩
end

/-- a target within a target -/
theorem LGs.cons {W : Wd} {ρ : En} {s : Rs} {g : TG} {gs : TGs} {d : D} {ds : List D} {Φ : En → Rs → Prop} (h : LG W g d ρ s fun ρ' s' => LGs W gs ds ρ' s' Φ) : LGs W (gCons g gs) (d :: ds) ρ s Φ := fun vs σ H o i' Q q => by
  obtain ⟨v, r, rfl, i1, i2⟩ := i'
  exact ⟨v, r, rfl, h v σ H o i1 _ fun σ2 H2 ρ2 s2 o2 p2 k2 => k2 r σ2 H2 o2 (p2.list i2) Q fun σ3 H3 ρ3 s3 o3 p3 k3 => q σ3 H3 ρ3 s3 o3 (p2.trans p3) k3⟩
theorem enumD_get {ds : List D} {i : Nat} {d : D} (h : (enumD ds)[i]? = some d) : ∃ x, ds[i]? = some x ∧ d = .tup [.int (i : Nat), x] := by
  unfold enumD at h
  rw [List.getElem?_mapIdx] at h
  cases q : ds[i]? with
  | none => rw [q] at h; cases h
  | some x => rw [q] at h; cases h; exact ⟨x, rfl, rfl⟩
theorem enumD_len (ds : List D) : (enumD ds).length = ds.length := List.length_mapIdx
/-! between two numbers -/
theorem conv_between {a b c : Rat} (h0 : 0 ≤ c) (h1 : c ≤ 1) : (a ≤ b → a ≤ a + (b - a) * c ∧ a + (b - a) * c ≤ b) ∧ (b ≤ a → b ≤ a + (b - a) * c ∧ a + (b - a) * c ≤ a) := by
  constructor
  · intro h
    have e1 := Rat.mul_nonneg (show 0 ≤ b - a by grind) h0
    have e2 := Rat.mul_nonneg (show 0 ≤ b - a by grind) (show 0 ≤ 1 - c by grind)
    constructor <;> grind
  · intro h
    have e1 := Rat.mul_nonneg (show 0 ≤ a - b by grind) h0
    have e2 := Rat.mul_nonneg (show 0 ≤ a - b by grind) (show 0 ≤ 1 - c by grind)
    constructor <;> grind
theorem conv_abs {a b c B : Rat} (h0 : 0 ≤ c) (h1 : c ≤ 1) (ha : absQ a ≤ B) (hb : absQ b ≤ B) : absQ (a + (b - a) * c) ≤ B := by
  obtain ⟨k1, k2⟩ := conv_between (a := a) (b := b) h0 h1
  rcases (Rat.le_total : a ≤ b ∨ b ≤ a) with h | h
  · exact absQ_between (k1 h).1 (k1 h).2 ha hb
  · exact absQ_between (k2 h).1 (k2 h).2 hb ha
theorem On.conv {N M b : Nat} {p q c : Rat} (h : On N b p) (k : On N b q) (hc : GN M c) (h0 : 0 ≤ c) (h1 : c ≤ 1) : On (N * M) b (p + (q - p) * c) :=
  ⟨(h.gr.up M).add ((k.gr.sub h.gr).mul hc), conv_abs h0 h1 h.le k.le⟩
theorem divInt_lt1 {n d : Int} (hn : n < d) (hd : 0 < d) : Rat.divInt n d < 1 := by
  rw [Rat.divInt_eq_div]
  have h1 : (n : Rat) < (d : Rat) := by exact_mod_cast hn
  have h2 : (0 : Rat) < (d : Rat) := by exact_mod_cast hd
  have h3 := Rat.mul_lt_mul_of_pos_right h1 (Rat.inv_pos.mpr h2)
  rw [Rat.mul_inv_cancel _ (by grind)] at h3
  rw [Rat.div_def]
  exact h3
theorem conv_lt {a b c : Rat} (h : a < b) (h0 : 0 < c) (h1 : c < 1) : a < a + (b - a) * c ∧ a + (b - a) * c < b := by
  have e1 := Rat.mul_pos (show 0 < b - a by grind) h0
  have e2 := Rat.mul_pos (show 0 < b - a by grind) (show 0 < 1 - c by grind)
  constructor <;> grind
/-- the position at a part of a piece -/
theorem posQ_part {ps : List Kn} (h : KOk ps) {i : Nat} {p q : Kn} (hp : ps[i]? = some p) (hq : ps[i + 1]? = some q) {c : Rat} (h0 : 0 < c) (h1 : c < 1) : posQ ps (p.1 + (q.1 - p.1) * c) = p.2 + (q.2 - p.2) * c := by
  have hlt := asc_lt h.asc hp hq
  obtain ⟨k1, k2⟩ := conv_lt hlt h0 h1
  have e : pc ps (p.1 + (q.1 - p.1) * c) = i := pc_of h.asc ⟨p, hp, by grind, fun q' hq' => by rw [hq] at hq'; cases hq'; exact k2⟩
  rw [posQ_at (by rw [e]; exact hp), paceQ_at (by rw [e]; exact hp) (by rw [e]; exact hq)]
  unfold slope
  have hz := lt_ne hlt
  grind
/-! the grids of the lists that are refined and changed -/
def T0 : Nat := D0 * 2
def X0 : Nat := D0 * 1000000
def T1 : Nat := T0 * 1000000
def X1 : Nat := X0 * 1000000
theorem T1_pos : 0 < T1 := by decide
theorem X1_pos : 0 < X1 := by decide
theorem T1_lt : T1 < 2 ^ 61 := by decide
theorem X1_lt : X1 < 2 ^ 80 := by decide

/-! lists of knots that are cut and set -/
theorem asc_pw : ∀ {ps : List Kn}, asc ps ↔ ps.Pairwise fun a b => a.1 < b.1
  | [] => ⟨fun _ => .nil, fun _ => trivial⟩
  | a :: r => by
    rw [List.pairwise_cons, ← asc_pw (ps := r)]
    constructor
    · intro h
      exact ⟨fun b hb => asc_mem h hb, asc_tail h⟩
    · rintro ⟨h1, h2⟩
      cases r with
      | nil => trivial
      | cons b s => exact ⟨h1 b (List.mem_cons_self ..), h2⟩
theorem asc_sub {ps qs : List Kn} (h : asc ps) (hs : qs.Sublist ps) : asc qs := asc_pw.mpr ((asc_pw.mp h).sublist hs)
theorem asc_set {ps : List Kn} {i : Nat} {z : Kn} (h : asc ps) (h1 : ∀ q, 0 < i → ps[i - 1]? = some q → q.1 < z.1) (h2 : ∀ q, ps[i + 1]? = some q → z.1 < q.1) : asc (ps.set i z) :=
  asc_of fun j a b ha hb => by
    rw [List.getElem?_set] at ha hb
    by_cases e : i = j
    · rw [if_pos e] at ha
      rw [if_neg (by omega)] at hb
      split at ha
      · cases ha
        exact h2 b (by rw [e]; exact hb)
      · cases ha
    · rw [if_neg e] at ha
      by_cases e2 : i = j + 1
      · rw [if_pos e2] at hb
        split at hb
        · cases hb
          exact h1 a (by omega) (by rw [e2, Nat.add_sub_cancel]; exact ha)
        · cases hb
      · rw [if_neg e2] at hb
        exact asc_lt h ha hb
theorem knL_set (ps : List Kn) (i : Nat) (z : Kn) : (knL ps).set i (kn z) = knL (ps.set i z) := List.map_set.symm
theorem sIx_nat {n d i : Nat} (h : i ≤ n) : HT.sIx n d (some (i : Int)) = i := by
  unfold HT.sIx
  simp
  rw [if_neg (by omega)]
  omega
theorem cut_take (ps : List Kn) {i : Nat} (h : i ≤ ps.length) : cutD (knL ps) none (some (i : Int)) = knL (ps.take i) := by
  unfold cutD
  rw [knL_len, sIx_nat h]
  show ((knL ps).drop 0).take (i - 0) = _
  rw [List.drop_zero, Nat.sub_zero]
  exact List.map_take.symm
theorem cut_drop (ps : List Kn) {i : Nat} (h : i ≤ ps.length) : cutD (knL ps) (some (i : Int)) none = knL (ps.drop i) := by
  unfold cutD
  rw [knL_len, sIx_nat h]
  show ((knL ps).drop i).take (ps.length - i) = _
  rw [List.take_of_length_le (by rw [List.length_drop, knL_len]; omega)]
  exact List.map_drop.symm
theorem asc_erase {ps : List Kn} (h : asc ps) (i : Nat) : asc (ps.take i ++ ps.drop (i + 1)) := asc_sub h (by
  rw [← List.eraseIdx_eq_take_drop_succ]
  exact List.eraseIdx_sublist ..)
theorem ixN_at {n i : Nat} (h : i < n) : ixN n (i : Int) = some i := by
  unfold ixN
  rw [if_pos (by omega), if_pos (by omega), Int.toNat_natCast]
theorem fr_one6 : Fr (.tup [.int 1, .int 1000000]) (Rat.divInt 1 1000000) 20 := by
  have e1 : (Rat.divInt 1 1000000).num = 1 := by decide +kernel
  have e2 : (Rat.divInt 1 1000000).den = 1000000 := by decide +kernel
  refine ⟨?_, by decide +kernel, by decide +kernel⟩
  show _ = D.tup [.int _, .int _]
  rw [e1, e2]
  rfl
theorem D0_T0 : D0 ∣ T0 := ⟨2, rfl⟩
theorem D0_X0 : D0 ∣ X0 := ⟨1000000, rfl⟩
theorem On.one {N : Nat} (b : Nat) : On N b 1 := ⟨⟨N, by rw [Rat.one_mul]; exact_mod_cast rfl⟩, by
  have : absQ 1 = 1 := absQ_one
  rw [this]
  exact_mod_cast Nat.one_le_two_pow⟩
theorem On.tiny : On X0 1 (Rat.divInt 1 1000000) := ⟨(GN.divInt (n := 1) (j := 1000000) (by decide)).dvd ⟨D0, by decide⟩, by decide +kernel⟩
end Pw

namespace Pw
open PySem PySem.Spec PyProof.Rows L2
/-! ### the draw's fields, read and written -/
abbrev dkvG (B C : Addr) (l t : Int) : List (Key × V) := [(.inr "large", .ref B), (.inr kItems, .ref C), (.inr kLeft, .int l), (.inr "turn", .int t)]
theorem dgG {H : Hp} {a : Addr} {kvs : List (Key × V)} {k : Key} {v : V} (e : H a = some (.dK kvs)) (h : valV kvs k = some v) : DGet H a (kV k) (some v) := by
  rw [← h]
  exact .inl ⟨kvs, k, .inl e, rfl, rfl⟩
theorem dpG {H : Hp} {a B C : Addr} {l t : Int} {kvs' : List (Key × V)} {k : Key} {v : V} (e : H a = some (.dK (dkvG B C l t))) (h : putK (dkvG B C l t) k v = kvs') : DPut H a (kV k) v (upd H a (.dK kvs')) := by
  rw [← h]
  exact .inl ⟨dkvG B C l t, k, e, rfl, (by show 4 < sizeLine; decide), rfl⟩
theorem dkvG_large (B C : Addr) (l t : Int) : valV (dkvG B C l t) (.inr "large") = some (.ref B) := rfl
theorem dkvG_items (B C : Addr) (l t : Int) : valV (dkvG B C l t) (.inr kItems) = some (.ref C) := rfl
theorem dkvG_left (B C : Addr) (l t : Int) : valV (dkvG B C l t) (.inr kLeft) = some (.int l) := rfl
theorem dkvG_turn (B C : Addr) (l t : Int) : valV (dkvG B C l t) (.inr "turn") = some (.int t) := rfl
theorem dkvG_putL (B C : Addr) (l t x : Int) : putK (dkvG B C l t) (.inr kLeft) (.int x) = dkvG B C x t := rfl
theorem dkvG_putT (B C : Addr) (l t x : Int) : putK (dkvG B C l t) (.inr "turn") (.int x) = dkvG B C l x := rfl
section
variable {W : Wd} {ρ : En} {s : Rs} {N : En → Rs → Prop} {R : D → Rs → Prop} {Bk Ct : En → Rs → Prop} {Φ : D → Rs → Prop} {i : Nat} {A B C : Addr} {n : Nat} {ow : List (Addr × D)} {ot : List Addr}
theorem LE.dturn (hi : ρ[i]? = some (some (.adr A))) (hd : s.drw = [(A, B, C, n)]) (h : ∀ t : Int, 0 ≤ t → t + n ≤ 2 ^ 40 → Φ (.int t) s) : LE W (tDGet (tVar i) (tC (.str "turn"))) ρ s Φ := fun σ H o Q q => by
  obtain ⟨v, h1, h2⟩ := o.sl i _ hi
  cases (show v = .ref A from h2)
  obtain ⟨ls, items, l, t, d1, d2, d3, e1, e2, e3, e4, e5, e6⟩ := o.rk.dr (A, B, C, n) (by rw [hd]; simp)
  exact ⟨.ref A, h1, A, .int t, rfl, dgG (k := .inr "turn") d1 (dkvG_turn ..), q (.int t) H (.int t) s o (.refl o.rk) rfl (h t e5 e6)⟩
theorem LE.dleft (hi : ρ[i]? = some (some (.adr A))) (hd : s.drw = [(A, B, C, n)]) (h : ∀ l : Int, 0 ≤ l → Φ (.int l) s) : LE W (tDGet (tVar i) (tC (.str kLeft))) ρ s Φ := fun σ H o Q q => by
  obtain ⟨v, h1, h2⟩ := o.sl i _ hi
  cases (show v = .ref A from h2)
  obtain ⟨ls, items, l, t, d1, d2, d3, e1, e2, e3, e4, e5, e6⟩ := o.rk.dr (A, B, C, n) (by rw [hd]; simp)
  exact ⟨.ref A, h1, A, .int l, rfl, dgG (k := .inr kLeft) d1 (dkvG_left ..), q (.int l) H (.int l) s o (.refl o.rk) rfl (h l e4)⟩
theorem LS.dputT {tv : TE} (hi : ρ[i]? = some (some (.adr A))) (h : LE W tv ρ s fun x s1 => ∃ (t : Int) (m n' : Nat) (ow : List (Addr × D)) (ot : List Addr), x = .int t ∧ s1 = ⟨ow, [(A, B, C, m)], ot⟩ ∧ 0 ≤ t ∧ t + n' ≤ 2 ^ 40 ∧ N ρ ⟨ow, [(A, B, C, n')], ot⟩) :
    LS W (sDPut (tVar i) (tC (.str "turn")) tv) ρ s N R Bk Ct := fun Dn σ H o f => by
  refine h σ H o _ fun v H1 x s1 o1 p1 i1 k => ?_
  obtain ⟨t', m, n', ow, ot, rfl, rfl, ht0, htn, k⟩ := k
  cases (show v = .int t' from i1)
  obtain ⟨v, h1, h2⟩ := o1.sl i _ hi
  cases (show v = .ref A from h2)
  have nd := o1.rk.nd
  obtain ⟨ls, items, l, t, d1, d2, d3, e1, e2, e3, e4, e5, e6⟩ := o1.rk.dr (A, B, C, m) (List.mem_singleton.mpr rfl)
  have hp := (adrs_perm (s := ⟨ow, [(A, B, C, m)], ot⟩) rfl).nodup_iff.mpr nd
  have hAB : A ≠ B := fun e => by simp [e] at hp
  have hAC : A ≠ C := fun e => by simp [e] at hp
  refine ⟨.ref A, h1, A, _, rfl, dpG (k := .inr "turn") d1 (dkvG_putT ..), ?_⟩
  obtain ⟨o2, _⟩ := o1.drawn (n' := n') (H' := upd H1 A (.dK (dkvG B C l t'))) rfl (fun a u ha _ e => by
    rw [upd_ne (fun z => ha (by rw [z]; simp))]; exact e) (tabs_upd o1.tbs.t d1 trivial) ⟨ls, items, l, t', upd_same, by rw [upd_ne hAB.symm]; exact d2, by rw [upd_ne hAC.symm]; exact d3, e1, e2, e3, e4, ht0, htn⟩
  exact f.nx σ _ ρ _ o2 k
theorem LS.dputL {tv : TE} (hi : ρ[i]? = some (some (.adr A))) (h : LE W tv ρ s fun x s1 => ∃ (l : Int) (m m' : Nat) (ow : List (Addr × D)) (ot : List Addr), x = .int l ∧ s1 = ⟨ow, [(A, B, C, m)], ot⟩ ∧ 0 ≤ l ∧ m' ≤ m ∧ N ρ ⟨ow, [(A, B, C, m')], ot⟩) :
    LS W (sDPut (tVar i) (tC (.str kLeft)) tv) ρ s N R Bk Ct := fun Dn σ H o f => by
  refine h σ H o _ fun v H1 x s1 o1 p1 i1 k => ?_
  obtain ⟨l', m, m', ow, ot, rfl, rfl, hl0, hmm, k⟩ := k
  cases (show v = .int l' from i1)
  obtain ⟨v, h1, h2⟩ := o1.sl i _ hi
  cases (show v = .ref A from h2)
  have nd := o1.rk.nd
  obtain ⟨ls, items, l, t, d1, d2, d3, e1, e2, e3, e4, e5, e6⟩ := o1.rk.dr (A, B, C, m) (List.mem_singleton.mpr rfl)
  have hp := (adrs_perm (s := ⟨ow, [(A, B, C, m)], ot⟩) rfl).nodup_iff.mpr nd
  have hAB : A ≠ B := fun e => by simp [e] at hp
  have hAC : A ≠ C := fun e => by simp [e] at hp
  refine ⟨.ref A, h1, A, _, rfl, dpG (k := .inr kLeft) d1 (dkvG_putL ..), ?_⟩
  obtain ⟨o2, _⟩ := o1.drawn (n' := m') (H' := upd H1 A (.dK (dkvG B C l' t))) rfl (fun a u ha _ e => by
    rw [upd_ne (fun z => ha (by rw [z]; simp))]; exact e) (tabs_upd o1.tbs.t d1 trivial) ⟨ls, items, l', t, upd_same, by rw [upd_ne hAB.symm]; exact d2, by rw [upd_ne hAC.symm]; exact d3, e1, e2, e3, hl0, e5, by
      have e6 : t + (m : Int) ≤ 2 ^ 40 := e6
      show t + (m' : Int) ≤ 2 ^ 40
      omega⟩
  exact f.nx σ _ ρ _ o2 k
/-- for item in draw[items]: .. , where the list is told at the entry -/
theorem LS.forItems {g : TG} {ts : TS} {items : List Int} (hC : W.H0 C = some (.lst (items.map V.int))) (hX : C ∉ W.X0) (hi : ρ[i]? = some (some (.adr A))) (hd : s.drw = [(A, B, C, n)]) (I : En → Rs → Prop) (h0 : I ρ s)
    (hs : ∀ (z : Int) ρ' s', I ρ' s' → LG W g (.int z) ρ' s' fun ρ2 s2 => LS W ts ρ2 s2 I R N I) (hN : ∀ ρ' s', I ρ' s' → N ρ' s') :
    LS W (tFor (iList W.K (tDGet (tVar i) (tC (.str kItems)))) g ts) ρ s N R Bk Ct := fun Dn σ H o f => by
  obtain ⟨v, h1, h2⟩ := o.sl i _ hi
  cases (show v = .ref A from h2)
  obtain ⟨ls, its, l, t, d1, d2, d3, e1, e2, e3, e4, e5, e6⟩ := o.rk.dr (A, B, C, n) (by rw [hd]; simp)
  refine ⟨.ref A, h1, A, .ref C, rfl, dgG (k := .inr kItems) d1 (dkvG_items ..), C, rfl, ⟨_, SqL.of d3⟩, ?_⟩
  have sq : ∀ {σ' H' ρ' s'}, Ok W σ' H' ρ' s' → H' C = some (.lst (items.map V.int)) := fun o' => o'.fr C _ hX hC
  refine for_it (J := Itl W.K C) (n := items.length) (G := fun H' => H' C = some (.lst (items.map V.int))) (Y := fun j H' x H2 => H2 = H' ∧ ∃ z, x = .int z) ⟨fun j H' hj q => ⟨_, (items.map V.int)[j]'(by rw [List.length_map]; exact hj), SqL.of q, by rw [List.getElem?_eq_getElem]⟩, fun H' q => ⟨_, SqL.of q, by rw [List.length_map]; exact Nat.le_refl _⟩, fun j H' x H2 hj q y => ?_⟩
    (fun _ σ H => ∃ ρ s, Ok W σ H ρ s ∧ I ρ s) ⟨ρ, s, o, h0⟩ (fun _ σ H _ ⟨ρ2, s2, o2, _⟩ => sq o2) (fun j x σ H H' hj ⟨ρ2, s2, o2, k2⟩ hy => ?_) fun σ H ⟨ρ2, s2, o2, k2⟩ => f.nx σ H ρ2 s2 o2 (hN _ _ k2)
  · obtain ⟨e, y⟩ := y
    refine ⟨e, ?_⟩
    have := y _ (SqL.of q)
    rw [List.getElem?_map] at this
    obtain ⟨z, _, e⟩ := Option.map_eq_some_iff.mp this
    exact ⟨z, e.symm⟩
  · obtain ⟨rfl, z, rfl⟩ := hy
    refine hs z ρ2 s2 k2 (.int z) σ _ o2 rfl _ fun σ3 H3 ρ3 s3 o3 p3 k3 => ?_
    exact k3 _ σ3 H3 o3 ⟨fun σ4 H4 ρ4 s4 o4 k4 => ⟨ρ4, s4, o4, k4⟩, fun v σ4 H4 ρ4 d4 s4 o4 i4 k4 => f.rt v σ4 H4 ρ4 d4 s4 o4 i4 k4, fun σ4 H4 ρ4 s4 o4 k4 => f.nx σ4 H4 ρ4 s4 o4 k4, fun σ4 H4 ρ4 s4 o4 k4 => ⟨ρ4, s4, o4, k4⟩⟩
end

theorem ne_nilG {K : PySem.W.Frag} {H : Hp} {a p : Addr} {ns : List Int} (h : H a = some (.lst (ns.map V.int))) (hp : H p = some (.lst [])) (Q : VK) (q : Q (.bl (!ns.isEmpty)) H) : rNeD K (.ref a) (.ref p) H Q := by
  have hi := ints_is (K := K) (Xs := []) (H := H) ns
  have hip : IpL 39 (ns.map D.int) = true := by
    clear hi q h
    induction ns with
    | nil => rfl
    | cons n r ih =>
      show (Ip 39 (.int n) && IpL 39 (r.map D.int)) = true
      rw [ih]
      rfl
  have hd : Is K [] H (.lst (ns.map D.int)) (.ref a) := ⟨a, _, rfl, by simp, h, hi⟩
  have he : Is K [] H (.lst []) (.ref p) := ⟨p, _, rfl, by simp, hp, rfl⟩
  refine ⟨_, _, Is.dp 40 _ _ (show Ip 40 (.lst (ns.map D.int)) = true from hip) hd, Is.dp 40 _ _ (show Ip 40 (.lst []) = true from rfl) he, ip_shaped (show Ip 40 (.lst (ns.map D.int)) = true from hip), ip_shaped (show Ip 40 (.lst []) = true from rfl), ?_⟩
  have e : (!PyData.eqv (pd (.lst (ns.map D.int))) (pd (.lst []))) = !ns.isEmpty := by
    cases ns <;> rfl
  rw [e]
  exact q
/-- a number of the draw's list, if there is one, else another -/
theorem LE.popOr {W : Wd} {ρ : En} {Φ : D → Rs → Prop} {te : TE} {i : Nat} {A B C : Addr} {n : Nat} {ow : List (Addr × D)} {ot : List Addr} (hi : ρ[i]? = some (some (.adr A))) (h1 : ∀ x : Int, 0 ≤ x → Φ (.int x) ⟨ow, [(A, B, C, n)], ot⟩) (h2 : LE W te ρ ⟨ow, [(A, B, C, n)], ot⟩ Φ) :
    LE W (tIf (tTest (tOp (rNeD W.K) (tDGet (tVar i) (tC (.str "large"))) (tLst tNil))) (tBM W.K "list" rPopAt (tDGet (tVar i) (tC (.str "large"))) (tCons (tC (.int 0)) tNil)) te) ρ ⟨ow, [(A, B, C, n)], ot⟩ Φ := fun σ H o Q q => by
  obtain ⟨v, v1, v2⟩ := o.sl i _ hi
  cases (show v = .ref A from v2)
  obtain ⟨ls, items, l, t, d1, d2, d3, e1, e2, e3, e4, e5, e6⟩ := o.rk.dr (A, B, C, n) (List.mem_singleton.mpr rfl)
  have hp := (adrs_perm (s := ⟨ow, [(A, B, C, n)], ot⟩) rfl).nodup_iff.mpr o.rk.nd
  have hAB : A ≠ B := fun e => by simp [e] at hp
  have hBC : B ≠ C := fun e => by simp [e] at hp
  refine ⟨.ref A, v1, A, .ref B, rfl, dgG (k := .inr "large") d1 (dkvG_large ..), Nat.zero_le _, fun p np => ?_⟩
  have hbp : B ≠ p := ne_of_none d2 np
  have hap : A ≠ p := ne_of_none d1 np
  have hcp : C ≠ p := ne_of_none d3 np
  have sm : Same H (upd H p (.lst [])) := Same.new np
  have o1 := o.same sm
  refine ne_nilG (ns := ls) (by rw [upd_ne hbp]; exact d2) upd_same _ ⟨_, rfl, ?_⟩
  show if (!ls.isEmpty) = true then _ else _
  cases ls with
  | nil => exact h2 σ _ o1 Q fun v H' d s' o' p' => q v H' d s' o' ((o.pres sm).trans p')
  | cons z r =>
    refine ⟨.ref A, v1, A, .ref B, rfl, dgG (k := .inr "large") (by rw [upd_ne hap]; exact d1) (dkvG_large ..), .inl ⟨rfl, _, SqL.of (by rw [upd_ne hbp]; exact d2)⟩, B, _, 0, 0, .int z, rfl, rfl, (by rw [upd_ne hbp]; exact d2), by decide, by decide, ?_, rfl, ?_⟩
    · simp [seqIndex?]
    obtain ⟨o2, p2⟩ := o1.drawn (n' := n) (H' := upd (upd H p (.lst [])) B (.lst (r.map V.int))) rfl (fun a u ha _ e => by
      rw [upd_ne (fun z => ha (by rw [z]; simp))]; exact e) (tabs_upd (u := .lst ((z :: r).map V.int)) o1.tbs.t (by rw [upd_ne hbp]; exact d2) trivial) ⟨r, items, l, t, by rw [upd_ne hAB, upd_ne hap]; exact d1, upd_same, by rw [upd_ne hBC.symm, upd_ne hcp]; exact d3, fun x hx => e1 x (List.mem_cons_of_mem _ hx), e2, e3, e4, e5, e6⟩
    exact q (.int z) _ (.int z) _ o2 ((o.pres sm).trans p2) rfl (h1 z (e1 z (List.mem_cons_self ..)))
section
variable {P : Program} {w : World} {K : PySem.W.Frag} {mg : Str → Option Value} {base : Heap}
theorem okEC {x qual : Str} {st : Stmt} {f : Addr} {fd : FuncData} {N ps : List Str} {k : Nat} {T : List (Addr × Str)} {S : ESp} (F : Fun K x qual st f fd) (Sc : FnScope N ps (defScope st)) (len : ∀ ds n Φ, S ds n Φ → ds.length + 1 = ps.length) (hN : ps.length ≤ N.length)
    (hbody : ∀ (cdv : Value) (A : Around) (outer : List Env) (s : Shared) (H : Hp) (E : XK), Room k (A.deeper (envOfC qual (defScope st) s.heap.objs.size f cdv)) →
      ∃ t, PSs (cxOf CX0 P w K mg base N qual (defScope st) f cdv A outer s H E).nox (defBody st) t ∧
        ∀ (H0 : Hp) (Xs : List Addr) (a b c : Addr) (n : Nat) (ds : List D) (Φ : D → Nat → Prop), S ds n Φ → ∀ items : List Int, H0 c = some (.lst (items.map V.int)) → c ∉ [a, b] → LS ⟨K, H0, [a, b], [a, b, c] ++ Xs, [], T⟩ t (startD N (some (.adr a) :: ds.map some)) { drw := [(a, b, c, n)], oth := Xs }
          (fun _ s' => ∃ n', s'.drw = [(a, b, c, n')] ∧ Φ .non n') (fun d s' => ∃ n', s'.drw = [(a, b, c, n')] ∧ Φ d n') (fun _ _ => False) (fun _ _ => False)) :
    FnOk P w K mg base CX0 (k + 1) f fd ps (liftE K T S) := by
  refine F.ok Sc (fun vs H Q E h => ?_) fun cdv A outer s H vs Q E hr h => ?_
  · obtain ⟨Xs, a, b, c, n, ds, vs', Φ, rfl, _, _, _, _, h1, h2, _⟩ := h
    rw [List.length_cons, h1.length, len ds n Φ h2]
  · obtain ⟨Xs, a, b, c, n, ds, vs', Φ, rfl, hnd, hmu, hT, hdr, hds, hS, q⟩ := h
    obtain ⟨t, ht, hL⟩ := hbody cdv A outer s H E hr
    obtain ⟨_, items, _, _, _, _, hC, _⟩ := id hdr
    have hcn : c ∉ [a, b] := fun z => by
      rcases (show c = a ∨ c = b by simpa using z) with e | e <;> simp [e] at hnd
    have hl : ds.length + 1 = ps.length := len ds n Φ hS
    have hds' : IsL K ([a, b, c] ++ Xs) H (.adr a :: ds) (.ref a :: vs') := ⟨.ref a, vs', rfl, rfl, hds⟩
    refine ⟨t, ht, hL (noTb H) Xs a b c n ds Φ hS items (noTb_of hC (by intro _ z; cases z)) hcn _ (L2.start N (.ref a :: vs')) H ⟨⟨?_, ?_, ?_, ?_⟩, fun _ _ _ h => (noTb_get h).1, ?_, ?_, (fun e he => by cases he), (fun e he => by cases he), ⟨hT, noTb_n⟩, ?_, ?_⟩ ⟨?_, ?_, ?_, ?_⟩⟩
    · exact hmu
    · exact hnd
    · intro e he
      have : e = (a, b, c, n) := by simpa using he
      rw [this]
      exact hdr
    · intro e he; cases he
    · intro a ha; exact ha
    · intro e he x hx
      have : e = (a, b, c, n) := by simpa using he
      rw [this] at hx
      exact .inl hx
    · rw [start_len (by rw [hds'.length, List.length_cons]; omega), startD_len (by rw [List.length_cons, List.length_map]; omega)]
    · exact start_sl hds'
    · intro σ' H' ρ' s' o k
      obtain ⟨n', e, k⟩ := k
      exact q .non n' .non H' k (fun a u h nt e => o.fr a u h (noTb_of e nt)) o.tbs.t (o.rk.dr _ (by rw [e]; simp)) rfl
    · intro v σ' H' ρ' d s' o i k
      obtain ⟨n', e, k⟩ := k
      exact q d n' v H' k (fun a u h nt e => o.fr a u h (noTb_of e nt)) o.tbs.t (o.rk.dr _ (by rw [e]; simp)) (Is.anti (fun a h1 _ h2 => h1 (o.sub a h2)) d v i)
    · intro σ' H' ρ' s' o k; exact k
    · intro σ' H' ρ' s' o k; exact k
end
end Pw

namespace Pw
open PySem PySem.Spec PyProof.Rows L2
/-! ### is None, is not None -/
def isNon : D → Bool | .non => true | _ => false
theorem Is.non_iff {K : PySem.W.Frag} {Xs : List Addr} {H : Hp} {d : D} {v : V} (h : Is K Xs H d v) : decide (v = .non) = isNon d := by
  cases d with
  | non => cases (show v = .non from h); rfl
  | bl b => cases (show v = .bl b from h); rfl
  | int i => cases (show v = .int i from h); rfl
  | str x => cases (show v = .str x from h); rfl
  | tup ds => obtain ⟨a, xs, rfl, _⟩ := h; rfl
  | lst ds => obtain ⟨a, xs, rfl, _⟩ := h; rfl
  | ins C fs => obtain ⟨a, dx, vs, rfl, _⟩ := h; rfl
  | emp => obtain ⟨a, rfl, _⟩ := h; rfl
  | scr ns => obtain ⟨a, rfl, _⟩ := h; rfl
  | adr a => cases (show v = .ref a from h); rfl
  | ty n => cases (show v = .ty n from h); rfl
  | dct kvs => obtain ⟨a, vs, rfl, _⟩ := h; rfl
  | dtp kvs => obtain ⟨a, vs, rfl, _⟩ := h; rfl
  | exc C => obtain ⟨a, rfl, _⟩ := h; rfl
  | exf C fs => obtain ⟨a, d, vs, rfl, _⟩ := h; rfl
section
variable {W : Wd} {s : Rs} {Ψ : D → Prop} {d : D}
theorem OpD.isN (h : Ψ (.bl (isNon d))) : OpD W (fun x y H Q => y = V.non ∧ Q (V.bl (decide (x = V.non))) H) s d .non Ψ := fun H vx vy r h1 h2 Q q => by
  cases (show vy = .non from h2)
  rw [Is.non_iff h1]
  exact ⟨rfl, q _ H (.bl (isNon d)) (Same.refl H) rfl h⟩
theorem OpD.notN (h : Ψ (.bl (!isNon d))) : OpD W (fun x y H Q => y = V.non ∧ Q (V.bl (!decide (x = V.non))) H) s d .non Ψ := fun H vx vy r h1 h2 Q q => by
  cases (show vy = .non from h2)
  rw [Is.non_iff h1]
  exact ⟨rfl, q _ H (.bl (!isNon d)) (Same.refl H) rfl h⟩
end
section
variable {W : Wd} {s : Rs} {Ψ : D → Prop} {d : D}
theorem OpD.isNt (h : Ψ (.bl true)) : OpD W (fun x y H Q => y = V.non ∧ Q (V.bl (decide (x = V.non))) H) s .non .non Ψ := OpD.isN h
theorem OpD.isNf (hd : isNon d = false) (h : Ψ (.bl false)) : OpD W (fun x y H Q => y = V.non ∧ Q (V.bl (decide (x = V.non))) H) s d .non Ψ := OpD.isN (by rw [hd]; exact h)
theorem OpD.notNf (h : Ψ (.bl false)) : OpD W (fun x y H Q => y = V.non ∧ Q (V.bl (!decide (x = V.non))) H) s .non .non Ψ := OpD.notN h
theorem OpD.notNt (hd : isNon d = false) (h : Ψ (.bl true)) : OpD W (fun x y H Q => y = V.non ∧ Q (V.bl (!decide (x = V.non))) H) s d .non Ψ := OpD.notN (by rw [hd]; exact h)
end
/-! ### two lists of knots: when both have begun, their gap, their turns -/
def fst0 (ps : List Kn) : Rat := match ps with | a :: _ => a.1 | [] => 0
theorem fst0_at {ps : List Kn} {p : Kn} (h : ps[0]? = some p) : fst0 ps = p.1 := by
  cases ps with
  | nil => cases h
  | cons a r => cases h; rfl
def beg2 (ps qs : List Kn) : Rat := if fst0 ps < fst0 qs then fst0 qs else fst0 ps
theorem beg2_comm (ps qs : List Kn) : beg2 ps qs = beg2 qs ps := by
  unfold beg2
  split <;> split <;> grind
theorem beg2_late {ps qs : List Kn} {t : Rat} (h : beg2 ps qs ≤ t) : Late ps t ∧ Late qs t := by
  have h1 : fst0 ps ≤ t := by
    unfold beg2 at h
    split at h <;> grind
  have h2 : fst0 qs ≤ t := by
    unfold beg2 at h
    split at h <;> grind
  exact ⟨fun p hp => by rw [← fst0_at hp]; exact h1, fun p hp => by rw [← fst0_at hp]; exact h2⟩
def gapQ (ps qs : List Kn) (t : Rat) : Rat := posQ ps t - posQ qs t
def growQ (ps qs : List Kn) (t : Rat) : Rat := paceQ ps t - paceQ qs t
theorem gapQ_comm (ps qs : List Kn) (t : Rat) : gapQ qs ps t = -gapQ ps qs t := by unfold gapQ; grind
/-- a length: a line, or a ring -/
def Len (d : D) (L : Option Int) : Prop := (d = .non ∧ L = none) ∨ ∃ l : Int, d = .int l ∧ L = some l ∧ 1 ≤ l ∧ l < 2 ^ 140
def lapsQ (L : Option Int) (g : Rat) : Int := match L with
  | none => if 0 ≤ g then 0 else -1
  | some l => (g / (l : Rat)).floor
/-- no gap on the track -/
def onTrack (L : Option Int) (g : Rat) : Prop := match L with
  | none => g = 0
  | some l => ∃ k : Int, g = (k : Rat) * (l : Rat)
/-! the knots at which a slope changes -/
theorem tr_sub : ∀ (r : List Kn) (s : Rat), (tr s r).Sublist r
  | [], s => .slnil
  | a :: r, s => by
    show ((if nxt (a :: r) = s then [] else [a]) ++ tr (nxt (a :: r)) r).Sublist (a :: r)
    by_cases h : nxt (a :: r) = s
    · rw [if_pos h, List.nil_append]
      exact (tr_sub r _).cons a
    · rw [if_neg h, List.singleton_append]
      exact (tr_sub r _).cons_cons a
theorem turns_sub (ps : List Kn) : (turns ps).Sublist ps := by
  cases ps with
  | nil => exact .slnil
  | cons a r =>
    rw [turns_cons]
    exact (tr_sub r _).cons_cons a
theorem turns_fit {ps : List Kn} (h : KOk ps) {p : Kn} (hp : p ∈ turns ps) : Fit 400 p.1 ∧ Fit 400 p.2 := h.fit p ((turns_sub ps).subset hp)
theorem turns_len {ps : List Kn} (h : KOk ps) : (turns ps).length ≤ 900 := Nat.le_trans (turns_sub ps).length_le h.len
def times (ps qs : List Kn) : List Rat := (turns ps ++ turns qs).map (·.1)
theorem times_comm {ps qs : List Kn} {x : Rat} : x ∈ times ps qs ↔ x ∈ times qs ps := by
  unfold times
  simp only [List.map_append, List.mem_append]
  exact Or.comm
def nstep (t : Rat) (f : Option Rat) (x : Rat) : Option Rat := if t < x ∧ (f = none ∨ ∃ y, f = some y ∧ x < y) then some x else f
def nextT (ps qs : List Kn) (t : Rat) : Option Rat := (times ps qs).foldl (nstep t) none
/-- the least of some times behind t -/
def IsNext (t : Rat) (l : List Rat) : Option Rat → Prop
  | none => ∀ x ∈ l, ¬ t < x
  | some u => u ∈ l ∧ t < u ∧ ∀ x ∈ l, t < x → u ≤ x
theorem IsNext.snoc {t x : Rat} {l : List Rat} {f : Option Rat} (h : IsNext t l f) : IsNext t (l ++ [x]) (nstep t f x) := by
  unfold nstep
  cases f with
  | none =>
    by_cases hx : t < x
    · rw [if_pos ⟨hx, .inl rfl⟩]
      refine ⟨List.mem_append_right _ (List.mem_singleton.mpr rfl), hx, fun y hy hty => ?_⟩
      rcases List.mem_append.mp hy with z | z
      · exact absurd hty (h y z)
      · rw [List.mem_singleton.mp z]; exact Rat.le_refl
    · rw [if_neg fun z => hx z.1]
      intro y hy
      rcases List.mem_append.mp hy with z | z
      · exact h y z
      · rw [List.mem_singleton.mp z]; exact hx
  | some u =>
    obtain ⟨h1, h2, h3⟩ := h
    by_cases hx : t < x ∧ x < u
    · rw [if_pos ⟨hx.1, .inr ⟨u, rfl, hx.2⟩⟩]
      refine ⟨List.mem_append_right _ (List.mem_singleton.mpr rfl), hx.1, fun y hy hty => ?_⟩
      rcases List.mem_append.mp hy with z | z
      · have := h3 y z hty
        grind
      · rw [List.mem_singleton.mp z]; exact Rat.le_refl
    · rw [if_neg (by
        rintro ⟨z1, z2 | ⟨y, z2, z3⟩⟩
        · cases z2
        · cases z2; exact hx ⟨z1, z3⟩)]
      refine ⟨List.mem_append_left _ h1, h2, fun y hy hty => ?_⟩
      rcases List.mem_append.mp hy with z | z
      · exact h3 y z hty
      · rw [List.mem_singleton.mp z] at hty ⊢
        by_cases q : x < u
        · exact absurd ⟨hty, q⟩ hx
        · grind
theorem foldl_snoc {α β : Type} (f : β → α → β) (b : β) (l : List α) (x : α) : (l ++ [x]).foldl f b = f (l.foldl f b) x := by
  rw [List.foldl_append]; rfl
theorem rev_ind {α : Type} {P : List α → Prop} (h0 : P []) (h1 : ∀ l x, P l → P (l ++ [x])) (l : List α) : P l := by
  have key : ∀ m : List α, P m.reverse := fun m => by
    induction m with
    | nil => exact h0
    | cons a r ih => rw [List.reverse_cons]; exact h1 _ _ ih
  have := key l.reverse
  rwa [List.reverse_reverse] at this
theorem next_is (t : Rat) (l : List Rat) : IsNext t l (l.foldl (nstep t) none) :=
  rev_ind (P := fun l => IsNext t l (l.foldl (nstep t) none)) (fun x hx => by cases hx) (fun l x ih => by rw [foldl_snoc]; exact ih.snoc) l
theorem IsNext.only {t : Rat} {l m : List Rat} {f g : Option Rat} (h : IsNext t l f) (k : IsNext t m g) (e : ∀ x, x ∈ l ↔ x ∈ m) : f = g := by
  cases f with
  | none =>
    cases g with
    | none => rfl
    | some u => exact absurd k.2.1 (h u ((e u).mpr k.1))
  | some u =>
    cases g with
    | none => exact absurd h.2.1 (k u ((e u).mp h.1))
    | some v =>
      have h1 := h.2.2 v ((e v).mpr k.1) k.2.1
      have h2 := k.2.2 u ((e u).mp h.1) h.2.1
      congr 1
      grind
theorem nextT_is (ps qs : List Kn) (t : Rat) : IsNext t (times ps qs) (nextT ps qs t) := next_is t _
theorem nextT_comm (ps qs : List Kn) (t : Rat) : nextT ps qs t = nextT qs ps t := (nextT_is ps qs t).only (nextT_is qs ps t) fun _ => times_comm
/-- the greatest of some times ahead of t, not ahead of b -/
def lstep (t f x : Rat) : Rat := if x < t ∧ f < x then x else f
def lastT (ps qs : List Kn) (t : Rat) : Rat := (times ps qs).foldl (lstep t) (beg2 ps qs)
structure IsLast (b t : Rat) (l : List Rat) (f : Rat) : Prop where
  ge : b ≤ f
  lt : b < t → f < t
  eq : f = b ∨ f ∈ l
  up : ∀ x ∈ l, x < t → x ≤ f
theorem IsLast.snoc {b t x f : Rat} {l : List Rat} (h : IsLast b t l f) : IsLast b t (l ++ [x]) (lstep t f x) := by
  unfold lstep
  by_cases hx : x < t ∧ f < x
  · rw [if_pos hx]
    refine ⟨by have := h.ge; grind, fun _ => hx.1, .inr (List.mem_append_right _ (List.mem_singleton.mpr rfl)), fun y hy hyt => ?_⟩
    rcases List.mem_append.mp hy with z | z
    · have := h.up y z hyt
      grind
    · rw [List.mem_singleton.mp z]; exact Rat.le_refl
  · rw [if_neg hx]
    refine ⟨h.ge, h.lt, h.eq.imp id fun z => List.mem_append_left _ z, fun y hy hyt => ?_⟩
    rcases List.mem_append.mp hy with z | z
    · exact h.up y z hyt
    · rw [List.mem_singleton.mp z] at hyt ⊢
      by_cases q : f < x
      · exact absurd ⟨hyt, q⟩ hx
      · grind
theorem last_is (b t : Rat) (l : List Rat) : IsLast b t l (l.foldl (lstep t) b) :=
  rev_ind (P := fun l => IsLast b t l (l.foldl (lstep t) b)) ⟨Rat.le_refl, fun h => h, .inl rfl, fun x hx => by cases hx⟩ (fun l x ih => by rw [foldl_snoc]; exact ih.snoc) l
theorem lastT_is (ps qs : List Kn) (t : Rat) : IsLast (beg2 ps qs) t (times ps qs) (lastT ps qs t) := last_is _ t _
theorem lastT_comm (ps qs : List Kn) {t : Rat} (ht : beg2 ps qs < t) : lastT ps qs t = lastT qs ps t := by
  have h := lastT_is ps qs t
  have k := lastT_is qs ps t
  rw [beg2_comm] at k
  have h1 : lastT ps qs t ≤ lastT qs ps t := by
    rcases h.eq with e | e
    · rw [e]; exact k.ge
    · exact k.up _ (times_comm.mp e) (h.lt ht)
  have h2 : lastT qs ps t ≤ lastT ps qs t := by
    rcases k.eq with e | e
    · rw [e]; exact h.ge
    · exact h.up _ (times_comm.mp e) (k.lt ht)
  grind
end Pw

namespace Pw
/-! ### a straight stretch -/
theorem straight : ∀ (r : List Kn) (k : Kn) {a b : Rat}, asc (k :: r) → a ≤ b → (∀ p ∈ r, ¬ (a < p.1 ∧ p.1 < b)) → ∃ m, ∀ t, a ≤ t → t ≤ b → posQ (k :: r) t = posQ (k :: r) a + m * (t - a)
  | [], k, a, b, _, _, _ => ⟨0, fun t _ _ => by rw [posQ_one, posQ_one]; grind⟩
  | p :: r, k, a, b, h, hab, hno => by
    have hp := hno p (List.mem_cons_self ..)
    by_cases hap : a < p.1
    · have hbp : b ≤ p.1 := by
        by_cases z : p.1 < b
        · exact absurd ⟨hap, z⟩ hp
        · grind
      refine ⟨slope k p, fun t h1 h2 => ?_⟩
      rw [posQ_two, posQ_two, if_pos hap]
      by_cases htp : t < p.1
      · rw [if_pos htp]; grind
      · rw [if_neg htp]
        have e : t = p.1 := by grind
        rw [e, posQ_head h.2]
        have hz : p.1 - k.1 ≠ 0 := by have := h.1; grind
        unfold slope
        grind
    · obtain ⟨m, hm⟩ := straight r p h.2 hab fun q hq => hno q (List.mem_cons_of_mem _ hq)
      refine ⟨m, fun t h1 h2 => ?_⟩
      rw [posQ_on (by grind), posQ_on (by grind)]
      exact hm t h1 h2
theorem posQ_turns {ps : List Kn} (h : KOk ps) (t : Rat) : posQ (turns ps) t = posQ ps t := by
  cases ps with
  | nil => exact absurd h.ne (by decide)
  | cons a r => rw [turns_cons]; exact pos_tr r a t h.asc
theorem straight_turns {ps : List Kn} {a b : Rat} (h : KOk ps) (hab : a ≤ b) (hno : ∀ p ∈ turns ps, ¬ (a < p.1 ∧ p.1 < b)) : ∃ m, ∀ t, a ≤ t → t ≤ b → posQ ps t = posQ ps a + m * (t - a) := by
  have ha : asc (turns ps) := asc_sub h.asc (turns_sub ps)
  cases hp : turns ps with
  | nil =>
    cases ps with
    | nil => exact absurd h.ne (by decide)
    | cons x r => rw [turns_cons] at hp; cases hp
  | cons k r =>
    rw [hp] at ha hno
    obtain ⟨m, hm⟩ := straight r k ha hab fun p hp => hno p (List.mem_cons_of_mem _ hp)
    refine ⟨m, fun t h1 h2 => ?_⟩
    rw [← posQ_turns h, ← posQ_turns h, hp]
    exact hm t h1 h2
/-- the gap is straight where no turn stands -/
theorem gap_straight {ps qs : List Kn} {a b : Rat} (hp : KOk ps) (hq : KOk qs) (hab : a ≤ b) (hno : ∀ x ∈ times ps qs, ¬ (a < x ∧ x < b)) : ∃ m, ∀ t, a ≤ t → t ≤ b → gapQ ps qs t = gapQ ps qs a + m * (t - a) := by
  obtain ⟨m1, h1⟩ := straight_turns hp hab fun p hp => hno p.1 (by unfold times; exact List.mem_map.mpr ⟨p, List.mem_append_left _ hp, rfl⟩)
  obtain ⟨m2, h2⟩ := straight_turns hq hab fun p hp => hno p.1 (by unfold times; exact List.mem_map.mpr ⟨p, List.mem_append_right _ hp, rfl⟩)
  refine ⟨m1 - m2, fun t k1 k2 => ?_⟩
  unfold gapQ
  rw [h1 t k1 k2, h2 t k1 k2]
  grind
/-! ### sides -/
def sgn (a b : Rat) : Int := if a < b then -1 else if b < a then 1 else 0
theorem sgn_comm (a b : Rat) : sgn (-a) (-b) = -sgn a b := by
  unfold sgn
  by_cases h1 : a < b
  · rw [if_pos h1, if_neg (by grind), if_pos (by grind)]; rfl
  · by_cases h2 : b < a
    · rw [if_neg h1, if_pos h2, if_pos (by grind)]
    · rw [if_neg h1, if_neg h2, if_neg (by grind), if_neg (by grind)]; rfl
theorem sgn_zero {a b : Rat} : sgn a b = 0 ↔ a = b := by
  unfold sgn
  constructor
  · intro h
    by_cases h1 : a < b
    · rw [if_pos h1] at h; cases h
    · by_cases h2 : b < a
      · rw [if_neg h1, if_pos h2] at h; cases h
      · grind
  · rintro rfl
    rw [if_neg (by grind), if_neg (by grind)]
def cntL (l : List Rat) (t : Rat) : Nat := (l.filter fun x => decide (x < t)).length
def cntG (l : List Rat) (t : Rat) : Nat := (l.filter fun x => decide (t < x)).length
theorem filter_le {f g : Rat → Bool} (h : ∀ x, f x = true → g x = true) : ∀ l : List Rat, (l.filter f).length ≤ (l.filter g).length
  | [] => Nat.le_refl _
  | a :: r => by
    have ih := filter_le h r
    by_cases hf : f a = true
    · rw [List.filter_cons_of_pos hf, List.filter_cons_of_pos (h a hf)]
      simp; omega
    · rw [List.filter_cons_of_neg hf]
      by_cases hg : g a = true
      · rw [List.filter_cons_of_pos hg]; simp; omega
      · rw [List.filter_cons_of_neg hg]; exact ih
theorem filter_lt {f g : Rat → Bool} (h : ∀ x, f x = true → g x = true) {e : Rat} (h1 : f e = false) (h2 : g e = true) : ∀ {l : List Rat}, e ∈ l → (l.filter f).length < (l.filter g).length
  | a :: r, he => by
    rcases List.mem_cons.mp he with z | z
    · rw [← z, List.filter_cons_of_neg (by rw [h1]; exact Bool.noConfusion), List.filter_cons_of_pos h2]
      have := filter_le h r
      simp; omega
    · have ih := filter_lt h h1 h2 z
      by_cases hf : f a = true
      · rw [List.filter_cons_of_pos hf, List.filter_cons_of_pos (h a hf)]
        simp; omega
      · rw [List.filter_cons_of_neg hf]
        by_cases hg : g a = true
        · rw [List.filter_cons_of_pos hg]; simp; omega
        · rw [List.filter_cons_of_neg hg]; exact ih
theorem cntL_lt {l : List Rat} {e t : Rat} (he : e ∈ l) (h : e < t) : cntL l e < cntL l t :=
  filter_lt (fun x hx => by simp at hx ⊢; grind) (by simp) (by simpa using h) he
theorem cntL_le {l : List Rat} {e t : Rat} (h : e ≤ t) : cntL l e ≤ cntL l t := filter_le (fun x hx => by simp at hx ⊢; grind) l
theorem cntG_lt {l : List Rat} {e t : Rat} (he : e ∈ l) (h : t < e) : cntG l e < cntG l t :=
  filter_lt (fun x hx => by simp at hx ⊢; grind) (by simp) (by simpa using h) he
theorem cntG_le {l : List Rat} {e t : Rat} (h : t ≤ e) : cntG l e ≤ cntG l t := filter_le (fun x hx => by simp at hx ⊢; grind) l
/-- the steps back that are left -/
def backN (ps qs : List Kn) (t : Rat) : Nat := cntL (times ps qs) t + if beg2 ps qs < t then 1 else 0
theorem back_lt {ps qs : List Kn} {t : Rat} (h : beg2 ps qs < t) : backN ps qs (lastT ps qs t) < backN ps qs t := by
  have hl := lastT_is ps qs t
  have hlt := hl.lt h
  unfold backN
  rw [if_pos h]
  rcases hl.eq with e | e
  · rw [e, if_neg (by grind)]
    have := cntL_le (l := times ps qs) (Rat.le_of_lt h)
    omega
  · have := cntL_lt e hlt
    split <;> omega
/-- when a contact begins, and its before; g, the gap -/
def sideB (ps qs : List Kn) (g t : Rat) : Rat × Int :=
  if h : beg2 ps qs < t then
    if sgn (gapQ ps qs (lastT ps qs t)) g ≠ 0 then (t, sgn (gapQ ps qs (lastT ps qs t)) g) else sideB ps qs g (lastT ps qs t)
  else (t, 0)
termination_by backN ps qs t
decreasing_by exact back_lt h
def sideA (ps qs : List Kn) (t : Rat) : Option Rat × Int :=
  if growQ ps qs t ≠ 0 then (some t, sgn (growQ ps qs t) 0) else
    match h : nextT ps qs t with
    | none => (none, 0)
    | some u => sideA ps qs u
termination_by cntG (times ps qs) t
decreasing_by
  have := nextT_is ps qs t
  rw [h] at this
  exact cntG_lt this.1 this.2.1
theorem sideB_comm (ps qs : List Kn) (g t : Rat) : sideB qs ps (-g) t = ((sideB ps qs g t).1, -(sideB ps qs g t).2) := by
  rw [sideB.eq_1 qs ps (-g) t, sideB.eq_1 ps qs g t]
  by_cases h : beg2 ps qs < t
  · have h' : beg2 qs ps < t := by rw [beg2_comm]; exact h
    rw [dif_pos h, dif_pos h', ← lastT_comm ps qs h, gapQ_comm, sgn_comm]
    by_cases hs : sgn (gapQ ps qs (lastT ps qs t)) g = 0
    · rw [if_neg (by rw [hs]; simp), if_neg (by simp [hs])]
      exact sideB_comm ps qs g (lastT ps qs t)
    · rw [if_pos (by omega), if_pos hs]
  · have h' : ¬ beg2 qs ps < t := by rw [beg2_comm]; exact h
    rw [dif_neg h, dif_neg h']
    rfl
termination_by backN ps qs t
decreasing_by exact back_lt h
/-- a contact behind a time at which the two are apart has a side before -/
theorem sideB_ne {ps qs : List Kn} {g s t : Rat} (hp : KOk ps) (hq : KOk qs) (hs : beg2 ps qs ≤ s) (hst : s < t) (hg : gapQ ps qs t = g) (ha : gapQ ps qs s ≠ g) : (sideB ps qs g t).2 ≠ 0 := by
  have h : beg2 ps qs < t := by grind
  have hl := lastT_is ps qs t
  have hlt := hl.lt h
  rw [sideB, dif_pos h]
  by_cases hz : sgn (gapQ ps qs (lastT ps qs t)) g = 0
  · rw [if_neg (by simp [hz])]
    have he := sgn_zero.mp hz
    by_cases hes : s < lastT ps qs t
    · exact sideB_ne hp hq hs hes he ha
    · exfalso
      obtain ⟨m, hm⟩ := gap_straight hp hq (Rat.le_of_lt hlt) fun x hx ⟨z1, z2⟩ => by
        have := hl.up x hx z2
        grind
      have e1 := hm t (Rat.le_of_lt hlt) Rat.le_refl
      have e2 := hm s (by grind) (Rat.le_of_lt hst)
      rw [hg, he] at e1
      have hm0 : m * (t - lastT ps qs t) = 0 := by grind
      have hm1 : m = 0 := by
        rcases Rat.mul_eq_zero.mp hm0 with z | z
        · exact z
        · grind
      rw [hm1] at e2
      exact ha (by grind)
  · rw [if_pos hz]
    exact hz
termination_by backN ps qs t
decreasing_by exact back_lt h

theorem ordq_sgn (a b : Rat) : ordq a b = sgn a b := by
  unfold ordq sgn
  by_cases h1 : a < b
  · rw [if_neg (by grind), if_pos h1, if_pos h1]; rfl
  · by_cases h2 : b < a
    · rw [if_pos h2, if_neg h1, if_neg h1]; rfl
    · rw [if_neg h2, if_neg h1, if_neg h1]; rfl
open Classical in
/-- the laps at a time, or just before a contact (just after one that begins with both) -/
noncomputable def lbQ (L : Option Int) (ps qs : List Kn) (t : Rat) : Int :=
  if onTrack L (gapQ ps qs t) then lapsQ L (gapQ ps qs t) - (if (if (sideB ps qs (gapQ ps qs t) t).2 = 0 then (sideA ps qs t).2 else (sideB ps qs (gapQ ps qs t) t).2) < 0 then 1 else 0)
  else lapsQ L (gapQ ps qs t)
theorem lbQ_apart {L : Option Int} {ps qs : List Kn} {t : Rat} (h : ¬ onTrack L (gapQ ps qs t)) : lbQ L ps qs t = lapsQ L (gapQ ps qs t) := if_neg h
theorem onTrack_neg {L : Option Int} {g : Rat} : onTrack L (-g) ↔ onTrack L g := by
  cases L with
  | none => show -g = 0 ↔ g = 0; constructor <;> intro h <;> grind
  | some l =>
    constructor
    · rintro ⟨k, e⟩
      refine ⟨-k, ?_⟩
      rw [Rat.intCast_neg]
      grind
    · rintro ⟨k, e⟩
      refine ⟨-k, ?_⟩
      rw [Rat.intCast_neg]
      grind
theorem floor_neg_of {q : Rat} (h : ∀ k : Int, q ≠ (k : Rat)) : (-q).floor = -q.floor - 1 := by
  have h1 : q.floor < q ∨ (q.floor : Rat) = q := by
    have := Rat.floor_le q
    grind
  rcases h1 with h1 | h1
  · have h2 := Rat.lt_floor_add_one q
    have a1 : -q.floor - 1 ≤ (-q).floor := Rat.le_floor_iff.mpr (by
      rw [Rat.intCast_sub, Rat.intCast_neg]
      have : ((1 : Int) : Rat) = 1 := rfl
      grind)
    have a2 : ¬ (-q.floor ≤ (-q).floor) := fun z => by
      have := Rat.le_floor_iff.mp z
      rw [Rat.intCast_neg] at this
      grind
    omega
  · exact absurd h1.symm (h _)
theorem lapsQ_neg {L : Option Int} {g : Rat} (hL : ∀ l, L = some l → 1 ≤ l) (h : ¬ onTrack L g) : lapsQ L (-g) = -lapsQ L g - 1 := by
  cases L with
  | none =>
    have h : ¬ g = 0 := h
    show (if 0 ≤ -g then (0 : Int) else -1) = -(if 0 ≤ g then 0 else -1) - 1
    by_cases z : 0 ≤ g
    · rw [if_pos z, if_neg (by grind)]; rfl
    · rw [if_neg z, if_pos (by grind)]; rfl
  | some l =>
    have hl := hL l rfl
    have hz : (l : Rat) ≠ 0 := by exact_mod_cast (show l ≠ 0 by omega)
    show (-g / (l : Rat)).floor = -(g / (l : Rat)).floor - 1
    have e : -g / (l : Rat) = -(g / (l : Rat)) := by grind
    rw [e]
    refine floor_neg_of fun k hk => h ⟨k, ?_⟩
    grind
theorem lapsQ_on {L : Option Int} {g : Rat} (hL : ∀ l, L = some l → 1 ≤ l) (h : onTrack L g) : lapsQ L (-g) = -lapsQ L g := by
  cases L with
  | none =>
    have h : g = 0 := h
    subst h
    decide
  | some l =>
    have hl := hL l rfl
    have hz : (l : Rat) ≠ 0 := by exact_mod_cast (show l ≠ 0 by omega)
    obtain ⟨k, rfl⟩ := h
    show (-((k : Rat) * (l : Rat)) / (l : Rat)).floor = -((k : Rat) * (l : Rat) / (l : Rat)).floor
    have e1 : -((k : Rat) * (l : Rat)) / (l : Rat) = ((-k : Int) : Rat) := by rw [Rat.intCast_neg]; grind
    have e2 : (k : Rat) * (l : Rat) / (l : Rat) = (k : Rat) := by grind
    rw [e1, e2, Rat.floor_intCast, Rat.floor_intCast]
/-- exchanged, the laps behind a time at which the two are apart -/
theorem lbQ_comm {L : Option Int} {ps qs : List Kn} {s t : Rat} (hL : ∀ l, L = some l → 1 ≤ l) (hp : KOk ps) (hq : KOk qs) (hs : beg2 ps qs ≤ s) (hst : s ≤ t) (ha : ¬ onTrack L (gapQ ps qs s)) : lbQ L qs ps t = -lbQ L ps qs t - 1 := by
  by_cases h : onTrack L (gapQ ps qs t)
  · have h' : onTrack L (gapQ qs ps t) := by rw [gapQ_comm]; exact onTrack_neg.mpr h
    have hlt : s < t := by
      by_cases z : s = t
      · rw [z] at ha; exact absurd h ha
      · grind
    have hne := sideB_ne hp hq hs hlt rfl fun e => ha (by rw [e]; exact h)
    have hc := sideB_comm ps qs (gapQ ps qs t) t
    unfold lbQ
    rw [if_pos h, if_pos h', gapQ_comm, hc, lapsQ_on hL h]
    generalize (sideB ps qs (gapQ ps qs t) t).2 = b at *
    rw [if_neg (show ¬ -b = 0 by omega), if_neg hne]
    split <;> split <;> omega
  · have h' : ¬ onTrack L (gapQ qs ps t) := fun z => h (onTrack_neg.mp (by rw [← gapQ_comm]; exact z))
    rw [lbQ_apart h, lbQ_apart h', gapQ_comm, lapsQ_neg hL h]
/-! ### counts -/
def untilT (ps qs : List Kn) (u t : Rat) : Rat := match nextT ps qs t with
  | none => u
  | some w => if u < w then u else w
theorem until_lt {ps qs : List Kn} {u t : Rat} (h : t < u) : t < untilT ps qs u t ∧ untilT ps qs u t ≤ u := by
  have hn := nextT_is ps qs t
  unfold untilT
  cases e : nextT ps qs t with
  | none => exact ⟨h, Rat.le_refl⟩
  | some w =>
    rw [e] at hn
    show t < (if u < w then u else w) ∧ (if u < w then u else w) ≤ u
    split
    · exact ⟨h, Rat.le_refl⟩
    · exact ⟨hn.2.1, by grind⟩
theorem until_cnt {ps qs : List Kn} {u t : Rat} (h : t < u) : cntG (times ps qs) (untilT ps qs u t) + (if untilT ps qs u t < u then 1 else 0) < cntG (times ps qs) t + 1 := by
  have hn := nextT_is ps qs t
  obtain ⟨h1, h2⟩ := until_lt (ps := ps) (qs := qs) h
  have hle := cntG_le (l := times ps qs) (Rat.le_of_lt h1)
  by_cases hlt : untilT ps qs u t < u
  · rw [if_pos hlt]
    unfold untilT at *
    cases e : nextT ps qs t with
    | none =>
      rw [e] at hlt
      have hlt : u < u := hlt
      exact absurd hlt (by grind)
    | some w =>
      rw [e] at hn
      rw [e] at hlt hle
      have hlt : (if u < w then u else w) < u := hlt
      have hw : ¬ u < w := fun z => by rw [if_pos z] at hlt; grind
      show cntG (times ps qs) (if u < w then u else w) + 1 < _
      rw [if_neg hw]
      have := cntG_lt hn.1 hn.2.1
      omega
  · rw [if_neg hlt]; omega
noncomputable def ccQ (L : Option Int) (ps qs : List Kn) (u t : Rat) : Int × Int :=
  if h : t < u then
    (max 0 (lbQ L ps qs (untilT ps qs u t) - lbQ L ps qs t) + (ccQ L ps qs u (untilT ps qs u t)).1, max 0 (0 - (lbQ L ps qs (untilT ps qs u t) - lbQ L ps qs t)) + (ccQ L ps qs u (untilT ps qs u t)).2)
  else (0, 0)
termination_by cntG (times ps qs) t + if t < u then 1 else 0
decreasing_by all_goals (rw [if_pos h]; exact until_cnt h)
theorem ccQ_net {L : Option Int} {ps qs : List Kn} {u t : Rat} (h : t ≤ u) : (ccQ L ps qs u t).1 - (ccQ L ps qs u t).2 = lbQ L ps qs u - lbQ L ps qs t ∧ 0 ≤ (ccQ L ps qs u t).1 ∧ 0 ≤ (ccQ L ps qs u t).2 := by
  rw [ccQ.eq_1 L ps qs u t]
  by_cases hlt : t < u
  · obtain ⟨h1, h2⟩ := until_lt (ps := ps) (qs := qs) hlt
    obtain ⟨i1, i2, i3⟩ := ccQ_net (L := L) (ps := ps) (qs := qs) h2
    rw [dif_pos hlt]
    dsimp only
    omega
  · rw [dif_neg hlt]
    have e : t = u := by grind
    subst e
    dsimp only
    omega
termination_by cntG (times ps qs) t + if t < u then 1 else 0
decreasing_by all_goals (rw [if_pos hlt]; exact until_cnt hlt)
theorem untilT_comm (ps qs : List Kn) (u t : Rat) : untilT qs ps u t = untilT ps qs u t := by unfold untilT; rw [nextT_comm]
theorem ccQ_comm {L : Option Int} {ps qs : List Kn} {s u t : Rat} (hL : ∀ l, L = some l → 1 ≤ l) (hp : KOk ps) (hq : KOk qs) (hs : beg2 ps qs ≤ s) (hst : s ≤ t) (ha : ¬ onTrack L (gapQ ps qs s)) : ccQ L qs ps u t = ((ccQ L ps qs u t).2, (ccQ L ps qs u t).1) := by
  rw [ccQ.eq_1 L qs ps u t, ccQ.eq_1 L ps qs u t]
  by_cases hlt : t < u
  · obtain ⟨h1, h2⟩ := until_lt (ps := ps) (qs := qs) hlt
    rw [dif_pos hlt, dif_pos hlt, untilT_comm]
    have ih := ccQ_comm (u := u) (t := untilT ps qs u t) hL hp hq hs (by grind) ha
    rw [ih, lbQ_comm hL hp hq hs hst ha, lbQ_comm (t := untilT ps qs u t) hL hp hq hs (by grind) ha]
    refine Prod.ext ?_ ?_
    · dsimp only; omega
    · dsimp only; omega
  · rw [dif_neg hlt, dif_neg hlt]
termination_by cntG (times ps qs) t + if t < u then 1 else 0
decreasing_by all_goals (rw [if_pos hlt]; exact until_cnt hlt)

/-! ### timetables with knots of few bits -/
structure KS (ps : List Kn) : Prop where
  ok : KOk ps
  sm : ∀ p ∈ ps, Fit 100 p.1 ∧ Fit 330 p.2
theorem gapQ_fit {ps qs : List Kn} {t : Rat} (hp : KS ps) (hq : KS qs) (hb : beg2 ps qs ≤ t) (ht : Fit 100 t) : Fit 2800 (gapQ ps qs t) := by
  obtain ⟨l1, l2⟩ := beg2_late hb
  exact ((posQ_fitP hp.ok l1 hp.sm ht).sub (posQ_fitP hq.ok l2 hq.sm ht)).mono (by decide)
theorem gapQ_fit7 {ps qs : List Kn} {t : Rat} (hp : KS ps) (hq : KS qs) (hb : beg2 ps qs ≤ t) (ht : Fit 700 t) : Fit 4000 (gapQ ps qs t) := by
  obtain ⟨l1, l2⟩ := beg2_late hb
  exact ((posQ_fitP hp.ok l1 hp.sm ht).sub (posQ_fitP hq.ok l2 hq.sm ht)).mono (by decide)
theorem growQ_fit {ps qs : List Kn} {t : Rat} (hp : KS ps) (hq : KS qs) (hb : beg2 ps qs ≤ t) : Fit 1800 (growQ ps qs t) := by
  obtain ⟨l1, l2⟩ := beg2_late hb
  exact ((paceQ_fitP hp.ok l1 hp.sm).sub (paceQ_fitP hq.ok l2 hq.sm)).mono (by decide)
theorem times_fit {ps qs : List Kn} (hp : KS ps) (hq : KS qs) {x : Rat} (h : x ∈ times ps qs) : Fit 100 x := by
  obtain ⟨p, hm, rfl⟩ := List.mem_map.mp h
  rcases List.mem_append.mp hm with z | z
  · exact (hp.sm p ((turns_sub ps).subset z)).1
  · exact (hq.sm p ((turns_sub qs).subset z)).1
theorem fst0_fit {ps : List Kn} (hp : KS ps) : Fit 100 (fst0 ps) := by
  obtain ⟨p, h⟩ := get_of_lt (l := ps) (i := 0) hp.ok.ne
  rw [fst0_at h]
  exact (hp.sm p (List.mem_of_getElem? h)).1
theorem beg2_fit100 {ps qs : List Kn} (hp : KS ps) (hq : KS qs) : Fit 100 (beg2 ps qs) := by
  unfold beg2
  split
  · exact fst0_fit hq
  · exact fst0_fit hp
theorem lastT_fit {ps qs : List Kn} (hp : KS ps) (hq : KS qs) (t : Rat) : Fit 100 (lastT ps qs t) := by
  rcases (lastT_is ps qs t).eq with e | e
  · rw [e]; exact beg2_fit100 hp hq
  · exact times_fit hp hq e
theorem nextT_fit {ps qs : List Kn} (hp : KS ps) (hq : KS qs) {t u : Rat} (h : nextT ps qs t = some u) : Fit 100 u := by
  have := nextT_is ps qs t
  rw [h] at this
  exact times_fit hp hq this.1
end Pw

namespace Pw
open PySem PySem.Spec PyProof.Rows L2
/-! ### calls with keywords, all keyword-only parameters told -/
theorem vals_app : ∀ {vs : List V} {us : List Value} {zs : List V} {ws : List Value}, Vals vs us → Vals zs ws → Vals (vs ++ zs) (us ++ ws)
  | _, _, _, _, .nil, k => k
  | _, _, _, _, .cons r h, k => .cons r (vals_app h k)
theorem kbinds {K : PySem.W.Frag} {x qual : Str} {st : Stmt} {f : Addr} {fd : FuncData} {ps ks : List Str} {n : Nat} (F : Fun K x qual st f fd)
    (h : ∀ (kV doc pm : Value) (an : Option Addr) (cdv ct : Value) (us ws : List Value), us.length = n → ws.length = ks.length → bindArgs (PySem.W.fnOf x qual (defArgs st) (defBody st) (defScope st) .none kV doc pm an cdv ct) { pos := us, kw := ks.zip ws } = pure (ps.zip (us ++ ws))) :
    KBn K fd ps n ks (fun us ws => us ++ ws) (fun vs zs => vs ++ zs) := by
  obtain ⟨oc, od, kV, dc, pm, an, cdv, ct, sl, rfl, lk, hcd⟩ := F.ex
  exact ⟨fun s us ws KX hu hw => .of_eq (h _ _ _ _ _ _ us ws hu hw), fun h1 h2 => vals_app h1 h2⟩
theorem LE.callN {W : Wd} {ρ : En} {s : Rs} {Φ : D → Rs → Prop} {E : XK} {S : PSp} {t tk : TA} {n m : Nat} (h : LA W t ρ s fun ds s1 => LA W tk ρ s1 fun es s2 => ds.length = n ∧ es.length = m ∧ S (ds ++ es) fun d => Φ d s2) : LE W (tCallN n m (liftP W.K W.tb S) (fun vs zs => vs ++ zs) E t tk) ρ s Φ := fun σ H o Q q => by
  refine h σ H o _ fun vs H1 ds s1 o1 p1 i1 k => ?_
  refine k σ H1 o1 _ fun zs H2 es s2 o2 p2 i2 k2 => ?_
  obtain ⟨hn, hm, hS⟩ := k2
  refine ⟨by rw [i1.length]; exact hn, by rw [i2.length]; exact hm, adrs s2, ds ++ es, fun d => Φ d s2, o2.rk.nd, o2.rk.mu, o2.tbs.t, (p2.list i1).append i2, hS, fun d v H' f e i => ?_⟩
  exact q v H' d s2 (o2.ext e) ((p1.trans p2).trans (o2.presT e)) i f
end Pw

namespace Pw
open PySem PySem.Spec PyProof.Rows L2
/-! ### min of a pair -/
theorem get_lt {h : Heap} {a : Addr} {o : Obj} (e : h.get? a = some o) : a < h.objs.size := by
  by_cases z : a < h.objs.size
  · exact z
  · have hn : h.objs[a]? = none := Array.getElem?_eq_none (Nat.le_of_not_lt z)
    unfold Heap.get? at e
    rw [hn] at e
    cases e
theorem min_pair {prog : Program} {w : World} {A : Around} {E : Value → Shared → Prop} {s : Shared} {l : Addr} {i j : Int} {t u : Tok} {Q : Value → Shared → Prop} (hh : A.handled = none) (hl : IsTup s.heap l #[.int i t, .int j u])
    (h : ∀ (h' : Heap) (tk : Nat) (t' : Tok), (∀ (b : Addr) (o : Obj), s.heap.get? b = some o → h'.get? b = some o) → Q (.int (if j < i then j else i) t') { heap := h', gens := s.gens, drawn := s.drawn, toks := tk, os := s.os }) : wpAny (model prog w) A (call (.builtin "min") [.ref l]) Q E s := by
  refine call_min_walk (iter_tuple hl ?_)
  obtain ⟨o, ho, hc, n, hd⟩ := hl
  have hlt : l < s.heap.objs.size := get_lt ho
  have hxs : intItems #[(i, t), (j, u)] = #[.int i t, .int j u] := by simp [intItems]
  have hold : ∀ (b : Addr) (x : Obj), s.heap.get? b = some x → (s.heap.push { cls := .type "tuple_iterator", data := .fields #[.ref l, .int 0 0] }).get? b = some x := fun b x hb => Heap.get?_push_of_some _ hb
  have hw := Walks.tuple (prog := prog) (w := w) (A := A.in1) hh s.heap.objs.size l (Nat.ne_of_lt hlt) (intItems #[(i, t), (j, u)])
  rw [show (intItems #[(i, t), (j, u)]).size = 2 by rw [hxs]; rfl] at hw
  refine ⟨s.heap.objs.size, [s.heap.objs.size, l], [s.heap.objs.size], 2, fun a v => (intItems #[(i, t), (j, u)])[a]? = some v, fun a h => h.IsTupleIter s.heap.objs.size l a ∧ h.IsTuple l (intItems #[(i, t), (j, u)]), fun a b => decide (numAt #[(i, t), (j, u)] a < numAt #[(i, t), (j, u)] b), rfl, hw, ⟨⟨_, Heap.get?_push_size _ rfl, rfl, rfl⟩, ⟨o, hold _ _ ho, hc, n, by rw [hd, hxs]⟩⟩, ?_, by decide, CmpOf.ints_lt (numAt #[(i, t), (j, u)]) (fun _ _ => intItems_at), fun v h' tk hP hk => ?_⟩
  · intro b hb
    simp only [List.mem_cons, List.not_mem_nil, or_false] at hb
    have : (s.heap.push { cls := .type "tuple_iterator", data := .fields #[.ref l, .int 0 0] }).objs.size = s.heap.objs.size + 1 := Array.size_push ..
    show b < (s.heap.push _).objs.size
    rw [this]
    rcases hb with rfl | rfl
    · exact Nat.lt_succ_self _
    · exact Nat.lt_succ_of_lt hlt
  · obtain ⟨t', rfl⟩ := intItems_at hP
    obtain ⟨h1, h2⟩ := argBest_lt (numAt #[(i, t), (j, u)]) 1
    have a0 := h2 0 (by decide)
    have a1 := h2 1 (by decide)
    have e0 : numAt #[(i, t), (j, u)] 0 = i := rfl
    have e1 : numAt #[(i, t), (j, u)] 1 = j := rfl
    have e : numAt #[(i, t), (j, u)] (argBest (fun a b => decide (numAt #[(i, t), (j, u)] a < numAt #[(i, t), (j, u)] b)) (2 - 1)) = if j < i then j else i := by
      show numAt #[(i, t), (j, u)] (argBest (fun a b => decide (numAt #[(i, t), (j, u)] a < numAt #[(i, t), (j, u)] b)) 1) = _
      have hz : numAt #[(i, t), (j, u)] (argBest (fun a b => decide (numAt #[(i, t), (j, u)] a < numAt #[(i, t), (j, u)] b)) 1) = i ∨ numAt #[(i, t), (j, u)] (argBest (fun a b => decide (numAt #[(i, t), (j, u)] a < numAt #[(i, t), (j, u)] b)) 1) = j := by
        rcases (show argBest (fun a b => decide (numAt #[(i, t), (j, u)] a < numAt #[(i, t), (j, u)] b)) 1 = 0 ∨ argBest (fun a b => decide (numAt #[(i, t), (j, u)] a < numAt #[(i, t), (j, u)] b)) 1 = 1 by omega) with z | z
        · exact .inl (by rw [z]; rfl)
        · exact .inr (by rw [z]; rfl)
      rw [e0] at a0
      rw [e1] at a1
      generalize numAt #[(i, t), (j, u)] (argBest (fun a b => decide (numAt #[(i, t), (j, u)] a < numAt #[(i, t), (j, u)] b)) 1) = y at *
      split <;> omega
    rw [e]
    refine h h' tk t' fun b x hb => hk b x ?_ (hold b x hb)
    intro hm
    simp only [List.mem_cons, List.not_mem_nil, or_false] at hm
    have := get_lt hb
    rw [hm] at this
    exact Nat.lt_irrefl _ this
def rMin (K : PySem.W.Frag) : List V → Hp → VK → Prop := fun xs H Q => ∃ p i j, xs = [V.ref p] ∧ SqT K H p [.int i, .int j] ∧ Q (V.int (if j < i then j else i)) H
theorem call_minT {X : Cx} (hc : X.calm = true) : CallR X (.builtin "min") (rMin X.K) := fun pins s σ H xs us Q I r h => by
  obtain ⟨p, i, j, rfl, hs, q⟩ := h
  obtain ⟨u, rfl, hu⟩ := L2.vals1 r
  cases (show u = .ref p from hu)
  obtain ⟨its, hv, ht, _⟩ := I.tuple hs
  obtain ⟨v1, v2, rfl, h1, h2⟩ := vals2 hv
  obtain ⟨t1, rfl⟩ := (show ∃ t, v1 = .int i t from h1)
  obtain ⟨t2, rfl⟩ := (show ∃ t, v2 = .int j t from h2)
  exact min_pair (I.ok.hd hc) ht fun h' tk t' k => ⟨.int (if j < i then j else i), H, I.kept k, ⟨t', rfl⟩, q⟩
theorem CbD.minT {W : Wd} {s : Rs} {Ψ : D → Prop} {i j : Int} (h : Ψ (.int (if j < i then j else i))) : CbD W (rMin W.K) s [.tup [.int i, .int j]] Ψ := fun H vs r h1 Q q => by
  obtain ⟨v, rfl, a, xs, rfl, g1, g2⟩ := IsL.one h1
  obtain ⟨v1, v2, rfl, e1, e2⟩ := IsL.two g2
  cases (show v1 = .int i from e1)
  cases (show v2 = .int j from e2)
  exact ⟨a, i, j, rfl, IsL.sqT g1, q _ H (.int _) (Same.refl H) rfl h⟩
theorem LG.lst {W : Wd} {ρ : En} {s : Rs} {n : Nat} {gs : TGs} {ds : List D} {Φ : En → Rs → Prop} (hn : ds.length = n) (h : LGs W gs ds ρ s Φ) : LG W (gLst W.K n gs) (.lst ds) ρ s Φ := fun v σ H o i Q q => by
  obtain ⟨a, xs, rfl, _, h1, h2⟩ := i
  exact ⟨a, xs, rfl, SqL.of h1, by rw [h2.length, hn], h xs σ H o h2 Q q⟩
theorem OpD.rep01 {W : Wd} {s : Rs} {Ψ : D → Prop} {ds : List D} {b : Bool} (hl : ds.length ≤ 1000) (h : Ψ (.lst (if b = true then ds else []))) : OpD W rRep s (.lst ds) (.int (if b = true then 1 else 0)) Ψ := fun H vx vy r h1 h2 Q q => by
  obtain ⟨a, xs, rfl, g0, g1, g2⟩ := h1
  cases (show vy = .int _ from h2)
  cases b with
  | true =>
    refine ⟨a, 1, xs, rfl, rfl, g1, by decide, by decide, ?_, fun p hp => ?_⟩
    · rw [show (1 : Int).toNat = 1 from rfl, Nat.mul_one]
      exact Nat.le_of_lt (small1000 (by rw [g2.length]; exact hl))
    · have e : (List.replicate (1 : Int).toNat xs).flatten = xs := by simp
      rw [e]
      have e1 : Same H (upd H p (.lst xs)) := Same.new hp
      exact q _ _ (.lst ds) e1 ⟨p, _, rfl, r.fresh hp, upd_same, IsL.goes (r.goes e1) _ _ g2⟩ h
  | false =>
    refine ⟨a, 0, xs, rfl, rfl, g1, by decide, by decide, by rw [show (0 : Int).toNat = 0 from rfl, Nat.mul_zero]; exact Nat.zero_le _, fun p hp => ?_⟩
    have e : (List.replicate (0 : Int).toNat xs).flatten = [] := by simp
    rw [e]
    have e1 : Same H (upd H p (.lst [])) := Same.new hp
    exact q _ _ (.lst []) e1 ⟨p, _, rfl, r.fresh hp, upd_same, rfl⟩ h
/-! ### repr of an int -/
theorem CbD.reprI {W : Wd} {s : Rs} {Ψ : D → Prop} {i : Int} (hi : i.natAbs < 2 ^ 1900) (h : Ψ (.str (Str.ofString (toString i)))) : CbD W (fun xs H Q => ∃ i, xs = [V.int i] ∧ i.natAbs.log2 < 1920 ∧ Q (V.str (Str.ofString (toString i))) H) s [.int i] Ψ := fun H vs r h1 Q q => by
  obtain ⟨v, rfl, e1⟩ := IsL.one h1
  cases (show v = .int i from e1)
  refine ⟨i, rfl, ?_, q _ H (.str _) (Same.refl H) rfl h⟩
  by_cases z : i.natAbs = 0
  · rw [z]; decide
  · exact (Nat.log2_lt z).mpr (Nat.lt_of_lt_of_le hi (Nat.pow_le_pow_right (by decide) (by decide)))
end Pw

namespace Pw
open PySem PySem.Spec PyProof.Rows L2
/-! ### a caught error that is kept behind its suite -/
section
variable {X : Cx} {pins : List (Addr × Obj)} {σ : L2.St} {H : Hp} {s : Shared}
theorem track {a : Addr} {oe : Obj} {vs : Array Value} {φ : Heap → Prop} (I : L2.Inv X pins σ H s) (n : H a = none) (n0 : X.s_0.heap.get? a = none) (e : s.heap.get? a = some oe) (hd : oe.data = .fields vs) (nL : a ≠ X.env.locals) (np : ∀ p ∈ X.pn ++ pins, p.1 ≠ a)
    (hφ : φ s.heap) (st : ∀ h1 h2 : Heap, φ h1 → (∀ o, h1.get? a = some o → h2.get? a = some o) → φ h2) : L2.Inv X pins σ (upd H a (.ext φ)) s := by
  have at_ : ∀ b u, H b = some u → upd H a (.ext φ) b = some u := fun b u q => by rw [upd_ne (ne_of_none q n)]; exact q
  refine ⟨I.ok, I.os, I.bare, ⟨I.base.keep, I.base.slot, fun b o q hn hx => ?_, I.base.there, fun b xs q => at_ _ _ (I.base.tups b xs q), fun b o u q => at_ _ _ (I.base.frzs b o u q), fun b ps q => ?_⟩, I.loc, I.cell, ?_, fun x c q => ?_, fun p hp => ?_, fun b u q => ?_, I.len⟩
  · rw [upd_ne (fun z => by rw [z, n0] at q; cases q)]
    exact I.base.free b o q hn hx
  · obtain ⟨more, z⟩ := I.base.tbls b ps q
    exact ⟨more, at_ _ _ z⟩
  · rw [upd_ne nL.symm]; exact I.free
  · have hne : c ≠ a := fun z => by
      obtain ⟨v, o, ho, hc⟩ := I.cell x c q
      rw [z, e] at ho
      cases ho
      rw [hd] at hc
      cases hc
    rw [upd_ne hne]
    exact I.freeC x c q
  · obtain ⟨h1, h2, h3⟩ := I.pin p hp
    exact ⟨h1, by rw [upd_ne (np p hp)]; exact h2, h3⟩
  · by_cases hb : b = a
    · subst hb
      rw [upd_same] at q
      cases q
      exact ⟨hφ, ⟨oe, e⟩, st⟩
    · rw [upd_ne hb] at q
      exact (I.hok b u q).stay (fun _ _ _ z => z) (fun c z => at_ _ _ z) fun c xs z => at_ _ _ z
end
/-- what the clause 'except x as n' wishes of an error of the body, where the error may be kept behind the suite -/
def wAsK (K : PySem.W.Frag) (c : Value) (i : Nat) (ts : Addr → Value → Option Addr → TS) (Wout : WX) (D : Ends) : WX := fun cls d σ H =>
  ∃ b, PySem.W.exmOne K cls c = some b ∧ (b = true → ∀ a, H a = none → ts a cls d { nx := fun σ' H' => H' a = none → D.nx (σ'.set i none) (upd H' a (XcV cls d a)), rt := fun _ _ => False, bk := fun _ _ => False, ct := fun _ _ => False } (σ.set i (some (.ref a))) H) ∧
    (b = false → Wout cls d σ H)
section
variable {X : Cx} {x n : Str} {c : Value} {i : Nat} {body suite : List Stmt} {b₀ : Stmt} {np pos pos' : Pos} {tb : WX → TS} {ts : Addr → Value → Option Addr → TS} {Wout : WX}
theorem ps_try_asK (hex : X.ex = []) (hs : X.stack = X.env :: X.outer) (hf : X.env.frame = some X.env.locals) (hN : X.N.Nodup) (hi : X.N[i]? = some n) (hln : X.env.kindOf n = some .local) (hc : Names X x c) (tk : Takes X Wout)
    (hb : ∀ (W : WX) (pn : List (Addr × Obj)) (xe : Value → Shared → Prop), Takes (X.tr pn xe) W → PassesOwn (model X.prog X.w) X.A X.env xe → PSs (X.tr pn xe) body (tb W))
    (hsu : ∀ (a : Addr) (oe : Obj) (cls : Value) (d : Option Addr) (pn : List (Addr × Obj)), Zc cls d oe → (∃ vs, oe.data = .fields vs) → PSs (X.suite a ((a, oe) :: pn)) (b₀ :: suite) (ts a cls d)) :
    PS X (.Try body [.ExceptHandler (some (.Name x np)) (some n) (b₀ :: suite) pos'] [] [] pos) (fun D σ H => tb (wAsK X.K c i ts Wout D) D σ H) := by
  refine ⟨fun pins s σ H D I h => ?_⟩
  have ok := I.ok
  have hfr : X.A.frames = some (X.env :: X.outer) := by rw [ok.frames, hs]
  have hloc : Loc X.env.scope n := .inl hln
  refine wpAny_Try_except ?_
  refine wpAny_mono ((hb (wAsK X.K c i ts Wout D) (X.pn ++ pins) (fun e s₁ => wpAny (model X.prog X.w) X.A (noteFrame e X.env) (fun _ s₂ => wpAny (model X.prog X.w) X.A (setFlight e none) (fun _ s₃ =>
    wpAny (model X.prog X.w) X.A (handleBy e X.env [.ExceptHandler (some (.Name x np)) (some n) (b₀ :: suite) pos']) (SP X pins D) X.xe s₃) X.xe s₂) X.xe s₁) (fun u s' xx => ?_) PassesOwn.looking).run [] s σ H D (I.toTry _) h) (fun f s1 hsp => ?_) (fun e s1 he => he)
  · obtain ⟨a, B, sI, pins', σ', H', cls, d, rfl, J', nb, up, sky, na, os, ag, b, hb1, hyes, hno⟩ := xx
    have J : L2.Inv X pins σ' H' sI := J'.ofTry ok
    have sky' : Sky B (X.env :: X.outer) a (Zc cls d) X.env.locals s'.heap := by rw [← hs]; exact sky
    show wpAny (model X.prog X.w) X.A (noteFrame (.ref a) X.env) _ _ _
    refine Sky.land Zc.steady hfr hf sky' fun h3 fl3 up3 => ?_
    have J3 : L2.Inv X pins σ' H' { s' with heap := h3 } := J.landed nb fl3.1 (up.trans up3) os ag
    obtain ⟨oe3, vs3, he3, hz3, hd3⟩ := fl3.there
    have notFr : ∀ {h : Heap} {o : Obj} {vs : Array Value}, h.FunFrames B (X.env :: X.outer) → h.get? a = some o → o.data = .fields vs → a ∉ frs (X.env :: X.outer) := fun {h o vs} ff e dd hm => by
      obtain ⟨_, o', e', hnf⟩ := ff.mem hm
      rw [e] at e'; cases e'
      exact hnf _ dd
    have nfr := notFr fl3.2.2.1 he3 hd3
    have nL : a ≠ X.env.locals := fun z => nfr (List.mem_filterMap.mpr ⟨X.env, List.mem_cons_self, by rw [hf, z]⟩)
    have nF : a ∉ X.fs := fun hm => by
      obtain ⟨e, he, q⟩ := List.mem_filterMap.mp hm
      exact nfr (List.mem_filterMap.mpr ⟨e, List.mem_cons_of_mem _ he, q⟩)
    have nI : sI.heap.get? a = none := by
      cases q : sI.heap.get? a with
      | none => rfl
      | some o =>
        have z := nb a o q (by rw [hs]; exact nfr)
        rw [fl3.2.1] at z
        cases z
    have n0 : X.s_0.heap.get? a = none := by
      cases q : X.s_0.heap.get? a with
      | none => rfl
      | some o =>
        obtain ⟨o', z⟩ := J.base.there a o q (by rw [hex]; simp)
        rw [nI] at z
        cases z
    have npn : ∀ p ∈ X.pn ++ pins, p.1 ≠ a := fun p hp z => by
      have := (J.pin p hp).1
      rw [z, nI] at this
      cases this
    have S3 := J3.suite he3 hd3 na nL nF
    refine wpAny_handleBy_cons (codeAny_handlers_test ?_) (by intro q; cases q)
    have LT : PySem.W.Looks (model X.prog X.w) h3 (typeOf (.ref a)) cls := fun A Q E s k q => wpAny_typeOf_ref (k _ _ he3) (by rw [hz3.1]; exact q)
    have LM := PySem.W.exm_one (M := model X.prog X.w) (J3.kIn) LT hb1
    have test : ∀ {Q : Value → Shared → Prop} {E : Value → Shared → Prop}, Q c { s' with heap := h3 } → wpAny (model X.prog X.w) (X.A.mark (some (.ref a))) (eval (.Name x np) X.env) Q E { s' with heap := h3 } := fun {Q E} q => by
      obtain ⟨hg, hdbg, hm | ⟨hm, hv, hnn⟩⟩ := hc
      · exact ld_glob (X := X.suite a ((a, oe3) :: (X.pn ++ pins))) S3 hg hm q hdbg
      · exact ld_blt (X := X.suite a ((a, oe3) :: (X.pn ++ pins))) S3 hg hm hv q hnn hdbg
    refine test (LM.here ?_)
    cases b with
    | true =>
      refine codeAny_handlers_suite_as ?_
      refine HandSPX.lands_againZ fl3 fun h4 fl4 up4 => ?_
      have J4 : L2.Inv X pins σ' H' { s' with heap := h4 } := J.landed nb fl4.1 ((up.trans up3).trans up4) os ag
      obtain ⟨oe4, vs4, he4, hz4, hd4⟩ := fl4.there
      have S4 := J4.suite he4 hd4 na nL nF
      refine store_ok (X := X.suite a ((a, oe4) :: (X.pn ++ pins))) (v := .ref a) S4 hN hi hloc rfl (fun s5 S5 => ?_) (.inr hln)
      refine wpAny_mono ((hsu a oe4 cls d (X.pn ++ pins) hz4 ⟨_, hd4⟩).run [] s5 _ H' _ S5 (hyes rfl a na)) (fun f s6 hsp => ?_) (fun _ _ z => False.elim z)
      cases f with
      | next =>
        obtain ⟨σ6, H6, S6, q6⟩ := hsp
        obtain ⟨e6, n6, _, _, _⟩ := S6.pin (a, oe4) (List.mem_append_left _ List.mem_cons_self)
        have T6 := track (φ := fun h => ∃ (oe : Obj) (vs : Array Value), h.get? a = some oe ∧ Zc cls d oe ∧ oe.data = .fields vs) (S6.unsuite ok) n6 n0 e6 hd4 nL npn ⟨oe4, vs4, e6, hz4, hd4⟩ fun h1 h2 ⟨o, v, z1, z2, z3⟩ k => ⟨o, v, k _ z1, z2, z3⟩
        exact gone_ok T6 hN hi hln fun s7 J7 => ⟨_, _, J7, q6 n6⟩
      | brk =>
        obtain ⟨σ6, H6, S6, q6⟩ := hsp
        exact False.elim q6
      | cont =>
        obtain ⟨σ6, H6, S6, q6⟩ := hsp
        exact False.elim q6
      | ret u =>
        obtain ⟨v6, σ6, H6, S6, r6, q6⟩ := hsp
        exact False.elim q6
    | false =>
      show wpAny _ X.A (handleBy (.ref a) X.env []) _ _ _
      refine wpAny_handleBy_nil ?_
      obtain ⟨k1, k2, k3, oe, vs, T, oT, ts', he, hz, hd, h1, hr⟩ := id fl3
      unfold PySem.passOn
      refine wpAny_bind (wpAny_field he hd h1 ?_)
      rw [if_neg (show ¬ ((Value.ref T == Value.none) = true) from by simp)]
      have fin : wpAny (model X.prog X.w) X.A (setFlight (.ref a) X.env.frame) (fun _ s4 => wpAny (model X.prog X.w) X.A (throw (.ref a) : Sem Flow) (SP X pins D) X.xe s4) X.xe { s' with heap := h3 } := by
        rw [hf]
        refine HandSPX.setFlight_upZ fl3 fun h4 hh4 up4 => wpAny_throw (tk _ _ ?_)
        exact ⟨a, B, sI, pins, σ', H', cls, d, rfl, J, nb, (up.trans up3).trans up4, .inr (.inr (by rw [hs]; exact hh4)), na, os, ag, hno rfl⟩
      first
        | exact wpAny_bind (wpAny_pure (wpAny_bind fin))
        | exact wpAny_bind fin
  · cases f with
    | next =>
      obtain ⟨σ', H', J', q⟩ := hsp
      exact wpAny_execs_nil ⟨σ', H', J'.ofTry ok, q⟩
    | brk =>
      obtain ⟨σ', H', J', q⟩ := hsp
      exact ⟨σ', H', J'.ofTry ok, q⟩
    | cont =>
      obtain ⟨σ', H', J', q⟩ := hsp
      exact ⟨σ', H', J'.ofTry ok, q⟩
    | ret u =>
      obtain ⟨v, σ', H', J', r, q⟩ := hsp
      exact ⟨v, σ', H', J'.ofTry ok, r, q⟩
end
/-! ### isinstance of a kept error -/
def rIsX (K : PySem.W.Frag) : List V → Hp → VK → Prop := fun xs H Q => ∃ (a C : Addr) (c : V) (cv : Value) (b : Bool), xs = [.ref a, c] ∧ H a = some (XcO C none a) ∧ ExcC K C ∧ ClsV c cv ∧ PySem.W.kitOne K (.ref C) cv = some b ∧ Q (.bl b) H
def rIsXT (K : PySem.W.Frag) : List V → Hp → VK → Prop := fun xs H Q => ∃ (a C t : Addr) (cs : List V) (us : List Value) (b : Bool), xs = [.ref a, .ref t] ∧ H a = some (XcO C none a) ∧ ExcC K C ∧ SqT K H t cs ∧ Paired ClsV cs us ∧ PySem.W.kitAny K (.ref C) us = some b ∧ Q (.bl b) H
section
variable {X : Cx}
theorem exc_at {pins : List (Addr × Obj)} {σ : L2.St} {H : Hp} {s : Shared} {a C : Addr} (I : L2.Inv X pins σ H s) (h : H a = some (XcO C none a)) : ∃ oe, PySem.W.InstAt s.heap a oe C none := by
  obtain ⟨⟨oe, vs, e, hz, hd⟩, _⟩ := I.hok a _ h
  obtain ⟨oc, od, oda, osl⟩ := oe
  obtain ⟨h1, h2⟩ := hz
  dsimp only at h1 h2 hd
  subst h1 h2 hd
  exact ⟨_, e, rfl, rfl, trivial⟩
theorem call_isX : CallR X (.builtin "isinstance") (rIsX X.K) := by
  intro pins s σ H xs us Q I r h
  obtain ⟨a, C, c, cv, b, rfl, ha, hC, hc, e, q⟩ := h
  obtain ⟨u1, u2, rfl, r1, r2⟩ := vals2 r
  cases (show u1 = .ref a from r1)
  have ec := hc.eq r2
  subst ec
  obtain ⟨oe, J⟩ := exc_at I ha
  exact PySem.W.kia_one (PySem.W.handS_kitx_exc hC.hg hC.hk hC.hs hC.hd hC.ha hC.hn hC.ht hC.hm) I.kIn J e (fun z => nomatch z) fun tk => ⟨.bl b, H, I.tok tk, rfl, q⟩
theorem call_isXT : CallR X (.builtin "isinstance") (rIsXT X.K) := by
  intro pins s σ H xs us Q I r h
  obtain ⟨a, C, t, cs, ws, b, rfl, ha, hC, ht, hp, e, q⟩ := h
  obtain ⟨u1, u2, rfl, r1, r2⟩ := vals2 r
  cases (show u1 = .ref a from r1)
  cases (show u2 = .ref t from r2)
  obtain ⟨oe, J⟩ := exc_at I ha
  obtain ⟨its, hv, ⟨o, e1, e2, n, e3⟩, _⟩ := I.tuple ht
  have e4 := ClsV.all hp hv
  obtain ⟨oc, od, oda, osl⟩ := o
  dsimp only at e2 e3
  subst e2 e3
  rw [e4] at e1
  exact PySem.W.kia_tup (PySem.W.handS_kitx_exc hC.hg hC.hk hC.hs hC.hd hC.ha hC.hn hC.ht hC.hm) I.kIn J e1 e (fun z => nomatch z) fun tk => ⟨.bl b, H, I.tok tk, rfl, q⟩
end
section
variable {W : Wd} {s : Rs} {Ψ : D → Prop} {C : Addr}
theorem CbD.isX {c : V} {d : D} {cv : Value} {b : Bool} (hd : (∃ D, d = .adr D ∧ c = .ref D) ∨ ∃ n, d = .ty n ∧ c = .ty n) (hc : ClsV c cv) (x : ExcC W.K C) (hb : PySem.W.kitOne W.K (.ref C) cv = some b) (h : Ψ (.bl b)) : CbD W (rIsX W.K) s [.exc C, d] Ψ := fun H vs r h1 Q q => by
  obtain ⟨v, w, rfl, ⟨a, rfl, _, ha⟩, h3⟩ := IsL.two h1
  have hw : w = c := by
    rcases hd with ⟨D, rfl, rfl⟩ | ⟨n, rfl, rfl⟩
    · exact h3
    · exact h3
  exact ⟨a, C, c, cv, b, by rw [hw], ha, x, hc, hb, q _ H (.bl b) (Same.refl H) rfl h⟩
theorem CbD.isXo {D : Addr} (b : Bool) (x : ExcC W.K C) (hb : PySem.W.kitOne W.K (.ref C) (.ref D) = some b) (h : Ψ (.bl b)) : CbD W (rIsX W.K) s [.exc C, .adr D] Ψ := CbD.isX (.inl ⟨D, rfl, rfl⟩) (.own D) x hb h
theorem CbD.isXb {n : String} (b : Bool) (x : ExcC W.K C) (hb : PySem.W.kitOne W.K (.ref C) (.type n) = some b) (h : Ψ (.bl b)) : CbD W (rIsX W.K) s [.exc C, .ty n] Ψ := CbD.isX (.inr ⟨n, rfl, rfl⟩) (.ty n) x hb h
theorem adrs_is {K : PySem.W.Frag} {Xs : List Addr} {H : Hp} : ∀ {cs : List Addr} {vs : List V}, IsL K Xs H (cs.map D.adr) vs → vs = cs.map V.ref
  | [], vs, h => h
  | c :: r, vs, h => by
    obtain ⟨x, y, rfl, h1, h2⟩ := h
    rw [show x = .ref c from h1, adrs_is h2]
    rfl
theorem paired_cls : ∀ cs : List Addr, Paired ClsV (cs.map V.ref) (cs.map Value.ref)
  | [] => .nil
  | c :: r => .cons (.own c) (paired_cls r)
theorem CbD.isXT {cs : List Addr} (b : Bool) (x : ExcC W.K C) (hb : PySem.W.kitAny W.K (.ref C) (cs.map Value.ref) = some b) (h : Ψ (.bl b)) : CbD W (rIsXT W.K) s [.exc C, .tup (cs.map D.adr)] Ψ := fun H vs r h1 Q q => by
  obtain ⟨v, w, rfl, ⟨a, rfl, _, ha⟩, t, xs, rfl, h3, h4⟩ := IsL.two h1
  have e := adrs_is h4
  subst e
  exact ⟨a, C, t, _, _, b, rfl, ha, x, IsL.sqT h3, paired_cls cs, hb, q _ H (.bl b) (Same.refl H) rfl h⟩
end
end Pw

namespace Pw
open PySem PySem.Spec PyProof.Rows L2
/-! ### calls with keywords, the first keyword-only parameters left out -/
section
variable {K : PySem.W.Frag} {x qual : Str} {params : Arguments} {body : List Stmt} {scope : Scope} {kws : List (Str × V)} {f : Addr} {fd : FuncData} {ps : List Str}
theorem kbindsF (F : FunD K x qual params body scope [] kws f fd) (n : Nat) (ks : List Str) (ms : List (Str × V)) (hk : kws ≠ []) (hms : ∀ q ∈ ms, q ∈ kws)
    (h : ∀ (D : Addr) (doc pm : Value) (an : Option Addr) (cdv ct : Value) (us mv ws : List Value), us.length = n → mv.length = ms.length → ws.length = ks.length →
      KwChain D ((ms.map (·.1)).zip mv) (bindArgs (PySem.W.fnOf x qual params body scope .none (.ref D) doc pm an cdv ct) ⟨us, ks.zip ws⟩) (ps.zip (us ++ mv ++ ws))) :
    ∃ mv : List Value, KBn K fd ps n ks (fun us ws => us ++ mv ++ ws) (fun vs zs => vs ++ ms.map (·.2) ++ zs) := by
  obtain ⟨oc, od, dV, kV, doc, pm, an, cdv, ct, osl, rfl, lk, hcd, hD, hK⟩ := F.ex
  rcases hD with ⟨_, rfl⟩ | ⟨e, _⟩
  · rcases hK with e | ⟨D, rfl, hq⟩
    · exact absurd e hk
    · obtain ⟨mv, hl, rk, hks⟩ := kwd_vals (ms := ms) fun q hm => hq q (hms q hm)
      exact ⟨mv, ⟨fun s us ws X l1 l2 => BindsTo.of_looks fun M => KwChain.looks X hks (h D doc pm an cdv ct us mv ws l1 hl l2), fun r1 r2 => vals_app (vals_app r1 rk) r2⟩⟩
  · exact absurd rfl e
end
section
variable {W : Wd} {ρ : En} {s : Rs} {Φ : D → Rs → Prop} {E : XK} {CE : Addr} {t tk : TA} {n m : Nat} {dvs : List V} {dds : List D}
theorem LE.callF {S : PSp} (hd : ∀ Xs H, IsL W.K Xs H dds dvs) (h : LA W t ρ s fun ds s1 => LA W tk ρ s1 fun es s2 => ds.length = n ∧ es.length = m ∧ S (ds ++ dds ++ es) fun d => Φ d s2) : LE W (tCallN n m (liftP W.K W.tb S) (fun vs zs => vs ++ dvs ++ zs) E t tk) ρ s Φ := fun σ H o Q q => by
  refine h σ H o _ fun vs H1 ds s1 o1 p1 i1 k => ?_
  refine k σ H1 o1 _ fun zs H2 es s2 o2 p2 i2 k2 => ?_
  obtain ⟨hn, hm, hS⟩ := k2
  refine ⟨by rw [i1.length]; exact hn, by rw [i2.length]; exact hm, adrs s2, ds ++ dds ++ es, fun d => Φ d s2, o2.rk.nd, o2.rk.mu, o2.tbs.t, ((p2.list i1).append (hd _ _)).append i2, hS, fun d v H' f e i => ?_⟩
  exact q v H' d s2 (o2.ext e) ((p1.trans p2).trans (o2.presT e)) i f
theorem LE.callFN {S : PSp} (h : LA W t ρ s fun ds s1 => LA W tk ρ s1 fun es s2 => ds.length = n ∧ es.length = m ∧ S (ds ++ [.non] ++ es) fun d => Φ d s2) : LE W (tCallN n m (liftP W.K W.tb S) (fun vs zs => vs ++ [V.non] ++ zs) E t tk) ρ s Φ := LE.callF (dds := [.non]) (fun _ _ => ⟨_, _, rfl, rfl, rfl⟩) h
theorem LER.callNS {S : RSp} {sp : Sp} (hs : ∀ vs H Q E, liftR W.K W.tb CE S vs H Q E → sp vs H Q E) (h : LA W t ρ s fun ds s1 => LA W tk ρ s1 fun es s2 => s2 = s ∧ ds.length = n ∧ es.length = m ∧ S (ds ++ es)) : LER W (fun E => tCallN n m sp (fun vs zs => vs ++ zs) E t tk) CE ρ s := fun σ H o E Q q => by
  refine h σ H o _ fun vs H1 ds s1 o1 p1 i1 k => ?_
  refine k σ H1 o1 _ fun zs H2 es s2 o2 p2 i2 k2 => ?_
  obtain ⟨rfl, hn, hm, hS⟩ := k2
  exact ⟨by rw [i1.length]; exact hn, by rw [i2.length]; exact hm, hs _ _ _ _ ⟨adrs s2, ds ++ es, o2.rk.nd, o2.rk.mu, o2.tbs.t, (p2.list i1).append i2, hS, fun H' e => q H' (o2.ext e) ((p1.trans p2).trans (o2.presT e))⟩⟩
theorem LER.callN {S : RSp} (h : LA W t ρ s fun ds s1 => LA W tk ρ s1 fun es s2 => s2 = s ∧ ds.length = n ∧ es.length = m ∧ S (ds ++ es)) : LER W (fun E => tCallN n m (liftR W.K W.tb CE S) (fun vs zs => vs ++ zs) E t tk) CE ρ s := LER.callNS (fun _ _ _ _ h => h) h
theorem LE.callNS {S : PSp} {sp : Sp} (hs : ∀ vs H Q E, liftP W.K W.tb S vs H Q E → sp vs H Q E) (h : LA W t ρ s fun ds s1 => LA W tk ρ s1 fun es s2 => ds.length = n ∧ es.length = m ∧ S (ds ++ es) fun d => Φ d s2) : LE W (tCallN n m sp (fun vs zs => vs ++ zs) E t tk) ρ s Φ := fun σ H o Q q => by
  refine h σ H o _ fun vs H1 ds s1 o1 p1 i1 k => ?_
  refine k σ H1 o1 _ fun zs H2 es s2 o2 p2 i2 k2 => ?_
  obtain ⟨hn, hm, hS⟩ := k2
  refine ⟨by rw [i1.length]; exact hn, by rw [i2.length]; exact hm, hs _ _ _ _ ⟨adrs s2, ds ++ es, fun d => Φ d s2, o2.rk.nd, o2.rk.mu, o2.tbs.t, (p2.list i1).append i2, hS, fun d v H' f e i => ?_⟩⟩
  exact q v H' d s2 (o2.ext e) ((p1.trans p2).trans (o2.presT e)) i f
end
end Pw

namespace Pw
open PySem PySem.Spec PyProof.Rows L2
/-- the layer begins at any state: nothing of one's own -/
theorem Ok.start0 {K : PySem.W.Frag} {T : List (Addr × Str)} {σ : L2.St} {H : Hp} {ρ : En} (ht : LamX.Tabs T H) (hl : σ.length = ρ.length) (hs : ∀ (i : Nat) d, ρ[i]? = some (some d) → ∃ v, σ[i]? = some (some v) ∧ Is K [] H d v) : Ok ⟨K, noTb H, [], [], [], T⟩ σ H ρ {} :=
  ⟨⟨fun a ha => (by cases ha), List.nodup_nil, fun e he => (by cases he), fun e he => by cases he⟩, fun a o _ h => (noTb_get h).1, fun a ha => (by cases ha), fun e he => (by cases he), fun e he => (by cases he), fun e he => (by cases he), ⟨ht, noTb_n⟩, hl, hs⟩
theorem Ok.out {K : PySem.W.Frag} {T : List (Addr × Str)} {σ : L2.St} {H H' : Hp} {ρ : En} {s : Rs} (o : Ok ⟨K, noTb H, [], [], [], T⟩ σ H' ρ s) : ExtT T H H' := ⟨fun a u e n => o.fr a u (by simp) (noTb_of e n), o.tbs.t⟩
theorem LS.run {W : Wd} {ts : TS} {ρ : En} {s : Rs} {N : En → Rs → Prop} {R : D → Rs → Prop} {B C : En → Rs → Prop} {Dn : Ends} {σ : L2.St} {H : Hp} (h : LS W ts ρ s N R B C) (o : Ok W σ H ρ s) (f : Fits W N R B C Dn) : ts Dn σ H := h Dn σ H o f
/-- a def's end at a word or at None -/
theorem fits_ret {K : PySem.W.Frag} {T : List (Addr × Str)} {H : Hp} {Q : VK} {d0 : D} {v0 : V} (hd : ∀ Xs H v, Is K Xs H d0 v → v = v0) (q : ∀ H', ExtT T H H' → Q v0 H') :
    Fits ⟨K, noTb H, [], [], [], T⟩ (fun _ _ => False) (fun d _ => d = d0) (fun _ _ => False) (fun _ _ => False) { nx := fun _ H' => Q .non H', rt := Q } :=
  ⟨fun _ _ _ _ _ k => k.elim, fun v σ' H' ρ' d s' o i k => by
    have k : d = d0 := k
    subst k
    rw [hd _ _ v i]
    exact q H' o.out, fun _ _ _ _ _ k => k.elim, fun _ _ _ _ _ k => k.elim⟩
/-- the tables stand where an error is kept -/
theorem tabs_new {T : List (Addr × Str)} {H : Hp} {a : Addr} {o : HO} (t : LamX.Tabs T H) (n : H a = none) : LamX.Tabs T (upd H a o) := t.ext fun b u e => by rw [upd_ne (ne_of_none e n)]; exact e
theorem ext_new {T : List (Addr × Str)} {H : Hp} {a : Addr} {o : HO} (t : LamX.Tabs T H) (n : H a = none) : ExtT T H (upd H a o) := .same t fun b u e => by rw [upd_ne (ne_of_none e n)]; exact e
theorem kitAny1 {K : PySem.W.Frag} {t : Value} {cs : List Value} (h : ∀ c ∈ cs, PySem.W.kitOne K t c = some false) : PySem.W.kitAny K t cs = some false := by
  induction cs with
  | nil => exact kitAny_nil
  | cons c r ih => exact kitAny_cons (b := false) (h c (List.mem_cons_self ..)) (fun _ => ih fun x hx => h x (List.mem_cons_of_mem _ hx)) (fun z => Bool.noConfusion z)
/-- slot by slot: what a state must hold for a reading -/
def Slots (K : PySem.W.Frag) (H : Hp) : En → L2.St → Prop
  | [], [] => True
  | none :: r, _ :: s => Slots K H r s
  | some d :: r, w :: s => (∃ v, w = some v ∧ Is K [] H d v) ∧ Slots K H r s
  | _, _ => False
theorem Slots.len {K : PySem.W.Frag} {H : Hp} : ∀ {ρ : En} {σ : L2.St}, Slots K H ρ σ → σ.length = ρ.length
  | [], [], _ => rfl
  | none :: r, _ :: s, h => by simp only [List.length_cons, Slots.len (ρ := r) (σ := s) h]
  | some d :: r, w :: s, h => by simp only [List.length_cons, Slots.len (ρ := r) (σ := s) h.2]
theorem Slots.at {K : PySem.W.Frag} {H : Hp} : ∀ {ρ : En} {σ : L2.St}, Slots K H ρ σ → ∀ (i : Nat) d, ρ[i]? = some (some d) → ∃ v, σ[i]? = some (some v) ∧ Is K [] H d v
  | [], [], _, i, d, e => by simp at e
  | none :: r, _ :: s, h, 0, d, e => by simp at e
  | none :: r, _ :: s, h, i + 1, d, e => by
    simp only [List.getElem?_cons_succ] at e ⊢
    exact Slots.at (ρ := r) (σ := s) h i d e
  | some d :: r, w :: s, h, 0, d', e => by
    obtain ⟨v, rfl, hv⟩ := h.1
    simp only [List.getElem?_cons_zero, Option.some.injEq] at e ⊢
    exact ⟨v, rfl, e ▸ hv⟩
  | some d :: r, w :: s, h, i + 1, d', e => by
    simp only [List.getElem?_cons_succ] at e ⊢
    exact Slots.at (ρ := r) (σ := s) h.2 i d' e
theorem Ok.starts {K : PySem.W.Frag} {T : List (Addr × Str)} {σ : L2.St} {H : Hp} {ρ : En} (ht : LamX.Tabs T H) (h : Slots K H ρ σ) : Ok ⟨K, noTb H, [], [], [], T⟩ σ H ρ {} := Ok.start0 ht h.len h.at
end Pw

namespace Pw
open PySem PySem.Spec PyProof.Rows L2
theorem divInt_gt0 {n d : Int} (hn : 0 < n) (hd : 0 < d) : 0 < Rat.divInt n d := by
  rw [Rat.divInt_eq_div]
  have h1 : (0 : Rat) < (n : Rat) := by exact_mod_cast hn
  have h2 : (0 : Rat) < (d : Rat) := by exact_mod_cast hd
  rw [Rat.div_def]
  exact Rat.mul_pos h1 (Rat.inv_pos.mpr h2)
end Pw
namespace Pw
open PySem PySem.Spec PyProof.Rows L2
theorem floor_of_le {q : Rat} {k : Int} (h1 : (k : Rat) ≤ q) (h2 : q < (k : Rat) + 1) : q.floor = k := by
  have a1 : k ≤ q.floor := Rat.le_floor_iff.mpr h1
  have a2 : ¬ (k + 1 ≤ q.floor) := fun z => by
    have z2 := Rat.le_floor_iff.mp z
    rw [Rat.intCast_add] at z2
    have : ((1 : Int) : Rat) = 1 := rfl
    rw [this] at z2
    grind
  omega
/-- the quotient of a fraction by a whole number, in whole numbers -/
theorem floor_div (g : Rat) {l : Int} (h : 1 ≤ l) : (g / (l : Rat)).floor = g.num / (g.den * l) := by
  have hl : (0 : Rat) < (l : Rat) := by exact_mod_cast (show 0 < l by omega)
  have hd : (0 : Rat) < (g.den : Rat) := by exact_mod_cast g.den_pos
  have hdl : (0 : Rat) < (g.den : Rat) * (l : Rat) := Rat.mul_pos hd hl
  have e1 : g * (g.den : Rat) = (g.num : Rat) := by
    have ea := Rat.num_divInt_den g
    rw [Rat.divInt_eq_div] at ea
    have e0 : (((g.den : Nat) : Int) : Rat) = (g.den : Rat) := rfl
    rw [e0] at ea
    grind
  have hD : 0 < (g.den : Int) * l := Int.mul_pos (by exact_mod_cast g.den_pos) (by omega)
  have b1 : g.num / (g.den * l) * (g.den * l) ≤ g.num := Int.ediv_mul_le _ (by omega)
  have b2 : g.num < (g.num / (g.den * l) + 1) * (g.den * l) := Int.lt_ediv_add_one_mul_self _ hD
  generalize g.num / (g.den * l) = k at *
  have c1 : ((k * (g.den * l) : Int) : Rat) ≤ ((g.num : Int) : Rat) := by exact_mod_cast b1
  have c2 : ((g.num : Int) : Rat) < (((k + 1) * (g.den * l) : Int) : Rat) := by exact_mod_cast b2
  rw [Rat.intCast_mul, Rat.intCast_mul, ← e1] at c1 c2
  rw [Rat.intCast_add] at c2
  have e2 : ((g.den : Int) : Rat) = (g.den : Rat) := rfl
  have e3 : ((1 : Int) : Rat) = 1 := rfl
  rw [e2] at c1 c2
  rw [e3] at c2
  have d1 : (k : Rat) * (l : Rat) ≤ g := by
    refine Rat.le_of_mul_le_mul_right (c := (g.den : Rat)) ?_ hd
    grind
  have d2 : g < ((k : Rat) + 1) * (l : Rat) := by
    refine Rat.lt_of_mul_lt_mul_right (c := (g.den : Rat)) ?_ (Rat.le_of_lt hd)
    grind
  have e4 : g / (l : Rat) * (l : Rat) = g := by grind
  refine floor_of_le ?_ ?_
  · refine Rat.le_of_mul_le_mul_right (c := (l : Rat)) ?_ hl
    rw [e4]; exact d1
  · refine Rat.lt_of_mul_lt_mul_right (c := (l : Rat)) ?_ (Rat.le_of_lt hl)
    rw [e4]; exact d2
theorem knL_app (ps qs : List Kn) : knL ps ++ knL qs = knL (ps ++ qs) := by
  unfold knL
  rw [List.map_append]
theorem frL_last {qs : List Rat} {q : Rat} (h : qs[qs.length - 1]? = some q) (h0 : 0 < qs.length) : atI (qs.map fr) (-1) = some (fr q) := by
  have e : ixN (qs.map fr).length (-1) = some (qs.length - 1) := by
    unfold ixN
    rw [List.length_map, if_neg (by decide), if_pos (by omega)]
    congr 1
    omega
  unfold atI
  rw [e]
  show (qs.map fr)[qs.length - 1]? = some (fr q)
  rw [List.getElem?_map, h]
  rfl
theorem frL_mem {qs : List Rat} {d : D} (h : d ∈ qs.map fr) : ∃ q, q ∈ qs ∧ d = fr q := by
  obtain ⟨q, hq, e⟩ := List.mem_map.mp h
  exact ⟨q, hq, e.symm⟩
theorem frL_get {qs : List Rat} {i : Nat} {d : D} (h : (qs.map fr)[i]? = some d) : ∃ q, qs[i]? = some q ∧ d = fr q := by
  rw [List.getElem?_map] at h
  cases e : qs[i]? with
  | none => rw [e] at h; cases h
  | some q => rw [e] at h; cases h; exact ⟨q, rfl, rfl⟩
theorem Rpr.int {i : Int} (h : i.natAbs < 2 ^ 1900) : Rpr (.int i) := ⟨h, by simp [pyd, PyData.bulk], by simp [pyd, PyData.depth]⟩
theorem absQ_both {x B : Rat} (h : absQ x ≤ B) : -B ≤ x ∧ x ≤ B := by
  unfold absQ at h
  split at h <;> constructor <;> grind
theorem laps_bound {L : Option Int} {x : Rat} {N : Int} (hL : ∀ l, L = some l → 1 ≤ l) (hN : 1 ≤ N) (h : absQ x ≤ (N : Rat)) : (lapsQ L x).natAbs ≤ N.natAbs := by
  obtain ⟨h1, h2⟩ := absQ_both h
  cases L with
  | none =>
    show (if 0 ≤ x then (0 : Int) else -1).natAbs ≤ _
    split <;> omega
  | some l =>
    have hl := hL l rfl
    show ((x / (l : Rat)).floor).natAbs ≤ _
    have hl1 : (1 : Rat) ≤ (l : Rat) := by exact_mod_cast hl
    have hl0 : (0 : Rat) < (l : Rat) := by grind
    have hN1 : (1 : Rat) ≤ (N : Rat) := by exact_mod_cast hN
    have e4 : x / (l : Rat) * (l : Rat) = x := by grind
    have m1 : (N : Rat) * 1 ≤ (N : Rat) * (l : Rat) := Rat.mul_le_mul_of_nonneg_left hl1 (by grind)
    have a1 : (x / (l : Rat)).floor ≤ N := by
      by_cases z : (x / (l : Rat)).floor ≤ N
      · exact z
      · exfalso
        have z2 : N + 1 ≤ (x / (l : Rat)).floor := by omega
        have z3 := Rat.le_floor_iff.mp z2
        rw [Rat.intCast_add] at z3
        have e1 : ((1 : Int) : Rat) = 1 := rfl
        rw [e1] at z3
        have z4 := Rat.mul_le_mul_of_nonneg_right z3 (Rat.le_of_lt hl0)
        rw [e4] at z4
        grind
    have a2 : -N ≤ (x / (l : Rat)).floor := by
      refine Rat.le_floor_iff.mpr ?_
      refine Rat.le_of_mul_le_mul_right (c := (l : Rat)) ?_ hl0
      rw [e4, Rat.intCast_neg]
      grind
    omega
theorem laps_fit {L : Option Int} {p q : Rat} {a : Nat} (hL : ∀ l, L = some l → 1 ≤ l) (hp : Fit a p) (hq : Fit a q) (ha : a ≤ 1800) : (lapsQ L (p - q)).natAbs < 2 ^ 1900 := by
  have e1 := absQ_both hp.abs_le
  have e2 := absQ_both hq.abs_le
  have hN : (1 : Int) ≤ ((2 ^ (a + 1) : Nat) : Int) := by exact_mod_cast Nat.one_le_two_pow
  have h : absQ (p - q) ≤ ((((2 ^ (a + 1) : Nat) : Int)) : Rat) := by
    have e3 : ((((2 ^ (a + 1) : Nat) : Int)) : Rat) = ((2 ^ a : Nat) : Rat) + ((2 ^ a : Nat) : Rat) := two_pow_succ a
    rw [e3]
    unfold absQ
    split <;> grind
  have := laps_bound hL hN h
  refine Nat.lt_of_le_of_lt this ?_
  rw [Int.natAbs_natCast]
  exact Nat.pow_lt_pow_right (by decide) (by omega)
theorem asc_map {f : Kn → Kn} (h : ∀ p, (f p).1 = p.1) : ∀ {ps : List Kn}, asc ps → asc (ps.map f)
  | [], _ => trivial
  | [_], _ => trivial
  | p :: q :: r, ha => ⟨by rw [h, h]; exact ha.1, asc_map h (ps := q :: r) ha.2⟩
/-! ### times in order, each once -/
def uniqQ (ts : List Rat) : List Rat := ts.foldl (fun acc t => if t ∈ acc then acc else acc ++ [t]) []
def sortQ (ts : List Rat) : List Rat := (uniqQ ts).mergeSort fun a b => decide (a ≤ b)
end Pw

namespace Pw
open PySem PySem.Spec PyProof.Rows L2
/-! ### the key of a sort: a lambda with one parameter, read over the bare heap -/
/-- e gives a value of R and makes nothing -/
def KEv (P : Program) (w : World) (A : Around) (env : Env) (e : Expr) (h0 : Heap) (R : Value → Prop) : Prop :=
  ∀ (E : Value → Shared → Prop) (s : Shared) (Q : Value → Shared → Prop), (∀ b o, h0.get? b = some o → s.heap.get? b = some o) → (∀ u tk, R u → Q u { s with toks := tk }) → wpAny (model P w) A (eval e env) Q E s
section
variable {P : Program} {w : World} {A : Around} {env : Env} {h0 : Heap} {R : Value → Prop} {x : Str} {pos p1 : Pos} {a b : Expr}
theorem KEv.loc {m : Str → Option Value} {u : Value} (hk : env.scope.kind = .function) (hl : env.kindOf x = some .local) (hn : h0.Ns env.locals m) (hm : m x = some u) (hr : R u) (hd : (x == ("__debug__" : Str)) = false := by decide) : KEv P w A env (.Name x pos) h0 R :=
  fun E s Q k q => wpAny_Name (wpAny_loadName_local hk hl (hn.keeps k) hm (q u s.toks hr)) hd
theorem KEv.free {c : Addr} {u : Value} (hk : env.scope.kind = .function) (hl : env.kindOf x = some .free) (hc : env.cells.lookup x = some c) (hcell : h0.IsCell c (some u)) (hr : R u) (hd : (x == ("__debug__" : Str)) = false := by decide) (hcd : (x == ("__classdict__" : Str)) = false := by decide) : KEv P w A env (.Name x pos) h0 R :=
  fun E s Q k q => wpAny_Name (wpAny_loadName_free hk hl hc (by obtain ⟨o, ho, hd⟩ := hcell; exact ⟨o, k _ _ ho, hd⟩) (q u s.toks hr) hcd) hd
theorem KEv.int {i : Int} {j : Nat} (hr : ∀ t, R (.int i t)) : KEv P w A env (.Constant (.int i) j pos) h0 R :=
  fun E s Q k q => wpAny_Constant_int (q _ (s.toks + 1) (hr _))
theorem KEv.ixT {p : Addr} {its : Array Value} {i : Int} {n : Nat} {v : Value} (ha : KEv P w A env a h0 fun u => u = .ref p) (pl : IsTup h0 p its) (hz : its.size ≤ sizeLine) (h0i : 0 ≤ i) (hi : its[i.toNat]? = some v) (hr : R v) :
    KEv P w A env (.Subscript a (.Constant (.int i) n p1) pos) h0 R := fun E s Q k q => by
  refine Subscript_ (ha _ _ _ k fun u tk e => ?_)
  subst e
  refine KEv.int (P := P) (w := w) (A := A) (env := env) (h0 := h0) (R := fun u => ∃ t, u = .int i t) (fun t => ⟨t, rfl⟩) _ _ _ k fun u tk2 e => ?_
  obtain ⟨t, rfl⟩ := e
  have hlt : i.toNat < its.size := (Array.getElem?_eq_some_iff.mp hi).1
  have hn := line63
  have pl' : IsTup s.heap p its := pl.keeps k
  exact subscriptTail_builtinR (x := v) pl'.typeIs slot_tuple_getitem.lookup
    (getItem_tuple (j := i.toNat) (Q := fun r s' => r = v ∧ Q r s') pl' (by omega) (by omega) (seqIndex_of h0i (by omega)) hi ⟨rfl, q v tk2 hr⟩) (by with_unfolding_all rfl)
theorem KEv.mul {Ra Rb : Int → Prop} (ha : KEv P w A env a h0 fun u => ∃ i t, u = .int i t ∧ Ra i) (hb : KEv P w A env b h0 fun u => ∃ i t, u = .int i t ∧ Rb i) (hr : ∀ i j t, Ra i → Rb j → CMulW i j ∧ R (.int (i * j) t)) :
    KEv P w A env (.BinOp a .Mult b pos) h0 R := fun E s Q k q => by
  refine wpAny_BinOp (ha _ _ _ k fun u tk e => ?_)
  obtain ⟨i, t, rfl, r1⟩ := e
  refine hb _ _ _ k fun u tk2 e => ?_
  obtain ⟨j, t2, rfl, r2⟩ := e
  obtain ⟨c, r⟩ := hr i j tk2 r1 r2
  exact mul_int (q _ (tk2 + 1) r) c.ok
theorem KEv.fdiv {Ra Rb : Int → Prop} (ha : KEv P w A env a h0 fun u => ∃ i t, u = .int i t ∧ Ra i) (hb : KEv P w A env b h0 fun u => ∃ i t, u = .int i t ∧ Rb i) (hr : ∀ i j t, Ra i → Rb j → CDivZ i j ∧ R (.int (i.fdiv j) t)) :
    KEv P w A env (.BinOp a .FloorDiv b pos) h0 R := fun E s Q k q => by
  refine wpAny_BinOp (ha _ _ _ k fun u tk e => ?_)
  obtain ⟨i, t, rfl, r1⟩ := e
  refine hb _ _ _ k fun u tk2 e => ?_
  obtain ⟨j, t2, rfl, r2⟩ := e
  obtain ⟨c, r⟩ := hr i j tk2 r1 r2
  exact floordiv_int c.1 (q _ (tk2 + 1) r) (.inl (PyProof.noPylong_of_log2 (Nat.lt_of_lt_of_le (PySem.Flt.log2_lt_of (by decide) c.2) (by decide))))
end
/-- one parameter, no other name of its own: captured ones and globals -/
structure LamP (sc scope : Scope) (p : Str) : Prop where
  kind : scope.kind = .function
  co : scope.isCoroutine = false
  gen : scope.isGenerator = false
  par : scope.names.lookup p = some .local
  own : ∀ y ∈ scope.names, y.2 ≠ .cell
  free : ∀ y ∈ scope.names, y.2 = .free → sc.names.lookup y.1 = some .cell ∨ sc.names.lookup y.1 = some .free
def lamPB (sc scope : Scope) (p : Str) : Bool :=
  decide (scope.kind = .function) && !scope.isCoroutine && !scope.isGenerator && decide (scope.names.lookup p = some .local) && scope.names.all fun y => !decide (y.2 = .cell) && (!decide (y.2 = .free) || decide (sc.names.lookup y.1 = some .cell) || decide (sc.names.lookup y.1 = some .free))
theorem lamP_by {sc scope : Scope} {p : Str} (h : lamPB sc scope p = true) : LamP sc scope p := by
  unfold lamPB at h
  simp only [Bool.and_eq_true, Bool.or_eq_true, Bool.not_eq_true', decide_eq_true_eq, decide_eq_false_iff_not, List.all_eq_true] at h
  obtain ⟨⟨⟨⟨h1, h2⟩, h3⟩, h5⟩, h4⟩ := h
  refine ⟨h1, h2, h3, h5, fun y hy => (h4 y hy).1, fun y hy e => ?_⟩
  rcases (h4 y hy).2 with (z | z) | z
  · exact absurd e z
  · exact .inl z
  · exact .inr z
theorem LamP.has {X : Cx} {scope : Scope} {p : Str} (L : LamP X.env.scope scope p) (ok : X.Ok) : ∀ y ∈ scope.names, y.2 = .free → ∃ c, X.env.cells.lookup y.1 = some c := fun y hy e => by
  rcases L.free y hy e with k | k
  · exact ok.has _ (.inl k)
  · exact ok.has _ (.inr k)
/-- a key's call: the lambda's object is at f, the code object's name is known at s -/
theorem key_call {X : Cx} {pins : List (Addr × Obj)} {σ : L2.St} {H : Hp} {s : Shared} {A : Around} {p : Str} {f c' : Addr} {pm ctv : Value} {params : Arguments} {body : Expr} {scope : Scope} {v : Value} {n : Int} {h : Heap} {tk : Nat}
    (I : Inv X pins σ H s) (L : LamP X.env.scope scope p) (hf : s.heap.get? f = some (PySem.W.kla_obj "<lambda>" (X.env.qual ++ "<lambda>") params body scope (cloFrom X.env.cells scope.names []) pm c' ctv)) (hco : H c' = some (LamX.CodeO c' (X.env.qual ++ "<lambda>")))
    (hbind : bindArgs (PySem.W.kla_fn "<lambda>" (X.env.qual ++ "<lambda>") params body scope (cloFrom X.env.cells scope.names []) pm (.ref c') ctv) ⟨[v], []⟩ = pure [(p, v)]) (hdp : A.depth < recursionLimit)
    (hbody : ∀ (A : Around) (h₁ : Heap) (La : Addr), (∀ b o, s.heap.get? b = some o → h₁.get? b = some o) → h₁.Ns La (fun y => ([(p, v)] : List (Str × Value)).reverse.lookup y) → KEv X.prog X.w A (LamX.lamEnv X scope La f c') body h₁ fun u => ∃ t, u = .int n t)
    (k : ∀ b o, s.heap.get? b = some o → h.get? b = some o) :
    wpAny (model X.prog X.w) A (call (.ref f) [v]) (PySem.W.KeyPure (.int n) { s with heap := h, toks := tk }) (fun _ _ => False) { s with heap := h, toks := tk } := by
  obtain ⟨⟨oc, vs, t, hoc, hdc, hvc⟩, _, _⟩ := I.hok c' _ hco
  have rc : codeAny (model X.prog X.w) A (.call (.ref f) ⟨[v], []⟩) (fun r s' => match r with | .ok (.ret u) => PySem.W.KeyPure (.int n) { s with heap := h, toks := tk } u s' | _ => False) { s with heap := h, toks := tk } := by
    refine PySem.W.kla_callFunE hdp (k _ _ hf) rfl L.co L.gen rfl ⟨c', oc, vs, t, rfl, k _ _ hoc, hdc, hvc⟩ ?_
    rw [hbind]
    refine wpAny_pure (wpAny_newFunctionEnv (fun y hy => L.own y hy) (fun y hy => ?_) (fun h₁ hns hsb => ⟨(I.nolimit.keeps k).fresh _ hsb, ?_⟩) L.kind)
    · rw [List.mem_singleton.mp hy]
      exact L.par
    · have kp : ∀ b o, h.get? b = some o → h₁.get? b = some o := fun b o e => hsb.extBut b o (Nat.ne_of_lt (Heap.lt_size e)) (Heap.get?_push_of_some _ e)
      refine PySem.W.kla_codeExpr (hbody _ h₁ _ (fun b o e => kp b o (k b o e)) hns _ _ _ (fun b o e => e) fun u tk2 hu => ?_)
      obtain ⟨t2, rfl⟩ := hu
      exact ⟨h₁, tk2, rfl, kp, .int n t2⟩
  refine wpAny_call (codeAny_mono rc fun r s' hq => ?_)
  cases r with
  | error e => exact hq
  | ok fl =>
    cases fl with
    | ret u => exact hq
    | next => exact hq
    | brk => exact hq
    | cont => exact hq
/-- what a key's lambda gives of an item: KR -/
def KeyR (X : Cx) (scope : Scope) (p : Str) (body : Expr) (KR : L2.St → Hp → V → Int → Prop) : Prop :=
  ∀ (pins : List (Addr × Obj)) (σ : L2.St) (H : Hp) (s : Shared) (x : V) (v : Value) (n : Int), Inv X pins σ H s → RelV x v → KR σ H x n →
    ∀ (A : Around) (h₁ : Heap) (La f c' : Addr), (∀ b o, s.heap.get? b = some o → h₁.get? b = some o) → h₁.Ns La (fun y => ([(p, v)] : List (Str × Value)).reverse.lookup y) → KEv X.prog X.w A (LamX.lamEnv X scope La f c') body h₁ fun u => ∃ t, u = .int n t
def sortK (xs : List V) (ks : List Int) : List V := ((xs.zip ks).mergeSort fun a b => decide (a.2 ≤ b.2)).map (·.1)
/-- sorted(e, key=lambda p: body) -/
def tSortK (K : PySem.W.Frag) (T : List (Addr × Str)) (t : TA) (KR : L2.St → Hp → V → Int → Prop) : TE := fun σ H Q => t σ H fun vs H1 => ∃ a xs, vs = [.ref a] ∧ SqL K H1 a xs ∧ xs.length ≤ 1000 ∧ LamX.Tabs T H1 ∧
  ∀ H2, LamX.ExtN H1 H2 → LamX.Tabs T H2 → SqL K H2 a xs ∧ ∃ ks : List Int, ks.length = xs.length ∧ (∀ b ∈ xs.zip ks, KR σ H2 b.1 b.2) ∧ ∀ q, H2 q = none → Q (.ref q) (upd H2 q (.lst (sortK xs ks)))
theorem each_zip {xs : List V} {us : List Value} (r : Vals xs us) : ∀ {ks : List Int}, ks.length = xs.length → PySem.W.EachIs (fun u (b : V × Int) => RelV b.1 u) us (xs.zip ks) := by
  induction r with
  | nil => intro ks e; exact .nil
  | cons h1 h2 ih =>
    intro ks e
    match ks, e with
    | k :: ks, e => exact .cons h1 (ih (Nat.succ.inj e))
theorem vals_sort {out : List Value} : ∀ {bs : List (V × Int)}, PySem.W.EachIs (fun u (b : V × Int) => RelV b.1 u) out bs → Vals (bs.map (·.1)) out := by
  intro bs h
  induction h with
  | nil => exact .nil
  | cons h1 h2 ih => exact .cons h1 ih
theorem pe_sortedK {X : Cx} {T : List (Addr × Str)} {KR : L2.St → Hp → V → Int → Prop} {c P : Addr} {k : Nat} {params : Arguments} {body : Expr} {scope : Scope} {p : Str} {e : Expr} {t : TA} {p0 lpos kpos pos : Pos}
    (hg : Gl X ("sorted" : Str)) (hm : X.mg ("sorted" : Str) = none) (hv : bootBuiltins ("sorted" : Str) = some (.builtin "sorted")) (TB : LamX.TabB X.base X.mg c P) (hcode : X.env.code = .ref c) (hmT : (P, X.env.qual ++ "<lambda>") ∈ T) (hu : ∀ p ∈ T, p.1 = P → p.2 = X.env.qual ++ "<lambda>") (hr : Room (k + 1) X.A)
    (L : LamP X.env.scope scope p) (hdef : defaultsOf params X.env = ([], [])) (hbind : ∀ (q : Str) (cl : List (Str × Addr)) (pm cv ctv v : Value), bindArgs (PySem.W.kla_fn "<lambda>" q params body scope cl pm cv ctv) ⟨[v], []⟩ = pure [(p, v)])
    (hkey : KeyR X scope p body KR) (he : PA X [e] t)
    (h1 : backTo pos (starEach [e] X.env) = (false, eval e X.env) :: backTo pos (starEach [] X.env) := by rfl) (hpl : (backTo pos (starEach [e] X.env)).any (·.1) = false := by rfl)
    (hall : (backToKw pos (keywordEach [⟨some ("key" : Str), .Lambda params body scope lpos, kpos⟩] X.env)).all (·.1.isSome) = true := by rfl) (hnone : (backToKw pos (keywordEach [⟨some ("key" : Str), .Lambda params body scope lpos, kpos⟩] X.env)).any (·.1.isNone) = false := by rfl) (hks : (backToKw pos (keywordEach [⟨some ("key" : Str), .Lambda params body scope lpos, kpos⟩] X.env)).filterMap (·.1) = [("key" : Str)] := by rfl) :
    PE X (.Call (.Name ("sorted" : Str) p0) [e] [⟨some ("key" : Str), .Lambda params body scope lpos, kpos⟩] pos) (tSortK X.K T t KR) := by
  refine ⟨fun pins s σ H Q I h => ?_⟩
  refine wpAny_Call_Name_kw (ld_blt I hg hm hv ?_)
  refine PyProof.Rows.callWith_kw (thn (he.run pos pins s σ H _ I h) fun us s1 ⟨vs, H1, I1, r1, q1⟩ => ?_) h1 hpl hall hnone
  obtain ⟨a, xs, rfl, hq1, hlen, hT, q1⟩ := q1
  obtain ⟨u, eu, ru⟩ := vals1 r1
  subst eu
  obtain rfl : u = Value.ref a := ru
  show wpAny _ _ (evalAll ((do let v ← eval (.Lambda params body scope lpos) X.env; standAt pos; pure v) :: (backToKw pos (keywordEach [] X.env)).map (·.2))) _ _ s1
  refine wpAny_evalAll_cons (wpAny_bind (LamX.lam_make2 I1 TB hcode hmT hu hT hdef (L.has I1.ok) fun f c' pm' ctv H2 s2 I2 eN T2 hf hfn hfr hco => wpAny_bind (wpAny_standAt (wpAny_pure (wpAny_evalAll_nil ?_)))))
  rw [hks]
  obtain ⟨hq2, ks, hkl, hK, q2⟩ := q1 H2 eN T2
  obtain ⟨its, rv, pl, hz⟩ := I2.list hq2
  have hzl : (xs.zip ks).length = xs.length := by rw [List.length_zip, hkl, Nat.min_self]
  show wpAny _ _ (call (.builtin "sorted") [.ref a] [(Str.ofString "key", .ref f)]) _ _ s2
  refine PySem.W.sorted_key_data (b := false) (fun b : V × Int => .int b.2) pl.isList (each_zip rv hkl) (PySem.W.AllAlike.of fun _ _ => by simp [PySem.W.alike]) (PySem.W.Sortable.others fun _ => ⟨by simp, by simp⟩) (by rw [hzl, sizeLine_eq]; omega) (fun b _ => ?_) (ksk_s1 _ _) (fun _ => ksk_l1 _ _) (fun _ => ksk_t1 _ _)
    (fun v b hR hb h' tk kp => ?_) fun out c h' tk kp fr hD ho eo => ?_
  · have := hr.un
    simp only [PyData.depth]
    omega
  · refine key_call I2 L hf hco (hbind _ _ _ _ _ _) ?_ (fun A h₁ La k1 hn => hkey pins σ H2 s2 b.1 v b.2 I2 hR (hK b hb) A h₁ La f c' k1 hn) kp
    have := hr.dp
    show X.A.depth < _
    omega
  · rw [PySem.W.dataLe_int (β := V × Int) (fun b => b.2)] at eo
    have hv2 := vals_sort eo
    have hsz : (sortK xs ks).length ≤ sizeLine := by
      unfold sortK
      rw [List.length_map, List.length_mergeSort, hzl, sizeLine_eq]
      omega
    exact ⟨.ref (s2.heap.objs.size + 1), upd H2 (s2.heap.objs.size + 1) (.lst (sortK xs ks)), I2.laid (t' := tk) kp (Nat.le_succ _) (show ObjOk X.prog X.w _ _ _ (.lst (sortK xs ks)) from ⟨hsz, out, c, hv2, hD⟩), rfl, q2 _ (I2.hok.fresh (Nat.le_succ _))⟩
/-- a captured name, in the lambda's body -/
theorem cap_at {X : Cx} {pins : List (Addr × Obj)} {σ : L2.St} {H : Hp} {s : Shared} {scope : Scope} {p y : Str} {i : Nat} {v : V} (I : Inv X pins σ H s) (L : LamP X.env.scope scope p) (hN : X.N[i]? = some y) (e : σ[i]? = some (some v)) (hy : scope.names.lookup y = some .free) :
    ∃ c u, (cloFrom X.env.cells scope.names []).lookup y = some c ∧ s.heap.IsCell c (some u) ∧ RelV v u := by
  have hfree := L.has I.ok
  have hy' : (y, NameKind.free) ∈ scope.names := PySem.mem_of_lookup hy
  obtain ⟨c2, h2⟩ : ∃ c, (cloFrom X.env.cells scope.names []).lookup y = some c := mem_lookup (cloFrom_has (cells := X.env.cells) (acc := []) hy')
  have cm : X.env.cells.lookup y = some c2 := by
    rcases cloFrom_mem (PySem.mem_of_lookup h2) with hm | ⟨h1, h2'⟩
    · cases hm
    · obtain ⟨c1, hc⟩ := hfree _ h1 rfl
      have hc : X.env.cells.lookup y = some c1 := hc
      have e2 : c2 = c1 := by
        rw [h2', hc] <;> rfl
      rw [e2]
      exact hc
  obtain ⟨m, hn, hl⟩ := I.loc
  have hvis : Vis X.env.scope y := (L.free _ hy' rfl).elim (fun k => .inr (.inl k)) (fun k => .inr (.inr k))
  obtain ⟨w', r, q⟩ := hl i y v hN e hvis
  rcases q with ⟨k', _⟩ | ⟨_, c3, e', z⟩
  · have k' : X.env.scope.names.lookup y = some .local := k'
    rcases L.free _ hy' rfl with k2 | k2 <;> rw [show X.env.scope.names.lookup y = _ from k2] at k' <;> cases k'
  · rw [cm] at e'
    cases e'
    exact ⟨c2, w', h2, z, r⟩
/-- key=lambda p: p[0] * (y // p[1]) -/
def krFrac (K : PySem.W.Frag) (iy : Nat) : L2.St → Hp → V → Int → Prop := fun σ H x n => ∃ a i j w, x = .ref a ∧ SqT K H a [.int i, .int j] ∧ σ[iy]? = some (some (.int w)) ∧ CDivZ w j ∧ CMulW i (w.fdiv j) ∧ n = i * w.fdiv j
theorem key_frac {X : Cx} {scope : Scope} {p y : Str} {iy : Nat} {j0 j1 : Nat} {q0 q1 q2 q3 q4 q5 q6 q7 q8 : Pos} (L : LamP X.env.scope scope p) (hN : X.N[iy]? = some y) (hy : scope.names.lookup y = some .free) (hdp : (p == ("__debug__" : Str)) = false := by decide) (hd : (y == ("__debug__" : Str)) = false := by decide) (hcd : (y == ("__classdict__" : Str)) = false := by decide) :
    KeyR X scope p (.BinOp (.Subscript (.Name p q0) (.Constant (.int 0) j0 q1) q2) .Mult (.BinOp (.Name y q3) .FloorDiv (.Subscript (.Name p q4) (.Constant (.int 1) j1 q5) q6) q7) q8) (krFrac X.K iy) := by
  intro pins σ H s x v n I rx hk A h₁ La f c' k1 hn
  obtain ⟨a, i, j, w, rfl, hq, hw, hdz, hmw, rfl⟩ := hk
  obtain rfl : v = Value.ref a := rx
  obtain ⟨c, u, hc, hcell, ru⟩ := cap_at I L hN hw hy
  obtain ⟨tw, rfl⟩ := ru
  obtain ⟨its, rv, pl, hz⟩ := I.tuple hq
  obtain ⟨v0, e0, r0⟩ := rv.get (i := 0) rfl
  obtain ⟨v1, e1, r1⟩ := rv.get (i := 1) rfl
  obtain ⟨t0, rfl⟩ := r0
  obtain ⟨t1, rfl⟩ := r1
  have pl1 : IsTup h₁ a its.toArray := IsTup.keeps pl k1
  have hlz : its.toArray.size ≤ sizeLine := by
    have := rv.length
    rw [List.size_toArray, ← this, sizeLine_eq]
    show 2 ≤ 16777216
    decide
  have hcell1 : h₁.IsCell c (some (.int w tw)) := by
    obtain ⟨o, ho, hd⟩ := hcell
    exact ⟨o, k1 _ _ ho, hd⟩
  have hP : ∀ q R, R (Value.ref a) → KEv X.prog X.w A (LamX.lamEnv X scope La f c') (.Name p q) h₁ R := fun q R hR => KEv.loc L.kind L.par hn (by simp) hR hdp
  refine KEv.mul (Ra := fun z => z = i) (Rb := fun z => z = w.fdiv j) ?_ ?_ ?_
  · exact KEv.ixT (hP _ _ rfl) pl1 hlz (by decide) (by simpa using e0) ⟨i, t0, rfl, rfl⟩
  · refine KEv.fdiv (Ra := fun z => z = w) (Rb := fun z => z = j) ?_ ?_ ?_
    · exact KEv.free L.kind hy hc hcell1 ⟨w, tw, rfl, rfl⟩ hd hcd
    · exact KEv.ixT (hP _ _ rfl) pl1 hlz (by decide) (by simpa using e1) ⟨j, t1, rfl, rfl⟩
    · rintro _ _ t rfl rfl
      exact ⟨hdz, _, t, rfl, rfl⟩
  · rintro _ _ t rfl rfl
    exact ⟨hmw, t, rfl⟩
end Pw

namespace Pw
open PySem PySem.Spec PyProof.Rows L2
/-! ### sorted(xs, key=lambda ..) in the layer -/
def lesV (a b : V × Int) : Bool := decide (a.2 ≤ b.2)
theorem IsL.mem2 {K : PySem.W.Frag} {Xs : List Addr} {H : Hp} : ∀ {ds : List D} {vs : List V}, IsL K Xs H ds vs → ∀ b ∈ ds.zip vs, Is K Xs H b.1 b.2
  | [], vs, h, b, hb => by simp at hb
  | d :: ds, vs, h, b, hb => by
    obtain ⟨x, r, rfl, h1, h2⟩ := h
    rcases List.mem_cons.mp (show b ∈ (d, x) :: ds.zip r from hb) with z | z
    · rw [z]; exact h1
    · exact IsL.mem2 h2 b z
theorem IsL.of2 {K : PySem.W.Frag} {Xs : List Addr} {H : Hp} : ∀ {bs : List (D × V)}, (∀ b ∈ bs, Is K Xs H b.1 b.2) → IsL K Xs H (bs.map (·.1)) (bs.map (·.2))
  | [], h => rfl
  | b :: bs, h => ⟨b.2, bs.map (·.2), rfl, h b (List.mem_cons_self ..), IsL.of2 fun c hc => h c (List.mem_cons_of_mem _ hc)⟩
/-- the items' values, sorted by the keys of the items -/
theorem sortK_is {K : PySem.W.Frag} {Xs : List Addr} {H : Hp} {ds : List D} {vs : List V} (key : D → Int) (h : IsL K Xs H ds vs) :
    IsL K Xs H (ds.mergeSort fun a b => decide (key a ≤ key b)) (sortK vs (ds.map key)) := by
  have hl := h.length
  have e0 : vs.zip (ds.map key) = (ds.zip vs).map fun b => (b.2, key b.1) := by
    clear h
    induction ds generalizing vs with
    | nil => simp
    | cons d ds ih =>
      match vs, hl with
      | v :: vs, hl =>
        simp only [List.map_cons, List.zip_cons_cons, List.cons.injEq, true_and]
        exact ih (Nat.succ.inj hl)
  have e1 : (ds.zip vs).map (·.1) = ds := List.map_fst_zip (by omega)
  have m1 : ((ds.zip vs).mergeSort fun a b => decide (key a.1 ≤ key b.1)).map (·.1) = ds.mergeSort fun a b => decide (key a ≤ key b) := by
    rw [List.map_mergeSort (s := fun a b => decide (key a ≤ key b)) (fun _ _ _ _ => rfl), e1]
  have m2 : sortK vs (ds.map key) = ((ds.zip vs).mergeSort fun a b => decide (key a.1 ≤ key b.1)).map (·.2) := by
    unfold sortK
    rw [e0, ← List.map_mergeSort (r := fun a b : D × V => decide (key a.1 ≤ key b.1)) (fun _ _ _ _ => rfl), List.map_map]
    rfl
  rw [← m1, m2]
  exact IsL.of2 fun b hb => h.mem2 b ((List.mergeSort_perm _ _).mem_iff.mp hb)
section
variable {W : Wd} {ρ : En} {s : Rs}
theorem LEL.sortK {Φ : List D → Rs → Prop} {t : TA} {KR : L2.St → Hp → V → Int → Prop} (key : D → Int)
    (h : LA W t ρ s fun ds s1 => ∃ es, ds = [.lst es] ∧ es.length ≤ 1000 ∧ (∀ (σ : L2.St) (H : Hp) (d : D) (v : V), Ok W σ H ρ s1 → d ∈ es → Is W.K (adrs s1) H d v → KR σ H v (key d)) ∧ Φ (es.mergeSort fun a b => decide (key a ≤ key b)) s1) :
    LEL W (tSortK W.K W.tb t KR) ρ s Φ := fun σ H o Q q => by
  refine h σ H o _ fun vs H1 ds s1 o1 p1 i1 k => ?_
  obtain ⟨es, rfl, hl, hK, k⟩ := k
  obtain ⟨v, rfl, e1⟩ := IsL.one i1
  obtain ⟨a, xs, rfl, g0, g1, g2⟩ := e1
  refine ⟨a, xs, rfl, SqL.of g1, by rw [g2.length]; exact hl, o1.tbs.t, fun H2 eN T2 => ?_⟩
  have eT : ExtT W.tb H1 H2 := ⟨eN, T2⟩
  have o2 := o1.ext eT
  have pT := o1.presT eT
  obtain ⟨a', xs', e, g0', g1', g2'⟩ := pT.is (d := .lst es) ⟨a, xs, rfl, g0, g1, g2⟩
  cases e
  have ex : xs' = xs := by
    have := eN _ _ g1 (fun ps z => by cases z)
    rw [this] at g1'
    cases g1'
    rfl
  subst ex
  refine ⟨SqL.of g1', es.map key, by rw [List.length_map, g2'.length], fun b hb => ?_, fun p hp => ?_⟩
  · obtain ⟨i, hi⟩ := List.mem_iff_getElem?.mp hb
    obtain ⟨h1, h2⟩ := List.getElem?_zip_eq_some.mp hi
    rw [List.getElem?_map] at h2
    cases e : es[i]? with
    | none => rw [e] at h2; cases h2
    | some d =>
      rw [e] at h2
      have h2 : key d = b.2 := Option.some.inj h2
      obtain ⟨v, hv1, hv2⟩ := g2'.get e
      rw [hv1] at h1
      cases h1
      rw [← h2]
      exact hK σ H2 d _ o2 (List.mem_of_getElem? e) hv2
  · obtain ⟨o3, p3⟩ := o2.newL hp (sortK_is key g2')
    exact q p _ _ s1 o3 ((p1.trans pT).trans p3) k
/-- the key p[0] * (y // p[1]) -/
def keyF (w : Int) : D → Int
  | .tup [.int i, .int j] => i * w.fdiv j
  | _ => 0
theorem kr_frac {iy : Nat} {w i j : Int} {s1 : Rs} {σ : L2.St} {H : Hp} {v : V} (hw : ρ[iy]? = some (some (.int w))) (hd : CDivZ w j) (hm : CMulW i (w.fdiv j)) (o : Ok W σ H ρ s1) (h : Is W.K (adrs s1) H (.tup [.int i, .int j]) v) :
    krFrac W.K iy σ H v (keyF w (.tup [.int i, .int j])) := by
  obtain ⟨u, hu, e⟩ := o.sl iy _ hw
  cases (show u = .int w from e)
  obtain ⟨a, xs, rfl, h1, h2⟩ := h
  obtain ⟨x0, r0, rfl, e0, h3⟩ := h2
  obtain ⟨x1, r1, rfl, e1, h4⟩ := h3
  cases (show x0 = .int i from e0)
  cases (show x1 = .int j from e1)
  cases (show r1 = [] from h4)
  exact ⟨a, i, j, w, rfl, IsL.sqT h1, hu, hd, hm, rfl⟩
end
end Pw

namespace Pw
open PySem PySem.Spec PyProof.Rows L2
/-! ### list(dict(pairs)), the keys tuples of whole numbers and texts -/
abbrev KTup := List L2.Key
def addK (acc : List (KTup × Addr)) (q : KTup × Addr) : List (KTup × Addr) := if acc.any (fun x => decide (x.1 = q.1)) then acc else acc ++ [q]
/-- each key once, at its first place -/
def uniqK (qs : List (KTup × Addr)) : List (KTup × Addr) := qs.foldl addK []
abbrev prK (x : KTup × Addr × Value) : KTup × Addr := (x.1, x.2.1)
theorem atKey_any (xs : List (KTup × Addr × Value)) (k : KTup) : (atKey xs k).isSome = (xs.map prK).any fun x => decide (x.1 = k) := by
  unfold atKey
  rw [Option.isSome_map, List.any_map, Bool.eq_iff_iff, List.find?_isSome, List.any_eq_true]
  rfl
theorem putAt_pr (k : KTup) (v : Value) (xs : List (KTup × Addr × Value)) : (xs.map (putAt k v)).map prK = xs.map prK := by
  rw [List.map_map]
  refine List.map_congr_left fun x _ => ?_
  show prK (putAt k v x) = prK x
  unfold putAt
  split <;> rfl
theorem storedH_pr (xs : List (KTup × Addr × Value)) (k : KTup) (a : Addr) (v : Value) : (storedH xs k a v).map prK = addK (xs.map prK) (k, a) := by
  unfold storedH addK
  rw [← atKey_any]
  split
  · exact putAt_pr k v xs
  · rw [List.map_append]; rfl
theorem storedAllH_pr : ∀ (ps xs : List (KTup × Addr × Value)), (storedAllH xs ps).map prK = (ps.map prK).foldl addK (xs.map prK)
  | [], xs => rfl
  | p :: ps, xs => by
    show (storedAllH (storedH xs p.1 p.2.1 p.2.2) ps).map prK = _
    rw [storedAllH_pr ps, storedH_pr]
    rfl
section
variable {X : Cx} {pins : List (Addr × Obj)} {σ : L2.St} {H : Hp} {s : Shared}
theorem key_sqT {b : Addr} {ks : KTup} (I : Inv X pins σ H s) (h : SqT X.K H b (ks.map kV)) : (tupleKind (mixKind X.prog X.w)).is s.heap ks b := by
  obtain ⟨its, rv, ⟨o, h1, h2, n, h3⟩, _⟩ := I.tuple h
  exact ⟨o, its.toArray, n, h1, h2, h3, by simpa using items_are rv⟩
theorem trs_of (I : Inv X pins σ H s) : ∀ {ps : List Addr} {kvs : List (KTup × Addr × V)}, Paired (fun p (kv : KTup × Addr × V) => SqT X.K H p [.ref kv.2.1, kv.2.2] ∧ SqT X.K H kv.2.1 (kv.1.map kV)) ps kvs →
    ∃ trs : List (KTup × Addr × Value), trs.length = ps.length ∧ trs.map prK = kvs.map (fun kv => (kv.1, kv.2.1)) ∧ ∀ (j : Nat) x, trs[j]? = some x → ∃ T, ps[j]? = some T ∧ IsTup s.heap T #[.ref x.2.1, x.2.2] ∧ (tupleKind (mixKind X.prog X.w)).is s.heap x.1 x.2.1
  | _, _, .nil => ⟨[], rfl, rfl, fun j x e => by simp at e⟩
  | _, _, .cons (a := p) (b := kv) h t => by
    obtain ⟨trs, hl, hm, hp⟩ := trs_of I t
    obtain ⟨its, rv, ht, _⟩ := I.tuple h.1
    obtain ⟨u, y, ei, ru, ry⟩ := vals2 rv
    subst ei
    obtain rfl : u = Value.ref kv.2.1 := ru
    refine ⟨(kv.1, kv.2.1, y) :: trs, by rw [List.length_cons, List.length_cons, hl], by rw [List.map_cons, List.map_cons, hm], fun j x e => ?_⟩
    cases j with
    | zero =>
      have e' : (kv.1, kv.2.1, y) = x := Option.some.inj e
      subst e'
      exact ⟨p, rfl, ht, key_sqT I h.2⟩
    | succ j =>
      obtain ⟨T, e1, e2, e3⟩ := hp j x (by simpa using e)
      exact ⟨T, by simpa using e1, e2, e3⟩
end
/-- list(dict(e)) -/
def tUniq (K : PySem.W.Frag) (t : TA) : TE := fun σ H Q => t σ H fun vs H1 => ∃ (a : Addr) (ps : List Addr) (kvs : List (KTup × Addr × V)), vs = [.ref a] ∧ SqL K H1 a (ps.map V.ref) ∧
  Paired (fun p (kv : KTup × Addr × V) => SqT K H1 p [.ref kv.2.1, kv.2.2] ∧ SqT K H1 kv.2.1 (kv.1.map kV)) ps kvs ∧ ∀ p, H1 p = none → Q (.ref p) (upd H1 p (.lst ((uniqK (kvs.map fun kv => (kv.1, kv.2.1))).map fun x => V.ref x.2)))
theorem addK_len (acc : List (KTup × Addr)) (q : KTup × Addr) : (addK acc q).length ≤ acc.length + 1 := by
  unfold addK
  split
  · omega
  · rw [List.length_append, List.length_singleton]; exact Nat.le_refl _
theorem foldK_len : ∀ (qs acc : List (KTup × Addr)), (qs.foldl addK acc).length ≤ acc.length + qs.length
  | [], acc => Nat.le_refl _
  | q :: qs, acc => by
    have h1 := foldK_len qs (addK acc q)
    have h2 := addK_len acc q
    show (qs.foldl addK (addK acc q)).length ≤ acc.length + (qs.length + 1)
    omega
theorem pe_uniq {X : Cx} {k : Nat} {e : Expr} {t : TA} {p0 p1 pos1 pos : Pos} (hcalm : X.calm = true) (hr : Room (k + 1) X.A) (hgL : Gl X ("list" : Str)) (hmL : X.mg ("list" : Str) = none) (hvL : bootBuiltins ("list" : Str) = some (.type "list")) (hgD : Gl X ("dict" : Str)) (hmD : X.mg ("dict" : Str) = none) (hvD : bootBuiltins ("dict" : Str) = some (.type "dict"))
    (ha : PA X [e] t) (he : starEach [e] X.env = (false, eval e X.env) :: starEach [] X.env := by rfl) (he2 : starEach [.Call (.Name ("dict" : Str) p1) [e] [] pos1] X.env = (false, eval (.Call (.Name ("dict" : Str) p1) [e] [] pos1) X.env) :: starEach [] X.env := by rfl) :
    PE X (.Call (.Name ("list" : Str) p0) [.Call (.Name ("dict" : Str) p1) [e] [] pos1] [] pos) (tUniq X.K t) := by
  refine ⟨fun pins s σ H Q I h => ?_⟩
  refine wpAny_Call_Name_kw (ld_blt I hgL hmL hvL ?_)
  refine PyProof.Rows.callWith_type1 ?_ he2 rfl
  rw [he2]
  refine Calls.spliced_cons (wpAny_Call_Name_kw (ld_blt I hgD hmD hvD ?_))
  refine PyProof.Rows.callWith_type1 (thn (ha.run pos1 pins s σ H _ I h) fun us s1 ⟨vs, H1, I1, r1, q1⟩ => ?_) he rfl
  obtain ⟨a, ps, kvs, rfl, hq, hp, q⟩ := q1
  obtain ⟨u, eu, rx⟩ := vals1 r1
  subst eu
  obtain rfl : u = Value.ref a := rx
  obtain ⟨its, rv, pl, hz⟩ := I1.list hq
  have ei := refs_at rv
  subst ei
  rw [List.length_map] at hz
  obtain ⟨trs, hl, hm, htr⟩ := trs_of I1 hp
  obtain ⟨o, n, ho, hc, hd, hdat⟩ := pl
  have hun : X.A.in1.in1.units < cLine := by
    have := hr.un
    show X.A.units + 1 + 1 < _
    omega
  have hml : (trs.map fun x => (Value.ref x.2.1, x.2.2)).length = trs.length := List.length_map ..
  have hitem : PairItems s1.heap (ps.map Value.ref).toArray (fun j => (ps[j]?).getD 0) (trs.map fun x => (Value.ref x.2.1, x.2.2)) := by
    refine ⟨by simp [hl], fun j k v e => ?_⟩
    rw [List.getElem?_map] at e
    cases e1 : trs[j]? with
    | none => rw [e1] at e; cases e
    | some x =>
      rw [e1] at e
      cases e
      obtain ⟨T, e2, e3, _⟩ := htr j x e1
      refine ⟨by simp [e2], .inl ?_⟩
      show s1.heap.IsTuple ((ps[j]?).getD 0) _
      rw [e2]
      exact e3
  refine call_dict_pairsH (A := X.A) (knd := tupleKind (mixKind X.prog X.w)) (ps := trs) (PairArg.list (prog := X.prog) (w := X.w) a (ps.map Value.ref).toArray (fun j => (ps[j]?).getD 0) (trs.map fun x => (Value.ref x.2.1, x.2.2))) (I1.ok.hd hcalm) hun
    ⟨⟨o, n, ho, hc, hd, hdat⟩, hitem⟩ ⟨hml.symm, fun i key v e => ?_⟩ (fun h' hk x hx => ?_) (by rw [hml, hl]; exact hz) fun h' tk hD hk => ?_
  · have e : (trs.map fun x => (Value.ref x.2.1, x.2.2))[i]? = some (key, v) := e
    rw [List.getElem?_map] at e
    cases e1 : trs[i]? with
    | none => rw [e1] at e; cases e
    | some x =>
      rw [e1] at e
      cases e
      exact ⟨x.1, x.2.1, rfl, rfl⟩
  · obtain ⟨j, hj⟩ := List.mem_iff_getElem?.mp hx
    obtain ⟨T, _, _, ob, its2, n2, g1, g2⟩ := htr j x hj
    exact ⟨ob, its2, n2, hk _ _ (Nat.ne_of_lt (Heap.lt_size g1)) (by simp) g1, g2⟩
  · have hS : (s1.heap.objs.size == sysModules) = false := beq_eq_false_iff_ne.mpr (Nat.ne_of_gt I1.big)
    have I2 : Inv X pins σ H1 { s1 with heap := h', toks := tk } := I1.kept fun b o e => hk b o (by simp) e
    obtain ⟨o2, es, ep, ho2, hx2, hdt, hen, hkeys, hnd⟩ := hD
    have hlen : (storedAllH [] trs).length ≤ sizeLine := by
      have := storedAllH_length trs ([] : List (KTup × Addr × Value))
      rw [List.length_nil, Nat.zero_add, hl] at this
      exact Nat.le_trans this hz
    have l1 : es.size = (storedAllH [] trs).length := size_of_entries hen
    refine Calls.spliced_nil (PySem.W.kdl_call (kdl_raw hS hx2 hdt) (I1.ok.hd hcalm) ho2 (by omega) fun h'' tk2 acc c' kp e it => ?_)
    have ea : acc.toList = (storedAllH [] trs).map fun x => Value.ref x.2.1 := by
      have hl2 : acc.toList.length = (storedAllH [] trs).length := by rw [Array.length_toList, it.1]; exact l1
      apply List.ext_getElem?
      intro j
      rw [List.getElem?_map]
      cases hj : acc.toList[j]? with
      | none =>
        have h1 := List.getElem?_eq_none_iff.mp hj
        rw [List.getElem?_eq_none (by omega)]
        all_goals rfl
      | some v =>
        obtain ⟨en, hen2, hv⟩ := it.2 j v (by rw [← Array.getElem?_toList]; exact hj)
        have qe := entry_at hen j
        rw [hen2] at qe
        cases hb : (storedAllH [] trs)[j]? with
        | none =>
          rw [hb] at qe
          exact nomatch (show some en = none from qe)
        | some b =>
          rw [hb] at qe
          have e2 : en = entryOfKey (tupleKind (mixKind X.prog X.w)) b := Option.some.inj qe
          rw [hv, e2]
          all_goals rfl
    have em : (uniqK (kvs.map fun kv => (kv.1, kv.2.1))) = (storedAllH [] trs).map prK := by
      rw [storedAllH_pr, ← hm]
      rfl
    have eb : acc.toList = ((uniqK (kvs.map fun kv => (kv.1, kv.2.1))).map fun x => x.2).map Value.ref := by rw [ea, em, List.map_map, List.map_map]; rfl
    have rv2 : Vals ((uniqK (kvs.map fun kv => (kv.1, kv.2.1))).map fun x => V.ref x.2) acc.toList := by
      rw [eb]
      have := vals_refs ((uniqK (kvs.map fun kv => (kv.1, kv.2.1))).map fun x => x.2)
      rwa [List.map_map] at this
    have hz2 : ((uniqK (kvs.map fun kv => (kv.1, kv.2.1))).map fun x => V.ref x.2).length ≤ sizeLine := by rw [em, List.length_map, List.length_map]; exact hlen
    exact ⟨.ref h'.objs.size, _, I2.laid (t' := tk2) (o := .lst ((uniqK (kvs.map fun kv => (kv.1, kv.2.1))).map fun x => V.ref x.2)) kp (Nat.le_refl _) ⟨hz2, acc.toList, c', rv2, by rw [Array.toArray_toList]; exact e⟩, rfl, q _ (I2.hok.fresh (Nat.le_refl _))⟩
/-! ### in the layer -/
def dKey : L2.Key → D
  | .inl i => .int i
  | .inr x => .str x
def addU (acc : List KTup) (k : KTup) : List KTup := if acc.any (fun x => decide (x = k)) then acc else acc ++ [k]
/-- each once, at its first place -/
def uniqU (ks : List KTup) : List KTup := ks.foldl addU []
theorem foldU : ∀ (qs acc : List (KTup × Addr)), (qs.foldl addK acc).map (·.1) = (qs.map (·.1)).foldl addU (acc.map (·.1))
  | [], acc => rfl
  | q :: qs, acc => by
    show (qs.foldl addK (addK acc q)).map (·.1) = _
    rw [foldU qs]
    have e : (addK acc q).map (·.1) = addU (acc.map (·.1)) q.1 := by
      unfold addK addU
      rw [List.any_map]
      show _ = if (acc.any fun x => decide (x.1 = q.1)) = true then _ else _
      split
      · rfl
      · rw [List.map_append]; rfl
    rw [e]
    rfl
theorem uniqK_fst (qs : List (KTup × Addr)) : (uniqK qs).map (·.1) = uniqU (qs.map (·.1)) := foldU qs []
theorem foldK_mem {x : KTup × Addr} : ∀ (qs acc : List (KTup × Addr)), x ∈ qs.foldl addK acc → x ∈ acc ∨ x ∈ qs
  | [], acc, h => .inl h
  | q :: qs, acc, h => by
    rcases foldK_mem qs (addK acc q) h with z | z
    · unfold addK at z
      split at z
      · exact .inl z
      · rcases List.mem_append.mp z with y | y
        · exact .inl y
        · exact .inr (List.mem_cons.mpr (.inl (List.mem_singleton.mp y)))
    · exact .inr (List.mem_cons_of_mem _ z)
theorem uniqK_mem {x : KTup × Addr} {qs : List (KTup × Addr)} (h : x ∈ uniqK qs) : x ∈ qs := (foldK_mem qs [] h).elim (fun z => by cases z) id
theorem is_keys {K : PySem.W.Frag} {Xs : List Addr} {H : Hp} : ∀ {ks : KTup} {xs : List V}, IsL K Xs H (ks.map dKey) xs → xs = ks.map kV
  | [], xs, h => h
  | k :: ks, xs, h => by
    obtain ⟨x, r, rfl, h1, h2⟩ := h
    rw [List.map_cons, ← is_keys h2]
    cases k with
    | inl i => rw [show x = V.int i from h1]; rfl
    | inr y => rw [show x = V.str y from h1]; rfl
theorem pairs_is {K : PySem.W.Frag} {Xs : List Addr} {H : Hp} : ∀ {qs : List (KTup × D)} {vs : List V}, IsL K Xs H (qs.map fun q => .tup [.tup (q.1.map dKey), q.2]) vs →
    ∃ (ps : List Addr) (kvs : List (KTup × Addr × V)), vs = ps.map V.ref ∧ Paired (fun p (kv : KTup × Addr × V) => SqT K H p [.ref kv.2.1, kv.2.2] ∧ SqT K H kv.2.1 (kv.1.map kV)) ps kvs ∧ kvs.map (·.1) = qs.map (·.1) ∧ ∀ kv ∈ kvs, Is K Xs H (.tup (kv.1.map dKey)) (.ref kv.2.1)
  | [], vs, h => ⟨[], [], h, .nil, rfl, fun kv hk => by cases hk⟩
  | q :: qs, vs, h => by
    obtain ⟨x, r, rfl, h1, h2⟩ := h
    obtain ⟨ps, kvs, rfl, hp, hm, hk⟩ := pairs_is h2
    obtain ⟨p, xs, rfl, g1, g2⟩ := h1
    obtain ⟨y0, r0, rfl, k0, g3⟩ := g2
    obtain ⟨y1, r1, rfl, k1, g4⟩ := g3
    cases (show r1 = [] from g4)
    obtain ⟨b, ys, rfl, b1, b2⟩ := id k0
    have ey := is_keys b2
    subst ey
    refine ⟨p :: ps, (q.1, b, y1) :: kvs, rfl, .cons ⟨IsL.sqT g1, IsL.sqT b1⟩ hp, by rw [List.map_cons, List.map_cons, hm], fun kv hkv => ?_⟩
    rcases List.mem_cons.mp hkv with rfl | z
    · exact k0
    · exact hk kv z
theorem IsL.ofB {K : PySem.W.Frag} {Xs : List Addr} {H : Hp} : ∀ {bs : List (KTup × Addr)}, (∀ b ∈ bs, Is K Xs H (.tup (b.1.map dKey)) (.ref b.2)) → IsL K Xs H (bs.map fun b => .tup (b.1.map dKey)) (bs.map fun b => V.ref b.2)
  | [], h => rfl
  | b :: bs, h => ⟨.ref b.2, bs.map fun b => V.ref b.2, rfl, h b (List.mem_cons_self ..), IsL.ofB fun c hc => h c (List.mem_cons_of_mem _ hc)⟩
section
variable {W : Wd} {ρ : En} {s : Rs}
theorem LEL.uniq {Φ : List D → Rs → Prop} {t : TA} (h : LA W t ρ s fun ds s1 => ∃ qs : List (KTup × D), ds = [.lst (qs.map fun q => .tup [.tup (q.1.map dKey), q.2])] ∧ Φ ((uniqU (qs.map (·.1))).map fun k => .tup (k.map dKey)) s1) :
    LEL W (tUniq W.K t) ρ s Φ := fun σ H o Q q => by
  refine h σ H o _ fun vs H1 ds s1 o1 p1 i1 k => ?_
  obtain ⟨qs, rfl, k⟩ := k
  obtain ⟨v, rfl, e1⟩ := IsL.one i1
  obtain ⟨a, xs, rfl, g0, g1, g2⟩ := e1
  obtain ⟨ps, kvs, rfl, hp, hm, hk⟩ := pairs_is g2
  refine ⟨a, ps, kvs, rfl, SqL.of g1, hp, fun p hn => ?_⟩
  have hi := IsL.ofB (K := W.K) (Xs := adrs s1) (H := H1) (bs := uniqK (kvs.map fun kv => (kv.1, kv.2.1))) fun b hb => by
    obtain ⟨kv, hkv, rfl⟩ := List.mem_map.mp (uniqK_mem hb)
    exact hk kv hkv
  have e2 : (uniqK (kvs.map fun kv => (kv.1, kv.2.1))).map (fun b => D.tup (b.1.map dKey)) = (uniqU (qs.map (·.1))).map fun k => D.tup (k.map dKey) := by
    rw [← hm, show kvs.map (·.1) = (kvs.map fun kv => (kv.1, kv.2.1)).map (·.1) by rw [List.map_map]; rfl, ← uniqK_fst, List.map_map]
    rfl
  rw [e2] at hi
  obtain ⟨o2, p2⟩ := o1.newL hn hi
  exact q p _ _ s1 o2 (p1.trans p2) k
end
end Pw

namespace Pw
open PySem PySem.Spec PyProof.Rows L2
/-! ### times in order, each once: the plain law -/
theorem lcm_step {w d : Int} (hw : 1 ≤ w) (hd : 0 < d) : d ∣ w * ((Rat.divInt w d).den : Int) ∧ w ∣ w * ((Rat.divInt w d).den : Int) ∧ 1 ≤ w * ((Rat.divInt w d).den : Int) ∧ w * ((Rat.divInt w d).den : Int) ≤ w * d := by
  have e : (Rat.divInt w d).den = d.natAbs / Int.gcd w d := by rw [Rat.den_divInt, if_neg (by omega), Int.gcd_comm]
  have g0 : 0 < Int.gcd w d := gcd_pos (n := w) (by omega)
  obtain ⟨a, ha⟩ : ((Int.gcd w d : Nat) : Int) ∣ w := Int.gcd_dvd_left ..
  obtain ⟨m, hm⟩ : Int.gcd w d ∣ d.natAbs := Nat.gcd_dvd_right ..
  have em : (Rat.divInt w d).den = m := by
    rw [e, hm, Nat.mul_div_cancel_left _ g0]
  have ed : d = ((Int.gcd w d : Nat) : Int) * (m : Int) := by
    have h1 : (d.natAbs : Int) = d := by omega
    have h2 : (d.natAbs : Int) = ((Int.gcd w d : Nat) : Int) * (m : Int) := by
      rw [← Int.natCast_mul]
      exact_mod_cast hm
    exact h1.symm.trans h2
  have hm0 : 1 ≤ (m : Int) := by
    have := (Rat.divInt w d).den_pos
    rw [em] at this
    omega
  rw [em]
  have g1 : 1 ≤ ((Int.gcd w d : Nat) : Int) := by omega
  generalize ((Int.gcd w d : Nat) : Int) = g at *
  refine ⟨⟨a, ?_⟩, ⟨(m : Int), rfl⟩, ?_, ?_⟩
  · calc w * (m : Int) = g * a * m := by rw [← ha]
      _ = g * m * a := by rw [Int.mul_right_comm]
      _ = d * a := by rw [← ed]
  · exact Int.le_trans hw (by
      have := Int.mul_le_mul_of_nonneg_left hm0 (show 0 ≤ w by omega)
      omega)
  · refine Int.mul_le_mul_of_nonneg_left ?_ (by omega)
    rw [ed]
    have := Int.mul_le_mul_of_nonneg_right g1 (show 0 ≤ (m : Int) by omega)
    omega
theorem keyF_le {w : Int} {a b : Rat} (hw : 1 ≤ w) (ha : (a.den : Int) ∣ w) (hb : (b.den : Int) ∣ w) : keyF w (fr a) ≤ keyF w (fr b) ↔ a ≤ b := by
  have hw0 : (0 : Rat) < (w : Rat) := by exact_mod_cast (show 0 < w by omega)
  have key : ∀ c : Rat, (c.den : Int) ∣ w → ((keyF w (fr c) : Int) : Rat) = c * (w : Rat) := fun c hc => by
    obtain ⟨k, hk⟩ := hc
    have e1 : keyF w (fr c) = c.num * k := by
      show c.num * w.fdiv (c.den : Int) = _
      have hd := c.den_pos
      rw [Int.fdiv_eq_ediv_of_nonneg _ (by omega), hk, Int.mul_ediv_cancel_left _ (by omega)]
    have e2 : c * (c.den : Rat) = (c.num : Rat) := by
      have ea := Rat.num_divInt_den c
      have hd : (0 : Rat) < (c.den : Rat) := by exact_mod_cast c.den_pos
      rw [Rat.divInt_eq_div] at ea
      have e0 : (((c.den : Nat) : Int) : Rat) = (c.den : Rat) := rfl
      rw [e0] at ea
      grind
    rw [e1, hk, Rat.intCast_mul, Rat.intCast_mul, ← e2]
    have e0 : (((c.den : Nat) : Int) : Rat) = (c.den : Rat) := rfl
    rw [e0]
    grind
  have e : keyF w (fr a) ≤ keyF w (fr b) ↔ ((keyF w (fr a) : Int) : Rat) ≤ ((keyF w (fr b) : Int) : Rat) := by exact_mod_cast Iff.rfl
  rw [e, key a ha, key b hb]
  constructor
  · intro h; exact Rat.le_of_mul_le_mul_right h hw0
  · intro h; exact Rat.mul_le_mul_of_nonneg_right h (Rat.le_of_lt hw0)
def kQ (t : Rat) : KTup := [.inl t.num, .inl (t.den : Int)]
theorem kQ_inj {a b : Rat} (h : kQ a = kQ b) : a = b := by
  unfold kQ at h
  simp only [List.cons.injEq, Sum.inl.injEq, and_true] at h
  exact Rat.ext h.1 (by omega)
theorem foldU_fr : ∀ (ts acc : List Rat), (ts.map kQ).foldl addU (acc.map kQ) = (ts.foldl (fun acc t => if t ∈ acc then acc else acc ++ [t]) acc).map kQ
  | [], acc => rfl
  | t :: ts, acc => by
    have e : addU (acc.map kQ) (kQ t) = (if t ∈ acc then acc else acc ++ [t]).map kQ := by
      unfold addU
      have h1 : ((acc.map kQ).any fun x => decide (x = kQ t)) = decide (t ∈ acc) := by
        rw [Bool.eq_iff_iff, List.any_eq_true, decide_eq_true_iff]
        constructor
        · rintro ⟨x, hx, hx2⟩
          obtain ⟨u, hu, rfl⟩ := List.mem_map.mp hx
          have := kQ_inj (of_decide_eq_true hx2)
          subst this
          exact hu
        · intro h
          exact ⟨kQ t, List.mem_map_of_mem h, by simp⟩
      rw [h1]
      by_cases z : t ∈ acc
      · simp [z]
      · simp [z]
    show (ts.map kQ).foldl addU (addU (acc.map kQ) (kQ t)) = _
    rw [e, foldU_fr ts]
    rfl
theorem uniqU_fr (ts : List Rat) : uniqU (ts.map kQ) = (uniqQ ts).map kQ := foldU_fr ts []
theorem kQ_fr (t : Rat) : D.tup ((kQ t).map dKey) = fr t := rfl
theorem uniq_aux {t : Rat} : ∀ (ts acc : List Rat), t ∈ ts.foldl (fun acc t => if t ∈ acc then acc else acc ++ [t]) acc ↔ t ∈ acc ∨ t ∈ ts
  | [], acc => by simp
  | u :: ts, acc => by
    show t ∈ ts.foldl _ (if u ∈ acc then acc else acc ++ [u]) ↔ _
    rw [uniq_aux ts, List.mem_cons]
    split
    · rename_i h
      constructor
      · rintro (z | z)
        · exact .inl z
        · exact .inr (.inr z)
      · rintro (z | rfl | z)
        · exact .inl z
        · exact .inl h
        · exact .inr z
    · rw [List.mem_append, List.mem_singleton, or_assoc]
theorem uniqQ_mem {t : Rat} {ts : List Rat} : t ∈ uniqQ ts ↔ t ∈ ts := by
  unfold uniqQ
  rw [uniq_aux ts []]
  simp
theorem uniq_nd : ∀ (ts acc : List Rat), acc.Nodup → (ts.foldl (fun acc t => if t ∈ acc then acc else acc ++ [t]) acc).Nodup
  | [], acc, h => h
  | u :: ts, acc, h => by
    refine uniq_nd ts _ ?_
    show (if u ∈ acc then acc else acc ++ [u]).Nodup
    split
    · exact h
    · rename_i hu
      exact List.nodup_append.mpr ⟨h, by simp, fun a ha b hb => by
        rw [List.mem_singleton.mp hb]
        exact fun e => hu (e ▸ ha)⟩
theorem sortQ_fr {ts : List Rat} {w : Int} (hw : 1 ≤ w) (hd : ∀ t ∈ ts, (t.den : Int) ∣ w) : ((uniqQ ts).map fr).mergeSort (fun a b => decide (keyF w a ≤ keyF w b)) = (sortQ ts).map fr := by
  unfold sortQ
  rw [← List.map_mergeSort (r := fun a b => decide (a ≤ b)) fun a ha b hb => ?_]
  rw [Bool.eq_iff_iff, decide_eq_true_iff, decide_eq_true_iff]
  exact (keyF_le hw (hd a (uniqQ_mem.mp ha)) (hd b (uniqQ_mem.mp hb))).symm
theorem sortQ_mem {t : Rat} {ts : List Rat} : t ∈ sortQ ts ↔ t ∈ ts := by
  unfold sortQ
  rw [(List.mergeSort_perm _ _).mem_iff]
  exact uniqQ_mem
theorem sortQ_sorted (ts : List Rat) : (sortQ ts).Pairwise (· < ·) := by
  have h1 : (sortQ ts).Pairwise (fun a b => decide (a ≤ b) = true) := List.pairwise_mergeSort (fun a b c h1 h2 => by simp at h1 h2 ⊢; grind) (fun a b => by simp; grind) _
  have h2 : (sortQ ts).Nodup := (List.mergeSort_perm _ _).nodup_iff.mpr (uniq_nd ts [] List.nodup_nil)
  refine (h1.and h2).imp fun {a b} h => ?_
  have h3 := of_decide_eq_true h.1
  have h4 := h.2
  grind
theorem foldU_len : ∀ (ts acc : List Rat), (ts.foldl (fun acc t => if t ∈ acc then acc else acc ++ [t]) acc).length ≤ acc.length + ts.length
  | [], acc => Nat.le_refl _
  | u :: ts, acc => by
    have h1 := foldU_len ts (if u ∈ acc then acc else acc ++ [u])
    have h2 : (if u ∈ acc then acc else acc ++ [u]).length ≤ acc.length + 1 := by
      split
      · omega
      · rw [List.length_append, List.length_singleton]; exact Nat.le_refl _
    show (ts.foldl _ (if u ∈ acc then acc else acc ++ [u])).length ≤ acc.length + (ts.length + 1)
    omega
theorem int_lt_pow {w : Int} {k l : Nat} (h0 : 0 ≤ w) (h : w < 2 ^ k) (hl : k ≤ l) : w.natAbs < 2 ^ l := by
  have e : ((2 : Int) ^ k) = ((2 ^ k : Nat) : Int) := by rw [Int.natCast_pow]; rfl
  rw [e] at h
  exact Nat.lt_of_lt_of_le (show w.natAbs < 2 ^ k by omega) (Nat.pow_le_pow_right (by decide) hl)
theorem den_divInt_le {w d : Int} (hd : 0 < d) : (Rat.divInt w d).den ≤ d.natAbs := by
  rw [Rat.den_divInt, if_neg (by omega)]
  exact Nat.div_le_self _ _
end Pw

namespace Pw
open PySem PySem.Spec PyProof.Rows L2
/-! ### the law's own look at the sides (k14, k11 ..) -/
/-- the first time that answers, else 0 -/
def firstQ (f : Rat → Int) : List Rat → Int
  | [] => 0
  | t :: r => if f t ≠ 0 then f t else firstQ f r
/-- the knots of both from the later begin on, before t -/
def priorQ (ps qs : List Kn) (t : Rat) : List Rat := ((ps ++ qs).map (·.1)).filter fun x => decide (x < t) && !decide (x < beg2 ps qs)
/-- the law's side before t -/
def befQ (ps qs : List Kn) (t : Rat) : Int := firstQ (fun x => sgn (gapQ ps qs x) (gapQ ps qs t)) (sortQ (priorQ ps qs t)).reverse
theorem firstQ_take {f : Rat → Int} : ∀ {l : List Rat} {i : Nat}, (∀ x ∈ l.take i, f x = 0) → firstQ f l = firstQ f (l.drop i)
  | [], i, h => by simp [firstQ]
  | t :: r, 0, h => rfl
  | t :: r, i + 1, h => by
    have h0 : f t = 0 := h t (by simp)
    show (if f t ≠ 0 then f t else firstQ f r) = firstQ f (r.drop i)
    rw [if_neg (by simp [h0])]
    exact firstQ_take fun x hx => h x (by simp [hx])
theorem firstQ_at {f : Rat → Int} {l : List Rat} {i : Nat} {t : Rat} (h : ∀ x ∈ l.take i, f x = 0) (ht : l[i]? = some t) (hf : f t ≠ 0) : firstQ f l = f t := by
  rw [firstQ_take h]
  have hi := (List.getElem?_eq_some_iff.mp ht).1
  have e : l.drop i = t :: l.drop (i + 1) := by
    rw [List.drop_eq_getElem_cons hi]
    congr 1
    exact (List.getElem?_eq_some_iff.mp ht).2
  rw [e]
  exact if_pos hf
theorem firstQ_none {f : Rat → Int} : ∀ {l : List Rat}, (∀ x ∈ l, f x = 0) → firstQ f l = 0
  | [], _ => rfl
  | t :: r, h => by
    show (if f t ≠ 0 then f t else firstQ f r) = 0
    rw [if_neg (by simp [h t (List.mem_cons_self ..)])]
    exact firstQ_none fun x hx => h x (List.mem_cons_of_mem _ hx)
theorem beg2_fit {ps qs : List Kn} (hp : KOk ps) (hq : KOk qs) : Fit 400 (beg2 ps qs) := by
  obtain ⟨p0, hp0⟩ := get_of_lt (l := ps) (i := 0) hp.ne
  obtain ⟨q0, hq0⟩ := get_of_lt (l := qs) (i := 0) hq.ne
  unfold beg2
  rw [fst0_at hp0, fst0_at hq0]
  split
  · exact (hq.mem hq0).1
  · exact (hp.mem hp0).1
/-- the marks strictly between -/
def marksQ (L : Option Int) (a b : Rat) : Int := match L with
  | none => if a < 0 ∧ 0 < b then 1 else 0
  | some l => -((-b) / (l : Rat)).floor - (a / (l : Rat)).floor - 1
theorem marks_on {L : Option Int} {a b : Rat} (hL : ∀ l, L = some l → 1 ≤ l) (hab : a < b) (hb : onTrack L b) : marksQ L a b = lapsQ L b - lapsQ L a - 1 := by
  cases L with
  | none =>
    have hb : b = 0 := hb
    subst hb
    show (if a < 0 ∧ (0 : Rat) < 0 then (1 : Int) else 0) = (if (0 : Rat) ≤ 0 then (0 : Int) else -1) - (if 0 ≤ a then (0 : Int) else -1) - 1
    rw [if_neg (by grind), if_pos (by grind), if_neg (by grind)]
    rfl
  | some l =>
    have h := lapsQ_on hL hb
    show -(lapsQ (some l) (-b)) - lapsQ (some l) a - 1 = _
    rw [h]
    omega
theorem marks_off {L : Option Int} {a b : Rat} (hL : ∀ l, L = some l → 1 ≤ l) (hab : a < b) (hb : ¬ onTrack L b) : marksQ L a b = lapsQ L b - lapsQ L a := by
  cases L with
  | none =>
    have hb : ¬ b = 0 := hb
    show (if a < 0 ∧ 0 < b then (1 : Int) else 0) = (if 0 ≤ b then (0 : Int) else -1) - (if 0 ≤ a then (0 : Int) else -1)
    by_cases h1 : a < 0 <;> by_cases h2 : 0 < b
    · rw [if_pos ⟨h1, h2⟩, if_pos (by grind), if_neg (by grind)]; rfl
    · rw [if_neg (fun z => h2 z.2), if_neg (by grind), if_neg (by grind)]; rfl
    · rw [if_neg (fun z => h1 z.1), if_pos (by grind), if_pos (by grind)]; rfl
    · exfalso; grind
  | some l =>
    have h := lapsQ_neg hL hb
    show -(lapsQ (some l) (-b)) - lapsQ (some l) a - 1 = _
    rw [h]
    omega
end Pw

namespace Pw
open PySem PySem.Spec PyProof.Rows L2
/-! ### the law's count of crossings is the program's -/
theorem pos_near {ps : List Kn} {a b : Rat} (h : KOk ps) (hl : Late ps a) (hab : a < b) : ∃ e, a < e ∧ e ≤ b ∧ ∀ s, a ≤ s → s < e → posQ ps s = posQ ps a + paceQ ps a * (s - a) := by
  obtain ⟨p, hp, h1, h2⟩ := pc_lt h hl
  have key : ∀ s, a ≤ s → (∀ q, ps[pc ps a + 1]? = some q → s < q.1) → posQ ps s = posQ ps a + paceQ ps a * (s - a) := fun s h3 h4 => by
    have e : pc ps s = pc ps a := pc_of h.asc ⟨p, hp, by grind, h4⟩
    have ep : paceQ ps s = paceQ ps a := by unfold paceQ; rw [e]
    rw [posQ_at (by rw [e]; exact hp), posQ_at hp, ep]
    grind
  cases hq : ps[pc ps a + 1]? with
  | none => exact ⟨b, hab, Rat.le_refl, fun s h3 h4 => key s h3 fun q z => by rw [hq] at z; cases z⟩
  | some q =>
    have h5 := h2 q hq
    by_cases z : q.1 < b
    · exact ⟨q.1, h5, by grind, fun s h3 h4 => key s h3 fun q' z => by rw [hq] at z; cases z; exact h4⟩
    · exact ⟨b, hab, Rat.le_refl, fun s h3 h4 => key s h3 fun q' z' => by rw [hq] at z'; cases z'; grind⟩
theorem grow_of {ps qs : List Kn} {a b m : Rat} (hp : KOk ps) (hq : KOk qs) (hb : beg2 ps qs ≤ a) (hab : a < b) (hm : ∀ t, a ≤ t → t ≤ b → gapQ ps qs t = gapQ ps qs a + m * (t - a)) : growQ ps qs a = m := by
  obtain ⟨l1, l2⟩ := beg2_late hb
  obtain ⟨e, h1, h2, h3⟩ := pos_near hp l1 hab
  obtain ⟨f, k1, k2, k3⟩ := pos_near hq l2 h1
  have hs1 : a < (a + f) / 2 := by grind
  have hs2 : (a + f) / 2 < f := by grind
  generalize hS : (a + f) / 2 = S at *
  have e1 := h3 S (by grind) (by grind)
  have e2 := k3 S (by grind) hs2
  have e3 := hm S (by grind) (by grind)
  unfold gapQ at e3
  unfold growQ
  rw [e1, e2] at e3
  have e4 : (paceQ ps a - paceQ qs a - m) * (S - a) = 0 := by grind
  rcases Rat.mul_eq_zero.mp e4 with z | z
  · grind
  · grind
/-! what a side before says -/
def Bef (ps qs : List Kn) (g t : Rat) (σ : Int) : Prop :=
  (σ = 0 ∧ ∀ s, beg2 ps qs ≤ s → s ≤ t → gapQ ps qs s = g) ∨
  (σ ≠ 0 ∧ ∃ x y, beg2 ps qs ≤ x ∧ x < y ∧ y ≤ t ∧ (∀ s, y ≤ s → s ≤ t → gapQ ps qs s = g) ∧ ∀ s, x ≤ s → s < y → sgn (gapQ ps qs s) g = σ)
theorem Bef.only {ps qs : List Kn} {g t : Rat} {σ τ : Int} (h : Bef ps qs g t σ) (k : Bef ps qs g t τ) : σ = τ := by
  rcases h with ⟨rfl, h⟩ | ⟨h0, x, y, h1, h2, h3, h4, h5⟩
  · rcases k with ⟨rfl, k⟩ | ⟨k0, x', y', k1, k2, k3, k4, k5⟩
    · rfl
    · exfalso
      have e := k5 x' Rat.le_refl k2
      rw [h x' k1 (by grind), sgn_zero.mpr rfl] at e
      exact k0 e.symm
  · rcases k with ⟨rfl, k⟩ | ⟨k0, x', y', k1, k2, k3, k4, k5⟩
    · exfalso
      have e := h5 x Rat.le_refl h2
      rw [k x h1 (by grind), sgn_zero.mpr rfl] at e
      exact h0 e.symm
    · have hy : y = y' := by
        by_cases z : y < y'
        · exfalso
          by_cases w : x' ≤ y
          · have e := k5 y w z
            rw [h4 y Rat.le_refl h3, sgn_zero.mpr rfl] at e
            exact k0 e.symm
          · have e := k5 x' Rat.le_refl k2
            rw [h4 x' (by grind) (by grind), sgn_zero.mpr rfl] at e
            exact k0 e.symm
        · by_cases z' : y' < y
          · exfalso
            by_cases w : x ≤ y'
            · have e := h5 y' w z'
              rw [k4 y' Rat.le_refl k3, sgn_zero.mpr rfl] at e
              exact h0 e.symm
            · have e := h5 x Rat.le_refl h2
              rw [k4 x (by grind) (by grind), sgn_zero.mpr rfl] at e
              exact h0 e.symm
          · grind
      subst hy
      by_cases w : x ≤ x'
      · rw [← h5 x' w k2, ← k5 x' Rat.le_refl k2]
      · rw [← h5 x Rat.le_refl h2, ← k5 x (by grind) h2]
theorem Bef.here {ps qs : List Kn} {g t : Rat} (hb : beg2 ps qs = t) (hg : gapQ ps qs t = g) : Bef ps qs g t 0 :=
  .inl ⟨rfl, fun s h1 h2 => by rw [show s = t by grind]; exact hg⟩
theorem Bef.same {ps qs : List Kn} {g u t : Rat} {σ : Int} (h : Bef ps qs g u σ) (hut : u ≤ t) (hc : ∀ s, u ≤ s → s ≤ t → gapQ ps qs s = g) : Bef ps qs g t σ := by
  rcases h with ⟨rfl, h⟩ | ⟨h0, x, y, h1, h2, h3, h4, h5⟩
  · refine .inl ⟨rfl, fun s k1 k2 => ?_⟩
    by_cases z : s ≤ u
    · exact h s k1 z
    · exact hc s (by grind) k2
  · refine .inr ⟨h0, x, y, h1, h2, by grind, fun s k1 k2 => ?_, h5⟩
    by_cases z : s ≤ u
    · exact h4 s k1 z
    · exact hc s (by grind) k2
theorem sgn_mul {a b c : Rat} (h : 0 < c) : sgn (b - a * c) b = sgn 0 a := by
  unfold sgn
  by_cases h1 : 0 < a
  · have := Rat.mul_pos h1 h
    rw [if_pos (show b - a * c < b by grind), if_pos h1]
  · by_cases h2 : a < 0
    · have h3 := Rat.mul_pos (show 0 < -a by grind) h
      rw [if_neg (show ¬ b - a * c < b by grind), if_pos (show b < b - a * c by grind), if_neg h1, if_pos h2]
    · have e : a = 0 := by grind
      subst e
      rw [if_neg (by grind), if_neg (by grind), if_neg h1, if_neg h2]
theorem Bef.slope {ps qs : List Kn} {g u t m : Rat} (hb : beg2 ps qs ≤ u) (hut : u < t) (hg : gapQ ps qs t = g) (hm : ∀ s, u ≤ s → s ≤ t → gapQ ps qs s = gapQ ps qs u + m * (s - u)) (h : m ≠ 0) : Bef ps qs g t (sgn 0 m) := by
  refine .inr ⟨fun z => h (sgn_zero.mp z).symm, u, t, hb, hut, Rat.le_refl, fun s h1 h2 => ?_, fun s h1 h2 => ?_⟩
  · rw [show s = t by grind]; exact hg
  · have e1 := hm s h1 (Rat.le_of_lt h2)
    have e2 := hm t (Rat.le_of_lt hut) Rat.le_refl
    rw [hg] at e2
    have e : gapQ ps qs s = g - m * (t - s) := by rw [e1, e2]; grind
    rw [e]
    exact sgn_mul (by grind)
theorem sgn_slope {u t m x : Rat} (hut : u < t) : sgn x (x + m * (t - u)) = sgn 0 m := by
  have h := sgn_mul (a := m) (b := x + m * (t - u)) (c := t - u) (by grind)
  rw [← h]
  congr 1
  grind
/-- one step back -/
theorem Bef.step {ps qs : List Kn} {g u t : Rat} {σ : Int} (hp : KOk ps) (hq : KOk qs) (hb : beg2 ps qs ≤ u) (hut : u < t) (hg : gapQ ps qs t = g) (hno : ∀ x ∈ times ps qs, ¬ (u < x ∧ x < t)) (h : gapQ ps qs u = g → Bef ps qs g u σ) : Bef ps qs g t (if sgn (gapQ ps qs u) g ≠ 0 then sgn (gapQ ps qs u) g else σ) := by
  obtain ⟨m, hm⟩ := gap_straight hp hq (Rat.le_of_lt hut) hno
  have e2 := hm t (Rat.le_of_lt hut) Rat.le_refl
  rw [hg] at e2
  have es : sgn (gapQ ps qs u) g = sgn 0 m := by rw [e2]; exact sgn_slope hut
  by_cases z : m = 0
  · rw [es, z, if_neg (by simp [sgn_zero.mpr])]
    · refine (h (by rw [e2, z]; grind)).same (Rat.le_of_lt hut) fun s h1 h2 => ?_
      rw [hm s h1 h2, e2, z]
      grind
  · rw [es, if_pos fun w => z (sgn_zero.mp w).symm]
    exact Bef.slope hb hut hg hm z
theorem sideB_bef {ps qs : List Kn} {g t : Rat} (hp : KOk ps) (hq : KOk qs) (hb : beg2 ps qs ≤ t) (hg : gapQ ps qs t = g) : Bef ps qs g t (sideB ps qs g t).2 := by
  rw [sideB]
  by_cases h : beg2 ps qs < t
  · rw [dif_pos h]
    have hl := lastT_is ps qs t
    have hlt := hl.lt h
    have := Bef.step (σ := (sideB ps qs g (lastT ps qs t)).2) hp hq hl.ge hlt hg (fun x hx ⟨z1, z2⟩ => by have := hl.up x hx z2; grind) fun e => sideB_bef hp hq hl.ge e
    split
    · rename_i z
      rw [if_pos z] at this
      exact this
    · rename_i z
      rw [if_neg z] at this
      exact this
  · rw [dif_neg h]
    exact Bef.here (by grind) hg
termination_by backN ps qs t
decreasing_by exact back_lt h
theorem first_bef {ps qs : List Kn} {g : Rat} (hp : KOk ps) (hq : KOk qs) : ∀ (l : List Rat) (t : Rat), l.Pairwise (fun a b => b < a) → (∀ x ∈ l, beg2 ps qs ≤ x ∧ x < t) → (∀ x ∈ times ps qs, beg2 ps qs ≤ x → x < t → x ∈ l) → (beg2 ps qs < t → beg2 ps qs ∈ l) → beg2 ps qs ≤ t → gapQ ps qs t = g → Bef ps qs g t (firstQ (fun x => sgn (gapQ ps qs x) g) l)
  | [], t, _, _, _, h4, hb, hg => by
    refine Bef.here ?_ hg
    by_cases z : beg2 ps qs < t
    · cases h4 z
    · grind
  | x :: r, t, h1, h2, h3, h4, hb, hg => by
    obtain ⟨p1, p2⟩ := List.pairwise_cons.mp h1
    obtain ⟨hx1, hx2⟩ := h2 x (List.mem_cons_self ..)
    refine Bef.step hp hq hx1 hx2 hg (fun y hy ⟨z1, z2⟩ => ?_) fun e => ?_
    · rcases List.mem_cons.mp (h3 y hy (by grind) z2) with z | z
      · grind
      · have := p1 y z; grind
    · refine first_bef hp hq r x p2 (fun y hy => ⟨(h2 y (List.mem_cons_of_mem _ hy)).1, p1 y hy⟩) (fun y hy k1 k2 => ?_) (fun k => ?_) hx1 e
      · rcases List.mem_cons.mp (h3 y hy k1 (by grind)) with z | z
        · grind
        · exact z
      · rcases List.mem_cons.mp (h4 (by grind)) with z | z
        · grind
        · exact z
theorem fst0_mem {ps : List Kn} (h : KOk ps) : fst0 ps ∈ ps.map (·.1) := by
  obtain ⟨p, hp⟩ := get_of_lt (l := ps) (i := 0) h.ne
  rw [fst0_at hp]
  exact List.mem_map.mpr ⟨p, List.mem_of_getElem? hp, rfl⟩
theorem beg2_mem {ps qs : List Kn} (hp : KOk ps) (hq : KOk qs) : beg2 ps qs ∈ (ps ++ qs).map (·.1) := by
  rw [List.map_append]
  unfold beg2
  split
  · exact List.mem_append_right _ (fst0_mem hq)
  · exact List.mem_append_left _ (fst0_mem hp)
theorem times_mem {ps qs : List Kn} {x : Rat} (h : x ∈ times ps qs) : x ∈ (ps ++ qs).map (·.1) := by
  obtain ⟨p, hm, rfl⟩ := List.mem_map.mp h
  refine List.mem_map.mpr ⟨p, ?_, rfl⟩
  rcases List.mem_append.mp hm with z | z
  · exact List.mem_append_left _ ((turns_sub ps).subset z)
  · exact List.mem_append_right _ ((turns_sub qs).subset z)
theorem priorQ_mem {ps qs : List Kn} {t x : Rat} : x ∈ priorQ ps qs t ↔ x ∈ (ps ++ qs).map (·.1) ∧ x < t ∧ beg2 ps qs ≤ x := by
  unfold priorQ
  rw [List.mem_filter]
  simp only [Bool.and_eq_true, decide_eq_true_eq, Bool.not_eq_true', decide_eq_false_iff_not]
  constructor
  · rintro ⟨h1, h2, h3⟩
    exact ⟨h1, h2, by grind⟩
  · rintro ⟨h1, h2, h3⟩
    exact ⟨h1, h2, by grind⟩
theorem befQ_bef {ps qs : List Kn} {t : Rat} (hp : KOk ps) (hq : KOk qs) (hb : beg2 ps qs ≤ t) : Bef ps qs (gapQ ps qs t) t (befQ ps qs t) := by
  have hm : ∀ x, x ∈ (sortQ (priorQ ps qs t)).reverse ↔ x ∈ (ps ++ qs).map (·.1) ∧ x < t ∧ beg2 ps qs ≤ x := fun x => by rw [List.mem_reverse, sortQ_mem, priorQ_mem]
  refine first_bef hp hq _ t (List.pairwise_reverse.mpr (sortQ_sorted _)) (fun x hx => ?_) (fun x hx h1 h2 => ?_) (fun h => ?_) hb rfl
  · obtain ⟨_, h1, h2⟩ := (hm x).mp hx
    exact ⟨h2, h1⟩
  · exact (hm x).mpr ⟨times_mem hx, h2, h1⟩
  · exact (hm _).mpr ⟨beg2_mem hp hq, h, Rat.le_refl⟩
theorem befQ_side {ps qs : List Kn} {t : Rat} (hp : KOk ps) (hq : KOk qs) (hb : beg2 ps qs ≤ t) : befQ ps qs t = (sideB ps qs (gapQ ps qs t) t).2 := (befQ_bef hp hq hb).only (sideB_bef hp hq hb rfl)
/-! the side after -/
theorem sideA_move {ps qs : List Kn} {a : Rat} (h : growQ ps qs a ≠ 0) : (sideA ps qs a).2 = sgn (growQ ps qs a) 0 := by
  rw [sideA, if_pos h]
theorem sideA_rest {ps qs : List Kn} {a : Rat} (h : growQ ps qs a = 0) : sideA ps qs a = match nextT ps qs a with | none => (none, 0) | some u => sideA ps qs u := by
  rw [sideA, if_neg (by simp [h])]
  split
  · rename_i e; rw [e]
  · rename_i u e; rw [e]
theorem sideA_same {ps qs : List Kn} {a b : Rat} (hp : KOk ps) (hq : KOk qs) (hb : beg2 ps qs ≤ a) (hab : a < b) (hno : ∀ x ∈ times ps qs, ¬ (a < x ∧ x < b)) (hg : gapQ ps qs b = gapQ ps qs a) : sideA ps qs a = sideA ps qs b := by
  have key : ∀ c, b < c → (∀ x ∈ times ps qs, ¬ (a < x ∧ x < c)) → growQ ps qs b = 0 := fun c hbc hc => by
    obtain ⟨m, hm⟩ := gap_straight hp hq (show a ≤ c by grind) hc
    have e1 := hm b (by grind) (by grind)
    have hm0 : m = 0 := by
      have : m * (b - a) = 0 := by grind
      rcases Rat.mul_eq_zero.mp this with z | z
      · exact z
      · grind
    refine grow_of hp hq (b := c) (by grind) hbc fun s h1 h2 => ?_
    rw [hm s (by grind) h2, hg, hm0]
    grind
  have hga : growQ ps qs a = 0 := by
    obtain ⟨m, hm⟩ := gap_straight hp hq (Rat.le_of_lt hab) hno
    have e1 := hm b (by grind) Rat.le_refl
    have hm0 : m = 0 := by
      have : m * (b - a) = 0 := by grind
      rcases Rat.mul_eq_zero.mp this with z | z
      · exact z
      · grind
    rw [grow_of hp hq hb hab hm, hm0]
  have na := nextT_is ps qs a
  have nb := nextT_is ps qs b
  rw [sideA_rest hga]
  cases e : nextT ps qs a with
  | none =>
    rw [e] at na
    have hgb := key (b + 1) (by grind) fun x hx z => na x hx z.1
    have eb : nextT ps qs b = none := by
      cases f : nextT ps qs b with
      | none => rfl
      | some w =>
        rw [f] at nb
        exact absurd (show a < w by have := nb.2.1; grind) (na w nb.1)
    rw [sideA_rest hgb, eb]
  | some w =>
    rw [e] at na
    obtain ⟨w1, w2, w3⟩ := na
    have hwb : b ≤ w := by
      by_cases z : w < b
      · exact absurd ⟨w2, z⟩ (hno w w1)
      · grind
    by_cases z : w = b
    · subst z; rfl
    · have hgb := key w (by grind) fun x hx q => by have := w3 x hx q.1; grind
      have eb : nextT ps qs b = some w := by
        cases f : nextT ps qs b with
        | none =>
          rw [f] at nb
          exact absurd (show b < w by grind) (nb w w1)
        | some v =>
          rw [f] at nb
          have h1 := nb.2.2 w w1 (by grind)
          have h2 := w3 v nb.1 (by have := nb.2.1; grind)
          congr 1
          grind
      rw [sideA_rest hgb, eb]
/-! one straight piece -/
theorem marks_ge {L : Option Int} {a b : Rat} (hL : ∀ l, L = some l → 1 ≤ l) (hab : a < b) : 0 ≤ marksQ L a b := by
  cases L with
  | none =>
    show 0 ≤ (if a < 0 ∧ 0 < b then (1 : Int) else 0)
    split <;> decide
  | some l =>
    have hl := hL l rfl
    have hl0 : (0 : Rat) < (l : Rat) := by exact_mod_cast (show 0 < l by omega)
    show 0 ≤ -((-b) / (l : Rat)).floor - (a / (l : Rat)).floor - 1
    have h1 := Rat.floor_le (-b / (l : Rat))
    have h2 := Rat.floor_le (a / (l : Rat))
    have h3 : -b / (l : Rat) + a / (l : Rat) < 0 := by
      have e : -b / (l : Rat) + a / (l : Rat) = -((b - a) * (l : Rat)⁻¹) := by grind
      rw [e]
      have := Rat.mul_pos (show 0 < b - a by grind) (Rat.inv_pos.mpr hl0)
      grind
    have h4 : ((((-b / (l : Rat)).floor + (a / (l : Rat)).floor : Int)) : Rat) < ((0 : Int) : Rat) := by
      rw [Rat.intCast_add]
      have : ((0 : Int) : Rat) = 0 := rfl
      grind
    have h5 : (-b / (l : Rat)).floor + (a / (l : Rat)).floor < 0 := by exact_mod_cast h4
    omega
open Classical in
noncomputable def manyQ (L : Option Int) (ps qs : List Kn) (a b : Rat) : Int :=
  (if 0 < sgn (gapQ ps qs b) (gapQ ps qs a) then marksQ L (gapQ ps qs a) (gapQ ps qs b) else marksQ L (gapQ ps qs b) (gapQ ps qs a)) + (if onTrack L (gapQ ps qs a) ∧ befQ ps qs a = 0 - sgn (gapQ ps qs b) (gapQ ps qs a) then 1 else 0)
noncomputable def pieceQ (L : Option Int) (ps qs : List Kn) (a b : Rat) : Int × Int :=
  if sgn (gapQ ps qs b) (gapQ ps qs a) = 0 then (0, 0) else if sgn (gapQ ps qs b) (gapQ ps qs a) < 0 then (0, manyQ L ps qs a b) else (manyQ L ps qs a b, 0)
theorem lbQ_on {L : Option Int} {ps qs : List Kn} {t : Rat} (h : onTrack L (gapQ ps qs t)) : lbQ L ps qs t = lapsQ L (gapQ ps qs t) - (if (if (sideB ps qs (gapQ ps qs t) t).2 = 0 then (sideA ps qs t).2 else (sideB ps qs (gapQ ps qs t) t).2) < 0 then 1 else 0) := if_pos h
theorem sgn_cases (a b : Rat) : (sgn a b = 0 ∧ a = b) ∨ (sgn a b = 1 ∧ b < a) ∨ (sgn a b = -1 ∧ a < b) := by
  unfold sgn
  by_cases h1 : a < b
  · exact .inr (.inr ⟨if_pos h1, h1⟩)
  · by_cases h2 : b < a
    · rw [if_neg h1, if_pos h2]; exact .inr (.inl ⟨rfl, h2⟩)
    · rw [if_neg h1, if_neg h2]; exact .inl ⟨rfl, by grind⟩
open Classical in
theorem piece_eq {L : Option Int} {ps qs : List Kn} {a b : Rat} (hL : ∀ l, L = some l → 1 ≤ l) (hp : KOk ps) (hq : KOk qs) (hb : beg2 ps qs ≤ a) (hab : a < b) (hno : ∀ x ∈ times ps qs, ¬ (a < x ∧ x < b)) : pieceQ L ps qs a b = (max 0 (lbQ L ps qs b - lbQ L ps qs a), max 0 (0 - (lbQ L ps qs b - lbQ L ps qs a))) ∧ ((0 ≤ sgn (gapQ ps qs b) (gapQ ps qs a) → lbQ L ps qs a ≤ lbQ L ps qs b) ∧ (sgn (gapQ ps qs b) (gapQ ps qs a) ≤ 0 → lbQ L ps qs b ≤ lbQ L ps qs a)) := by
  obtain ⟨m, hm⟩ := gap_straight hp hq (Rat.le_of_lt hab) hno
  have e2 := hm b (Rat.le_of_lt hab) Rat.le_refl
  have hgr := grow_of hp hq hb hab hm
  have hba := befQ_side hp hq hb
  have hAa := befQ_bef hp hq hb
  have hBb := sideB_bef (t := b) hp hq (by grind) rfl
  have es : sgn (gapQ ps qs a) (gapQ ps qs b) = sgn 0 m := by rw [e2]; exact sgn_slope hab
  rcases sgn_cases (gapQ ps qs b) (gapQ ps qs a) with ⟨hs, hg⟩ | ⟨hs, hg⟩ | ⟨hs, hg⟩
  · have hm0 : m = 0 := by
      have : m * (b - a) = 0 := by grind
      rcases Rat.mul_eq_zero.mp this with z | z
      · exact z
      · grind
    have hlb : lbQ L ps qs b = lbQ L ps qs a := by
      by_cases on : onTrack L (gapQ ps qs a)
      · rw [lbQ_on on, lbQ_on (by rw [hg]; exact on), ← sideA_same hp hq hb hab hno hg, ← hba]
        have : (sideB ps qs (gapQ ps qs b) b).2 = befQ ps qs a := by
          rw [hg] at hBb ⊢
          refine hBb.only (hAa.same (Rat.le_of_lt hab) fun s h1 h2 => ?_)
          rw [hm s h1 h2, hm0]
          grind
        rw [this, hg]
      · rw [lbQ_apart on, lbQ_apart (by rw [hg]; exact on), hg]
    refine ⟨?_, fun _ => by omega, fun _ => by omega⟩
    unfold pieceQ
    rw [if_pos hs, hlb]
    refine Prod.ext ?_ ?_
    · dsimp only; omega
    · dsimp only; omega
  · have hm0 : 0 < m := by
      by_cases z : 0 < m
      · exact z
      · have := Rat.mul_nonneg (show 0 ≤ -m by grind) (show 0 ≤ b - a by grind)
        grind
    have hsb : (sideB ps qs (gapQ ps qs b) b).2 = -1 := by
      refine hBb.only ?_
      have := Bef.slope hb hab rfl hm (by grind)
      rwa [show sgn 0 m = -1 from if_pos hm0] at this
    have hlb : lbQ L ps qs b = marksQ L (gapQ ps qs a) (gapQ ps qs b) + lapsQ L (gapQ ps qs a) := by
      by_cases on : onTrack L (gapQ ps qs b)
      · rw [lbQ_on on, hsb, marks_on hL hg on]
        simp
        omega
      · rw [lbQ_apart on, marks_off hL hg on]; omega
    have hk := marks_ge hL hg
    have hla : lbQ L ps qs a = lapsQ L (gapQ ps qs a) - (if onTrack L (gapQ ps qs a) ∧ befQ ps qs a = -1 then 1 else 0) := by
      by_cases on : onTrack L (gapQ ps qs a)
      · rw [lbQ_on on, ← hba]
        congr 1
        by_cases z : befQ ps qs a = 0
        · rw [if_pos z, sideA_move (by grind), hgr, z]
          rw [show sgn m 0 = 1 by unfold sgn; rw [if_neg (by grind), if_pos hm0]]
          simp
        · rw [if_neg z]
          simp only [on, true_and]
          have hc : befQ ps qs a < 0 ↔ befQ ps qs a = -1 := by
            constructor
            · intro h
              rcases hAa with ⟨h0, _⟩ | ⟨_, x, y, _, h2, _, _, h5⟩
              · omega
              · have := h5 x Rat.le_refl h2
                rcases sgn_cases (gapQ ps qs x) (gapQ ps qs a) with ⟨q, _⟩ | ⟨q, _⟩ | ⟨q, _⟩ <;> omega
            · intro h; omega
          simp only [hc]
      · rw [lbQ_apart on]
        simp [on]
    have hmany : manyQ L ps qs a b = lbQ L ps qs b - lbQ L ps qs a := by
      unfold manyQ
      rw [hs, if_pos (by decide), hlb, hla]
      simp only [show (0 : Int) - 1 = -1 from rfl]
      omega
    have hpos : 0 ≤ lbQ L ps qs b - lbQ L ps qs a := by
      rw [hlb, hla]
      split <;> omega
    refine ⟨?_, fun _ => by omega, fun z => by omega⟩
    unfold pieceQ
    rw [hs, if_neg (by decide), if_neg (by decide), hmany]
    refine Prod.ext ?_ ?_
    · dsimp only; omega
    · dsimp only; omega
  · have hm0 : m < 0 := by
      by_cases z : m < 0
      · exact z
      · have := Rat.mul_nonneg (show 0 ≤ m by grind) (show 0 ≤ b - a by grind)
        grind
    have hsb : (sideB ps qs (gapQ ps qs b) b).2 = 1 := by
      refine hBb.only ?_
      have := Bef.slope hb hab rfl hm (by grind)
      rwa [show sgn 0 m = 1 by unfold sgn; rw [if_neg (by grind), if_pos hm0]] at this
    have hlb : lbQ L ps qs b = lapsQ L (gapQ ps qs b) := by
      by_cases on : onTrack L (gapQ ps qs b)
      · rw [lbQ_on on, hsb]
        simp
      · rw [lbQ_apart on]
    have hk := marks_ge hL hg
    have hla : lbQ L ps qs a = marksQ L (gapQ ps qs b) (gapQ ps qs a) + lapsQ L (gapQ ps qs b) + (if onTrack L (gapQ ps qs a) ∧ befQ ps qs a = 1 then 1 else 0) := by
      by_cases on : onTrack L (gapQ ps qs a)
      · rw [lbQ_on on, ← hba, marks_on hL hg on]
        by_cases z : befQ ps qs a = 0
        · rw [if_pos z, sideA_move (by grind), hgr, z]
          rw [show sgn m 0 = -1 by unfold sgn; rw [if_pos hm0]]
          simp
          omega
        · rw [if_neg z]
          simp only [on, true_and]
          have hc : befQ ps qs a = 1 ∨ befQ ps qs a = -1 := by
            rcases hAa with ⟨h0, _⟩ | ⟨_, x, y, _, h2, _, _, h5⟩
            · omega
            · have := h5 x Rat.le_refl h2
              rcases sgn_cases (gapQ ps qs x) (gapQ ps qs a) with ⟨q, _⟩ | ⟨q, _⟩ | ⟨q, _⟩ <;> omega
          rcases hc with hc | hc
          · rw [hc]; simp; omega
          · rw [hc]; simp; omega
      · rw [lbQ_apart on, marks_off hL hg on]
        simp [on]
    have hmany : manyQ L ps qs a b = lbQ L ps qs a - lbQ L ps qs b := by
      unfold manyQ
      rw [hs, if_neg (by decide), hlb, hla]
      simp only [show (0 : Int) - -1 = 1 from rfl]
      omega
    have hpos : 0 ≤ lbQ L ps qs a - lbQ L ps qs b := by
      rw [hlb, hla]
      split <;> omega
    refine ⟨?_, fun z => by omega, fun _ => by omega⟩
    unfold pieceQ
    rw [hs, if_neg (by decide), if_pos (by decide), hmany]
    refine Prod.ext ?_ ?_
    · dsimp only; omega
    · dsimp only; omega
/-! the pieces of a span -/
theorem sgn_straight {x m a b : Rat} (hab : a < b) : sgn (x + m * (b - a)) x = sgn m 0 := by
  have := sgn_slope (u := a) (t := b) (m := m) (x := x) hab
  rcases sgn_cases (x + m * (b - a)) x with ⟨q, h⟩ | ⟨q, h⟩ | ⟨q, h⟩
  · rw [q]
    have : m * (b - a) = 0 := by grind
    rcases Rat.mul_eq_zero.mp this with z | z
    · rw [z]; rfl
    · grind
  · rw [q]
    by_cases z : 0 < m
    · unfold sgn; rw [if_neg (by grind), if_pos z]
    · have := Rat.mul_nonneg (show 0 ≤ -m by grind) (show 0 ≤ b - a by grind)
      grind
  · rw [q]
    by_cases z : m < 0
    · unfold sgn; rw [if_pos z]
    · have := Rat.mul_nonneg (show 0 ≤ m by grind) (show 0 ≤ b - a by grind)
      grind
theorem cc_step {L : Option Int} {ps qs : List Kn} {a b u : Rat} (hL : ∀ l, L = some l → 1 ≤ l) (hp : KOk ps) (hq : KOk qs) (hb : beg2 ps qs ≤ a) (hab : a < b) (hbu : b ≤ u) (hno : ∀ x ∈ times ps qs, ¬ (a < x ∧ x < b)) : ccQ L ps qs u a = ((pieceQ L ps qs a b).1 + (ccQ L ps qs u b).1, (pieceQ L ps qs a b).2 + (ccQ L ps qs u b).2) := by
  have hau : a < u := by grind
  have na := nextT_is ps qs a
  obtain ⟨w1, w2⟩ := until_lt (ps := ps) (qs := qs) hau
  have hw : ∀ x ∈ times ps qs, ¬ (a < x ∧ x < untilT ps qs u a) := fun x hx ⟨z1, z2⟩ => by
    unfold untilT at z2
    cases e : nextT ps qs a with
    | none => rw [e] at na; exact na x hx z1
    | some w =>
      rw [e] at na z2
      have := na.2.2 x hx z1
      dsimp only at z2
      split at z2 <;> grind
  have hbw : b ≤ untilT ps qs u a := by
    unfold untilT
    cases e : nextT ps qs a with
    | none => exact hbu
    | some w =>
      rw [e] at na
      show b ≤ if u < w then u else w
      split
      · exact hbu
      · by_cases z : w < b
        · exact absurd ⟨na.2.1, z⟩ (hno w na.1)
        · grind
  obtain ⟨e1, m1, m2⟩ := piece_eq (L := L) hL hp hq hb hab hno
  rw [e1, ccQ.eq_1 L ps qs u a, dif_pos hau]
  by_cases z : b = untilT ps qs u a
  · rw [← z]
  · have hbw' : b < untilT ps qs u a := by grind
    have hbu' : b < u := by grind
    have nb := nextT_is ps qs b
    have eb : untilT ps qs u b = untilT ps qs u a := by
      have en : nextT ps qs b = nextT ps qs a := by
        refine nb.only ?_ (fun x => Iff.rfl)
        cases e : nextT ps qs a with
        | none =>
          rw [e] at na
          exact fun x hx h => na x hx (by grind)
        | some w =>
          rw [e] at na
          have hbw2 : b < w := by
            unfold untilT at hbw'
            rw [e] at hbw'
            dsimp only at hbw'
            split at hbw' <;> grind
          exact ⟨na.1, hbw2, fun x hx h => na.2.2 x hx (by grind)⟩
      unfold untilT
      rw [en]
    obtain ⟨_, k1, k2⟩ := piece_eq (L := L) hL hp hq (a := b) (b := untilT ps qs u a) (by grind) hbw' fun x hx ⟨q1, q2⟩ => hw x hx ⟨by grind, q2⟩
    obtain ⟨m, hm⟩ := gap_straight hp hq (Rat.le_of_lt w1) hw
    have s1 : sgn (gapQ ps qs b) (gapQ ps qs a) = sgn m 0 := by rw [hm b (by grind) hbw]; exact sgn_straight hab
    have s2 : sgn (gapQ ps qs (untilT ps qs u a)) (gapQ ps qs b) = sgn m 0 := by
      have : gapQ ps qs (untilT ps qs u a) = gapQ ps qs b + m * (untilT ps qs u a - b) := by
        rw [hm b (by grind) hbw, hm _ (Rat.le_of_lt w1) Rat.le_refl]
        grind
      rw [this]
      exact sgn_straight hbw'
    rw [s1] at m1 m2
    rw [s2] at k1 k2
    rw [ccQ.eq_1 L ps qs u b, dif_pos hbu', eb]
    generalize sgn m 0 = σ at *
    generalize lbQ L ps qs (untilT ps qs u a) = x at *
    generalize lbQ L ps qs b = y at *
    generalize lbQ L ps qs a = w at *
    have : (w ≤ y ∧ y ≤ x) ∨ (y ≤ w ∧ x ≤ y) := by
      rcases Int.le_total 0 σ with h | h
      · exact .inl ⟨m1 h, k1 h⟩
      · exact .inr ⟨m2 h, k2 h⟩
    refine Prod.ext ?_ ?_
    · dsimp only; omega
    · dsimp only; omega
noncomputable def cntsQ (L : Option Int) (ps qs : List Kn) : List Rat → Int × Int
  | a :: b :: r => ((pieceQ L ps qs a b).1 + (cntsQ L ps qs (b :: r)).1, (pieceQ L ps qs a b).2 + (cntsQ L ps qs (b :: r)).2)
  | _ => (0, 0)
theorem cnts_cc {L : Option Int} {ps qs : List Kn} {u : Rat} (hL : ∀ l, L = some l → 1 ≤ l) (hp : KOk ps) (hq : KOk qs) : ∀ (l : List Rat) (a : Rat), (a :: l).Pairwise (· < ·) → beg2 ps qs ≤ a → (∀ x ∈ times ps qs, a < x → x < u → x ∈ l) → (∀ x ∈ l, x ≤ u) → (a < u → u ∈ l) → a ≤ u → cntsQ L ps qs (a :: l) = ccQ L ps qs u a
  | [], a, _, _, _, _, h3, h4 => by
    have e : ¬ a < u := fun z => by cases h3 z
    rw [ccQ, dif_neg e]
    rfl
  | b :: r, a, h0, hb, h1, h2, h3, h4 => by
    obtain ⟨p1, p2⟩ := List.pairwise_cons.mp h0
    obtain ⟨p3, p4⟩ := List.pairwise_cons.mp p2
    have hab := p1 b (List.mem_cons_self ..)
    have hbu := h2 b (List.mem_cons_self ..)
    have hno : ∀ x ∈ times ps qs, ¬ (a < x ∧ x < b) := fun x hx ⟨z1, z2⟩ => by
      rcases List.mem_cons.mp (h1 x hx z1 (by grind)) with z | z
      · grind
      · have := p3 x z; grind
    rw [cc_step hL hp hq hb hab hbu hno, ← cnts_cc hL hp hq r b p2 (by grind) (fun x hx z1 z2 => ?_) (fun x hx => h2 x (List.mem_cons_of_mem _ hx)) (fun z => ?_) hbu]
    · rfl
    · rcases List.mem_cons.mp (h1 x hx (by grind) z2) with z | z
      · grind
      · exact z
    · rcases List.mem_cons.mp (h3 (by grind)) with q | q
      · grind
      · exact q
theorem ccQ_bound {L : Option Int} {ps qs : List Kn} {u t : Rat} {M : Nat} (h : ∀ s, t ≤ s → s ≤ u → (s = t ∨ s = u ∨ s ∈ times ps qs) → (lbQ L ps qs s).natAbs ≤ M) : (ccQ L ps qs u t).1.natAbs ≤ 2 * M * (cntG (times ps qs) t + (if t < u then 1 else 0)) ∧ (ccQ L ps qs u t).2.natAbs ≤ 2 * M * (cntG (times ps qs) t + (if t < u then 1 else 0)) := by
  rw [ccQ]
  by_cases hlt : t < u
  · rw [dif_pos hlt, if_pos hlt]
    obtain ⟨h1, h2⟩ := until_lt (ps := ps) (qs := qs) hlt
    have hc := until_cnt (ps := ps) (qs := qs) hlt
    have hw : untilT ps qs u t = u ∨ untilT ps qs u t ∈ times ps qs := by
      have hn := nextT_is ps qs t
      unfold untilT
      cases e : nextT ps qs t with
      | none => exact .inl rfl
      | some w =>
        rw [e] at hn
        show (if u < w then u else w) = u ∨ (if u < w then u else w) ∈ _
        split
        · exact .inl rfl
        · exact .inr hn.1
    obtain ⟨i1, i2⟩ := ccQ_bound (L := L) (ps := ps) (qs := qs) (u := u) (t := untilT ps qs u t) (M := M) fun s k1 k2 k3 => by
      refine h s (by grind) k2 ?_
      rcases k3 with z | z | z
      · rcases hw with w | w
        · exact .inr (.inl (z.trans w))
        · exact .inr (.inr (z ▸ w))
      · exact .inr (.inl z)
      · exact .inr (.inr z)
    have a1 := h t Rat.le_refl (Rat.le_of_lt hlt) (.inl rfl)
    have a2 := h (untilT ps qs u t) (Rat.le_of_lt h1) h2 (.inr hw)
    have hm : 2 * M * (cntG (times ps qs) (untilT ps qs u t) + (if untilT ps qs u t < u then 1 else 0)) + 2 * M ≤ 2 * M * (cntG (times ps qs) t + 1) := by
      rw [← Nat.mul_succ]
      exact Nat.mul_le_mul_left _ hc
    dsimp only
    generalize 2 * M * (cntG (times ps qs) (untilT ps qs u t) + (if untilT ps qs u t < u then 1 else 0)) = X at *
    generalize 2 * M * (cntG (times ps qs) t + 1) = Y at *
    omega
  · rw [dif_neg hlt]
    exact ⟨Nat.zero_le _, Nat.zero_le _⟩
termination_by cntG (times ps qs) t + if t < u then 1 else 0
decreasing_by all_goals (rw [if_pos hlt]; exact until_cnt hlt)
theorem cntG_len (l : List Rat) (t : Rat) : cntG l t ≤ l.length := List.length_filter_le _ _
theorem times_len (ps qs : List Kn) : (times ps qs).length ≤ ps.length + qs.length := by
  unfold times
  rw [List.length_map, List.length_append]
  have := (turns_sub ps).length_le
  have := (turns_sub qs).length_le
  omega
theorem lbQ_bound {L : Option Int} {ps qs : List Kn} {t : Rat} {M : Nat} (h : (lapsQ L (gapQ ps qs t)).natAbs ≤ M) : (lbQ L ps qs t).natAbs ≤ M + 1 := by
  by_cases on : onTrack L (gapQ ps qs t)
  · rw [lbQ_on on]
    split <;> omega
  · rw [lbQ_apart on]; omega
/-! two timetables of the same times -/
structure KTw (ps qs : List Kn) : Prop where
  p : KS ps
  q : KS qs
  sp : ∀ k ∈ ps, Fit 20 k.1 ∧ Fit 140 k.2
  sq : ∀ k ∈ qs, Fit 20 k.1 ∧ Fit 280 k.2
  gp : ∀ k ∈ ps ++ qs, beg2 ps qs ≤ k.1 → Fit 140 (gapQ ps qs k.1)
  lp : ps.length ≤ 40
  lq : qs.length ≤ 40
theorem KTw.len {ps qs : List Kn} (h : KTw ps qs) : ps.length + qs.length ≤ 80 := by
  have := h.lp
  have := h.lq
  omega
theorem KTw.gap {ps qs : List Kn} {t : Rat} (h : KTw ps qs) (hb : beg2 ps qs ≤ t) (ht : Fit 655 t) : Fit 2700 (gapQ ps qs t) := by
  obtain ⟨l1, l2⟩ := beg2_late hb
  exact ((posQ_fitP h.p.ok l1 h.sp ht).sub (posQ_fitP h.q.ok l2 h.sq ht)).mono (by decide)
theorem KTw.beg {ps qs : List Kn} (h : KTw ps qs) : Fit 20 (beg2 ps qs) := by
  obtain ⟨k, hk, e⟩ := List.mem_map.mp (beg2_mem h.p.ok h.q.ok)
  rw [← e]
  rcases List.mem_append.mp hk with z | z
  · exact (h.sp k z).1
  · exact (h.sq k z).1
theorem KTw.time {ps qs : List Kn} (h : KTw ps qs) {x : Rat} (hx : x ∈ (ps ++ qs).map (·.1)) : Fit 20 x := by
  obtain ⟨k, hk, rfl⟩ := List.mem_map.mp hx
  rcases List.mem_append.mp hk with z | z
  · exact (h.sp k z).1
  · exact (h.sq k z).1
theorem KTw.knot {ps qs : List Kn} (h : KTw ps qs) {x : Rat} (hx : x ∈ (ps ++ qs).map (·.1)) (hb : beg2 ps qs ≤ x) : Fit 140 (gapQ ps qs x) := by
  obtain ⟨k, hk, rfl⟩ := List.mem_map.mp hx
  exact h.gp k hk hb
theorem KTw.count {L : Option Int} {ps qs : List Kn} {t u : Rat} (hL : ∀ l, L = some l → 1 ≤ l) (h : KTw ps qs) (hb : beg2 ps qs ≤ t) (ht : Fit 655 t) (hu : Fit 655 u) : (ccQ L ps qs u t).1.natAbs < 2 ^ 1900 ∧ (ccQ L ps qs u t).2.natAbs < 2 ^ 1900 := by
  have hM : ∀ s, t ≤ s → s ≤ u → (s = t ∨ s = u ∨ s ∈ times ps qs) → (lbQ L ps qs s).natAbs ≤ 2 ^ 1701 + 1 := fun s h1 h2 h3 => by
    have fs : Fit 655 s := by
      rcases h3 with rfl | rfl | z
      · exact ht
      · exact hu
      · exact (h.time (times_mem z)).mono (by decide)
    have hbs : beg2 ps qs ≤ s := by grind
    obtain ⟨l1, l2⟩ := beg2_late hbs
    have f1 := (posQ_fitP h.p.ok l1 h.sp fs).mono (l := 1700) (by decide)
    have f2 := (posQ_fitP h.q.ok l2 h.sq fs).mono (l := 1700) (by decide)
    refine lbQ_bound ?_
    have e1 := absQ_both f1.abs_le
    have e2 := absQ_both f2.abs_le
    have hN : (1 : Int) ≤ ((2 ^ 1701 : Nat) : Int) := by exact_mod_cast Nat.one_le_two_pow
    have hh : absQ (gapQ ps qs s) ≤ ((((2 ^ 1701 : Nat) : Int)) : Rat) := by
      have e3 : ((((2 ^ 1701 : Nat) : Int)) : Rat) = ((2 ^ 1700 : Nat) : Rat) + ((2 ^ 1700 : Nat) : Rat) := two_pow_succ 1700
      rw [e3]
      unfold absQ gapQ
      split <;> grind
    have := laps_bound hL hN hh
    rwa [Int.natAbs_natCast] at this
  obtain ⟨c1, c2⟩ := ccQ_bound (L := L) (ps := ps) (qs := qs) hM
  have hc : cntG (times ps qs) t + (if t < u then 1 else 0) ≤ 81 := by
    have := cntG_len (times ps qs) t
    have := times_len ps qs
    have := h.len
    split <;> omega
  have hb : 2 * (2 ^ 1701 + 1) * (cntG (times ps qs) t + (if t < u then 1 else 0)) < 2 ^ 1900 := Nat.lt_of_le_of_lt (Nat.mul_le_mul_left _ hc) (by decide +kernel)
  exact ⟨Nat.lt_of_le_of_lt c1 hb, Nat.lt_of_le_of_lt c2 hb⟩
/-! neighbours in a list of times -/
theorem nbF_get {l : List Rat} {i : Nat} {d : D} (h : (zipD (l.map fr) (cutD (l.map fr) (some 1) none))[i]? = some d) (hl : 0 < l.length) : ∃ x y, l[i]? = some x ∧ l[i + 1]? = some y ∧ d = .tup [fr x, fr y] := by
  have e : cutD (l.map fr) (some 1) none = (l.drop 1).map fr := by
    unfold cutD
    have h1 : HT.sIx (l.map fr).length 0 (some 1) = 1 := by
      unfold HT.sIx
      simp
      omega
    have h2 : HT.sIx (l.map fr).length (l.map fr).length none = l.length := by
      unfold HT.sIx
      simp
    rw [h1, h2, List.take_of_length_le (by rw [List.length_drop, List.length_map]; exact Nat.le_refl _), List.map_drop]
  rw [e] at h
  unfold zipD at h
  rw [List.getElem?_zipWith, List.getElem?_map, List.getElem?_map, List.getElem?_drop] at h
  cases h1 : l[i]? with
  | none => rw [h1] at h; cases h
  | some x =>
    cases h2 : l[1 + i]? with
    | none => rw [h1, h2] at h; cases h
    | some y =>
      rw [h1, h2] at h
      refine ⟨x, y, rfl, ?_, ?_⟩
      · rw [Nat.add_comm]; exact h2
      · simpa using h.symm
theorem nbF_len {l : List Rat} (hl : 0 < l.length) : (zipD (l.map fr) (cutD (l.map fr) (some 1) none)).length = l.length - 1 := by
  have e : cutD (l.map fr) (some 1) none = (l.drop 1).map fr := by
    unfold cutD
    have h1 : HT.sIx (l.map fr).length 0 (some 1) = 1 := by
      unfold HT.sIx
      simp
      omega
    have h2 : HT.sIx (l.map fr).length (l.map fr).length none = l.length := by
      unfold HT.sIx
      simp
    rw [h1, h2, List.take_of_length_le (by rw [List.length_drop, List.length_map]; exact Nat.le_refl _), List.map_drop]
  rw [e, zipD_len, List.length_map, List.length_map, List.length_drop]
  omega
theorem cnts_drop {L : Option Int} {ps qs : List Kn} {l : List Rat} {i : Nat} {x y : Rat} (hx : l[i]? = some x) (hy : l[i + 1]? = some y) : cntsQ L ps qs (l.drop i) = ((pieceQ L ps qs x y).1 + (cntsQ L ps qs (l.drop (i + 1))).1, (pieceQ L ps qs x y).2 + (cntsQ L ps qs (l.drop (i + 1))).2) := by
  obtain ⟨h1, e1⟩ := List.getElem?_eq_some_iff.mp hx
  obtain ⟨h2, e2⟩ := List.getElem?_eq_some_iff.mp hy
  rw [List.drop_eq_getElem_cons h1, List.drop_eq_getElem_cons h2, e1, e2]
  rfl
theorem cnts_end {L : Option Int} {ps qs : List Kn} {l : List Rat} {i : Nat} (h : l.length ≤ i + 1) : cntsQ L ps qs (l.drop i) = (0, 0) := by
  have hl : (l.drop i).length ≤ 1 := by rw [List.length_drop]; omega
  match l.drop i, hl with
  | [], _ => rfl
  | [x], _ => rfl
theorem pw_get {l : List Rat} (h : l.Pairwise (· < ·)) {i : Nat} {x y : Rat} (hx : l[i]? = some x) (hy : l[i + 1]? = some y) : x < y := by
  obtain ⟨h1, e1⟩ := List.getElem?_eq_some_iff.mp hx
  obtain ⟨h2, e2⟩ := List.getElem?_eq_some_iff.mp hy
  rw [← e1, ← e2]
  exact List.pairwise_iff_getElem.mp h i (i + 1) h1 h2 (by omega)
/-- the law's times are the turns of a span -/
theorem span_cc {L : Option Int} {ps qs : List Kn} {t u : Rat} {all : List Rat} (hL : ∀ l, L = some l → 1 ≤ l) (hp : KOk ps) (hq : KOk qs) (hb : beg2 ps qs ≤ t) (htu : t ≤ u) (h : ∀ x, x ∈ all ↔ x = t ∨ x = u ∨ (x ∈ (ps ++ qs).map (·.1) ∧ t < x ∧ x < u)) : cntsQ L ps qs (sortQ all) = ccQ L ps qs u t ∧ 0 < (sortQ all).length ∧ ∀ x ∈ sortQ all, t ≤ x ∧ x ≤ u := by
  have hm : ∀ x, x ∈ sortQ all ↔ x = t ∨ x = u ∨ (x ∈ (ps ++ qs).map (·.1) ∧ t < x ∧ x < u) := fun x => by rw [sortQ_mem]; exact h x
  have hs := sortQ_sorted all
  have hbd : ∀ x ∈ sortQ all, t ≤ x ∧ x ≤ u := fun x hx => by
    rcases (hm x).mp hx with rfl | rfl | ⟨_, h1, h2⟩
    · exact ⟨Rat.le_refl, htu⟩
    · exact ⟨htu, Rat.le_refl⟩
    · exact ⟨by grind, by grind⟩
  cases e : sortQ all with
  | nil =>
    have := (hm t).mpr (.inl rfl)
    rw [e] at this
    cases this
  | cons a r =>
    rw [e] at hs hm hbd
    obtain ⟨p1, p2⟩ := List.pairwise_cons.mp hs
    have ea : a = t := by
      have h1 := (hbd a (List.mem_cons_self ..)).1
      rcases List.mem_cons.mp ((hm t).mpr (.inl rfl)) with z | z
      · exact z.symm
      · have := p1 t z; grind
    subst ea
    refine ⟨cnts_cc hL hp hq r a hs hb (fun x hx h1 h2 => ?_) (fun x hx => (hbd x (List.mem_cons_of_mem _ hx)).2) (fun z => ?_) htu, by rw [List.length_cons]; omega, hbd⟩
    · rcases List.mem_cons.mp ((hm x).mpr (.inr (.inr ⟨times_mem hx, h1, h2⟩))) with z | z
      · grind
      · exact z
    · rcases List.mem_cons.mp ((hm u).mpr (.inr (.inl rfl))) with q | q
      · grind
      · exact q
@[reducible] def pairK (ps qs : List Kn) : D := .lst [.lst (knL ps), .lst (knL qs)]
/-! two timetables of common times, one of them cut -/
def kA (x : Rat × Rat × Rat) : Kn := (x.1, x.2.1)
def kB (x : Rat × Rat × Rat) : Kn := (x.1, x.2.1 - x.2.2)
theorem asc_lt2 {ps : List Kn} {i j : Nat} {a b : Kn} (h : asc ps) (hij : i < j) (h1 : ps[i]? = some a) (h2 : ps[j]? = some b) : a.1 < b.1 := by
  have hj := (List.getElem?_eq_some_iff.mp h2).1
  obtain ⟨m, hm⟩ := get_of_lt (l := ps) (i := i + 1) (by omega)
  have e1 := asc_lt h h1 hm
  have e2 := asc_le h (show i + 1 ≤ j by omega) hm h2
  grind
theorem asc_kB : ∀ {P : List (Rat × Rat × Rat)}, asc (P.map kA) → asc (P.map kB)
  | [], _ => trivial
  | [_], _ => trivial
  | x :: y :: r, h => ⟨h.1, asc_kB (P := y :: r) h.2⟩
theorem twin {P : List (Rat × Rat × Rat)} {c d : Nat} (hc : c < P.length) (hd : d < P.length) (hl : P.length ≤ 40) (ha : asc (P.map kA)) (hf : ∀ x ∈ P, Fit 20 x.1 ∧ Fit 134 x.2.1 ∧ Fit 140 x.2.2) : KTw ((P.drop c).map kA) ((P.drop d).map kB) := by
  have hA : ∀ k ∈ (P.drop c).map kA, ∃ x ∈ P, k = kA x := fun k hk => by
    obtain ⟨x, hx, rfl⟩ := List.mem_map.mp hk
    exact ⟨x, List.mem_of_mem_drop hx, rfl⟩
  have hB : ∀ k ∈ (P.drop d).map kB, ∃ x ∈ P, k = kB x := fun k hk => by
    obtain ⟨x, hx, rfl⟩ := List.mem_map.mp hk
    exact ⟨x, List.mem_of_mem_drop hx, rfl⟩
  have fA : ∀ k ∈ (P.drop c).map kA, Fit 20 k.1 ∧ Fit 140 k.2 := fun k hk => by
    obtain ⟨x, hx, rfl⟩ := hA k hk
    exact ⟨(hf x hx).1, (hf x hx).2.1.mono (by decide)⟩
  have fB : ∀ k ∈ (P.drop d).map kB, Fit 20 k.1 ∧ Fit 280 k.2 := fun k hk => by
    obtain ⟨x, hx, rfl⟩ := hB k hk
    exact ⟨(hf x hx).1, ((hf x hx).2.1.sub (hf x hx).2.2).mono (by decide)⟩
  have aA : asc ((P.drop c).map kA) := asc_sub ha ((List.drop_sublist c P).map kA)
  have aB : asc ((P.drop d).map kB) := asc_sub (asc_kB ha) ((List.drop_sublist d P).map kB)
  have lA : ((P.drop c).map kA).length = P.length - c := by rw [List.length_map, List.length_drop]
  have lB : ((P.drop d).map kB).length = P.length - d := by rw [List.length_map, List.length_drop]
  have kOA : KOk ((P.drop c).map kA) := ⟨by omega, by omega, aA, fun k hk => ⟨(fA k hk).1.mono (by decide), (fA k hk).2.mono (by decide)⟩⟩
  have kOB : KOk ((P.drop d).map kB) := ⟨by omega, by omega, aB, fun k hk => ⟨(fB k hk).1.mono (by decide), (fB k hk).2.mono (by decide)⟩⟩
  refine ⟨⟨kOA, fun k hk => ⟨(fA k hk).1.mono (by decide), (fA k hk).2.mono (by decide)⟩⟩, ⟨kOB, fun k hk => ⟨(fB k hk).1.mono (by decide), (fB k hk).2.mono (by decide)⟩⟩, fA, fB, fun k hk hb => ?_, by omega, by omega⟩
  obtain ⟨x, hx, ek⟩ : ∃ x ∈ P, k.1 = x.1 := by
    rcases List.mem_append.mp hk with z | z
    · obtain ⟨x, hx, rfl⟩ := hA k z; exact ⟨x, hx, rfl⟩
    · obtain ⟨x, hx, rfl⟩ := hB k z; exact ⟨x, hx, rfl⟩
  rw [ek] at hb ⊢
  obtain ⟨i, hi⟩ := List.mem_iff_getElem?.mp hx
  obtain ⟨l1, l2⟩ := beg2_late hb
  obtain ⟨xc, hxc⟩ := get_of_lt hc
  obtain ⟨xd, hxd⟩ := get_of_lt hd
  have gA : ∀ j y, P[j]? = some y → (P.map kA)[j]? = some (kA y) := fun j y h => by rw [List.getElem?_map, h]; rfl
  have hci : c ≤ i := by
    have h0 : ((P.drop c).map kA)[0]? = some (kA xc) := by rw [List.getElem?_map, List.getElem?_drop, Nat.add_zero, hxc]; rfl
    have h1 : xc.1 ≤ x.1 := l1 _ h0
    rcases Nat.lt_or_ge i c with z | z
    · have h2 : x.1 < xc.1 := asc_lt2 ha z (gA i x hi) (gA c xc hxc)
      grind
    · exact z
  have hdi : d ≤ i := by
    have h0 : ((P.drop d).map kB)[0]? = some (kB xd) := by rw [List.getElem?_map, List.getElem?_drop, Nat.add_zero, hxd]; rfl
    have h1 : xd.1 ≤ x.1 := l2 _ h0
    rcases Nat.lt_or_ge i d with z | z
    · have h2 : x.1 < xd.1 := asc_lt2 ha z (gA i x hi) (gA d xd hxd)
      grind
    · exact z
  have e1 : ((P.drop c).map kA)[i - c]? = some (kA x) := by rw [List.getElem?_map, List.getElem?_drop, show c + (i - c) = i by omega, hi]; rfl
  have e2 : ((P.drop d).map kB)[i - d]? = some (kB x) := by rw [List.getElem?_map, List.getElem?_drop, show d + (i - d) = i by omega, hi]; rfl
  have p1 := posQ_knot kOA e1
  have p2 := posQ_knot kOB e2
  have : gapQ ((P.drop c).map kA) ((P.drop d).map kB) x.1 = x.2.2 := by
    unfold gapQ
    rw [show x.1 = (kA x).1 from rfl, p1, show (kA x).1 = (kB x).1 from rfl, p2]
    show x.2.1 - (x.2.1 - x.2.2) = x.2.2
    grind
  rw [this]
  exact (hf x hx).2.2
theorem cut_knL {ps : List Kn} {c : Nat} (h : c ≤ ps.length) : Pw.cutD (knL ps) (some (c : Int)) none = knL (ps.drop c) := by
  unfold Pw.cutD
  have h1 : HT.sIx (knL ps).length 0 (some (c : Int)) = c := by
    rw [knL_len]
    unfold HT.sIx
    simp
    rw [if_neg (by omega)]
    omega
  have h2 : HT.sIx (knL ps).length (knL ps).length none = (knL ps).length := rfl
  rw [h1, h2, List.take_of_length_le (by rw [List.length_drop]; exact Nat.le_refl _)]
  unfold knL
  rw [List.map_drop]
theorem GN.ratio {n d : Int} {N : Nat} (hd : 0 < d) (h : d.natAbs ∣ N) : GN N (Rat.divInt n d) := (GN.divInt hd).dvd h
theorem mark_fit {N D l : Int} (hD : 1 ≤ D) (hl : 1 ≤ l) (hl2 : l < 2 ^ 31) (hN : N.natAbs < 2 ^ 141) : (N.fdiv (D * l) * l).natAbs < 2 ^ 142 := by
  have hp : 0 < D * l := Int.mul_pos (by omega) (by omega)
  rw [Int.fdiv_eq_ediv_of_nonneg _ (Int.le_of_lt hp)]
  have h1 := Int.mul_ediv_add_emod N (D * l)
  have h2 := Int.emod_nonneg N (show D * l ≠ 0 by omega)
  have h3 := Int.emod_lt_of_pos N hp
  generalize N / (D * l) = q at *
  generalize N % (D * l) = r at *
  have e1 : D * l * q = D * (q * l) := by rw [Int.mul_assoc, Int.mul_comm l q]
  rw [e1] at h1
  have e2 : D * l = D * (q * l + l) - D * (q * l) := by rw [Int.mul_add]; omega
  rw [e2] at h3
  have p141 : (2 : Nat) ^ 142 = 2 ^ 141 + 2 ^ 141 := by decide
  have p31 : (2 : Int) ^ 31 ≤ ((2 ^ 141 : Nat) : Int) := by decide
  generalize (2 : Nat) ^ 141 = Z at *
  generalize (2 : Int) ^ 31 = Y at *
  generalize hx : q * l = x at *
  rcases Int.le_total 0 x with z | z
  · have : x ≤ D * x := by
      have := Int.mul_le_mul_of_nonneg_right hD z
      omega
    omega
  · rcases Int.le_total (x + l) 0 with y | y
    · have : D * (x + l) ≤ x + l := by
        have := Int.mul_le_mul_of_nonpos_right hD y
        omega
      omega
    · omega
theorem cross_ge {x y a b m : Rat} (hxy : x < y) (h : sgn m a = sgn b m) (h0 : sgn m a ≠ 0) : b - a ≠ 0 ∧ 0 ≤ (m - a) * (y - x) / (b - a) := by
  have key : ∀ u v w : Rat, 0 ≤ u → 0 ≤ v → 0 < w → 0 ≤ u * v / w := fun u v w h1 h2 h3 => by
    rw [Rat.div_def]
    exact Rat.mul_nonneg (Rat.mul_nonneg h1 h2) (Rat.le_of_lt (Rat.inv_pos.mpr h3))
  rcases sgn_cases m a with ⟨q, h1⟩ | ⟨q, h1⟩ | ⟨q, h1⟩
  · exact absurd q h0
  · rcases sgn_cases b m with ⟨r, h2⟩ | ⟨r, h2⟩ | ⟨r, h2⟩
    · rw [q, r] at h; cases h
    · exact ⟨by grind, key _ _ _ (by grind) (by grind) (by grind)⟩
    · rw [q, r] at h; cases h
  · rcases sgn_cases b m with ⟨r, h2⟩ | ⟨r, h2⟩ | ⟨r, h2⟩
    · rw [q, r] at h; cases h
    · rw [q, r] at h; cases h
    · refine ⟨by grind, ?_⟩
      have e : (m - a) * (y - x) / (b - a) = (a - m) * (y - x) / (a - b) := by
        have : b - a ≠ 0 := by grind
        have : a - b ≠ 0 := by grind
        grind
      rw [e]
      exact key _ _ _ (by grind) (by grind) (by grind)
end Pw

namespace Pw
open PySem L2
/-! ### x in a tuple or a list of flat things -/
def flatD : D → Bool | .non => true | .bl _ => true | .int _ => true | .str _ => true | _ => false
def toV : D → V | .bl b => .bl b | .int i => .int i | .str z => .str z | _ => .non
theorem flat_is {K : PySem.W.Frag} {Xs : List Addr} {H : Hp} {d : D} {v : V} (h : Is K Xs H d v) (f : flatD d = true) : v = toV d ∧ flatV v = true := by
  cases d with
  | non => cases (show v = .non from h); exact ⟨rfl, rfl⟩
  | bl b => cases (show v = .bl b from h); exact ⟨rfl, rfl⟩
  | int i => cases (show v = .int i from h); exact ⟨rfl, rfl⟩
  | str x => cases (show v = .str x from h); exact ⟨rfl, rfl⟩
  | _ => exact absurd (show false = true from f) Bool.false_ne_true
theorem flat_isL {K : PySem.W.Frag} {Xs : List Addr} {H : Hp} : ∀ {ds : List D} {vs : List V}, IsL K Xs H ds vs → ds.all flatD = true → vs = ds.map toV ∧ vs.all flatV = true
  | [], vs, h, _ => by cases (show vs = [] from h); exact ⟨rfl, rfl⟩
  | d :: ds, vs, h, f => by
    obtain ⟨x, r, rfl, h1, h2⟩ := h
    rw [List.all_cons, Bool.and_eq_true] at f
    obtain ⟨e1, e2⟩ := flat_is h1 f.1
    obtain ⟨e3, e4⟩ := flat_isL h2 f.2
    refine ⟨by rw [e1, e3]; rfl, ?_⟩
    rw [List.all_cons, e2, e4]; rfl
def inD (d : D) (ds : List D) : Bool := inV (toV d) (ds.map toV)
section
variable {W : Wd} {s : Rs} {Ψ : D → Prop} {d : D} {ds : List D}
theorem OpD.inT (hd : flatD d = true) (hs : ds.all flatD = true) (h : Ψ (.bl (inD d ds))) : OpD W (rIn W.K false) s d (.tup ds) Ψ := fun H vx vy r h1 h2 Q q => by
  obtain ⟨a, xs, rfl, g1, g2⟩ := h2
  obtain ⟨e1, e2⟩ := flat_is h1 hd
  obtain ⟨e3, e4⟩ := flat_isL g2 hs
  refine ⟨a, xs, rfl, .inr (IsL.sqT g1), e2, e4, ?_⟩
  rw [if_neg Bool.false_ne_true, e1, e3]
  exact q _ H (.bl (inD d ds)) (Same.refl H) rfl h
theorem OpD.notInT (hd : flatD d = true) (hs : ds.all flatD = true) (h : Ψ (.bl (!inD d ds))) : OpD W (rIn W.K true) s d (.tup ds) Ψ := fun H vx vy r h1 h2 Q q => by
  obtain ⟨a, xs, rfl, g1, g2⟩ := h2
  obtain ⟨e1, e2⟩ := flat_is h1 hd
  obtain ⟨e3, e4⟩ := flat_isL g2 hs
  refine ⟨a, xs, rfl, .inr (IsL.sqT g1), e2, e4, ?_⟩
  rw [if_pos rfl, e1, e3]
  exact q _ H (.bl (!inD d ds)) (Same.refl H) rfl h
theorem OpD.inL (hd : flatD d = true) (hs : ds.all flatD = true) (h : Ψ (.bl (inD d ds))) : OpD W (rIn W.K false) s d (.lst ds) Ψ := fun H vx vy r h1 h2 Q q => by
  obtain ⟨a, xs, rfl, g0, g1, g2⟩ := h2
  obtain ⟨e1, e2⟩ := flat_is h1 hd
  obtain ⟨e3, e4⟩ := flat_isL g2 hs
  refine ⟨a, xs, rfl, .inl (SqL.of g1), e2, e4, ?_⟩
  rw [if_neg Bool.false_ne_true, e1, e3]
  exact q _ H (.bl (inD d ds)) (Same.refl H) rfl h
theorem OpD.notInL (hd : flatD d = true) (hs : ds.all flatD = true) (h : Ψ (.bl (!inD d ds))) : OpD W (rIn W.K true) s d (.lst ds) Ψ := fun H vx vy r h1 h2 Q q => by
  obtain ⟨a, xs, rfl, g0, g1, g2⟩ := h2
  obtain ⟨e1, e2⟩ := flat_is h1 hd
  obtain ⟨e3, e4⟩ := flat_isL g2 hs
  refine ⟨a, xs, rfl, .inl (SqL.of g1), e2, e4, ?_⟩
  rw [if_pos rfl, e1, e3]
  exact q _ H (.bl (!inD d ds)) (Same.refl H) rfl h
end
theorem inV_int (i : Int) : ∀ js : List Int, inV (.int i) (js.map V.int) = decide (i ∈ js)
  | [] => by simp [inV]
  | j :: js => by
    have ih := inV_int i js
    unfold inV at ih ⊢
    rw [List.map_cons, List.any_cons, ih, Bool.eq_iff_iff]
    simp only [Bool.or_eq_true, decide_eq_true_eq, List.mem_cons]
    constructor
    · rintro (z | z)
      · exact .inl (eq_of_beq (show (j == i) = true from z)).symm
      · exact .inr z
    · rintro (z | z)
      · subst z; exact .inl (show (i == i) = true from beq_self_eq_true i)
      · exact .inr z
theorem inD_int (i : Int) (js : List Int) : inD (.int i) (js.map D.int) = decide (i ∈ js) := by
  unfold inD
  rw [List.map_map]
  exact inV_int i js
end Pw

namespace Pw
open PySem PySem.Spec PyProof.Rows L2
/-! ### dicts locked while they are walked -/
/-- H and H' are alike but for dicts, which may be locked in one of them -/
def Lk (H H' : Hp) : Prop := ∀ a u, H a = some u → H' a = some u ∨ ∃ vs, (u = .dK vs ∨ ∃ o, u = .frz o (.dK vs)) ∧ Rd H' a (.dK vs)
theorem Lk.rd {H H' : Hp} (L : Lk H H') {a : Addr} {vs : List (Key × V)} (h : Rd H a (.dK vs)) : Rd H' a (.dK vs) := by
  rcases h with h | ⟨o, h⟩
  · rcases L a _ h with z | ⟨ws, e | ⟨o', e⟩, z⟩
    · exact .inl z
    · cases e; exact z
    · cases e
  · rcases L a _ h with z | ⟨ws, e | ⟨o', e⟩, z⟩
    · exact .inr ⟨o, z⟩
    · cases e
    · cases e; exact z
theorem Lk.no {H H' : Hp} (L : Lk H H') {a : Addr} {u : HO} (h : H a = some u) (h1 : ∀ vs, u ≠ .dK vs) (h2 : ∀ o vs, u ≠ .frz o (.dK vs)) : H' a = some u := by
  rcases L a _ h with z | ⟨ws, e | ⟨o', e⟩, z⟩
  · exact z
  · exact absurd e (h1 ws)
  · exact absurd e (h2 o' ws)
mutual
theorem Is.lk {K : PySem.W.Frag} {Xs : List Addr} {H H' : Hp} (g : Lk H H') : ∀ (d : D) (v : V), Is K Xs H d v → Is K Xs H' d v
  | .non, v, h => h
  | .bl b, v, h => h
  | .int i, v, h => h
  | .str x, v, h => h
  | .tup ds, v, h => by
    obtain ⟨a, xs, e, h1, h2⟩ := h
    refine ⟨a, xs, e, ?_, IsL.lk g ds xs h2⟩
    rcases h1 with h1 | h1
    · exact .inl (g.no h1 (by intro _ z; cases z) (by intro _ _ z; cases z))
    · exact .inr h1
  | .lst ds, v, h => by
    obtain ⟨a, xs, e, hx, h1, h2⟩ := h
    exact ⟨a, xs, e, hx, g.no h1 (by intro _ z; cases z) (by intro _ _ z; cases z), IsL.lk g ds xs h2⟩
  | .ins C fs, v, h => by
    obtain ⟨a, dx, vs, e, hx, h1, h2⟩ := h
    exact ⟨a, dx, vs, e, hx, g.no h1 (by intro _ z; cases z) (by intro _ _ z; cases z), IsF.lk g fs vs h2⟩
  | .emp, v, h => by
    obtain ⟨a, e, hx, h1⟩ := h
    exact ⟨a, e, hx, g.rd h1⟩
  | .scr ns, v, h => by
    obtain ⟨a, e, h1⟩ := h
    refine ⟨a, e, ?_⟩
    rcases h1 with ⟨o, h1⟩ | h1 | ⟨hx, h1⟩
    · exact .inl ⟨o, g.no h1 (by intro _ z; cases z) (by intro _ _ z; cases z)⟩
    · exact .inr (.inl h1)
    · exact .inr (.inr ⟨hx, g.no h1 (by intro _ z; cases z) (by intro _ _ z; cases z)⟩)
  | .adr a, v, h => h
  | .ty n, v, h => h
  | .dct kvs, v, h => by
    obtain ⟨a, vs, e, hx, h1, h2⟩ := h
    exact ⟨a, vs, e, hx, g.rd h1, IsK.lk g kvs vs h2⟩
  | .dtp kvs, v, h => by
    obtain ⟨a, vs, e, hx, h1, h2⟩ := h
    exact ⟨a, vs, e, hx, g.no h1 (by intro _ z; cases z) (by intro _ _ z; cases z), IsT.lk g kvs vs h2⟩
  | .exc C, v, h => by
    obtain ⟨a, e, hx, h1⟩ := h
    exact ⟨a, e, hx, g.no h1 (by intro _ z; unfold XcO XcV at z; cases z) (by intro _ _ z; unfold XcO XcV at z; cases z)⟩
  | .exf C fs, v, h => by
    obtain ⟨a, d, vs, e, hx, hd, h1, h2, h3⟩ := h
    exact ⟨a, d, vs, e, hx, hd, g.no h1 (by intro _ z; unfold XcO XcV at z; cases z) (by intro _ _ z; unfold XcO XcV at z; cases z), g.no h2 (by intro _ z; cases z) (by intro _ _ z; cases z), IsF.lk g fs vs h3⟩
theorem IsL.lk {K : PySem.W.Frag} {Xs : List Addr} {H H' : Hp} (g : Lk H H') : ∀ (ds : List D) (vs : List V), IsL K Xs H ds vs → IsL K Xs H' ds vs
  | [], vs, h => h
  | d :: ds, vs, h => by
    obtain ⟨x, r, e, h1, h2⟩ := h
    exact ⟨x, r, e, Is.lk g d x h1, IsL.lk g ds r h2⟩
theorem IsF.lk {K : PySem.W.Frag} {Xs : List Addr} {H H' : Hp} (g : Lk H H') : ∀ (ds : List (Str × D)) (vs : List (Str × V)), IsF K Xs H ds vs → IsF K Xs H' ds vs
  | [], vs, h => h
  | (f, d) :: ds, vs, h => by
    obtain ⟨x, r, e, h1, h2⟩ := h
    exact ⟨x, r, e, Is.lk g d x h1, IsF.lk g ds r h2⟩
theorem IsK.lk {K : PySem.W.Frag} {Xs : List Addr} {H H' : Hp} (g : Lk H H') : ∀ (ds : List (Key × D)) (vs : List (Key × V)), IsK K Xs H ds vs → IsK K Xs H' ds vs
  | [], vs, h => h
  | (f, d) :: ds, vs, h => by
    obtain ⟨x, r, e, h1, h2⟩ := h
    exact ⟨x, r, e, Is.lk g d x h1, IsK.lk g ds r h2⟩
theorem IsT.lk {K : PySem.W.Frag} {Xs : List Addr} {H H' : Hp} (g : Lk H H') : ∀ (ds : List (List Key × D)) (vs : List (List Key × V)), IsT K Xs H ds vs → IsT K Xs H' ds vs
  | [], vs, h => h
  | (f, d) :: ds, vs, h => by
    obtain ⟨x, r, e, h1, h2⟩ := h
    exact ⟨x, r, e, Is.lk g d x h1, IsT.lk g ds r h2⟩
end
theorem Lk.put {H : Hp} {a : Addr} {vs : List (Key × V)} {o : Obj} (h : Rd H a (.dK vs)) : Lk H (upd H a (.frz o (.dK vs))) := fun b u hb => by
  by_cases z : b = a
  · subst z
    refine .inr ⟨vs, ?_, .inr ⟨o, upd_same⟩⟩
    rcases h with h | ⟨o', h⟩
    · rw [h] at hb; cases hb; exact .inl rfl
    · rw [h] at hb; cases hb; exact .inr ⟨o', rfl⟩
  · exact .inl (by rw [upd_ne z]; exact hb)
theorem Lk.back {H : Hp} {a : Addr} {vs : List (Key × V)} {o : Obj} (h : H a = some (.frz o (.dK vs))) : Lk H (upd H a (.dK vs)) := fun b u hb => by
  by_cases z : b = a
  · subst z
    rw [h] at hb
    cases hb
    exact .inr ⟨vs, .inr ⟨o, rfl⟩, .inl upd_same⟩
  · exact .inl (by rw [upd_ne z]; exact hb)
theorem Ow.lk {K : PySem.W.Frag} {Xs : List Addr} {H H' : Hp} {a : Addr} {d : D} (g : Lk H H') (e : H' a = H a) (h : Ow K Xs H a d) : Ow K Xs H' a d := by
  cases d with
  | lst ds => obtain ⟨xs, h1, h2⟩ := h; exact ⟨xs, e.trans h1, IsL.lk g _ _ h2⟩
  | dct kvs => obtain ⟨vs, h1, h2⟩ := h; exact ⟨vs, e.trans h1, IsK.lk g _ _ h2⟩
  | dtp kvs => obtain ⟨vs, h1, h2⟩ := h; exact ⟨vs, e.trans h1, IsT.lk g _ _ h2⟩
  | ins C fs => obtain ⟨dx, vs, h1, h2⟩ := h; exact ⟨dx, vs, e.trans h1, IsF.lk g _ _ h2⟩
  | _ => exact h
theorem drw_mem {s : Rs} {e : Addr × Addr × Addr × Nat} (h : e ∈ s.drw) : e.1 ∈ adrs s ∧ e.2.1 ∈ adrs s ∧ e.2.2.1 ∈ adrs s := by
  obtain ⟨h1, h2, h3⟩ := mem_drwA h
  unfold adrs
  exact ⟨List.mem_append_right _ (List.mem_append_left _ h1), List.mem_append_right _ (List.mem_append_left _ h2), List.mem_append_right _ (List.mem_append_left _ h3)⟩
theorem own_mem {s : Rs} {e : Addr × D} (h : e ∈ s.own) : e.1 ∈ adrs s := List.mem_append_left _ (List.mem_map.mpr ⟨e, h, rfl⟩)
theorem Rok.lk {K : PySem.W.Frag} {s : Rs} {H H' : Hp} (r : Rok K s H) (g : Lk H H') (e : ∀ x ∈ adrs s, H' x = H x) : Rok K s H' where
  mu := fun a h => by rw [e a h]; exact r.mu a h
  nd := r.nd
  dr := fun d h => by
    obtain ⟨m1, m2, m3⟩ := drw_mem h
    obtain ⟨ls, items, l, t, h1, h2, h3, q⟩ := r.dr d h
    exact ⟨ls, items, l, t, (e _ m1).trans h1, (e _ m2).trans h2, (e _ m3).trans h3, q⟩
  ow := fun d h => (r.ow d h).lk g (e _ (own_mem h))
theorem tabs_frz {T : List (Addr × Str)} {H : Hp} {a : Addr} {o : HO} {b : Obj} {u : HO} (t : LamX.Tabs T H) (h : H a = some (.frz b u)) : LamX.Tabs T (upd H a o) := fun p hp => by
  obtain ⟨ps, h1, h2, h3⟩ := t p hp
  refine ⟨ps, by rw [upd_ne (fun z => by rw [z, h] at h1; cases h1)]; exact h1, h2, fun pos cv hc => ?_⟩
  obtain ⟨c, e1, e2⟩ := h3 pos cv hc
  exact ⟨c, e1, by rw [upd_ne (fun z => by rw [z, h] at e2; unfold LamX.CodeO at e2; cases e2)]; exact e2⟩
theorem tabs_rd {T : List (Addr × Str)} {H : Hp} {a : Addr} {o : HO} {vs : List (Key × V)} (t : LamX.Tabs T H) (h : Rd H a (.dK vs)) : LamX.Tabs T (upd H a o) := by
  rcases h with h | ⟨b, h⟩
  · exact tabs_upd t h trivial
  · exact tabs_frz t h
/-- the world in which a dict stands locked -/
abbrev Wd.lock (W : Wd) (a : Addr) (o : Obj) (vs : List (Key × V)) : Wd := ⟨W.K, upd W.H0 a (.frz o (.dK vs)), W.X0, W.X1, W.tm, W.tb⟩
section
variable {W : Wd} {σ : L2.St} {H : Hp} {ρ : En} {s : Rs} {a : Addr} {o' : Obj} {vs : List (Key × V)}
theorem Ok.lock (o : Ok W σ H ρ s) (ha : a ∉ adrs s) (h : Rd H a (.dK vs)) : Ok (W.lock a o' vs) σ (upd H a (.frz o' (.dK vs))) ρ s where
  rk := o.rk.lk (Lk.put h) fun x hx => upd_ne fun z => ha (z ▸ hx)
  fr := fun x u hx hu => by
    have hu : upd W.H0 a (.frz o' (.dK vs)) x = some u := hu
    by_cases z : x = a
    · subst z; rw [upd_same] at hu ⊢; exact hu
    · rw [upd_ne z] at hu ⊢; exact o.fr x u hx hu
  sub := o.sub
  dx := fun e he x hx => by
    obtain ⟨m1, m2, _⟩ := drw_mem he
    have hm : x ∈ adrs s := by
      rcases List.mem_cons.mp hx with rfl | hx
      · exact m1
      · rw [List.mem_singleton.mp hx]; exact m2
    show x ∈ W.X0 ∨ upd W.H0 a _ x = none
    rw [upd_ne (show x ≠ a from fun z => ha (by rw [← z]; exact hm))]
    exact o.dx e he x hx
  ox := fun e he => by
    refine ⟨(o.ox e he).1, ?_⟩
    show e.1 ∈ W.X0 ∨ upd W.H0 a _ e.1 = none
    rw [upd_ne (show e.1 ≠ a from fun z => ha (by rw [← z]; exact own_mem he))]
    exact (o.ox e he).2
  tms := fun e he => Is.lk (Lk.put h) _ _ (o.tms e he)
  tbs := ⟨tabs_rd o.tbs.t h, fun x ps z => by
    have z : upd W.H0 a (.frz o' (.dK vs)) x = some (.tbl ps) := z
    by_cases y : x = a
    · subst y; rw [upd_same] at z; cases z
    · rw [upd_ne y] at z; exact o.tbs.n x ps z⟩
  len := o.len
  sl := fun i d hd => by
    obtain ⟨v, h1, h2⟩ := o.sl i d hd
    exact ⟨v, h1, Is.lk (Lk.put h) _ _ h2⟩
theorem Ok.held (o : Ok (W.lock a o' vs) σ H ρ s) (hx : a ∉ W.X0) : H a = some (.frz o' (.dK vs)) := o.fr a _ hx upd_same
theorem Ok.apart (o : Ok (W.lock a o' vs) σ H ρ s) (hx : a ∉ W.X0) : a ∉ adrs s := fun z => by
  have := o.rk.mu a z
  rw [o.held hx] at this
  exact this
/-- behind the walk; the entry's heap does not hold it in another way -/
theorem Ok.unlock (o : Ok (W.lock a o' vs) σ H ρ s) (hx : a ∉ W.X0) (h0 : ∀ u, W.H0 a = some u → u = .dK vs) : Ok W σ (upd H a (.dK vs)) ρ s where
  rk := o.rk.lk (Lk.back (o.held hx)) fun x hm => upd_ne fun z => o.apart hx (z ▸ hm)
  fr := fun x u hx2 hu => by
    by_cases z : x = a
    · subst z; rw [upd_same, h0 u hu]
    · rw [upd_ne z]
      refine o.fr x u hx2 ?_
      show upd W.H0 a _ x = some u
      rw [upd_ne z]; exact hu
  sub := o.sub
  dx := fun e he x hm => by
    rcases o.dx e he x hm with z | z
    · exact .inl z
    · refine .inr ?_
      have z : upd W.H0 a (.frz o' (.dK vs)) x = none := z
      by_cases y : x = a
      · subst y; rw [upd_same] at z; cases z
      · rw [upd_ne y] at z; exact z
  ox := fun e he => by
    refine ⟨(o.ox e he).1, ?_⟩
    rcases (o.ox e he).2 with z | z
    · exact .inl z
    · refine .inr ?_
      have z : upd W.H0 a (.frz o' (.dK vs)) e.1 = none := z
      by_cases y : e.1 = a
      · rw [y, upd_same] at z; cases z
      · rw [upd_ne y] at z; exact z
  tms := fun e he => Is.lk (Lk.back (o.held hx)) _ _ (o.tms e he)
  tbs := ⟨tabs_frz o.tbs.t (o.held hx), fun x ps z => by
    have := o.tbs.n x ps
    by_cases y : x = a
    · subst y
      have := h0 _ z
      cases this
    · refine this ?_
      show upd W.H0 a _ x = _
      rw [upd_ne y]; exact z⟩
  len := o.len
  sl := fun i d hd => by
    obtain ⟨v, h1, h2⟩ := o.sl i d hd
    exact ⟨v, h1, Is.lk (Lk.back (o.held hx)) _ _ h2⟩
/-- .. where it stood locked before -/
theorem Ok.relock (o : Ok W σ H ρ s) (ha : a ∉ adrs s) (h : H a = some (.frz o' (.dK vs))) : Ok (W.lock a o' vs) σ H ρ s := by
  have e : upd H a (.frz o' (.dK vs)) = H := by
    funext x
    by_cases z : x = a
    · subst z; rw [upd_same, h]
    · rw [upd_ne z]
  have := o.lock (o' := o') ha (.inr ⟨o', h⟩)
  rwa [e] at this
theorem Ok.free (o : Ok (W.lock a o' vs) σ H ρ s) (hx : a ∉ W.X0) (h0 : ∀ u, W.H0 a = some u → u = .frz o' (.dK vs)) : Ok W σ H ρ s where
  rk := o.rk
  fr := fun x u hx2 hu => by
    by_cases z : x = a
    · subst z; rw [h0 u hu]; exact o.held hx
    · refine o.fr x u hx2 ?_
      show upd W.H0 a _ x = some u
      rw [upd_ne z]; exact hu
  sub := o.sub
  dx := fun e he x hm => by
    rcases o.dx e he x hm with z | z
    · exact .inl z
    · refine .inr ?_
      have z : upd W.H0 a (.frz o' (.dK vs)) x = none := z
      by_cases y : x = a
      · subst y; rw [upd_same] at z; cases z
      · rw [upd_ne y] at z; exact z
  ox := fun e he => by
    refine ⟨(o.ox e he).1, ?_⟩
    rcases (o.ox e he).2 with z | z
    · exact .inl z
    · refine .inr ?_
      have z : upd W.H0 a (.frz o' (.dK vs)) e.1 = none := z
      by_cases y : e.1 = a
      · rw [y, upd_same] at z; cases z
      · rw [upd_ne y] at z; exact z
  tms := o.tms
  tbs := ⟨o.tbs.t, fun x ps z => by
    have := o.tbs.n x ps
    by_cases y : x = a
    · subst y
      have := h0 _ z
      cases this
    · refine this ?_
      show upd W.H0 a _ x = _
      rw [upd_ne y]; exact z⟩
  len := o.len
  sl := o.sl
end
/-! ### the statement or the expression that walks a dict: it is locked, or stands locked -/
def tLk (t : TS) : TS := fun D σ H => tLock t D σ H ∨ t D σ H
def tLkE (t : TE) : TE := fun σ H Q => tLockE t σ H Q ∨ t σ H Q
theorem ps_lk {X : Cx} {st : Stmt} {t : TS} (h : PS X st t) : PS X st (tLk t) := ⟨fun pins s σ H D I hw => hw.elim ((ps_lock h).run pins s σ H D I) (h.run pins s σ H D I)⟩
theorem pe_lk {X : Cx} {e : Expr} {t : TE} (h : PE X e t) : PE X e (tLkE t) := ⟨fun pins s σ H Q I hw => hw.elim ((pe_lock h).run pins s σ H Q I) (h.run pins s σ H Q I)⟩
/-! data of a dict -/
def keysD (kvs : List (Key × D)) : List D := kvs.map fun q => dKey q.1
def valsD (kvs : List (Key × D)) : List D := kvs.map (·.2)
def itemsD (kvs : List (Key × D)) : List D := kvs.map fun q => .tup [dKey q.1, q.2]
theorem IsK.get {K : PySem.W.Frag} {Xs : List Addr} {H : Hp} : ∀ {kvs : List (Key × D)} {vs : List (Key × V)} {i : Nat} {k : Key} {v : V}, IsK K Xs H kvs vs → vs[i]? = some (k, v) → ∃ d, kvs[i]? = some (k, d) ∧ Is K Xs H d v
  | [], vs, i, k, v, h, e => by cases (show vs = [] from h); cases e
  | (f, d) :: r, vs, i, k, v, h, e => by
    obtain ⟨x, q, rfl, h1, h2⟩ := h
    cases i with
    | zero => cases e; exact ⟨d, rfl, h1⟩
    | succ i => exact IsK.get (i := i) h2 (by simpa using e)
theorem IsK.len {K : PySem.W.Frag} {Xs : List Addr} {H : Hp} : ∀ {kvs : List (Key × D)} {vs : List (Key × V)}, IsK K Xs H kvs vs → vs.length = kvs.length
  | [], vs, h => by cases (show vs = [] from h); rfl
  | (f, d) :: r, vs, h => by
    obtain ⟨x, q, rfl, h1, h2⟩ := h
    rw [List.length_cons, List.length_cons, IsK.len h2]
theorem is_key {K : PySem.W.Frag} {Xs : List Addr} {H : Hp} (k : Key) : Is K Xs H (dKey k) (kV k) := by
  cases k with
  | inl i => exact rfl
  | inr x => exact rfl
theorem key_is {K : PySem.W.Frag} {Xs : List Addr} {H : Hp} {k : Key} {v : V} (h : Is K Xs H (dKey k) v) : v = kV k := by
  cases k with
  | inl i => exact h
  | inr x => exact h
section
variable {W : Wd} {a : Addr} {o : Obj} {kvs : List (Key × D)} {vs : List (Key × V)}
theorem dct_at {W : Wd} {s : Rs} {H : Hp} (h : Is W.K (adrs s) H (.dct kvs) (.ref a)) (e : H a = some (.frz o (.dK vs))) : IsK W.K (adrs s) H kvs vs := by
  obtain ⟨b, ws, eb, _, r, k⟩ := h
  cases eb
  rcases r with r | ⟨o2, r⟩
  · rw [e] at r; cases r
  · rw [e] at r; cases r; exact k
theorem ItOk.keys (hx : a ∉ W.X0) (hl : vs.length = kvs.length) : ItOk (W.lock a o vs) (Itk a o vs) (keysD kvs) [(.dct kvs, .ref a)] := by
  refine ⟨_, _, by rw [show (keysD kvs).length = vs.length by unfold keysD; rw [List.length_map, hl]]; exact walk_keys, fun s H r h f => ?_⟩
  have hf := f a _ hx upd_same
  refine ⟨hf, fun i x H' hi ⟨e, k, v, h1, h2⟩ => ?_⟩
  subst e h2
  obtain ⟨d, e1, _⟩ := (dct_at (W := W.lock a o vs) (h _ (List.mem_singleton.mpr rfl)) hf).get h1
  exact ⟨Same.refl _, dKey k, by unfold keysD; rw [List.getElem?_map, e1]; rfl, is_key k⟩
theorem ItOk.vals (hx : a ∉ W.X0) (hl : vs.length = kvs.length) : ItOk (W.lock a o vs) (Itd a o vs) (valsD kvs) [(.dct kvs, .ref a)] := by
  refine ⟨_, _, by rw [show (valsD kvs).length = vs.length by unfold valsD; rw [List.length_map, hl]]; exact walk_values, fun s H r h f => ?_⟩
  have hf := f a _ hx upd_same
  refine ⟨hf, fun i x H' hi ⟨e, k, h1⟩ => ?_⟩
  subst e
  obtain ⟨d, e1, e2⟩ := (dct_at (W := W.lock a o vs) (h _ (List.mem_singleton.mpr rfl)) hf).get h1
  exact ⟨Same.refl _, d, by unfold valsD; rw [List.getElem?_map, e1]; rfl, e2⟩
end
/-- what a dict's walk may be of -/
inductive DWalk (kvs : List (Key × D)) (i : Nat) : TI → List D → (Addr → Obj → List (Key × V) → It) → Prop where
  | keys : DWalk kvs i (iKeys (tVar i)) (keysD kvs) Itk
  | vals : DWalk kvs i (iVals (tVar i)) (valsD kvs) Itd
theorem DWalk.it {kvs : List (Key × D)} {i : Nat} {wi : TI} {ys : List D} {J : Addr → Obj → List (Key × V) → It} (d : DWalk kvs i wi ys J) {W : Wd} {a : Addr} {o : Obj} {vs : List (Key × V)} (hx : a ∉ W.X0) (hl : vs.length = kvs.length) : ItOk (W.lock a o vs) (J a o vs) ys [(.dct kvs, .ref a)] := by
  cases d with
  | keys => exact ItOk.keys hx hl
  | vals => exact ItOk.vals hx hl
theorem DWalk.run {kvs : List (Key × D)} {i : Nat} {wi : TI} {ys : List D} {J : Addr → Obj → List (Key × V) → It} (d : DWalk kvs i wi ys J) {σ : L2.St} {H : Hp} {a : Addr} {o : Obj} {vs : List (Key × V)} {R : It → Hp → Prop} (hs : σ[i]? = some (some (.ref a))) (hf : H a = some (.frz o (.dK vs))) (r : R (J a o vs) H) : wi σ H R := by
  cases d with
  | keys => exact ⟨.ref a, hs, a, o, rfl, .inl ⟨vs, hf, r⟩⟩
  | vals => exact ⟨.ref a, hs, a, o, vs, rfl, hf, r⟩
section
variable {W : Wd} {ρ : En} {s : Rs} {N : En → Rs → Prop} {R : D → Rs → Prop} {B C : En → Rs → Prop} {ts : TS} {g : TG} {wi : TI}
/-- a walk at work -/
theorem for_core {J : It} {ys : List D} {tms : List (D × V)} {Dn : Ends} {σ : L2.St} {H : Hp} (o1 : Ok W σ H ρ s) (ht : ∀ e ∈ tms, Is W.K (adrs s) H e.1 e.2) (hJ : ItOk W J ys tms) (f : Fits W N R B C Dn) (I : Nat → En → Rs → Prop) (h0 : I 0 ρ s)
    (hs : ∀ tms i d ρ' s', ys[i]? = some d → I i ρ' s' → LG ⟨W.K, W.H0, W.X0, W.X1, tms, W.tb⟩ g d ρ' s' fun ρ2 s2 => LS ⟨W.K, W.H0, W.X0, W.X1, tms, W.tb⟩ ts ρ2 s2 (I (i + 1)) R N (I (i + 1))) (hd : ∀ ρ' s', I ys.length ρ' s' → N ρ' s') (hw : ∀ Q : It → Hp → Prop, Q J H → wi σ H Q) : tFor wi g ts Dn σ H := by
  refine hw _ ?_
  obtain ⟨G, Y, hw, hG⟩ := hJ
  refine for_it hw (fun i σ H => ∃ ρ s, Ok (W.tms tms) σ H ρ s ∧ I i ρ s) ⟨ρ, s, o1.push ht, h0⟩ (fun i σ H _ ⟨ρ2, s2, o2, _⟩ => (hG s2 H o2.rk o2.tmp o2.fr).1) (fun i x σ H H' hi ⟨ρ2, s2, o2, k2⟩ hy => ?_) fun σ H ⟨ρ2, s2, o2, k2⟩ => f.nx σ H ρ2 s2 o2.pop (hd _ _ k2)
  obtain ⟨sm, d, e, ix⟩ := (hG s2 H o2.rk o2.tmp o2.fr).2 i x H' hi hy
  refine hs (tms ++ W.tm) i d ρ2 s2 e k2 x σ H' (o2.same sm) ix _ fun σ3 H3 ρ3 s3 o3 p3 k3 => ?_
  exact k3 _ σ3 H3 o3 ⟨fun σ4 H4 ρ4 s4 o4 k4 => ⟨ρ4, s4, o4, k4⟩, fun v σ4 H4 ρ4 d4 s4 o4 i4 k4 => f.rt v σ4 H4 ρ4 d4 s4 (Ok.pop (W := W) (tms := tms) o4) i4 k4, fun σ4 H4 ρ4 s4 o4 k4 => f.nx σ4 H4 ρ4 s4 (Ok.pop (W := W) (tms := tms) o4) k4, fun σ4 H4 ρ4 s4 o4 k4 => ⟨ρ4, s4, o4, k4⟩⟩
/-- for x in d, d.values() -/
theorem LS.forD {i : Nat} {kvs : List (Key × D)} {ys : List D} {J : Addr → Obj → List (Key × V) → It} (dw : DWalk kvs i wi ys J) (hi : ρ[i]? = some (some (.dct kvs))) (hX : ∀ x ∈ W.X0, x ∈ W.X1)
    (h : ∃ I : Nat → En → Rs → Prop, I 0 ρ s ∧ (∀ H0 tms j d ρ' s', ys[j]? = some d → I j ρ' s' → LG ⟨W.K, H0, W.X0, W.X1, tms, W.tb⟩ g d ρ' s' fun ρ2 s2 => LS ⟨W.K, H0, W.X0, W.X1, tms, W.tb⟩ ts ρ2 s2 (I (j + 1)) R N (I (j + 1))) ∧
      ∀ ρ' s', I ys.length ρ' s' → N ρ' s') : LS W (tLk (tFor wi g ts)) ρ s N R B C := fun Dn σ H o f => by
  obtain ⟨v, h1, a, vs, rfl, ha, hr, hk⟩ := o.sl i _ hi
  obtain ⟨I, h0, hs, hd⟩ := h
  have hx : a ∉ W.X0 := fun z => ha (o.sub a (hX a z))
  rcases hr with hr | ⟨od, hr⟩
  · refine .inl ⟨a, .dK vs, hr, trivial, fun od => ?_⟩
    have o1 := o.lock (o' := od) ha (.inl hr)
    have h00 : ∀ u, W.H0 a = some u → u = .dK vs := fun u hu => by
      have := o.fr a u hx hu
      rw [hr] at this
      cases this
      rfl
    refine for_core o1 (fun e he => ?_) (dw.it hx hk.len) ⟨fun σ' H' ρ' s' o' k => ⟨o'.held hx, f.nx _ _ ρ' s' (o'.unlock hx h00) k⟩, fun v σ' H' ρ' d s' o' i' k => ⟨o'.held hx, f.rt v σ' _ ρ' d s' (o'.unlock hx h00) (Is.lk (Lk.back (o'.held hx)) _ _ i') k⟩, fun σ' H' ρ' s' o' k => ⟨o'.held hx, f.bk _ _ ρ' s' (o'.unlock hx h00) k⟩, fun σ' H' ρ' s' o' k => ⟨o'.held hx, f.ct _ _ ρ' s' (o'.unlock hx h00) k⟩⟩ I h0 (fun tms j d ρ' s' hj hI => hs _ tms j d ρ' s' hj hI) hd fun Q q => dw.run h1 upd_same q
    rw [List.mem_singleton.mp he]
    exact Is.lk (Lk.put (.inl hr)) (.dct kvs) (.ref a) ⟨a, vs, rfl, ha, .inl hr, hk⟩
  · refine .inr ?_
    have o1 := o.relock (o' := od) ha hr
    have h00 : ∀ u, W.H0 a = some u → u = .frz od (.dK vs) := fun u hu => by
      have := o.fr a u hx hu
      rw [hr] at this
      cases this
      rfl
    refine for_core o1 (fun e he => ?_) (dw.it hx hk.len) ⟨fun σ' H' ρ' s' o' k => f.nx _ _ ρ' s' (o'.free hx h00) k, fun v σ' H' ρ' d s' o' i' k => f.rt v σ' _ ρ' d s' (o'.free hx h00) i' k, fun σ' H' ρ' s' o' k => f.bk _ _ ρ' s' (o'.free hx h00) k, fun σ' H' ρ' s' o' k => f.ct _ _ ρ' s' (o'.free hx h00) k⟩ I h0 (fun tms j d ρ' s' hj hI => hs _ tms j d ρ' s' hj hI) hd fun Q q => dw.run h1 hr q
    rw [List.mem_singleton.mp he]
    exact ⟨a, vs, rfl, ha, .inr ⟨od, hr⟩, hk⟩
end
/-! ### comprehensions over a dict -/
theorem Pres.unlock {K : PySem.W.Frag} {s s' : Rs} {H H' : Hp} {a : Addr} {o : Obj} {vs : List (Key × V)} (p : Pres K s (upd H a (.frz o (.dK vs))) s' H') (r : Rok K s H) (hr : H a = some (.dK vs)) : Pres K s H s' (upd H' a (.dK vs)) where
  keep := fun x u hx nt hh => by
    by_cases z : x = a
    · subst z; rw [hr] at hh; cases hh; exact upd_same
    · rw [upd_ne z]; exact p.keep x u hx nt (by rw [upd_ne z]; exact hh)
  new := fun x hx => by
    rcases p.new x hx with z | z
    · exact .inl z
    · by_cases y : x = a
      · subst y
        exact (z.no upd_same (by intro _ w; cases w)).elim
      · rw [upd_ne y] at z; exact .inr z
  mu := fun x hx => no_tup (r.mu x hx)
theorem small1000' {n : Nat} (h : n ≤ 1001) : n < sizeLine := by rw [sizeLine_eq]; omega
section
variable {W : Wd} {ρ : En} {s : Rs} {te : TE}
theorem lc_core {Φ : List D → Rs → Prop} {wi : TI} {g : TG} {tt : TT} {vs : List Nat} (hg : Tg g vs) {J : It} {ys : List D} {tms : List (D × V)} {σ : L2.St} {H1 : Hp} {s1 : Rs} {Q : VK} (o1 : Ok W σ H1 ρ s1) (ht : ∀ e ∈ tms, Is W.K (adrs s1) H1 e.1 e.2) (hJ : ItOk W J ys tms)
    (q : ∀ p H' ds s', Ok W σ H' ρ (s'.push p ds) → Pres W.K s1 H1 (s'.push p ds) H' → Φ ds s' → Q (.ref p) H') (Inv : Nat → List D → Rs → Prop) (hlen : ys.length ≤ 1000) (h0 : Inv 0 [] s1)
    (hs : ∀ tms p i d acc s2, ys[i]? = some d → Inv i acc s2 → LG ⟨W.K, W.H0, W.X0, W.X1, tms, W.tb⟩ g d (wipeD ρ vs) (s2.push p acc) fun ρ3 s3 => LT ⟨W.K, W.H0, W.X0, W.X1, tms, W.tb⟩ tt ρ3 s3 fun b s4 =>
        (b = true → LE ⟨W.K, W.H0, W.X0, W.X1, tms, W.tb⟩ te ρ3 s4 fun y s5 => ∃ s6, s5 = Rs.push s6 p acc ∧ Inv (i + 1) (acc ++ [y]) s6) ∧ (b = false → ∃ s6, s4 = Rs.push s6 p acc ∧ Inv (i + 1) acc s6))
    (hd : ∀ acc s2, Inv ys.length acc s2 → Φ acc s2) (hwi : ∀ R : It → Hp → Prop, R J H1 → wi σ H1 R) : tLc wi g tt te vs σ H1 Q := by
  refine hwi _ ?_
  obtain ⟨G, Y, hw, hG⟩ := hJ
  intro Dp hDp
  obtain ⟨o2, p2⟩ := o1.newL (ds := []) hDp rfl
  refine lc_it hw (fun i H' => ∃ acc s2, acc.length ≤ i ∧ Ok (W.tms tms) (wipe σ vs) H' (wipeD ρ vs) (s2.push Dp acc) ∧ Pres W.K s1 H1 (s2.push Dp acc) H' ∧ Inv i acc s2) ⟨[], s1, Nat.le_refl _, ?_, p2, h0⟩
    (fun i H' _ ⟨acc, s2, _, o3, _, _⟩ => (hG _ H' o3.rk o3.tmp o3.fr).1) (fun i x H2 H3 hi ⟨acc, s2, hal, o3, p3, k3⟩ hy => ?_) fun H' ⟨acc, s2, hal, o3, p3, k3⟩ => ?_
  · exact (o2.push (fun e he => p2.is (ht e he))).wipe vs
  · obtain ⟨sm, d, e, ix⟩ := (hG _ H2 o3.rk o3.tmp o3.fr).2 i x H3 hi hy
    refine hg x σ H3 _ ?_
    have p3' := p3.trans (o3.pres sm)
    refine hs (tms ++ W.tm) Dp i d acc s2 e k3 x _ H3 (o3.same sm) ix _ fun σ4 H4 ρ4 s4 o4 p4 k4 => ?_
    refine k4 σ4 H4 o4 _ fun b H5 s5 o5 p5 k5 => ?_
    cases b with
    | true =>
      refine k5.1 rfl σ4 H5 o5 _ fun y H6 yd s6 o6 p6 i6 k6 => ?_
      obtain ⟨s7, rfl, k7⟩ := k6
      obtain ⟨xs, h1, h2⟩ := o6.rk.ow (Dp, .lst acc) (List.mem_cons_self ..)
      have hya : i < ys.length := by
        rcases Nat.lt_or_ge i ys.length with z | z
        · exact z
        · rw [List.getElem?_eq_none_iff.mpr z] at e; cases e
      refine ⟨xs, h1, small1000' (by rw [show xs.length = acc.length from h2.length]; omega), acc ++ [yd], s7, by rw [List.length_append]; simp; omega, ?_, ?_, k7⟩
      · exact o3.slots (o6.chg (h2.snoc i6)).1 ((((o3.pres sm).trans p4).trans (p5.trans p6)).trans (o6.chg (h2.snoc i6)).2)
      · exact ((p3'.trans p4).trans (p5.trans p6)).trans (o6.chg (h2.snoc i6)).2
    | false =>
      obtain ⟨s7, rfl, k7⟩ := k5.2 rfl
      exact ⟨acc, s7, by omega, o3.slots o5 (((o3.pres sm).trans p4).trans p5), (p3'.trans p4).trans p5, k7⟩
  · have o4 : Ok W σ H' ρ (s2.push Dp acc) := ⟨o3.rk, o3.fr, o3.sub, o3.dx, o3.ox, fun e he => o3.tms e (List.mem_append_right _ he), o3.tbs, o1.len, fun i d hi => by
      obtain ⟨v, h1, h2⟩ := o1.sl i d hi
      exact ⟨v, h1, p3.is h2⟩⟩
    exact q Dp H' acc s2 o4 p3 (hd _ _ k3)
/-- [e for x in d], [e for x in d.values()] -/
theorem LEL.lcD {Φ : List D → Rs → Prop} {wi : TI} {g : TG} {tt : TT} {vs : List Nat} (hg : Tg g vs) {i : Nat} {kvs : List (Key × D)} {ys : List D} {J : Addr → Obj → List (Key × V) → It} (dw : DWalk kvs i wi ys J) (hi : ρ[i]? = some (some (.dct kvs))) (hX : ∀ x ∈ W.X0, x ∈ W.X1)
    (h : ∃ Inv : Nat → List D → Rs → Prop, ys.length ≤ 1000 ∧ Inv 0 [] s ∧
      (∀ H0 tms p i d acc s2, ys[i]? = some d → Inv i acc s2 → LG ⟨W.K, H0, W.X0, W.X1, tms, W.tb⟩ g d (wipeD ρ vs) (s2.push p acc) fun ρ3 s3 => LT ⟨W.K, H0, W.X0, W.X1, tms, W.tb⟩ tt ρ3 s3 fun b s4 =>
        (b = true → LE ⟨W.K, H0, W.X0, W.X1, tms, W.tb⟩ te ρ3 s4 fun y s5 => ∃ s6, s5 = Rs.push s6 p acc ∧ Inv (i + 1) (acc ++ [y]) s6) ∧ (b = false → ∃ s6, s4 = Rs.push s6 p acc ∧ Inv (i + 1) acc s6)) ∧
      ∀ acc s2, Inv ys.length acc s2 → Φ acc s2) : LEL W (tLkE (tLc wi g tt te vs)) ρ s Φ := fun σ H o Q q => by
  obtain ⟨v, h1, a, ws, rfl, ha, hr, hk⟩ := o.sl i _ hi
  obtain ⟨Inv, hlen, h0, hs, hd⟩ := h
  have hx : a ∉ W.X0 := fun z => ha (o.sub a (hX a z))
  rcases hr with hr | ⟨od, hr⟩
  · refine .inl ⟨a, .dK ws, hr, trivial, fun od => ?_⟩
    have o1 := o.lock (o' := od) ha (.inl hr)
    have h00 : ∀ u, W.H0 a = some u → u = .dK ws := fun u hu => by
      have := o.fr a u hx hu
      rw [hr] at this
      cases this
      rfl
    refine lc_core (W := W.lock a od ws) hg o1 (fun e he => ?_) (dw.it hx hk.len) (fun p H' ds s' o' p' k => ⟨o'.held hx, q p _ ds s' (o'.unlock hx h00) (Pres.unlock p' o.rk hr) k⟩) Inv hlen h0 (fun tms p i d acc s2 hj hI => hs _ tms p i d acc s2 hj hI) hd fun R r => dw.run h1 upd_same r
    rw [List.mem_singleton.mp he]
    exact Is.lk (Lk.put (.inl hr)) (.dct kvs) (.ref a) ⟨a, ws, rfl, ha, .inl hr, hk⟩
  · refine .inr ?_
    have o1 := o.relock (o' := od) ha hr
    have h00 : ∀ u, W.H0 a = some u → u = .frz od (.dK ws) := fun u hu => by
      have := o.fr a u hx hu
      rw [hr] at this
      cases this
      rfl
    refine lc_core (W := W.lock a od ws) hg o1 (fun e he => ?_) (dw.it hx hk.len) (fun p H' ds s' o' p' k => q p _ ds s' (o'.free hx h00) p' k) Inv hlen h0 (fun tms p i d acc s2 hj hI => hs _ tms p i d acc s2 hj hI) hd fun R r => dw.run h1 hr r
    rw [List.mem_singleton.mp he]
    exact ⟨a, ws, rfl, ha, .inr ⟨od, hr⟩, hk⟩
/-- .. that changes nothing -/
theorem LEL.lcFD {Φ : List D → Rs → Prop} {wi : TI} {g : TG} {tt : TT} {vs : List Nat} (hg : Tg g vs) {i : Nat} {kvs : List (Key × D)} {ys : List D} {J : Addr → Obj → List (Key × V) → It} (dw : DWalk kvs i wi ys J) (hi : ρ[i]? = some (some (.dct kvs))) (hX : ∀ x ∈ W.X0, x ∈ W.X1)
    (h : ∃ f : Nat → List D, ys.length ≤ 1000 ∧ f 0 = [] ∧
      (∀ H0 tms p i d, ys[i]? = some d → LG ⟨W.K, H0, W.X0, W.X1, tms, W.tb⟩ g d (wipeD ρ vs) (s.push p (f i)) fun ρ3 s3 => LT ⟨W.K, H0, W.X0, W.X1, tms, W.tb⟩ tt ρ3 s3 fun b s4 =>
        (b = true → LE ⟨W.K, H0, W.X0, W.X1, tms, W.tb⟩ te ρ3 s4 fun y s5 => s5 = s.push p (f i) ∧ f (i + 1) = f i ++ [y]) ∧ (b = false → s4 = s.push p (f i) ∧ f (i + 1) = f i)) ∧
      Φ (f ys.length) s) : LEL W (tLkE (tLc wi g tt te vs)) ρ s Φ := by
  obtain ⟨f, hl, h0, hs, hfin⟩ := h
  refine LEL.lcD hg dw hi hX ⟨fun i acc s2 => s2 = s ∧ acc = f i, hl, ⟨rfl, h0.symm⟩, fun H0 tms p i d acc s2 hd hI => ?_, fun acc s2 hI => ?_⟩
  · obtain ⟨rfl, rfl⟩ := hI
    have := hs H0 tms p i d hd
    exact LG.mono this fun ρ3 s3 k => LT.mono k fun b s4 k => ⟨fun e => LE.mono (k.1 e) fun y s5 k => ⟨s2, k.1, rfl, k.2.symm⟩, fun e => ⟨s2, (k.2 e).1, rfl, (k.2 e).2.symm⟩⟩
  · obtain ⟨rfl, rfl⟩ := hI
    exact hfin
end
/-! ### a dict's entries -/
def valD (kvs : List (Key × D)) (k : Key) : Option D := (kvs.find? fun q => decide (q.1 = k)).map (·.2)
def putD (kvs : List (Key × D)) (k : Key) (d : D) : List (Key × D) :=
  if (kvs.any fun q => decide (q.1 = k)) = true then kvs.map (fun q => if q.1 = k then (q.1, d) else q) else kvs ++ [(k, d)]
theorem IsK.any {K : PySem.W.Frag} {Xs : List Addr} {H : Hp} (k : Key) : ∀ {kvs : List (Key × D)} {vs : List (Key × V)}, IsK K Xs H kvs vs → (vs.any fun q => decide (q.1 = k)) = kvs.any fun q => decide (q.1 = k)
  | [], vs, h => by cases (show vs = [] from h); rfl
  | (f, d) :: r, vs, h => by
    obtain ⟨x, q, rfl, h1, h2⟩ := h
    rw [List.any_cons, List.any_cons, IsK.any k h2]
theorem IsK.rep {K : PySem.W.Frag} {Xs : List Addr} {H : Hp} (k : Key) {d : D} {v : V} (hd : Is K Xs H d v) : ∀ {kvs : List (Key × D)} {vs : List (Key × V)}, IsK K Xs H kvs vs → IsK K Xs H (kvs.map fun q => if q.1 = k then (q.1, d) else q) (vs.map fun q => if q.1 = k then (q.1, v) else q)
  | [], vs, h => by cases (show vs = [] from h); exact rfl
  | (f, e) :: r, vs, h => by
    obtain ⟨x, q, rfl, h1, h2⟩ := h
    rw [List.map_cons, List.map_cons]
    by_cases z : f = k
    · rw [if_pos z, if_pos z]
      exact ⟨v, _, rfl, hd, IsK.rep k hd h2⟩
    · rw [if_neg z, if_neg z]
      exact ⟨x, _, rfl, h1, IsK.rep k hd h2⟩
theorem IsK.snoc {K : PySem.W.Frag} {Xs : List Addr} {H : Hp} {k : Key} {d : D} {v : V} (hd : Is K Xs H d v) : ∀ {kvs : List (Key × D)} {vs : List (Key × V)}, IsK K Xs H kvs vs → IsK K Xs H (kvs ++ [(k, d)]) (vs ++ [(k, v)])
  | [], vs, h => by cases (show vs = [] from h); exact ⟨v, [], rfl, hd, rfl⟩
  | (f, e) :: r, vs, h => by
    obtain ⟨x, q, rfl, h1, h2⟩ := h
    exact ⟨x, _, rfl, h1, IsK.snoc hd h2⟩
theorem IsK.put {K : PySem.W.Frag} {Xs : List Addr} {H : Hp} {kvs : List (Key × D)} {vs : List (Key × V)} {k : Key} {d : D} {v : V} (h : IsK K Xs H kvs vs) (hd : Is K Xs H d v) : IsK K Xs H (putD kvs k d) (putK vs k v) := by
  unfold putD putK
  rw [IsK.any k h]
  split
  · exact IsK.rep k hd h
  · exact IsK.snoc hd h
theorem IsK.val {K : PySem.W.Frag} {Xs : List Addr} {H : Hp} (k : Key) : ∀ {kvs : List (Key × D)} {vs : List (Key × V)}, IsK K Xs H kvs vs → (∀ d, valD kvs k = some d → ∃ v, valV vs k = some v ∧ Is K Xs H d v) ∧ (valV vs k).isSome = (valD kvs k).isSome
  | [], vs, h => by cases (show vs = [] from h); exact ⟨fun d e => (by cases e), rfl⟩
  | (f, e) :: r, vs, h => by
    obtain ⟨x, q, rfl, h1, h2⟩ := h
    by_cases z : f = k
    · rw [valV_pos z]
      have : valD ((f, e) :: r) k = some e := by simp [valD, List.find?_cons, z]
      rw [this]
      exact ⟨fun d y => (by cases y; exact ⟨x, rfl, h1⟩), rfl⟩
    · rw [valV_neg z]
      have : valD ((f, e) :: r) k = valD r k := by simp [valD, List.find?_cons, z]
      rw [this]
      exact IsK.val k h2
section
variable {W : Wd} {ρ : En} {s : Rs} {Φ : D → Rs → Prop} {td ty : TE}
/-- d[k] -/
theorem LE.dget (h : LE W td ρ s fun x s1 => LE W ty ρ s1 fun y s2 => ∃ kvs k d, x = .dct kvs ∧ y = dKey k ∧ valD kvs k = some d ∧ Φ d s2) : LE W (tDGet td ty) ρ s Φ := fun σ H o Q q => by
  refine h σ H o _ fun vx H1 x s1 o1 p1 i1 k1 => ?_
  refine k1 σ H1 o1 _ fun vy H2 y s2 o2 p2 i2 k2 => ?_
  obtain ⟨kvs, k, d, rfl, rfl, hv, k2⟩ := k2
  obtain ⟨a, ws, rfl, ha, hr, hk⟩ := p2.is i1
  cases key_is i2
  obtain ⟨v, e1, e2⟩ := (hk.val k).1 d hv
  exact ⟨a, v, rfl, .inl ⟨ws, k, hr, rfl, e1.symm⟩, q v H2 d s2 o2 (p1.trans p2) e2 k2⟩
/-- .. of an own dict -/
theorem LE.dgetO (h : LE W td ρ s fun x s1 => LE W ty ρ s1 fun y s2 => ∃ p kvs k d, x = .adr p ∧ (p, .dct kvs) ∈ s2.own ∧ y = dKey k ∧ valD kvs k = some d ∧ Φ d s2) : LE W (tDGet td ty) ρ s Φ := fun σ H o Q q => by
  refine h σ H o _ fun vx H1 x s1 o1 p1 i1 k1 => ?_
  refine k1 σ H1 o1 _ fun vy H2 y s2 o2 p2 i2 k2 => ?_
  obtain ⟨p, kvs, k, d, rfl, hm, rfl, hv, k2⟩ := k2
  cases (show vx = .ref p from i1)
  cases key_is i2
  obtain ⟨ws, e0, hk⟩ := o2.rk.ow _ hm
  obtain ⟨v, e1, e2⟩ := (hk.val k).1 d hv
  exact ⟨p, v, rfl, .inl ⟨ws, k, .inl e0, rfl, e1.symm⟩, q v H2 d s2 o2 (p1.trans p2) e2 k2⟩
/-- k in d -/
theorem LE.din (h : LE W ty ρ s fun y s1 => LE W td ρ s1 fun x s2 => ∃ kvs k, x = .dct kvs ∧ y = dKey k ∧ Φ (.bl (valD kvs k).isSome) s2) : LE W (tDIn ty td) ρ s Φ := fun σ H o Q q => by
  refine h σ H o _ fun vy H1 y s1 o1 p1 i1 k1 => ?_
  refine k1 σ H1 o1 _ fun vx H2 x s2 o2 p2 i2 k2 => ?_
  obtain ⟨kvs, k, rfl, rfl, k2⟩ := k2
  obtain ⟨a, ws, rfl, ha, hr, hk⟩ := i2
  cases key_is i1
  have e := (hk.val k).2
  exact ⟨a, valV ws k, rfl, .inl ⟨ws, k, hr, rfl, rfl⟩, q _ H2 (.bl (valD kvs k).isSome) s2 o2 (p1.trans p2) (by rw [e]; exact rfl) k2⟩
theorem LE.dnotin (h : LE W ty ρ s fun y s1 => LE W td ρ s1 fun x s2 => ∃ kvs k, x = .dct kvs ∧ y = dKey k ∧ Φ (.bl (!(valD kvs k).isSome)) s2) : LE W (tDNotIn ty td) ρ s Φ := fun σ H o Q q => by
  refine h σ H o _ fun vy H1 y s1 o1 p1 i1 k1 => ?_
  refine k1 σ H1 o1 _ fun vx H2 x s2 o2 p2 i2 k2 => ?_
  obtain ⟨kvs, k, rfl, rfl, k2⟩ := k2
  obtain ⟨a, ws, rfl, ha, hr, hk⟩ := i2
  cases key_is i1
  have e := (hk.val k).2
  exact ⟨a, valV ws k, rfl, .inl ⟨ws, k, hr, rfl, rfl⟩, q _ H2 (.bl (!(valD kvs k).isSome)) s2 o2 (p1.trans p2) (by rw [e]; exact rfl) k2⟩
theorem LE.dinO (h : LE W ty ρ s fun y s1 => LE W td ρ s1 fun x s2 => ∃ p kvs k, x = .adr p ∧ (p, .dct kvs) ∈ s2.own ∧ y = dKey k ∧ Φ (.bl (valD kvs k).isSome) s2) : LE W (tDIn ty td) ρ s Φ := fun σ H o Q q => by
  refine h σ H o _ fun vy H1 y s1 o1 p1 i1 k1 => ?_
  refine k1 σ H1 o1 _ fun vx H2 x s2 o2 p2 i2 k2 => ?_
  obtain ⟨p, kvs, k, rfl, hm, rfl, k2⟩ := k2
  cases (show vx = .ref p from i2)
  cases key_is i1
  obtain ⟨ws, e0, hk⟩ := o2.rk.ow _ hm
  have e := (hk.val k).2
  exact ⟨p, valV ws k, rfl, .inl ⟨ws, k, .inl e0, rfl, rfl⟩, q _ H2 (.bl (valD kvs k).isSome) s2 o2 (p1.trans p2) (by rw [e]; exact rfl) k2⟩
end
/-! ### dicts of one's own -/
theorem Ok.newK {W : Wd} {σ : L2.St} {H : Hp} {ρ : En} {s : Rs} {p : Addr} {kvs : List (Key × D)} {vs : List (Key × V)} (o : Ok W σ H ρ s) (hp : H p = none) (h : IsK W.K (adrs s) H kvs vs) :
    Ok W σ (upd H p (.dK vs)) ρ (s.pushD p (.dct kvs)) ∧ Pres W.K s H (s.pushD p (.dct kvs)) (upd H p (.dK vs)) :=
  o.newO (.same o.tbs.t (Same.new hp)) (NTN.none hp) (d := .dct kvs) ⟨vs, upd_same, IsK.goes (goesN o.rk (Same.new hp) hp) _ _ (IsK.anti (shutN hp) _ _ h)⟩
theorem Ok.chgK {W : Wd} {σ : L2.St} {H : Hp} {ρ : En} {p : Addr} {d : D} {kvs' : List (Key × D)} {vs' : List (Key × V)} {ow : List (Addr × D)} {dr : List (Addr × Addr × Addr × Nat)} {ot : List Addr} (o : Ok W σ H ρ ⟨(p, d) :: ow, dr, ot⟩)
    (h : IsK W.K (adrs ⟨(p, d) :: ow, dr, ot⟩) H kvs' vs') : Ok W σ (upd H p (.dK vs')) ρ ⟨(p, .dct kvs') :: ow, dr, ot⟩ ∧ Pres W.K ⟨(p, d) :: ow, dr, ot⟩ H ⟨(p, .dct kvs') :: ow, dr, ot⟩ (upd H p (.dK vs')) :=
  have e : ∀ a u, a ≠ p → H a = some u → upd H p (.dK vs') a = some u := fun a u z q => by rw [upd_ne z]; exact q
  o.chgO e (d' := .dct kvs') ⟨vs', upd_same, IsK.goes (o.goesP e) _ _ h⟩
/-- an expression whose value is a new dict -/
def LED (W : Wd) (te : TE) (ρ : En) (s : Rs) (Φ : List (Key × D) → Rs → Prop) : Prop :=
  ∀ (σ : L2.St) (H : Hp), Ok W σ H ρ s → ∀ Q : VK, (∀ p H' kvs s', Ok W σ H' ρ (s'.pushD p (.dct kvs)) → Pres W.K s H (s'.pushD p (.dct kvs)) H' → Φ kvs s' → Q (.ref p) H') → te σ H Q
section
variable {W : Wd} {ρ : En} {s : Rs} {te : TE} {N : En → Rs → Prop} {R : D → Rs → Prop} {B C : En → Rs → Prop} {i : Nat} {p : Addr} {kvs : List (Key × D)} {ow : List (Addr × D)} {dr : List (Addr × Addr × Addr × Nat)} {ot : List Addr}
theorem LE.ofD {Φ : D → Rs → Prop} (h : LED W te ρ s fun kvs s' => Φ (.dct kvs) s') : LE W te ρ s Φ := fun σ H o Q q => by
  refine h σ H o Q fun p H' kvs s' o' p' k => ?_
  obtain ⟨o2, p2, i2⟩ := o'.freezeD
  exact q _ H' _ s' o2 (p'.trans p2) i2 k
theorem LED.new {Φ : List (Key × D) → Rs → Prop} (h : Φ [] s) : LED W tDNewK ρ s Φ := fun σ H o Q q => fun p hp => by
  obtain ⟨o2, p2⟩ := o.newK (kvs := []) hp rfl
  exact q p _ [] s o2 p2 h
theorem LS.setD (h : LED W te ρ s fun kvs s' => ∀ p, N (ρ.set i (some (.adr p))) (s'.pushD p (.dct kvs))) : LS W (tAsg te (gName i)) ρ s N R B C := fun Dn σ H o f =>
  h σ H o _ fun p H' kvs s' o' p' k => f.nx _ H' _ _ (o'.set (d := .adr p) rfl) (k p)
theorem LA.consD {Ψ : List D → Rs → Prop} {tr : TA} (h : LED W te ρ s fun kvs s1 => ∀ p, LA W tr ρ (s1.pushD p (.dct kvs)) fun es s2 => Ψ (.adr p :: es) s2) : LA W (tCons te tr) ρ s Ψ := fun σ H o Q q => by
  refine h σ H o _ fun p H1 ds s1 o1 p1 k => ?_
  refine k p σ H1 o1 _ fun vs H2 es s2 o2 p2 i2 k2 => ?_
  exact q (.ref p :: vs) H2 (.adr p :: es) s2 o2 (p1.trans p2) ⟨.ref p, vs, rfl, rfl, i2⟩ k2
/-- d[k] = e -/
theorem LS.dput {ty tv : TE} (hi : ρ[i]? = some (some (.adr p))) (h : LE W tv ρ ⟨(p, .dct kvs) :: ow, dr, ot⟩ fun d s1 => LE W ty ρ s1 fun y s2 => ∃ k ow' dr' ot', y = dKey k ∧ s2 = ⟨(p, .dct kvs) :: ow', dr', ot'⟩ ∧ kvs.length ≤ 900 ∧ N ρ ⟨(p, .dct (putD kvs k d)) :: ow', dr', ot'⟩) :
    LS W (sDPut (tVar i) ty tv) ρ ⟨(p, .dct kvs) :: ow, dr, ot⟩ N R B C := fun Dn σ H o f => by
  refine h σ H o _ fun w H1 d s1 o1 p1 i1 k => ?_
  obtain ⟨v, h1, h2⟩ := o1.sl i _ hi
  cases (show v = .ref p from h2)
  refine ⟨.ref p, h1, k σ H1 o1 _ fun z H2 x s2 o2 p2 i2 k2 => ?_⟩
  obtain ⟨k, ow', dr', ot', rfl, rfl, hl, k2⟩ := k2
  cases key_is i2
  obtain ⟨ws, e2, i3⟩ := o2.rk.ow (p, .dct kvs) (List.mem_cons_self ..)
  obtain ⟨o3, p3⟩ := o2.chgK (IsK.put (k := k) i3 (p2.is i1))
  exact ⟨p, _, rfl, DPut.k e2 (small1000' (by rw [show ws.length = kvs.length from i3.len]; omega)), f.nx σ _ ρ _ o3 k2⟩
/-- d[k] += e, ints -/
theorem LS.daugI {ty tv : TE} {g : Int → Int → Int} {rd : V → V → Hp → VK → Prop} (hrd : ∀ i j H Q, Q (.int (g i j)) H → rd (.int i) (.int j) H Q) (hi : ρ[i]? = some (some (.adr p))) (h : LE W ty ρ ⟨(p, .dct kvs) :: ow, dr, ot⟩ fun y s1 => ∃ k a ow1 dr1 ot1, y = dKey k ∧ s1 = ⟨(p, .dct kvs) :: ow1, dr1, ot1⟩ ∧ valD kvs k = some (.int a) ∧ LE W tv ρ s1 fun d s2 => ∃ b ow' dr' ot', d = .int b ∧ s2 = ⟨(p, .dct kvs) :: ow', dr', ot'⟩ ∧ kvs.length ≤ 900 ∧ N ρ ⟨(p, .dct (putD kvs k (.int (g a b)))) :: ow', dr', ot'⟩) :
    LS W (sDAug (tVar i) ty tv rd) ρ ⟨(p, .dct kvs) :: ow, dr, ot⟩ N R B C := fun Dn σ H o f => by
  obtain ⟨v, h1, h2⟩ := o.sl i _ hi
  cases (show v = .ref p from h2)
  refine ⟨.ref p, h1, h σ H o _ fun z H1 x s1 o1 p1 i1 k1 => ?_⟩
  obtain ⟨k, a, ow1, dr1, ot1, rfl, rfl, hv, k1⟩ := k1
  cases key_is i1
  obtain ⟨ws, e1, j1⟩ := o1.rk.ow (p, .dct kvs) (List.mem_cons_self ..)
  obtain ⟨u, f1, f2⟩ := (j1.val k).1 _ hv
  cases (show u = .int a from f2)
  refine ⟨p, .int a, rfl, .inl ⟨ws, k, .inl e1, rfl, f1.symm⟩, k1 σ H1 o1 _ fun w H2 d s2 o2 p2 i2 k2 => ?_⟩
  obtain ⟨b, ow', dr', ot', rfl, rfl, hl, k2⟩ := k2
  cases (show w = .int b from i2)
  obtain ⟨ws2, e2, i3⟩ := o2.rk.ow (p, .dct kvs) (List.mem_cons_self ..)
  obtain ⟨o3, p3⟩ := o2.chgK (IsK.put (k := k) (d := .int (g a b)) (v := .int (g a b)) i3 rfl)
  exact hrd a b _ _ ⟨_, DPut.k e2 (small1000' (by rw [show ws2.length = kvs.length from i3.len]; omega)), f.nx σ _ ρ _ o3 k2⟩
end
/-! ### dict comprehensions -/
theorem dc_it {J : It} {n : Nat} {G : Hp → Prop} {Y : Nat → Hp → V → Hp → Prop} (w : Walk J n G Y) {g : TG} {tt : TT} {tk tv : TE} {vs : List Nat} {σ : L2.St} {H1 : Hp} {D : Addr} {Qd : Hp → Prop} (Pv : Nat → Hp → Prop) (h0 : Pv 0 (upd H1 D (.dK []))) (hG : ∀ i H, i ≤ n → Pv i H → G H)
    (hs : ∀ i x H H', i < n → Pv i H → Y i H x H' → g x (wipe σ vs) H' fun σ2 H2 => wipe σ2 vs = wipe σ vs ∧ tt σ2 H2 fun b H3 =>
      if b = true then tk σ2 H3 fun y H4 => tv σ2 H4 fun z H5 => ∃ kvs k, y = kV k ∧ H5 D = some (.dK kvs) ∧ kvs.length < sizeLine ∧ Pv (i + 1) (upd H5 D (.dK (putK kvs k z))) else Pv (i + 1) H3) (hd : ∀ H, Pv n H → Qd H) :
    ∃ W : Nat → Nat → Hp → Prop, (∃ m, W 0 m (upd H1 D (.dK []))) ∧ ∀ i m H, W i m H →
      (J.stop i H ∧ Qd H) ∨ (J.go i H ∧ ∃ Nx : Hp → Prop, (∀ H', Nx H' → ∃ m', m' < m ∧ W (i + 1) m' H') ∧ ∀ x H', J.yld i H x H' → g x (wipe σ vs) H' fun σ2 H2 => wipe σ2 vs = wipe σ vs ∧ tt σ2 H2 fun b H3 =>
        if b = true then tk σ2 H3 fun y H4 => tv σ2 H4 fun z H5 => ∃ kvs k, y = kV k ∧ H5 D = some (.dK kvs) ∧ kvs.length < sizeLine ∧ Nx (upd H5 D (.dK (putK kvs k z))) else Nx H3) := by
  refine ⟨fun i m H => m = n - i ∧ i ≤ n ∧ Pv i H, ⟨n, by simp, Nat.zero_le _, h0⟩, ?_⟩
  rintro i m H ⟨rfl, hi, p⟩
  have q := hG i H hi p
  by_cases hlt : i < n
  · refine .inr ⟨w.goes i H hlt q, Pv (i + 1), fun H' p' => ⟨n - (i + 1), by omega, rfl, hlt, p'⟩, fun x H' y => hs i x H H' hlt p (w.yields i H x H' hlt q y)⟩
  · have e : i = n := by omega
    subst e
    exact .inl ⟨w.stops H q, hd H p⟩
theorem putD_len (kvs : List (Key × D)) (k : Key) (d : D) : (putD kvs k d).length ≤ kvs.length + 1 := by
  unfold putD
  split
  · rw [List.length_map]; omega
  · rw [List.length_append]; exact Nat.le_refl _
section
variable {W : Wd} {ρ : En} {s : Rs}
theorem dc_core {Φ : List (Key × D) → Rs → Prop} {wi : TI} {g : TG} {tt : TT} {tk tv : TE} {vs : List Nat} (hg : Tg g vs) {J : It} {ys : List D} {tms : List (D × V)} {σ : L2.St} {H1 : Hp} {s1 : Rs} {Q : VK} (o1 : Ok W σ H1 ρ s1) (ht : ∀ e ∈ tms, Is W.K (adrs s1) H1 e.1 e.2) (hJ : ItOk W J ys tms)
    (q : ∀ p H' kvs s', Ok W σ H' ρ (s'.pushD p (.dct kvs)) → Pres W.K s1 H1 (s'.pushD p (.dct kvs)) H' → Φ kvs s' → Q (.ref p) H') (Inv : Nat → List (Key × D) → Rs → Prop) (hlen : ys.length ≤ 1000) (h0 : Inv 0 [] s1)
    (hs : ∀ tms p i d acc s2, ys[i]? = some d → Inv i acc s2 → LG ⟨W.K, W.H0, W.X0, W.X1, tms, W.tb⟩ g d (wipeD ρ vs) (s2.pushD p (.dct acc)) fun ρ3 s3 => LT ⟨W.K, W.H0, W.X0, W.X1, tms, W.tb⟩ tt ρ3 s3 fun b s4 =>
        (b = true → LE ⟨W.K, W.H0, W.X0, W.X1, tms, W.tb⟩ tk ρ3 s4 fun y s5 => LE ⟨W.K, W.H0, W.X0, W.X1, tms, W.tb⟩ tv ρ3 s5 fun z s6 => ∃ k s7, y = dKey k ∧ s6 = Rs.pushD s7 p (.dct acc) ∧ Inv (i + 1) (putD acc k z) s7) ∧ (b = false → ∃ s6, s4 = Rs.pushD s6 p (.dct acc) ∧ Inv (i + 1) acc s6))
    (hd : ∀ acc s2, Inv ys.length acc s2 → Φ acc s2) (hwi : ∀ R : It → Hp → Prop, R J H1 → wi σ H1 R) : tDc wi g tt tk tv vs σ H1 Q := by
  refine hwi _ ?_
  obtain ⟨G, Y, hw, hG⟩ := hJ
  intro Dp hDp
  obtain ⟨o2, p2⟩ := o1.newK (kvs := []) hDp rfl
  refine dc_it hw (fun i H' => ∃ acc s2, acc.length ≤ i ∧ Ok (W.tms tms) (wipe σ vs) H' (wipeD ρ vs) (s2.pushD Dp (.dct acc)) ∧ Pres W.K s1 H1 (s2.pushD Dp (.dct acc)) H' ∧ Inv i acc s2) ⟨[], s1, Nat.le_refl _, ?_, p2, h0⟩
    (fun i H' _ ⟨acc, s2, _, o3, _, _⟩ => (hG _ H' o3.rk o3.tmp o3.fr).1) (fun i x H2 H3 hi ⟨acc, s2, hal, o3, p3, k3⟩ hy => ?_) fun H' ⟨acc, s2, hal, o3, p3, k3⟩ => ?_
  · exact (o2.push (fun e he => p2.is (ht e he))).wipe vs
  · obtain ⟨sm, d, e, ix⟩ := (hG _ H2 o3.rk o3.tmp o3.fr).2 i x H3 hi hy
    refine hg x σ H3 _ ?_
    have p3' := p3.trans (o3.pres sm)
    refine hs (tms ++ W.tm) Dp i d acc s2 e k3 x _ H3 (o3.same sm) ix _ fun σ4 H4 ρ4 s4 o4 p4 k4 => ?_
    refine k4 σ4 H4 o4 _ fun b H5 s5 o5 p5 k5 => ?_
    cases b with
    | true =>
      refine k5.1 rfl σ4 H5 o5 _ fun y H6 yd s6 o6 p6 i6 k6 => ?_
      refine k6 σ4 H6 o6 _ fun z H7 zd s7 o7 p7 i7 k7 => ?_
      obtain ⟨k, s8, rfl, rfl, k8⟩ := k7
      cases key_is i6
      obtain ⟨xs, h1, h2⟩ := o7.rk.ow (Dp, .dct acc) (List.mem_cons_self ..)
      have hya : i < ys.length := by
        rcases Nat.lt_or_ge i ys.length with z | z
        · exact z
        · rw [List.getElem?_eq_none_iff.mpr z] at e; cases e
      have hl := putD_len acc k zd
      refine ⟨xs, k, rfl, h1, small1000' (by rw [show xs.length = acc.length from h2.len]; omega), putD acc k zd, s8, by omega, ?_, ?_, k8⟩
      · exact o3.slots (o7.chgK (IsK.put h2 i7)).1 ((((o3.pres sm).trans p4).trans (p5.trans (p6.trans p7))).trans (o7.chgK (IsK.put h2 i7)).2)
      · exact ((p3'.trans p4).trans (p5.trans (p6.trans p7))).trans (o7.chgK (IsK.put h2 i7)).2
    | false =>
      obtain ⟨s7, rfl, k7⟩ := k5.2 rfl
      exact ⟨acc, s7, by omega, o3.slots o5 (((o3.pres sm).trans p4).trans p5), (p3'.trans p4).trans p5, k7⟩
  · have o4 : Ok W σ H' ρ (s2.pushD Dp (.dct acc)) := ⟨o3.rk, o3.fr, o3.sub, o3.dx, o3.ox, fun e he => o3.tms e (List.mem_append_right _ he), o3.tbs, o1.len, fun i d hi => by
      obtain ⟨v, h1, h2⟩ := o1.sl i d hi
      exact ⟨v, h1, p3.is h2⟩⟩
    exact q Dp H' acc s2 o4 p3 (hd _ _ k3)
/-- {k: e for x in xs} -/
theorem LED.dc {Φ : List (Key × D) → Rs → Prop} {wi : TI} {g : TG} {tt : TT} {tk tv : TE} {vs : List Nat} (hg : Tg g vs)
    (h : LI W wi ρ s fun ys s1 => ∃ Inv : Nat → List (Key × D) → Rs → Prop, ys.length ≤ 1000 ∧ Inv 0 [] s1 ∧
      (∀ tms p i d acc s2, ys[i]? = some d → Inv i acc s2 → LG ⟨W.K, W.H0, W.X0, W.X1, tms, W.tb⟩ g d (wipeD ρ vs) (s2.pushD p (.dct acc)) fun ρ3 s3 => LT ⟨W.K, W.H0, W.X0, W.X1, tms, W.tb⟩ tt ρ3 s3 fun b s4 =>
        (b = true → LE ⟨W.K, W.H0, W.X0, W.X1, tms, W.tb⟩ tk ρ3 s4 fun y s5 => LE ⟨W.K, W.H0, W.X0, W.X1, tms, W.tb⟩ tv ρ3 s5 fun z s6 => ∃ k s7, y = dKey k ∧ s6 = Rs.pushD s7 p (.dct acc) ∧ Inv (i + 1) (putD acc k z) s7) ∧ (b = false → ∃ s6, s4 = Rs.pushD s6 p (.dct acc) ∧ Inv (i + 1) acc s6)) ∧
      ∀ acc s2, Inv ys.length acc s2 → Φ acc s2) : LED W (tDc wi g tt tk tv vs) ρ s Φ := fun σ H o Q q => h σ H o _ fun J H1 ys s1 tms o1 p1 ht hJ k => by
  obtain ⟨Inv, hlen, h0, hs, hd⟩ := k
  obtain ⟨G, Y, hw, hG⟩ := hJ
  exact dc_core (wi := fun _ H R => R J H) hg o1 ht ⟨G, Y, hw, hG⟩ (fun p H' kvs s' o' p' k => q p H' kvs s' o' (p1.trans p') k) Inv hlen h0 hs hd (fun R r => r)
/-- {k: e for x in d} -/
theorem LED.dcD {Φ : List (Key × D) → Rs → Prop} {wi : TI} {g : TG} {tt : TT} {tk tv : TE} {vs : List Nat} (hg : Tg g vs) {i : Nat} {kvs : List (Key × D)} {ys : List D} {J : Addr → Obj → List (Key × V) → It} (dw : DWalk kvs i wi ys J) (hi : ρ[i]? = some (some (.dct kvs))) (hX : ∀ x ∈ W.X0, x ∈ W.X1)
    (h : ∃ Inv : Nat → List (Key × D) → Rs → Prop, ys.length ≤ 1000 ∧ Inv 0 [] s ∧
      (∀ H0 tms p i d acc s2, ys[i]? = some d → Inv i acc s2 → LG ⟨W.K, H0, W.X0, W.X1, tms, W.tb⟩ g d (wipeD ρ vs) (s2.pushD p (.dct acc)) fun ρ3 s3 => LT ⟨W.K, H0, W.X0, W.X1, tms, W.tb⟩ tt ρ3 s3 fun b s4 =>
        (b = true → LE ⟨W.K, H0, W.X0, W.X1, tms, W.tb⟩ tk ρ3 s4 fun y s5 => LE ⟨W.K, H0, W.X0, W.X1, tms, W.tb⟩ tv ρ3 s5 fun z s6 => ∃ k s7, y = dKey k ∧ s6 = Rs.pushD s7 p (.dct acc) ∧ Inv (i + 1) (putD acc k z) s7) ∧ (b = false → ∃ s6, s4 = Rs.pushD s6 p (.dct acc) ∧ Inv (i + 1) acc s6)) ∧
      ∀ acc s2, Inv ys.length acc s2 → Φ acc s2) : LED W (tLkE (tDc wi g tt tk tv vs)) ρ s Φ := fun σ H o Q q => by
  obtain ⟨v, h1, a, ws, rfl, ha, hr, hk⟩ := o.sl i _ hi
  obtain ⟨Inv, hlen, h0, hs, hd⟩ := h
  have hx : a ∉ W.X0 := fun z => ha (o.sub a (hX a z))
  rcases hr with hr | ⟨od, hr⟩
  · refine .inl ⟨a, .dK ws, hr, trivial, fun od => ?_⟩
    have o1 := o.lock (o' := od) ha (.inl hr)
    have h00 : ∀ u, W.H0 a = some u → u = .dK ws := fun u hu => by
      have := o.fr a u hx hu
      rw [hr] at this
      cases this
      rfl
    refine dc_core (W := W.lock a od ws) hg o1 (fun e he => ?_) (dw.it hx hk.len) (fun p H' ds s' o' p' k => ⟨o'.held hx, q p _ ds s' (o'.unlock hx h00) (Pres.unlock p' o.rk hr) k⟩) Inv hlen h0 (fun tms p i d acc s2 hj hI => hs _ tms p i d acc s2 hj hI) hd fun R r => dw.run h1 upd_same r
    rw [List.mem_singleton.mp he]
    exact Is.lk (Lk.put (.inl hr)) (.dct kvs) (.ref a) ⟨a, ws, rfl, ha, .inl hr, hk⟩
  · refine .inr ?_
    have o1 := o.relock (o' := od) ha hr
    have h00 : ∀ u, W.H0 a = some u → u = .frz od (.dK ws) := fun u hu => by
      have := o.fr a u hx hu
      rw [hr] at this
      cases this
      rfl
    refine dc_core (W := W.lock a od ws) hg o1 (fun e he => ?_) (dw.it hx hk.len) (fun p H' ds s' o' p' k => q p _ ds s' (o'.free hx h00) p' k) Inv hlen h0 (fun tms p i d acc s2 hj hI => hs _ tms p i d acc s2 hj hI) hd fun R r => dw.run h1 hr r
    rw [List.mem_singleton.mp he]
    exact ⟨a, ws, rfl, ha, .inr ⟨od, hr⟩, hk⟩
/-- .. that changes nothing -/
theorem LED.dcFD {Φ : List (Key × D) → Rs → Prop} {wi : TI} {g : TG} {tt : TT} {tk tv : TE} {vs : List Nat} (hg : Tg g vs) {i : Nat} {kvs : List (Key × D)} {ys : List D} {J : Addr → Obj → List (Key × V) → It} (dw : DWalk kvs i wi ys J) (hi : ρ[i]? = some (some (.dct kvs))) (hX : ∀ x ∈ W.X0, x ∈ W.X1)
    (h : ∃ f : Nat → List (Key × D), ys.length ≤ 1000 ∧ f 0 = [] ∧
      (∀ H0 tms p i d, ys[i]? = some d → LG ⟨W.K, H0, W.X0, W.X1, tms, W.tb⟩ g d (wipeD ρ vs) (s.pushD p (.dct (f i))) fun ρ3 s3 => LT ⟨W.K, H0, W.X0, W.X1, tms, W.tb⟩ tt ρ3 s3 fun b s4 =>
        (b = true → LE ⟨W.K, H0, W.X0, W.X1, tms, W.tb⟩ tk ρ3 s4 fun y s5 => LE ⟨W.K, H0, W.X0, W.X1, tms, W.tb⟩ tv ρ3 s5 fun z s6 => ∃ k, y = dKey k ∧ s6 = s.pushD p (.dct (f i)) ∧ f (i + 1) = putD (f i) k z) ∧ (b = false → s4 = s.pushD p (.dct (f i)) ∧ f (i + 1) = f i)) ∧
      Φ (f ys.length) s) : LED W (tLkE (tDc wi g tt tk tv vs)) ρ s Φ := by
  obtain ⟨f, hl, h0, hs, hfin⟩ := h
  refine LED.dcD hg dw hi hX ⟨fun i acc s2 => s2 = s ∧ acc = f i, hl, ⟨rfl, h0.symm⟩, fun H0 tms p i d acc s2 hd hI => ?_, fun acc s2 hI => ?_⟩
  · obtain ⟨rfl, rfl⟩ := hI
    have := hs H0 tms p i d hd
    exact LG.mono this fun ρ3 s3 k => LT.mono k fun b s4 k => ⟨fun e => LE.mono (k.1 e) fun y s5 k => LE.mono k fun z s6 ⟨k1, e1, e2, e3⟩ => ⟨k1, s2, e1, e2, rfl, e3.symm⟩, fun e => ⟨s2, (k.2 e).1, rfl, (k.2 e).2.symm⟩⟩
  · obtain ⟨rfl, rfl⟩ := hI
    exact hfin
end
end Pw

namespace Pw
open PySem PySem.Spec PyProof.Rows L2
/-! ### sorted(d, key=lambda k: r[k]) -/
open PySem.W PySem.Calls PyProof.V in
theorem sorted_dict_key {prog : Program} {w : World} {A : Around} {E : Value → Shared → Prop} {s : Shared} {d : Addr} {kvs : List (Key × Value)} {ep : Nat} {f : Value} {kw : List (Str × Value)} {b : Bool} {β : Type} {R : Value → β → Prop} {bs : List β} {Q : Value → Shared → Prop}
    (k : β → PyData) (lo : (d == sysModules) = false) (hd : s.heap.DictAt (mixKind prog w) d kvs ep) (hn : kvs.length ≤ sizeLine) (hh : A.handled = none)
    (e : ∀ vs : List Value, vs.length = kvs.length → (∀ (j : Nat) (v : Value), vs[j]? = some v → ∃ k x, kvs[j]? = some (k, x) ∧ (mixKind prog w).is k v = true) → EachIs R vs bs)
    (hal : AllAlike (bs.map k)) (hk : Sortable (bs.map k)) (hL : bs.length ≤ sizeLine) (hu : ∀ x, x ∈ bs → A.units + 2 + (k x).depth < cLine) (ha1 : argsOk "sorted" ⟨[.ref d], kw⟩) (ha2 : ∀ x, argsOk "list.sort" ⟨[.ref x], kw⟩) (ht : ∀ x, Builtin.«list.sort» ⟨[.ref x], kw⟩ = ksk_tree x f b)
    (turn : ∀ (v : Value) (x : β), R v x → x ∈ bs → ∀ (h : Heap) (tk : Nat), (∀ b o, s.heap.get? b = some o → h.get? b = some o) →
      wpAny (model prog w) A.in1.in1 (call f [v]) (KeyPure (k x) { s with heap := h, toks := tk }) (fun _ _ => False) { s with heap := h, toks := tk })
    (h : ∀ out c h' tk D, (∀ b o, s.heap.get? b = some o → h'.get? b = some o) → s.heap.get? D = none → h'.get? D = some (seqObj "list" (List.toArray out) c) → out.length = bs.length → EachIs R out (bs.mergeSort (dataLe b k)) →
      Q (.ref D) { s with heap := h', toks := tk }) :
    wpAny (model prog w) A (call (.builtin "sorted") [.ref d] kw) Q E s := by
  refine call_function_entry_kw kind_sorted plain_sorted entry_sorted ha1 ?_
  unfold Builtin.«sorted»
  refine wpAny_bind (m := checkCount "sorted" 1 1 _) (wpAny_pure ?_)
  refine wpAny_bind (kdu_collect (A := A.in1) (kdl_dict (knd := mixKind prog w) (kvs := kvs) (ep := ep) lo) hh hd hn fun h1 tk acc hk1 hacc => ?_)
  have hl : acc.toList.length = kvs.length := by rw [Array.length_toList]; exact hacc.1
  have hE := e acc.toList hl (fun j v ej => hacc.2 j v (by rw [← Array.getElem?_toList]; exact ej))
  refine wpAny_bind (wpAny_newList ?_ (by rw [hl]; exact hn))
  have ho : (h1.push { cls := .type "list", data := .seq acc.toList.toArray }).get? h1.objs.size = some (seqObj "list" acc.toList.toArray 0) := Heap.get?_push_size _ rfl
  have sz : s.heap.get? h1.objs.size = none := by
    cases q : s.heap.get? h1.objs.size with
    | none => rfl
    | some o => exact absurd (Heap.lt_size (hk1 _ _ q)) (Nat.lt_irrefl _)
  have up : ∀ {g : Heap}, KeepsBut h1.objs.size (h1.push { cls := .type "list", data := .seq acc.toList.toArray }) g → ∀ b o, s.heap.get? b = some o → g.get? b = some o := fun {g} kp b o q =>
    kp b o (fun z => by rw [z, sz] at q; cases q) (Heap.get?_push_of_some _ (hk1 b o q))
  refine wpAny_bind (wpAny_holding (wpAny_mono (list_sort_key_data (A := A.in1) (b := b) (Q := fun v s' => v = .none ∧ Q (.ref h1.objs.size) s') (s := { s with heap := h1.push { cls := .type "list", data := .seq acc.toList.toArray }, toks := tk }) k ho hE hal hk hL hu (ha2 _) (ht _)
    (fun v x hR hx g tk2 kp => turn v x hR hx g tk2 (up kp)) fun out c h' tk2 kp hD hlen ho2 => ⟨rfl, h out c h' tk2 h1.objs.size (up kp) sz hD hlen ho2⟩) (fun v s' x => ?_) fun _ _ x => x))
  exact wpAny_pure ⟨_, rfl, x.2⟩
theorem obj_there {P : Program} {w : World} {H : Hp} {h : Heap} {a : Addr} {o : HO} (x : ObjOk P w H h a o) : ∃ u, h.get? a = some u := by
  cases o with
  | lst xs => obtain ⟨_, _, _, _, e⟩ := x; exact ⟨_, e⟩
  | tup xs => obtain ⟨_, _, _, p⟩ := x; obtain ⟨o, e, _⟩ := p; exact ⟨_, e⟩
  | dK kvs => obtain ⟨_, _, _, _, o, _, _, e, _⟩ := x; exact ⟨_, e⟩
  | dT kvs => obtain ⟨_, _, _, _, o, _, _, e, _⟩ := x; exact ⟨_, e⟩
  | set S n => obtain ⟨o, _, _, _, e, _⟩ := x; exact ⟨_, e⟩
  | ins C dx fs => obtain ⟨_, _, _, e, _⟩ := x; exact ⟨_, e⟩
  | own y => obtain ⟨_, e⟩ := x; exact ⟨_, e⟩
  | xd fs => obtain ⟨_, ⟨_, _, _, e, _⟩, _⟩ := x; exact ⟨_, e⟩
  | rng lo hi => obtain ⟨_, _, _, e⟩ := x; exact ⟨_, e⟩
  | frz ob u => obtain ⟨e, _⟩ := x; exact ⟨_, e⟩
  | tbl ps => exact ⟨_, (show h.get? a = some _ from x)⟩
  | met f y => exact ⟨_, (show h.get? a = some _ from x)⟩
  | ext φ => obtain ⟨_, ⟨_, e⟩, _⟩ := x; exact ⟨_, e⟩
theorem hok_none {P : Program} {w : World} {H : Hp} {h : Heap} {a : Addr} (x : HOk P w H h) (e : h.get? a = none) : H a = none := by
  cases q : H a with
  | none => rfl
  | some u =>
    obtain ⟨o, z⟩ := obj_there (x a u q)
    rw [e] at z
    cases z
/-- sorted(d, key=lambda p: body), d a dict -/
def tSortD (T : List (Addr × Str)) (t : TA) (KR : L2.St → Hp → V → Int → Prop) : TE := fun σ H Q => t σ H fun vs H1 => ∃ a kvs, vs = [.ref a] ∧ Rd H1 a (.dK kvs) ∧ kvs.length ≤ 1000 ∧ LamX.Tabs T H1 ∧
  ∀ H2, LamX.ExtN H1 H2 → LamX.Tabs T H2 → Rd H2 a (.dK kvs) ∧ ∃ ks : List Int, ks.length = kvs.length ∧ (∀ b ∈ (kvs.map fun q => kV q.1).zip ks, KR σ H2 b.1 b.2) ∧ ∀ q, H2 q = none → Q (.ref q) (upd H2 q (.lst (sortK (kvs.map fun q => kV q.1) ks)))
theorem pe_sortedD {X : Cx} {T : List (Addr × Str)} {KR : L2.St → Hp → V → Int → Prop} {c P : Addr} {k : Nat} {params : Arguments} {body : Expr} {scope : Scope} {p : Str} {e : Expr} {t : TA} {p0 lpos kpos pos : Pos}
    (hg : Gl X ("sorted" : Str)) (hm : X.mg ("sorted" : Str) = none) (hv : bootBuiltins ("sorted" : Str) = some (.builtin "sorted")) (TB : LamX.TabB X.base X.mg c P) (hcode : X.env.code = .ref c) (hmT : (P, X.env.qual ++ "<lambda>") ∈ T) (hu : ∀ p ∈ T, p.1 = P → p.2 = X.env.qual ++ "<lambda>") (hr : Room (k + 1) X.A)
    (L : LamP X.env.scope scope p) (hdef : defaultsOf params X.env = ([], [])) (hbind : ∀ (q : Str) (cl : List (Str × Addr)) (pm cv ctv v : Value), bindArgs (PySem.W.kla_fn "<lambda>" q params body scope cl pm cv ctv) ⟨[v], []⟩ = pure [(p, v)])
    (hkey : KeyR X scope p body KR) (he : PA X [e] t)
    (h1 : backTo pos (starEach [e] X.env) = (false, eval e X.env) :: backTo pos (starEach [] X.env) := by rfl) (hpl : (backTo pos (starEach [e] X.env)).any (·.1) = false := by rfl)
    (hall : (backToKw pos (keywordEach [⟨some ("key" : Str), .Lambda params body scope lpos, kpos⟩] X.env)).all (·.1.isSome) = true := by rfl) (hnone : (backToKw pos (keywordEach [⟨some ("key" : Str), .Lambda params body scope lpos, kpos⟩] X.env)).any (·.1.isNone) = false := by rfl) (hks : (backToKw pos (keywordEach [⟨some ("key" : Str), .Lambda params body scope lpos, kpos⟩] X.env)).filterMap (·.1) = [("key" : Str)] := by rfl) :
    PE X (.Call (.Name ("sorted" : Str) p0) [e] [⟨some ("key" : Str), .Lambda params body scope lpos, kpos⟩] pos) (tSortD T t KR) := by
  refine ⟨fun pins s σ H Q I h => ?_⟩
  refine wpAny_Call_Name_kw (ld_blt I hg hm hv ?_)
  refine PyProof.Rows.callWith_kw (thn (he.run pos pins s σ H _ I h) fun us s1 ⟨vs, H1, I1, r1, q1⟩ => ?_) h1 hpl hall hnone
  obtain ⟨a, kvs, rfl, hq1, hlen, hT, q1⟩ := q1
  obtain ⟨u, eu, ru⟩ := vals1 r1
  subst eu
  obtain rfl : u = Value.ref a := ru
  show wpAny _ _ (evalAll ((do let v ← eval (.Lambda params body scope lpos) X.env; standAt pos; pure v) :: (backToKw pos (keywordEach [] X.env)).map (·.2))) _ _ s1
  refine wpAny_evalAll_cons (wpAny_bind (LamX.lam_make2 I1 TB hcode hmT hu hT hdef (L.has I1.ok) fun f c' pm' ctv H2 s2 I2 eN T2 hf hfn hfr hco => wpAny_bind (wpAny_standAt (wpAny_pure (wpAny_evalAll_nil ?_)))))
  rw [hks]
  obtain ⟨hq2, ks, hkl, hK, q2⟩ := q1 H2 eN T2
  obtain ⟨hz, lo, vs, kv, dd⟩ := dk_rd I2.hok hq2
  obtain ⟨ep, hat⟩ := dd.dictAt
  have hvl : vs.length = kvs.length := kv.length.symm
  have hzl : ((kvs.map fun q => kV q.1).zip ks).length = kvs.length := by rw [List.length_zip, hkl, List.length_map, Nat.min_self]
  show wpAny _ _ (call (.builtin "sorted") [.ref a] [(Str.ofString "key", .ref f)]) _ _ s2
  refine sorted_dict_key (R := fun u (b : V × Int) => RelV b.1 u) (bs := (kvs.map fun q => kV q.1).zip ks) (b := false) (fun b : V × Int => .int b.2) lo hat (by rw [hvl]; exact hz) hr.hd (fun us hul hus => ?_) (PySem.W.AllAlike.of fun _ _ => by simp [PySem.W.alike]) (PySem.W.Sortable.others fun _ => ⟨by simp, by simp⟩) (by rw [hzl, sizeLine_eq]; omega) (fun b _ => ?_) (ksk_s1 _ _) (fun _ => ksk_l1 _ _) (fun _ => ksk_t1 _ _)
    (fun v b hR hb h' tk kp => ?_) fun out c h' tk D kp hD0 hD ho eo => ?_
  · have key : Vals (kvs.map fun q => kV q.1) us := by
      have hkk := kv.keys
      refine (show ∀ (ks : List Key) (us : List Value), us.length = ks.length → (∀ (j : Nat) (v : Value) (k : Key), us[j]? = some v → ks[j]? = some k → RelV (kV k) v) → Vals (ks.map kV) us from ?_) (kvs.map (·.1)) us (by rw [List.length_map, hul, hvl]) (fun j v k hj hk => ?_) |> fun z => by rw [List.map_map] at z; exact z
      · intro ks
        induction ks with
        | nil => intro us e _; match us, e with | [], _ => exact .nil
        | cons k ks ih =>
          intro us e f
          match us, e with
          | u :: us, e => exact .cons (f 0 u k rfl rfl) (ih us (Nat.succ.inj e) fun j v k hj hk => f (j + 1) v k (by simpa using hj) (by simpa using hk))
      · obtain ⟨k', x, e1, e2⟩ := hus j v hj
        rw [hkk, List.getElem?_map, e1] at hk
        cases hk
        exact relV_key e2
    exact each_zip key (by rw [List.length_map]; exact hkl)
  · have := hr.un
    simp only [PyData.depth]
    omega
  · refine key_call I2 L hf hco (hbind _ _ _ _ _ _) ?_ (fun A h₁ La k1 hn => hkey pins σ H2 s2 b.1 v b.2 I2 hR (hK b hb) A h₁ La f c' k1 hn) kp
    have := hr.dp
    show X.A.depth < _
    omega
  · rw [PySem.W.dataLe_int (β := V × Int) (fun b => b.2)] at eo
    have hv2 := vals_sort eo
    have hsz : (sortK (kvs.map fun q => kV q.1) ks).length ≤ sizeLine := by
      unfold sortK
      rw [List.length_map, List.length_mergeSort, hzl, sizeLine_eq]
      omega
    have hDn : H2 D = none := hok_none I2.hok hD0
    exact ⟨.ref D, upd H2 D (.lst (sortK (kvs.map fun q => kV q.1) ks)), I2.laidN (t' := tk) kp hD0 hDn (show ObjOk X.prog X.w _ _ _ (.lst (sortK (kvs.map fun q => kV q.1) ks)) from ⟨hsz, out, c, hv2, hD⟩), rfl, q2 _ hDn⟩
/-! the key r[k] -/
theorem KEv.dget {P : Program} {w : World} {A : Around} {env : Env} {h0 : Heap} {R : Value → Prop} {pos : Pos} {a b : Expr} {d : Addr} {vs : List (Key × Value)} {k : Key} {v : Value} (ha : KEv P w A env a h0 fun u => u = .ref d) (hb : KEv P w A env b h0 fun u => RelV (kV k) u) (hd : h0.DictOf (mixKind P w) d vs) (hv : valueAt vs k = some v) (hr : R v)
    (hs : NoSl b) : KEv P w A env (.Subscript a b pos) h0 R := fun E s Q k' q => by
  refine subD_of PySem.F.slot_dict_getitem.lookup hs (ha _ _ _ k' fun u tk e => ?_)
  subst e
  refine hb _ _ _ k' fun u tk2 e => ?_
  have dd : s.heap.DictOf (mixKind P w) d vs := hd.keep k'
  exact ⟨Heap.DictOf.typeIs (s := { s with toks := tk2 }) dd, wpAny_getItem_of (s := { s with toks := tk2 }) (kV_is e) dd.mapOf hv (q v (tk2 + 1) hr)⟩
def krRank (ir : Nat) : L2.St → Hp → V → Int → Prop := fun σ H x n => ∃ d kvs k, σ[ir]? = some (some (.ref d)) ∧ Rd H d (.dK kvs) ∧ x = kV k ∧ valV kvs k = some (.int n)
theorem key_rank {X : Cx} {scope : Scope} {p y : Str} {ir : Nat} {q0 q1 q2 : Pos} (L : LamP X.env.scope scope p) (hN : X.N[ir]? = some y) (hy : scope.names.lookup y = some .free) (hdp : (p == ("__debug__" : Str)) = false := by decide) (hd : (y == ("__debug__" : Str)) = false := by decide) (hcd : (y == ("__classdict__" : Str)) = false := by decide) :
    KeyR X scope p (.Subscript (.Name y q0) (.Name p q1) q2) (krRank ir) := by
  intro pins σ H s x v n I rx hk A h₁ La f c' k1 hn
  obtain ⟨d, kvs, k, hw, hrd, rfl, hval⟩ := hk
  obtain ⟨c, u, hc, hcell, ru⟩ := cap_at I L hN hw hy
  obtain rfl : u = Value.ref d := ru
  obtain ⟨hz, lo, vs, kv, dd⟩ := dk_rd I.hok hrd
  obtain ⟨w', hw', rw'⟩ := RelO.some_of (v := .int n) (o := valueAt vs k) (by rw [← hval]; exact kv.val k)
  obtain ⟨tw, rfl⟩ := rw'
  have hkF : (LamX.lamEnv X scope La f c').kindOf y = some .free := by
    show scope.names.lookup y = some .free
    exact hy
  have hkL : (LamX.lamEnv X scope La f c').kindOf p = some .local := by
    show scope.names.lookup p = some .local
    exact L.par
  have k1' := k1
  refine KEv.dget (d := d) (vs := vs) (k := k) (v := .int n tw) (KEv.free L.kind hkF hc (by obtain ⟨o, ho, hd⟩ := hcell; exact ⟨o, k1 _ _ ho, hd⟩) rfl hd hcd) (KEv.loc L.kind hkL hn (by simp) rx hdp) (dd.keep k1) hw' ⟨tw, rfl⟩ (fun _ _ => rfl)
theorem isK_keys {K : PySem.W.Frag} {Xs : List Addr} {H : Hp} : ∀ {kvs : List (Key × D)} {vs : List (Key × V)}, IsK K Xs H kvs vs → vs.map (·.1) = kvs.map (·.1)
  | [], vs, h => by cases (show vs = [] from h); rfl
  | (f, d) :: r, vs, h => by
    obtain ⟨x, q, rfl, h1, h2⟩ := h
    rw [List.map_cons, List.map_cons, isK_keys h2]
theorem keys_is {K : PySem.W.Frag} {Xs : List Addr} {H : Hp} : ∀ ks : List Key, IsL K Xs H (ks.map dKey) (ks.map kV)
  | [] => rfl
  | k :: ks => ⟨kV k, ks.map kV, rfl, is_key k, keys_is ks⟩
section
variable {W : Wd} {ρ : En} {s : Rs}
theorem LEL.sortD {Φ : List D → Rs → Prop} {t : TA} {KR : L2.St → Hp → V → Int → Prop} (key : D → Int)
    (h : LA W t ρ s fun ds s1 => ∃ kvs, ds = [.dct kvs] ∧ kvs.length ≤ 1000 ∧ (∀ (σ : L2.St) (H : Hp) (k : Key), Ok W σ H ρ s1 → k ∈ kvs.map (·.1) → KR σ H (kV k) (key (dKey k))) ∧ Φ ((keysD kvs).mergeSort fun a b => decide (key a ≤ key b)) s1) :
    LEL W (tSortD W.tb t KR) ρ s Φ := fun σ H o Q q => by
  refine h σ H o _ fun vs H1 ds s1 o1 p1 i1 k => ?_
  obtain ⟨kvs, rfl, hl, hK, k⟩ := k
  obtain ⟨v, rfl, e1⟩ := IsL.one i1
  obtain ⟨a, ws, rfl, g0, g1, g2⟩ := e1
  refine ⟨a, ws, rfl, g1, by rw [g2.len]; exact hl, o1.tbs.t, fun H2 eN T2 => ?_⟩
  have eT : ExtT W.tb H1 H2 := ⟨eN, T2⟩
  have o2 := o1.ext eT
  have pT := o1.presT eT
  have g1' : Rd H2 a (.dK ws) := g1.imp (fun z => eN _ _ z (fun ps y => by cases y)) (fun ⟨ob, z⟩ => ⟨ob, eN _ _ z (fun ps y => by cases y)⟩)
  have ek : (ws.map fun q => kV q.1) = (kvs.map (·.1)).map kV := by rw [← isK_keys g2, List.map_map]; rfl
  have ed : (keysD kvs) = (kvs.map (·.1)).map dKey := by unfold keysD; rw [List.map_map]; rfl
  refine ⟨g1', (keysD kvs).map key, by rw [List.length_map, ed, List.length_map, List.length_map, g2.len], fun b hb => ?_, fun p hp => ?_⟩
  · obtain ⟨i, hi⟩ := List.mem_iff_getElem?.mp hb
    obtain ⟨h1, h2⟩ := List.getElem?_zip_eq_some.mp hi
    rw [ek, List.getElem?_map] at h1
    rw [ed, List.getElem?_map, List.getElem?_map] at h2
    cases e : (kvs.map (·.1))[i]? with
    | none => rw [e] at h2; cases h2
    | some kk =>
      rw [e] at h1 h2
      have h1 : kV kk = b.1 := Option.some.inj h1
      have h2 : key (dKey kk) = b.2 := Option.some.inj h2
      rw [← h1, ← h2]
      exact hK σ H2 kk o2 (List.mem_of_getElem? e)
  · have hs : IsL W.K (adrs s1) H2 ((keysD kvs).mergeSort fun a b => decide (key a ≤ key b)) (Pw.sortK (ws.map fun q => kV q.1) ((keysD kvs).map key)) := by
      rw [ek, ed]
      exact sortK_is key (keys_is _)
    obtain ⟨o3, p3⟩ := o2.newL hp hs
    exact q p _ _ s1 o3 ((p1.trans pT).trans p3) k
/-- the key r[k], r a dict of one's own -/
theorem kr_rankO {ir : Nat} {p : Addr} {rk : List (Key × D)} {k : Key} {n : Int} {σ : L2.St} {H : Hp} (hi : ρ[ir]? = some (some (.adr p))) (hm : (p, .dct rk) ∈ s.own) (hv : valD rk k = some (.int n)) (o : Ok W σ H ρ s) : krRank ir σ H (kV k) n := by
  obtain ⟨v, h1, h2⟩ := o.sl ir _ hi
  cases (show v = .ref p from h2)
  obtain ⟨ws, e0, hk⟩ := o.rk.ow _ hm
  obtain ⟨u, e1, e2⟩ := (hk.val k).1 _ hv
  cases (show u = .int n from e2)
  exact ⟨p, ws, k, h1, .inl e0, rfl, e1⟩
theorem kr_rank {ir : Nat} {rk : List (Key × D)} {k : Key} {n : Int} {σ : L2.St} {H : Hp} (hi : ρ[ir]? = some (some (.dct rk))) (hv : valD rk k = some (.int n)) (o : Ok W σ H ρ s) : krRank ir σ H (kV k) n := by
  obtain ⟨v, h1, a, ws, rfl, _, hr, hk⟩ := o.sl ir _ hi
  obtain ⟨u, e1, e2⟩ := (hk.val k).1 _ hv
  cases (show u = .int n from e2)
  exact ⟨a, ws, k, h1, hr, rfl, e1⟩
end
end Pw

namespace Pw
open PySem L2
/-! ### dicts made of a list with names -/
section
variable {α : Type}
theorem valD_map {nm : α → Str} {f : α → D} : ∀ {ls : List α} {q : α}, (ls.map nm).Nodup → q ∈ ls → valD (ls.map fun q => (Sum.inr (nm q), f q)) (.inr (nm q)) = some (f q)
  | a :: r, q, hn, hq => by
    have hn2 := List.nodup_cons.mp (show (nm a :: r.map nm).Nodup from hn)
    rcases List.mem_cons.mp hq with z | z
    · subst z
      simp [valD, List.find?_cons]
    · have hne : nm a ≠ nm q := fun e => hn2.1 (by rw [e]; exact List.mem_map.mpr ⟨q, z, rfl⟩)
      have ih := valD_map (f := f) hn2.2 z
      have : valD ((a :: r).map fun q => (Sum.inr (nm q), f q)) (.inr (nm q)) = valD (r.map fun q => (Sum.inr (nm q), f q)) (.inr (nm q)) := by
        simp [valD, List.find?_cons, hne]
      rw [this, ih]
theorem putD_new {kvs : List (Key × D)} {k : Key} {d : D} (h : ∀ x ∈ kvs, x.1 ≠ k) : putD kvs k d = kvs ++ [(k, d)] := by
  unfold putD
  rw [if_neg]
  simp only [List.any_eq_true, decide_eq_true_eq, not_exists, not_and]
  exact fun x hx => h x hx
theorem putD_map {nm : α → Str} {f : α → D} {ls : List α} {n : Str} {d : D} (h : n ∈ ls.map nm) : putD (ls.map fun q => (Sum.inr (nm q), f q)) (.inr n) d = ls.map fun q => (Sum.inr (nm q), if nm q = n then d else f q) := by
  unfold putD
  rw [if_pos]
  · rw [List.map_map]
    refine List.map_congr_left fun q _ => ?_
    by_cases z : nm q = n
    · simp [z]
    · simp [z]
  · obtain ⟨q, hq, rfl⟩ := List.mem_map.mp h
    simp only [List.any_eq_true, decide_eq_true_eq]
    exact ⟨_, List.mem_map.mpr ⟨q, hq, rfl⟩, rfl⟩
theorem putD_step {nm : α → Str} {f : α → D} {ls : List α} {i : Nat} {q : α} (hn : (ls.map nm).Nodup) (hq : ls[i]? = some q) : putD ((ls.take i).map fun q => (Sum.inr (nm q), f q)) (.inr (nm q)) (f q) = (ls.take (i + 1)).map fun q => (Sum.inr (nm q), f q) := by
  rw [take_succ_get hq, List.map_append, putD_new]
  · rfl
  · intro x hx e
    obtain ⟨p, hp, rfl⟩ := List.mem_map.mp hx
    have e : nm p = nm q := by simpa using e
    obtain ⟨j, hj⟩ := List.mem_iff_getElem?.mp hp
    obtain ⟨hi, ei⟩ := List.getElem?_eq_some_iff.mp hq
    obtain ⟨hj1, ej⟩ := List.getElem?_eq_some_iff.mp hj
    have hji : j < i := by
      rw [List.length_take] at hj1; omega
    rw [List.getElem_take] at ej
    have h1 : (ls.map nm)[j]'(by rw [List.length_map]; omega) = (ls.map nm)[i]'(by rw [List.length_map]; omega) := by
      rw [List.getElem_map, List.getElem_map, ej, ei, e]
    exact absurd h1 (List.pairwise_iff_getElem.mp hn j i (by rw [List.length_map]; omega) (by rw [List.length_map]; omega) hji)
theorem keysD_get {nm : α → Str} {f : α → D} {ls : List α} {i : Nat} {d : D} (h : (keysD (ls.map fun q => (Sum.inr (nm q), f q)))[i]? = some d) : ∃ q, ls[i]? = some q ∧ d = .str (nm q) := by
  unfold keysD at h
  rw [List.map_map, List.getElem?_map] at h
  cases e : ls[i]? with
  | none => rw [e] at h; cases h
  | some q => rw [e] at h; cases h; exact ⟨q, rfl, rfl⟩
theorem keysD_len {nm : α → Str} {f : α → D} {ls : List α} : (keysD (ls.map fun q => (Sum.inr (nm q), f q))).length = ls.length := by
  unfold keysD
  rw [List.length_map, List.length_map]
end
end Pw

namespace Pw
open PySem PySem.Spec PyProof.Rows L2
/-! ### texts -/
section
variable {W : Wd} {ρ : En} {s : Rs} {Ψ : D → Prop}
theorem OpD.ix3L {ds : List D} {i : Int} {d : D} (e : atI ds i = some d) (h : Ψ d) : OpD W (rIx W.K) s (.lst ds) (.int i) Ψ := fun H vx vy r h1 h2 Q q => .inl (OpD.ixL e h H vx vy r h1 h2 Q q)
theorem OpD.ix3S {z : Str} {i : Int} {c : Nat} (hz : z.length ≤ 1000) (e : atI z.cps.toList i = some c) (h : Ψ (.str ⟨#[c]⟩)) : OpD W (rIx W.K) s (.str z) (.int i) Ψ := fun H vx vy r h1 h2 Q q =>
  .inr (.inr ⟨z, i, c, h1, h2, Nat.le_of_lt (small1000 hz), e, q _ H (.str ⟨#[c]⟩) (Same.refl H) rfl h⟩)
theorem OpD.addS {x y : Str} (hz : x.length + y.length ≤ 1000) (h : Ψ (.str (x ++ y))) : OpD W (fun a b H Q => ∃ i j, a = .str i ∧ b = .str j ∧ i.length + j.length ≤ sizeLine ∧ Q (V.str (i ++ j)) H) s (.str x) (.str y) Ψ := fun H vx vy r h1 h2 Q q =>
  ⟨x, y, h1, h2, Nat.le_of_lt (small1000 hz), q _ H (.str (x ++ y)) (Same.refl H) rfl h⟩
theorem OpD.inO {p : Addr} {d : D} {ds : List D} (hp : (p, .lst ds) ∈ s.own) (hd : flatD d = true) (hs : ds.all flatD = true) (h : Ψ (.bl (inD d ds))) : OpD W (rIn W.K false) s d (.adr p) Ψ := fun H vx vy r h1 h2 Q q => by
  obtain ⟨xs, g1, g2⟩ := r.ow _ hp
  obtain ⟨e1, e2⟩ := flat_is h1 hd
  obtain ⟨e3, e4⟩ := flat_isL g2 hs
  refine ⟨p, xs, h2, .inl (SqL.of g1), e2, e4, ?_⟩
  rw [if_neg Bool.false_ne_true, e1, e3]
  exact q _ H (.bl (inD d ds)) (Same.refl H) rfl h
theorem OpD.notInO {p : Addr} {d : D} {ds : List D} (hp : (p, .lst ds) ∈ s.own) (hd : flatD d = true) (hs : ds.all flatD = true) (h : Ψ (.bl (!inD d ds))) : OpD W (rIn W.K true) s d (.adr p) Ψ := fun H vx vy r h1 h2 Q q => by
  obtain ⟨xs, g1, g2⟩ := r.ow _ hp
  obtain ⟨e1, e2⟩ := flat_is h1 hd
  obtain ⟨e3, e4⟩ := flat_isL g2 hs
  refine ⟨p, xs, h2, .inl (SqL.of g1), e2, e4, ?_⟩
  rw [if_pos rfl, e1, e3]
  exact q _ H (.bl (!inD d ds)) (Same.refl H) rfl h
def rLen3 (K : PySem.W.Frag) : List V → Hp → VK → Prop := fun xs H Q => ∃ x n, xs = [x] ∧ LenV K x H n ∧ Q (.int n) H
theorem CbD.len3L {ds : List D} (h : Ψ (.int ds.length)) : CbD W (rLen3 W.K) s [.lst ds] Ψ := fun H vs r h1 Q q => by
  obtain ⟨v, rfl, e⟩ := IsL.one h1
  obtain ⟨a, xs, rfl, _, g1, g2⟩ := e
  exact ⟨.ref a, xs.length, rfl, .inl ⟨xs, SqL.of g1, rfl⟩, by rw [g2.length]; exact q _ H (.int ds.length) (Same.refl H) rfl h⟩
theorem CbD.len3S {z : Str} (hz : z.length ≤ 1000) (h : Ψ (.int z.length)) : CbD W (rLen3 W.K) s [.str z] Ψ := fun H vs r h1 Q q => by
  obtain ⟨v, rfl, e⟩ := IsL.one h1
  cases (show v = .str z from e)
  exact ⟨.str z, z.length, rfl, ⟨Nat.le_of_lt (small1000 hz), rfl⟩, q _ H (.int z.length) (Same.refl H) rfl h⟩
/-- the signs of a text -/
def signsD (z : Str) : List D := z.cps.toList.map fun c => .str ⟨#[c]⟩
theorem ItOk.str {z : Str} : ItOk W (Its z) (signsD z) [] := by
  have hl : (signsD z).length = z.cps.size := by unfold signsD; rw [List.length_map, Array.length_toList]
  refine ⟨fun _ => True, fun i H v H' => H' = H ∧ ∃ c, z.cps[i]? = some c ∧ v = .str ⟨#[c]⟩, by rw [hl]; exact walk_str, fun s H r h _ => ⟨trivial, fun i x H' hi ⟨e, c, h1, h2⟩ => ?_⟩⟩
  subst e h2
  exact ⟨Same.refl _, .str ⟨#[c]⟩, by unfold signsD; rw [List.getElem?_map, Array.getElem?_toList, h1]; rfl, rfl⟩
theorem LI.str {Φ : List D → Rs → Prop} {te : TE} (h : LE W te ρ s fun x s1 => ∃ z, x = .str z ∧ Φ (signsD z) s1) : LI W (iStr te) ρ s Φ := fun σ H o R q => by
  refine h σ H o _ fun v H1 x s1 o1 p1 i1 k => ?_
  obtain ⟨z, rfl, k⟩ := k
  exact ⟨z, i1, q _ H1 _ s1 [] o1 p1 (fun e he => by cases he) ItOk.str k⟩
theorem LE.sliceS {Φ : D → Rs → Prop} {te : TE} {tl th : TO} (h : LE W te ρ s fun x s1 => LO W tl ρ s1 fun lo s2 => LO W th ρ s2 fun hi s3 => ∃ z, x = .str z ∧ z.length ≤ 1000 ∧ Φ (.str (cutS z lo hi)) s3) : LE W (tSl rSlS te tl th) ρ s Φ := fun σ H o Q q => by
  refine h σ H o _ fun vx H1 x s1 o1 p1 i1 k1 => ?_
  refine k1 σ H1 o1 _ fun lo H2 s2 o2 p2 k2 => ?_
  refine k2 σ H2 o2 _ fun hi H3 s3 o3 p3 k3 => ?_
  obtain ⟨z, rfl, hz, k⟩ := k3
  exact ⟨z, i1, Nat.le_of_lt (small1000 hz), q _ H3 (.str (cutS z lo hi)) s3 o3 ((p1.trans p2).trans p3) rfl k⟩
theorem isL_str {K : PySem.W.Frag} {Xs : List Addr} {H : Hp} : ∀ {ys : List Str} {vs : List V}, IsL K Xs H (ys.map D.str) vs → vs = ys.map V.str
  | [], vs, h => by cases (show vs = [] from h); rfl
  | y :: ys, vs, h => by
    obtain ⟨x, r, rfl, h1, h2⟩ := h
    cases (show x = .str y from h1)
    rw [isL_str h2]; rfl
/-- sep.join(a list of texts) -/
theorem LE.join {Φ : D → Rs → Prop} {to te : TE} (h : LE W to ρ s fun x s1 => (∃ a, x = .str a) ∧ LE W te ρ s1 fun y s2 => ∃ a ys, x = .str a ∧ y = .lst (ys.map D.str) ∧ (ys.map (·.length)).sum + ys.length * a.length ≤ 16777216 ∧ Φ (.str (Txt.join a ys)) s2) :
    LE W (tM1 (fun x xs H Q => ∃ a p, ∃ ys : List Str, x = .str a ∧ xs = [.ref p] ∧ (SqL W.K H p (ys.map V.str) ∨ SqT W.K H p (ys.map V.str)) ∧ (ys.map (·.length)).sum + ys.length * a.length ≤ 16777216 ∧ Q (.str (Txt.join a ys)) H) to te) ρ s Φ := fun σ H o Q q => by
  refine h σ H o _ fun vx H1 x s1 o1 p1 i1 k1 => ?_
  obtain ⟨⟨a, rfl⟩, k1⟩ := k1
  refine ⟨⟨a, i1⟩, k1 σ H1 o1 _ fun vy H2 y s2 o2 p2 i2 k2 => ?_⟩
  obtain ⟨a', ys, ea, rfl, hz, k2⟩ := k2
  cases ea
  obtain ⟨p, xs, rfl, _, g1, g2⟩ := i2
  cases isL_str g2
  exact ⟨a, p, ys, i1, rfl, .inl (SqL.of g1), hz, q _ H2 (.str (Txt.join a ys)) s2 o2 (p1.trans p2) rfl k2⟩
end
end Pw
namespace Pw
open PySem L2
/-! ### names -/
structure NameOk (x : Str) : Prop where
  lo : 1 ≤ x.length
  hi : x.length ≤ 8
  az : ∀ c ∈ x.cps.toList, 97 ≤ c ∧ c ≤ 122
theorem nodup_le {α : Type} [DecidableEq α] : ∀ {l m : List α}, l.Nodup → (∀ x ∈ l, x ∈ m) → l.length ≤ m.length
  | [], m, _, _ => Nat.zero_le _
  | a :: r, m, h, hm => by
    obtain ⟨h1, h2⟩ := List.nodup_cons.mp h
    have ha := hm a (List.mem_cons_self ..)
    have ih := nodup_le (m := m.erase a) h2 fun x hx => (List.mem_erase_of_ne (show x ≠ a from fun e => h1 (by rw [← e]; exact hx))).mpr (hm x (List.mem_cons_of_mem _ hx))
    rw [List.length_erase_of_mem ha] at ih
    have : 0 < m.length := List.length_pos_of_mem ha
    rw [List.length_cons]
    omega
theorem str_append (a b : Str) : (a ++ b).cps.toList = a.cps.toList ++ b.cps.toList := by
  show (a.cps ++ b.cps).toList = _
  rw [Array.toList_append]
theorem str_ext {a b : Str} (h : a.cps.toList = b.cps.toList) : a = b := by
  cases a with
  | mk x => cases b with
    | mk y => congr 1; exact Array.toList_inj.mp h
theorem str_len (a : Str) : a.length = a.cps.toList.length := by
  show a.cps.size = _
  rw [Array.length_toList]
def variants (base : Str) (cs : List Nat) : List Str := cs.map fun c => base ++ (⟨#[c]⟩ : Str)
theorem variants_nodup {base : Str} {cs : List Nat} (h : cs.Nodup) : (variants base cs).Nodup := by
  unfold variants
  refine List.pairwise_map.mpr (h.imp fun {a b} hab e => hab ?_)
  have := congrArg (fun s : Str => s.cps.toList) e
  simp only [str_append] at this
  have := List.append_cancel_left this
  simpa using this
/-- one of the candidates is new -/
theorem fresh_name {base : Str} {cs : List Nat} {found : List Str} (h : cs.Nodup) (hl : found.length < cs.length) : ∃ x ∈ variants base cs, x ∉ found := by
  have : ¬ ∀ x ∈ variants base cs, x ∈ found := fun z => by
    have := nodup_le (variants_nodup (base := base) h) z
    unfold variants at this
    rw [List.length_map] at this
    omega
  simp only [Classical.not_forall] at this
  obtain ⟨x, hx, hn⟩ := this
  exact ⟨x, hx, hn⟩
theorem inV_str (x : Str) : ∀ ys : List Str, inV (.str x) (ys.map V.str) = decide (x ∈ ys)
  | [] => by simp [inV]
  | y :: ys => by
    have ih := inV_str x ys
    unfold inV at ih ⊢
    rw [List.map_cons, List.any_cons, ih, Bool.eq_iff_iff]
    simp only [Bool.or_eq_true, decide_eq_true_eq, List.mem_cons]
    constructor
    · rintro (z | z)
      · exact .inl (eq_of_beq (show (y == x) = true from z)).symm
      · exact .inr z
    · rintro (z | z)
      · subst z; exact .inl (show (x == x) = true from beq_self_eq_true x)
      · exact .inr z
theorem inD_str (x : Str) (ys : List Str) : inD (.str x) (ys.map D.str) = decide (x ∈ ys) := by
  unfold inD
  rw [List.map_map]
  exact inV_str x ys
theorem flat_strs (ys : List Str) : (ys.map D.str).all flatD = true := by
  rw [List.all_map]
  exact List.all_eq_true.mpr fun _ _ => rfl
theorem join_one0 : ∀ cs : List Nat, Str.join Str.empty (cs.map fun c => (⟨#[c]⟩ : Str)) = (⟨cs.toArray⟩ : Str)
  | [] => rfl
  | [c] => rfl
  | c :: c' :: r => by
    have ih := join_one0 (c' :: r)
    refine str_ext ?_
    show ((⟨#[c]⟩ : Str) ++ Str.empty ++ Str.join Str.empty ((c' :: r).map fun c => (⟨#[c]⟩ : Str))).cps.toList = c :: c' :: r
    rw [str_append, str_append, ih]
    rfl
theorem join_one (cs : List Nat) : Txt.join Str.empty (cs.map fun c => (⟨#[c]⟩ : Str)) = (⟨cs.toArray⟩ : Str) := by
  rw [TL.join_eq]
  exact join_one0 cs
end Pw

namespace Pw
open PySem PySem.Spec PyProof.Rows L2
/-! ### sorted(xs), xs data of any one shape -/
def leD (a b : D) : Bool := PySem.W.dataLe (β := D) false pyd a b
theorem is_rows {K : PySem.W.Frag} {Xs : List Addr} {H : Hp} : ∀ {ds : List D} {vs : List V} {us : List Value}, IsL K Xs H ds vs → Vals vs us → PySem.W.EachIs (fun u (b : D × V) => RelV b.2 u) us (ds.zip vs)
  | [], vs, us, h, r => by
    cases (show vs = [] from h)
    cases r
    exact .nil
  | d :: ds, vs, us, h, r => by
    obtain ⟨x, q, rfl, h1, h2⟩ := h
    cases r with
    | cons r1 r2 => exact .cons r1 (is_rows h2 r2)
theorem is_reads {X : Cx} {pins : List (Addr × Obj)} {σ : L2.St} {H : Hp} {s : Shared} {Xs : List Addr} (I : L2.Inv X pins σ H s) : ∀ {ds : List D} {vs : List V} {us : List Value}, (∀ d ∈ ds, rok d) → IsL X.K Xs H ds vs → Vals vs us → PySem.W.EachIs (fun u (b : D × V) => ∃ as, Reads s.heap u (pyd b.1) as) us (ds.zip vs)
  | [], vs, us, hk, h, r => by
    cases (show vs = [] from h)
    cases r
    exact .nil
  | d :: ds, vs, us, hk, h, r => by
    obtain ⟨x, q, rfl, h1, h2⟩ := h
    cases r with
    | cons r1 r2 => exact .cons (reads_of I d x _ (hk d (List.mem_cons_self ..)) h1 r1) (is_reads I (fun e he => hk e (List.mem_cons_of_mem _ he)) h2 r2)
theorem vals_rows {out : List Value} : ∀ {bs : List (D × V)}, PySem.W.EachIs (fun u (b : D × V) => RelV b.2 u) out bs → Vals (bs.map (·.2)) out := by
  intro bs h
  induction h with
  | nil => exact .nil
  | cons h1 h2 ih => exact .cons h1 ih
structure SrtOk (ds : List D) : Prop where
  len : ds.length ≤ 1000
  ok : ∀ d ∈ ds, rok d
  dp : ∀ d ∈ ds, (pyd d).depth ≤ 20
  al : PySem.W.AllAlike (ds.map pyd)
  so : PySem.W.Sortable (ds.map pyd)
def rSortD (K : PySem.W.Frag) : List V → Hp → VK → Prop := fun xs H Q => ∃ a vs ds Xs, xs = [.ref a] ∧ SqL K H a vs ∧ IsL K Xs H ds vs ∧ SrtOk ds ∧ ∀ q, H q = none → Q (.ref q) (upd H q (.lst (((ds.zip vs).mergeSort fun a b => leD a.1 b.1).map (·.2))))
theorem call_sortD {X : Cx} {k : Nat} (hr : Room (k + 1) X.A) : CallR X (.builtin "sorted") (rSortD X.K) := by
  intro pins s σ H xs us Q I r h
  obtain ⟨a, vs, ds, Xs, rfl, hq, hi, ok, q⟩ := h
  obtain ⟨u, rfl, ru⟩ := vals1 r
  obtain rfl : u = Value.ref a := ru
  obtain ⟨its, rv, pl, hz⟩ := I.list hq
  have hl := hi.length
  have hzl : (ds.zip vs).length = ds.length := by rw [List.length_zip, hl, Nat.min_self]
  have e1 : (ds.zip vs).map (·.1) = ds := List.map_fst_zip (by omega)
  have hm : (ds.zip vs).map (fun b : D × V => pyd b.1) = ds.map pyd := by
    have : (ds.zip vs).map (fun b : D × V => pyd b.1) = ((ds.zip vs).map (·.1)).map pyd := by rw [List.map_map]; rfl
    rw [this, e1]
  refine PySem.W.sorted_data (enc := fun b : D × V => pyd b.1) (R := fun u (b : D × V) => RelV b.2 u) (bs := ds.zip vs) pl.isList (is_rows hi rv) (is_reads I ok.ok hi rv) (by rw [hm]; exact ok.al) (by rw [hm]; exact ok.so) (by rw [hzl, sizeLine_eq]; have := ok.len; omega) (fun b hb => ?_) fun out ho eo => ?_
  · have h1 := ok.dp b.1 (List.of_mem_zip hb).1
    have h2 := hr.un
    omega
  · have hv2 := vals_rows eo
    obtain ⟨ep, he'⟩ := PyProof.Rows.sortedAll_at s.heap its out.toArray
    have hsz : (((ds.zip vs).mergeSort fun a b => leD a.1 b.1).map (·.2)).length ≤ sizeLine := by
      rw [List.length_map, List.length_mergeSort, hzl, sizeLine_eq]
      have := ok.len
      omega
    exact ⟨.ref _, upd H (s.heap.objs.size + 1) (.lst (((ds.zip vs).mergeSort fun a b => leD a.1 b.1).map (·.2))), I.laid (t' := s.toks) (fun _ _ => PyProof.Rows.sortedAll_old) (Nat.le_succ _) ⟨hsz, out, ep, hv2, he'⟩, rfl, q _ (I.hok.fresh (Nat.le_succ _))⟩
theorem sortD_is {K : PySem.W.Frag} {Xs : List Addr} {H : Hp} {ds : List D} {vs : List V} (h : IsL K Xs H ds vs) : IsL K Xs H (ds.mergeSort leD) (((ds.zip vs).mergeSort fun a b => leD a.1 b.1).map (·.2)) := by
  have hl := h.length
  have e1 : (ds.zip vs).map (·.1) = ds := List.map_fst_zip (by omega)
  have m1 : ((ds.zip vs).mergeSort fun a b => leD a.1 b.1).map (·.1) = ds.mergeSort leD := by
    rw [List.map_mergeSort (s := leD) (fun _ _ _ _ => rfl), e1]
  rw [← m1]
  exact IsL.of2 fun b hb => h.mem2 b ((List.mergeSort_perm _ _).mem_iff.mp hb)
section
variable {W : Wd} {ρ : En} {s : Rs}
theorem LEL.sorted {Φ : List D → Rs → Prop} {t : TA} (h : LA W t ρ s fun ds s1 => ∃ es, ds = [.lst es] ∧ SrtOk es ∧ Φ (es.mergeSort leD) s1) : LEL W (tCB (rSortD W.K) t) ρ s Φ := fun σ H o Q q => by
  refine h σ H o _ fun vs H1 ds s1 o1 p1 i1 k => ?_
  obtain ⟨es, rfl, ok, k⟩ := k
  obtain ⟨v, rfl, e1⟩ := IsL.one i1
  obtain ⟨a, xs, rfl, g0, g1, g2⟩ := e1
  refine ⟨a, xs, es, adrs s1, rfl, SqL.of g1, g2, ok, fun p hp => ?_⟩
  obtain ⟨o3, p3⟩ := o1.newL hp (sortD_is g2)
  exact q p _ _ s1 o3 (p1.trans p3) k
end
/-- rows that begin with two whole numbers, which tell them apart -/
theorem leD_row {a b a' b' : Int} {r r' : List D} (h : a ≠ a' ∨ b ≠ b') : leD (.tup (.int a :: .int b :: r)) (.tup (.int a' :: .int b' :: r')) = decide (a < a' ∨ (a = a' ∧ b < b')) := by
  show (!(PyProof.Rows.listOrd PyProof.Rows.itemOrd).blt (PySem.W.keyToks (pyd (.tup (.int a' :: .int b' :: r')))) (PySem.W.keyToks (pyd (.tup (.int a :: .int b :: r))))) = _
  show (!PyProof.Rows.lexLt PyProof.Rows.itemOrd (.inl 1 :: .inl a' :: .inl 1 :: .inl b' :: PySem.W.keyToksAll (pydL r')) (.inl 1 :: .inl a :: .inl 1 :: .inl b :: PySem.W.keyToksAll (pydL r))) = _
  rw [PyProof.Rows.lex_cons, PyProof.Rows.lex_cons, PyProof.Rows.lex_cons, PyProof.Rows.lex_cons]
  show (!(decide ((1 : Int) < 1) || (!decide ((1 : Int) < 1) && (decide (a' < a) || (!decide (a < a') && (decide ((1 : Int) < 1) || (!decide ((1 : Int) < 1) && (decide (b' < b) || (!decide (b < b') && _)))))))))  = _
  generalize PyProof.Rows.lexLt _ _ _ = z
  rcases Int.lt_trichotomy a a' with q | q | q
  · have h1 : ¬ a' < a := by omega
    simp [q, h1]
  · subst q
    have hb : b ≠ b' := h.resolve_left (fun z => z rfl)
    rcases Int.lt_trichotomy b b' with y | y | y
    · have h1 : ¬ b' < b := by omega
      simp [y, h1]
    · exact absurd y hb
    · have h1 : ¬ b < b' := by omega
      simp [y, h1]
  · have h1 : ¬ a < a' := by omega
    have h2 : ¬ a = a' := by omega
    simp [q, h1, h2]
/-! ### a list of one's own: pop(i) as a value -/
theorem IsL.erase {K : PySem.W.Frag} {Xs : List Addr} {H : Hp} {ds : List D} {vs : List V} (k : Nat) (h : IsL K Xs H ds vs) : IsL K Xs H (ds.eraseIdx k) (vs.eraseIdx k) := by
  rw [List.eraseIdx_eq_take_drop_succ, List.eraseIdx_eq_take_drop_succ]
  exact (h.take k).append (h.drop (k + 1))
section
variable {W : Wd} {ρ : En} {te : TE} {i : Nat} {p : Addr} {ds : List D} {ow : List (Addr × D)} {dr : List (Addr × Addr × Addr × Nat)} {ot : List Addr}
theorem LE.popO {Φ : D → Rs → Prop} (hi : ρ[i]? = some (some (.adr p))) (h : LE W te ρ ⟨(p, .lst ds) :: ow, dr, ot⟩ fun x s' => ∃ (k : Nat) (d : D) (ow' : List (Addr × D)) (dr' : List (Addr × Addr × Addr × Nat)) (ot' : List Addr), x = .int k ∧ s' = ⟨(p, .lst ds) :: ow', dr', ot'⟩ ∧ ds.length ≤ 1000 ∧ ds[k]? = some d ∧ Φ d ⟨(p, .lst (ds.eraseIdx k)) :: ow', dr', ot'⟩) :
    LE W (tBM W.K "list" rPopAt (tVar i) (tCons te tNil)) ρ ⟨(p, .lst ds) :: ow, dr, ot⟩ Φ := fun σ H o Q q => by
  obtain ⟨v, h1, h2⟩ := o.sl i _ hi
  cases (show v = .ref p from h2)
  obtain ⟨xs, e1, _⟩ := own_at o
  refine ⟨.ref p, h1, .inl ⟨rfl, xs, SqL.of e1⟩, h σ H o _ fun w H1 d s1 o1 p1 i1 k => ?_⟩
  obtain ⟨k, d, ow', dr', ot', rfl, rfl, hl, hd, k2⟩ := k
  cases (show w = .int k from i1)
  obtain ⟨ys, e2, i2⟩ := own_at o1
  obtain ⟨y, hy, iy⟩ := i2.get hd
  obtain ⟨o2, p2⟩ := o1.chg (i2.erase k)
  have hk := (List.getElem?_eq_some_iff.mp hd).1
  refine ⟨p, ys, k, k, y, rfl, rfl, e2, by omega, by omega, seqIndex_of (by omega) (by rw [i2.length]; omega), hy, ?_⟩
  exact q y _ d _ o2 (p1.trans p2) (p2.is iy) k2
end
end Pw

namespace Pw
open PySem PySem.Spec PyProof.Rows L2
/-! ### a raise within the walk of a dict: what the walks locked is unlocked where the error leaves the def -/
inductive Unl (H0 : Hp) : Hp → Hp → Prop
  | refl {H : Hp} : Unl H0 H H
  | step {H H' : Hp} {a : Addr} {od : Obj} {u : HO} : H a = some (.frz od u) → (∀ o' u', H0 a ≠ some (.frz o' u')) → Unl H0 (upd H a u) H' → Unl H0 H H'
theorem Unl.inv {X : Cx} {pins : List (Addr × Obj)} {σ : L2.St} {s : Shared} {H H' : Hp} (u : Unl X.H_0 H H') : Inv X pins σ H s → ∀ a, H a = none → Inv X pins σ H' s ∧ H' a = none := by
  induction u with
  | refl => exact fun I a h => ⟨I, h⟩
  | @step H H' b od u e hn _ ih =>
    intro I a h
    refine ih (I.unlock e hn) a ?_
    rw [upd_ne (fun z => by rw [z, e] at h; cases h)]
    exact h
theorem takes_unl {X : Cx} {W : WX} (tk : Takes X W) : Takes X fun cls d σ H => ∃ H', Unl X.H_0 H H' ∧ W cls d σ H' := fun u s' x => by
  obtain ⟨a, B, sI, pins, σ, H, cls, d, e, I, nb, up, sky, na, os, ag, H', un, w⟩ := x
  obtain ⟨I2, na2⟩ := un.inv I a na
  exact tk u s' ⟨a, B, sI, pins, σ, H', cls, d, e, I2, nb, up, sky, na2, os, ag, w⟩
def tRaiseU (H0 : Hp) (E : XK) (CE : Addr) : TS := fun _ _ H => ∃ H', Unl H0 H H' ∧ E (.ref CE) none H'
/-- what the raise owes, seen from a world's heap -/
def RAx (He : Hp) (E : XK) (CE : Addr) (T : List (Addr × Str)) (H0 : Hp) : Prop :=
  (∀ a vs, H0 a = some (.dK vs) → ∀ o u, He a ≠ some (.frz o u)) ∧ ∀ H', Same H0 H' → LamX.Tabs T H' → ∃ H'', Unl He H' H'' ∧ E (.ref CE) none H''
theorem RAx.lock {He : Hp} {E : XK} {CE : Addr} {T : List (Addr × Str)} {H0 : Hp} {a : Addr} {o : Obj} {vs : List (Key × V)} (r : RAx He E CE T H0) (h : ∀ u, H0 a = some u → u = .dK vs ∨ u = .frz o (.dK vs)) : RAx He E CE T (upd H0 a (.frz o (.dK vs))) := by
  refine ⟨fun b ws hb => ?_, fun H' sm ht => ?_⟩
  · by_cases z : b = a
    · rw [z, upd_same] at hb; cases hb
    · rw [upd_ne z] at hb; exact r.1 b ws hb
  · have ha : H' a = some (.frz o (.dK vs)) := sm a _ upd_same
    have keep : ∀ b u, b ≠ a → H0 b = some u → H' b = some u := fun b u z hb => sm b u (by rw [upd_ne z]; exact hb)
    cases e : H0 a with
    | none => exact r.2 H' (fun b u hb => by
        by_cases z : b = a
        · rw [z, e] at hb; cases hb
        · exact keep b u z hb) ht
    | some u =>
      rcases h u e with rfl | rfl
      · obtain ⟨H'', un, q⟩ := r.2 (upd H' a (.dK vs)) (fun b u hb => by
          by_cases z : b = a
          · rw [z] at hb ⊢; rw [e] at hb; cases hb; exact upd_same
          · rw [upd_ne z]; exact keep b u z hb) (tabs_frz ht ha)
        exact ⟨H'', .step ha (r.1 a vs e) un, q⟩
      · exact r.2 H' (fun b u hb => by
          by_cases z : b = a
          · rw [z] at hb ⊢; rw [e] at hb; cases hb; exact ha
          · exact keep b u z hb) ht
theorem LS.raiseU {W : Wd} {ρ : En} {s : Rs} {N : En → Rs → Prop} {R : D → Rs → Prop} {B C : En → Rs → Prop} {E : XK} {CE : Addr} {He : Hp} (hX : W.X0 = []) (hE : RAx He E CE W.tb W.H0) : LS W (tRaiseU He E CE) ρ s N R B C :=
  fun Dn σ H o f => hE.2 H (fun a u e => o.fr a u (by rw [hX]; simp) e) o.tbs.t
section
variable {P : Program} {w : World} {K : PySem.W.Frag} {mg : Str → Option Value} {base : Heap}
theorem okRU {x qual : Str} {st : Stmt} {f CE : Addr} {fd : FuncData} {N ps : List Str} {k : Nat} {T : List (Addr × Str)} {S : RSp} (F : Fun K x qual st f fd) (Sc : FnScope N ps (defScope st)) (len : ∀ ds, S ds → ds.length = ps.length) (hN : ps.length ≤ N.length)
    (hbody : ∀ (cdv : Value) (A : Around) (outer : List Env) (s : Shared) (H : Hp) (E : XK), Room k (A.deeper (envOfC qual (defScope st) s.heap.objs.size f cdv)) →
      ∃ t, PSs (cxOf (L2.CX P w) P w K mg base N qual (defScope st) f cdv A outer s H E) (defBody st) t ∧
        ∀ (H0 : Hp) (Xs : List Addr) (ds : List D), RAx H E CE T H0 → S ds → LS ⟨K, H0, [], Xs, [], T⟩ t (startD N (ds.map some)) { oth := Xs } (fun _ _ => False) (fun _ _ => False) (fun _ _ => False) (fun _ _ => False)) :
    FnOk P w K mg base (L2.CX P w) (k + 1) f fd ps (liftR K T CE S) := by
  refine F.okX Sc (fun vs H Q E h => ?_) fun cdv A outer s H vs Q E hr h => ?_
  · obtain ⟨Xs, ds, _, _, _, h1, h2, _⟩ := h
    rw [h1.length, len ds h2]
  · obtain ⟨Xs, ds, hnd, hmu, hT, hds, hS, q⟩ := h
    obtain ⟨t, ht, hL⟩ := hbody cdv A outer s H E hr
    have hl : ds.length = ps.length := len ds hS
    refine ⟨t, ht, hL (noTb H) Xs ds ⟨fun a vs e o u z => (by rw [(noTb_get e).1] at z; cases z), fun H' hs ht => ⟨H', .refl, q H' ⟨fun a u e n => hs a u (noTb_of e n), ht⟩⟩⟩ hS _ (L2.start N vs) H ⟨⟨?_, ?_, ?_, ?_⟩, fun _ _ _ h => (noTb_get h).1, ?_, ?_, (fun e he => by cases he), (fun e he => by cases he), ⟨hT, noTb_n⟩, ?_, ?_⟩ ⟨?_, ?_, ?_, ?_⟩⟩
    · exact hmu
    · exact hnd
    · intro e he; cases he
    · intro e he; cases he
    · intro a ha; exact ha
    · intro e he; cases he
    · rw [start_len (by rw [hds.length]; omega), startD_len (by rw [List.length_map]; omega)]
    · exact start_sl hds
    · intro σ' H' ρ' s' o k; exact k.elim
    · intro v σ' H' ρ' d s' o i k; exact k.elim
    · intro σ' H' ρ' s' o k; exact k
    · intro σ' H' ρ' s' o k; exact k
end
theorem passesO {X : Cx} {E : XK} {E₁ : Value → Shared → Prop}
    (hx : X.xe = fun e s' => wpAny (model X.prog X.w) X.A (leaving X.env e) (fun _ s'' => L2.CX X.prog X.w X.outer X.H_0 X.s_0 E e s'') E₁ s') : PassesOwn (model X.prog X.w) X.A X.env X.xe := by
  rw [hx]
  exact PassesOwn.leaving
section
variable {W : Wd} {ρ : En} {s : Rs} {N : En → Rs → Prop} {R : D → Rs → Prop} {B C : En → Rs → Prop} {wi : TI} {g : TG} {ts : TS}
/-- for x in d, d.values(), where the body may raise: what is owed (G) goes with the locks -/
theorem LS.forDR {i : Nat} {kvs : List (Key × D)} {ys : List D} {J : Addr → Obj → List (Key × V) → It} (dw : DWalk kvs i wi ys J) (hi : ρ[i]? = some (some (.dct kvs))) (hX : ∀ x ∈ W.X0, x ∈ W.X1) {He : Hp} {E : XK} {CE : Addr} (hE : RAx He E CE W.tb W.H0)
    (h : ∃ I : Nat → En → Rs → Prop, I 0 ρ s ∧ (∀ H0 tms j d ρ' s', RAx He E CE W.tb H0 → ys[j]? = some d → I j ρ' s' → LG ⟨W.K, H0, W.X0, W.X1, tms, W.tb⟩ g d ρ' s' fun ρ2 s2 => LS ⟨W.K, H0, W.X0, W.X1, tms, W.tb⟩ ts ρ2 s2 (I (j + 1)) R N (I (j + 1))) ∧
      ∀ ρ' s', I ys.length ρ' s' → N ρ' s') : LS W (tLk (tFor wi g ts)) ρ s N R B C := fun Dn σ H o f => by
  obtain ⟨v, h1, a, vs, rfl, ha, hr, hk⟩ := o.sl i _ hi
  obtain ⟨I, h0, hs, hd⟩ := h
  have hx : a ∉ W.X0 := fun z => ha (o.sub a (hX a z))
  rcases hr with hr | ⟨od, hr⟩
  · refine .inl ⟨a, .dK vs, hr, trivial, fun od => ?_⟩
    have o1 := o.lock (o' := od) ha (.inl hr)
    have h00 : ∀ u, W.H0 a = some u → u = .dK vs := fun u hu => by
      have := o.fr a u hx hu
      rw [hr] at this
      cases this
      rfl
    have hE2 : RAx He E CE W.tb (upd W.H0 a (.frz od (.dK vs))) := hE.lock fun u hu => .inl (h00 u hu)
    refine for_core o1 (fun e he => ?_) (dw.it hx hk.len) ⟨fun σ' H' ρ' s' o' k => ⟨o'.held hx, f.nx _ _ ρ' s' (o'.unlock hx h00) k⟩, fun v σ' H' ρ' d s' o' i' k => ⟨o'.held hx, f.rt v σ' _ ρ' d s' (o'.unlock hx h00) (Is.lk (Lk.back (o'.held hx)) _ _ i') k⟩, fun σ' H' ρ' s' o' k => ⟨o'.held hx, f.bk _ _ ρ' s' (o'.unlock hx h00) k⟩, fun σ' H' ρ' s' o' k => ⟨o'.held hx, f.ct _ _ ρ' s' (o'.unlock hx h00) k⟩⟩ I h0 (fun tms j d ρ' s' hj hI => hs _ tms j d ρ' s' hE2 hj hI) hd fun Q q => dw.run h1 upd_same q
    rw [List.mem_singleton.mp he]
    exact Is.lk (Lk.put (.inl hr)) (.dct kvs) (.ref a) ⟨a, vs, rfl, ha, .inl hr, hk⟩
  · refine .inr ?_
    have o1 := o.relock (o' := od) ha hr
    have h00 : ∀ u, W.H0 a = some u → u = .frz od (.dK vs) := fun u hu => by
      have := o.fr a u hx hu
      rw [hr] at this
      cases this
      rfl
    have hE2 : RAx He E CE W.tb (upd W.H0 a (.frz od (.dK vs))) := hE.lock fun u hu => .inr (h00 u hu)
    refine for_core o1 (fun e he => ?_) (dw.it hx hk.len) ⟨fun σ' H' ρ' s' o' k => f.nx _ _ ρ' s' (o'.free hx h00) k, fun v σ' H' ρ' d s' o' i' k => f.rt v σ' _ ρ' d s' (o'.free hx h00) i' k, fun σ' H' ρ' s' o' k => f.bk _ _ ρ' s' (o'.free hx h00) k, fun σ' H' ρ' s' o' k => f.ct _ _ ρ' s' (o'.free hx h00) k⟩ I h0 (fun tms j d ρ' s' hj hI => hs _ tms j d ρ' s' hE2 hj hI) hd fun Q q => dw.run h1 hr q
    rw [List.mem_singleton.mp he]
    exact ⟨a, vs, rfl, ha, .inr ⟨od, hr⟩, hk⟩
end
/-! ### dict(pairs), list(d), len(d) -/
def mergeD (kvs more : List (Key × D)) : List (Key × D) := more.foldl (fun acc kv => putD acc kv.1 kv.2) kvs
theorem IsK.merge {K : PySem.W.Frag} {Xs : List Addr} {H : Hp} : ∀ {more : List (Key × D)} {mv : List (Key × V)} {kvs : List (Key × D)} {vs : List (Key × V)}, IsK K Xs H more mv → IsK K Xs H kvs vs → IsK K Xs H (mergeD kvs more) (mergeK vs mv)
  | [], mv, kvs, vs, h, g => by
    cases (show mv = [] from h)
    exact g
  | (k, d) :: more, mv, kvs, vs, h, g => by
    obtain ⟨v, q, rfl, h1, h2⟩ := h
    exact IsK.merge (more := more) (mv := q) h2 (IsK.put (k := k) g h1)
/-- pairs of a key and a value, as data -/
def pairsD (kvs : List (Key × D)) : List D := kvs.map fun q => .tup [dKey q.1, q.2]
theorem pairsK_is {K : PySem.W.Frag} {Xs : List Addr} {H : Hp} : ∀ {kvs : List (Key × D)} {vs : List V}, IsL K Xs H (pairsD kvs) vs → ∃ (ps : List Addr) (ws : List (Key × V)), vs = ps.map V.ref ∧ Paired (fun p kv => SqT K H p [kV kv.1, kv.2]) ps ws ∧ IsK K Xs H kvs ws
  | [], vs, h => ⟨[], [], (show vs = [] from h), .nil, rfl⟩
  | (k, d) :: kvs, vs, h => by
    obtain ⟨v, q, rfl, h1, h2⟩ := h
    obtain ⟨ps, ws, rfl, h3, h4⟩ := pairsK_is h2
    obtain ⟨a, xs, rfl, g1, g2⟩ := h1
    obtain ⟨vk, q1, e1, i1, r1⟩ := g2
    obtain ⟨vd, q2, e2, i2, r2⟩ := r1
    cases (show q2 = [] from r2)
    subst e2
    subst e1
    cases key_is i1
    exact ⟨a :: ps, (k, vd) :: ws, rfl, .cons (IsL.sqT g1) h3, ⟨vd, ws, rfl, i2, h4⟩⟩
section
variable {W : Wd} {ρ : En} {s : Rs}
abbrev rDictP (K : PySem.W.Frag) : List V → Hp → VK → Prop := fun xs H Q => ∃ (a : Addr) (ps : List Addr) (kvs : List (Key × V)), xs = [.ref a] ∧ SqL K H a (ps.map V.ref) ∧ Paired (fun p kv => SqT K H p [kV kv.1, kv.2]) ps kvs ∧ ∀ p, H p = none → Q (.ref p) (upd H p (.dK (mergeK [] kvs)))
theorem LED.pairs {Φ : List (Key × D) → Rs → Prop} {t : TA} (h : LA W t ρ s fun ds s1 => ∃ kvs, ds = [.lst (pairsD kvs)] ∧ Φ (mergeD [] kvs) s1) : LED W (tCB (rDictP W.K) t) ρ s Φ := fun σ H o Q q => by
  refine h σ H o _ fun vs H1 ds s1 o1 p1 i1 k => ?_
  obtain ⟨kvs, rfl, k⟩ := k
  obtain ⟨v, rfl, e1⟩ := IsL.one i1
  obtain ⟨a, xs, rfl, g0, g1, g2⟩ := e1
  obtain ⟨ps, ws, rfl, h3, h4⟩ := pairsK_is g2
  refine ⟨a, ps, ws, rfl, SqL.of g1, h3, fun p hp => ?_⟩
  obtain ⟨o2, p2⟩ := o1.newK hp (IsK.merge h4 (kvs := []) (vs := []) rfl)
  exact q p _ _ s1 o2 (p1.trans p2) k
end
/-! list(d) of a dict that may stand locked -/
abbrev rListDR : List V → Hp → VK → Prop := fun xs H Q => ∃ p kvs, xs = [.ref p] ∧ Rd H p (.dK kvs) ∧ ∀ q, H q = none → Q (.ref q) (upd H q (.lst (kvs.map fun kv => kV kv.1)))
theorem call_list_dR {X : Cx} (hc : X.calm = true) : CallR X (.type "list") rListDR := by
  intro pins s σ H xs us Q I r h
  obtain ⟨p, kvs, e, hk, q⟩ := h
  subst e
  obtain ⟨u, eu, rx⟩ := vals1 r
  subst eu
  obtain rfl : u = Value.ref p := rx
  obtain ⟨z, lo, vs, rk, hd⟩ := (show ObjOk X.prog X.w H s.heap p (.dK kvs) from by
    rcases hk with hk | ⟨o, hk⟩
    · exact I.hok p _ hk
    · exact (I.hok p _ hk).2)
  obtain ⟨ep, hat⟩ := hd.dictAt
  have hkeys : kvs.map (·.1) = vs.map (·.1) := KV.keys rk
  have hlen : kvs.length = vs.length := by simpa using congrArg List.length hkeys
  refine PySem.W.kdl_call (PySem.W.kdl_dict (knd := mixKind X.prog X.w) (kvs := vs) (ep := ep) lo) (I.ok.hd hc) hat (by omega) fun h' tk acc c' keep hS items => ?_
  have hv : Vals (kvs.map fun kv => kV kv.1) acc.toList := vals_of_at (by have := items.1; simp; omega) fun j x w h1 h2 => by
    obtain ⟨k, y, hky, hi⟩ := items.2 j w (by simpa using h2)
    have e1 : (kvs.map (·.1))[j]? = some k := by rw [hkeys, List.getElem?_map, hky]; rfl
    rw [List.getElem?_map] at e1 h1
    cases e2 : kvs[j]? with
    | none => rw [e2] at e1; cases e1
    | some q =>
      rw [e2] at e1 h1
      cases e1
      cases h1
      exact keyIs_rel hi
  have ob : ObjOk X.prog X.w (upd H s.heap.objs.size (.lst (kvs.map fun kv => kV kv.1))) h' s.heap.objs.size (.lst (kvs.map fun kv => kV kv.1)) := ⟨by rw [List.length_map]; exact z, acc.toList, c', hv, by rw [Array.toArray_toList]; exact hS⟩
  exact ⟨.ref s.heap.objs.size, upd H s.heap.objs.size (.lst (kvs.map fun kv => kV kv.1)), I.laid (t' := tk) keep (Nat.le_refl _) ob, rfl, q _ (I.hok.fresh (Nat.le_refl _))⟩
theorem keysD_is {K : PySem.W.Frag} {Xs : List Addr} {H : Hp} : ∀ {kvs : List (Key × D)} {vs : List (Key × V)}, IsK K Xs H kvs vs → IsL K Xs H (keysD kvs) (vs.map fun kv => kV kv.1)
  | [], vs, h => by
    cases (show vs = [] from h)
    exact rfl
  | (k, d) :: kvs, vs, h => by
    obtain ⟨v, q, rfl, h1, h2⟩ := h
    exact ⟨kV k, _, rfl, is_key k, keysD_is h2⟩
section
variable {W : Wd} {ρ : En} {s : Rs}
theorem LEL.keysOf {Φ : List D → Rs → Prop} {t : TA} (h : LA W t ρ s fun ds s1 => ∃ kvs, ds = [.dct kvs] ∧ Φ (keysD kvs) s1) : LEL W (tCB rListDR t) ρ s Φ := fun σ H o Q q => by
  refine h σ H o _ fun vs H1 ds s1 o1 p1 i1 k => ?_
  obtain ⟨kvs, rfl, k⟩ := k
  obtain ⟨v, rfl, a, ws, rfl, ha, hr, hk⟩ := IsL.one i1
  refine ⟨a, ws, rfl, hr, fun p hp => ?_⟩
  obtain ⟨o3, p3⟩ := o1.newL hp (keysD_is hk)
  exact q p _ _ s1 o3 (p1.trans p3) k
end
/-! len(d) -/
abbrev rLenD : List V → Hp → VK → Prop := fun xs H Q => ∃ p kvs, xs = [.ref p] ∧ Rd H p (.dK kvs) ∧ Q (.int kvs.length) H
theorem call_len_dR {X : Cx} : CallR X (.builtin "len") rLenD := by
  intro pins s σ H xs us Q I r h
  obtain ⟨p, kvs, e, hk, q⟩ := h
  subst e
  obtain ⟨u, eu, rx⟩ := vals1 r
  subst eu
  obtain rfl : u = Value.ref p := rx
  exact d_len I hk fun t s' I' => ⟨.int kvs.length, H, I', ⟨t, rfl⟩, q⟩
theorem CbD.lenDct {W : Wd} {s : Rs} {Ψ : D → Prop} {kvs : List (Key × D)} (h : Ψ (.int kvs.length)) : CbD W rLenD s [.dct kvs] Ψ := fun H vs r h1 Q q => by
  obtain ⟨v, rfl, e⟩ := IsL.one h1
  obtain ⟨a, ws, rfl, ha, hr, hk⟩ := e
  exact ⟨a, ws, rfl, hr, by rw [hk.len]; exact q _ H (.int kvs.length) (Same.refl H) rfl h⟩
theorem CbD.lenDctO {W : Wd} {s : Rs} {Ψ : D → Prop} {p : Addr} {kvs : List (Key × D)} (hm : (p, .dct kvs) ∈ s.own) (h : Ψ (.int kvs.length)) : CbD W rLenD s [.adr p] Ψ := fun H vs r h1 Q q => by
  obtain ⟨v, rfl, e⟩ := IsL.one h1
  cases (show v = .ref p from e)
  obtain ⟨ws, hr, hk⟩ := r.ow _ hm
  exact ⟨p, ws, rfl, .inl hr, by rw [hk.len]; exact q _ H (.int kvs.length) (Same.refl H) rfl h⟩
end Pw

namespace Pw
open PySem PySem.Spec PyProof.Rows L2
/-! ### list.count, list.index of flat things -/
def rCntF (K : PySem.W.Frag) : V → List V → Hp → VK → Prop := fun x xs H Q => ∃ (p : Addr) (ys : List V) (y : V), x = .ref p ∧ xs = [y] ∧ SqL K H p ys ∧ flatV y = true ∧ ys.all flatV = true ∧ Q (.int (ys.countP fun z => eqV z y : Nat)) H
theorem count_eqU {x : V} : ∀ {ys : List V} {us : List Value}, Vals ys us → ys.all flatV = true → us.countP (eqU x) = ys.countP fun z => eqV z x
  | _, _, .nil, _ => rfl
  | y :: ys, u :: us, .cons r t, f => by
    rw [List.all_cons, Bool.and_eq_true] at f
    rw [List.countP_cons, List.countP_cons, count_eqU t f.2, eqU_of r f.1]
theorem mt_cntF {X : Cx} : MtR X "list.count" (rCntF X.K) := by
  intro pins s σ H x xs v us Q I rx rxs h
  obtain ⟨p, ys, y, rfl, rfl, hs, fy, fys, q⟩ := h
  cases rx
  obtain ⟨u, rfl, ru⟩ := rxs.one
  obtain ⟨its, rv, ⟨⟨cls, dd, data, sl⟩, n, ho, hc, hdn, hd⟩, hlen⟩ := I.list hs
  simp only at hc hd
  subst hc hd
  refine call_meets PySem.F.slot_list_count ⟨_, ho, rfl⟩ PySem.F.entry_list_count (PySem.F.args_list_count_2 _ _)
    (SeqAt.list_countAt p its.toArray n dd sl u (eqU y)) ⟨ho, fun w hw => mem_eqAt ru fy rv fys w (by simpa using hw), ?_⟩
  have ec : its.toArray.toList.countP (eqU y) = ys.countP fun z => eqV z y := count_eqU rv fys
  refine ⟨.int (ys.countP fun z => eqV z y : Nat), H, I.tok _, ⟨s.toks, ?_⟩, q⟩
  show Value.int ((its.toArray.toList.countP (eqU y) : Nat) : Int) s.toks = Value.int ((ys.countP fun z => eqV z y : Nat) : Int) s.toks
  rw [ec]
theorem bls_is {K : PySem.W.Frag} {Xs : List Addr} {H : Hp} : ∀ {bs : List Bool} {vs : List V}, IsL K Xs H (bs.map D.bl) vs → vs = bs.map V.bl
  | [], vs, h => h
  | b :: bs, vs, h => by
    obtain ⟨v, q, rfl, h1, h2⟩ := h
    cases (show v = .bl b from h1)
    rw [bls_is h2, List.map_cons]
theorem bls_flat (bs : List Bool) : (bs.map V.bl).all flatV = true := List.all_eq_true.mpr fun v hv => by
  obtain ⟨b, _, rfl⟩ := List.mem_map.mp hv
  rfl
theorem bls_count (bs : List Bool) (b : Bool) : (bs.map V.bl).countP (fun z => eqV z (.bl b)) = bs.countP (· == b) := by
  induction bs with
  | nil => rfl
  | cons a bs ih => rw [List.map_cons, List.countP_cons, List.countP_cons, ih]; rfl
section
variable {W : Wd} {ρ : En} {s : Rs} {te ty : TE} {Φ : D → Rs → Prop}
theorem LE.cntB (h : LE W te ρ s fun x s1 => ∃ bs : List Bool, x = .lst (bs.map D.bl) ∧ LE W ty ρ s1 fun y s2 => ∃ b, y = .bl b ∧ Φ (.int (bs.countP (· == b) : Nat)) s2) : LE W (tBM W.K "list" (rCntF W.K) te (tCons ty tNil)) ρ s Φ := fun σ H o Q q => by
  refine h σ H o _ fun vx H1 x s1 o1 p1 i1 k1 => ?_
  obtain ⟨bs, rfl, k1⟩ := k1
  obtain ⟨a, xs, rfl, _, h1, h2⟩ := id i1
  refine ⟨.inl ⟨rfl, xs, SqL.of h1⟩, k1 σ H1 o1 _ fun vy H2 y s2 o2 p2 i2 k2 => ?_⟩
  obtain ⟨b, rfl, k⟩ := k2
  obtain ⟨a', xs', e, _, h1, h2⟩ := p2.is i1
  cases e
  cases (show vy = .bl b from i2)
  rw [bls_is h2] at h1
  refine ⟨a, bs.map V.bl, .bl b, rfl, rfl, SqL.of h1, rfl, bls_flat bs, ?_⟩
  rw [bls_count]
  exact q (.int (bs.countP (· == b) : Nat)) H2 (.int (bs.countP (· == b) : Nat)) s2 o2 (p1.trans p2) rfl k
theorem LE.idxB (h : LE W te ρ s fun x s1 => ∃ bs : List Bool, x = .lst (bs.map D.bl) ∧ LE W ty ρ s1 fun y s2 => ∃ (b : Bool) (j : Nat), y = .bl b ∧ bs[j]? = some b ∧ (∀ m, m < j → bs[m]? ≠ some b) ∧ Φ (.int (j : Nat)) s2) : LE W (tBM W.K "list" (rIndex W.K) te (tCons ty tNil)) ρ s Φ := fun σ H o Q q => by
  refine h σ H o _ fun vx H1 x s1 o1 p1 i1 k1 => ?_
  obtain ⟨bs, rfl, k1⟩ := k1
  obtain ⟨a, xs, rfl, _, h1, h2⟩ := id i1
  refine ⟨.inl ⟨rfl, xs, SqL.of h1⟩, k1 σ H1 o1 _ fun vy H2 y s2 o2 p2 i2 k2 => ?_⟩
  obtain ⟨b, j, rfl, hj, hno, k⟩ := k2
  obtain ⟨a', xs', e, _, h1, h2⟩ := p2.is i1
  cases e
  cases (show vy = .bl b from i2)
  rw [bls_is h2] at h1
  refine ⟨a, bs.map V.bl, .bl b, j, .bl b, rfl, rfl, SqL.of h1, rfl, bls_flat bs, by rw [List.getElem?_map, hj]; rfl, beq_self_eq_true b, fun m z hm hz => ?_, ?_⟩
  · rw [List.getElem?_map] at hz
    cases e : bs[m]? with
    | none => rw [e] at hz; cases hz
    | some c =>
      rw [e] at hz
      cases hz
      exact beq_eq_false_iff_ne.mpr fun z => hno m hm (by rw [e, z])
  exact q (.int (j : Nat)) H2 (.int (j : Nat)) s2 o2 (p1.trans p2) rfl k
end
theorem CbD.keysOf {W : Wd} {s : Rs} {Ψ : D → Prop} {kvs : List (Key × D)} (h : Ψ (.lst (keysD kvs))) : CbD W rListDR s [.dct kvs] Ψ := fun H vs r h1 Q q => by
  obtain ⟨v, rfl, e⟩ := IsL.one h1
  obtain ⟨a, ws, rfl, ha, hr, hk⟩ := e
  refine ⟨a, ws, rfl, hr, fun p hp => ?_⟩
  have e : Same H (upd H p (.lst (ws.map fun kv => kV kv.1))) := Same.new hp
  exact q _ _ (.lst (keysD kvs)) e ⟨p, ws.map fun kv => kV kv.1, rfl, r.fresh hp, upd_same, IsL.goes (r.goes e) _ _ (keysD_is hk)⟩ h
end Pw

namespace Pw
open PySem L2
/-! ### the order of loads: the plain law -/
/-- loads by their names -/
abbrev Lds := List (Str × List Kn)
def spotQ (L : Option Int) (p : Rat) : Rat := match L with
  | none => p
  | some l => p - (l : Rat) * ((p / (l : Rat)).floor : Rat)
def lapO (L : Option Int) (p : Rat) : Int := match L with
  | none => 0
  | some l => (p / (l : Rat)).floor
/-- 1, -1: the first load is ahead of the second one, behind it -/
def sdQ (L : Option Int) (p q : List Kn) (t : Rat) : Int := if sgn (spotQ L (posQ p t)) (spotQ L (posQ q t)) = 0 then (sideB p q (gapQ p q t) t).2 else sgn (spotQ L (posQ p t)) (spotQ L (posQ q t))
/-- how many of some loads are behind a load -/
def rankN (L : Option Int) (t : Rat) (os : Lds) (q : Str × List Kn) : Int := ((os.filter fun o => decide (o.1 ≠ q.1) && decide (sdQ L o.2 q.2 t < 0)).length : Int)
/-- a load that comes to a spot at a time: its spot (in thirds), its side (its pace, turned), its name, its laps -/
structure PRow where
  spot : Int
  side : Int
  name : Str
  lap : Int
def rowD (r : PRow) : D := .tup [.int r.spot, .int r.side, .str r.name, .int r.lap]
def plc (w : Int) (r : PRow) : Rat := (w : Rat) * (r.spot : Rat) / 3 + (r.lap : Rat)
def rowK (w : Int) (T : Rat) (r : PRow) : List Kn := [(T - 1 / 1000, plc w r + (r.side : Rat) * (w : Rat) / 100), (T, plc w r)]
theorem rowK_pos {w : Int} {T : Rat} {r : PRow} {s : Rat} : posQ (rowK w T r) s = if s < T then plc w r - 10 * (w : Rat) * (r.side : Rat) * (s - T) else plc w r := by
  unfold rowK
  rw [posQ_two]
  show (if s < T then _ else _) = _
  by_cases z : s < T
  · rw [if_pos z, if_pos z]
    unfold slope
    dsimp only
    have e : T - (T - 1 / 1000) = 1 / 1000 := by grind
    rw [e]
    grind
  · rw [if_neg z, if_neg z, posQ_one]
theorem rowK_fst {w : Int} {T : Rat} {r : PRow} : fst0 (rowK w T r) = T - 1 / 1000 := rfl
theorem rowK_asc {w : Int} {T : Rat} {r : PRow} : asc (rowK w T r) := by
  refine ⟨?_, trivial⟩
  show T - 1 / 1000 < T
  grind
/-- the length that the spots are parts of, the laps -/
structure RowOk (L : Option Int) (w : Int) (r : PRow) : Prop where
  w0 : 0 < w
  s0 : 0 ≤ r.spot
  s2 : r.spot ≤ 2
  ln : L = none → r.lap = 0
  lr : ∀ l, L = some l → l = w ∧ ∃ k : Int, r.lap = l * k
theorem floor_at {x : Rat} {k : Int} (h1 : (k : Rat) ≤ x) (h2 : x < (k : Rat) + 1) : x.floor = k := by
  have a1 : k ≤ x.floor := Rat.le_floor_iff.mpr h1
  have a2 : (x.floor : Rat) ≤ x := Rat.floor_le x
  have a3 : ((x.floor : Int) : Rat) < ((k + 1 : Int) : Rat) := by
    rw [Rat.intCast_add]
    have : ((1 : Int) : Rat) = 1 := rfl
    grind
  have a4 : x.floor < k + 1 := by exact_mod_cast a3
  omega
theorem row_lap {L : Option Int} {w : Int} {r : PRow} (h : RowOk L w r) : (∀ l, L = some l → r.lap = l * lapO L (plc w r)) ∧ spotQ L (plc w r) = (w : Rat) * (r.spot : Rat) / 3 := by
  cases L with
  | none =>
    refine ⟨fun l e => (by cases e), ?_⟩
    show plc w r = _
    unfold plc
    rw [h.ln rfl]
    have : ((0 : Int) : Rat) = 0 := rfl
    grind
  | some l =>
    obtain ⟨rfl, k, hk⟩ := h.lr l rfl
    have hl0 : (0 : Rat) < (l : Rat) := by exact_mod_cast h.w0
    have hs0 : (0 : Rat) ≤ (r.spot : Rat) := by exact_mod_cast h.s0
    have hs2 : (r.spot : Rat) ≤ 2 := by exact_mod_cast h.s2
    have e0 : plc l r = (l : Rat) * ((r.spot : Rat) / 3 + (k : Rat)) := by
      unfold plc
      rw [hk, Rat.intCast_mul]
      grind
    have e1 : plc l r / (l : Rat) = (r.spot : Rat) / 3 + (k : Rat) := by
      rw [e0]
      grind
    have e2 : (plc l r / (l : Rat)).floor = k := by
      rw [e1]
      exact floor_at (by grind) (by grind)
    refine ⟨fun l' e => ?_, ?_⟩
    · cases e
      show r.lap = l * (plc l r / (l : Rat)).floor
      rw [e2, hk]
    · show plc l r - (l : Rat) * ((plc l r / (l : Rat)).floor : Rat) = _
      rw [e2, e0]
      grind
/-- behind: a lesser spot, or the same one and a lesser side -/
def lexR (a b : PRow) : Prop := a.spot < b.spot ∨ (a.spot = b.spot ∧ a.side < b.side)
instance (a b : PRow) : Decidable (lexR a b) := by unfold lexR; infer_instance
theorem row_sd {L : Option Int} {w : Int} {T t : Rat} {o a : PRow} (ho : RowOk L w o) (ha : RowOk L w a) (ko : KOk (rowK w T o)) (ka : KOk (rowK w T a)) (ht : T ≤ t) (hd : o.spot ≠ a.spot ∨ o.side ≠ a.side) : sdQ L (rowK w T o) (rowK w T a) t ≠ 0 ∧ (sdQ L (rowK w T o) (rowK w T a) t < 0 ↔ lexR o a) := by
  have po : posQ (rowK w T o) t = plc w o := by rw [rowK_pos, if_neg (by grind)]
  have pa : posQ (rowK w T a) t = plc w a := by rw [rowK_pos, if_neg (by grind)]
  have hw : (0 : Rat) < (w : Rat) := by exact_mod_cast ho.w0
  unfold sdQ
  rw [po, pa, (row_lap ho).2, (row_lap ha).2]
  unfold lexR
  rcases Int.lt_trichotomy o.spot a.spot with h | h | h
  · have h1 : (o.spot : Rat) < (a.spot : Rat) := by exact_mod_cast h
    have h2 := Rat.mul_pos hw (show (0 : Rat) < (a.spot : Rat) - (o.spot : Rat) by grind)
    have e : sgn ((w : Rat) * (o.spot : Rat) / 3) ((w : Rat) * (a.spot : Rat) / 3) = -1 := by
      unfold sgn
      rw [if_pos (by grind)]
    rw [e, if_neg (by decide)]
    exact ⟨by decide, fun _ => .inl h, fun _ => by decide⟩
  · have e : sgn ((w : Rat) * (o.spot : Rat) / 3) ((w : Rat) * (a.spot : Rat) / 3) = 0 := sgn_zero.mpr (by rw [h])
    rw [if_pos e]
    have hs : o.side ≠ a.side := hd.resolve_left fun z => z h
    have hb0 : beg2 (rowK w T o) (rowK w T a) = T - 1 / 1000 := by
      unfold beg2
      rw [rowK_fst, rowK_fst, if_neg (by grind)]
    have hgap : ∀ s, gapQ (rowK w T o) (rowK w T a) s = if s < T then plc w o - plc w a - 10 * (w : Rat) * ((o.side : Rat) - (a.side : Rat)) * (s - T) else plc w o - plc w a := fun s => by
      unfold gapQ
      rw [rowK_pos, rowK_pos]
      by_cases z : s < T
      · rw [if_pos z, if_pos z, if_pos z]; grind
      · rw [if_neg z, if_neg z, if_neg z]
    have hgt : gapQ (rowK w T o) (rowK w T a) t = plc w o - plc w a := by rw [hgap, if_neg (by grind)]
    have hgT : gapQ (rowK w T o) (rowK w T a) T = plc w o - plc w a := by rw [hgap, if_neg (by grind)]
    have hsd : (o.side : Rat) ≠ (a.side : Rat) := by exact_mod_cast hs
    have hm0 : -(10 * (w : Rat) * ((o.side : Rat) - (a.side : Rat))) ≠ 0 := by
      intro z
      have : (w : Rat) * ((o.side : Rat) - (a.side : Rat)) = 0 := by grind
      rcases Rat.mul_eq_zero.mp this with y | y <;> grind
    have b1 := Bef.slope (ps := rowK w T o) (qs := rowK w T a) (g := plc w o - plc w a) (u := T - 1 / 1000) (t := T) (m := -(10 * (w : Rat) * ((o.side : Rat) - (a.side : Rat)))) (by rw [hb0]; exact Rat.le_refl) (by grind) hgT (fun s h1 h2 => by
      rw [hgap s, hgap (T - 1 / 1000), if_pos (show T - 1 / 1000 < T by grind)]
      by_cases z : s < T
      · rw [if_pos z]; grind
      · rw [if_neg z]
        have : s = T := by grind
        subst this
        grind) hm0
    have b2 := b1.same ht fun s h1 h2 => by rw [hgap s, if_neg (by grind)]
    have b3 := sideB_bef (t := t) (g := plc w o - plc w a) ko ka (by rw [hb0]; grind) hgt
    have e2 := b3.only b2
    rw [hgt, e2]
    rcases Int.lt_trichotomy o.side a.side with y | y | y
    · have y1 : (o.side : Rat) < (a.side : Rat) := by exact_mod_cast y
      have y2 := Rat.mul_pos hw (show (0 : Rat) < (a.side : Rat) - (o.side : Rat) by grind)
      have e3 : sgn 0 (-(10 * (w : Rat) * ((o.side : Rat) - (a.side : Rat)))) = -1 := by
        unfold sgn
        rw [if_pos (by grind)]
      rw [e3]
      exact ⟨by decide, fun _ => .inr ⟨h, y⟩, fun _ => by decide⟩
    · exact absurd y hs
    · have y1 : (a.side : Rat) < (o.side : Rat) := by exact_mod_cast y
      have y2 := Rat.mul_pos hw (show (0 : Rat) < (o.side : Rat) - (a.side : Rat) by grind)
      have e3 : sgn 0 (-(10 * (w : Rat) * ((o.side : Rat) - (a.side : Rat)))) = 1 := by
        unfold sgn
        rw [if_neg (by grind), if_pos (by grind)]
      rw [e3]
      exact ⟨by decide, fun z => by omega, fun z => by omega⟩
  · have h1 : (a.spot : Rat) < (o.spot : Rat) := by exact_mod_cast h
    have h2 := Rat.mul_pos hw (show (0 : Rat) < (o.spot : Rat) - (a.spot : Rat) by grind)
    have e : sgn ((w : Rat) * (o.spot : Rat) / 3) ((w : Rat) * (a.spot : Rat) / 3) = 1 := by
      unfold sgn
      rw [if_neg (by grind), if_pos (by grind)]
    rw [e, if_neg (by decide)]
    exact ⟨by decide, fun z => by omega, fun z => by omega⟩
/-! ranks -/
theorem cnt_lt {α : Type} {f g : α → Bool} : ∀ {l : List α}, (∀ x ∈ l, f x = true → g x = true) → ∀ {e : α}, f e = false → g e = true → e ∈ l → (l.filter f).length < (l.filter g).length
  | a :: r, h, e, h1, h2, he => by
    have mono : ∀ l : List α, (∀ x ∈ l, f x = true → g x = true) → (l.filter f).length ≤ (l.filter g).length := fun l h => by
      induction l with
      | nil => exact Nat.le_refl _
      | cons b l ih =>
        have ih := ih fun x hx => h x (List.mem_cons_of_mem _ hx)
        by_cases hf : f b = true
        · rw [List.filter_cons_of_pos hf, List.filter_cons_of_pos (h b (List.mem_cons_self ..) hf)]; simp; omega
        · rw [List.filter_cons_of_neg hf]
          by_cases hg : g b = true
          · rw [List.filter_cons_of_pos hg]; simp; omega
          · rw [List.filter_cons_of_neg hg]; exact ih
    have hr : ∀ x ∈ r, f x = true → g x = true := fun x hx => h x (List.mem_cons_of_mem _ hx)
    rcases List.mem_cons.mp he with z | z
    · rw [← z, List.filter_cons_of_neg (by rw [h1]; exact Bool.noConfusion), List.filter_cons_of_pos h2]
      have := mono r hr
      simp; omega
    · have ih := cnt_lt hr h1 h2 z
      by_cases hf : f a = true
      · rw [List.filter_cons_of_pos hf, List.filter_cons_of_pos (h a (List.mem_cons_self ..) hf)]
        simp; omega
      · rw [List.filter_cons_of_neg hf]
        by_cases hg : g a = true
        · rw [List.filter_cons_of_pos hg]; simp; omega
        · rw [List.filter_cons_of_neg hg]; exact ih
/-- the loads of some rows -/
def rowsL (w : Int) (T : Rat) (rs : List PRow) : Lds := rs.map fun r => (r.name, rowK w T r)
structure RowsOk (L : Option Int) (w : Int) (T : Rat) (rs : List PRow) : Prop where
  ok : ∀ r ∈ rs, RowOk L w r ∧ KOk (rowK w T r)
  nm : (rs.map (·.name)).Nodup
  sd : (rs.map (·.side)).Nodup
theorem nd_inj {α β : Type} {f : α → β} : ∀ {l : List α}, (l.map f).Nodup → ∀ {a b : α}, a ∈ l → b ∈ l → f a = f b → a = b
  | x :: r, h, a, b, ha, hb, e => by
    rw [List.map_cons, List.nodup_cons] at h
    rcases List.mem_cons.mp ha with e1 | ha2
    · rcases List.mem_cons.mp hb with e2 | hb2
      · rw [e1, e2]
      · exact absurd (List.mem_map.mpr ⟨b, hb2, by rw [← e, e1]⟩) h.1
    · rcases List.mem_cons.mp hb with e2 | hb2
      · exact absurd (List.mem_map.mpr ⟨a, ha2, by rw [e, e2]⟩) h.1
      · exact nd_inj h.2 ha2 hb2 e
theorem rows_sd {L : Option Int} {w : Int} {T t : Rat} {rs : List PRow} (h : RowsOk L w T rs) (ht : T ≤ t) {o a : PRow} (ho : o ∈ rs) (ha : a ∈ rs) (hne : o.name ≠ a.name) : sdQ L (rowK w T o) (rowK w T a) t ≠ 0 ∧ (sdQ L (rowK w T o) (rowK w T a) t < 0 ↔ lexR o a) :=
  row_sd (h.ok o ho).1 (h.ok a ha).1 (h.ok o ho).2 (h.ok a ha).2 ht (.inr fun e => hne (by rw [nd_inj h.sd ho ha e]))
theorem rank_lt {L : Option Int} {w : Int} {T t : Rat} {rs : List PRow} (h : RowsOk L w T rs) (ht : T ≤ t) {a b : PRow} (ha : a ∈ rs) (hb : b ∈ rs) (hl : lexR a b) : rankN L t (rowsL w T rs) (a.name, rowK w T a) < rankN L t (rowsL w T rs) (b.name, rowK w T b) := by
  have hne : a.name ≠ b.name := fun e => by
    rw [nd_inj h.nm ha hb e] at hl
    unfold lexR at hl
    omega
  unfold rankN
  have := cnt_lt (f := fun o : Str × List Kn => decide (o.1 ≠ a.name) && decide (sdQ L o.2 (rowK w T a) t < 0)) (g := fun o : Str × List Kn => decide (o.1 ≠ b.name) && decide (sdQ L o.2 (rowK w T b) t < 0)) (l := rowsL w T rs) (fun x hx hf => ?_) (e := (a.name, rowK w T a)) (by simp) (by
      have := (rows_sd h ht ha hb hne).2.mpr hl
      simp [hne, this]) (List.mem_map.mpr ⟨a, ha, rfl⟩)
  · exact_mod_cast this
  · obtain ⟨o, ho, rfl⟩ := List.mem_map.mp hx
    simp only [Bool.and_eq_true, decide_eq_true_eq] at hf ⊢
    obtain ⟨h1, h2⟩ := hf
    have l1 := (rows_sd h ht ho ha h1).2.mp h2
    have l2 : lexR o b := by
      unfold lexR at l1 hl ⊢
      omega
    have n2 : o.name ≠ b.name := fun e => by
      rw [nd_inj h.nm ho hb e] at l2
      unfold lexR at l2
      omega
    exact ⟨n2, (rows_sd h ht ho hb n2).2.mpr l2⟩
theorem leD_rowD {a b : PRow} (h : a.side ≠ b.side) : leD (rowD a) (rowD b) = decide (lexR a b) := by
  unfold rowD
  rw [leD_row (.inr h)]
  rfl
theorem leD_self (d : D) : leD d d = true := by
  show (!(PyProof.Rows.listOrd PyProof.Rows.itemOrd).blt (PySem.W.keyToks (pyd d)) (PySem.W.keyToks (pyd d))) = true
  rw [Bool.not_eq_true']
  exact (PyProof.Rows.listOrd PyProof.Rows.itemOrd).irrefl _
theorem rank_le {L : Option Int} {w : Int} {T t : Rat} {rs : List PRow} (h : RowsOk L w T rs) (ht : T ≤ t) {a b : PRow} (ha : a ∈ rs) (hb : b ∈ rs) : decide (rankN L t (rowsL w T rs) (a.name, rowK w T a) ≤ rankN L t (rowsL w T rs) (b.name, rowK w T b)) = leD (rowD a) (rowD b) := by
  by_cases e : a.side = b.side
  · rw [nd_inj h.sd ha hb e, leD_self]
    exact decide_eq_true (Int.le_refl _)
  · rw [leD_rowD e]
    by_cases l : lexR a b
    · rw [decide_eq_true l]
      exact decide_eq_true (Int.le_of_lt (rank_lt h ht ha hb l))
    · rw [decide_eq_false l]
      have l2 : lexR b a := by
        unfold lexR at l ⊢
        omega
      have := rank_lt h ht hb ha l2
      exact decide_eq_false (by omega)
/-- the loads of some rows, sorted by their ranks: the rows sorted -/
theorem rows_sort {L : Option Int} {w : Int} {T t : Rat} {rs : List PRow} (h : RowsOk L w T rs) (ht : T ≤ t) : (rowsL w T rs).mergeSort (fun a b => decide (rankN L t (rowsL w T rs) a ≤ rankN L t (rowsL w T rs) b)) = (rs.mergeSort fun a b => leD (rowD a) (rowD b)).map fun r => (r.name, rowK w T r) := by
  rw [List.map_mergeSort (s := fun a b => decide (rankN L t (rowsL w T rs) a ≤ rankN L t (rowsL w T rs) b)) fun a ha b hb => (rank_le h ht ha hb).symm]
  rfl
theorem rowD_sort {rs : List PRow} : (rs.map rowD).mergeSort leD = (rs.mergeSort fun a b => leD (rowD a) (rowD b)).map rowD := by
  rw [List.map_mergeSort (s := leD) fun _ _ _ _ => rfl]
theorem rows_srt {rs : List PRow} (h : rs.length ≤ 1000) (hk : ∀ r ∈ rs, rok (rowD r)) : SrtOk (rs.map rowD) where
  len := by rw [List.length_map]; exact h
  ok := fun d hd => by
    obtain ⟨r, hr, rfl⟩ := List.mem_map.mp hd
    exact hk r hr
  dp := fun d hd => by
    obtain ⟨r, hr, rfl⟩ := List.mem_map.mp hd
    exact (by decide : 1 ≤ 20)
  al := fun d hd d' hd' => by
    rw [List.map_map] at hd hd'
    obtain ⟨r, hr, rfl⟩ := List.mem_map.mp hd
    obtain ⟨r', hr', rfl⟩ := List.mem_map.mp hd'
    rfl
  so := .inl fun d hd => by
    rw [List.map_map] at hd
    obtain ⟨r, hr, rfl⟩ := List.mem_map.mp hd
    exact ⟨_, _, rfl⟩
theorem nodup_map {α β : Type} {f : α → β} (hf : ∀ a b, f a = f b → a = b) : ∀ {l : List α}, l.Nodup → (l.map f).Nodup
  | [], _ => by simp
  | a :: r, h => by
    rw [List.nodup_cons] at h
    rw [List.map_cons, List.nodup_cons]
    refine ⟨fun z => ?_, nodup_map hf h.2⟩
    obtain ⟨b, hb, e⟩ := List.mem_map.mp z
    exact h.1 (hf b a e ▸ hb)
theorem map_erase {α β : Type} {f : α → β} : ∀ {l : List α} {q : Nat}, (l.map f).eraseIdx q = (l.eraseIdx q).map f
  | [], _ => by simp
  | a :: r, 0 => by simp
  | a :: r, q + 1 => by simp [map_erase (f := f) (l := r) (q := q)]
theorem erase_perm {α : Type} : ∀ {l : List α} {q : Nat} {z : α}, l[q]? = some z → List.Perm (z :: l.eraseIdx q) l
  | [], _, _, h => by simp at h
  | a :: r, 0, z, h => by
    simp at h
    subst h
    exact List.Perm.refl _
  | a :: r, q + 1, z, h => by
    rw [List.getElem?_cons_succ] at h
    rw [List.eraseIdx_cons_succ]
    exact (List.Perm.swap ..).trans ((erase_perm h).cons a)
theorem side_step {ss sl : List Int} {q : Nat} {z : Int} (h : (ss ++ sl.map fun z => 0 - z).Nodup) (hz : sl[q]? = some z) : ((ss ++ [0 - z]) ++ (sl.eraseIdx q).map fun z => 0 - z).Nodup := by
  have p1 := ((erase_perm hz).map fun z : Int => 0 - z).append_left ss
  rw [List.map_cons] at p1
  rw [List.append_assoc]
  exact (p1.nodup_iff).mpr h
/-! the rows of the law: their sizes -/
structure RowB (L : Option Int) (w : Int) (r : PRow) : Prop where
  ok : RowOk L w r
  sd : r.side.natAbs < 20
  lp : r.lap.natAbs < 2 ^ 180
  nm : NameOk r.name
theorem lap_small {L : Option Int} {w zl : Int} (hw1 : w ≤ 10 ^ 20) (hw0 : 0 < w) (hwL : ∀ l, L = some l → l = w) (h0 : L = none → zl = 0) (h1 : ∀ l, L = some l → ∃ k : Int, zl = l * k ∧ k.natAbs < 2 ^ 100) : zl.natAbs < 2 ^ 180 := by
  cases L with
  | none => rw [h0 rfl]; decide
  | some l =>
    obtain ⟨k, rfl, hk⟩ := h1 l rfl
    have e := hwL l rfl
    rw [Int.natAbs_mul]
    have a1 : l.natAbs ≤ 2 ^ 70 := by omega
    have a2 : l.natAbs * k.natAbs ≤ 2 ^ 70 * 2 ^ 100 := Nat.mul_le_mul a1 (by omega)
    exact Nat.lt_of_le_of_lt a2 (by decide)
theorem plc_div {w : Int} {r : PRow} : Rat.divInt (w * r.spot + 3 * r.lap) 3 = plc w r := by
  rw [Rat.divInt_eq_div, Rat.intCast_add, Rat.intCast_mul, Rat.intCast_mul]
  have : ((3 : Int) : Rat) = 3 := rfl
  unfold plc
  grind
theorem side_div {w : Int} {r : PRow} : Rat.divInt (r.side * w) 100 = (r.side : Rat) * (w : Rat) / 100 := by
  rw [Rat.divInt_eq_div, Rat.intCast_mul]
  rfl
theorem one1000 : Rat.divInt 1 1000 = 1 / 1000 := by
  rw [Rat.divInt_eq_div]
  rfl
theorem plc_num {L : Option Int} {w : Int} {r : PRow} (h : RowB L w r) (hw1 : w ≤ 10 ^ 20) : (w * r.spot + 3 * r.lap).natAbs < 2 ^ 200 := by
  have h1 := h.lp
  have h2 := h.ok.w0
  have h3 := h.ok.s0
  have h4 := h.ok.s2
  have h5 : w * r.spot ≤ w * 2 := Int.mul_le_mul_of_nonneg_left h4 (by omega)
  have h6 : 0 ≤ w * r.spot := Int.mul_nonneg (by omega) h3
  generalize w * r.spot = z at *
  omega
theorem side_num {L : Option Int} {w : Int} {r : PRow} (h : RowB L w r) (hw1 : w ≤ 10 ^ 20) : (r.side * w).natAbs < 2 ^ 80 := by
  have h1 := h.sd
  have h2 := h.ok.w0
  rw [Int.natAbs_mul]
  have a2 : r.side.natAbs * w.natAbs ≤ 20 * 10 ^ 20 := Nat.mul_le_mul (by omega) (by omega)
  omega
theorem plc_fit {L : Option Int} {w : Int} {r : PRow} (h : RowB L w r) (hw1 : w ≤ 10 ^ 20) : Fit 200 (plc w r) := by
  rw [← plc_div]
  exact fit_divInt (by decide) (plc_num h hw1) (by decide)
theorem sdq_fit {L : Option Int} {w : Int} {r : PRow} (h : RowB L w r) (hw1 : w ≤ 10 ^ 20) : Fit 80 ((r.side : Rat) * (w : Rat) / 100) := by
  rw [← side_div]
  exact fit_divInt (by decide) (side_num h hw1) (by decide)
theorem fit_1000 : Fit 10 (1 / 1000 : Rat) := by
  rw [← one1000]
  exact fit_divInt (by decide) (by decide) (by decide)
theorem rowK_ks {L : Option Int} {w : Int} {r : PRow} {T : Rat} (h : RowB L w r) (hw1 : w ≤ 10 ^ 20) (hT : Fit 60 T) : KS (rowK w T r) := by
  have f1 : Fit 71 (T - 1 / 1000) := hT.sub fit_1000
  have f2 := plc_fit h hw1
  have f3 : Fit 281 (plc w r + (r.side : Rat) * (w : Rat) / 100) := f2.add (sdq_fit h hw1)
  have hm : ∀ p ∈ rowK w T r, Fit 100 p.1 ∧ Fit 330 p.2 := fun p hp => by
    unfold rowK at hp
    rcases List.mem_cons.mp hp with rfl | hp
    · exact ⟨f1.mono (by decide), f3.mono (by decide)⟩
    · rcases List.mem_cons.mp hp with rfl | hp
      · exact ⟨hT.mono (by decide), f2.mono (by decide)⟩
      · cases hp
  exact ⟨⟨Nat.succ_pos _, (by decide : 2 ≤ 900), rowK_asc, fun p hp => ⟨(hm p hp).1.mono (by decide), (hm p hp).2.mono (by decide)⟩⟩, hm⟩
theorem rowD_rok {L : Option Int} {w : Int} {r : PRow} (h : RowB L w r) : rok (rowD r) := by
  have h1 : r.spot.natAbs < 2 ^ 1900 := pow_up (show r.spot.natAbs < 2 ^ 2 by have := h.ok.s0; have := h.ok.s2; omega) (by decide)
  have h2 : r.side.natAbs < 2 ^ 1900 := pow_up (show r.side.natAbs < 2 ^ 5 by have := h.sd; omega) (by decide)
  have h3 : r.lap.natAbs < 2 ^ 1900 := pow_up h.lp (by decide)
  have h4 : (r.name.cps.toList.all fun c => decide (c < 16 ^ 8)) = true := List.all_eq_true.mpr fun c hc => decide_eq_true (by
    have := (h.nm.az c hc).2
    omega)
  exact ⟨h1, h2, h4, h3, trivial⟩
/-- what a row answers: its name, and its laps on a ring -/
def dueR (L : Option Int) (w : Int) (r : PRow) : D := match L with
  | none => .str r.name
  | some _ => .tup [.str r.name, .int (0 - lapO L (plc w r))]
theorem rows_ok {L : Option Int} {w : Int} {T : Rat} {rs : List PRow} (h : ∀ r ∈ rs, RowB L w r) (hw1 : w ≤ 10 ^ 20) (hT : Fit 60 T) (h1 : (rs.map fun r : PRow => r.name).Nodup) (h2 : (rs.map fun r : PRow => r.side).Nodup) : RowsOk L w T rs :=
  ⟨fun r hr => ⟨(h r hr).ok, (rowK_ks (h r hr) hw1 hT).ok⟩, h1, h2⟩
theorem row_at {w : Int} {T t : Rat} {r : PRow} (ht : T ≤ t) : posQ (rowK w T r) t = plc w r := by
  rw [rowK_pos, if_neg (by grind)]
theorem name_strOk {x : Str} (h : NameOk x) : PyData.strOk x = true := by
  unfold PyData.strOk
  rw [← Array.all_toList]
  exact List.all_eq_true.mpr fun c hc => decide_eq_true (Nat.lt_of_le_of_lt (h.az c hc).2 (by decide))
theorem due_ip {L : Option Int} {w : Int} : ∀ {rs : List PRow}, (∀ r ∈ rs, NameOk r.name) → IpL 39 (rs.map (dueR L w)) = true
  | [], _ => rfl
  | r :: rs, h => by
    have ih := due_ip (L := L) (w := w) (rs := rs) fun x hx => h x (List.mem_cons_of_mem _ hx)
    have h1 := name_strOk (h r (List.mem_cons_self ..))
    show (Ip 39 (dueR L w r) && IpL 39 (rs.map (dueR L w))) = true
    rw [ih, Bool.and_true]
    cases L with
    | none => exact h1
    | some l =>
      show (PyData.strOk r.name && (true && true)) = true
      rw [h1]
      rfl
end Pw

namespace Pw
open PySem L2
/-! ### loads that rest, and one that comes later on the spot of another one: the plain law -/
def restK (w : Int) (m : Nat) (F : Rat) (k : Nat) : List Kn := [(F, Rat.divInt (w * k) m)]
def restL (w : Int) (F : Rat) (names : List Str) : Lds := names.zipIdx.map fun x => (x.1, restK w names.length F x.2)
theorem restL_len {w : Int} {F : Rat} {names : List Str} : (restL w F names).length = names.length := by
  unfold restL
  rw [List.length_map, List.length_zipIdx]
theorem restL_nm {w : Int} {F : Rat} {names : List Str} : (restL w F names).map (·.1) = names := by
  unfold restL
  rw [List.map_map]
  exact List.zipIdx_map_fst ..
theorem restL_get {w : Int} {F : Rat} {names : List Str} {k : Nat} {x : Str} (h : names[k]? = some x) : (restL w F names)[k]? = some (x, restK w names.length F k) := by
  unfold restL
  rw [List.getElem?_map, List.getElem?_zipIdx, h]
  simp
theorem restL_mem {w : Int} {F : Rat} {names : List Str} {q : Str × List Kn} (h : q ∈ restL w F names) : ∃ k, k < names.length ∧ names[k]? = some q.1 ∧ q.2 = restK w names.length F k := by
  obtain ⟨k, hk⟩ := List.mem_iff_getElem?.mp h
  have hl := (List.getElem?_eq_some_iff.mp hk).1
  rw [restL_len] at hl
  have e := restL_get (w := w) (F := F) (List.getElem?_eq_getElem hl)
  rw [e] at hk
  cases hk
  exact ⟨k, hl, List.getElem?_eq_getElem hl, rfl⟩
theorem posQ_rest {w : Int} {m k : Nat} {F t : Rat} : posQ (restK w m F k) t = Rat.divInt (w * k) m := posQ_one ..
theorem spot_in {L : Option Int} {w : Int} {x : Rat} {z : Int} (hw : 0 < w) (hL : ∀ l, L = some l → l = w) (hz : L = none → z = 0) (h0 : 0 ≤ x) (h1 : x < (w : Rat)) : spotQ L (x + ((w * z : Int) : Rat)) = x := by
  cases L with
  | none =>
    show x + ((w * z : Int) : Rat) = x
    rw [hz rfl]
    simp
    grind
  | some l =>
    obtain rfl := hL l rfl
    have hl0 : (0 : Rat) < (l : Rat) := by exact_mod_cast hw
    have e1 : (x + ((l * z : Int) : Rat)) / (l : Rat) = x / (l : Rat) + (z : Rat) := by
      rw [Rat.intCast_mul]
      grind
    have d0 : 0 ≤ x / (l : Rat) := by
      rw [Rat.div_def]
      exact Rat.mul_nonneg h0 (Rat.le_of_lt (Rat.inv_pos.mpr hl0))
    have d1 : x / (l : Rat) < 1 := by
      rw [Rat.div_lt_iff hl0]
      grind
    have e2 : ((x + ((l * z : Int) : Rat)) / (l : Rat)).floor = z := by
      rw [e1]
      exact floor_at (by grind) (by grind)
    show x + ((l * z : Int) : Rat) - (l : Rat) * (((x + ((l * z : Int) : Rat)) / (l : Rat)).floor : Rat) = x
    rw [e2, Rat.intCast_mul]
    grind
theorem inv_nn {q : Rat} (h : 0 ≤ q) : 0 ≤ q⁻¹ := by
  by_cases z : q = 0
  · rw [z, Rat.inv_zero]; exact Rat.le_refl
  · exact Rat.le_of_lt (Rat.inv_pos.mpr (by grind))
theorem rest_x {w : Int} {m k : Nat} : Rat.divInt (w * k) m = (w : Rat) * (k : Rat) / (m : Rat) := by
  rw [Rat.divInt_eq_div, Rat.intCast_mul]
  rfl
theorem rest_0 {w : Int} {m k : Nat} (hw : 0 < w) : 0 ≤ Rat.divInt (w * k) m := by
  rw [rest_x, Rat.div_def]
  have h1 : (0 : Rat) ≤ (w : Rat) := by exact_mod_cast Int.le_of_lt hw
  have h2 : (0 : Rat) ≤ (k : Rat) := by exact_mod_cast Nat.zero_le k
  have h3 : (0 : Rat) ≤ ((m : Rat))⁻¹ := inv_nn (by exact_mod_cast Nat.zero_le m)
  exact Rat.mul_nonneg (Rat.mul_nonneg h1 h2) h3
/-- the room between two places -/
theorem rest_gap {w : Int} {m k l : Nat} (hw : 0 < w) (h : k < l) (hm : 0 < m) : Rat.divInt (w * k) m + (w : Rat) / (m : Rat) ≤ Rat.divInt (w * l) m := by
  rw [rest_x, rest_x]
  have h1 : (0 : Rat) < (w : Rat) := by exact_mod_cast hw
  have h3 : (0 : Rat) < (m : Rat) := by exact_mod_cast hm
  have h4 : (k : Rat) + 1 ≤ (l : Rat) := by exact_mod_cast h
  have h5 : (0 : Rat) ≤ (w : Rat) * ((l : Rat) - ((k : Rat) + 1)) := Rat.mul_nonneg (Rat.le_of_lt h1) (by grind)
  have h6 : (0 : Rat) ≤ (w : Rat) * ((l : Rat) - ((k : Rat) + 1)) / (m : Rat) := by
    rw [Rat.div_def]
    exact Rat.mul_nonneg h5 (inv_nn (Rat.le_of_lt h3))
  grind
theorem rest_end {w : Int} {m k : Nat} (hw : 0 < w) (h : k < m) : Rat.divInt (w * k) m + (w : Rat) / (m : Rat) ≤ (w : Rat) := by
  have := rest_gap (m := m) hw h (by omega)
  have h3 : (0 : Rat) < (m : Rat) := by exact_mod_cast (show 0 < m by omega)
  rw [rest_x (k := m)] at this
  have e : (w : Rat) * (m : Rat) / (m : Rat) = (w : Rat) := by grind
  rwa [e] at this
theorem room_pos {w : Int} {m : Nat} (hw : 0 < w) (hm : 0 < m) : (0 : Rat) < (w : Rat) / (m : Rat) := by
  have h1 : (0 : Rat) < (w : Rat) := by exact_mod_cast hw
  have h3 : (0 : Rat) < (m : Rat) := by exact_mod_cast hm
  rw [Rat.div_def]
  exact Rat.mul_pos h1 (Rat.inv_pos.mpr h3)
theorem spot_rest {L : Option Int} {w : Int} {m k : Nat} (hw : 0 < w) (hL : ∀ l, L = some l → l = w) (h : k < m) {e : Rat} (h0 : 0 ≤ e) (h1 : e < (w : Rat) / (m : Rat)) {z : Int} (hz : L = none → z = 0) : spotQ L (Rat.divInt (w * k) m + e + ((w * z : Int) : Rat)) = Rat.divInt (w * k) m + e :=
  spot_in hw hL hz (by have := rest_0 (m := m) (k := k) hw; grind) (by have := rest_end hw h; grind)
theorem sd_apart {L : Option Int} {p q : List Kn} {t : Rat} (h : spotQ L (posQ p t) ≠ spotQ L (posQ q t)) : sdQ L p q t ≠ 0 := by
  unfold sdQ
  have e : ¬ sgn (spotQ L (posQ p t)) (spotQ L (posQ q t)) = 0 := fun z => h (sgn_zero.mp z)
  rw [if_neg e]
  exact e
theorem rest_spot {L : Option Int} {w : Int} {m k : Nat} {F t : Rat} (hw : 0 < w) (hL : ∀ l, L = some l → l = w) (h : k < m) : spotQ L (posQ (restK w m F k) t) = Rat.divInt (w * k) m := by
  have := spot_rest (e := 0) (z := 0) hw hL h Rat.le_refl (room_pos hw (by omega)) fun _ => rfl
  rw [posQ_rest]
  have e : Rat.divInt (w * k) m + 0 + ((w * 0 : Int) : Rat) = Rat.divInt (w * k) m := by simp; grind
  rw [e] at this
  rw [this]
  grind
theorem rest_sd {L : Option Int} {w : Int} {m k l : Nat} {F t : Rat} (hw : 0 < w) (hL : ∀ l, L = some l → l = w) (hk : k < m) (hl : l < m) (h : k ≠ l) : sdQ L (restK w m F k) (restK w m F l) t ≠ 0 := by
  refine sd_apart ?_
  rw [rest_spot hw hL hk, rest_spot hw hL hl]
  have hr := room_pos hw (show 0 < m by omega)
  rcases Nat.lt_or_gt_of_ne h with z | z
  · have := rest_gap (m := m) hw z (by omega); grind
  · have := rest_gap (m := m) hw z (by omega); grind
/-- the load that comes later: on the spot of another one till a time, then on -/
def twoK (a b x y : Rat) : List Kn := [(a, x), (b, x), (b + 1, y)]
theorem two_stay {a b x y t : Rat} (h1 : t ≤ b) : posQ (twoK a b x y) t = x := by
  unfold twoK
  rw [posQ_two]
  by_cases z : t < b
  · rw [if_pos z]
    unfold slope
    dsimp only
    grind
  · have e : t = b := by grind
    rw [if_neg z, posQ_two, if_pos (show t < b + 1 by grind)]
    unfold slope
    dsimp only
    rw [e]
    grind
theorem two_on {a b x y : Rat} : posQ (twoK a b x y) (b + Rat.divInt 1 5) = x + (y - x) / 5 := by
  have e5 : Rat.divInt 1 5 = 1 / 5 := by rw [Rat.divInt_eq_div]; rfl
  unfold twoK
  rw [posQ_two, if_neg (by rw [e5]; grind), posQ_two, if_pos (by rw [e5]; show b + 1 / 5 < b + 1; grind), e5]
  unfold slope
  dsimp only
  have e1 : b + 1 - b = 1 := by grind
  rw [e1]
  grind
theorem two_side {L : Option Int} {w z : Int} {m k : Nat} {F a b y t : Rat} (hw : 0 < w) (hL : ∀ l, L = some l → l = w) (hz : L = none → z = 0) (hk : k < m) (hF : F ≤ a) (h1 : a ≤ t) (h2 : t ≤ b) (kp : KOk (restK w m F k)) (kq : KOk (twoK a b (Rat.divInt (w * k) m + ((w * z : Int) : Rat)) y)) :
    sdQ L (restK w m F k) (twoK a b (Rat.divInt (w * k) m + ((w * z : Int) : Rat)) y) t = 0 := by
  have e0 : spotQ L (Rat.divInt (w * k) m + ((w * z : Int) : Rat)) = Rat.divInt (w * k) m := by
    have := spot_rest (e := 0) (z := z) hw hL hk Rat.le_refl (room_pos hw (by omega)) hz
    have e : Rat.divInt (w * k) m + 0 + ((w * z : Int) : Rat) = Rat.divInt (w * k) m + ((w * z : Int) : Rat) := by grind
    rw [e] at this
    rw [this]
    grind
  have hb : beg2 (restK w m F k) (twoK a b (Rat.divInt (w * k) m + ((w * z : Int) : Rat)) y) = a := by
    unfold beg2
    show (if F < a then a else F) = a
    by_cases q : F < a
    · rw [if_pos q]
    · rw [if_neg q]; grind
  have hg : ∀ s, a ≤ s → s ≤ t → gapQ (restK w m F k) (twoK a b (Rat.divInt (w * k) m + ((w * z : Int) : Rat)) y) s = gapQ (restK w m F k) (twoK a b (Rat.divInt (w * k) m + ((w * z : Int) : Rat)) y) t := fun s _ hs => by
    unfold gapQ
    rw [posQ_rest, posQ_rest, two_stay (by grind), two_stay h2]
  unfold sdQ
  rw [rest_spot hw hL hk, two_stay h2, e0, if_pos (sgn_zero.mpr rfl)]
  exact (sideB_bef kp kq (by rw [hb]; exact h1) rfl).only (.inl ⟨rfl, fun s h3 h4 => hg s (by rw [hb] at h3; exact h3) h4⟩)
theorem two_apart {L : Option Int} {w z : Int} {m k l : Nat} {F a b : Rat} (hw : 0 < w) (hL : ∀ l, L = some l → l = w) (hz : L = none → z = 0) (hk : k < m) (hl : l < m) :
    spotQ L (posQ (restK w m F l) (b + Rat.divInt 1 5)) ≠ spotQ L (posQ (twoK a b (Rat.divInt (w * k) m + ((w * z : Int) : Rat)) (Rat.divInt (w * k) m + ((w * z : Int) : Rat) + Rat.divInt w (9 * m))) (b + Rat.divInt 1 5)) := by
  have hm : (0 : Rat) < (m : Rat) := by exact_mod_cast (show 0 < m by omega)
  have hr := room_pos hw (show 0 < m by omega)
  have e9 : Rat.divInt w (9 * m) = (w : Rat) / (m : Rat) / 9 := by
    rw [Rat.divInt_eq_div, Rat.intCast_mul]
    have : (((m : Nat) : Int) : Rat) = (m : Rat) := rfl
    rw [this, show ((9 : Int) : Rat) = 9 from rfl]
    grind
  rw [rest_spot hw hL hl, two_on, e9]
  generalize hq : (w : Rat) / (m : Rat) = q at *
  have e : Rat.divInt (w * k) m + ((w * z : Int) : Rat) + (Rat.divInt (w * k) m + ((w * z : Int) : Rat) + q / 9 - (Rat.divInt (w * k) m + ((w * z : Int) : Rat))) / 5 = Rat.divInt (w * k) m + q / 45 + ((w * z : Int) : Rat) := by grind
  rw [e, spot_rest hw hL hk (by grind) (by rw [hq]; grind) hz]
  rcases Nat.lt_trichotomy l k with h | h | h
  · have := rest_gap (m := m) hw h (by omega); rw [hq] at this; grind
  · subst h; grind
  · have := rest_gap (m := m) hw h (by omega); rw [hq] at this; grind
theorem val_some {C : Addr} {ls : Lds} {n : Str} : (valD (ls.map fun q : Str × List Kn => (.inr q.1, tb C q.2)) (.inr n)).isSome = decide (n ∈ ls.map (·.1)) := by
  unfold valD
  rw [Option.isSome_map, Bool.eq_iff_iff, List.find?_isSome, decide_eq_true_eq]
  refine ⟨fun ⟨x, hx, h⟩ => ?_, fun h => ?_⟩
  · obtain ⟨q, hq, rfl⟩ := List.mem_map.mp hx
    have : q.1 = n := by simpa using h
    exact List.mem_map.mpr ⟨q, hq, this⟩
  · obtain ⟨q, hq, rfl⟩ := List.mem_map.mp h
    exact ⟨_, List.mem_map.mpr ⟨q, hq, rfl⟩, by simp⟩
theorem merge_map {α : Type} {nm : α → Str} {f : α → D} {ls : List α} (hn : (ls.map nm).Nodup) : mergeD [] (ls.map fun q => (Sum.inr (nm q), f q)) = ls.map fun q => (Sum.inr (nm q), f q) := by
  have key : ∀ i, i ≤ ls.length → mergeD [] ((ls.take i).map fun q => (Sum.inr (nm q), f q)) = (ls.take i).map fun q => (Sum.inr (nm q), f q) := fun i => by
    induction i with
    | zero => intro _; rfl
    | succ i ih =>
      intro hi
      have hq : ls[i]? = some ls[i] := List.getElem?_eq_getElem (by omega)
      rw [show (ls.take (i + 1)).map (fun q => ((Sum.inr (nm q), f q) : Key × D)) = (ls.take i).map (fun q => (Sum.inr (nm q), f q)) ++ [(Sum.inr (nm ls[i]), f ls[i])] by rw [take_succ_get hq, List.map_append]; rfl]
      unfold mergeD
      rw [List.foldl_append]
      show putD (mergeD [] ((ls.take i).map fun q => (Sum.inr (nm q), f q))) (Sum.inr (nm ls[i])) (f ls[i]) = _
      rw [ih (by omega), putD_step hn hq, take_succ_get hq, List.map_append]
      rfl
  have := key ls.length (Nat.le_refl _)
  rwa [List.take_length] at this
theorem divInt_1 (n : Int) : Rat.divInt n 1 = (n : Rat) := by
  rw [Rat.divInt_eq_div, show ((1 : Int) : Rat) = 1 from rfl]
  grind
theorem keys_ip {C : Addr} : ∀ {ls : Lds}, (∀ q ∈ ls, PyData.strOk q.1 = true) → IpL 39 (keysD (ls.map fun q : Str × List Kn => (.inr q.1, tb C q.2))) = true
  | [], _ => rfl
  | q :: ls, h => by
    have ih := keys_ip (C := C) (ls := ls) fun x hx => h x (List.mem_cons_of_mem _ hx)
    have h1 := h q (List.mem_cons_self ..)
    show (PyData.strOk q.1 && IpL 39 (keysD (ls.map fun q : Str × List Kn => (.inr q.1, tb C q.2)))) = true
    rw [ih, Bool.and_true]
    exact h1
end Pw

namespace Pw
open PySem L2
/-! ### the order of loads is a strict one; the place in it is the rank -/
theorem Bef.rng {ps qs : List Kn} {g t : Rat} {σ : Int} (h : Bef ps qs g t σ) : σ = 0 ∨ σ = 1 ∨ σ = -1 := by
  rcases h with ⟨rfl, _⟩ | ⟨h0, x, y, h1, h2, h3, h4, h5⟩
  · exact .inl rfl
  · have := h5 x Rat.le_refl h2
    rcases sgn_cases (gapQ ps qs x) g with ⟨e, _⟩ | ⟨e, _⟩ | ⟨e, _⟩ <;> rw [e] at this <;> simp [← this]
theorem sgn_neg1 {a b : Rat} : sgn a b = -1 ↔ a < b := by
  rcases sgn_cases a b with ⟨e, h⟩ | ⟨e, h⟩ | ⟨e, h⟩
  · rw [e]; exact ⟨fun z => (by cases z), fun z => (by grind)⟩
  · rw [e]; exact ⟨fun z => (by cases z), fun z => (by grind)⟩
  · rw [e]; exact ⟨fun _ => h, fun _ => rfl⟩
theorem gap_add (ps qs rs : List Kn) (s : Rat) : gapQ ps rs s = gapQ ps qs s + gapQ qs rs s := by
  unfold gapQ
  grind
theorem beg2_le {ps qs : List Kn} {s : Rat} : beg2 ps qs ≤ s ↔ fst0 ps ≤ s ∧ fst0 qs ≤ s := by
  unfold beg2
  by_cases h : fst0 ps < fst0 qs
  · rw [if_pos h]; exact ⟨fun z => ⟨by grind, z⟩, fun z => z.2⟩
  · rw [if_neg h]; exact ⟨fun z => ⟨z, by grind⟩, fun z => z.1⟩
/-- behind one that is behind a third -/
theorem Bef.trans {ps qs rs : List Kn} {g h t : Rat} (a : Bef ps qs g t (-1)) (b : Bef qs rs h t (-1)) : Bef ps rs (g + h) t (-1) := by
  rcases a with ⟨z, _⟩ | ⟨_, x, y, a1, a2, a3, a4, a5⟩
  · cases z
  rcases b with ⟨z, _⟩ | ⟨_, u, v, b1, b2, b3, b4, b5⟩
  · cases z
  obtain ⟨a6, a7⟩ := beg2_le.mp a1
  obtain ⟨b6, b7⟩ := beg2_le.mp b1
  have a5' : ∀ s, x ≤ s → s < y → gapQ ps qs s < g := fun s h1 h2 => sgn_neg1.mp (a5 s h1 h2)
  have b5' : ∀ s, u ≤ s → s < v → gapQ qs rs s < h := fun s h1 h2 => sgn_neg1.mp (b5 s h1 h2)
  refine .inr ⟨by decide, ?_⟩
  rcases Rat.le_total (a := y) (b := v) with c | c
  · by_cases d : y = v
    · subst d
      rcases Rat.le_total (a := x) (b := u) with e | e
      · exact ⟨u, y, beg2_le.mpr ⟨by grind, b7⟩, b2, a3, fun s h1 h2 => by rw [gap_add ps qs rs, a4 s h1 h2, b4 s h1 h2], fun s h1 h2 => sgn_neg1.mpr (by
          have := a5' s (by grind) h2
          have := b5' s h1 h2
          rw [gap_add ps qs rs]; grind)⟩
      · exact ⟨x, y, beg2_le.mpr ⟨a6, by grind⟩, a2, a3, fun s h1 h2 => by rw [gap_add ps qs rs, a4 s h1 h2, b4 s h1 h2], fun s h1 h2 => sgn_neg1.mpr (by
          have := a5' s h1 h2
          have := b5' s (by grind) h2
          rw [gap_add ps qs rs]; grind)⟩
    · have cv : y < v := by grind
      rcases Rat.le_total (a := y) (b := u) with e | e
      · exact ⟨u, v, beg2_le.mpr ⟨by grind, b7⟩, b2, b3, fun s h1 h2 => by rw [gap_add ps qs rs, a4 s (by grind) h2, b4 s h1 h2], fun s h1 h2 => sgn_neg1.mpr (by
          have := b5' s h1 h2
          rw [gap_add ps qs rs, a4 s (by grind) (by grind)]; grind)⟩
      · exact ⟨y, v, beg2_le.mpr ⟨by grind, by grind⟩, cv, b3, fun s h1 h2 => by rw [gap_add ps qs rs, a4 s (by grind) h2, b4 s h1 h2], fun s h1 h2 => sgn_neg1.mpr (by
          have := b5' s (by grind) h2
          rw [gap_add ps qs rs, a4 s h1 (by grind)]; grind)⟩
  · by_cases d : y = v
    · subst d
      rcases Rat.le_total (a := x) (b := u) with e | e
      · exact ⟨u, y, beg2_le.mpr ⟨by grind, b7⟩, b2, a3, fun s h1 h2 => by rw [gap_add ps qs rs, a4 s h1 h2, b4 s h1 h2], fun s h1 h2 => sgn_neg1.mpr (by
          have := a5' s (by grind) h2
          have := b5' s h1 h2
          rw [gap_add ps qs rs]; grind)⟩
      · exact ⟨x, y, beg2_le.mpr ⟨a6, by grind⟩, a2, a3, fun s h1 h2 => by rw [gap_add ps qs rs, a4 s h1 h2, b4 s h1 h2], fun s h1 h2 => sgn_neg1.mpr (by
          have := a5' s h1 h2
          have := b5' s (by grind) h2
          rw [gap_add ps qs rs]; grind)⟩
    · have cv : v < y := by grind
      rcases Rat.le_total (a := v) (b := x) with e | e
      · exact ⟨x, y, beg2_le.mpr ⟨a6, by grind⟩, a2, a3, fun s h1 h2 => by rw [gap_add ps qs rs, a4 s h1 h2, b4 s (by grind) h2], fun s h1 h2 => sgn_neg1.mpr (by
          have := a5' s h1 h2
          rw [gap_add ps qs rs, b4 s (by grind) (by grind)]; grind)⟩
      · exact ⟨v, y, beg2_le.mpr ⟨by grind, by grind⟩, cv, a3, fun s h1 h2 => by rw [gap_add ps qs rs, a4 s h1 h2, b4 s (by grind) h2], fun s h1 h2 => sgn_neg1.mpr (by
          have := a5' s (by grind) h2
          rw [gap_add ps qs rs, b4 s h1 (by grind)]; grind)⟩
theorem side_bef {ps qs : List Kn} {t : Rat} (hp : KOk ps) (hq : KOk qs) (h1 : fst0 ps ≤ t) (h2 : fst0 qs ≤ t) : Bef ps qs (gapQ ps qs t) t (sideB ps qs (gapQ ps qs t) t).2 := sideB_bef hp hq (beg2_le.mpr ⟨h1, h2⟩) rfl
/-- behind: a lesser spot, or the same one and behind just before the contact -/
theorem sd_neg {L : Option Int} {ps qs : List Kn} {t : Rat} (hp : KOk ps) (hq : KOk qs) (h1 : fst0 ps ≤ t) (h2 : fst0 qs ≤ t) : sdQ L ps qs t < 0 ↔ spotQ L (posQ ps t) < spotQ L (posQ qs t) ∨ (spotQ L (posQ ps t) = spotQ L (posQ qs t) ∧ Bef ps qs (gapQ ps qs t) t (-1)) := by
  have hb := side_bef hp hq h1 h2
  unfold sdQ
  rcases sgn_cases (spotQ L (posQ ps t)) (spotQ L (posQ qs t)) with ⟨e, z⟩ | ⟨e, z⟩ | ⟨e, z⟩
  · rw [if_pos e]
    refine ⟨fun y => .inr ⟨z, ?_⟩, fun y => ?_⟩
    · rcases hb.rng with k | k | k
      · rw [k] at y; cases y
      · rw [k] at y; cases y
      · rw [k] at hb; exact hb
    · rcases y with y | ⟨_, y⟩
      · grind
      · rw [hb.only y]; decide
  · rw [e, if_neg (by decide)]
    exact ⟨fun y => (by cases y), fun y => (by rcases y with y | ⟨y, _⟩ <;> grind)⟩
  · rw [e, if_neg (by decide)]
    exact ⟨fun _ => .inl z, fun _ => by decide⟩
theorem sd_trans {L : Option Int} {ps qs rs : List Kn} {t : Rat} (hp : KOk ps) (hq : KOk qs) (hr : KOk rs) (h1 : fst0 ps ≤ t) (h2 : fst0 qs ≤ t) (h3 : fst0 rs ≤ t) (a : sdQ L ps qs t < 0) (b : sdQ L qs rs t < 0) : sdQ L ps rs t < 0 := by
  rw [sd_neg hp hq h1 h2] at a
  rw [sd_neg hq hr h2 h3] at b
  rw [sd_neg hp hr h1 h3]
  rcases a with a | ⟨a, a'⟩
  · rcases b with b | ⟨b, _⟩
    · exact .inl (by grind)
    · exact .inl (by grind)
  · rcases b with b | ⟨b, b'⟩
    · exact .inl (by grind)
    · exact .inr ⟨a.trans b, by rw [gap_add ps qs rs]; exact a'.trans b'⟩
theorem sgn_swap (a b : Rat) : sgn b a = -sgn a b := by
  rcases sgn_cases a b with ⟨e, z⟩ | ⟨e, z⟩ | ⟨e, z⟩
  · rw [e, sgn_zero.mpr z.symm]; rfl
  · rw [e, sgn_neg1.mpr z]
  · rcases sgn_cases b a with ⟨f, y⟩ | ⟨f, y⟩ | ⟨f, y⟩
    · grind
    · rw [e, f]; rfl
    · grind
theorem sd_comm {L : Option Int} {ps qs : List Kn} {t : Rat} : sdQ L qs ps t = -sdQ L ps qs t := by
  unfold sdQ
  rw [sgn_swap (spotQ L (posQ ps t)) (spotQ L (posQ qs t)), gapQ_comm ps qs t, sideB_comm]
  by_cases h : sgn (spotQ L (posQ ps t)) (spotQ L (posQ qs t)) = 0
  · rw [if_pos (by rw [h]; rfl), if_pos h]
  · rw [if_neg (by omega), if_neg h]
structure OrdOk (L : Option Int) (t : Rat) (ls : Lds) : Prop where
  nd : (ls.map (·.1)).Nodup
  kn : ∀ q ∈ ls, KOk q.2 ∧ fst0 q.2 ≤ t
  ne : ∀ p ∈ ls, ∀ q ∈ ls, p.1 ≠ q.1 → sdQ L p.2 q.2 t ≠ 0
theorem OrdOk.lt {L : Option Int} {t : Rat} {ls : Lds} (h : OrdOk L t ls) {a b : Str × List Kn} (ha : a ∈ ls) (hb : b ∈ ls) (hl : sdQ L a.2 b.2 t < 0) : rankN L t ls a < rankN L t ls b := by
  have self : ∀ x ∈ ls, ¬ sdQ L x.2 x.2 t < 0 := fun x hx z => by
    have := sd_comm (L := L) (ps := x.2) (qs := x.2) (t := t)
    omega
  have hne : a.1 ≠ b.1 := fun e => by
    rw [nd_inj h.nd ha hb e] at hl
    exact self b hb hl
  unfold rankN
  have := cnt_lt (f := fun o : Str × List Kn => decide (o.1 ≠ a.1) && decide (sdQ L o.2 a.2 t < 0)) (g := fun o : Str × List Kn => decide (o.1 ≠ b.1) && decide (sdQ L o.2 b.2 t < 0)) (l := ls) (fun x hx hf => ?_) (e := a) (by simp) (by simp [hne, hl]) ha
  · exact_mod_cast this
  · simp only [Bool.and_eq_true, decide_eq_true_eq] at hf ⊢
    obtain ⟨h1, h2⟩ := hf
    have l2 := sd_trans (h.kn x hx).1 (h.kn a ha).1 (h.kn b hb).1 (h.kn x hx).2 (h.kn a ha).2 (h.kn b hb).2 h2 hl
    refine ⟨fun e => ?_, l2⟩
    rw [nd_inj h.nd hx hb e] at l2
    exact self b hb l2
theorem OrdOk.iff {L : Option Int} {t : Rat} {ls : Lds} (h : OrdOk L t ls) {a b : Str × List Kn} (ha : a ∈ ls) (hb : b ∈ ls) (hne : a.1 ≠ b.1) : rankN L t ls a < rankN L t ls b ↔ sdQ L a.2 b.2 t < 0 := by
  refine ⟨fun z => ?_, h.lt ha hb⟩
  have h0 := h.ne a ha b hb hne
  have hc := sd_comm (L := L) (ps := a.2) (qs := b.2) (t := t)
  rcases Int.lt_or_gt_of_ne h0 with y | y
  · exact y
  · have := h.lt hb ha (by omega)
    omega
def ordS (L : Option Int) (t : Rat) (ls : Lds) : Lds := ls.mergeSort fun a b => decide (rankN L t ls a ≤ rankN L t ls b)
theorem ordS_perm {L : Option Int} {t : Rat} {ls : Lds} : (ordS L t ls).Perm ls := List.mergeSort_perm _ _
/-- the place in the order is the rank -/
theorem OrdOk.index {L : Option Int} {t : Rat} {ls : Lds} (h : OrdOk L t ls) {i : Nat} {q : Str × List Kn} (hq : (ordS L t ls)[i]? = some q) : rankN L t ls q = (i : Int) := by
  have hp := ordS_perm (L := L) (t := t) (ls := ls)
  have hm : ∀ x, x ∈ ordS L t ls → x ∈ ls := fun x hx => hp.mem_iff.mp hx
  have hs : (ordS L t ls).Pairwise fun a b => rankN L t ls a ≤ rankN L t ls b := by
    have := List.pairwise_mergeSort (le := fun a b => decide (rankN L t ls a ≤ rankN L t ls b)) (fun a b c h1 h2 => by simp only [decide_eq_true_eq] at *; omega) (fun a b => by simp only [Bool.or_eq_true, decide_eq_true_eq]; omega) ls
    exact this.imp fun z => by simpa using z
  have hnd : ((ordS L t ls).map (·.1)).Nodup := (hp.map _).nodup_iff.mpr h.nd
  have e1 : rankN L t ls q = (((ordS L t ls).filter fun o => decide (o.1 ≠ q.1) && decide (sdQ L o.2 q.2 t < 0)).length : Int) := by
    unfold rankN
    rw [(hp.filter _).length_eq]
  obtain ⟨hi, eq⟩ := List.getElem?_eq_some_iff.mp hq
  have hqm : q ∈ ls := hm q (List.mem_of_getElem? hq)
  rw [e1]
  have key : ∀ S : Lds, S.Pairwise (fun a b => rankN L t ls a ≤ rankN L t ls b) → (S.map (·.1)).Nodup → (∀ x ∈ S, x ∈ ls) → ∀ (i : Nat), S[i]? = some q → (S.filter fun o => decide (o.1 ≠ q.1) && decide (sdQ L o.2 q.2 t < 0)).length = i := fun S => by
    induction S with
    | nil => intro _ _ _ i hi; simp at hi
    | cons a S ih =>
      intro hs hn hl i hi
      rw [List.pairwise_cons] at hs
      rw [List.map_cons, List.nodup_cons] at hn
      have ha := hl a (List.mem_cons_self ..)
      cases i with
      | zero =>
        have : a = q := by simpa using hi
        subst this
        rw [List.length_eq_zero_iff, List.filter_eq_nil_iff]
        intro x hx
        rcases List.mem_cons.mp hx with rfl | hx
        · simp
        · have h1 := hs.1 x hx
          simp only [Bool.and_eq_true, decide_eq_true_eq, not_and]
          intro hne z
          have := h.lt (hl x (List.mem_cons_of_mem _ hx)) ha z
          omega
      | succ i =>
        have hi2 : S[i]? = some q := by simpa using hi
        have hqS := List.mem_of_getElem? hi2
        have hne : a.1 ≠ q.1 := fun e => hn.1 (List.mem_map.mpr ⟨q, hqS, e.symm⟩)
        have hle := hs.1 q hqS
        have hlt : sdQ L a.2 q.2 t < 0 := by
          have h0 := h.ne a ha q hqm hne
          have hc := sd_comm (L := L) (ps := a.2) (qs := q.2) (t := t)
          rcases Int.lt_or_gt_of_ne h0 with y | y
          · exact y
          · have := h.lt hqm ha (by omega)
            omega
        rw [List.filter_cons_of_pos (by simp [hne, hlt]), List.length_cons, ih hs.2 hn.2 (fun x hx => hl x (List.mem_cons_of_mem _ hx)) i hi2]
  rw [key _ hs hnd hm i hq]
/-- two places in the order -/
theorem OrdOk.places {L : Option Int} {t : Rat} {ls : Lds} (h : OrdOk L t ls) {i j : Nat} {p q : Str × List Kn} (hp : (ordS L t ls)[i]? = some p) (hq : (ordS L t ls)[j]? = some q) (hne : p.1 ≠ q.1) : i < j ↔ sdQ L p.2 q.2 t < 0 := by
  have e1 := h.index hp
  have e2 := h.index hq
  have hm : ∀ x, x ∈ ordS L t ls → x ∈ ls := fun x hx => ordS_perm.mem_iff.mp hx
  rw [← h.iff (hm _ (List.mem_of_getElem? hp)) (hm _ (List.mem_of_getElem? hq)) hne, e1, e2]
  omega
theorem spot_rng {l : Int} (hl : 1 ≤ l) (p : Rat) : 0 ≤ spotQ (some l) p ∧ spotQ (some l) p < (l : Rat) ∧ p = (l : Rat) * (lapO (some l) p : Rat) + spotQ (some l) p := by
  have hl0 : (0 : Rat) < (l : Rat) := by exact_mod_cast (show 0 < l by omega)
  have h1 : ((p / (l : Rat)).floor : Rat) ≤ p / (l : Rat) := Rat.floor_le _
  have h2 : p / (l : Rat) < ((p / (l : Rat)).floor : Rat) + 1 := by
    have := Rat.lt_floor_add_one (p / (l : Rat))
    rw [Rat.intCast_add] at this
    exact this
  have e : p = (p / (l : Rat)) * (l : Rat) := by grind
  show 0 ≤ p - (l : Rat) * ((p / (l : Rat)).floor : Rat) ∧ p - (l : Rat) * ((p / (l : Rat)).floor : Rat) < (l : Rat) ∧ p = (l : Rat) * ((p / (l : Rat)).floor : Rat) + (p - (l : Rat) * ((p / (l : Rat)).floor : Rat))
  generalize ((p / (l : Rat)).floor : Rat) = k at *
  generalize p / (l : Rat) = u at *
  have m1 := Rat.mul_le_mul_of_nonneg_right h1 (Rat.le_of_lt hl0)
  have m2 := Rat.mul_lt_mul_of_pos_right h2 hl0
  refine ⟨by grind, by grind, by grind⟩
theorem lap_gap {l : Int} (hl : 1 ≤ l) (p q : Rat) : lapsQ (some l) (p - q) = lapO (some l) p - lapO (some l) q - (if spotQ (some l) p < spotQ (some l) q then 1 else 0) := by
  obtain ⟨a0, a1, a2⟩ := spot_rng hl p
  obtain ⟨b0, b1, b2⟩ := spot_rng hl q
  have hl0 : (0 : Rat) < (l : Rat) := by exact_mod_cast (show 0 < l by omega)
  show ((p - q) / (l : Rat)).floor = _
  have e : (p - q) / (l : Rat) = ((lapO (some l) p - lapO (some l) q : Int) : Rat) + (spotQ (some l) p - spotQ (some l) q) / (l : Rat) := by
    rw [Rat.intCast_sub]
    generalize (lapO (some l) p : Rat) = x at *
    generalize (lapO (some l) q : Rat) = y at *
    generalize spotQ (some l) p = u at *
    generalize spotQ (some l) q = v at *
    grind
  rw [e]
  generalize spotQ (some l) p = u at *
  generalize spotQ (some l) q = v at *
  generalize lapO (some l) p - lapO (some l) q = k
  have d1 : (u - v) / (l : Rat) < 1 := by rw [Rat.div_lt_iff hl0]; grind
  have d2 : -1 < (u - v) / (l : Rat) := by rw [Rat.lt_div_iff hl0]; grind
  by_cases h : u < v
  · rw [if_pos h]
    have d3 : (u - v) / (l : Rat) < 0 := by rw [Rat.div_lt_iff hl0]; grind
    have e1 : ((k - 1 : Int) : Rat) = (k : Rat) - 1 := by rw [Rat.intCast_sub]; rfl
    exact floor_at (by rw [e1]; grind) (by rw [e1]; grind)
  · rw [if_neg h]
    have d3 : 0 ≤ (u - v) / (l : Rat) := by rw [Rat.div_def]; exact Rat.mul_nonneg (by grind) (inv_nn (Rat.le_of_lt hl0))
    have e1 : ((k - 0 : Int) : Rat) = (k : Rat) := by rw [Int.sub_zero]
    exact floor_at (by rw [e1]; grind) (by rw [e1]; grind)
theorem track_spot {L : Option Int} (hL : ∀ l, L = some l → 1 ≤ l) (p q : Rat) : onTrack L (p - q) ↔ spotQ L p = spotQ L q := by
  cases L with
  | none =>
    show p - q = 0 ↔ p = q
    exact ⟨fun h => by grind, fun h => by grind⟩
  | some l =>
    have hl := hL l rfl
    have hl0 : (0 : Rat) < (l : Rat) := by exact_mod_cast (show 0 < l by omega)
    obtain ⟨a0, a1, a2⟩ := spot_rng hl p
    obtain ⟨b0, b1, b2⟩ := spot_rng hl q
    refine ⟨fun ⟨k, hk⟩ => ?_, fun h => ⟨lapO (some l) p - lapO (some l) q, ?_⟩⟩
    · have e : lapsQ (some l) (p - q) = k := by
        show ((p - q) / (l : Rat)).floor = k
        have : (p - q) / (l : Rat) = (k : Rat) := by rw [hk]; grind
        rw [this]
        exact floor_at Rat.le_refl (by grind)
      have h1 := lap_gap hl p q
      have h2 := lap_gap hl q p
      have e2 : lapsQ (some l) (q - p) = -k := by
        show ((q - p) / (l : Rat)).floor = -k
        have : (q - p) / (l : Rat) = ((-k : Int) : Rat) := by rw [Rat.intCast_neg]; grind
        rw [this]
        exact floor_at Rat.le_refl (by grind)
      rw [e] at h1
      rw [e2] at h2
      by_cases c : spotQ (some l) p < spotQ (some l) q
      · rw [if_pos c] at h1; rw [if_neg (by grind)] at h2; omega
      · by_cases d : spotQ (some l) q < spotQ (some l) p
        · rw [if_neg c] at h1; rw [if_pos d] at h2; omega
        · grind
    · rw [Rat.intCast_sub]
      generalize (lapO (some l) p : Rat) = x at *
      generalize (lapO (some l) q : Rat) = y at *
      grind
/-- laps before, read from the order: laps, and who is behind -/
theorem lb_order {L : Option Int} {ps qs : List Kn} {t : Rat} (hL : ∀ l, L = some l → 1 ≤ l) (hne : sdQ L ps qs t ≠ 0) : lbQ L ps qs t = lapO L (posQ ps t) - lapO L (posQ qs t) - (if sdQ L ps qs t < 0 then 1 else 0) := by
  by_cases on : onTrack L (gapQ ps qs t)
  · have hs := (track_spot hL (posQ ps t) (posQ qs t)).mp on
    have hz : sgn (spotQ L (posQ ps t)) (spotQ L (posQ qs t)) = 0 := sgn_zero.mpr hs
    have e : sdQ L ps qs t = (sideB ps qs (gapQ ps qs t) t).2 := if_pos hz
    rw [e] at hne
    rw [lbQ_on on, if_neg hne, e]
    congr 1
    cases L with
    | none =>
      have : gapQ ps qs t = 0 := on
      rw [this]
      rfl
    | some l =>
      have := lap_gap (hL l rfl) (posQ ps t) (posQ qs t)
      rw [if_neg (by rw [hs]; exact Rat.lt_irrefl)] at this
      rw [Int.sub_zero] at this
      exact this
  · have hs : spotQ L (posQ ps t) ≠ spotQ L (posQ qs t) := fun z => on ((track_spot hL _ _).mpr z)
    have hz : ¬ sgn (spotQ L (posQ ps t)) (spotQ L (posQ qs t)) = 0 := fun z => hs (sgn_zero.mp z)
    have e : sdQ L ps qs t = sgn (spotQ L (posQ ps t)) (spotQ L (posQ qs t)) := if_neg hz
    have e2 : sdQ L ps qs t < 0 ↔ spotQ L (posQ ps t) < spotQ L (posQ qs t) := by
      rw [e]
      rcases sgn_cases (spotQ L (posQ ps t)) (spotQ L (posQ qs t)) with ⟨f, y⟩ | ⟨f, y⟩ | ⟨f, y⟩
      · exact absurd y hs
      · rw [f]; exact ⟨fun z => (by cases z), fun z => (by grind)⟩
      · rw [f]; exact ⟨fun _ => y, fun _ => by decide⟩
    rw [lbQ_apart on]
    have e3 : (if sdQ L ps qs t < 0 then (1 : Int) else 0) = if spotQ L (posQ ps t) < spotQ L (posQ qs t) then 1 else 0 := by
      by_cases c : spotQ L (posQ ps t) < spotQ L (posQ qs t)
      · rw [if_pos c, if_pos (e2.mpr c)]
      · rw [if_neg c, if_neg (fun z => c (e2.mp z))]
    rw [e3]
    cases L with
    | none =>
      show (if 0 ≤ posQ ps t - posQ qs t then (0 : Int) else -1) = 0 - 0 - (if posQ ps t < posQ qs t then 1 else 0)
      by_cases c : posQ ps t < posQ qs t
      · rw [if_pos c, if_neg (by grind)]; rfl
      · rw [if_neg c, if_pos (by grind)]; rfl
    | some l => exact lap_gap (hL l rfl) (posQ ps t) (posQ qs t)
end Pw

namespace G
open PySem PySem.Spec PyProof.Rows L2 Pw
def topS (i : Nat) : Stmt := PySem.Challenge.pw_handedpast_k24_orders_refused.main.body.getD i (.Pass ⟨0, 0, 0, 0⟩)
abbrev s_is_whole : Stmt := topS 10
abbrev N_is_whole : List Str := ["value"]
theorem sc_is_whole : FnScope N_is_whole ["value"] (defScope s_is_whole) := ⟨rfl, rfl, rfl, by decide +kernel, rfl, by decide +kernel, by decide +kernel⟩
abbrev s_common_divisor : Stmt := topS 11
abbrev N_common_divisor : List Str := ["a", "b"]
theorem sc_common_divisor : FnScope N_common_divisor ["a", "b"] (defScope s_common_divisor) := ⟨rfl, rfl, rfl, by decide +kernel, rfl, by decide +kernel, by decide +kernel⟩
abbrev s_is_fraction : Stmt := topS 12
abbrev N_is_fraction : List Str := ["value"]
theorem sc_is_fraction : FnScope N_is_fraction ["value"] (defScope s_is_fraction) := ⟨rfl, rfl, rfl, by decide +kernel, rfl, by decide +kernel, by decide +kernel⟩
abbrev s_new_fraction : Stmt := topS 13
abbrev N_new_fraction : List Str := ["n", "d", "common"]
theorem sc_new_fraction : FnScope N_new_fraction ["n", "d"] (defScope s_new_fraction) := ⟨rfl, rfl, rfl, by decide +kernel, rfl, by decide +kernel, by decide +kernel⟩
abbrev s_sum_of : Stmt := topS 14
abbrev N_sum_of : List Str := ["a", "b"]
theorem sc_sum_of : FnScope N_sum_of ["a", "b"] (defScope s_sum_of) := ⟨rfl, rfl, rfl, by decide +kernel, rfl, by decide +kernel, by decide +kernel⟩
abbrev s_rest_of : Stmt := topS 15
abbrev N_rest_of : List Str := ["a", "b"]
theorem sc_rest_of : FnScope N_rest_of ["a", "b"] (defScope s_rest_of) := ⟨rfl, rfl, rfl, by decide +kernel, rfl, by decide +kernel, by decide +kernel⟩
abbrev s_product_of : Stmt := topS 16
abbrev N_product_of : List Str := ["a", "b"]
theorem sc_product_of : FnScope N_product_of ["a", "b"] (defScope s_product_of) := ⟨rfl, rfl, rfl, by decide +kernel, rfl, by decide +kernel, by decide +kernel⟩
abbrev s_share_of : Stmt := topS 17
abbrev N_share_of : List Str := ["a", "b"]
theorem sc_share_of : FnScope N_share_of ["a", "b"] (defScope s_share_of) := ⟨rfl, rfl, rfl, by decide +kernel, rfl, by decide +kernel, by decide +kernel⟩
abbrev s_order_of : Stmt := topS 18
abbrev N_order_of : List Str := ["a", "b", "gap"]
theorem sc_order_of : FnScope N_order_of ["a", "b"] (defScope s_order_of) := ⟨rfl, rfl, rfl, by decide +kernel, rfl, by decide +kernel, by decide +kernel⟩
abbrev s_is_less : Stmt := topS 19
abbrev N_is_less : List Str := ["a", "b"]
theorem sc_is_less : FnScope N_is_less ["a", "b"] (defScope s_is_less) := ⟨rfl, rfl, rfl, by decide +kernel, rfl, by decide +kernel, by decide +kernel⟩
abbrev s_floor_of : Stmt := topS 20
abbrev N_floor_of : List Str := ["a"]
theorem sc_floor_of : FnScope N_floor_of ["a"] (defScope s_floor_of) := ⟨rfl, rfl, rfl, by decide +kernel, rfl, by decide +kernel, by decide +kernel⟩
abbrev s_need_length : Stmt := topS 22
abbrev N_need_length : List Str := ["length"]
theorem sc_need_length : FnScope N_need_length ["length"] (defScope s_need_length) := ⟨rfl, rfl, rfl, by decide +kernel, rfl, by decide +kernel, by decide +kernel⟩
abbrev s_later_begin : Stmt := topS 23
abbrev N_later_begin : List Str := ["one", "other"]
theorem sc_later_begin : FnScope N_later_begin ["one", "other"] (defScope s_later_begin) := ⟨rfl, rfl, rfl, by decide +kernel, rfl, by decide +kernel, by decide +kernel⟩
abbrev s_gap_at : Stmt := topS 24
abbrev N_gap_at : List Str := ["one", "other", "t"]
theorem sc_gap_at : FnScope N_gap_at ["one", "other", "t"] (defScope s_gap_at) := ⟨rfl, rfl, rfl, by decide +kernel, rfl, by decide +kernel, by decide +kernel⟩
abbrev s_is_contact : Stmt := topS 25
abbrev N_is_contact : List Str := ["gap", "length"]
theorem sc_is_contact : FnScope N_is_contact ["gap", "length"] (defScope s_is_contact) := ⟨rfl, rfl, rfl, by decide +kernel, rfl, by decide +kernel, by decide +kernel⟩
abbrev s_last_turn : Stmt := topS 26
abbrev N_last_turn : List Str := ["one", "other", "t", "found", "table", "time", "place"]
theorem sc_last_turn : FnScope N_last_turn ["one", "other", "t"] (defScope s_last_turn) := ⟨rfl, rfl, rfl, by decide +kernel, rfl, by decide +kernel, by decide +kernel⟩
abbrev s_side_before : Stmt := topS 27
abbrev N_side_before : List Str := ["one", "other", "t", "gap", "first", "earlier", "side"]
theorem sc_side_before : FnScope N_side_before ["one", "other", "t"] (defScope s_side_before) := ⟨rfl, rfl, rfl, by decide +kernel, rfl, by decide +kernel, by decide +kernel⟩
abbrev s_before_at : Stmt := topS 28
abbrev N_before_at : List Str := ["one", "other", "t", "length"]
theorem sc_before_at : FnScope N_before_at ["one", "other", "t", "length"] (defScope s_before_at) := ⟨rfl, rfl, rfl, by decide +kernel, rfl, by decide +kernel, by decide +kernel⟩
abbrev s_is_knot : Stmt := topS 31
abbrev N_is_knot : List Str := ["value"]
theorem sc_is_knot : FnScope N_is_knot ["value"] (defScope s_is_knot) := ⟨rfl, rfl, rfl, by decide +kernel, rfl, by decide +kernel, by decide +kernel⟩
abbrev s_are_knots : Stmt := topS 32
abbrev N_are_knots : List Str := ["value", "knot", "at"]
theorem sc_are_knots : FnScope N_are_knots ["value"] (defScope s_are_knots) := ⟨rfl, rfl, rfl, by decide +kernel, rfl, by decide +kernel, by decide +kernel⟩
abbrev s_slopes_of : Stmt := topS 33
abbrev N_slopes_of : List Str := ["points", "found", "one", "other"]
theorem sc_slopes_of : FnScope N_slopes_of ["points"] (defScope s_slopes_of) := ⟨rfl, rfl, rfl, by decide +kernel, rfl, by decide +kernel, by decide +kernel⟩
abbrev s_turns_of : Stmt := topS 34
abbrev N_turns_of : List Str := ["points", "slopes", "at"]
theorem sc_turns_of : FnScope N_turns_of ["points"] (defScope s_turns_of) := ⟨rfl, rfl, rfl, by decide +kernel, rfl, by decide +kernel, by decide +kernel⟩
abbrev s_piece_on : Stmt := topS 35
abbrev N_piece_on : List Str := ["points", "t", "at"]
theorem sc_piece_on : FnScope N_piece_on ["points", "t"] (defScope s_piece_on) := ⟨rfl, rfl, rfl, by decide +kernel, rfl, by decide +kernel, by decide +kernel⟩
abbrev s_pace_on : Stmt := topS 36
abbrev N_pace_on : List Str := ["points", "t", "at", "one", "other"]
theorem sc_pace_on : FnScope N_pace_on ["points", "t"] (defScope s_pace_on) := ⟨rfl, rfl, rfl, by decide +kernel, rfl, by decide +kernel, by decide +kernel⟩
abbrev s_place_on : Stmt := topS 37
abbrev N_place_on : List Str := ["points", "t", "knot"]
theorem sc_place_on : FnScope N_place_on ["points", "t"] (defScope s_place_on) := ⟨rfl, rfl, rfl, by decide +kernel, rfl, by decide +kernel, by decide +kernel⟩
abbrev s_Timetable___init__ : Stmt := (inClass (topS 38) 1)
abbrev N_Timetable___init__ : List Str := ["self", "knots"]
theorem sc_Timetable___init__ : FnScope N_Timetable___init__ ["self", "knots"] (defScope s_Timetable___init__) := ⟨rfl, rfl, rfl, by decide +kernel, rfl, by decide +kernel, by decide +kernel⟩
abbrev s_Timetable_resting : Stmt := (inClass (topS 38) 3)
abbrev N_Timetable_resting : List Str := ["cls", "t", "x"]
theorem sc_Timetable_resting : FnScope N_Timetable_resting ["cls", "t", "x"] (defScope s_Timetable_resting) := ⟨rfl, rfl, rfl, by decide +kernel, rfl, by decide +kernel, by decide +kernel⟩
abbrev s_Timetable_begin : Stmt := (inClass (topS 38) 5)
abbrev N_Timetable_begin : List Str := ["self"]
theorem sc_Timetable_begin : FnScope N_Timetable_begin ["self"] (defScope s_Timetable_begin) := ⟨rfl, rfl, rfl, by decide +kernel, rfl, by decide +kernel, by decide +kernel⟩
abbrev s_Timetable_at : Stmt := (inClass (topS 38) 7)
abbrev N_Timetable_at : List Str := ["self", "t"]
theorem sc_Timetable_at : FnScope N_Timetable_at ["self", "t"] (defScope s_Timetable_at) := ⟨rfl, rfl, rfl, by decide +kernel, rfl, by decide +kernel, by decide +kernel⟩
abbrev s_lap_of : Stmt := topS 40
abbrev N_lap_of : List Str := ["place", "length"]
theorem sc_lap_of : FnScope N_lap_of ["place", "length"] (defScope s_lap_of) := ⟨rfl, rfl, rfl, by decide +kernel, rfl, by decide +kernel, by decide +kernel⟩
abbrev s_spot_of : Stmt := topS 41
abbrev N_spot_of : List Str := ["place", "length"]
theorem sc_spot_of : FnScope N_spot_of ["place", "length"] (defScope s_spot_of) := ⟨rfl, rfl, rfl, by decide +kernel, rfl, by decide +kernel, by decide +kernel⟩
abbrev s_ordered : Stmt := topS 42
abbrev N_ordered : List Str := ["tables", "t", "length", "spots", "ranks", "name", "other", "side"]
theorem sc_ordered : FnScope N_ordered ["tables", "t", "length"] (defScope s_ordered) := ⟨rfl, rfl, rfl, by decide +kernel, rfl, by decide +kernel, by decide +kernel⟩
abbrev s_order_at : Stmt := topS 43
abbrev N_order_at : List Str := ["tables", "t", "length", "table", "names", "name"]
theorem sc_order_at : FnScope N_order_at ["tables", "t", "length"] (defScope s_order_at) := ⟨rfl, rfl, rfl, by decide +kernel, rfl, by decide +kernel, by decide +kernel⟩
abbrev s__law_begun : Stmt := topS 45
abbrev N__law_begun : List Str := ["script", "large", "cell"]
theorem sc__law_begun : FnScope N__law_begun ["script"] (defScope s__law_begun) := ⟨rfl, rfl, rfl, by decide +kernel, rfl, by decide +kernel, by decide +kernel⟩
abbrev s__law_mixed : Stmt := topS 46
abbrev N__law_mixed : List Str := ["state", "found", "prime", "blend", "cell"]
theorem sc__law_mixed : FnScope N__law_mixed ["state"] (defScope s__law_mixed) := ⟨rfl, rfl, rfl, by decide +kernel, rfl, by decide +kernel, by decide +kernel⟩
abbrev s__law_take : Stmt := topS 47
abbrev N__law_take : List Str := ["state", "size", "found"]
theorem sc__law_take : FnScope N__law_take ["state", "size"] (defScope s__law_take) := ⟨rfl, rfl, rfl, by decide +kernel, rfl, by decide +kernel, by decide +kernel⟩
abbrev s__law_pick : Stmt := topS 48
abbrev N__law_pick : List Str := ["state", "some"]
theorem sc__law_pick : FnScope N__law_pick ["state", "some"] (defScope s__law_pick) := ⟨rfl, rfl, rfl, by decide +kernel, rfl, by decide +kernel, by decide +kernel⟩
abbrev s__law_ratio : Stmt := topS 49
abbrev N__law_ratio : List Str := ["n", "d", "one", "two"]
theorem sc__law_ratio : FnScope N__law_ratio ["n", "d"] (defScope s__law_ratio) := ⟨rfl, rfl, rfl, by decide +kernel, rfl, by decide +kernel, by decide +kernel⟩
abbrev s__law_plus : Stmt := topS 50
abbrev N__law_plus : List Str := ["a", "b"]
theorem sc__law_plus : FnScope N__law_plus ["a", "b"] (defScope s__law_plus) := ⟨rfl, rfl, rfl, by decide +kernel, rfl, by decide +kernel, by decide +kernel⟩
abbrev s__law_minus : Stmt := topS 51
abbrev N__law_minus : List Str := ["a", "b"]
theorem sc__law_minus : FnScope N__law_minus ["a", "b"] (defScope s__law_minus) := ⟨rfl, rfl, rfl, by decide +kernel, rfl, by decide +kernel, by decide +kernel⟩
abbrev s__law_names : Stmt := topS 55
abbrev N__law_names : List Str := ["state", "many", "letters", "found", "k", "name", "some", "sign", "one"]
theorem sc__law_names : FnScope N__law_names ["state", "many"] (defScope s__law_names) := ⟨rfl, rfl, rfl, by decide +kernel, rfl, by decide +kernel, by decide +kernel⟩
abbrev s__law_error : Stmt := topS 56
abbrev N__law_error : List Str := ["work", "error", "e", "others", "marks"]
theorem sc__law_error : FnScope N__law_error ["work"] (defScope s__law_error) := ⟨rfl, rfl, rfl, by decide +kernel, rfl, by decide +kernel, by decide +kernel⟩
abbrev s_law : Stmt := topS 57
abbrev N_law : List Str := ["script", "state", "turn", "ring", "names", "wide", "first", "late", "part", "tables", "k", "name", "one", "two", "lap", "spot", "goal", "both", "odd", "kept", "t"]
theorem sc_law : FnScope N_law ["script"] (defScope s_law) := ⟨rfl, rfl, rfl, by decide +kernel, rfl, by decide +kernel, by decide +kernel⟩
structure Tx (K : PySem.W.Frag) (mg : Str → Option Value) (base : Heap) where
  C_Timetable : Addr
  c_Timetable : Cls K C_Timetable
  e_Timetable : Pw.OwnE K C_Timetable
  g_Timetable : mg "Timetable" = some (.ref C_Timetable)
  n_Timetable_points : NoAttr K C_Timetable "points"
  n_Timetable_turns : NoAttr K C_Timetable "turns"
  r_Timetable : ClX.CRead K C_Timetable (.type "type")
  u_Timetable_MOST : Value
  k_Timetable_MOST : Con K C_Timetable "MOST" (.int 40) u_Timetable_MOST
  C_NoTime : Addr
  g_NoTime : mg "NoTime" = some (.ref C_NoTime)
  x_NoTime : PySem.W.excIn K C_NoTime [.type "ValueError", .type "Exception", .type "BaseException", .type "object"] "ValueError.__new__" = true
  k_NoTime : PySem.W.keepIn K (.ref C_NoTime) = true
  b_NoTime : PySem.W.subIn K (.ref C_NoTime) (.type "BaseException") = some true
  t_NoTime : PySem.W.typeIn K (.ref C_NoTime) = some (.type "type")
  e_NoTime : PySem.W.exmOne K (.ref C_NoTime) (.ref C_NoTime) = some true
  C_NoTrack : Addr
  g_NoTrack : mg "NoTrack" = some (.ref C_NoTrack)
  x_NoTrack : PySem.W.excIn K C_NoTrack [.type "ValueError", .type "Exception", .type "BaseException", .type "object"] "ValueError.__new__" = true
  k_NoTrack : PySem.W.keepIn K (.ref C_NoTrack) = true
  b_NoTrack : PySem.W.subIn K (.ref C_NoTrack) (.type "BaseException") = some true
  t_NoTrack : PySem.W.typeIn K (.ref C_NoTrack) = some (.type "type")
  e_NoTrack : PySem.W.exmOne K (.ref C_NoTrack) (.ref C_NoTrack) = some true
  C_NoTable : Addr
  g_NoTable : mg "NoTable" = some (.ref C_NoTable)
  C_NoRest : Addr
  g_NoRest : mg "NoRest" = some (.ref C_NoRest)
  C_NoCarrier : Addr
  g_NoCarrier : mg "NoCarrier" = some (.ref C_NoCarrier)
  C_NoName : Addr
  g_NoName : mg "NoName" = some (.ref C_NoName)
  C_TrackError : Addr
  g_TrackError : mg "TrackError" = some (.ref C_TrackError)
  i_NoTime : ExcC K C_NoTime
  xh_NoTime : PySem.W.exmOne K (.ref C_NoTime) (.ref C_TrackError) = some true
  kt_NoTime_NoTable : PySem.W.kitOne K (.ref C_NoTime) (.ref C_NoTable) = some false
  kt_NoTime_NoRest : PySem.W.kitOne K (.ref C_NoTime) (.ref C_NoRest) = some false
  kt_NoTime_NoCarrier : PySem.W.kitOne K (.ref C_NoTime) (.ref C_NoCarrier) = some false
  kt_NoTime_NoName : PySem.W.kitOne K (.ref C_NoTime) (.ref C_NoName) = some false
  kt_NoTime_NoTrack : PySem.W.kitOne K (.ref C_NoTime) (.ref C_NoTrack) = some false
  kt_NoTime_NoTime : PySem.W.kitOne K (.ref C_NoTime) (.ref C_NoTime) = some true
  kb_NoTime_ValueError : PySem.W.kitOne K (.ref C_NoTime) (.type "ValueError") = some true
  i_NoTrack : ExcC K C_NoTrack
  xh_NoTrack : PySem.W.exmOne K (.ref C_NoTrack) (.ref C_TrackError) = some true
  kt_NoTrack_NoTable : PySem.W.kitOne K (.ref C_NoTrack) (.ref C_NoTable) = some false
  kt_NoTrack_NoRest : PySem.W.kitOne K (.ref C_NoTrack) (.ref C_NoRest) = some false
  kt_NoTrack_NoCarrier : PySem.W.kitOne K (.ref C_NoTrack) (.ref C_NoCarrier) = some false
  kt_NoTrack_NoName : PySem.W.kitOne K (.ref C_NoTrack) (.ref C_NoName) = some false
  kt_NoTrack_NoTrack : PySem.W.kitOne K (.ref C_NoTrack) (.ref C_NoTrack) = some true
  kt_NoTrack_NoTime : PySem.W.kitOne K (.ref C_NoTrack) (.ref C_NoTime) = some false
  kb_NoTrack_ValueError : PySem.W.kitOne K (.ref C_NoTrack) (.type "ValueError") = some true
  a_ZERO : Addr
  c_ZERO : mg "ZERO" = some (.ref a_ZERO)
  t_ZERO : Pw.KT K a_ZERO [.int 0, .int 1]
  c_ordered : Addr
  P_ordered : Addr
  TB_ordered : LamX.TabB base mg c_ordered P_ordered
  c_law : Addr
  P_law : Addr
  TB_law : LamX.TabB base mg c_law P_law
  tu : ∀ p ∈ ([(P_ordered, lamQ "ordered"), (P_law, lamQ "law")] : List (Addr × Str)), ∀ q ∈ ([(P_ordered, lamQ "ordered"), (P_law, lamQ "law")] : List (Addr × Str)), p.1 = q.1 → p.2 = q.2
  f_is_whole : Addr
  fd_is_whole : FuncData
  F_is_whole : Fun K "is_whole" "is_whole" s_is_whole f_is_whole fd_is_whole
  b_is_whole : Binds K fd_is_whole ["value"] []
  g_is_whole : mg "is_whole" = some (.ref f_is_whole)
  f_common_divisor : Addr
  fd_common_divisor : FuncData
  F_common_divisor : Fun K "common_divisor" "common_divisor" s_common_divisor f_common_divisor fd_common_divisor
  b_common_divisor : Binds K fd_common_divisor ["a", "b"] []
  g_common_divisor : mg "common_divisor" = some (.ref f_common_divisor)
  f_is_fraction : Addr
  fd_is_fraction : FuncData
  F_is_fraction : Fun K "is_fraction" "is_fraction" s_is_fraction f_is_fraction fd_is_fraction
  b_is_fraction : Binds K fd_is_fraction ["value"] []
  g_is_fraction : mg "is_fraction" = some (.ref f_is_fraction)
  f_new_fraction : Addr
  fd_new_fraction : FuncData
  F_new_fraction : FunD K "new_fraction" "new_fraction" (defArgs s_new_fraction) (defBody s_new_fraction) (defScope s_new_fraction) [.int 1] [] f_new_fraction fd_new_fraction
  b_new_fraction : Binds K fd_new_fraction ["n", "d"] []
  d1_new_fraction : List Value
  v1_new_fraction : Vals ([.int 1].drop 0) d1_new_fraction
  b1_new_fraction : Binds K fd_new_fraction ["n", "d"] d1_new_fraction
  g_new_fraction : mg "new_fraction" = some (.ref f_new_fraction)
  f_sum_of : Addr
  fd_sum_of : FuncData
  F_sum_of : Fun K "sum_of" "sum_of" s_sum_of f_sum_of fd_sum_of
  b_sum_of : Binds K fd_sum_of ["a", "b"] []
  g_sum_of : mg "sum_of" = some (.ref f_sum_of)
  f_rest_of : Addr
  fd_rest_of : FuncData
  F_rest_of : Fun K "rest_of" "rest_of" s_rest_of f_rest_of fd_rest_of
  b_rest_of : Binds K fd_rest_of ["a", "b"] []
  g_rest_of : mg "rest_of" = some (.ref f_rest_of)
  f_product_of : Addr
  fd_product_of : FuncData
  F_product_of : Fun K "product_of" "product_of" s_product_of f_product_of fd_product_of
  b_product_of : Binds K fd_product_of ["a", "b"] []
  g_product_of : mg "product_of" = some (.ref f_product_of)
  f_share_of : Addr
  fd_share_of : FuncData
  F_share_of : Fun K "share_of" "share_of" s_share_of f_share_of fd_share_of
  b_share_of : Binds K fd_share_of ["a", "b"] []
  g_share_of : mg "share_of" = some (.ref f_share_of)
  f_order_of : Addr
  fd_order_of : FuncData
  F_order_of : Fun K "order_of" "order_of" s_order_of f_order_of fd_order_of
  b_order_of : Binds K fd_order_of ["a", "b"] []
  g_order_of : mg "order_of" = some (.ref f_order_of)
  f_is_less : Addr
  fd_is_less : FuncData
  F_is_less : Fun K "is_less" "is_less" s_is_less f_is_less fd_is_less
  b_is_less : Binds K fd_is_less ["a", "b"] []
  g_is_less : mg "is_less" = some (.ref f_is_less)
  f_floor_of : Addr
  fd_floor_of : FuncData
  F_floor_of : Fun K "floor_of" "floor_of" s_floor_of f_floor_of fd_floor_of
  b_floor_of : Binds K fd_floor_of ["a"] []
  g_floor_of : mg "floor_of" = some (.ref f_floor_of)
  f_need_length : Addr
  fd_need_length : FuncData
  F_need_length : Fun K "need_length" "need_length" s_need_length f_need_length fd_need_length
  b_need_length : Binds K fd_need_length ["length"] []
  g_need_length : mg "need_length" = some (.ref f_need_length)
  f_later_begin : Addr
  fd_later_begin : FuncData
  F_later_begin : Fun K "later_begin" "later_begin" s_later_begin f_later_begin fd_later_begin
  b_later_begin : Binds K fd_later_begin ["one", "other"] []
  g_later_begin : mg "later_begin" = some (.ref f_later_begin)
  f_gap_at : Addr
  fd_gap_at : FuncData
  F_gap_at : Fun K "gap_at" "gap_at" s_gap_at f_gap_at fd_gap_at
  b_gap_at : Binds K fd_gap_at ["one", "other", "t"] []
  g_gap_at : mg "gap_at" = some (.ref f_gap_at)
  f_is_contact : Addr
  fd_is_contact : FuncData
  F_is_contact : Fun K "is_contact" "is_contact" s_is_contact f_is_contact fd_is_contact
  b_is_contact : Binds K fd_is_contact ["gap", "length"] []
  g_is_contact : mg "is_contact" = some (.ref f_is_contact)
  f_last_turn : Addr
  fd_last_turn : FuncData
  F_last_turn : Fun K "last_turn" "last_turn" s_last_turn f_last_turn fd_last_turn
  b_last_turn : Binds K fd_last_turn ["one", "other", "t"] []
  g_last_turn : mg "last_turn" = some (.ref f_last_turn)
  f_side_before : Addr
  fd_side_before : FuncData
  F_side_before : Fun K "side_before" "side_before" s_side_before f_side_before fd_side_before
  b_side_before : Binds K fd_side_before ["one", "other", "t"] []
  g_side_before : mg "side_before" = some (.ref f_side_before)
  f_before_at : Addr
  fd_before_at : FuncData
  F_before_at : Fun K "before_at" "before_at" s_before_at f_before_at fd_before_at
  b_before_at : Binds K fd_before_at ["one", "other", "t", "length"] []
  g_before_at : mg "before_at" = some (.ref f_before_at)
  f_is_knot : Addr
  fd_is_knot : FuncData
  F_is_knot : Fun K "is_knot" "is_knot" s_is_knot f_is_knot fd_is_knot
  b_is_knot : Binds K fd_is_knot ["value"] []
  g_is_knot : mg "is_knot" = some (.ref f_is_knot)
  f_are_knots : Addr
  fd_are_knots : FuncData
  F_are_knots : Fun K "are_knots" "are_knots" s_are_knots f_are_knots fd_are_knots
  b_are_knots : Binds K fd_are_knots ["value"] []
  g_are_knots : mg "are_knots" = some (.ref f_are_knots)
  f_slopes_of : Addr
  fd_slopes_of : FuncData
  F_slopes_of : Fun K "slopes_of" "slopes_of" s_slopes_of f_slopes_of fd_slopes_of
  b_slopes_of : Binds K fd_slopes_of ["points"] []
  g_slopes_of : mg "slopes_of" = some (.ref f_slopes_of)
  f_turns_of : Addr
  fd_turns_of : FuncData
  F_turns_of : Fun K "turns_of" "turns_of" s_turns_of f_turns_of fd_turns_of
  b_turns_of : Binds K fd_turns_of ["points"] []
  g_turns_of : mg "turns_of" = some (.ref f_turns_of)
  f_piece_on : Addr
  fd_piece_on : FuncData
  F_piece_on : Fun K "piece_on" "piece_on" s_piece_on f_piece_on fd_piece_on
  b_piece_on : Binds K fd_piece_on ["points", "t"] []
  g_piece_on : mg "piece_on" = some (.ref f_piece_on)
  f_pace_on : Addr
  fd_pace_on : FuncData
  F_pace_on : Fun K "pace_on" "pace_on" s_pace_on f_pace_on fd_pace_on
  b_pace_on : Binds K fd_pace_on ["points", "t"] []
  g_pace_on : mg "pace_on" = some (.ref f_pace_on)
  f_place_on : Addr
  fd_place_on : FuncData
  F_place_on : Fun K "place_on" "place_on" s_place_on f_place_on fd_place_on
  b_place_on : Binds K fd_place_on ["points", "t"] []
  g_place_on : mg "place_on" = some (.ref f_place_on)
  f_Timetable___init__ : Addr
  fd_Timetable___init__ : FuncData
  F_Timetable___init__ : Fun K "__init__" "Timetable.__init__" s_Timetable___init__ f_Timetable___init__ fd_Timetable___init__
  b_Timetable___init__ : Binds K fd_Timetable___init__ ["self", "knots"] []
  M_Timetable : Mk K C_Timetable f_Timetable___init__
  f_Timetable_resting : Addr
  fd_Timetable_resting : FuncData
  F_Timetable_resting : Fun K "resting" "Timetable.resting" s_Timetable_resting f_Timetable_resting fd_Timetable_resting
  b_Timetable_resting : Binds K fd_Timetable_resting ["cls", "t", "x"] []
  p_Timetable_resting : Addr
  m_Timetable_resting : ClX.CMet K C_Timetable (.type "type") "resting" p_Timetable_resting f_Timetable_resting
  f_Timetable_begin : Addr
  fd_Timetable_begin : FuncData
  F_Timetable_begin : Fun K "begin" "Timetable.begin" s_Timetable_begin f_Timetable_begin fd_Timetable_begin
  b_Timetable_begin : Binds K fd_Timetable_begin ["self"] []
  m_Timetable_begin : Meth K C_Timetable "begin" f_Timetable_begin
  f_Timetable_at : Addr
  fd_Timetable_at : FuncData
  F_Timetable_at : Fun K "at" "Timetable.at" s_Timetable_at f_Timetable_at fd_Timetable_at
  b_Timetable_at : Binds K fd_Timetable_at ["self", "t"] []
  m_Timetable_at : Meth K C_Timetable "at" f_Timetable_at
  f_lap_of : Addr
  fd_lap_of : FuncData
  F_lap_of : Fun K "lap_of" "lap_of" s_lap_of f_lap_of fd_lap_of
  b_lap_of : Binds K fd_lap_of ["place", "length"] []
  g_lap_of : mg "lap_of" = some (.ref f_lap_of)
  f_spot_of : Addr
  fd_spot_of : FuncData
  F_spot_of : Fun K "spot_of" "spot_of" s_spot_of f_spot_of fd_spot_of
  b_spot_of : Binds K fd_spot_of ["place", "length"] []
  g_spot_of : mg "spot_of" = some (.ref f_spot_of)
  f_ordered : Addr
  fd_ordered : FuncData
  F_ordered : Fun K "ordered" "ordered" s_ordered f_ordered fd_ordered
  L_ordered : Pw.FunC K "ordered" "ordered" s_ordered f_ordered fd_ordered c_ordered
  b_ordered : Binds K fd_ordered ["tables", "t", "length"] []
  g_ordered : mg "ordered" = some (.ref f_ordered)
  f_order_at : Addr
  fd_order_at : FuncData
  F_order_at : Fun K "order_at" "order_at" s_order_at f_order_at fd_order_at
  b_order_at : L2.KBn K fd_order_at ["tables", "t", "length"] 2 ["length"] (fun us ws => us ++ ws) (fun vs zs => vs ++ zs)
  g_order_at : mg "order_at" = some (.ref f_order_at)
  f__law_begun : Addr
  fd__law_begun : FuncData
  F__law_begun : Fun K "_law_begun" "_law_begun" s__law_begun f__law_begun fd__law_begun
  b__law_begun : Binds K fd__law_begun ["script"] []
  g__law_begun : mg "_law_begun" = some (.ref f__law_begun)
  f__law_mixed : Addr
  fd__law_mixed : FuncData
  F__law_mixed : Fun K "_law_mixed" "_law_mixed" s__law_mixed f__law_mixed fd__law_mixed
  b__law_mixed : Binds K fd__law_mixed ["state"] []
  g__law_mixed : mg "_law_mixed" = some (.ref f__law_mixed)
  f__law_take : Addr
  fd__law_take : FuncData
  F__law_take : Fun K "_law_take" "_law_take" s__law_take f__law_take fd__law_take
  b__law_take : Binds K fd__law_take ["state", "size"] []
  g__law_take : mg "_law_take" = some (.ref f__law_take)
  f__law_pick : Addr
  fd__law_pick : FuncData
  F__law_pick : Fun K "_law_pick" "_law_pick" s__law_pick f__law_pick fd__law_pick
  b__law_pick : Binds K fd__law_pick ["state", "some"] []
  g__law_pick : mg "_law_pick" = some (.ref f__law_pick)
  f__law_ratio : Addr
  fd__law_ratio : FuncData
  F__law_ratio : Fun K "_law_ratio" "_law_ratio" s__law_ratio f__law_ratio fd__law_ratio
  b__law_ratio : Binds K fd__law_ratio ["n", "d"] []
  g__law_ratio : mg "_law_ratio" = some (.ref f__law_ratio)
  f__law_plus : Addr
  fd__law_plus : FuncData
  F__law_plus : Fun K "_law_plus" "_law_plus" s__law_plus f__law_plus fd__law_plus
  b__law_plus : Binds K fd__law_plus ["a", "b"] []
  g__law_plus : mg "_law_plus" = some (.ref f__law_plus)
  f__law_minus : Addr
  fd__law_minus : FuncData
  F__law_minus : Fun K "_law_minus" "_law_minus" s__law_minus f__law_minus fd__law_minus
  b__law_minus : Binds K fd__law_minus ["a", "b"] []
  g__law_minus : mg "_law_minus" = some (.ref f__law_minus)
  f__law_names : Addr
  fd__law_names : FuncData
  F__law_names : Fun K "_law_names" "_law_names" s__law_names f__law_names fd__law_names
  b__law_names : Binds K fd__law_names ["state", "many"] []
  g__law_names : mg "_law_names" = some (.ref f__law_names)
  f__law_error : Addr
  fd__law_error : FuncData
  F__law_error : Fun K "_law_error" "_law_error" s__law_error f__law_error fd__law_error
  b__law_error : Binds K fd__law_error ["work"] []
  g__law_error : mg "_law_error" = some (.ref f__law_error)
  z_ValueError : mg "ValueError" = none
  z_abs : mg "abs" = none
  z_bool : mg "bool" = none
  z_dict : mg "dict" = none
  z_enumerate : mg "enumerate" = none
  z_int : mg "int" = none
  z_isinstance : mg "isinstance" = none
  z_len : mg "len" = none
  z_list : mg "list" = none
  z_min : mg "min" = none
  z_range : mg "range" = none
  z_sorted : mg "sorted" = none
  z_tuple : mg "tuple" = none
  z_zip : mg "zip" = none
theorem Tx.is_ZERO {K : PySem.W.Frag} {mg : Str → Option Value} {base : Heap} (T : Tx K mg base) (Xs : List Addr) (H : Hp) : Pw.Is K Xs H (Pw.fr 0) (.ref T.a_ZERO) := ⟨T.a_ZERO, _, rfl, .inr T.t_ZERO, ⟨_, _, rfl, rfl, ⟨_, _, rfl, rfl, rfl⟩⟩⟩
def Tx.tbs {K : PySem.W.Frag} {mg : Str → Option Value} {base : Heap} (T : Tx K mg base) : List (Addr × Str) := [(T.P_ordered, lamQ "ordered"), (T.P_law, lamQ "law")]
theorem Tx.mem_ordered {K : PySem.W.Frag} {mg : Str → Option Value} {base : Heap} (T : Tx K mg base) : (T.P_ordered, lamQ "ordered") ∈ T.tbs := by unfold Tx.tbs; simp
theorem Tx.mem_law {K : PySem.W.Frag} {mg : Str → Option Value} {base : Heap} (T : Tx K mg base) : (T.P_law, lamQ "law") ∈ T.tbs := by unfold Tx.tbs; simp

local macro_rules | `(tactic| walk_at "fit") => `(tactic| first
  | assumption
  | exact Fit.zero
  | exact Fit.one
  | ((with_reducible refine' Fit.add ?k1 ?k2); (case' k1 => walk_at "fit"); (case' k2 => walk_at "fit"))
  | ((with_reducible refine' Fit.sub ?k1 ?k2); (case' k1 => walk_at "fit"); (case' k2 => walk_at "fit"))
  | ((with_reducible refine' Fit.mul ?k1 ?k2); (case' k1 => walk_at "fit"); (case' k2 => walk_at "fit"))
  | ((with_reducible refine' Fit.neg ?k1); (case' k1 => walk_at "fit"))
  | ((with_reducible refine' absQ_fit ?k1); (case' k1 => walk_at "fit"))
  | ((with_reducible refine' Fit.div ?k1 ?k2 ?k3); (case' k3 => first | assumption | exact num_nz (by assumption)); (case' k1 => walk_at "fit"); (case' k2 => walk_at "fit")))
local macro_rules | `(tactic| walk_at "fr") => `(tactic| first
  | assumption
  | ((with_reducible refine' Fr.of ?k1); (case' k1 => walk_at "fit"))
  | ((with_reducible refine' Fr.ng ?k1); (case' k1 => walk_at "fit"))
  | exact Fr.zero
  | exact Fr.one)
local macro_rules | `(tactic| walk_at "frk") => `(tactic| first | omega | decide)
local macro_rules | `(tactic| walk_at "sxhyp") => `(tactic| (intro hb; first
  | (exact absurd hb (by decide))
  | ((try simp only [Bool.not_eq_true', Bool.not_eq_false', decide_eq_true_eq, decide_eq_false_iff_not, Bool.not_eq_true, Bool.not_eq_false, Bool.and_eq_true, Classical.not_not, List.length_cons, List.length_nil, not_true_eq_false] at hb); (try (exfalso; omega)); (try (revert hb; walk_at "sxp")))))
local macro_rules | `(tactic| walk_at "sxS") => `(tactic| first
  | with_reducible refine LS.seq ?_
  | with_reducible refine LS.set ?_
  | with_reducible refine LS.ret ?_
  | with_reducible refine LS.par ?_
  | with_reducible refine LS.next ?_
  | with_reducible refine LS.retN ?_
  | ((with_reducible refine' LS.app ?k1 ?_); case' k1 => exact rfl)
  | ((with_reducible refine' LS.rev ?k1 ?_); case' k1 => exact rfl)
  | ((with_reducible refine' LS.clr ?k1 ?_); case' k1 => exact rfl)
  | ((with_reducible refine' LS.setI ?k1 ?_); case' k1 => exact rfl)
  | ((with_reducible refine' LS.augI ?k1 ?_); case' k1 => exact rfl)
  | with_reducible refine LS.drop ?_
  | with_reducible refine LS.cont ?_
  | with_reducible refine LS.brk ?_
  | with_reducible refine LS.par3 ?_
  | with_reducible refine LS.asg ?_)
local macro_rules | `(tactic| walk_at "sxE") => `(tactic| first
  | ((with_reducible refine' LE.var ?k1 ?_); case' k1 => exact rfl)
  | with_reducible refine LE.int ?_
  | with_reducible refine LE.op ?_
  | with_reducible refine LE.call ?_
  | with_reducible refine LE.callE ?_
  | with_reducible refine LE.callN ?_
  | with_reducible refine LE.callFN ?_
  | with_reducible refine' LE.callB ?_
  | refine LE.callP (dds := [.int 1]) (fun _ _ => ⟨_, _, rfl, rfl, rfl⟩) ?_
  | refine LE.callP (dds := [.non]) (fun _ _ => ⟨_, _, rfl, rfl, rfl⟩) ?_
  | with_reducible refine LE.isiT ?_
  | with_reducible refine LE.cb ?_
  | with_reducible refine LE.tup ?_
  | with_reducible refine LE.un ?_
  | with_reducible refine LE.lst ?_
  | with_reducible refine LE.bl ?_
  | with_reducible refine LE.non ?_
  | with_reducible refine LE.str ?_
  | with_reducible refine LE.ty ?_
  | with_reducible refine LE.emp ?_
  | with_reducible refine LE.sliceT ?_
  | with_reducible refine LE.ofL (LEL.slice ?_)
  | with_reducible refine LE.ifE ?_
  | with_reducible refine LE.andV ?_
  | with_reducible refine LE.orV ?_
  | with_reducible refine LE.notV ?_
  | with_reducible refine LE.sliceS ?_
  | with_reducible refine LE.join ?_
  | with_reducible refine LE.dget ?_
  | with_reducible refine LE.din ?_
  | with_reducible refine LE.dnotin ?_)
local macro_rules | `(tactic| walk_at "sxT") => `(tactic| first
  | with_reducible refine LT.test ?_
  | with_reducible refine LT.val ?_
  | with_reducible refine LT.not ?_
  | with_reducible refine LT.yes ?_
  | with_reducible refine LT.and ?_
  | with_reducible refine LT.or ?_)
local macro_rules | `(tactic| walk_at "sxA") => `(tactic| first
  | with_reducible refine LA.cons ?_
  | with_reducible refine LA.nil ?_)
local macro_rules | `(tactic| walk_at "sxO") => `(tactic| first
  | with_reducible refine OpD.i0 ?_
  | with_reducible refine OpD.b0 ?_
  | ((with_reducible refine OpD.ic (C := CPow) ?k1 ?_); (case' k1 => exact ⟨by decide, by decide, by decide⟩); (try simp only [Int.reduceToNat, Int.reducePow]))
  | ((with_reducible refine' OpD.mulW ?k1 ?k2 ?k3 ?_); (case' k1 => assumption); (case' k2 => assumption); (case' k3 => decide))
  | ((with_reducible refine OpD.ic (C := CMulW) ?k1 ?_); (case' k1 => exact wide_mul (a := 200) (b := 200) (by omega) (by omega) (by decide) (by decide) (by decide)))
  | ((with_reducible refine OpD.ic (C := fun _ j => 0 < j) ?k1 ?_); (case' k1 => (show (0 : Int) < _; omega)))
  | ((with_reducible refine' OpD.fdivZ ?k1 ?k2 ?_); (case' k1 => exact den_ne _); (case' k2 => exact Fit.dU (by walk_at "fit") (by decide)))
  | with_reducible refine OpD.ic ?_ ?_
  | ((with_reducible refine' OpD.ixT ?k1 ?_); case' k1 => exact rfl)
  | ((with_reducible refine' OpD.ixL ?k1 ?_); case' k1 => exact rfl)
  | with_reducible refine OpD.cat (Nat.le_of_ble_eq_true rfl) ?_
  | with_reducible refine OpD.rep01 (Nat.le_of_ble_eq_true rfl) ?_
  | with_reducible refine OpD.subBl ?_
  | ((with_reducible refine' OpD.eqS ?k1 ?_); (case' k1 => exact rfl))
  | ((with_reducible refine' OpD.neS ?k1 ?_); (case' k1 => exact rfl))
  | with_reducible refine OpD.eqI ?_
  | with_reducible refine OpD.neI ?_
  | ((with_reducible refine OpD.eqX ?_); (try rw [show decide (_ = _) = false from by decide +kernel]); (try rw [show decide (_ = _) = true from by decide +kernel]))
  | ((with_reducible refine OpD.neX ?_); (try rw [show decide (_ = _) = false from by decide +kernel]); (try rw [show decide (_ = _) = true from by decide +kernel]))
  | with_reducible refine OpD.eqB ?_
  | with_reducible refine OpD.neB ?_
  | with_reducible refine OpD.isNt ?_
  | ((with_reducible refine' OpD.isNf ?k1 ?_); (case' k1 => exact rfl))
  | with_reducible refine OpD.notNf ?_
  | ((with_reducible refine' OpD.notNt ?k1 ?_); (case' k1 => exact rfl))
  | with_reducible refine OpD.inT rfl rfl ?_
  | with_reducible refine OpD.addS (by decide) ?_
  | with_reducible refine OpD.notInT rfl rfl ?_
  | with_reducible refine OpD.inL rfl rfl ?_
  | with_reducible refine OpD.notInL rfl rfl ?_
  | with_reducible refine OpD.isB ?_
  | with_reducible refine OpD.notB ?_)
local macro_rules | `(tactic| walk_at "sxI") => `(tactic| first
  | with_reducible refine CbD.isi_int true (by decide +kernel) ?_
  | with_reducible refine CbD.isi_int false (by decide +kernel) ?_
  | with_reducible refine CbD.isi_bl true (by decide +kernel) ?_
  | with_reducible refine CbD.isi_bl false (by decide +kernel) ?_
  | with_reducible refine CbD.isi_tup true (by decide +kernel) ?_
  | with_reducible refine CbD.isi_tup false (by decide +kernel) ?_
  | with_reducible refine CbD.isi_lst true (by decide +kernel) ?_
  | with_reducible refine CbD.isi_lst false (by decide +kernel) ?_
  | with_reducible refine CbD.isi_non true (by decide +kernel) ?_
  | with_reducible refine CbD.isi_non false (by decide +kernel) ?_
  | with_reducible refine CbD.isi_str true (by decide +kernel) ?_
  | with_reducible refine CbD.isi_str false (by decide +kernel) ?_
  | with_reducible refine CbD.isi_emp true (by decide +kernel) ?_
  | with_reducible refine CbD.isi_emp false (by decide +kernel) ?_
  | with_reducible refine CbD.isi_dct true (by decide +kernel) ?_
  | with_reducible refine CbD.isi_dct false (by decide +kernel) ?_
  | with_reducible refine CbD.isi_dtp true (by decide +kernel) ?_
  | with_reducible refine CbD.isi_dtp false (by decide +kernel) ?_
  | with_reducible refine CbD.isi_scr true (by decide +kernel) ?_
  | with_reducible refine CbD.isi_scr false (by decide +kernel) ?_)
local macro_rules | `(tactic| walk_at "sxC") => `(tactic| first
  | with_reducible refine CbD.abs ?_
  | with_reducible refine CbD.listOfT ?_
  | with_reducible refine CbD.listOfL ?_
  | with_reducible refine CbD.tupL ?_
  | with_reducible refine CbD.tupT ?_
  | ((with_reducible refine' CbD.lenO ?k1 ?_); case' k1 => exact List.mem_cons_self ..)
  | ((with_reducible show CbD _ (rIsi _) _ _ _); walk_at "sxI")
  | with_reducible refine CbD.lenT ?_
  | with_reducible refine CbD.lenL ?_
  | with_reducible refine CbD.lenS ?_
  | with_reducible refine CbD.int1 ?_
  | with_reducible refine CbD.intB ?_
  | with_reducible refine CbD.max2 ?_
  | with_reducible refine CbD.min2 ?_
  | with_reducible refine CbD.minT ?_)
local macro_rules | `(tactic| walk_at "sx") => `(tactic| first
  | ((with_reducible show LS _ _ _ _ _ _ _ _); walk_at "sxS")
  | ((with_reducible show LE _ _ _ _ _); walk_at "sxE")
  | ((with_reducible show LA _ _ _ _ _); walk_at "sxA")
  | ((with_reducible show OpD _ _ _ _ _ _); walk_at "sxO")
  | ((with_reducible show LT _ _ _ _ _); walk_at "sxT")
  | ((with_reducible show CbD _ _ _ _ _); walk_at "sxC")
  | with_reducible refine UnD.i ?_
  | ((with_reducible show LO _ _ _ _ _); first | with_reducible refine LO.some ?_ | with_reducible refine LO.none ?_)
  | with_reducible refine Exists.intro _ (Exists.intro _ (And.intro rfl (And.intro (rfl : Rs.mk _ _ _ = Rs.mk _ _ _) ?_)))
  | with_reducible refine Exists.intro _ (Exists.intro _ (Exists.intro _ (And.intro (rfl : Rs.mk _ _ _ = Rs.mk _ _ _) ?_)))
  | with_reducible refine Exists.intro _ (And.intro rfl ?_)
  | ((with_reducible refine And.intro ?k1 ?k2); (case' k2 => ((with_reducible show _ = false → _); walk_at "sxhyp")); (case' k1 => ((with_reducible show _ = true → _); walk_at "sxhyp")))
  | ((with_reducible refine And.intro ?k1 ?k2); (case' k2 => ((with_reducible show _ = true → _); walk_at "sxhyp")); (case' k1 => ((with_reducible show _ = false → _); walk_at "sxhyp")))
  | with_reducible refine Exists.intro _ (Exists.intro _ (And.intro rfl ?_))
  | with_reducible refine Exists.intro _ (Exists.intro _ (Exists.intro _ (And.intro rfl ?_)))
  | with_reducible refine Exists.intro _ (Exists.intro _ (Exists.intro _ (Exists.intro _ (Exists.intro _ (Exists.intro _ (Exists.intro _ (And.intro rfl (And.intro rfl ?_))))))))
  | with_reducible refine And.intro (Nat.le_of_ble_eq_true rfl : List.length _ ≤ 1000) ?_
  | ((with_reducible show List.length _ = _ ∧ List.length _ = _ ∧ _); refine ⟨rfl, rfl, ?_⟩)
  | with_reducible refine LG.name ?_
  | ((with_reducible show List.lookup _ _ = none ∧ _); refine And.intro (by first | exact lk0 | exact lk2_0 (by decide +kernel) (by decide +kernel)) ?_)
  | ((with_reducible refine' Exists.intro _ (Exists.intro _ (And.intro (rfl : D.ins _ _ = D.ins _ _) (And.intro ?lk ?nx)))); (case' lk => first | exact lk_points | exact lk_turns | exact lk1_points))
  | refine And.intro (show ("list" : String) ≠ "?" by decide) (Exists.intro true (Exists.intro false (And.intro (show kitB "list" "list" = some true by decide +kernel) (And.intro (show kitB "list" "tuple" = some false by decide +kernel) ?_))))
  | refine And.intro (show ("tuple" : String) ≠ "?" by decide) (Exists.intro false (Exists.intro true (And.intro (show kitB "tuple" "list" = some false by decide +kernel) (And.intro (show kitB "tuple" "tuple" = some true by decide +kernel) ?_))))
  | ((with_reducible refine' LG.tup ?k1 ?_); case' k1 => exact rfl)
  | with_reducible refine LGs.consN ?_
  | with_reducible refine LGs.nil ?_
  | with_reducible exact (rfl : D.bl _ = D.bl _)
  | with_reducible exact (rfl : Rs.mk _ _ _ = Rs.mk _ _ _)
  | ((with_reducible show (_ : En) = _ ∧ (_ : Rs) = _); exact ⟨rfl, rfl⟩)
  | fail "sx")
local macro_rules | `(tactic| walk_at "sxk") => `(tactic| fail "sxk")
local macro_rules | `(tactic| walk_at "sxp") => `(tactic| fail "sxp")
local macro_rules | `(tactic| walk_at "sxn") => `(tactic| repeat' (first | walk_at "sx" | walk_at "sxk"))
local macro_rules | `(tactic| walk_at "sxd") => `(tactic| repeat' (first | walk_at "sx" | walk_at "sxk" | with_reducible refine LS.ite ?_))
local macro_rules | `(tactic| walk_at "sxs") => `(tactic| repeat' (first | walk_at "sx" | with_reducible refine LS.ite ?_))

local macro_rules | `(tactic| walk_at "sxp") => `(tactic| (intro h; exact absurd h (by rw [isFr_fr]; decide)))

local macro_rules | `(tactic| walk_at "sxk") => `(tactic| (with_reducible refine LE.cls ?_))
local macro_rules | `(tactic| walk_at "sxk") => `(tactic| (with_reducible refine LE.con (Tx.is_ZERO _) ?_))
local macro_rules | `(tactic| walk_at "sxk") => `(tactic| (((with_reducible show CbD _ (rIsi _) _ [D.ins _ _, D.adr _] _); refine CbD.isiC (Tx.c_Timetable (by assumption)) (Tx.e_Timetable (by assumption)) ?_)))
local macro_rules | `(tactic| walk_at "sxk") => `(tactic| (((with_reducible show OpD _ (rEqS _ _ _) _ _ _ _); refine OpD.eqC ?_)))
local macro_rules | `(tactic| walk_at "sxk") => `(tactic| (((with_reducible show OpD _ (rNeS _ _ _) _ _ _ _); refine OpD.neC ?_)))
local macro_rules | `(tactic| walk_at "sxk") => `(tactic| (with_reducible refine LE.fld (Tx.c_Timetable (by assumption)) (Tx.n_Timetable_points (by assumption)) ?_))
local macro_rules | `(tactic| walk_at "sxk") => `(tactic| (with_reducible refine LE.fld (Tx.c_Timetable (by assumption)) (Tx.n_Timetable_turns (by assumption)) ?_))
local macro_rules | `(tactic| walk_at "sxk") => `(tactic| (with_reducible refine LE.conF (d := .int 40) (Tx.c_Timetable (by assumption)) (Tx.k_Timetable_MOST (by assumption)) (fun _ _ => Is.ofInt) ?_))
local macro_rules | `(tactic| walk_at "sxk") => `(tactic| (with_reducible refine LE.cmeth ?_))
local macro_rules | `(tactic| walk_at "sxk") => `(tactic| (with_reducible refine LE.meth ?_))
local macro_rules | `(tactic| walk_at "sxk") => `(tactic| (with_reducible refine LE.make ?_))
section
variable {P : Program} {w : World} {K : PySem.W.Frag} {mg : Str → Option Value} {base : Heap}
def S_is_whole : PSp := fun ds Φ => ∃ d, ds = [d] ∧ tyName d ≠ "?" ∧ Φ (.bl (isIntD d))

theorem ok_is_whole (T : Tx K mg base) : FnOk P w K mg base CX0 1 T.f_is_whole T.fd_is_whole ["value"] (liftP K T.tbs S_is_whole) := by
  refine okP T.F_is_whole sc_is_whole (fun ds Φ h => ?len) (by decide) (fun cdv A outer s H E hr => ⟨_, (pss_one (ps_ret (pe_and (pe_callB call_isi (by rfl) T.z_isinstance (by decide +kernel) (pa_cons (pv 0) (pa_cons (pe_bltn (v := .ty "int") (by rfl) T.z_int (by decide +kernel) rfl) pa_nil))) (pe_one (pe_not (pe_callB call_isi (by rfl) T.z_isinstance (by decide +kernel) (pa_cons (pv 0) (pa_cons (pe_bltn (v := .ty "bool") (by rfl) T.z_bool (by decide +kernel) rfl) pa_nil)))))))), fun H0 Xs ds Φ h => ?body⟩)
  case len =>
    obtain ⟨d, rfl, _⟩ := h
    rfl
  case body =>
    (try dsimp only [cxOf, L2.Cx.nox, L2.Cx.wish])
    obtain ⟨d, rfl, hd, h⟩ := h
    cases d <;> first | (exact absurd rfl hd) | skip
    all_goals walk_at "sxs"
    all_goals exact h


def S_need_length : PSp := fun ds Φ => ∃ d L, ds = [d] ∧ Len d L ∧ Φ .non

theorem ok_need_length (T : Tx K mg base) : FnOk P w K mg base CX0 2 T.f_need_length T.fd_need_length ["length"] (liftP K T.tbs S_need_length) := by
  refine okP T.F_need_length sc_need_length (fun ds Φ h => ?len) (by decide) (fun cdv A outer s H E hr => ⟨_, (pss_one (ps_if (PW.pt (pw_and (pt_cmpR op_notN (pv 0) pe_non (nomark _)) (pw_and1 (PW.pt (pw_or (pt_not (pt_val (pe_call (ok_is_whole T) hr (by rfl) T.g_is_whole T.F_is_whole.kp T.b_is_whole .nil pass0 (pa_cons (pv 0) pa_nil)))) (pw_or1 (pt_cmpR op_lt (pv 0) pe_int (nomark _)))))))) (pss_one ps_dead) pss_nil)), fun H0 Xs ds Φ h => ?body⟩)
  case len =>
    obtain ⟨d, L, rfl, _⟩ := h
    rfl
  case body =>
    (try dsimp only [cxOf, L2.Cx.nox, L2.Cx.wish])
    obtain ⟨d, L, rfl, ⟨rfl, _⟩ | ⟨l, rfl, _, h1, h2⟩, h⟩ := h
    · walk_at "sxd"
      all_goals exact h
    · walk_at "sxd"
      · refine ⟨_, rfl, (show ("int" : String) ≠ "?" by decide), ?_⟩
        walk_at "sxd"
        all_goals first | exact h | (exfalso; simp_all [isIntD])
local macro_rules | `(tactic| walk_at "sxk") => `(tactic| ((with_reducible show S_need_length _ _); refine ⟨_, _, rfl, by assumption, ?_⟩))



/-- no length of a ring: a number below 1, or a value of another kind -/
def BadLen (d : D) : Prop := (∃ i : Int, d = .int i ∧ i < 1) ∨ (∃ b, d = .bl b) ∨ (∃ z, d = .str z) ∨ (∃ es, d = .lst es) ∨ (∃ es, d = .tup es) ∨ (∃ kvs, d = .dct kvs) ∨ d = .emp
def R_need_length : RSp := fun ds => ∃ d, ds = [d] ∧ BadLen d

theorem okr_need_length (T : Tx K mg base) : FnOk P w K mg base (L2.CX P w) 2 T.f_need_length T.fd_need_length ["length"] (liftR K T.tbs T.C_NoTrack R_need_length) := by
  refine okR T.F_need_length sc_need_length (fun ds h => ?len) (by decide) (fun cdv A outer s H E hr => ⟨_, (pss_one (ps_if (PW.pt (pw_and (pt_cmpR op_notN (pv 0) pe_non (nomark _)) (pw_and1 (PW.pt (pw_or (pt_not (pt_val (pe_call (ok_is_whole T) hr (by rfl) T.g_is_whole T.F_is_whole.kp T.b_is_whole .nil pass0 (pa_cons (pv 0) pa_nil)))) (pw_or1 (pt_cmpR op_lt (pv 0) pe_int (nomark _)))))))) (pss_one (show PS _ _ (tRaise E T.C_NoTrack) from ps_raise rfl (takes_of rfl rfl rfl rfl) (pmk_own PySem.F.excBase_ValueError T.x_NoTrack T.g_NoTrack T.k_NoTrack (raises_own T.b_NoTrack T.t_NoTrack) (by exact rfl)))) pss_nil)), fun H0 Xs ds hE h => ?body⟩)
  case len =>
    obtain ⟨d, rfl, _⟩ := h
    rfl
  case body =>
    (try dsimp only [cxOf, L2.Cx.nox, L2.Cx.wish])
    obtain ⟨d, rfl, h⟩ := h
    rcases h with ⟨i, rfl, hi⟩ | ⟨b, rfl⟩ | ⟨z, rfl⟩ | ⟨es, rfl⟩ | ⟨es, rfl⟩ | ⟨kvs, rfl⟩ | rfl
    all_goals
      walk_at "sxd"
      refine ⟨_, rfl, (by simp [tyName]), ?_⟩
      walk_at "sxd"
      all_goals first
        | exact LS.raise rfl hE
        | (exfalso; simp_all [isIntD]; done)
        | (exfalso; simp_all [isIntD]; omega)
local macro_rules | `(tactic| walk_at "sxk") => `(tactic| ((with_reducible show R_need_length _); refine' ⟨_, rfl, ?bl⟩; (case' bl => assumption)))
local macro_rules | `(tactic| walk_at "sxk") => `(tactic| with_reducible refine LE.callR rfl (by assumption) ?_)



def S_common_divisor : PSp := fun ds Φ => ∃ a b : Int, ds = [.int a, .int b] ∧ Φ (.int (Int.gcd a b))

theorem ok_common_divisor (T : Tx K mg base) : FnOk P w K mg base CX0 1 T.f_common_divisor T.fd_common_divisor ["a", "b"] (liftP K T.tbs S_common_divisor) := by
  refine okP T.F_common_divisor sc_common_divisor (fun ds Φ h => ?len) (by decide) (fun cdv A outer s H E hr => ⟨_, (pss_cons (ps_par (i := 0) (j := 1) rfl sc_common_divisor.nd rfl rfl (by decide) rfl rfl (pa_cons (pe_callB call_abs (by rfl) T.z_abs (by decide +kernel) (pa_cons (pv 0) pa_nil)) (pa_cons (pe_callB call_abs (by rfl) T.z_abs (by decide +kernel) (pa_cons (pv 1) pa_nil)) pa_nil)) (by rfl))
    (pss_cons (ps_while PassesOwn.never (pt_cmpR op_ne (pv 1) pe_int (nomark _)) (pss_one (ps_par (i := 0) (j := 1) rfl sc_common_divisor.nd rfl rfl (by decide) rfl rfl (pa_cons (pv 1) (pa_cons (pe_op op_mod (pv 0) (pv 1)) pa_nil)) (by rfl))))
    (pss_one (ps_ret (pv 0))))), fun H0 Xs ds Φ h => ?body⟩)
  case len =>
    obtain ⟨a, b, rfl, _⟩ := h
    rfl
  case body =>
    (try dsimp only [cxOf, L2.Cx.nox, L2.Cx.wish])
    obtain ⟨a, b, rfl, h⟩ := h
    walk_at "sxs"
    refine LS.loop (fun m ρ s' => ∃ x y : Nat, ρ = [some (.int x), some (.int y)] ∧ s' = { oth := Xs } ∧ Nat.gcd x y = Int.gcd a b ∧ m = y) b.natAbs ⟨a.natAbs, b.natAbs, rfl, rfl, rfl, rfl⟩ (fun m ρ s' hI => ?_)
    obtain ⟨x, y, rfl, rfl, hg, rfl⟩ := hI
    walk_at "sxs"
    · exact ⟨x % m, Nat.mod_lt _ (by omega), m, x % m, rfl, rfl, (gcd_turn x m).trans hg, rfl⟩
    · have e : m = 0 := by omega
      subst e
      rw [Nat.gcd_zero_right] at hg
      rw [hg]
      exact h


def S_new_fraction : PSp := fun ds Φ => ∃ n d : Int, ds = [.int n, .int d] ∧ d ≠ 0 ∧ d.natAbs < 2 ^ 8000 ∧ Φ (fr (Rat.divInt n d))
theorem gcd_fitN {n d : Int} (h : d ≠ 0) (hd : d.natAbs < 2 ^ 8000) (x : Int) : CDivZ x (Int.gcd n d) ∧ CDivZ x (-(Int.gcd n d : Int)) := by
  have h0 := gcd_pos (n := n) h
  have h1 : Int.gcd n d ≤ d.natAbs := Nat.le_of_dvd (by omega) (Nat.gcd_dvd_right ..)
  have h2 := pow_up (Nat.lt_of_le_of_lt h1 hd) (show 8000 ≤ 8999 by decide)
  exact ⟨⟨by omega, by rw [Int.natAbs_natCast]; exact h2⟩, ⟨by omega, by rw [Int.natAbs_neg, Int.natAbs_natCast]; exact h2⟩⟩

theorem ok_new_fraction (T : Tx K mg base) : FnOk P w K mg base CX0 2 T.f_new_fraction T.fd_new_fraction ["n", "d"] (liftP K T.tbs S_new_fraction) := by
  refine okPD T.F_new_fraction sc_new_fraction (fun ds Φ h => ?len) (by decide) (fun cdv A outer s H E hr => ⟨_, (pss_cons (ps_set (i := 2) sc_new_fraction.nd rfl (.inl rfl) (pe_call (ok_common_divisor T) hr (by rfl) T.g_common_divisor T.F_common_divisor.kp T.b_common_divisor .nil pass0 (pa_cons (pv 0) (pa_cons (pv 1) pa_nil))))
    (pss_cons (ps_if (pt_cmpR op_lt (pv 1) pe_int (nomark _)) (pss_one (ps_set (i := 2) sc_new_fraction.nd rfl (.inl rfl) (pe_un un_neg (pv 2)))) pss_nil)
    (pss_one (ps_ret (pe_tup (pa_cons (pe_op op_fdivZ (pv 0) (pv 2)) (pa_cons (pe_op op_fdivZ (pv 1) (pv 2)) pa_nil))))))), fun H0 Xs ds Φ h => ?body⟩)
  case len =>
    obtain ⟨n, d, rfl, _⟩ := h
    rfl
  case body =>
    (try dsimp only [cxOf, L2.Cx.nox, L2.Cx.wish])
    obtain ⟨n, d, rfl, hd0, hd, h⟩ := h
    walk_at "sxs"
    refine ⟨_, _, rfl, ?_⟩
    walk_at "sxs"
    · exact (gcd_fitN hd0 hd _).2
    · exact (gcd_fitN hd0 hd _).2
    · rw [fr_make hd0 (by rw [if_pos (by omega)])]
      exact h
    · exact (gcd_fitN hd0 hd _).1
    · exact (gcd_fitN hd0 hd _).1
    · rw [fr_make hd0 (by rw [if_neg (by omega)])]
      exact h
local macro_rules | `(tactic| walk_at "sxk") => `(tactic| ((with_reducible show S_new_fraction _ _); refine ⟨_, _, rfl, by first | omega | decide, by first | (exact pow_up (by assumption) (by decide)) | (exact pow_up (k := 10) (by decide) (by decide)), ?_⟩))



theorem spot_div {p : Rat} {l : Int} (hl : 1 ≤ l) : Rat.divInt (p.num % (l * (p.den : Int))) p.den = p - (l : Rat) * ((p / (l : Rat)).floor : Rat) := by
  have hd := p.den_pos
  have hD : 0 < (p.den : Int) * l := Int.mul_pos (by omega) (by omega)
  have f1 := floor_div p hl
  have e1 : p.num % (l * (p.den : Int)) = p.num - l * (p.den : Int) * (p / (l : Rat)).floor := by
    rw [Int.mul_comm l]
    rw [Int.emod_def, f1]
  rw [e1, Rat.divInt_eq_div, Rat.intCast_sub, Rat.intCast_mul, Rat.intCast_mul, Rat.intCast_natCast]
  have hd0 : (p.den : Rat) ≠ 0 := by exact_mod_cast p.den_nz
  have ea := Rat.num_divInt_den p
  rw [Rat.divInt_eq_div, Rat.intCast_natCast] at ea
  generalize ((p / (l : Rat)).floor : Rat) = q at *
  generalize (p.den : Rat) = d at *
  generalize (p.num : Rat) = n at *
  grind
theorem spot_fit {L : Option Int} {p : Rat} {k : Nat} (hL : ∀ l, L = some l → 1 ≤ l ∧ l < 2 ^ 140) (hp : Fit k p) : Fit (k + 140) (spotQ L p) := by
  cases L with
  | none => exact hp.mono (by omega)
  | some l =>
    obtain ⟨h1, h2⟩ := hL l rfl
    have hd := p.den_pos
    have hD : 0 < l * (p.den : Int) := Int.mul_pos (by omega) (by omega)
    show Fit (k + 140) (p - (l : Rat) * ((p / (l : Rat)).floor : Rat))
    rw [← spot_div h1]
    have m1 := Int.emod_nonneg p.num (show l * (p.den : Int) ≠ 0 by omega)
    have m2 := Int.emod_lt_of_pos p.num hD
    have m3 : (l * (p.den : Int)).natAbs < 2 ^ (k + 140) := by
      rw [Int.natAbs_mul, Nat.add_comm, Nat.pow_add]
      exact Nat.mul_lt_mul'' (show l.natAbs < 2 ^ 140 by omega) hp.dI
    exact fit_divInt (by omega) (by omega) (pow_up hp.dI (by omega))
theorem spot_on {L : Option Int} {a b : Rat} (h : sgn (spotQ L a) (spotQ L b) = 0) : onTrack L (a - b) := by
  have e := sgn_zero.mp h
  cases L with
  | none =>
    show a - b = 0
    have e : a = b := e
    rw [e]; grind
  | some l =>
    refine ⟨(a / (l : Rat)).floor - (b / (l : Rat)).floor, ?_⟩
    have e : a - (l : Rat) * ((a / (l : Rat)).floor : Rat) = b - (l : Rat) * ((b / (l : Rat)).floor : Rat) := e
    rw [Rat.intCast_sub]
    grind
def S_spot_of : PSp := fun ds Φ => ∃ x p k d L, ds = [x, d] ∧ Fr x p k ∧ k ≤ 6000 ∧ Len d L ∧ Φ (fr (spotQ L p))

theorem ok_spot_of (T : Tx K mg base) : FnOk P w K mg base CX0 3 T.f_spot_of T.fd_spot_of ["place", "length"] (liftP K T.tbs S_spot_of) := by
  refine okP T.F_spot_of sc_spot_of (fun ds Φ h => ?len) (by decide) (fun cdv A outer s H E hr => ⟨_, (pss_cons (ps_if (pt_cmpR op_isN (pv 1) pe_non (nomark _)) (pss_one (ps_ret (pv 0))) pss_nil)
    (pss_one (ps_ret (pe_call (ok_new_fraction T) hr (by rfl) T.g_new_fraction T.F_new_fraction.kp T.b_new_fraction .nil pass0 (pa_cons (pe_op op_mod (pe_ix ix_tup (pv 0) pe_int (fun _ _ => rfl)) (pe_op op_mulW (pv 1) (pe_ix ix_tup (pv 0) pe_int (fun _ _ => rfl)))) (pa_cons (pe_ix ix_tup (pv 0) pe_int (fun _ _ => rfl)) pa_nil)))))), fun H0 Xs ds Φ h => ?body⟩)
  case len =>
    obtain ⟨x, p, k, d, L, rfl, _⟩ := h
    rfl
  case body =>
    (try dsimp only [cxOf, L2.Cx.nox, L2.Cx.wish])
    obtain ⟨x, p, k, d, L, rfl, ⟨rfl, hg⟩, hk, ⟨rfl, rfl⟩ | ⟨l, rfl, rfl, h1, h2⟩, h⟩ := h
    · walk_at "sxd"
      exact h
    · have hd := p.den_pos
      have hdk := pow_up hg.dI (show k ≤ 6000 by omega)
      have hD : 0 < l * (p.den : Int) := Int.mul_pos (by omega) (by omega)
      walk_at "sxd"
      · exact wide_mul (a := 150) (b := 6001) (pow_up (k := 140) (by omega) (by decide)) (pow_up hdk (by decide)) (by decide) (by decide) (by decide)
      · rw [spot_div h1]
        exact h
local macro_rules | `(tactic| walk_at "sxk") => `(tactic| ((with_reducible show S_spot_of _ _); refine' ⟨_, _, _, _, _, rfl, ?fa, ?fk, ?hl, ?fn⟩; (case' fa => walk_at "fr"); (case' fk => walk_at "frk"); (case' hl => assumption)))



def S_sum_of : PSp := fun ds Φ => ∃ x y a b k l, ds = [x, y] ∧ Fr x a k ∧ Fr y b l ∧ k + l ≤ 7000 ∧ Φ (fr (a + b))

theorem ok_sum_of (T : Tx K mg base) : FnOk P w K mg base CX0 3 T.f_sum_of T.fd_sum_of ["a", "b"] (liftP K T.tbs S_sum_of) := by
  refine okP T.F_sum_of sc_sum_of (fun ds Φ h => ?len) (by decide) (fun cdv A outer s H E hr => ⟨_, (pss_one (ps_ret (pe_call (ok_new_fraction T) hr (by rfl) T.g_new_fraction T.F_new_fraction.kp T.b_new_fraction .nil pass0 (pa_cons (pe_op op_add (pe_op op_mulW (pe_ix ix_tup (pv 0) pe_int (fun _ _ => rfl)) (pe_ix ix_tup (pv 1) pe_int (fun _ _ => rfl))) (pe_op op_mulW (pe_ix ix_tup (pv 1) pe_int (fun _ _ => rfl)) (pe_ix ix_tup (pv 0) pe_int (fun _ _ => rfl)))) (pa_cons (pe_op op_mulW (pe_ix ix_tup (pv 0) pe_int (fun _ _ => rfl)) (pe_ix ix_tup (pv 1) pe_int (fun _ _ => rfl))) pa_nil))))), fun H0 Xs ds Φ h => ?body⟩)
  case len =>
    obtain ⟨x, y, a, b, k, l, rfl, _⟩ := h
    rfl
  case body =>
    (try dsimp only [cxOf, L2.Cx.nox, L2.Cx.wish])
    obtain ⟨x, y, a, b, k, l, rfl, ⟨rfl, ha⟩, ⟨rfl, hb⟩, hkl, h⟩ := h
    have ha1 := pow_up ha.1 (show k ≤ 7000 by omega)
    have ha2 := pow_up ha.dI (show k ≤ 7000 by omega)
    have hb1 := pow_up hb.1 (show l ≤ 7000 by omega)
    have hb2 := pow_up hb.dI (show l ≤ 7000 by omega)
    walk_at "sxs"
    have hd := den2 ha hb hkl
    refine ⟨_, _, rfl, hd.1, pow_up hd.2 (by decide), ?_⟩
    rw [rat_add]
    exact h
local macro_rules | `(tactic| walk_at "sxk") => `(tactic| ((with_reducible show S_sum_of _ _); refine' ⟨_, _, _, _, _, _, rfl, ?fa, ?fb, ?fk, ?fn⟩; (case' fa => walk_at "fr"); (case' fb => walk_at "fr"); (case' fk => walk_at "frk")))



def S_is_less : PSp := fun ds Φ => ∃ x y a b k l, ds = [x, y] ∧ Fr x a k ∧ Fr y b l ∧ k + l ≤ 7000 ∧ Φ (.bl (decide (a < b)))

theorem ok_is_less (T : Tx K mg base) : FnOk P w K mg base CX0 1 T.f_is_less T.fd_is_less ["a", "b"] (liftP K T.tbs S_is_less) := by
  refine okP T.F_is_less sc_is_less (fun ds Φ h => ?len) (by decide) (fun cdv A outer s H E hr => ⟨_, (pss_one (ps_ret (pe_cmpR op_lt (pe_op op_mulW (pe_ix ix_tup (pv 0) pe_int (fun _ _ => rfl)) (pe_ix ix_tup (pv 1) pe_int (fun _ _ => rfl))) (pe_op op_mulW (pe_ix ix_tup (pv 1) pe_int (fun _ _ => rfl)) (pe_ix ix_tup (pv 0) pe_int (fun _ _ => rfl))) (nomark _)))), fun H0 Xs ds Φ h => ?body⟩)
  case len =>
    obtain ⟨x, y, a, b, k, l, rfl, _⟩ := h
    rfl
  case body =>
    (try dsimp only [cxOf, L2.Cx.nox, L2.Cx.wish])
    obtain ⟨x, y, a, b, k, l, rfl, ⟨rfl, ha⟩, ⟨rfl, hb⟩, hkl, h⟩ := h
    have ha1 := pow_up ha.1 (show k ≤ 7000 by omega)
    have ha2 := pow_up ha.dI (show k ≤ 7000 by omega)
    have hb1 := pow_up hb.1 (show l ≤ 7000 by omega)
    have hb2 := pow_up hb.dI (show l ≤ 7000 by omega)
    walk_at "sxs"
    rw [show decide (a.num * b.den < b.num * a.den) = decide (a < b) from decide_eq_decide.mpr (rat_lt a b)]
    exact h
local macro_rules | `(tactic| walk_at "sxk") => `(tactic| ((with_reducible show S_is_less _ _); refine' ⟨_, _, _, _, _, _, rfl, ?fa, ?fb, ?fk, ?fn⟩; (case' fa => walk_at "fr"); (case' fb => walk_at "fr"); (case' fk => walk_at "frk")))



def S_piece_on : PSp := fun ds Φ => ∃ ps x t k, ds = [.tup (knL ps), x] ∧ KOk ps ∧ Fr x t k ∧ k ≤ 1000 ∧ Late ps t ∧ Φ (.int (pc ps t))

theorem ok_piece_on (T : Tx K mg base) : FnOk P w K mg base CX0 2 T.f_piece_on T.fd_piece_on ["points", "t"] (liftP K T.tbs S_piece_on) := by
  refine okP T.F_piece_on sc_piece_on (fun ds Φ h => ?len) (by decide) (fun cdv A outer s H E hr => ⟨_, (pss_cons (ps_if (pt_val (pe_call (ok_is_less T) hr (by rfl) T.g_is_less T.F_is_less.kp T.b_is_less .nil pass0 (pa_cons (pv 1) (pa_cons (pe_ix ix_tup (pe_ix ix_tup (pv 0) pe_int (fun _ _ => rfl)) pe_int (fun _ _ => rfl)) pa_nil)))) (pss_one ps_dead) pss_nil)
    (pss_cons (ps_set (i := 2) sc_piece_on.nd rfl (.inl rfl) pe_int)
    (pss_cons (ps_while PassesOwn.never (PW.pt (pw_and (pt_cmpR op_lt (pe_op op_add (pv 2) pe_int) (pe_callB call_len_seq (by rfl) T.z_len (by decide +kernel) (pa_cons (pv 0) pa_nil)) (nomark _)) (pw_and1 (pt_not (pt_val (pe_call (ok_is_less T) hr (by rfl) T.g_is_less T.F_is_less.kp T.b_is_less .nil pass0 (pa_cons (pv 1) (pa_cons (pe_ix ix_tup (pe_ix ix_tup (pv 0) (pe_op op_add (pv 2) pe_int) (fun _ _ => rfl)) pe_int (fun _ _ => rfl)) pa_nil)))))))) (pss_one (ps_aug (i := 2) sc_piece_on.nd rfl (.inl rfl) pe_int ip_add)))
    (pss_one (ps_ret (pv 2)))))), fun H0 Xs ds Φ h => ?body⟩)
  case len =>
    obtain ⟨ps, x, t, k, rfl, _⟩ := h
    rfl
  case body =>
    (try dsimp only [cxOf, L2.Cx.nox, L2.Cx.wish])
    obtain ⟨ps, x, t, k, rfl, hp, ⟨rfl, ht⟩, hk, hl, h⟩ := h
    have hkl := knL_len ps
    have hp0 := hp.ne
    have hpl := hp.len
    obtain ⟨p0, hp0'⟩ := get_of_lt (l := ps) (i := 0) hp0
    have f0 := (hp.mem hp0').1
    have l0 := hl p0 hp0'
    refine LS.seq (LS.ite (LT.val ?_))
    walk_at "sxn"
    refine OpD.ixT (knL_at (i := 0) hp0') ?_
    walk_at "sxn"
    · exact absurd l0 (by grind)
    · refine LS.loop (fun m ρ s' => ∃ (i : Nat) (p : Kn), ρ = [some (.tup (knL ps)), some (fr t), some (.int i)] ∧ s' = ⟨[], [], Xs⟩ ∧ ps[i]? = some p ∧ p.1 ≤ t ∧ m + i = ps.length) ps.length ⟨0, p0, rfl, rfl, hp0', l0, rfl⟩ (fun m ρ s' hI => ?_)
      obtain ⟨i, p, rfl, rfl, hp1, hle, hm⟩ := hI
      have hi : i < ps.length := (List.getElem?_eq_some_iff.mp hp1).1
      walk_at "sxn"
      · obtain ⟨q, hq⟩ := get_of_lt (l := ps) (i := i + 1) (by omega)
        have fq := (hp.mem hq).1
        rw [show ((i : Int) + 1) = ((i + 1 : Nat) : Int) by omega]
        refine OpD.ixT (knL_at hq) ?_
        walk_at "sxn"
        · exact ⟨m - 1, by omega, i + 1, q, rfl, rfl, hq, by grind, by omega⟩
        · have e : pc ps t = i := pc_of hp.asc ⟨p, hp1, hle, fun q' hq' => by
            rw [hq] at hq'
            cases hq'
            assumption⟩
          rw [e] at h
          exact h
      · have e : pc ps t = i := pc_of hp.asc ⟨p, hp1, hle, fun q hq => by
          have := (List.getElem?_eq_some_iff.mp hq).1
          omega⟩
        rw [e] at h
        exact h
local macro_rules | `(tactic| walk_at "sxk") => `(tactic| ((with_reducible show S_piece_on _ _); refine' ⟨_, _, _, _, rfl, ?hp, ?fa, ?fk, ?hl, ?fn⟩; (case' hp => assumption); (case' fa => walk_at "fr"); (case' fk => walk_at "frk"); (case' hl => assumption)))



/-- t is before the first knot -/
def Early (ps : List Kn) (t : Rat) : Prop := ∃ p, ps[0]? = some p ∧ t < p.1
def R_piece_on : RSp := fun ds => ∃ ps x t k, ds = [.tup (knL ps), x] ∧ KOk ps ∧ Fr x t k ∧ k ≤ 1000 ∧ Early ps t

theorem okr_piece_on (T : Tx K mg base) : FnOk P w K mg base (L2.CX P w) 2 T.f_piece_on T.fd_piece_on ["points", "t"] (liftR K T.tbs T.C_NoTime R_piece_on) := by
  refine okR T.F_piece_on sc_piece_on (fun ds h => ?len) (by decide) (fun cdv A outer s H E hr => ⟨_, (pss_cons (ps_if (pt_val (pe_call (ok_is_less T) hr (by rfl) T.g_is_less T.F_is_less.kp T.b_is_less .nil pass0 (pa_cons (pv 1) (pa_cons (pe_ix ix_tup (pe_ix ix_tup (pv 0) pe_int (fun _ _ => rfl)) pe_int (fun _ _ => rfl)) pa_nil)))) (pss_one (show PS _ _ (tRaise E T.C_NoTime) from ps_raise rfl (takes_of rfl rfl rfl rfl) (pmk_own PySem.F.excBase_ValueError T.x_NoTime T.g_NoTime T.k_NoTime (raises_own T.b_NoTime T.t_NoTime) (by exact rfl)))) pss_nil) pss_dead), fun H0 Xs ds hE h => ?body⟩)
  case len =>
    obtain ⟨ps, x, t, k, rfl, _⟩ := h
    rfl
  case body =>
    (try dsimp only [cxOf, L2.Cx.nox, L2.Cx.wish])
    obtain ⟨ps, x, t, k, rfl, hp, ⟨rfl, ht⟩, hk, p0, hp0', hlt⟩ := h
    have hkl := knL_len ps
    have hp0 := hp.ne
    have f0 := (hp.mem hp0').1
    refine LS.seq (LS.ite (LT.val ?_))
    walk_at "sxn"
    refine OpD.ixT (knL_at (i := 0) hp0') ?_
    walk_at "sxn"
    · exact LS.raise rfl hE
    · exact absurd hlt (by assumption)
local macro_rules | `(tactic| walk_at "sxk") => `(tactic| ((with_reducible show R_piece_on _); refine' ⟨_, _, _, _, rfl, ?hp, ?fa, ?fk, ?hl⟩; (case' hp => assumption); (case' fa => walk_at "fr"); (case' fk => walk_at "frk"); (case' hl => assumption)))
local macro_rules | `(tactic| walk_at "sxk") => `(tactic| with_reducible refine LE.callR rfl (by assumption) ?_)



def S_product_of : PSp := fun ds Φ => ∃ x y a b k l, ds = [x, y] ∧ Fr x a k ∧ Fr y b l ∧ k + l ≤ 7000 ∧ Φ (fr (a * b))

theorem ok_product_of (T : Tx K mg base) : FnOk P w K mg base CX0 3 T.f_product_of T.fd_product_of ["a", "b"] (liftP K T.tbs S_product_of) := by
  refine okP T.F_product_of sc_product_of (fun ds Φ h => ?len) (by decide) (fun cdv A outer s H E hr => ⟨_, (pss_one (ps_ret (pe_call (ok_new_fraction T) hr (by rfl) T.g_new_fraction T.F_new_fraction.kp T.b_new_fraction .nil pass0 (pa_cons (pe_op op_mulW (pe_ix ix_tup (pv 0) pe_int (fun _ _ => rfl)) (pe_ix ix_tup (pv 1) pe_int (fun _ _ => rfl))) (pa_cons (pe_op op_mulW (pe_ix ix_tup (pv 0) pe_int (fun _ _ => rfl)) (pe_ix ix_tup (pv 1) pe_int (fun _ _ => rfl))) pa_nil))))), fun H0 Xs ds Φ h => ?body⟩)
  case len =>
    obtain ⟨x, y, a, b, k, l, rfl, _⟩ := h
    rfl
  case body =>
    (try dsimp only [cxOf, L2.Cx.nox, L2.Cx.wish])
    obtain ⟨x, y, a, b, k, l, rfl, ⟨rfl, ha⟩, ⟨rfl, hb⟩, hkl, h⟩ := h
    have ha1 := pow_up ha.1 (show k ≤ 7000 by omega)
    have ha2 := pow_up ha.dI (show k ≤ 7000 by omega)
    have hb1 := pow_up hb.1 (show l ≤ 7000 by omega)
    have hb2 := pow_up hb.dI (show l ≤ 7000 by omega)
    walk_at "sxs"
    have hd := den2 ha hb hkl
    refine ⟨_, _, rfl, hd.1, pow_up hd.2 (by decide), ?_⟩
    rw [rat_mul]
    exact h
local macro_rules | `(tactic| walk_at "sxk") => `(tactic| ((with_reducible show S_product_of _ _); refine' ⟨_, _, _, _, _, _, rfl, ?fa, ?fb, ?fk, ?fn⟩; (case' fa => walk_at "fr"); (case' fb => walk_at "fr"); (case' fk => walk_at "frk")))



def S_share_of : PSp := fun ds Φ => ∃ x y a b k l, ds = [x, y] ∧ Fr x a k ∧ Fr y b l ∧ k + l ≤ 7000 ∧ b ≠ 0 ∧ Φ (fr (a / b))

theorem ok_share_of (T : Tx K mg base) : FnOk P w K mg base CX0 3 T.f_share_of T.fd_share_of ["a", "b"] (liftP K T.tbs S_share_of) := by
  refine okP T.F_share_of sc_share_of (fun ds Φ h => ?len) (by decide) (fun cdv A outer s H E hr => ⟨_, (pss_one (ps_ret (pe_call (ok_new_fraction T) hr (by rfl) T.g_new_fraction T.F_new_fraction.kp T.b_new_fraction .nil pass0 (pa_cons (pe_op op_mulW (pe_ix ix_tup (pv 0) pe_int (fun _ _ => rfl)) (pe_ix ix_tup (pv 1) pe_int (fun _ _ => rfl))) (pa_cons (pe_op op_mulW (pe_ix ix_tup (pv 0) pe_int (fun _ _ => rfl)) (pe_ix ix_tup (pv 1) pe_int (fun _ _ => rfl))) pa_nil))))), fun H0 Xs ds Φ h => ?body⟩)
  case len =>
    obtain ⟨x, y, a, b, k, l, rfl, _⟩ := h
    rfl
  case body =>
    (try dsimp only [cxOf, L2.Cx.nox, L2.Cx.wish])
    obtain ⟨x, y, a, b, k, l, rfl, ⟨rfl, ha⟩, ⟨rfl, hb⟩, hkl, hb0, h⟩ := h
    have ha1 := pow_up ha.1 (show k ≤ 7000 by omega)
    have ha2 := pow_up ha.dI (show k ≤ 7000 by omega)
    have hb1 := pow_up hb.1 (show l ≤ 7000 by omega)
    have hb2 := pow_up hb.dI (show l ≤ 7000 by omega)
    walk_at "sxs"
    have hd := num2 ha hb hkl hb0
    refine ⟨_, _, rfl, hd.1, pow_up hd.2 (by decide), ?_⟩
    rw [rat_div _ _ hb0]
    exact h
local macro_rules | `(tactic| walk_at "sxk") => `(tactic| ((with_reducible show S_share_of _ _); refine' ⟨_, _, _, _, _, _, rfl, ?fa, ?fb, ?fk, ?fz, ?fn⟩; (case' fa => walk_at "fr"); (case' fb => walk_at "fr"); (case' fk => walk_at "frk"); (case' fz => first | assumption | exact num_nz (by assumption))))



def S_rest_of : PSp := fun ds Φ => ∃ x y a b k l, ds = [x, y] ∧ Fr x a k ∧ Fr y b l ∧ k + l ≤ 7000 ∧ Φ (fr (a - b))

theorem ok_rest_of (T : Tx K mg base) : FnOk P w K mg base CX0 3 T.f_rest_of T.fd_rest_of ["a", "b"] (liftP K T.tbs S_rest_of) := by
  refine okP T.F_rest_of sc_rest_of (fun ds Φ h => ?len) (by decide) (fun cdv A outer s H E hr => ⟨_, (pss_one (ps_ret (pe_call (ok_new_fraction T) hr (by rfl) T.g_new_fraction T.F_new_fraction.kp T.b_new_fraction .nil pass0 (pa_cons (pe_op op_sub (pe_op op_mulW (pe_ix ix_tup (pv 0) pe_int (fun _ _ => rfl)) (pe_ix ix_tup (pv 1) pe_int (fun _ _ => rfl))) (pe_op op_mulW (pe_ix ix_tup (pv 1) pe_int (fun _ _ => rfl)) (pe_ix ix_tup (pv 0) pe_int (fun _ _ => rfl)))) (pa_cons (pe_op op_mulW (pe_ix ix_tup (pv 0) pe_int (fun _ _ => rfl)) (pe_ix ix_tup (pv 1) pe_int (fun _ _ => rfl))) pa_nil))))), fun H0 Xs ds Φ h => ?body⟩)
  case len =>
    obtain ⟨x, y, a, b, k, l, rfl, _⟩ := h
    rfl
  case body =>
    (try dsimp only [cxOf, L2.Cx.nox, L2.Cx.wish])
    obtain ⟨x, y, a, b, k, l, rfl, ⟨rfl, ha⟩, ⟨rfl, hb⟩, hkl, h⟩ := h
    have ha1 := pow_up ha.1 (show k ≤ 7000 by omega)
    have ha2 := pow_up ha.dI (show k ≤ 7000 by omega)
    have hb1 := pow_up hb.1 (show l ≤ 7000 by omega)
    have hb2 := pow_up hb.dI (show l ≤ 7000 by omega)
    walk_at "sxs"
    have hd := den2 ha hb hkl
    refine ⟨_, _, rfl, hd.1, pow_up hd.2 (by decide), ?_⟩
    rw [rat_sub]
    exact h
local macro_rules | `(tactic| walk_at "sxk") => `(tactic| ((with_reducible show S_rest_of _ _); refine' ⟨_, _, _, _, _, _, rfl, ?fa, ?fb, ?fk, ?fn⟩; (case' fa => walk_at "fr"); (case' fb => walk_at "fr"); (case' fk => walk_at "frk")))



def S_pace_on : PSp := fun ds Φ => ∃ ps x t k, ds = [.tup (knL ps), x] ∧ KOk ps ∧ Fr x t k ∧ k ≤ 1000 ∧ Late ps t ∧ Φ (fr (paceQ ps t))

theorem ok_pace_on (T : Tx K mg base) : FnOk P w K mg base CX0 4 T.f_pace_on T.fd_pace_on ["points", "t"] (liftP K T.tbs S_pace_on) := by
  refine okP T.F_pace_on sc_pace_on (fun ds Φ h => ?len) (by decide) (fun cdv A outer s H E hr => ⟨_, (pss_cons (ps_set (i := 2) sc_pace_on.nd rfl (.inl rfl) (pe_call (ok_piece_on T) (hr.mono (by decide)) (by rfl) T.g_piece_on T.F_piece_on.kp T.b_piece_on .nil pass0 (pa_cons (pv 0) (pa_cons (pv 1) pa_nil))))
    (pss_cons (ps_if (pt_cmpR op_eq (pe_op op_add (pv 2) pe_int) (pe_callB call_len_seq (by rfl) T.z_len (by decide +kernel) (pa_cons (pv 0) pa_nil)) (nomark _)) (pss_one (ps_ret (pe_glob (v := .ref T.a_ZERO) (by rfl) T.c_ZERO rfl))) pss_nil)
    (pss_cons (ps_par (i := 3) (j := 4) rfl sc_pace_on.nd rfl rfl (by decide) rfl rfl (pa_cons (pe_ix ix_tup (pv 0) (pv 2) (fun _ _ => rfl)) (pa_cons (pe_ix ix_tup (pv 0) (pe_op op_add (pv 2) pe_int) (fun _ _ => rfl)) pa_nil)) (by rfl))
    (pss_one (ps_ret (pe_call (ok_share_of T) hr (by rfl) T.g_share_of T.F_share_of.kp T.b_share_of .nil pass0 (pa_cons (pe_call (ok_rest_of T) hr (by rfl) T.g_rest_of T.F_rest_of.kp T.b_rest_of .nil pass0 (pa_cons (pe_ix ix_tup (pv 4) pe_int (fun _ _ => rfl)) (pa_cons (pe_ix ix_tup (pv 3) pe_int (fun _ _ => rfl)) pa_nil))) (pa_cons (pe_call (ok_rest_of T) hr (by rfl) T.g_rest_of T.F_rest_of.kp T.b_rest_of .nil pass0 (pa_cons (pe_ix ix_tup (pv 4) pe_int (fun _ _ => rfl)) (pa_cons (pe_ix ix_tup (pv 3) pe_int (fun _ _ => rfl)) pa_nil))) pa_nil)))))))), fun H0 Xs ds Φ h => ?body⟩)
  case len =>
    obtain ⟨ps, x, t, k, rfl, _⟩ := h
    rfl
  case body =>
    (try dsimp only [cxOf, L2.Cx.nox, L2.Cx.wish])
    obtain ⟨ps, x, t, k, rfl, hp, ⟨rfl, ht⟩, hk, hl, h⟩ := h
    have hkl := knL_len ps
    have hpl := hp.len
    obtain ⟨p, hp1, _, _⟩ := pc_lt hp hl
    have fp := hp.mem hp1
    have fp1 := fp.1
    have fp2 := fp.2
    have hlt := (List.getElem?_eq_some_iff.mp hp1).1
    walk_at "sxn"
    refine LS.ite (LT.test ?_)
    walk_at "sxn"
    · rw [paceQ_last (by omega)] at h
      exact h
    · obtain ⟨q, hq⟩ := get_of_lt (l := ps) (i := pc ps t + 1) (by omega)
      have fq := hp.mem hq
      have fq1 := fq.1
      have fq2 := fq.2
      have hne := lt_ne (asc_lt hp.asc hp1 hq)
      refine OpD.ixT (knL_at hp1) ?_
      walk_at "sxn"
      rw [show (((pc ps t : Nat) : Int) + 1) = ((pc ps t + 1 : Nat) : Int) by omega]
      refine OpD.ixT (knL_at hq) ?_
      walk_at "sxn"
      rw [paceQ_at hp1 hq] at h
      exact h
local macro_rules | `(tactic| walk_at "sxk") => `(tactic| ((with_reducible show S_pace_on _ _); refine' ⟨_, _, _, _, rfl, ?hp, ?fa, ?fk, ?hl, ?fn⟩; (case' hp => assumption); (case' fa => walk_at "fr"); (case' fk => walk_at "frk"); (case' hl => assumption)))



def R_pace_on : RSp := fun ds => ∃ ps x t k, ds = [.tup (knL ps), x] ∧ KOk ps ∧ Fr x t k ∧ k ≤ 1000 ∧ Early ps t

theorem okr_pace_on (T : Tx K mg base) : FnOk P w K mg base (L2.CX P w) 4 T.f_pace_on T.fd_pace_on ["points", "t"] (liftR K T.tbs T.C_NoTime R_pace_on) := by
  refine okR T.F_pace_on sc_pace_on (fun ds h => ?len) (by decide) (fun cdv A outer s H E hr => ⟨_, (pss_cons (ps_set (i := 2) sc_pace_on.nd rfl (.inl rfl) (pe_call (okr_piece_on T) (hr.mono (by decide)) (by rfl) T.g_piece_on T.F_piece_on.kp T.b_piece_on .nil (passR (E := E) rfl rfl rfl rfl) (pa_cons (pv 0) (pa_cons (pv 1) pa_nil)))) pss_dead), fun H0 Xs ds hE h => ?body⟩)
  case len =>
    obtain ⟨ps, x, t, k, rfl, _⟩ := h
    rfl
  case body =>
    (try dsimp only [cxOf, L2.Cx.nox, L2.Cx.wish])
    obtain ⟨ps, x, t, k, rfl, hp, ⟨rfl, ht⟩, hk, hl⟩ := h
    walk_at "sxn"
local macro_rules | `(tactic| walk_at "sxk") => `(tactic| ((with_reducible show R_pace_on _); refine' ⟨_, _, _, _, rfl, ?hp, ?fa, ?fk, ?hl⟩; (case' hp => assumption); (case' fa => walk_at "fr"); (case' fk => walk_at "frk"); (case' hl => assumption)))



def S_place_on : PSp := fun ds Φ => ∃ ps x t k, ds = [.tup (knL ps), x] ∧ KOk ps ∧ Fr x t k ∧ k ≤ 1000 ∧ Late ps t ∧ Φ (fr (posQ ps t))

theorem ok_place_on (T : Tx K mg base) : FnOk P w K mg base CX0 5 T.f_place_on T.fd_place_on ["points", "t"] (liftP K T.tbs S_place_on) := by
  refine okP T.F_place_on sc_place_on (fun ds Φ h => ?len) (by decide) (fun cdv A outer s H E hr => ⟨_, (pss_cons (ps_set (i := 2) sc_place_on.nd rfl (.inl rfl) (pe_ix ix_tup (pv 0) (pe_call (ok_piece_on T) (hr.mono (by decide)) (by rfl) T.g_piece_on T.F_piece_on.kp T.b_piece_on .nil pass0 (pa_cons (pv 0) (pa_cons (pv 1) pa_nil))) (fun _ _ => rfl)))
    (pss_one (ps_ret (pe_call (ok_sum_of T) (hr.mono (by decide)) (by rfl) T.g_sum_of T.F_sum_of.kp T.b_sum_of .nil pass0 (pa_cons (pe_ix ix_tup (pv 2) pe_int (fun _ _ => rfl)) (pa_cons (pe_call (ok_product_of T) (hr.mono (by decide)) (by rfl) T.g_product_of T.F_product_of.kp T.b_product_of .nil pass0 (pa_cons (pe_call (ok_pace_on T) hr (by rfl) T.g_pace_on T.F_pace_on.kp T.b_pace_on .nil pass0 (pa_cons (pv 0) (pa_cons (pv 1) pa_nil))) (pa_cons (pe_call (ok_rest_of T) (hr.mono (by decide)) (by rfl) T.g_rest_of T.F_rest_of.kp T.b_rest_of .nil pass0 (pa_cons (pv 1) (pa_cons (pe_ix ix_tup (pv 2) pe_int (fun _ _ => rfl)) pa_nil))) pa_nil))) pa_nil)))))), fun H0 Xs ds Φ h => ?body⟩)
  case len =>
    obtain ⟨ps, x, t, k, rfl, _⟩ := h
    rfl
  case body =>
    (try dsimp only [cxOf, L2.Cx.nox, L2.Cx.wish])
    obtain ⟨ps, x, t, k, rfl, hp, ⟨rfl, ht⟩, hk, hl, h⟩ := h
    obtain ⟨p, hp1, _, _⟩ := pc_lt hp hl
    have fp := hp.mem hp1
    have fp1 := fp.1
    have fp2 := fp.2
    have fpc := paceQ_fit hp hl
    walk_at "sxn"
    refine OpD.ixT (knL_at hp1) ?_
    walk_at "sxn"
    rw [posQ_at hp1] at h
    exact h
local macro_rules | `(tactic| walk_at "sxk") => `(tactic| ((with_reducible show S_place_on _ _); refine' ⟨_, _, _, _, rfl, ?hp, ?fa, ?fk, ?hl, ?fn⟩; (case' hp => assumption); (case' fa => walk_at "fr"); (case' fk => walk_at "frk"); (case' hl => assumption)))



def R_place_on : RSp := fun ds => ∃ ps x t k, ds = [.tup (knL ps), x] ∧ KOk ps ∧ Fr x t k ∧ k ≤ 1000 ∧ Early ps t

theorem okr_place_on (T : Tx K mg base) : FnOk P w K mg base (L2.CX P w) 5 T.f_place_on T.fd_place_on ["points", "t"] (liftR K T.tbs T.C_NoTime R_place_on) := by
  refine okR T.F_place_on sc_place_on (fun ds h => ?len) (by decide) (fun cdv A outer s H E hr => ⟨_, (pss_cons (ps_set (i := 2) sc_place_on.nd rfl (.inl rfl) (pe_ix ix_tup (pv 0) (pe_call (okr_piece_on T) (hr.mono (by decide)) (by rfl) T.g_piece_on T.F_piece_on.kp T.b_piece_on .nil (passR (E := E) rfl rfl rfl rfl) (pa_cons (pv 0) (pa_cons (pv 1) pa_nil))) (fun _ _ => rfl))) pss_dead), fun H0 Xs ds hE h => ?body⟩)
  case len =>
    obtain ⟨ps, x, t, k, rfl, _⟩ := h
    rfl
  case body =>
    (try dsimp only [cxOf, L2.Cx.nox, L2.Cx.wish])
    obtain ⟨ps, x, t, k, rfl, hp, ⟨rfl, ht⟩, hk, hl⟩ := h
    walk_at "sxn"
local macro_rules | `(tactic| walk_at "sxk") => `(tactic| ((with_reducible show R_place_on _); refine' ⟨_, _, _, _, rfl, ?hp, ?fa, ?fk, ?hl⟩; (case' hp => assumption); (case' fa => walk_at "fr"); (case' fk => walk_at "frk"); (case' hl => assumption)))



def S_Timetable_at (C : Addr) : PSp := fun ds Φ => ∃ ps x t k, ds = [tb C ps, x] ∧ KOk ps ∧ Fr x t k ∧ k ≤ 1000 ∧ Late ps t ∧ Φ (fr (posQ ps t))

theorem ok_Timetable_at (T : Tx K mg base) : FnOk P w K mg base CX0 6 T.f_Timetable_at T.fd_Timetable_at ["self", "t"] (liftP K T.tbs (S_Timetable_at T.C_Timetable)) := by
  refine okP T.F_Timetable_at sc_Timetable_at (fun ds Φ h => ?len) (by decide) (fun cdv A outer s H E hr => ⟨_, (pss_one (ps_ret (pe_call (ok_place_on T) hr (by rfl) T.g_place_on T.F_place_on.kp T.b_place_on .nil pass0 (pa_cons (pe_fld (pv 0) rfl) (pa_cons (pv 1) pa_nil))))), fun H0 Xs ds Φ h => ?body⟩)
  case len =>
    obtain ⟨ps, x, t, k, rfl, _⟩ := h
    rfl
  case body =>
    (try dsimp only [cxOf, L2.Cx.nox, L2.Cx.wish])
    obtain ⟨ps, x, t, k, rfl, hp, ⟨rfl, ht⟩, hk, hl, h⟩ := h
    walk_at "sxn"
    exact h
local macro_rules | `(tactic| walk_at "sxk") => `(tactic| ((with_reducible show S_Timetable_at _ _ _); refine' ⟨_, _, _, _, rfl, ?hp, ?fa, ?fk, ?hl, ?fn⟩; (case' hp => assumption); (case' fa => walk_at "fr"); (case' fk => walk_at "frk"); (case' hl => assumption)))



def R_Timetable_at (C : Addr) : RSp := fun ds => ∃ ps x t k, ds = [tb C ps, x] ∧ KOk ps ∧ Fr x t k ∧ k ≤ 1000 ∧ Early ps t

theorem okr_Timetable_at (T : Tx K mg base) : FnOk P w K mg base (L2.CX P w) 6 T.f_Timetable_at T.fd_Timetable_at ["self", "t"] (liftR K T.tbs T.C_NoTime (R_Timetable_at T.C_Timetable)) := by
  refine okR T.F_Timetable_at sc_Timetable_at (fun ds h => ?len) (by decide) (fun cdv A outer s H E hr => ⟨_, (pss_one (ps_ret (pe_call (okr_place_on T) hr (by rfl) T.g_place_on T.F_place_on.kp T.b_place_on .nil (passR (E := E) rfl rfl rfl rfl) (pa_cons (pe_fld (pv 0) rfl) (pa_cons (pv 1) pa_nil))))), fun H0 Xs ds hE h => ?body⟩)
  case len =>
    obtain ⟨ps, x, t, k, rfl, _⟩ := h
    rfl
  case body =>
    (try dsimp only [cxOf, L2.Cx.nox, L2.Cx.wish])
    obtain ⟨ps, x, t, k, rfl, hp, ⟨rfl, ht⟩, hk, hl⟩ := h
    walk_at "sxn"
local macro_rules | `(tactic| walk_at "sxk") => `(tactic| ((with_reducible show R_Timetable_at _ _); refine' ⟨_, _, _, _, rfl, ?hp, ?fa, ?fk, ?hl⟩; (case' hp => assumption); (case' fa => walk_at "fr"); (case' fk => walk_at "frk"); (case' hl => assumption)))



def S_order_of : PSp := fun ds Φ => ∃ x y a b k l, ds = [x, y] ∧ Fr x a k ∧ Fr y b l ∧ k + l ≤ 7000 ∧ Φ (.int (ordq a b))

theorem ok_order_of (T : Tx K mg base) : FnOk P w K mg base CX0 1 T.f_order_of T.fd_order_of ["a", "b"] (liftP K T.tbs S_order_of) := by
  refine okP T.F_order_of sc_order_of (fun ds Φ h => ?len) (by decide) (fun cdv A outer s H E hr => ⟨_, (pss_cons (ps_set (i := 2) sc_order_of.nd rfl (.inl rfl) (pe_op op_sub (pe_op op_mulW (pe_ix ix_tup (pv 0) pe_int (fun _ _ => rfl)) (pe_ix ix_tup (pv 1) pe_int (fun _ _ => rfl))) (pe_op op_mulW (pe_ix ix_tup (pv 1) pe_int (fun _ _ => rfl)) (pe_ix ix_tup (pv 0) pe_int (fun _ _ => rfl)))))
    (pss_one (ps_ret (pe_op op_subBl (pe_cmpR op_gt (pv 2) pe_int (nomark _)) (pe_cmpR op_lt (pv 2) pe_int (nomark _)))))), fun H0 Xs ds Φ h => ?body⟩)
  case len =>
    obtain ⟨x, y, a, b, k, l, rfl, _⟩ := h
    rfl
  case body =>
    (try dsimp only [cxOf, L2.Cx.nox, L2.Cx.wish])
    obtain ⟨x, y, a, b, k, l, rfl, ⟨rfl, ha⟩, ⟨rfl, hb⟩, hkl, h⟩ := h
    have ha1 := pow_up ha.1 (show k ≤ 7000 by omega)
    have ha2 := pow_up ha.dI (show k ≤ 7000 by omega)
    have hb1 := pow_up hb.1 (show l ≤ 7000 by omega)
    have hb2 := pow_up hb.dI (show l ≤ 7000 by omega)
    walk_at "sxs"
    have e : ((if decide (a.num * b.den - b.num * a.den > 0) = true then (1 : Int) else 0) - if decide (a.num * b.den - b.num * a.den < 0) = true then (1 : Int) else 0) = ordq a b := by
      have h1 := rat_lt a b
      have h2 := rat_lt b a
      unfold ordq
      simp only [← h1, ← h2, decide_eq_true_eq]
      generalize a.num * b.den = u
      generalize b.num * a.den = v
      split <;> split <;> split <;> split <;> omega
    rw [e]
    exact h
local macro_rules | `(tactic| walk_at "sxk") => `(tactic| ((with_reducible show S_order_of _ _); refine' ⟨_, _, _, _, _, _, rfl, ?fa, ?fb, ?fk, ?fn⟩; (case' fa => walk_at "fr"); (case' fb => walk_at "fr"); (case' fk => walk_at "frk")))



def S_is_contact : PSp := fun ds Φ => ∃ x g k d L, ds = [x, d] ∧ Fr x g k ∧ k ≤ 6000 ∧ Len d L ∧ ∀ b : Bool, (b = true ↔ onTrack L g) → Φ (.bl b)
theorem on_den {g : Rat} {l : Int} (hz : (l : Rat) ≠ 0) : onTrack (some l) g ↔ ((g / (l : Rat)).den : Int) = 1 := by
  constructor
  · rintro ⟨k, rfl⟩
    have e : (k : Rat) * (l : Rat) / (l : Rat) = (k : Rat) := by grind
    rw [e]
    rfl
  · intro h
    refine ⟨(g / (l : Rat)).num, ?_⟩
    have e := Rat.num_divInt_den (g / (l : Rat))
    rw [h, Rat.divInt_eq_div, show (((1 : Int) : Rat)) = 1 from rfl] at e
    have e3 : ((g / (l : Rat)).num : Rat) = g / (l : Rat) := by grind
    rw [e3]
    grind

theorem ok_is_contact (T : Tx K mg base) : FnOk P w K mg base CX0 4 T.f_is_contact T.fd_is_contact ["gap", "length"] (liftP K T.tbs S_is_contact) := by
  refine okP T.F_is_contact sc_is_contact (fun ds Φ h => ?len) (by decide) (fun cdv A outer s H E hr => ⟨_, (pss_one (ps_ret (pe_ifExp (pt_cmpR op_isN (pv 1) pe_non (nomark _)) (pe_cmpR op_eq (pe_ix ix_tup (pv 0) pe_int (fun _ _ => rfl)) pe_int (nomark _)) (pe_cmpR op_eq (pe_ix ix_tup (pe_call (ok_share_of T) hr (by rfl) T.g_share_of T.F_share_of.kp T.b_share_of .nil pass0 (pa_cons (pv 0) (pa_cons (pe_tup (pa_cons (pv 1) (pa_cons pe_int pa_nil))) pa_nil))) pe_int (fun _ _ => rfl)) pe_int (nomark _))))), fun H0 Xs ds Φ h => ?body⟩)
  case len =>
    obtain ⟨x, g, k, d, L, rfl, _⟩ := h
    rfl
  case body =>
    (try dsimp only [cxOf, L2.Cx.nox, L2.Cx.wish])
    obtain ⟨x, g, k, d, L, rfl, ⟨rfl, hg⟩, hk, ⟨rfl, rfl⟩ | ⟨l, rfl, rfl, h1, h2⟩, h⟩ := h
    · walk_at "sxd"
      refine h _ ?_
      rw [decide_eq_true_eq]
      exact Rat.num_eq_zero
    · have fl : Fr (.tup [.int l, .int 1]) (l : Rat) 140 := ⟨rfl, by show l.natAbs < 2 ^ 140; omega, by show 1 < 2 ^ 140; decide⟩
      have hz : (l : Rat) ≠ 0 := by exact_mod_cast (show l ≠ 0 by omega)
      walk_at "sxd"
      refine h _ ?_
      rw [decide_eq_true_eq]
      exact (on_den hz).symm
local macro_rules | `(tactic| walk_at "sxk") => `(tactic| ((with_reducible show S_is_contact _ _); refine' ⟨_, _, _, _, _, rfl, ?fa, ?fk, ?hl, ?fn⟩; (case' fa => walk_at "fr"); (case' fk => walk_at "frk"); (case' hl => assumption); (case' fn => intro bct hbct)))



def S_gap_at (C : Addr) : PSp := fun ds Φ => ∃ ps qs x t k, ds = [tb C ps, tb C qs, x] ∧ KOk ps ∧ KOk qs ∧ Fr x t k ∧ k ≤ 1000 ∧ beg2 ps qs ≤ t ∧ Φ (fr (gapQ ps qs t))

theorem ok_gap_at (T : Tx K mg base) : FnOk P w K mg base CX0 7 T.f_gap_at T.fd_gap_at ["one", "other", "t"] (liftP K T.tbs (S_gap_at T.C_Timetable)) := by
  refine okP T.F_gap_at sc_gap_at (fun ds Φ h => ?len) (by decide) (fun cdv A outer s H E hr => ⟨_, (pss_one (ps_ret (pe_call (ok_rest_of T) (hr.mono (by decide)) (by rfl) T.g_rest_of T.F_rest_of.kp T.b_rest_of .nil pass0 (pa_cons (pe_meth (pv 0) T.c_Timetable T.m_Timetable_at (ok_Timetable_at T) hr T.b_Timetable_at .nil pass0 (pa_cons (pv 2) pa_nil)) (pa_cons (pe_meth (pv 1) T.c_Timetable T.m_Timetable_at (ok_Timetable_at T) hr T.b_Timetable_at .nil pass0 (pa_cons (pv 2) pa_nil)) pa_nil))))), fun H0 Xs ds Φ h => ?body⟩)
  case len =>
    obtain ⟨ps, qs, x, t, k, rfl, _⟩ := h
    rfl
  case body =>
    (try dsimp only [cxOf, L2.Cx.nox, L2.Cx.wish])
    obtain ⟨ps, qs, x, t, k, rfl, hp, hq, ⟨rfl, ht⟩, hk, h1, h⟩ := h
    obtain ⟨l1, l2⟩ := beg2_late h1
    have f1 := posQ_fit hp l1 ht hk
    have f2 := posQ_fit hq l2 ht hk
    walk_at "sxn"
    exact h
local macro_rules | `(tactic| walk_at "sxk") => `(tactic| ((with_reducible show S_gap_at _ _ _); refine' ⟨_, _, _, _, _, rfl, ?hp, ?hq, ?fa, ?fk, ?h1, ?fn⟩; (case' hp => assumption); (case' hq => assumption); (case' fa => walk_at "fr"); (case' fk => walk_at "frk"); (case' h1 => assumption)))



def S_Timetable_begin (C : Addr) : PSp := fun ds Φ => ∃ ps p, ds = [tb C ps] ∧ KOk ps ∧ ps[0]? = some p ∧ Φ (fr p.1)

theorem ok_Timetable_begin (T : Tx K mg base) : FnOk P w K mg base CX0 1 T.f_Timetable_begin T.fd_Timetable_begin ["self"] (liftP K T.tbs (S_Timetable_begin T.C_Timetable)) := by
  refine okP T.F_Timetable_begin sc_Timetable_begin (fun ds Φ h => ?len) (by decide) (fun cdv A outer s H E hr => ⟨_, (pss_one (ps_ret (pe_ix ix_tup (pe_ix ix_tup (pe_fld (pv 0) rfl) pe_int (fun _ _ => rfl)) pe_int (fun _ _ => rfl)))), fun H0 Xs ds Φ h => ?body⟩)
  case len =>
    obtain ⟨ps, p, rfl, _⟩ := h
    rfl
  case body =>
    (try dsimp only [cxOf, L2.Cx.nox, L2.Cx.wish])
    obtain ⟨ps, p, rfl, hp, hp0, h⟩ := h
    walk_at "sxn"
    refine OpD.ixT (knL_at (i := 0) hp0) ?_
    walk_at "sxn"
    exact h
local macro_rules | `(tactic| walk_at "sxk") => `(tactic| ((with_reducible show S_Timetable_begin _ _ _); refine ⟨_, _, rfl, by assumption, by assumption, ?_⟩))



def S_later_begin (C : Addr) : PSp := fun ds Φ => ∃ ps qs, ds = [tb C ps, tb C qs] ∧ KOk ps ∧ KOk qs ∧ Φ (fr (beg2 ps qs))

theorem ok_later_begin (T : Tx K mg base) : FnOk P w K mg base CX0 2 T.f_later_begin T.fd_later_begin ["one", "other"] (liftP K T.tbs (S_later_begin T.C_Timetable)) := by
  refine okP T.F_later_begin sc_later_begin (fun ds Φ h => ?len) (by decide) (fun cdv A outer s H E hr => ⟨_, (pss_one (ps_ret (pe_ifExp (pt_val (pe_call (ok_is_less T) hr (by rfl) T.g_is_less T.F_is_less.kp T.b_is_less .nil pass0 (pa_cons (pe_meth0 (pv 0) T.c_Timetable T.m_Timetable_begin (ok_Timetable_begin T) hr T.b_Timetable_begin .nil pass0) (pa_cons (pe_meth0 (pv 1) T.c_Timetable T.m_Timetable_begin (ok_Timetable_begin T) hr T.b_Timetable_begin .nil pass0) pa_nil)))) (pe_meth0 (pv 1) T.c_Timetable T.m_Timetable_begin (ok_Timetable_begin T) hr T.b_Timetable_begin .nil pass0) (pe_meth0 (pv 0) T.c_Timetable T.m_Timetable_begin (ok_Timetable_begin T) hr T.b_Timetable_begin .nil pass0)))), fun H0 Xs ds Φ h => ?body⟩)
  case len =>
    obtain ⟨ps, qs, rfl, _⟩ := h
    rfl
  case body =>
    (try dsimp only [cxOf, L2.Cx.nox, L2.Cx.wish])
    obtain ⟨ps, qs, rfl, hp, hq, h⟩ := h
    obtain ⟨p0, hp0⟩ := get_of_lt (l := ps) (i := 0) hp.ne
    obtain ⟨q0, hq0⟩ := get_of_lt (l := qs) (i := 0) hq.ne
    have fp := (hp.mem hp0).1
    have fq := (hq.mem hq0).1
    walk_at "sxd"
    all_goals
      rename_i hb
      unfold beg2 at h
      rw [fst0_at hp0, fst0_at hq0] at h
    · rw [if_pos hb] at h
      exact h
    · rw [if_neg hb] at h
      exact h
local macro_rules | `(tactic| walk_at "sxk") => `(tactic| ((with_reducible show S_later_begin _ _ _); refine' ⟨_, _, rfl, ?hp, ?hq, ?fn⟩; (case' hp => assumption); (case' hq => assumption)))



def S_last_turn (C : Addr) : PSp := fun ds Φ => ∃ ps qs x t k, ds = [tb C ps, tb C qs, x] ∧ KOk ps ∧ KOk qs ∧ Fr x t k ∧ k ≤ 1000 ∧ Φ (fr (Pw.lastT ps qs t))
theorem lstep_fit {t x f : Rat} (h : Fit 400 f) (hx : Fit 400 x) : Fit 400 (lstep t f x) := by
  unfold lstep
  split
  · exact hx
  · exact h
theorem beg2_fit2 {ps qs : List Kn} (hp : KOk ps) (hq : KOk qs) : Fit 400 (beg2 ps qs) := by
  obtain ⟨p0, hp0⟩ := get_of_lt (l := ps) (i := 0) hp.ne
  obtain ⟨q0, hq0⟩ := get_of_lt (l := qs) (i := 0) hq.ne
  unfold beg2
  rw [fst0_at hp0, fst0_at hq0]
  split
  · exact (hq.mem hq0).1
  · exact (hp.mem hp0).1

theorem ok_last_turn (T : Tx K mg base) : FnOk P w K mg base CX0 3 T.f_last_turn T.fd_last_turn ["one", "other", "t"] (liftP K T.tbs (S_last_turn T.C_Timetable)) := by
  refine okP T.F_last_turn sc_last_turn (fun ds Φ h => ?len) (by decide) (fun cdv A outer s H E hr => ⟨_, (pss_cons (ps_set (i := 3) sc_last_turn.nd rfl (.inl rfl) (pe_call (ok_later_begin T) hr (by rfl) T.g_later_begin T.F_later_begin.kp T.b_later_begin .nil pass0 (pa_cons (pv 0) (pa_cons (pv 1) pa_nil))))
    (pss_cons (ps_for PassesOwn.never rfl (pi_tup (pe_tup (pa_cons (pv 0) (pa_cons (pv 1) pa_nil)))) (pg_name (i := 4) sc_last_turn.nd rfl (.inl rfl)) (pss_one (ps_for PassesOwn.never rfl (pi_tup (pe_fld (pv 4) rfl)) (pg_tup rfl (pgs_cons (pg_name (i := 5) sc_last_turn.nd rfl (.inl rfl)) (pgs_cons (pg_name (i := 6) sc_last_turn.nd rfl (.inl rfl)) pgs_nil))) (pss_one (ps_if (PW.pt (pw_and (pt_val (pe_call (ok_is_less T) (hr.mono (by decide)) (by rfl) T.g_is_less T.F_is_less.kp T.b_is_less .nil pass0 (pa_cons (pv 5) (pa_cons (pv 2) pa_nil)))) (pw_and1 (pt_val (pe_call (ok_is_less T) (hr.mono (by decide)) (by rfl) T.g_is_less T.F_is_less.kp T.b_is_less .nil pass0 (pa_cons (pv 3) (pa_cons (pv 5) pa_nil))))))) (pss_one (ps_set (i := 3) sc_last_turn.nd rfl (.inl rfl) (pv 5))) pss_nil)))))
    (pss_one (ps_ret (pv 3))))), fun H0 Xs ds Φ h => ?body⟩)
  case len =>
    obtain ⟨ps, qs, x, t, k, rfl, _⟩ := h
    rfl
  case body =>
    (try dsimp only [cxOf, L2.Cx.nox, L2.Cx.wish])
    obtain ⟨ps, qs, x, t, k, rfl, hp, hq, ⟨rfl, ht⟩, hk, h⟩ := h
    have fb := beg2_fit2 hp hq
    walk_at "sxn"
    refine LS.for (LI.tup ?_)
    walk_at "sxn"
    refine ⟨fun j ρ s => ∃ (f : Rat) (e4 e5 e6 : Option D), (f = ((([ps, qs].take j).flatMap turns).map (·.1)).foldl (lstep t) (beg2 ps qs) ∧ Fit 400 f) ∧ ρ = [some (tb T.C_Timetable ps), some (tb T.C_Timetable qs), some (fr t), some (fr f), e4, e5, e6] ∧ s = ⟨[], [], Xs⟩, ⟨beg2 ps qs, _, _, _, ⟨rfl, fb⟩, rfl, rfl⟩, fun tms j d ρ s hd hI => ?_, fun ρ s hI => ?_⟩
    · obtain ⟨f, e4, e5, e6, ⟨hf, hfit⟩, rfl, rfl⟩ := hI
      obtain ⟨rs, rfl, hr, hrs⟩ : ∃ rs, d = tb T.C_Timetable rs ∧ KOk rs ∧ [ps, qs][j]? = some rs := by
        match j, hd with
        | 0, hd => cases hd; exact ⟨ps, rfl, hp, rfl⟩
        | 1, hd => cases hd; exact ⟨qs, rfl, hq, rfl⟩
      refine LG.name ?_
      refine LS.for (LI.tup ?_)
      walk_at "sxn"
      refine ⟨fun i ρ s => ∃ (g : Rat) (e5 e6 : Option D), (g = (((turns rs).take i).map (·.1)).foldl (lstep t) f ∧ Fit 400 g) ∧ ρ = [some (tb T.C_Timetable ps), some (tb T.C_Timetable qs), some (fr t), some (fr g), some (tb T.C_Timetable rs), e5, e6] ∧ s = ⟨[], [], Xs⟩, ⟨f, _, _, ⟨rfl, hfit⟩, rfl, rfl⟩, fun tms i d ρ s hd2 hI => ?_, fun ρ s hI => ?_⟩
      · obtain ⟨g, e5, e6, ⟨hg, hgf⟩, rfl, rfl⟩ := hI
        obtain ⟨p, hp1, rfl⟩ := knL_get hd2
        obtain ⟨fp1, fp2⟩ := turns_fit hr (List.mem_of_getElem? hp1)
        have hstep := lstep_fit (t := t) hgf fp1
        have hnext : lstep t g p.1 = (((turns rs).take (i + 1)).map (·.1)).foldl (lstep t) f := by
          rw [take_succ_get hp1, List.map_append, List.foldl_append, ← hg]
          rfl
        refine LG.tup rfl (LGs.consN (LGs.consN (LGs.nil ?_)))
        walk_at "sxd"
        all_goals first
          | (have hst : lstep t g p.1 = p.1 := if_pos ⟨by assumption, by assumption⟩
             exact ⟨p.1, _, _, ⟨by rw [← hnext, hst], fp1⟩, rfl, rfl⟩)
          | (have hst : lstep t g p.1 = g := if_neg fun z => by first | exact absurd z.1 (by assumption) | exact absurd z.2 (by assumption)
             exact ⟨g, _, _, ⟨by rw [← hnext, hst], hgf⟩, rfl, rfl⟩)
      · obtain ⟨g, e5, e6, ⟨hg, hgf⟩, rfl, rfl⟩ := hI
        refine ⟨g, _, _, _, ⟨?_, hgf⟩, rfl, rfl⟩
        rw [knL_len, List.take_length] at hg
        rw [take_succ_get hrs, List.flatMap_append, List.map_append, List.foldl_append, ← hf, hg]
        simp
    · obtain ⟨f, e4, e5, e6, ⟨hf, hfit⟩, rfl, rfl⟩ := hI
      have e : f = Pw.lastT ps qs t := by
        rw [hf]
        unfold Pw.lastT times
        simp
      walk_at "sxn"
      rw [e]
      exact h
local macro_rules | `(tactic| walk_at "sxk") => `(tactic| ((with_reducible show S_last_turn _ _ _); refine' ⟨_, _, _, _, _, rfl, ?hp, ?hq, ?fa, ?fk, ?fn⟩; (case' hp => assumption); (case' hq => assumption); (case' fa => walk_at "fr"); (case' fk => walk_at "frk")))



def S_side_before (C : Addr) : PSp := fun ds Φ => ∃ ps qs x t, ds = [tb C ps, tb C qs, x] ∧ KS ps ∧ KS qs ∧ Fr x t 700 ∧ beg2 ps qs ≤ t ∧ Φ (.tup [fr (sideB ps qs (gapQ ps qs t) t).1, .int (sideB ps qs (gapQ ps qs t) t).2])

theorem ok_side_before (T : Tx K mg base) : FnOk P w K mg base CX0 8 T.f_side_before T.fd_side_before ["one", "other", "t"] (liftP K T.tbs (S_side_before T.C_Timetable)) := by
  refine okP T.F_side_before sc_side_before (fun ds Φ h => ?len) (by decide) (fun cdv A outer s H E hr => ⟨_, (pss_cons (ps_par (i := 3) (j := 4) rfl sc_side_before.nd rfl rfl (by decide) rfl rfl (pa_cons (pe_call (ok_gap_at T) hr (by rfl) T.g_gap_at T.F_gap_at.kp T.b_gap_at .nil pass0 (pa_cons (pv 0) (pa_cons (pv 1) (pa_cons (pv 2) pa_nil)))) (pa_cons (pe_call (ok_later_begin T) (hr.mono (by decide)) (by rfl) T.g_later_begin T.F_later_begin.kp T.b_later_begin .nil pass0 (pa_cons (pv 0) (pa_cons (pv 1) pa_nil))) pa_nil)) (by rfl))
    (pss_cons (ps_while PassesOwn.never (pt_val (pe_call (ok_is_less T) (hr.mono (by decide)) (by rfl) T.g_is_less T.F_is_less.kp T.b_is_less .nil pass0 (pa_cons (pv 4) (pa_cons (pv 2) pa_nil)))) (pss_cons (ps_set (i := 5) sc_side_before.nd rfl (.inl rfl) (pe_call (ok_last_turn T) (hr.mono (by decide)) (by rfl) T.g_last_turn T.F_last_turn.kp T.b_last_turn .nil pass0 (pa_cons (pv 0) (pa_cons (pv 1) (pa_cons (pv 2) pa_nil)))))
    (pss_cons (ps_set (i := 6) sc_side_before.nd rfl (.inl rfl) (pe_call (ok_order_of T) (hr.mono (by decide)) (by rfl) T.g_order_of T.F_order_of.kp T.b_order_of .nil pass0 (pa_cons (pe_call (ok_gap_at T) hr (by rfl) T.g_gap_at T.F_gap_at.kp T.b_gap_at .nil pass0 (pa_cons (pv 0) (pa_cons (pv 1) (pa_cons (pv 5) pa_nil)))) (pa_cons (pv 3) pa_nil))))
    (pss_cons (ps_if (pt_cmpR op_ne (pv 6) pe_int (nomark _)) (pss_one (ps_ret (pe_tup (pa_cons (pv 2) (pa_cons (pv 6) pa_nil))))) pss_nil)
    (pss_one (ps_set (i := 2) sc_side_before.nd rfl (.inl rfl) (pv 5)))))))
    (pss_one (ps_ret (pe_tup (pa_cons (pv 2) (pa_cons pe_int pa_nil))))))), fun H0 Xs ds Φ h => ?body⟩)
  case len =>
    obtain ⟨ps, qs, x, t, rfl, _⟩ := h
    rfl
  case body =>
    (try dsimp only [cxOf, L2.Cx.nox, L2.Cx.wish])
    obtain ⟨ps, qs, x, t, rfl, hp, hq, ⟨rfl, ht⟩, hb, h⟩ := h
    have hpk := hp.ok
    have hqk := hq.ok
    have fb := beg2_fit100 hp hq
    have fg := gapQ_fit7 hp hq hb ht
    walk_at "sxn"
    generalize hg : gapQ ps qs t = g at *
    refine LS.loop (fun m ρ s => ∃ (u : Rat) (e5 e6 : Option D), (m = backN ps qs u ∧ sideB ps qs g u = sideB ps qs g t ∧ beg2 ps qs ≤ u ∧ Fit 700 u) ∧ ρ = [some (tb T.C_Timetable ps), some (tb T.C_Timetable qs), some (fr u), some (fr g), some (fr (beg2 ps qs)), e5, e6] ∧ s = ⟨[], [], Xs⟩) (backN ps qs t) ⟨t, _, _, ⟨rfl, rfl, hb, ht⟩, rfl, rfl⟩ fun m ρ s hI => ?_
    obtain ⟨u, e5, e6, ⟨rfl, hsb, hbu, fu⟩, rfl, rfl⟩ := hI
    refine LT.val ?_
    walk_at "sxn"
    · rename_i hlt
      have hl := lastT_is ps qs u
      have h1 := hl.ge
      have fl := lastT_fit hp hq u
      have fl7 := fl.mono (show 100 ≤ 700 by decide)
      have fge := gapQ_fit hp hq h1 fl
      have hun := sideB.eq_1 ps qs g u
      rw [dif_pos hlt] at hun
      walk_at "sxn"
      rw [ordq_sgn]
      refine LS.seq (LS.ite (LT.test ?_))
      walk_at "sxn"
      · rename_i hz
        rw [if_pos (by simpa using hz)] at hun
        rw [← hsb, hun] at h
        exact h
      · rename_i hz
        rw [if_neg (by simpa using hz)] at hun
        refine LS.next ?_
        show LS _ _ _ _ _ _ _ _
        walk_at "sxn"
        exact ⟨_, back_lt hlt, _, _, _, ⟨rfl, hun.symm.trans hsb, h1, fl7⟩, rfl, rfl⟩
    · rename_i hlt
      have hun := sideB.eq_1 ps qs g u
      rw [dif_neg hlt] at hun
      rw [← hsb, hun] at h
      exact h
local macro_rules | `(tactic| walk_at "sxk") => `(tactic| ((with_reducible show S_side_before _ _ _); refine' ⟨_, _, _, _, rfl, ?hp, ?hq, ?fa, ?h1, ?fn⟩; (case' hp => assumption); (case' hq => assumption); (case' fa => walk_at "fr"); (case' h1 => assumption)))



def S_before_at (C : Addr) : PSp := fun ds Φ => ∃ ps qs x t d L, ds = [tb C ps, tb C qs, x, d] ∧ KS ps ∧ KS qs ∧ Fr x t 700 ∧ beg2 ps qs ≤ t ∧ Len d L ∧ (onTrack L (gapQ ps qs t) → Φ (.int (sideB ps qs (gapQ ps qs t) t).2)) ∧ (¬ onTrack L (gapQ ps qs t) → Φ .non)

theorem ok_before_at (T : Tx K mg base) : FnOk P w K mg base CX0 9 T.f_before_at T.fd_before_at ["one", "other", "t", "length"] (liftP K T.tbs (S_before_at T.C_Timetable)) := by
  refine okP T.F_before_at sc_before_at (fun ds Φ h => ?len) (by decide) (fun cdv A outer s H E hr => ⟨_, (pss_cons (ps_if (pt_not (pt_val (pe_call (ok_is_contact T) (hr.mono (by decide)) (by rfl) T.g_is_contact T.F_is_contact.kp T.b_is_contact .nil pass0 (pa_cons (pe_call (ok_gap_at T) (hr.mono (by decide)) (by rfl) T.g_gap_at T.F_gap_at.kp T.b_gap_at .nil pass0 (pa_cons (pv 0) (pa_cons (pv 1) (pa_cons (pv 2) pa_nil)))) (pa_cons (pv 3) pa_nil))))) (pss_one (ps_ret pe_non)) pss_nil)
    (pss_one (ps_ret (pe_ix ix_tup (pe_call (ok_side_before T) hr (by rfl) T.g_side_before T.F_side_before.kp T.b_side_before .nil pass0 (pa_cons (pv 0) (pa_cons (pv 1) (pa_cons (pv 2) pa_nil)))) pe_int (fun _ _ => rfl))))), fun H0 Xs ds Φ h => ?body⟩)
  case len =>
    obtain ⟨ps, qs, x, t, d, L, rfl, _⟩ := h
    rfl
  case body =>
    (try dsimp only [cxOf, L2.Cx.nox, L2.Cx.wish])
    obtain ⟨ps, qs, x, t, d, L, rfl, hp, hq, ⟨rfl, ht⟩, hb, hL, h, h2⟩ := h
    have hpk := hp.ok
    have hqk := hq.ok
    have fg := gapQ_fit7 hp hq hb ht
    refine LS.seq (LS.ite (LT.not (LT.val ?_)))
    walk_at "sxn"
    · rename_i bct hct hbt
      have hon : ¬ onTrack L (gapQ ps qs t) := fun z => by rw [hct.mpr z] at hbt; cases hbt
      exact h2 hon
    · rename_i bct hct hbt
      have hon := hct.mp hbt
      have h := h hon
      exact h
local macro_rules | `(tactic| walk_at "sxk") => `(tactic| ((with_reducible show S_before_at _ _ _); refine' ⟨_, _, _, _, _, _, rfl, ?hp, ?hq, ?fa, ?h1, ?hl, ?fn, ?fm⟩; (case' hp => assumption); (case' hq => assumption); (case' fa => walk_at "fr"); (case' h1 => assumption); (case' hl => assumption)))



@[reducible] def ldsD (C : Addr) (ls : Lds) : List (Key × D) := ls.map fun q => (.inr q.1, tb C q.2)
@[reducible] def rkD (ls : Lds) (r : Str → Int) : List (Key × D) := ls.map fun q => (.inr q.1, .int (r q.1))
theorem rankN_step {L : Option Int} {t : Rat} {ls : Lds} {q : Str × List Kn} {j : Nat} {o : Str × List Kn} (ho : ls[j]? = some o) : rankN L t (ls.take (j + 1)) q = rankN L t (ls.take j) q + (if o.1 ≠ q.1 ∧ sdQ L o.2 q.2 t < 0 then 1 else 0) := by
  unfold rankN
  rw [take_succ_get ho, List.filter_append, List.length_append]
  by_cases z : o.1 ≠ q.1 ∧ sdQ L o.2 q.2 t < 0
  · rw [if_pos z, List.filter_cons_of_pos (by simp [z.1, z.2])]
    simp
  · rw [if_neg z, List.filter_cons_of_neg (by simpa using z)]
    simp
theorem rk_put {ls : Lds} {r : Str → Int} {q : Str × List Kn} {v : Int} (h : q ∈ ls) : putD (rkD ls r) (.inr q.1) (.int v) = rkD ls fun x => if x = q.1 then v else r x := by
  rw [putD_map (nm := fun q : Str × List Kn => q.1) (List.mem_map.mpr ⟨q, h, rfl⟩)]
  refine List.map_congr_left fun p _ => ?_
  by_cases z : p.1 = q.1 <;> simp [z]
theorem names_inj {ls : Lds} (hn : (ls.map (·.1)).Nodup) {i j : Nat} {p q : Str × List Kn} (hp : ls[i]? = some p) (hq : ls[j]? = some q) (e : p.1 = q.1) : i = j := by
  obtain ⟨h1, e1⟩ := List.getElem?_eq_some_iff.mp hp
  obtain ⟨h2, e2⟩ := List.getElem?_eq_some_iff.mp hq
  have key : ∀ {i j : Nat} (hi : i < ls.length) (hj : j < ls.length), i < j → ls[i].1 ≠ ls[j].1 := fun hi hj hij => by
    have := List.pairwise_iff_getElem.mp hn _ _ (by rw [List.length_map]; exact hi) (by rw [List.length_map]; exact hj) hij
    simpa using this
  rcases Nat.lt_trichotomy i j with z | z | z
  · exact absurd (by rw [e1, e2, e]) (key h1 h2 z)
  · exact z
  · exact absurd (by rw [e1, e2, e]) (key h2 h1 z)
def S_ordered (C : Addr) : PSp := fun ds Φ => ∃ ls x t d L, ds = [.dct (ldsD C ls), x, d] ∧ ls.length ≤ 12 ∧ (ls.map (·.1)).Nodup ∧ (∀ q ∈ ls, KS q.2 ∧ fst0 q.2 ≤ t) ∧ Fr x t 700 ∧ Len d L ∧ (∀ p ∈ ls, ∀ q ∈ ls, p.1 ≠ q.1 → sdQ L p.2 q.2 t ≠ 0) ∧ Φ (.lst ((ls.mergeSort fun a b => decide (rankN L t ls a ≤ rankN L t ls b)).map fun q => .str q.1))
local macro_rules | `(tactic| walk_at "sxA") => `(tactic| with_reducible refine LA.consD (te := tLkE (tDc _ _ _ _ (tC (V.int 0)) _)) ?_)

theorem ok_ordered (T : Tx K mg base) : FnOk P w K mg base CX0 10 T.f_ordered T.fd_ordered ["tables", "t", "length"] (liftP K T.tbs (S_ordered T.C_Timetable)) := by
  obtain ⟨oc__law_error, od__law_error, kV__law_error, dc__law_error, pm__law_error, an__law_error, cd__law_error, ct__law_error, sl__law_error, e__law_error, lk__law_error, hc__law_error⟩ := T.F__law_error.ex
  have b__law_error := T.b__law_error
  rw [e__law_error] at lk__law_error b__law_error
  refine okPL T.L_ordered sc_ordered (fun ds Φ h => ?len) (by decide) (fun A outer s H E hr => ⟨_, (pss_cons (ps_asg (pe_tup (pa_cons (pe_lk (pe_dc (own := [("name", 5)]) (by rfl) sc_ordered.nd (pi_keys (pv 0)) (blkOk_by (own := [("name", 5)]) (N := N_ordered) (sc := defScope s_ordered) (by decide +kernel)) (fun _ _ _ _ _ => (pg_name (i := 5) sc_ordered.nd rfl (.inl rfl))) (fun _ _ _ _ _ => pts_nil) (fun _ _ _ _ _ => (pv 5)) (fun _ _ _ _ _ => (pe_call (ok_spot_of T) (hr.mono (by decide)) (by rfl) T.g_spot_of T.F_spot_of.kp T.b_spot_of .nil pass0 (pa_cons (pe_meth (pe_dget (hu_of hr) (pv 0) (pv 5) (fun _ _ => rfl)) T.c_Timetable T.m_Timetable_at (ok_Timetable_at T) (hr.mono (by decide)) T.b_Timetable_at .nil pass0 (pa_cons (pv 1) pa_nil)) (pa_cons (pv 2) pa_nil)))))) (pa_cons (pe_lk (pe_dc (own := [("name", 5)]) (by rfl) sc_ordered.nd (pi_keys (pv 0)) (blkOk_by (own := [("name", 5)]) (N := N_ordered) (sc := defScope s_ordered) (by decide +kernel)) (fun _ _ _ _ _ => (pg_name (i := 5) sc_ordered.nd rfl (.inl rfl))) (fun _ _ _ _ _ => pts_nil) (fun _ _ _ _ _ => (pv 5)) (fun _ _ _ _ _ => pe_int))) pa_nil))) (pg_tup rfl (pgs_cons (pg_name (i := 3) sc_ordered.nd rfl (.inl rfl)) (pgs_cons (pg_name (i := 4) sc_ordered.nd rfl (.inr rfl)) pgs_nil))))
    (pss_cons (ps_lk (ps_for PassesOwn.never rfl (pi_keys (pv 0)) (pg_name (i := 5) sc_ordered.nd rfl (.inl rfl)) (pss_one (ps_lk (ps_for PassesOwn.never rfl (pi_keys (pv 0)) (pg_name (i := 6) sc_ordered.nd rfl (.inl rfl)) (pss_one (ps_if (pt_cmpR op_ne (pv 6) (pv 5) (nomark _)) (pss_cons (ps_set (i := 7) sc_ordered.nd rfl (.inl rfl) (pe_call (ok_order_of T) (hr.mono (by decide)) (by rfl) T.g_order_of T.F_order_of.kp T.b_order_of .nil pass0 (pa_cons (pe_dget (hu_of hr) (pv 3) (pv 6) (fun _ _ => rfl)) (pa_cons (pe_dget (hu_of hr) (pv 3) (pv 5) (fun _ _ => rfl)) pa_nil))))
    (pss_cons (ps_if (pt_cmpR op_eq (pv 7) pe_int (nomark _)) (pss_one (ps_set (i := 7) sc_ordered.nd rfl (.inl rfl) (pe_call (ok_before_at T) hr (by rfl) T.g_before_at T.F_before_at.kp T.b_before_at .nil pass0 (pa_cons (pe_dget (hu_of hr) (pv 0) (pv 6) (fun _ _ => rfl)) (pa_cons (pe_dget (hu_of hr) (pv 0) (pv 5) (fun _ _ => rfl)) (pa_cons (pv 1) (pa_cons (pv 2) pa_nil))))))) pss_nil)
    (pss_cons (ps_if (pt_cmpR op_eq (pv 7) pe_int (nomark _)) (pss_one ps_dead) pss_nil)
    (pss_one (ps_daug (hu_of hr) (pv 4) (pv 5) (pe_callTy call_int1 (by rfl) T.z_int (by decide +kernel) (pa_cons (pe_cmpR op_lt (pv 7) pe_int (nomark _)) pa_nil)) in_add (fun _ _ _ => rfl)))))) pss_nil)))))))
    (pss_one (ps_ret (pe_sortedD (T := T.tbs) (KR := krRank 4) (c := T.c_ordered) (P := T.P_ordered) (k := 1) (p := "name") (by rfl) T.z_sorted (by decide +kernel) T.TB_ordered rfl T.mem_ordered (fun p hp e => T.tu p hp (T.P_ordered, lamQ "ordered") T.mem_ordered e) (hr.mono (by decide)) (lamP_by (sc := defScope s_ordered) (by decide +kernel)) rfl (fun _ _ _ _ _ _ => rfl) (key_rank (ir := 4) (lamP_by (sc := defScope s_ordered) (by decide +kernel)) rfl (by decide +kernel)) (pa_cons (pv 0) pa_nil)))))), fun H0 Xs ds Φ h => ?body⟩)
  case len =>
    obtain ⟨ls, x, t, d, L, rfl, _⟩ := h
    rfl
  case body =>
    (try dsimp only [cxOf, L2.Cx.nox, L2.Cx.wish])
    obtain ⟨ls, x, t, d, L, rfl, hl, hn, hk, ⟨rfl, ht⟩, hL, hne, h⟩ := h
    have late1 : ∀ q ∈ ls, Late q.2 t := fun q hq => fun p hp => by
      have := (hk q hq).2
      rw [fst0_at hp] at this
      exact this
    have fpos : ∀ q ∈ ls, Fit 2000 (posQ q.2 t) := fun q hq => (posQ_fitP (hk q hq).1.ok (late1 q hq) (hk q hq).1.sm ht).mono (by decide)
    walk_at "sxn"
    refine LE.ofD (LED.dcFD Tg.name DWalk.keys rfl (by intro x hx; cases hx) ⟨fun i => (ls.take i).map fun q => (.inr q.1, fr (spotQ L (posQ q.2 t))), by rw [keysD_len]; omega, rfl, fun H0' tms p i d hd => ?_, ?_⟩)
    · obtain ⟨q, hq, rfl⟩ := keysD_get hd
      have hqm := List.mem_of_getElem? hq
      have hq1 := (hk q hqm).1.ok
      have hq2 := late1 q hqm
      have hq3 := fpos q hqm
      walk_at "sxn"
      refine ⟨_, .inr q.1, _, rfl, rfl, valD_map hn hqm, ?_⟩
      walk_at "sxn"
      exact ⟨.inr q.1, rfl, rfl, (putD_step (nm := fun q : Str × List Kn => q.1) (f := fun q => fr (spotQ L (posQ q.2 t))) hn hq).symm⟩
    · dsimp only
      rw [keysD_len, List.take_length]
      walk_at "sxn"
      refine LED.dcFD Tg.name DWalk.keys rfl (by intro x hx; cases hx) ⟨fun i => rkD (ls.take i) fun _ => 0, by rw [keysD_len]; omega, rfl, fun H0' tms p i d hd => ?_, ?_⟩
      · obtain ⟨q, hq, rfl⟩ := keysD_get hd
        walk_at "sxn"
        exact ⟨.inr q.1, rfl, rfl, (putD_step (nm := fun q : Str × List Kn => q.1) (f := fun q => .int 0) hn hq).symm⟩
      · dsimp only
        rw [keysD_len, List.take_length]
        intro pa
        walk_at "sxn"
        have hLb : ∀ l, L = some l → 1 ≤ l ∧ l < 2 ^ 140 := fun l e => by
          rcases hL with ⟨_, rfl⟩ | ⟨l', _, rfl, h1, h2⟩
          · cases e
          · cases e; exact ⟨h1, h2⟩
        refine LS.forD DWalk.keys rfl (by intro x hx; cases hx) ⟨fun i ρ s => ∃ (r : Str → Int) (e5 e6 e7 : Option D), ρ = [some (.dct (ldsD T.C_Timetable ls)), some (fr t), some d, some (.dct (ls.map fun q => (.inr q.1, fr (spotQ L (posQ q.2 t))))), some (.adr pa), e5, e6, e7] ∧ s = ⟨[(pa, .dct (rkD ls r))], [], Xs⟩ ∧ (∀ k p, ls[k]? = some p → r p.1 = if k < i then rankN L t ls p else 0), ⟨fun _ => 0, _, _, _, rfl, rfl, fun k p hp => by simp⟩, fun H0' tms i dd ρ' s' hd hI => ?_, fun ρ' s' hI => ?_⟩
        · obtain ⟨r, e5, e6, e7, rfl, rfl, hr⟩ := hI
          obtain ⟨q, hq, rfl⟩ := keysD_get hd
          have hqm := List.mem_of_getElem? hq
          obtain ⟨kq, bq⟩ := hk q hqm
          refine LG.name ?_
          refine LS.forD DWalk.keys rfl (by intro x hx; cases hx) ⟨fun j ρ s => ∃ (r : Str → Int) (e6 e7 : Option D), ρ = [some (.dct (ldsD T.C_Timetable ls)), some (fr t), some d, some (.dct (ls.map fun q => (.inr q.1, fr (spotQ L (posQ q.2 t))))), some (.adr pa), some (.str q.1), e6, e7] ∧ s = ⟨[(pa, .dct (rkD ls r))], [], Xs⟩ ∧ (∀ k p, ls[k]? = some p → r p.1 = if k = i then rankN L t (ls.take j) q else if k < i then rankN L t ls p else 0), ⟨r, _, _, rfl, rfl, fun k p hp => ?_⟩, fun H0' tms j dd ρ' s' hd2 hI => ?_, fun ρ' s' hI => ?_⟩
          · rw [hr k p hp]
            by_cases z : k = i
            · rw [if_pos z, if_neg (by omega)]; rfl
            · rw [if_neg z]
          · obtain ⟨r, e6, e7, rfl, rfl, hr⟩ := hI
            obtain ⟨o, ho, rfl⟩ := keysD_get hd2
            have hom := List.mem_of_getElem? ho
            obtain ⟨ko, bo⟩ := hk o hom
            have vS : ∀ p ∈ ls, valD (ls.map fun q : Str × List Kn => (.inr q.1, fr (spotQ L (posQ q.2 t)))) (.inr p.1) = some (fr (spotQ L (posQ p.2 t))) := fun p hp => valD_map (nm := fun q : Str × List Kn => q.1) (f := fun q => fr (spotQ L (posQ q.2 t))) hn hp
            have vT : ∀ p ∈ ls, valD (ldsD T.C_Timetable ls) (.inr p.1) = some (tb T.C_Timetable p.2) := fun p hp => valD_map (nm := fun q : Str × List Kn => q.1) (f := fun q => tb T.C_Timetable q.2) hn hp
            have vR : ∀ p ∈ ls, valD (rkD ls r) (.inr p.1) = some (.int (r p.1)) := fun p hp => valD_map (nm := fun q : Str × List Kn => q.1) (f := fun q => .int (r q.1)) hn hp
            have fS : ∀ p ∈ ls, Fit 2140 (spotQ L (posQ p.2 t)) := fun p hp => spot_fit hLb (fpos p hp)
            have hst := rankN_step (L := L) (t := t) (q := q) ho
            refine LG.name ?_
            refine LS.ite (LT.test ?_)
            walk_at "sxn"
            · rename_i hne2
              have fo := fS o hom
              have fq := fS q hqm
              have hb2 : beg2 o.2 q.2 ≤ t := by
                unfold beg2
                split
                · exact bq
                · exact bo
              refine ⟨_, .inr o.1, _, rfl, rfl, vS o hom, ?_⟩
              walk_at "sxn"
              refine ⟨_, .inr q.1, _, rfl, rfl, vS q hqm, ?_⟩
              walk_at "sxn"
              rw [ordq_sgn]
              refine LS.mid (fun ρ s => ρ = [some (.dct (ldsD T.C_Timetable ls)), some (fr t), some d, some (.dct (ls.map fun q => (.inr q.1, fr (spotQ L (posQ q.2 t))))), some (.adr pa), some (.str q.1), some (.str o.1), some (.int (sdQ L o.2 q.2 t))] ∧ s = ⟨[(pa, .dct (rkD ls r))], [], Xs⟩) ?_ ?_
              · refine LS.ite (LT.test ?_)
                walk_at "sxn"
                · rename_i hz
                  have hz2 : sgn (spotQ L (posQ o.2 t)) (spotQ L (posQ q.2 t)) = 0 := by simpa using hz
                  have hon : onTrack L (gapQ o.2 q.2 t) := spot_on hz2
                  refine ⟨_, .inr o.1, _, rfl, rfl, vT o hom, ?_⟩
                  walk_at "sxn"
                  refine ⟨_, .inr q.1, _, rfl, rfl, vT q hqm, ?_⟩
                  walk_at "sxn"
                  · intro _
                    have e : sdQ L o.2 q.2 t = (sideB o.2 q.2 (gapQ o.2 q.2 t) t).2 := if_pos hz2
                    rw [e]
                    exact ⟨rfl, rfl⟩
                  · intro h; exact absurd hon h
                · rename_i hz
                  have hz2 : ¬ sgn (spotQ L (posQ o.2 t)) (spotQ L (posQ q.2 t)) = 0 := by simpa using hz
                  have e : sdQ L o.2 q.2 t = sgn (spotQ L (posQ o.2 t)) (spotQ L (posQ q.2 t)) := if_neg hz2
                  rw [e]
                  exact ⟨rfl, rfl⟩
              rintro ρ s ⟨rfl, rfl⟩
              show LS _ _ _ _ _ _ _ _
              have hsd := hne o hom q hqm hne2
              refine LS.seq (LS.ite (LT.test ?_))
              walk_at "sxn"
              refine LS.daugI (fun _ _ _ _ q => ⟨_, _, rfl, rfl, q⟩) rfl ?_
              walk_at "sxn"
              refine ⟨.inr q.1, _, _, _, _, rfl, rfl, vR q hqm, ?_⟩
              walk_at "sxn"
              refine ⟨_, _, _, _, rfl, rfl, by rw [List.length_map]; omega, ?_⟩
              rw [rk_put hqm]
              refine ⟨_, _, _, rfl, rfl, fun k p hp => ?_⟩
              by_cases z : k = i
              · subst z
                rw [hq] at hp
                cases hp
                rw [if_pos rfl, if_pos rfl, hr k q hq, if_pos rfl, hst]
                congr 1
                simp only [decide_eq_true_eq]
                by_cases y : sdQ L o.2 q.2 t < 0
                · rw [if_pos y, if_pos ⟨hne2, y⟩]
                · rw [if_neg y, if_neg fun w => y w.2]
              · rw [if_neg (fun e => z (names_inj hn hp hq e)), if_neg z, hr k p hp, if_neg z]
            · rename_i he2
              refine ⟨r, _, _, rfl, rfl, fun k p hp => ?_⟩
              rw [hr k p hp]
              by_cases z : k = i
              · subst z
                have he3 : o.1 = q.1 := by simpa using he2
                rw [if_pos rfl, if_pos rfl, hst, if_neg fun w => w.1 he3, Int.add_zero]
              · rw [if_neg z, if_neg z]
          · obtain ⟨r, e6, e7, rfl, rfl, hr⟩ := hI
            rw [keysD_len, List.take_length] at hr
            refine ⟨r, _, _, _, rfl, rfl, fun k p hp => ?_⟩
            rw [hr k p hp]
            by_cases z : k = i
            · subst z
              rw [hq] at hp
              cases hp
              rw [if_pos rfl, if_pos (by omega)]
            · rw [if_neg z]
              by_cases y : k < i
              · rw [if_pos y, if_pos (by omega)]
              · rw [if_neg y, if_neg (by omega)]
        · obtain ⟨r, e5, e6, e7, rfl, rfl, hr⟩ := hI
          rw [keysD_len] at hr
          show LS _ _ _ _ _ _ _ _
          refine LS.ret (LE.ofL (LEL.sortD (fun e => match e with | .str n => r n | _ => 0) ?_))
          walk_at "sxn"
          have hrq : ∀ q ∈ ls, r q.1 = rankN L t ls q := fun q hq => by
            obtain ⟨k, hk⟩ := List.mem_iff_getElem?.mp hq
            rw [hr k q hk, if_pos (List.getElem?_eq_some_iff.mp hk).1]
          refine ⟨by rw [List.length_map]; omega, fun σ H k o hk2 => ?_, ?_⟩
          · obtain ⟨x, hx, rfl⟩ := List.mem_map.mp hk2
            obtain ⟨q, hq, rfl⟩ := List.mem_map.mp hx
            exact kr_rankO rfl (List.mem_singleton.mpr rfl) (valD_map (nm := fun q : Str × List Kn => q.1) (f := fun q => .int (r q.1)) hn hq) o
          · have e1 : keysD (ldsD T.C_Timetable ls) = ls.map fun q => D.str q.1 := by
              unfold keysD
              rw [List.map_map]
              rfl
            rw [e1, ← List.map_mergeSort (r := fun a b => decide (rankN L t ls a ≤ rankN L t ls b)) fun a ha b hb => by
              show _ = decide (r a.1 ≤ r b.1)
              rw [hrq a ha, hrq b hb]]
            exact h
local macro_rules | `(tactic| walk_at "sxk") => `(tactic| ((with_reducible show S_ordered _ _ _); refine' ⟨_, _, _, _, _, rfl, ?hl, ?hn, ?hk, ?fa, ?hL, ?hne, ?fn⟩; (case' hl => assumption); (case' hn => assumption); (case' hk => assumption); (case' fa => walk_at "fr"); (case' hL => assumption); (case' hne => assumption)))



def R_ordered (C : Addr) : RSp := fun ds => ∃ ls x t d L, ds = [.dct (ldsD C ls), x, d] ∧ ls.length ≤ 12 ∧ (ls.map (·.1)).Nodup ∧ (∀ q ∈ ls, KS q.2 ∧ fst0 q.2 ≤ t) ∧ Fr x t 700 ∧ Len d L ∧ ∃ p ∈ ls, ∃ q ∈ ls, p.1 ≠ q.1 ∧ sdQ L p.2 q.2 t = 0
local macro_rules | `(tactic| walk_at "sxA") => `(tactic| with_reducible refine LA.consD (te := tLkE (tDc _ _ _ _ (tC (V.int 0)) _)) ?_)

theorem okr_ordered (T : Tx K mg base) : FnOk P w K mg base (L2.CX P w) 10 T.f_ordered T.fd_ordered ["tables", "t", "length"] (liftR K T.tbs T.C_NoTime (R_ordered T.C_Timetable)) := by
  refine okRU T.F_ordered sc_ordered (fun ds h => ?len) (by decide) (fun cdv A outer s H E hr => ⟨_, (pss_cons (ps_asg (pe_tup (pa_cons (pe_lk (pe_dc (own := [("name", 5)]) (by rfl) sc_ordered.nd (pi_keys (pv 0)) (blkOk_by (own := [("name", 5)]) (N := N_ordered) (sc := defScope s_ordered) (by decide +kernel)) (fun _ _ _ _ _ => (pg_name (i := 5) sc_ordered.nd rfl (.inl rfl))) (fun _ _ _ _ _ => pts_nil) (fun _ _ _ _ _ => (pv 5)) (fun _ _ _ _ _ => (pe_call (ok_spot_of T) (hr.mono (by decide)) (by rfl) T.g_spot_of T.F_spot_of.kp T.b_spot_of .nil pass0 (pa_cons (pe_meth (pe_dget (hu_of hr) (pv 0) (pv 5) (fun _ _ => rfl)) T.c_Timetable T.m_Timetable_at (ok_Timetable_at T) (hr.mono (by decide)) T.b_Timetable_at .nil pass0 (pa_cons (pv 1) pa_nil)) (pa_cons (pv 2) pa_nil)))))) (pa_cons (pe_lk (pe_dc (own := [("name", 5)]) (by rfl) sc_ordered.nd (pi_keys (pv 0)) (blkOk_by (own := [("name", 5)]) (N := N_ordered) (sc := defScope s_ordered) (by decide +kernel)) (fun _ _ _ _ _ => (pg_name (i := 5) sc_ordered.nd rfl (.inl rfl))) (fun _ _ _ _ _ => pts_nil) (fun _ _ _ _ _ => (pv 5)) (fun _ _ _ _ _ => pe_int))) pa_nil))) (pg_tup rfl (pgs_cons (pg_name (i := 3) sc_ordered.nd rfl (.inl rfl)) (pgs_cons (pg_name (i := 4) sc_ordered.nd rfl (.inr rfl)) pgs_nil)))) (pss_cons (ps_lk (ps_for (passesO rfl) rfl (pi_keys (pv 0)) (pg_name (i := 5) sc_ordered.nd rfl (.inl rfl)) (pss_one (ps_lk (ps_for (passesO rfl) rfl (pi_keys (pv 0)) (pg_name (i := 6) sc_ordered.nd rfl (.inl rfl)) (pss_one (ps_if (pt_cmpR op_ne (pv 6) (pv 5) (nomark _)) (pss_cons (ps_set (i := 7) sc_ordered.nd rfl (.inl rfl) (pe_call (ok_order_of T) (hr.mono (by decide)) (by rfl) T.g_order_of T.F_order_of.kp T.b_order_of .nil pass0 (pa_cons (pe_dget (hu_of hr) (pv 3) (pv 6) (fun _ _ => rfl)) (pa_cons (pe_dget (hu_of hr) (pv 3) (pv 5) (fun _ _ => rfl)) pa_nil))))
    (pss_cons (ps_if (pt_cmpR op_eq (pv 7) pe_int (nomark _)) (pss_one (ps_set (i := 7) sc_ordered.nd rfl (.inl rfl) (pe_call (ok_before_at T) hr (by rfl) T.g_before_at T.F_before_at.kp T.b_before_at .nil pass0 (pa_cons (pe_dget (hu_of hr) (pv 0) (pv 6) (fun _ _ => rfl)) (pa_cons (pe_dget (hu_of hr) (pv 0) (pv 5) (fun _ _ => rfl)) (pa_cons (pv 1) (pa_cons (pv 2) pa_nil))))))) pss_nil)
    (pss_cons (ps_if (pt_cmpR op_eq (pv 7) pe_int (nomark _)) (pss_one (show PS _ _ (tRaiseU H E T.C_NoTime) from ps_raise rfl (takes_unl (takes_of rfl rfl rfl rfl)) (pmk_own PySem.F.excBase_ValueError T.x_NoTime T.g_NoTime T.k_NoTime (raises_own T.b_NoTime T.t_NoTime) (by exact rfl)))) pss_nil)
    (pss_one (ps_daug (hu_of hr) (pv 4) (pv 5) (pe_callTy call_int1 (by rfl) T.z_int (by decide +kernel) (pa_cons (pe_cmpR op_lt (pv 7) pe_int (nomark _)) pa_nil)) in_add (fun _ _ _ => rfl)))))) pss_nil))))))) pss_dead)), fun H0 Xs ds hE h => ?body⟩)
  case len =>
    obtain ⟨ls, x, t, d, L, rfl, _⟩ := h
    rfl
  case body =>
    (try dsimp only [cxOf, L2.Cx.nox, L2.Cx.wish])
    obtain ⟨ls, x, t, d, L, rfl, hl, hn, hk, ⟨rfl, ht⟩, hL, pz, hpz, qz, hqz, hpq, hz0⟩ := h
    have late1 : ∀ q ∈ ls, Late q.2 t := fun q hq => fun p hp => by
      have := (hk q hq).2
      rw [fst0_at hp] at this
      exact this
    have fpos : ∀ q ∈ ls, Fit 2000 (posQ q.2 t) := fun q hq => (posQ_fitP (hk q hq).1.ok (late1 q hq) (hk q hq).1.sm ht).mono (by decide)
    walk_at "sxn"
    refine LE.ofD (LED.dcFD Tg.name DWalk.keys rfl (by intro x hx; cases hx) ⟨fun i => (ls.take i).map fun q => (.inr q.1, fr (spotQ L (posQ q.2 t))), by rw [keysD_len]; omega, rfl, fun H0' tms p i d hd => ?_, ?_⟩)
    · obtain ⟨q, hq, rfl⟩ := keysD_get hd
      have hqm := List.mem_of_getElem? hq
      have hq1 := (hk q hqm).1.ok
      have hq2 := late1 q hqm
      have hq3 := fpos q hqm
      walk_at "sxn"
      refine ⟨_, .inr q.1, _, rfl, rfl, valD_map hn hqm, ?_⟩
      walk_at "sxn"
      exact ⟨.inr q.1, rfl, rfl, (putD_step (nm := fun q : Str × List Kn => q.1) (f := fun q => fr (spotQ L (posQ q.2 t))) hn hq).symm⟩
    · dsimp only
      rw [keysD_len, List.take_length]
      walk_at "sxn"
      refine LED.dcFD Tg.name DWalk.keys rfl (by intro x hx; cases hx) ⟨fun i => rkD (ls.take i) fun _ => 0, by rw [keysD_len]; omega, rfl, fun H0' tms p i d hd => ?_, ?_⟩
      · obtain ⟨q, hq, rfl⟩ := keysD_get hd
        walk_at "sxn"
        exact ⟨.inr q.1, rfl, rfl, (putD_step (nm := fun q : Str × List Kn => q.1) (f := fun q => .int 0) hn hq).symm⟩
      · dsimp only
        rw [keysD_len, List.take_length]
        intro pa
        walk_at "sxn"
        have hLb : ∀ l, L = some l → 1 ≤ l ∧ l < 2 ^ 140 := fun l e => by
          rcases hL with ⟨_, rfl⟩ | ⟨l', _, rfl, h1, h2⟩
          · cases e
          · cases e; exact ⟨h1, h2⟩
        refine LS.seq (LS.forDR DWalk.keys rfl (by intro x hx; cases hx) hE ⟨fun i ρ s => ∃ (r : Str → Int) (e5 e6 e7 : Option D), ρ = [some (.dct (ldsD T.C_Timetable ls)), some (fr t), some d, some (.dct (ls.map fun q => (.inr q.1, fr (spotQ L (posQ q.2 t))))), some (.adr pa), e5, e6, e7] ∧ s = ⟨[(pa, .dct (rkD ls r))], [], Xs⟩ ∧ (∀ k p, k < i → ls[k]? = some p → ∀ o ∈ ls, o.1 ≠ p.1 → sdQ L o.2 p.2 t ≠ 0), ⟨fun _ => 0, _, _, _, rfl, rfl, fun k p hk => absurd hk (by omega)⟩, fun H0' tms i dd ρ' s' hE1 hd hI => ?_, fun ρ' s' hI => ?_⟩)
        · obtain ⟨r, e5, e6, e7, rfl, rfl, hr⟩ := hI
          obtain ⟨q, hq, rfl⟩ := keysD_get hd
          have hqm := List.mem_of_getElem? hq
          obtain ⟨kq, bq⟩ := hk q hqm
          refine LG.name ?_
          refine LS.forDR DWalk.keys rfl (by intro x hx; cases hx) hE1 ⟨fun j ρ s => ∃ (r : Str → Int) (e6 e7 : Option D), ρ = [some (.dct (ldsD T.C_Timetable ls)), some (fr t), some d, some (.dct (ls.map fun q => (.inr q.1, fr (spotQ L (posQ q.2 t))))), some (.adr pa), some (.str q.1), e6, e7] ∧ s = ⟨[(pa, .dct (rkD ls r))], [], Xs⟩ ∧ (∀ k o, k < j → ls[k]? = some o → o.1 ≠ q.1 → sdQ L o.2 q.2 t ≠ 0), ⟨r, _, _, rfl, rfl, fun k p hk => absurd hk (by omega)⟩, fun H0' tms j dd ρ' s' hE2 hd2 hI => ?_, fun ρ' s' hI => ?_⟩
          · obtain ⟨r, e6, e7, rfl, rfl, hj⟩ := hI
            obtain ⟨o, ho, rfl⟩ := keysD_get hd2
            have hom := List.mem_of_getElem? ho
            obtain ⟨ko, bo⟩ := hk o hom
            have vS : ∀ p ∈ ls, valD (ls.map fun q : Str × List Kn => (.inr q.1, fr (spotQ L (posQ q.2 t)))) (.inr p.1) = some (fr (spotQ L (posQ p.2 t))) := fun p hp => valD_map (nm := fun q : Str × List Kn => q.1) (f := fun q => fr (spotQ L (posQ q.2 t))) hn hp
            have vT : ∀ p ∈ ls, valD (ldsD T.C_Timetable ls) (.inr p.1) = some (tb T.C_Timetable p.2) := fun p hp => valD_map (nm := fun q : Str × List Kn => q.1) (f := fun q => tb T.C_Timetable q.2) hn hp
            have vR : ∀ p ∈ ls, valD (rkD ls r) (.inr p.1) = some (.int (r p.1)) := fun p hp => valD_map (nm := fun q : Str × List Kn => q.1) (f := fun q => .int (r q.1)) hn hp
            have fS : ∀ p ∈ ls, Fit 2140 (spotQ L (posQ p.2 t)) := fun p hp => spot_fit hLb (fpos p hp)
            refine LG.name ?_
            refine LS.ite (LT.test ?_)
            walk_at "sxn"
            · rename_i hne2
              have fo := fS o hom
              have fq := fS q hqm
              have hb2 : beg2 o.2 q.2 ≤ t := by
                unfold beg2
                split
                · exact bq
                · exact bo
              refine ⟨_, .inr o.1, _, rfl, rfl, vS o hom, ?_⟩
              walk_at "sxn"
              refine ⟨_, .inr q.1, _, rfl, rfl, vS q hqm, ?_⟩
              walk_at "sxn"
              rw [ordq_sgn]
              refine LS.mid (fun ρ s => ρ = [some (.dct (ldsD T.C_Timetable ls)), some (fr t), some d, some (.dct (ls.map fun q => (.inr q.1, fr (spotQ L (posQ q.2 t))))), some (.adr pa), some (.str q.1), some (.str o.1), some (.int (sdQ L o.2 q.2 t))] ∧ s = ⟨[(pa, .dct (rkD ls r))], [], Xs⟩) ?_ ?_
              · refine LS.ite (LT.test ?_)
                walk_at "sxn"
                · rename_i hz
                  have hz2 : sgn (spotQ L (posQ o.2 t)) (spotQ L (posQ q.2 t)) = 0 := by simpa using hz
                  have hon : onTrack L (gapQ o.2 q.2 t) := spot_on hz2
                  refine ⟨_, .inr o.1, _, rfl, rfl, vT o hom, ?_⟩
                  walk_at "sxn"
                  refine ⟨_, .inr q.1, _, rfl, rfl, vT q hqm, ?_⟩
                  walk_at "sxn"
                  · intro _
                    have e : sdQ L o.2 q.2 t = (sideB o.2 q.2 (gapQ o.2 q.2 t) t).2 := if_pos hz2
                    rw [e]
                    exact ⟨rfl, rfl⟩
                  · intro h; exact absurd hon h
                · rename_i hz
                  have hz2 : ¬ sgn (spotQ L (posQ o.2 t)) (spotQ L (posQ q.2 t)) = 0 := by simpa using hz
                  have e : sdQ L o.2 q.2 t = sgn (spotQ L (posQ o.2 t)) (spotQ L (posQ q.2 t)) := if_neg hz2
                  rw [e]
                  exact ⟨rfl, rfl⟩
              rintro ρ s ⟨rfl, rfl⟩
              show LS _ _ _ _ _ _ _ _
              refine LS.seq (LS.ite (LT.test ?_))
              walk_at "sxn"
              · exact LS.raiseU rfl hE2
              · rename_i hsd
                refine LS.daugI (fun _ _ _ _ q => ⟨_, _, rfl, rfl, q⟩) rfl ?_
                walk_at "sxn"
                refine ⟨.inr q.1, _, _, _, _, rfl, rfl, vR q hqm, ?_⟩
                walk_at "sxn"
                refine ⟨_, _, _, _, rfl, rfl, by rw [List.length_map]; omega, ?_⟩
                rw [rk_put hqm]
                refine ⟨_, _, _, rfl, rfl, fun k p hk2 hp hne3 => ?_⟩
                by_cases z : k = j
                · subst z
                  rw [ho] at hp
                  cases hp
                  simpa using hsd
                · exact hj k p (by omega) hp hne3
            · rename_i he2
              refine ⟨r, _, _, rfl, rfl, fun k p hk2 hp hne3 => ?_⟩
              by_cases z : k = j
              · subst z
                rw [ho] at hp
                cases hp
                exact absurd (by simpa using he2) hne3
              · exact hj k p (by omega) hp hne3
          · obtain ⟨r, e6, e7, rfl, rfl, hj⟩ := hI
            rw [keysD_len] at hj
            refine ⟨r, _, _, _, rfl, rfl, fun k p hk2 hp o ho hne3 => ?_⟩
            by_cases z : k = i
            · subst z
              rw [hq] at hp
              cases hp
              obtain ⟨m, hm⟩ := List.mem_iff_getElem?.mp ho
              exact hj m o (List.getElem?_eq_some_iff.mp hm).1 hm hne3
            · exact hr k p (by omega) hp o ho hne3
        · obtain ⟨r, e5, e6, e7, rfl, rfl, hr⟩ := hI
          rw [keysD_len] at hr
          obtain ⟨m, hm⟩ := List.mem_iff_getElem?.mp hqz
          exact absurd hz0 (hr m qz (List.getElem?_eq_some_iff.mp hm).1 hm pz hpz hpq)
local macro_rules | `(tactic| walk_at "sxk") => `(tactic| ((with_reducible show R_ordered _ _); refine' ⟨_, _, _, _, _, rfl, ?hl, ?hn, ?hk, ?fa, ?hL, ?hz⟩; (case' hl => assumption); (case' hn => assumption); (case' hk => assumption); (case' fa => walk_at "fr"); (case' hL => assumption); (case' hz => assumption)))
local macro_rules | `(tactic| walk_at "sxk") => `(tactic| with_reducible refine LE.callR rfl (by assumption) ?_)



def S_floor_of : PSp := fun ds Φ => ∃ x a k, ds = [x] ∧ Fr x a k ∧ k ≤ 8000 ∧ Φ (.int a.floor)

theorem ok_floor_of (T : Tx K mg base) : FnOk P w K mg base CX0 1 T.f_floor_of T.fd_floor_of ["a"] (liftP K T.tbs S_floor_of) := by
  refine okP T.F_floor_of sc_floor_of (fun ds Φ h => ?len) (by decide) (fun cdv A outer s H E hr => ⟨_, (pss_one (ps_ret (pe_op op_fdivZ (pe_ix ix_tup (pv 0) pe_int (fun _ _ => rfl)) (pe_ix ix_tup (pv 0) pe_int (fun _ _ => rfl))))), fun H0 Xs ds Φ h => ?body⟩)
  case len =>
    obtain ⟨x, a, k, rfl, _⟩ := h
    rfl
  case body =>
    (try dsimp only [cxOf, L2.Cx.nox, L2.Cx.wish])
    obtain ⟨x, a, k, rfl, ⟨rfl, ha⟩, hk, h⟩ := h
    walk_at "sxs"
    · exact ⟨den_ne a, pow_up ha.dI (by omega)⟩
    · rw [floor_eq]
      exact h
local macro_rules | `(tactic| walk_at "sxk") => `(tactic| ((with_reducible show S_floor_of _ _); refine' ⟨_, _, _, rfl, ?fa, ?fk, ?fn⟩; (case' fa => walk_at "fr"); (case' fk => walk_at "frk")))



def S_lap_of : PSp := fun ds Φ => ∃ x p k d L, ds = [x, d] ∧ Fr x p k ∧ k ≤ 6000 ∧ Len d L ∧ Φ (.int (lapO L p))

theorem ok_lap_of (T : Tx K mg base) : FnOk P w K mg base CX0 4 T.f_lap_of T.fd_lap_of ["place", "length"] (liftP K T.tbs S_lap_of) := by
  refine okP T.F_lap_of sc_lap_of (fun ds Φ h => ?len) (by decide) (fun cdv A outer s H E hr => ⟨_, (pss_one (ps_ret (pe_ifExp (pt_cmpR op_isN (pv 1) pe_non (nomark _)) pe_int (pe_call (ok_floor_of T) (hr.mono (by decide)) (by rfl) T.g_floor_of T.F_floor_of.kp T.b_floor_of .nil pass0 (pa_cons (pe_call (ok_share_of T) hr (by rfl) T.g_share_of T.F_share_of.kp T.b_share_of .nil pass0 (pa_cons (pv 0) (pa_cons (pe_tup (pa_cons (pv 1) (pa_cons pe_int pa_nil))) pa_nil))) pa_nil))))), fun H0 Xs ds Φ h => ?body⟩)
  case len =>
    obtain ⟨x, p, k, d, L, rfl, _⟩ := h
    rfl
  case body =>
    (try dsimp only [cxOf, L2.Cx.nox, L2.Cx.wish])
    obtain ⟨x, p, k, d, L, rfl, ⟨rfl, hg⟩, hk, ⟨rfl, rfl⟩ | ⟨l, rfl, rfl, h1, h2⟩, h⟩ := h
    · walk_at "sxd"
      exact h
    · have fl : Fr (.tup [.int l, .int 1]) (l : Rat) 140 := ⟨rfl, by show l.natAbs < 2 ^ 140; omega, by show 1 < 2 ^ 140; decide⟩
      have fl2 : Fit 140 (l : Rat) := fl.2
      have hz : (l : Rat) ≠ 0 := by exact_mod_cast (show l ≠ 0 by omega)
      walk_at "sxd"
      exact h
local macro_rules | `(tactic| walk_at "sxk") => `(tactic| ((with_reducible show S_lap_of _ _); refine' ⟨_, _, _, _, _, rfl, ?fa, ?fk, ?hl, ?fn⟩; (case' fa => walk_at "fr"); (case' fk => walk_at "frk"); (case' hl => assumption)))



/-- the order that is told: names on a line, names and laps on a ring -/
def ordD (L : Option Int) (t : Rat) (ls : Lds) : List D := (ls.mergeSort fun a b => decide (rankN L t ls a ≤ rankN L t ls b)).map fun q => match L with
  | none => .str q.1
  | some _ => .tup [.str q.1, .int (0 - lapO L (posQ q.2 t))]
def S_order_at (C : Addr) : PSp := fun ds Φ => ∃ ls x t d L, ds = [.dct (ldsD C ls), x, d] ∧ ls.length ≤ 12 ∧ (ls.map (·.1)).Nodup ∧ (∀ q ∈ ls, KS q.2 ∧ fst0 q.2 ≤ t) ∧ Fr x t 700 ∧ Len d L ∧ (∀ p ∈ ls, ∀ q ∈ ls, p.1 ≠ q.1 → sdQ L p.2 q.2 t ≠ 0) ∧ Φ (.lst (ordD L t ls))

theorem ok_order_at (T : Tx K mg base) : FnOk P w K mg base CX0 11 T.f_order_at T.fd_order_at ["tables", "t", "length"] (liftP K T.tbs (S_order_at T.C_Timetable)) := by
  refine okP T.F_order_at sc_order_at (fun ds Φ h => ?len) (by decide) (fun cdv A outer s H E hr => ⟨_, (pss_cons (ps_expr (pe_call (ok_need_length T) (hr.mono (by decide)) (by rfl) T.g_need_length T.F_need_length.kp T.b_need_length .nil pass0 (pa_cons (pv 2) pa_nil)))
    (pss_cons (ps_lk (ps_for PassesOwn.never rfl (pi_values (pv 0)) (pg_name (i := 3) sc_order_at.nd rfl (.inl rfl)) (pss_one (ps_if (pt_val (pe_call (ok_is_less T) (hr.mono (by decide)) (by rfl) T.g_is_less T.F_is_less.kp T.b_is_less .nil pass0 (pa_cons (pv 1) (pa_cons (pe_meth0 (pv 3) T.c_Timetable T.m_Timetable_begin (ok_Timetable_begin T) (hr.mono (by decide)) T.b_Timetable_begin .nil pass0) pa_nil)))) (pss_one ps_dead) pss_nil))))
    (pss_cons (ps_set (i := 4) sc_order_at.nd rfl (.inl rfl) (pe_call (ok_ordered T) hr (by rfl) T.g_ordered T.F_ordered.kp T.b_ordered .nil pass0 (pa_cons (pv 0) (pa_cons (pv 1) (pa_cons (pv 2) pa_nil)))))
    (pss_cons (ps_if (pt_cmpR op_isN (pv 2) pe_non (nomark _)) (pss_one (ps_ret (pv 4))) pss_nil)
    (pss_one (ps_ret (pe_lc (own := [("name", 5)]) (by rfl) sc_order_at.nd (pi_list (pv 4)) (blkOk_by (own := [("name", 5)]) (N := N_order_at) (sc := defScope s_order_at) (by decide +kernel)) (fun _ _ _ _ _ => (pg_name (i := 5) sc_order_at.nd rfl (.inl rfl))) (fun _ _ _ _ _ => pts_nil) (fun _ _ _ _ _ => (pe_tup (pa_cons (pv 5) (pa_cons (pe_op op_sub pe_int (pe_call (ok_lap_of T) (hr.mono (by decide)) (by rfl) T.g_lap_of T.F_lap_of.kp T.b_lap_of .nil pass0 (pa_cons (pe_meth (pe_dget (hu_of hr) (pv 0) (pv 5) (fun _ _ => rfl)) T.c_Timetable T.m_Timetable_at (ok_Timetable_at T) (hr.mono (by decide)) T.b_Timetable_at .nil pass0 (pa_cons (pv 1) pa_nil)) (pa_cons (pv 2) pa_nil)))) pa_nil))))))))))), fun H0 Xs ds Φ h => ?body⟩)
  case len =>
    obtain ⟨ls, x, t, d, L, rfl, _⟩ := h
    rfl
  case body =>
    (try dsimp only [cxOf, L2.Cx.nox, L2.Cx.wish])
    obtain ⟨ls, x, t, d, L, rfl, hl, hn, hk, ⟨rfl, ht⟩, hL, hne, h⟩ := h
    walk_at "sxn"
    refine LS.seq (LS.forD DWalk.vals rfl (by intro x hx; cases hx) ⟨fun i ρ s => ∃ (e3 e4 e5 : Option D), ρ = [some (.dct (ldsD T.C_Timetable ls)), some (fr t), some d, e3, e4, e5] ∧ s = ⟨[], [], Xs⟩, ⟨_, _, _, rfl, rfl⟩, fun H0' tms i dd ρ' s' hd hI => ?_, fun ρ' s' hI => ?_⟩)
    · obtain ⟨e3, e4, e5, rfl, rfl⟩ := hI
      obtain ⟨q, hq, rfl⟩ : ∃ q ∈ ls, dd = tb T.C_Timetable q.2 := by
        unfold valsD at hd
        rw [List.map_map, List.getElem?_map] at hd
        cases e : ls[i]? with
        | none => rw [e] at hd; cases hd
        | some q => rw [e] at hd; cases hd; exact ⟨q, List.mem_of_getElem? e, rfl⟩
      obtain ⟨kq, bq⟩ := hk q hq
      have hkq := kq.ok
      obtain ⟨p0, hp0⟩ := get_of_lt (l := q.2) (i := 0) hkq.ne
      have fq := (kq.sm p0 (List.mem_of_getElem? hp0)).1
      rw [fst0_at hp0] at bq
      refine LG.name ?_
      refine LS.ite (LT.val ?_)
      walk_at "sxn"
      exfalso
      rename_i hlt
      grind
    · obtain ⟨e3, e4, e5, rfl, rfl⟩ := hI
      show LS _ _ _ _ _ _ _ _
      refine LS.next ?_
      show LS _ _ _ _ _ _ _ _
      walk_at "sxn"
      rcases hL with ⟨rfl, rfl⟩ | ⟨l, rfl, rfl, hl1, hl2⟩
      · refine LS.seq (LS.ite (LT.test ?_))
        walk_at "sxn"
        exact h
      · have hL : Len (.int l) (some l) := .inr ⟨l, rfl, rfl, hl1, hl2⟩
        refine LS.seq (LS.ite (LT.test ?_))
        walk_at "sxn"
        have hSm : ∀ q ∈ ls.mergeSort fun a b => decide (rankN (some l) t ls a ≤ rankN (some l) t ls b), q ∈ ls := fun q hq => (List.mergeSort_perm _ _).mem_iff.mp hq
        have hSl : (ls.mergeSort fun a b => decide (rankN (some l) t ls a ≤ rankN (some l) t ls b)).length = ls.length := (List.mergeSort_perm _ _).length_eq
        unfold ordD at h
        generalize (ls.mergeSort fun a b => decide (rankN (some l) t ls a ≤ rankN (some l) t ls b)) = S at *
        refine LS.next ?_
        show LS _ _ _ _ _ _ _ _
        refine LS.ret (LE.ofL (LEL.lcF Tg.name (LI.list ?_)))
        walk_at "sxn"
        refine ⟨fun i => (S.take i).map fun q => .tup [.str q.1, .int (0 - lapO (some l) (posQ q.2 t))], by rw [List.length_map]; omega, rfl, fun tms p i dd hd => ?_, ?_⟩
        · rw [List.getElem?_map] at hd
          cases hq : S[i]? with
          | none => rw [hq] at hd; cases hd
          | some q =>
            rw [hq] at hd
            cases hd
            have hqm := hSm q (List.mem_of_getElem? hq)
            obtain ⟨kq, bq⟩ := hk q hqm
            have hkq := kq.ok
            have lq : Late q.2 t := fun p hp => by
              rw [fst0_at hp] at bq
              exact bq
            have fq : Fit 2000 (posQ q.2 t) := (posQ_fitP hkq lq kq.sm ht).mono (by decide)
            walk_at "sxn"
            refine ⟨_, .inr q.1, _, rfl, rfl, valD_map (nm := fun q : Str × List Kn => q.1) (f := fun q => tb T.C_Timetable q.2) hn hqm, ?_⟩
            walk_at "sxn"
            refine ⟨rfl, ?_⟩
            dsimp only
            rw [take_succ_get hq, List.map_append]
            rfl
        · rw [List.length_map]
          dsimp only
          rw [List.take_length]
          exact h
local macro_rules | `(tactic| walk_at "sxk") => `(tactic| ((with_reducible show S_order_at _ _ _); refine' ⟨_, _, _, _, _, rfl, ?hl, ?hn, ?hk, ?fa, ?hL, ?hne, ?fn⟩; (case' hl => assumption); (case' hn => assumption); (case' hk => assumption); (case' fa => walk_at "fr"); (case' hL => assumption); (case' hne => assumption)))



def R_order_at (C : Addr) : RSp := fun ds => ∃ ls x t d, ds = [.dct (ldsD C ls), x, d] ∧ Fr x t 700 ∧ BadLen d

theorem okr_order_at (T : Tx K mg base) : FnOk P w K mg base (L2.CX P w) 11 T.f_order_at T.fd_order_at ["tables", "t", "length"] (liftR K T.tbs T.C_NoTrack (R_order_at T.C_Timetable)) := by
  refine okR T.F_order_at sc_order_at (fun ds h => ?len) (by decide) (fun cdv A outer s H E hr => ⟨_, (pss_cons (ps_expr (pe_call (okr_need_length T) (hr.mono (by decide)) (by rfl) T.g_need_length T.F_need_length.kp T.b_need_length .nil (passR (E := E) rfl rfl rfl rfl) (pa_cons (pv 2) pa_nil))) pss_dead), fun H0 Xs ds hE h => ?body⟩)
  case len =>
    obtain ⟨ls, x, t, d, rfl, _⟩ := h
    rfl
  case body =>
    (try dsimp only [cxOf, L2.Cx.nox, L2.Cx.wish])
    obtain ⟨ls, x, t, d, rfl, ⟨rfl, ht⟩, hb⟩ := h
    walk_at "sxn"



def Q_order_at (C : Addr) : RSp := fun ds => ∃ ls x t d L, ds = [.dct (ldsD C ls), x, d] ∧ ls.length ≤ 12 ∧ (∀ q ∈ ls, KS q.2) ∧ Fr x t 700 ∧ Len d L ∧ ∃ q ∈ ls, t < fst0 q.2

theorem okq_order_at (T : Tx K mg base) : FnOk P w K mg base (L2.CX P w) 11 T.f_order_at T.fd_order_at ["tables", "t", "length"] (liftR K T.tbs T.C_NoTime (Q_order_at T.C_Timetable)) := by
  refine okRU T.F_order_at sc_order_at (fun ds h => ?len) (by decide) (fun cdv A outer s H E hr => ⟨_, (pss_cons (ps_expr (pe_call (ok_need_length T) (hr.mono (by decide)) (by rfl) T.g_need_length T.F_need_length.kp T.b_need_length .nil pass0 (pa_cons (pv 2) pa_nil))) (pss_cons (ps_lk (ps_for (passesO rfl) rfl (pi_values (pv 0)) (pg_name (i := 3) sc_order_at.nd rfl (.inl rfl)) (pss_one (ps_if (pt_val (pe_call (ok_is_less T) (hr.mono (by decide)) (by rfl) T.g_is_less T.F_is_less.kp T.b_is_less .nil pass0 (pa_cons (pv 1) (pa_cons (pe_meth0 (pv 3) T.c_Timetable T.m_Timetable_begin (ok_Timetable_begin T) (hr.mono (by decide)) T.b_Timetable_begin .nil pass0) pa_nil)))) (pss_one (show PS _ _ (tRaiseU H E T.C_NoTime) from ps_raise rfl (takes_unl (takes_of rfl rfl rfl rfl)) (pmk_own PySem.F.excBase_ValueError T.x_NoTime T.g_NoTime T.k_NoTime (raises_own T.b_NoTime T.t_NoTime) (by exact rfl)))) pss_nil)))) pss_dead)), fun H0 Xs ds hE h => ?body⟩)
  case len =>
    obtain ⟨ls, x, t, d, L, rfl, _⟩ := h
    rfl
  case body =>
    (try dsimp only [cxOf, L2.Cx.nox, L2.Cx.wish])
    obtain ⟨ls, x, t, d, L, rfl, hl, hk, ⟨rfl, ht⟩, hL, qz, hqz, hlt⟩ := h
    walk_at "sxn"
    refine LS.seq (LS.forDR DWalk.vals rfl (by intro x hx; cases hx) hE ⟨fun i ρ s => ∃ (e3 e4 e5 : Option D), ρ = [some (.dct (ldsD T.C_Timetable ls)), some (fr t), some d, e3, e4, e5] ∧ s = ⟨[], [], Xs⟩ ∧ (∀ k p, k < i → ls[k]? = some p → fst0 p.2 ≤ t), ⟨_, _, _, rfl, rfl, fun k p hk => absurd hk (by omega)⟩, fun H0' tms i dd ρ' s' hE1 hd hI => ?_, fun ρ' s' hI => ?_⟩)
    · obtain ⟨e3, e4, e5, rfl, rfl, hr⟩ := hI
      obtain ⟨q, hqi, hq, rfl⟩ : ∃ q, ls[i]? = some q ∧ q ∈ ls ∧ dd = tb T.C_Timetable q.2 := by
        unfold valsD at hd
        rw [List.map_map, List.getElem?_map] at hd
        cases e : ls[i]? with
        | none => rw [e] at hd; cases hd
        | some q => rw [e] at hd; cases hd; exact ⟨q, rfl, List.mem_of_getElem? e, rfl⟩
      have kq := hk q hq
      have hkq := kq.ok
      obtain ⟨p0, hp0⟩ := get_of_lt (l := q.2) (i := 0) hkq.ne
      have fq := (kq.sm p0 (List.mem_of_getElem? hp0)).1
      refine LG.name ?_
      refine LS.ite (LT.val ?_)
      walk_at "sxn"
      · exact LS.raiseU rfl hE1
      · rename_i hge
        refine ⟨rfl, fun k p hk2 hp => ?_⟩
        by_cases z : k = i
        · subst z
          rw [hqi] at hp
          cases hp
          rw [fst0_at hp0]
          grind
        · exact hr k p (by omega) hp
    · obtain ⟨e3, e4, e5, rfl, rfl, hr⟩ := hI
      have e : (valsD (ldsD T.C_Timetable ls)).length = ls.length := by
        unfold valsD
        rw [List.length_map, List.length_map]
      rw [e] at hr
      obtain ⟨m, hm⟩ := List.mem_iff_getElem?.mp hqz
      have := hr m qz (List.getElem?_eq_some_iff.mp hm).1 hm
      grind



def Z_order_at (C : Addr) : RSp := fun ds => ∃ ls x t d L, ds = [.dct (ldsD C ls), x, d] ∧ ls.length ≤ 12 ∧ (ls.map (·.1)).Nodup ∧ (∀ q ∈ ls, KS q.2 ∧ fst0 q.2 ≤ t) ∧ Fr x t 700 ∧ Len d L ∧ ∃ p ∈ ls, ∃ q ∈ ls, p.1 ≠ q.1 ∧ sdQ L p.2 q.2 t = 0

theorem okz_order_at (T : Tx K mg base) : FnOk P w K mg base (L2.CX P w) 11 T.f_order_at T.fd_order_at ["tables", "t", "length"] (liftR K T.tbs T.C_NoTime (Z_order_at T.C_Timetable)) := by
  refine okR T.F_order_at sc_order_at (fun ds h => ?len) (by decide) (fun cdv A outer s H E hr => ⟨_, (pss_cons (ps_expr (pe_call (ok_need_length T) (hr.mono (by decide)) (by rfl) T.g_need_length T.F_need_length.kp T.b_need_length .nil pass0 (pa_cons (pv 2) pa_nil))) (pss_cons (ps_lk (ps_for (passesO rfl) rfl (pi_values (pv 0)) (pg_name (i := 3) sc_order_at.nd rfl (.inl rfl)) (pss_one (ps_if (pt_val (pe_call (ok_is_less T) (hr.mono (by decide)) (by rfl) T.g_is_less T.F_is_less.kp T.b_is_less .nil pass0 (pa_cons (pv 1) (pa_cons (pe_meth0 (pv 3) T.c_Timetable T.m_Timetable_begin (ok_Timetable_begin T) (hr.mono (by decide)) T.b_Timetable_begin .nil pass0) pa_nil)))) (pss_one ps_dead) pss_nil)))) (pss_cons (ps_set (i := 4) sc_order_at.nd rfl (.inl rfl) (pe_call (okr_ordered T) hr (by rfl) T.g_ordered T.F_ordered.kp T.b_ordered .nil (passR (E := E) rfl rfl rfl rfl) (pa_cons (pv 0) (pa_cons (pv 1) (pa_cons (pv 2) pa_nil))))) pss_dead))), fun H0 Xs ds hE h => ?body⟩)
  case len =>
    obtain ⟨ls, x, t, d, L, rfl, _⟩ := h
    rfl
  case body =>
    (try dsimp only [cxOf, L2.Cx.nox, L2.Cx.wish])
    obtain ⟨ls, x, t, d, L, rfl, hl, hn, hk, ⟨rfl, ht⟩, hL, hz⟩ := h
    walk_at "sxn"
    refine LS.seq (LS.forD DWalk.vals rfl (by intro x hx; cases hx) ⟨fun i ρ s => ∃ (e3 e4 e5 : Option D), ρ = [some (.dct (ldsD T.C_Timetable ls)), some (fr t), some d, e3, e4, e5] ∧ s = ⟨[], [], Xs⟩, ⟨_, _, _, rfl, rfl⟩, fun H0' tms i dd ρ' s' hd hI => ?_, fun ρ' s' hI => ?_⟩)
    · obtain ⟨e3, e4, e5, rfl, rfl⟩ := hI
      obtain ⟨q, hq, rfl⟩ : ∃ q ∈ ls, dd = tb T.C_Timetable q.2 := by
        unfold valsD at hd
        rw [List.map_map, List.getElem?_map] at hd
        cases e : ls[i]? with
        | none => rw [e] at hd; cases hd
        | some q => rw [e] at hd; cases hd; exact ⟨q, List.mem_of_getElem? e, rfl⟩
      obtain ⟨kq, bq⟩ := hk q hq
      have hkq := kq.ok
      obtain ⟨p0, hp0⟩ := get_of_lt (l := q.2) (i := 0) hkq.ne
      have fq := (kq.sm p0 (List.mem_of_getElem? hp0)).1
      rw [fst0_at hp0] at bq
      refine LG.name ?_
      refine LS.ite (LT.val ?_)
      walk_at "sxn"
      exfalso
      rename_i hlt
      grind
    · obtain ⟨e3, e4, e5, rfl, rfl⟩ := hI
      show LS _ _ _ _ _ _ _ _
      refine LS.next ?_
      show LS _ _ _ _ _ _ _ _
      walk_at "sxn"



def S__law_ratio : PSp := fun ds Φ => ∃ n d : Int, ds = [.int n, .int d] ∧ d ≠ 0 ∧ d.natAbs < 2 ^ 8000 ∧ Φ (fr (Rat.divInt n d))
theorem gcd_fit {n d : Int} (h : d ≠ 0) (hd : d.natAbs < 2 ^ 8000) : Int.gcd n d < 2 ^ 8999 := by
  have h1 : Int.gcd n d ≤ d.natAbs := Nat.le_of_dvd (by omega) (Nat.gcd_dvd_right ..)
  exact pow_up (Nat.lt_of_le_of_lt h1 hd) (by decide)
theorem gcd_fitI {n d : Int} (h : d ≠ 0) (hd : d.natAbs < 2 ^ 8000) (x : Int) : CDivZ x (Int.gcd n d) := by
  have h0 := gcd_pos (n := n) h
  have h1 := gcd_fit (n := n) h hd
  exact ⟨by omega, by rw [Int.natAbs_natCast]; exact h1⟩
theorem mulW_ok {i j : Int} {a b : Nat} (h1 : i.natAbs < 2 ^ a) (h2 : j.natAbs < 2 ^ b) (h : a ≤ 100000 ∧ b ≤ 100000) : CMulW i j := wide_mul (a := a + 1) (b := b + 1) (pow_up h1 (by omega)) (pow_up h2 (by omega)) (by omega) (by omega) (by omega)

theorem ok__law_ratio (T : Tx K mg base) : FnOk P w K mg base CX0 1 T.f__law_ratio T.fd__law_ratio ["n", "d"] (liftP K T.tbs S__law_ratio) := by
  refine okP T.F__law_ratio sc__law_ratio (fun ds Φ h => ?len) (by decide) (fun cdv A outer s H E hr => ⟨_, (pss_cons (ps_par (i := 2) (j := 3) rfl sc__law_ratio.nd rfl rfl (by decide) rfl rfl (pa_cons (pe_callB call_abs (by rfl) T.z_abs (by decide +kernel) (pa_cons (pv 0) pa_nil)) (pa_cons (pe_callB call_abs (by rfl) T.z_abs (by decide +kernel) (pa_cons (pv 1) pa_nil)) pa_nil)) (by rfl))
    (pss_cons (ps_while PassesOwn.never (pt_cmpR op_ne (pv 3) pe_int (nomark _)) (pss_one (ps_par (i := 2) (j := 3) rfl sc__law_ratio.nd rfl rfl (by decide) rfl rfl (pa_cons (pv 3) (pa_cons (pe_op op_mod (pv 2) (pv 3)) pa_nil)) (by rfl))))
    (pss_cons (ps_if (pt_cmpR op_lt (pv 1) pe_int (nomark _)) (pss_one (ps_set (i := 2) sc__law_ratio.nd rfl (.inl rfl) (pe_op op_sub pe_int (pv 2)))) pss_nil)
    (pss_one (ps_ret (pe_tup (pa_cons (pe_op op_fdivZ (pv 0) (pv 2)) (pa_cons (pe_op op_fdivZ (pv 1) (pv 2)) pa_nil)))))))), fun H0 Xs ds Φ h => ?body⟩)
  case len =>
    obtain ⟨n, d, rfl, _⟩ := h
    rfl
  case body =>
    (try dsimp only [cxOf, L2.Cx.nox, L2.Cx.wish])
    obtain ⟨n, d, rfl, hd0, hd, h⟩ := h
    walk_at "sxs"
    refine LS.loop (fun m ρ s' => ∃ x y : Nat, ρ = [some (.int n), some (.int d), some (.int x), some (.int y)] ∧ s' = { oth := Xs } ∧ Nat.gcd x y = Int.gcd n d ∧ m = y) d.natAbs ⟨n.natAbs, d.natAbs, rfl, rfl, rfl, rfl⟩ (fun m ρ s' hI => ?_)
    obtain ⟨x, y, rfl, rfl, hg, rfl⟩ := hI
    walk_at "sxs"
    · exact ⟨x % m, Nat.mod_lt _ (by omega), m, x % m, rfl, rfl, (gcd_turn x m).trans hg, rfl⟩
    all_goals
      have e : m = 0 := by omega
      subst e
      rw [Nat.gcd_zero_right] at hg
      subst hg
    all_goals
      have h0 := gcd_pos (n := n) hd0
      have h1 := gcd_fit (n := n) hd0 hd
      first
        | exact gcd_fitI hd0 hd _
        | exact ⟨by omega, by rw [show (0 : Int) - (Int.gcd n d : Int) = -(Int.gcd n d : Int) by omega, Int.natAbs_neg, Int.natAbs_natCast]; exact h1⟩
        | (rw [fr_make hd0 (by rw [if_neg (by assumption)])]
           exact h)
        | (rw [fr_make hd0 (by rw [if_pos (by assumption)]; omega)]
           exact h)
local macro_rules | `(tactic| walk_at "sxk") => `(tactic| ((with_reducible show S__law_ratio _ _); refine' ⟨_, _, rfl, ?f1, ?f2, ?fn⟩; (case' f1 => first | assumption | omega); (case' f2 => first | assumption | exact pow_up (k := 40) (by omega) (by decide))))



def S__law_minus : PSp := fun ds Φ => ∃ x y a b k l, ds = [x, y] ∧ Fr x a k ∧ Fr y b l ∧ k + l ≤ 7000 ∧ Φ (fr (a - b))

theorem ok__law_minus (T : Tx K mg base) : FnOk P w K mg base CX0 2 T.f__law_minus T.fd__law_minus ["a", "b"] (liftP K T.tbs S__law_minus) := by
  refine okP T.F__law_minus sc__law_minus (fun ds Φ h => ?len) (by decide) (fun cdv A outer s H E hr => ⟨_, (pss_one (ps_ret (pe_call (ok__law_ratio T) hr (by rfl) T.g__law_ratio T.F__law_ratio.kp T.b__law_ratio .nil pass0 (pa_cons (pe_op op_sub (pe_op op_mulW (pe_ix ix_tup (pv 0) pe_int (fun _ _ => rfl)) (pe_ix ix_tup (pv 1) pe_int (fun _ _ => rfl))) (pe_op op_mulW (pe_ix ix_tup (pv 1) pe_int (fun _ _ => rfl)) (pe_ix ix_tup (pv 0) pe_int (fun _ _ => rfl)))) (pa_cons (pe_op op_mulW (pe_ix ix_tup (pv 0) pe_int (fun _ _ => rfl)) (pe_ix ix_tup (pv 1) pe_int (fun _ _ => rfl))) pa_nil))))), fun H0 Xs ds Φ h => ?body⟩)
  case len =>
    obtain ⟨x, y, a, b, k, l, rfl, _⟩ := h
    rfl
  case body =>
    (try dsimp only [cxOf, L2.Cx.nox, L2.Cx.wish])
    obtain ⟨x, y, a, b, k, l, rfl, ⟨rfl, ha⟩, ⟨rfl, hb⟩, hkl, h⟩ := h
    have ha1 := pow_up ha.1 (show k ≤ 7000 by omega)
    have ha2 := pow_up ha.dI (show k ≤ 7000 by omega)
    have hb1 := pow_up hb.1 (show l ≤ 7000 by omega)
    have hb2 := pow_up hb.dI (show l ≤ 7000 by omega)
    walk_at "sxs"
    have hd := den2 ha hb hkl
    refine ⟨_, _, rfl, hd.1, pow_up hd.2 (by decide), ?_⟩
    rw [rat_sub]
    exact h
local macro_rules | `(tactic| walk_at "sxk") => `(tactic| ((with_reducible show S__law_minus _ _); refine' ⟨_, _, _, _, _, _, rfl, ?fa, ?fb, ?fk, ?fn⟩; (case' fa => walk_at "fr"); (case' fb => walk_at "fr"); (case' fk => walk_at "frk")))



def S__law_plus : PSp := fun ds Φ => ∃ x y a b k l, ds = [x, y] ∧ Fr x a k ∧ Fr y b l ∧ k + l ≤ 7000 ∧ Φ (fr (a + b))

theorem ok__law_plus (T : Tx K mg base) : FnOk P w K mg base CX0 2 T.f__law_plus T.fd__law_plus ["a", "b"] (liftP K T.tbs S__law_plus) := by
  refine okP T.F__law_plus sc__law_plus (fun ds Φ h => ?len) (by decide) (fun cdv A outer s H E hr => ⟨_, (pss_one (ps_ret (pe_call (ok__law_ratio T) hr (by rfl) T.g__law_ratio T.F__law_ratio.kp T.b__law_ratio .nil pass0 (pa_cons (pe_op op_add (pe_op op_mulW (pe_ix ix_tup (pv 0) pe_int (fun _ _ => rfl)) (pe_ix ix_tup (pv 1) pe_int (fun _ _ => rfl))) (pe_op op_mulW (pe_ix ix_tup (pv 1) pe_int (fun _ _ => rfl)) (pe_ix ix_tup (pv 0) pe_int (fun _ _ => rfl)))) (pa_cons (pe_op op_mulW (pe_ix ix_tup (pv 0) pe_int (fun _ _ => rfl)) (pe_ix ix_tup (pv 1) pe_int (fun _ _ => rfl))) pa_nil))))), fun H0 Xs ds Φ h => ?body⟩)
  case len =>
    obtain ⟨x, y, a, b, k, l, rfl, _⟩ := h
    rfl
  case body =>
    (try dsimp only [cxOf, L2.Cx.nox, L2.Cx.wish])
    obtain ⟨x, y, a, b, k, l, rfl, ⟨rfl, ha⟩, ⟨rfl, hb⟩, hkl, h⟩ := h
    have ha1 := pow_up ha.1 (show k ≤ 7000 by omega)
    have ha2 := pow_up ha.dI (show k ≤ 7000 by omega)
    have hb1 := pow_up hb.1 (show l ≤ 7000 by omega)
    have hb2 := pow_up hb.dI (show l ≤ 7000 by omega)
    walk_at "sxs"
    have hd := den2 ha hb hkl
    refine ⟨_, _, rfl, hd.1, pow_up hd.2 (by decide), ?_⟩
    rw [rat_add]
    exact h
local macro_rules | `(tactic| walk_at "sxk") => `(tactic| ((with_reducible show S__law_plus _ _); refine' ⟨_, _, _, _, _, _, rfl, ?fa, ?fb, ?fk, ?fn⟩; (case' fa => walk_at "fr"); (case' fb => walk_at "fr"); (case' fk => walk_at "frk")))



theorem filt_snoc (f : Int → Bool) (l : List Int) (x : Int) : (l ++ [x]).filter f = l.filter f ++ (if f x then [x] else []) := by
  rw [List.filter_append, List.filter_cons]
  rfl
theorem take_snoc {ns : List Int} {i : Nat} {x : Int} (h : ns[i]? = some x) : ns.take (i + 1) = ns.take i ++ [x] := by
  rw [List.take_add_one, h]
  rfl

theorem ok__law_begun (T : Tx K mg base) : FnOk P w K mg base CX0 1 T.f__law_begun T.fd__law_begun ["script"] (liftB K) := by
  refine T.F__law_begun.ok sc__law_begun (fun vs H Q E h => ?_) (fun cdv A outer s H vs Q E hr h => ?_)
  · obtain ⟨Xs, ns, _, _, h, _⟩ := h
    rw [h.length]
    rfl
  · obtain ⟨Xs, ns, hnd, hmu, hds, hl, q⟩ := h
    obtain ⟨v, rfl, hv⟩ := IsL.one hds
    obtain ⟨a, rfl, hs⟩ := scr_sq hv
    refine ⟨_, (pss_cons (ps_setLc (i := 1) (own := [("cell", 2)]) (by rfl) sc__law_begun.nd rfl rfl (sw_true rfl rfl rfl (by decide +kernel)) (pi_list (pv 0)) (blkOk_by (own := [("cell", 2)]) (N := N__law_begun) (sc := defScope s__law_begun) (by decide +kernel)) (fun _ _ _ _ _ => (pg_name (i := 2) sc__law_begun.nd rfl (.inl rfl))) (fun _ _ _ _ _ => (pts_one (pt_cmpR op_ge (pv 2) (pe_op op_pow pe_int pe_int) (nomark _)))) (fun _ _ _ _ _ => (pe_op op_sub (pv 2) (pe_op op_pow pe_int pe_int))))
      (pss_one (ps_ret (pe_disp (pps_cons pe_str (pv 1) (pps_cons pe_str (pe_callTy call_list_of (by rfl) T.z_list (by decide +kernel) (pa_cons (pv 0) pa_nil)) (pps_cons pe_str pe_int (pps_cons pe_str pe_int pps_nil)))) (by rfl) (by rfl) (fun z => by cases z) (by decide))))), ?_⟩
    refine ⟨.ref a, rfl, a, rfl, ⟨_, hs⟩, fun B nB => ?_⟩
    refine lc_list (K := K) (a := a) (xs := ns.map V.int) (fun i H' => Same H H' ∧ H' B = some (.lst ((((ns.take i).filter fun z => decide (10 ^ 18 ≤ z)).map fun z => z - 10 ^ 18).map V.int))) ⟨Same.new nB, by rw [upd_same, List.take_zero]; rfl⟩ (fun i H' _ p => p.1.seq hs) (fun i x H' hx p => ?_) (fun H1 p => ?_)
    · rw [List.getElem?_map] at hx
      cases e : ns[i]? with
      | none => rw [e] at hx; cases hx
      | some z =>
        rw [e] at hx
        cases hx
        refine ⟨rfl, ?_⟩
        refine ⟨.int z, rfl, 10, 18, rfl, rfl, ⟨by decide, by decide, by decide⟩, z, _, rfl, rfl, _, rfl, ?_⟩
        show if decide ((10 : Int) ^ (18 : Int).toNat ≤ z) = true then _ else _
        have e10 : ((18 : Int).toNat) = 18 := rfl
        rw [e10]
        have ht := take_snoc e
        refine ite2 (fun hb => ?_) (fun hb => ?_)
        · refine ⟨.int z, rfl, 10, 18, rfl, rfl, ⟨by decide, by decide, by decide⟩, z, _, rfl, rfl, _, p.2, ?_, ?_, ?_⟩
          · rw [List.length_map, List.length_map]
            exact Nat.lt_of_le_of_lt (List.length_filter_le _ _) (small1000 (by rw [List.length_take]; omega))
          · intro b o hb
            rw [upd_ne (ne_of_none hb nB)]
            exact p.1 b o hb
          · rw [upd_same, ht, filt_snoc, if_pos hb, List.map_append, List.map_append]
            rfl
        · refine ⟨p.1, ?_⟩
          rw [ht, filt_snoc, if_neg hb, List.append_nil]
          exact p.2
    · obtain ⟨s1, hB⟩ := p
      rw [List.length_map, List.take_length] at hB
      -- the dict
      intro p np
      have npB : B ≠ p := ne_of_none hB np
      refine ⟨.ref B, rfl, ?_⟩
      have hs1 : SqL K (upd H1 p (.dK [])) a (ns.map V.int) := (s1.trans (Same.new np)).seq hs
      refine ⟨.ref a, rfl, a, _, rfl, .inl hs1, fun C nC => ?_⟩
      have npC : p ≠ C := fun e => by rw [e, upd_same] at nC; cases nC
      have nC1 : H1 C = none := by rw [upd_ne npC.symm] at nC; exact nC
      have nBC : B ≠ C := ne_of_none hB nC1
      have h2p : (upd (upd H1 p (.dK [])) C (.lst (ns.map V.int))) p = some (.dK []) := by rw [upd_ne npC, upd_same]
      refine ⟨h2p, [(.inr "large", .ref B), (.inr "cells", .ref C), (.inr "rest", .int 0), (.inr "turn", .int 0)], rfl, by simp, ?_⟩
      refine q p B C _ (fun b o hb => ?_) (s1.free np) nB (s1.free nC1) ?_ ⟨(ns.filter fun z => decide (10 ^ 18 ≤ z)).map fun z => z - 10 ^ 18, ns, 0, 0, ?_, ?_, ?_, fun x hx => ?_, fun _ _ => trivial, hl, by decide, by decide, (by show (0 : Int) + ((2 ^ 39 : Nat) : Int) ≤ 2 ^ 40; decide)⟩
      · have h1 := s1 _ _ hb
        rw [upd_ne (ne_of_none h1 np), upd_ne (ne_of_none h1 nC1), upd_ne (ne_of_none h1 np)]
        exact h1
      · simp only [List.nodup_cons, List.mem_cons, List.not_mem_nil, or_false, not_or, List.nodup_nil, and_true, not_false_eq_true]
        exact ⟨⟨npB.symm, npC⟩, nBC⟩
      · rw [upd_same]
        rfl
      · rw [upd_ne npB, upd_ne nBC, upd_ne npB]; exact hB
      · rw [upd_ne npC.symm, upd_same]
      · obtain ⟨z, hz, rfl⟩ := List.mem_map.mp hx
        have := (List.mem_filter.mp hz).2
        have := of_decide_eq_true this
        omega



def S__law_mixed : ESp := fun ds n Φ => ds = [] ∧ 1 ≤ n ∧ ∀ k : Int, 0 ≤ k → Φ (.int k) (n - 1)

theorem ok__law_mixed (T : Tx K mg base) : FnOk P w K mg base CX0 1 T.f__law_mixed T.fd__law_mixed ["state"] (liftE K T.tbs S__law_mixed) := by
  refine okEC T.F__law_mixed sc__law_mixed (fun ds n Φ h => ?len) (by decide) (fun cdv A outer s H E hr => ⟨_, (pss_cons (ps_dput (hu_of hr) (pv 0) pe_str (pe_op op_add (pe_dget (hu_of hr) (pv 0) pe_str (fun _ _ => rfl)) pe_int) rfl)
    (pss_cons (ps_set (i := 1) sc__law_mixed.nd rfl (.inl rfl) pe_int)
    (pss_cons (ps_for PassesOwn.never rfl (pi_list (pe_lst (pa_cons pe_int (pa_cons pe_int (pa_cons pe_int (pa_cons pe_int (pa_cons pe_int (pa_cons pe_int pa_nil)))))))) (pg_name (i := 2) sc__law_mixed.nd rfl (.inl rfl)) (pss_cons (ps_set (i := 3) sc__law_mixed.nd rfl (.inl rfl) (pe_op op_add (pe_op op_mulW pe_int (pe_dget (hu_of hr) (pv 0) pe_str (fun _ _ => rfl))) (pe_op op_fdivZ (pv 2) pe_int)))
    (pss_cons (ps_for PassesOwn.never rfl (pi_list (pe_dget (hu_of hr) (pv 0) pe_str (fun _ _ => rfl))) (pg_name (i := 4) sc__law_mixed.nd rfl (.inl rfl)) (pss_one (ps_set (i := 3) sc__law_mixed.nd rfl (.inl rfl) (pe_op op_mod (pe_op op_add (pe_op op_mulW (pv 3) pe_int) (pv 4)) (pv 2)))))
    (pss_one (ps_set (i := 1) sc__law_mixed.nd rfl (.inl rfl) (pe_op op_add (pe_op op_mulW (pv 1) pe_int) (pe_op op_mod (pe_op op_pow (pv 3) pe_int) (pv 2))))))))
    (pss_one (ps_ret (pv 1)))))), fun H0 Xs a b c n ds Φ h items hcC hcn => ?body⟩)
  case len =>
    obtain ⟨rfl, _⟩ := h
    rfl
  case body =>
    (try dsimp only [cxOf, L2.Cx.nox, L2.Cx.wish])
    obtain ⟨rfl, hn, h⟩ := h
    refine LS.seq (LS.dputT (B := b) (C := c) rfl ?_)
    refine LE.op (LE.dturn (B := b) (C := c) (n := n) rfl rfl fun t ht0 htn => ?_)
    walk_at "sxn"
    refine ⟨t + 1, n, n - 1, _, _, rfl, rfl, by omega, by omega, ?_⟩
    walk_at "sxn"
    refine LS.for (LI.list ?_)
    walk_at "sxn"
    refine ⟨fun i ρ s => ∃ (f : Int) (e2 e3 e4 : Option D), ρ = [some (.adr a), some (.int f), e2, e3, e4] ∧ s = ⟨[], [(a, b, c, n - 1)], Xs⟩ ∧ 0 ≤ f ∧ f < 2 ^ (31 * i), ⟨0, none, none, none, rfl, rfl, by decide, by decide⟩, fun tms i d ρ s hd hI => ?_, fun ρ s hI => ?_⟩
    · obtain ⟨f, e2, e3, e4, rfl, rfl, hf0, hf1⟩ := hI
      obtain ⟨p, rfl, hp0, hp1, hi⟩ : ∃ p : Int, d = .int p ∧ 0 < p ∧ p < 2147483647 ∧ i < 6 := by
        have hi := (List.getElem?_eq_some_iff.mp hd).1
        have hm := List.mem_of_getElem? hd
        simp only [List.mem_cons, List.not_mem_nil, or_false] at hm
        rcases hm with rfl | rfl | rfl | rfl | rfl | rfl
        all_goals exact ⟨_, rfl, by decide, by decide, hi⟩
      have hf2 : f < 2 ^ 155 := Int.lt_of_lt_of_le hf1 (by exact_mod_cast Nat.pow_le_pow_right (by decide) (show 31 * i ≤ 155 by omega))
      refine LG.name ?_
      refine LS.seq (LS.set ?_)
      refine LE.op (LE.op (LE.int ?_))
      refine LE.dturn (B := b) (C := c) (n := n - 1) rfl rfl fun t2 h20 h2n => ?_
      walk_at "sxn"
      · exact ⟨by decide, pow_up (k := 40) (by decide) (by decide)⟩
      obtain ⟨q7, hq7⟩ : ∃ q7, q7 = p.fdiv 7 := ⟨_, rfl⟩
      have hq70 : 0 ≤ q7 ∧ q7 < 2 ^ 32 := by
        rw [hq7, Int.fdiv_eq_ediv_of_nonneg p (by decide)]
        omega
      rw [← hq7]
      have hn40 : t2 ≤ 2 ^ 40 := by omega
      refine LS.seq (LS.forItems (W := ⟨K, H0, [a, b], [a, b, c] ++ Xs, tms, T.tbs⟩) (A := a) (B := b) (C := c) (n := n - 1) (items := items) hcC hcn rfl rfl (fun ρ s => ∃ (bl : Int) (e4 : Option D), ρ = [some (.adr a), some (.int f), some (.int p), some (.int bl), e4] ∧ s = ⟨[], [(a, b, c, n - 1)], Xs⟩ ∧ 0 ≤ bl ∧ bl < 2 ^ 60) ⟨_, _, rfl, rfl, by omega, by omega⟩ (fun z ρ s hI => ?_) fun ρ s hI => ?_)
      · obtain ⟨bl, e4, rfl, rfl, hb0, hb1⟩ := hI
        refine LG.name ?_
        walk_at "sxn"
        exact ⟨Int.emod_nonneg _ (by omega), by have := Int.emod_lt_of_pos (bl * 48271 + z) hp0; omega⟩
      · obtain ⟨bl, e4, rfl, rfl, hb0, hb1⟩ := hI
        refine LS.next ?_
        show LS _ _ _ _ _ _ _ _
        walk_at "sxn"
        · exact ⟨by decide, by decide, by omega⟩
        have e : (2 : Int) ^ (31 * (i + 1)) = 2 ^ (31 * i) * 2147483648 := by
          rw [show 31 * (i + 1) = 31 * i + 31 by omega, Int.pow_add]
          rfl
        obtain ⟨r, hr⟩ : ∃ r, r = bl ^ (5 : Int).toNat % p := ⟨_, rfl⟩
        have r0 : 0 ≤ r := by rw [hr]; exact Int.emod_nonneg _ (by omega)
        have r1 : r < p := by rw [hr]; exact Int.emod_lt_of_pos _ hp0
        refine ⟨f * 2147483647 + r, _, _, _, by rw [hr]; rfl, rfl, by omega, ?_⟩
        rw [e]
        omega
    · obtain ⟨f, e2, e3, e4, rfl, rfl, hf0, hf1⟩ := hI
      walk_at "sxn"
      exact h f hf0
local macro_rules | `(tactic| walk_at "sxk") => `(tactic| ((with_reducible show S__law_mixed _ _ _); refine ⟨rfl, by omega, ?_⟩; intro k hk0))



def S__law_take : ESp := fun ds n Φ => ∃ size : Int, ds = [.int size] ∧ 0 < size ∧ size < 2 ^ 200 ∧ 1 ≤ n ∧ ∀ k, 0 ≤ k → k < size → Φ (.int k) (n - 1)

theorem ok__law_take (T : Tx K mg base) : FnOk P w K mg base CX0 2 T.f__law_take T.fd__law_take ["state", "size"] (liftE K T.tbs S__law_take) := by
  refine okE T.F__law_take sc__law_take (fun ds n Φ h => ?len) (by decide) (fun cdv A outer s H E hr => ⟨_, (pss_cons (ps_if (pt_cmpR op_eq (pe_dget (hu_of hr) (pv 0) pe_str (fun _ _ => rfl)) pe_int (nomark _)) (pss_one (ps_dput (hu_of hr) (pv 0) pe_str (pe_ifExp (pt_cmpR (op_neD hr.units) (pe_dget (hu_of hr) (pv 0) pe_str (fun _ _ => rfl)) (pe_lst pa_nil) (nomark _)) (pe_bm PySem.F.plainAttrs_list PySem.F.slot_list_pop PySem.F.type_list_pop mt_popAt (pe_dget (hu_of hr) (pv 0) pe_str (fun _ _ => rfl)) (pa_cons pe_int pa_nil)) (pe_call (ok__law_mixed T) hr (by rfl) T.g__law_mixed T.F__law_mixed.kp T.b__law_mixed .nil pass0 (pa_cons (pv 0) pa_nil))) rfl)) pss_nil)
    (pss_cons (ps_set (i := 2) sc__law_take.nd rfl (.inl rfl) (pe_op op_mod (pe_dget (hu_of hr) (pv 0) pe_str (fun _ _ => rfl)) (pv 1)))
    (pss_cons (ps_dput (hu_of hr) (pv 0) pe_str (pe_op op_fdivZ (pe_dget (hu_of hr) (pv 0) pe_str (fun _ _ => rfl)) (pv 1)) rfl)
    (pss_one (ps_ret (pv 2)))))), fun H0 Xs a b c n ds Φ h => ?body⟩)
  case len =>
    obtain ⟨size, rfl, _⟩ := h
    rfl
  case body =>
    (try dsimp only [cxOf, L2.Cx.nox, L2.Cx.wish])
    obtain ⟨size, rfl, hs0, hs1, hn, h⟩ := h
    refine LS.seq (LS.mid (fun ρ s => ∃ m : Nat, n ≤ m + 1 ∧ ρ = [some (.adr a), some (.int size), none] ∧ s = ⟨[], [(a, b, c, m)], Xs⟩) ?_ ?_)
    · refine LS.ite (LT.test (LE.op (LE.dleft (B := b) (C := c) (n := n) rfl rfl fun l hl0 => ?_)))
      walk_at "sxn"
      · refine LS.dputL (B := b) (C := c) rfl (LE.popOr (B := b) (C := c) (n := n) (ow := []) (ot := Xs) rfl (fun x hx => ⟨x, n, n, _, _, rfl, rfl, hx, Nat.le_refl _, n, Nat.le_succ n, rfl, rfl⟩) ?_)
        walk_at "sxn"
        rename_i k hk0
        exact ⟨k, n - 1, n - 1, _, _, rfl, rfl, hk0, Nat.le_refl _, n - 1, by omega, rfl, rfl⟩
      · exact ⟨n, Nat.le_succ n, rfl, rfl⟩
    rintro _ _ ⟨m, hm, rfl, rfl⟩
    show LS _ _ _ _ _ _ _ _
    refine LS.seq (LS.set (LE.op (LE.dleft (B := b) (C := c) (n := m) rfl rfl fun l hl0 => ?_)))
    walk_at "sxn"
    refine LS.seq (LS.dputL (B := b) (C := c) rfl (LE.op (LE.dleft (B := b) (C := c) (n := m) rfl rfl fun l2 hl2 => ?_)))
    walk_at "sxn"
    · exact ⟨by omega, pow_up (k := 200) (by omega) (by decide)⟩
    refine ⟨_, m, n - 1, _, _, rfl, rfl, ?_, by omega, ?_⟩
    · rw [Int.fdiv_eq_ediv_of_nonneg _ (by omega)]
      exact Int.ediv_nonneg hl2 (by omega)
    refine LS.next ?_
    refine LS.ret ?_
    walk_at "sxn"
    exact h (l % size) (Int.emod_nonneg _ (by omega)) (Int.emod_lt_of_pos _ hs0)
local macro_rules | `(tactic| walk_at "sxk") => `(tactic| ((with_reducible show S__law_take _ _ _); refine ⟨_, rfl, by first | decide | omega, by first | decide | omega, by first | decide | omega, ?_⟩; intro k hk0 hk1))



def S__law_pick : ESp := fun ds n Φ => (∃ xs : List D, ds = [.lst xs] ∧ 0 < xs.length ∧ xs.length < 1000 ∧ 1 ≤ n ∧ ∀ d ∈ xs, Φ d (n - 1)) ∨ ∃ z : Str, ds = [.str z] ∧ 0 < z.length ∧ z.length < 1000 ∧ 1 ≤ n ∧ ∀ c ∈ z.cps.toList, Φ (.str ⟨#[c]⟩) (n - 1)
theorem atI_memG {α : Type} {ds : List α} {k : Int} (h0 : 0 ≤ k) (h1 : k < ds.length) : ∃ d, atI ds k = some d ∧ d ∈ ds := by
  have hk : k.toNat < ds.length := by omega
  refine ⟨ds[k.toNat], ?_, List.getElem_mem hk⟩
  have e : ((k.toNat : Nat) : Int) = k := by omega
  have h := atI_nat (List.getElem?_eq_getElem hk)
  rw [e] at h
  exact h

theorem ok__law_pick (T : Tx K mg base) : FnOk P w K mg base CX0 3 T.f__law_pick T.fd__law_pick ["state", "some"] (liftE K T.tbs S__law_pick) := by
  refine okE T.F__law_pick sc__law_pick (fun ds n Φ h => ?len) (by decide) (fun cdv A outer s H E hr => ⟨_, (pss_one (ps_ret (pe_ix ix_seq (pv 1) (pe_call (ok__law_take T) hr (by rfl) T.g__law_take T.F__law_take.kp T.b__law_take .nil pass0 (pa_cons (pv 0) (pa_cons (pe_callB call_len (by rfl) T.z_len (by decide +kernel) (pa_cons (pv 1) pa_nil)) pa_nil))) (fun _ _ => rfl)))), fun H0 Xs a b c n ds Φ h => ?body⟩)
  case len =>
    rcases h with ⟨xs, rfl, _⟩ | ⟨z, rfl, _⟩
    · rfl
    · rfl
  case body =>
    (try dsimp only [cxOf, L2.Cx.nox, L2.Cx.wish])
    rcases h with ⟨xs, rfl, h0, h1, hn, h⟩ | ⟨z, rfl, h0, h1, hn, h⟩
    · walk_at "sxs"
      refine CbD.len3L ?_
      walk_at "sxs"
      refine ⟨_, rfl, by omega, by omega, hn, fun k hk0 hk1 => ?_⟩
      obtain ⟨d, e1, e2⟩ := atI_memG hk0 hk1
      exact OpD.ix3L e1 ⟨n - 1, rfl, h d e2⟩
    · walk_at "sxs"
      refine CbD.len3S (by omega) ?_
      walk_at "sxs"
      refine ⟨_, rfl, by omega, by omega, hn, fun k hk0 hk1 => ?_⟩
      have hk2 : k < z.cps.toList.length := by rw [Array.length_toList]; exact hk1
      obtain ⟨d, e1, e2⟩ := atI_memG hk0 hk2
      exact OpD.ix3S (by omega) e1 ⟨n - 1, rfl, h d e2⟩
local macro_rules | `(tactic| walk_at "sxk") => `(tactic| first
  | ((with_reducible show S__law_pick [D.lst _] _ _); refine .inl ⟨_, rfl, by first | (exact Nat.lt_of_ble_eq_true rfl) | omega | simp, by first | (exact Nat.lt_of_ble_eq_true rfl) | omega | simp, by first | decide | omega, ?_⟩)
  | ((with_reducible show S__law_pick [D.str _] _ _); refine .inr ⟨_, rfl, by first | decide | omega, by first | decide | omega, by first | decide | omega, ?_⟩))



def S__law_names : ESp := fun ds n Φ => ∃ k : Nat, ds = [.int k] ∧ k ≤ 20 ∧ 10 * k ≤ n ∧ ∀ names : List Str, names.length = k → names.Nodup → (∀ x ∈ names, NameOk x) → ∀ m, n ≤ m + 10 * k → Φ (.lst (names.map D.str)) m
def LET : Str := Str.ofString "abcdefghijklmnopqrstuvwxyz"
theorem LET_eq : LET.cps.toList = (List.range 26).map (· + 97) := by decide +kernel
theorem LET_nd : LET.cps.toList.Nodup := by rw [LET_eq]; decide
theorem LET_len : LET.length = 26 := by rw [str_len, LET_eq]; rfl
theorem LET_az {c : Nat} (h : c ∈ LET.cps.toList) : 97 ≤ c ∧ c ≤ 122 := by
  rw [LET_eq] at h
  obtain ⟨i, hi, rfl⟩ := List.mem_map.mp h
  rw [List.mem_range] at hi
  omega
theorem sum_ones : ∀ cs : List Nat, (cs.map ((fun x : Str => x.length) ∘ fun c => (⟨#[c]⟩ : Str))).sum = cs.length
  | [] => rfl
  | c :: cs => by
    rw [List.map_cons, List.sum_cons, sum_ones cs, List.length_cons, Nat.add_comm]
    rfl
theorem cutS7 (x : Str) : (cutS x none (some 7)).cps.toList = x.cps.toList.take 7 := by
  unfold cutS
  have h1 : HT.sIx x.length 0 none = 0 := rfl
  have h2 : HT.sIx x.length x.length (some 7) = min 7 x.length := by
    unfold HT.sIx
    simp
  rw [h1, h2]
  show (x.cps.toList.drop 0).take (min 7 x.length - 0) = _
  rw [List.drop_zero, Nat.sub_zero, str_len, List.take_eq_take_iff]
  omega
theorem variant_ok {x : Str} {c : Nat} (hx : NameOk x) (hc : 97 ≤ c ∧ c ≤ 122) : NameOk (cutS x none (some 7) ++ (⟨#[c]⟩ : Str)) := by
  have e : (cutS x none (some 7) ++ (⟨#[c]⟩ : Str)).cps.toList = x.cps.toList.take 7 ++ [c] := by rw [str_append, cutS7]
  refine ⟨?_, ?_, ?_⟩
  · rw [str_len, e, List.length_append, List.length_singleton]; omega
  · rw [str_len, e, List.length_append, List.length_singleton, List.length_take]; omega
  · rw [e]
    intro y hy
    rcases List.mem_append.mp hy with z | z
    · exact hx.az y (List.mem_of_mem_take z)
    · rw [List.mem_singleton.mp z]; exact hc
local macro_rules | `(tactic| walk_at "sxA") => `(tactic| with_reducible refine LA.consL (LEL.lst (ta := tNil) ?_))

theorem ok__law_names (T : Tx K mg base) : FnOk P w K mg base CX0 4 T.f__law_names T.fd__law_names ["state", "many"] (liftE K T.tbs S__law_names) := by
  refine okE T.F__law_names sc__law_names (fun ds n Φ h => ?len) (by decide) (fun cdv A outer s H E hr => ⟨_, (pss_cons (ps_asg (pe_tup (pa_cons pe_str (pa_cons (pe_lst pa_nil) pa_nil))) (pg_tup rfl (pgs_cons (pg_name (i := 2) sc__law_names.nd rfl (.inr rfl)) (pgs_cons (pg_name (i := 3) sc__law_names.nd rfl (.inr rfl)) pgs_nil))))
    (pss_cons (ps_for PassesOwn.never rfl (pi_range1 (by rfl) T.z_range (pa_cons (pv 1) pa_nil)) (pg_name (i := 4) sc__law_names.nd rfl (.inl rfl)) (pss_cons (ps_set (i := 5) sc__law_names.nd rfl (.inr rfl) (pe_join pe_str (pe_lc (own := [("sign", 7)]) (by rfl) sc__law_names.nd (pi_range1 (by rfl) T.z_range (pa_cons (pe_call (ok__law_pick T) hr (by rfl) T.g__law_pick T.F__law_pick.kp T.b__law_pick .nil pass0 (pa_cons (pv 0) (pa_cons (pe_lst (pa_cons pe_int (pa_cons pe_int (pa_cons pe_int (pa_cons pe_int pa_nil))))) pa_nil))) pa_nil)) (blkOk_by (own := [("sign", 7)]) (N := N__law_names) (sc := defScope s__law_names) (by decide +kernel)) (fun _ _ _ _ _ => (pg_name (i := 7) sc__law_names.nd rfl (.inl rfl))) (fun _ _ _ _ _ => pts_nil) (fun _ _ _ _ _ => (pe_call (ok__law_pick T) hr (by rfl) T.g__law_pick T.F__law_pick.kp T.b__law_pick .nil pass0 (pa_cons (pv 0) (pa_cons (pv 2) pa_nil)))))))
    (pss_cons (ps_set (i := 6) sc__law_names.nd rfl (.inl rfl) (pe_op op_cat (pe_lst (pa_cons (pv 5) pa_nil)) (pe_lc (own := [("sign", 7)]) (by rfl) sc__law_names.nd (pi_str (pv 2)) (blkOk_by (own := [("sign", 7)]) (N := N__law_names) (sc := defScope s__law_names) (by decide +kernel)) (fun _ _ _ _ _ => (pg_name (i := 7) sc__law_names.nd rfl (.inl rfl))) (fun _ _ _ _ _ => pts_nil) (fun _ _ _ _ _ => (pe_op op_add_str (pe_slice sl_str (pv 5) po_none (po_some pe_int)) (pv 7))))))
    (pss_one (ps_expr (pe_bm PySem.F.plainAttrs_list PySem.F.slot_list_append PySem.F.type_list_append mt_append (pv 3) (pa_cons (pe_ix ix_list (pe_lc (own := [("one", 8)]) (by rfl) sc__law_names.nd (pi_list (pv 6)) (blkOk_by (own := [("one", 8)]) (N := N__law_names) (sc := defScope s__law_names) (by decide +kernel)) (fun _ _ _ _ _ => (pg_name (i := 8) sc__law_names.nd rfl (.inl rfl))) (fun _ _ _ _ _ => (pts_one (pt_cmpR (r := rIn K true) op_notIn_seq (pv 8) (pv 3) (by with_unfolding_all rfl)))) (fun _ _ _ _ _ => (pv 8))) pe_int (fun _ _ => rfl)) pa_nil)))))))
    (pss_one (ps_ret (pv 3))))), fun H0 Xs a b c n ds Φ h => ?body⟩)
  case len =>
    obtain ⟨k, rfl, _⟩ := h
    rfl
  case body =>
    (try dsimp only [cxOf, L2.Cx.nox, L2.Cx.wish])
    obtain ⟨k, rfl, hk, hn, h⟩ := h

    walk_at "sxn"
    rw [show Str.ofString "abcdefghijklmnopqrstuvwxyz" = LET from rfl]
    intro fa
    walk_at "sxn"
    refine LS.for (LI.range1 ?_)
    walk_at "sxn"
    refine ⟨by omega, by omega, fun i ρ s => ∃ (names : List Str) (e4 e5 e6 e7 e8 : Option D) (m : Nat), ρ = [some (.adr a), some (.int k), some (.str LET), some (.adr fa), e4, e5, e6, e7, e8] ∧ s = ⟨[(fa, .lst (names.map D.str))], [(a, b, c, m)], Xs⟩ ∧ names.length = i ∧ names.Nodup ∧ (∀ x ∈ names, NameOk x) ∧ n ≤ m + 10 * i, ⟨[], _, _, _, _, _, _, rfl, rfl, rfl, List.nodup_nil, (fun x hx => by cases hx), by omega⟩, fun tms i dd ρ s hd hI => ?_, fun ρ s hI => ?_⟩
    · obtain ⟨names, e4, e5, e6, e7, e8, m, rfl, rfl, hnl, hnd, hok, hm⟩ := hI
      obtain ⟨rfl, hi⟩ := rngD_get hd
      have hi20 : i < 20 := by omega
      refine LG.name ?_
      refine LS.seq (LS.mid (fun ρ s => ∃ (x : Str) (e7 : Option D) (m1 : Nat), ρ = [some (.adr a), some (.int k), some (.str LET), some (.adr fa), some (.int (0 + (i : Int))), some (.str x), e6, e7, e8] ∧ s = ⟨[(fa, .lst (names.map D.str))], [(a, b, c, m1)], Xs⟩ ∧ NameOk x ∧ m ≤ m1 + 10) ?_ ?_)
      · walk_at "sxn"
        refine ⟨⟨_, rfl⟩, LE.ofL (LEL.lc Tg.name (LI.range1 ?_))⟩
        walk_at "sxn"
        intro dj hdj
        obtain ⟨j, rfl, hj1, hj2⟩ : ∃ j : Int, dj = .int j ∧ 1 ≤ j ∧ j ≤ 8 := by
          simp only [List.mem_cons, List.not_mem_nil, or_false] at hdj
          rcases hdj with rfl | rfl | rfl | rfl
          all_goals exact ⟨_, rfl, by decide, by decide⟩
        walk_at "sxn"
        have hrl : (rngD 0 j.toNat).length = j.toNat := by unfold rngD; rw [List.length_map, List.length_range]
        refine ⟨by omega, by omega, fun i acc s2 => ∃ (cs : List Nat) (m1 : Nat), acc = cs.map (fun c => D.str ⟨#[c]⟩) ∧ cs.length = i ∧ (∀ c ∈ cs, 97 ≤ c ∧ c ≤ 122) ∧ s2 = ⟨[(fa, .lst (names.map D.str))], [(a, b, c, m1)], Xs⟩ ∧ m ≤ m1 + 1 + i, by omega, ⟨[], _, rfl, rfl, (fun x hx => by cases hx), rfl, by omega⟩, fun tms p i2 d2 acc s2 hd2 hI => ?_, fun acc s2 hI => ?_⟩
        · obtain ⟨cs, m1, rfl, hcl, haz, rfl, hm1⟩ := hI
          obtain ⟨rfl, hi2⟩ := rngD_get hd2
          have hLl := LET_len
          walk_at "sxn"
          intro z hz
          refine ⟨_, rfl, cs ++ [z], m1 - 1, by rw [List.map_append]; rfl, by rw [List.length_append, List.length_singleton, hcl], fun y hy => ?_, rfl, by omega⟩
          rcases List.mem_append.mp hy with q | q
          · exact haz y q
          · rw [List.mem_singleton.mp q]
            exact LET_az hz
        · obtain ⟨cs, m1, rfl, hcl, haz, rfl, hm1⟩ := hI
          rw [hrl] at hcl hm1
          have e1 : cs.map (fun c => D.str ⟨#[c]⟩) = (cs.map fun c => (⟨#[c]⟩ : Str)).map D.str := by rw [List.map_map]; rfl
          have e2 : ((cs.map fun c => (⟨#[c]⟩ : Str)).map (·.length)).sum = cs.length := by
            rw [List.map_map]
            exact sum_ones cs
          refine ⟨_, _, rfl, by rw [e1], ?_, ?_⟩
          · rw [e2]
            show cs.length + _ * 0 ≤ _
            omega
          · rw [show Str.ofString "" = Str.empty from rfl, Pw.join_one]
            refine ⟨_, _, _, rfl, rfl, ⟨?_, ?_, ?_⟩, by omega⟩
            · show 1 ≤ cs.toArray.size
              rw [List.size_toArray]; omega
            · show cs.toArray.size ≤ 8
              rw [List.size_toArray]; omega
            · intro y hy
              exact haz y (by simpa using hy)
      rintro ρ s ⟨x, e7, m1, rfl, rfl, hx, hm1⟩
      show LS _ _ _ _ _ _ _ _
      have hcl : (cutS x none (some 7)).length ≤ 7 := by
        rw [str_len, cutS7, List.length_take]; omega
      have hxl := hx.hi
      walk_at "sxn"
      refine LE.ofL (LEL.lcF Tg.name (LI.str ?_))
      walk_at "sxn"
      have hsl : (signsD LET).length = 26 := by unfold signsD; rw [List.length_map, LET_eq]; rfl
      refine ⟨fun i => ((variants (cutS x none (some 7)) LET.cps.toList).take i).map D.str, by omega, rfl, fun tms p i2 d2 hd2 => ?_, ?_⟩
      · obtain ⟨z, hz, rfl⟩ : ∃ z, LET.cps.toList[i2]? = some z ∧ d2 = .str ⟨#[z]⟩ := by
          unfold signsD at hd2
          rw [List.getElem?_map] at hd2
          cases e : LET.cps.toList[i2]? with
          | none => rw [e] at hd2; cases hd2
          | some z => rw [e] at hd2; cases hd2; exact ⟨z, rfl, rfl⟩
        walk_at "sxn"
        refine ⟨by omega, ?_⟩
        walk_at "sxn"
        refine OpD.addS (by show _ + 1 ≤ 1000; omega) ?_
        refine ⟨rfl, ?_⟩
        dsimp only
        have hv : (variants (cutS x none (some 7)) LET.cps.toList)[i2]? = some (cutS x none (some 7) ++ (⟨#[z]⟩ : Str)) := by unfold variants; rw [List.getElem?_map, hz]; rfl
        rw [take_succ_get hv, List.map_append]
        rfl
      have hvl : (variants (cutS x none (some 7)) LET.cps.toList).length = 26 := by unfold variants; rw [List.length_map, LET_eq]; rfl
      dsimp only
      rw [hsl, List.take_of_length_le (by omega)]
      refine OpD.cat (by rw [List.length_map]; show 1 + _ ≤ _; omega) ?_
      rw [show [D.str x] ++ (variants (cutS x none (some 7)) LET.cps.toList).map D.str = (x :: variants (cutS x none (some 7)) LET.cps.toList).map D.str from rfl]
      have hall : ∀ y ∈ x :: variants (cutS x none (some 7)) LET.cps.toList, NameOk y := fun y hy => by
        rcases List.mem_cons.mp hy with rfl | hy
        · exact hx
        · obtain ⟨z, hz, rfl⟩ := List.mem_map.mp hy
          exact variant_ok hx (LET_az hz)
      obtain ⟨w, hw1, hw2⟩ := fresh_name (base := cutS x none (some 7)) (found := names) LET_nd (by rw [LET_eq]; show names.length < 26; omega)
      have hex : ∃ y ∈ x :: variants (cutS x none (some 7)) LET.cps.toList, y ∉ names := ⟨w, List.mem_cons_of_mem _ hw1, hw2⟩
      have hal : (x :: variants (cutS x none (some 7)) LET.cps.toList).length = 27 := by rw [List.length_cons, hvl]
      generalize x :: variants (cutS x none (some 7)) LET.cps.toList = all at *
      have hnm : (names.map D.str).length = names.length := List.length_map ..
      walk_at "sxn"
      refine LE.ofL (LEL.lcF Tg.name (LI.list ?_))
      walk_at "sxn"
      refine ⟨fun i => ((all.take i).filter fun y => !decide (y ∈ names)).map D.str, by rw [List.length_map]; omega, rfl, fun tms p i2 d2 hd2 => ?_, ?_⟩
      · obtain ⟨y, hy, rfl⟩ : ∃ y, all[i2]? = some y ∧ d2 = .str y := by
          rw [List.getElem?_map] at hd2
          cases e : all[i2]? with
          | none => rw [e] at hd2; cases hd2
          | some z => rw [e] at hd2; cases hd2; exact ⟨z, rfl, rfl⟩
        refine LG.name (LT.test ?_)
        walk_at "sxn"
        refine OpD.notInO (List.mem_cons_of_mem _ (List.mem_cons_self ..)) rfl (flat_strs _) ?_
        rw [inD_str]
        refine ⟨_, rfl, fun hb => ?_, fun hb => ?_⟩
        · walk_at "sxn"
          refine ⟨rfl, ?_⟩
          dsimp only
          rw [take_succ_get hy, List.filter_append, List.map_append, List.filter_cons_of_pos (by exact hb)]
          rfl
        · refine ⟨rfl, ?_⟩
          dsimp only
          rw [take_succ_get hy, List.filter_append, List.map_append, List.filter_cons_of_neg (by rw [hb]; decide)]
          simp
      rw [List.length_map]
      dsimp only
      rw [List.take_length]
      obtain ⟨w, hw1, hw2⟩ := hex
      have hpos : 0 < (all.filter fun y => !decide (y ∈ names)).length := List.length_pos_of_mem (List.mem_filter.mpr ⟨hw1, by simp [hw2]⟩)
      obtain ⟨y, hy⟩ := get_of_lt hpos
      obtain ⟨hy1, hy2⟩ := List.mem_filter.mp (List.mem_of_getElem? hy)
      have hy3 : y ∉ names := by simpa using hy2
      walk_at "sxn"
      have e0 : ((all.filter fun y => !decide (y ∈ names)).map D.str)[0]? = some (.str y) := by rw [List.getElem?_map, hy]; rfl
      have e1 := atI_nat e0
      refine OpD.ixL (i := 0) e1 ?_
      walk_at "sxn"
      refine ⟨by omega, ?_⟩
      refine ⟨names ++ [y], _, _, _, _, _, m1, rfl, by rw [List.map_append]; rfl, by rw [List.length_append, List.length_singleton, hnl], ?_, fun z hz => ?_, by omega⟩
      · exact List.nodup_append.mpr ⟨hnd, by simp, fun a ha b hb => by
          rw [List.mem_singleton.mp hb]
          exact fun e => hy3 (e ▸ ha)⟩
      · rcases List.mem_append.mp hz with q | q
        · exact hok z q
        · rw [List.mem_singleton.mp q]
          exact hall y hy1
    · obtain ⟨names, e4, e5, e6, e7, e8, m, rfl, rfl, hnl, hnd, hok, hm⟩ := hI
      have ej : (rngD 0 (k : Int).toNat).length = k := by unfold rngD; rw [List.length_map, List.length_range]; omega
      rw [ej] at hnl hm
      show LS _ _ _ _ _ _ _ _
      refine' LS.frz 3 ?hi2 ?_
      case' hi2 => exact rfl
      walk_at "sxn"
      exact h names hnl hnd hok m hm
local macro_rules | `(tactic| walk_at "sxk") => `(tactic| ((with_reducible show S__law_names _ _ _); refine' ⟨_, rfl, ?h1, ?h2, ?fn⟩; (case' h1 => omega); (case' h2 => omega); (case' fn => intro names hnl hnd hnok m hm)))



def S_slopes_of : PSp := fun ds Φ => ∃ ps, ds = [.tup (knL ps)] ∧ KOk ps ∧ Φ (.lst ((slopes ps).map fr))

theorem ok_slopes_of (T : Tx K mg base) : FnOk P w K mg base CX0 4 T.f_slopes_of T.fd_slopes_of ["points"] (liftP K T.tbs S_slopes_of) := by
  refine okP T.F_slopes_of sc_slopes_of (fun ds Φ h => ?len) (by decide) (fun cdv A outer s H E hr => ⟨_, (pss_cons (ps_set (i := 1) sc_slopes_of.nd rfl (.inl rfl) (pe_lst pa_nil))
    (pss_cons (ps_for PassesOwn.never rfl (RZ.pi_zipA (by rfl) T.z_zip (pa_cons (pv 0) (pa_cons (pe_slice sl_tupA (pv 0) (po_some pe_int) po_none) pa_nil))) (pg_tup rfl (pgs_cons (pg_name (i := 2) sc_slopes_of.nd rfl (.inl rfl)) (pgs_cons (pg_name (i := 3) sc_slopes_of.nd rfl (.inl rfl)) pgs_nil))) (pss_one (ps_expr (pe_bm PySem.F.plainAttrs_list PySem.F.slot_list_append PySem.F.type_list_append mt_append (pv 1) (pa_cons (pe_call (ok_share_of T) hr (by rfl) T.g_share_of T.F_share_of.kp T.b_share_of .nil pass0 (pa_cons (pe_call (ok_rest_of T) hr (by rfl) T.g_rest_of T.F_rest_of.kp T.b_rest_of .nil pass0 (pa_cons (pe_ix ix_tup (pv 3) pe_int (fun _ _ => rfl)) (pa_cons (pe_ix ix_tup (pv 2) pe_int (fun _ _ => rfl)) pa_nil))) (pa_cons (pe_call (ok_rest_of T) hr (by rfl) T.g_rest_of T.F_rest_of.kp T.b_rest_of .nil pass0 (pa_cons (pe_ix ix_tup (pv 3) pe_int (fun _ _ => rfl)) (pa_cons (pe_ix ix_tup (pv 2) pe_int (fun _ _ => rfl)) pa_nil))) pa_nil))) pa_nil)))))
    (pss_one (ps_ret (pe_op op_cat (pv 1) (pe_lst (pa_cons (pe_glob (v := .ref T.a_ZERO) (by rfl) T.c_ZERO rfl) pa_nil))))))), fun H0 Xs ds Φ h => ?body⟩)
  case len =>
    obtain ⟨ps, rfl, _⟩ := h
    rfl
  case body =>
    (try dsimp only [cxOf, L2.Cx.nox, L2.Cx.wish])
    obtain ⟨ps, rfl, hp, h⟩ := h
    refine LS.seq (LS.setL (LEL.lst ?_))
    walk_at "sxn"
    intro fa
    refine LS.seq (LS.for (LI.zipT ?_))
    walk_at "sxn"
    refine ⟨fun i ρ s => (∃ e2 e3 : Option D, ρ = [some (.tup (knL ps)), some (.adr fa), e2, e3]) ∧ s = ⟨[(fa, .lst (((List.zipWith slope ps (ps.drop 1)).take i).map fr))], [], Xs⟩, ⟨⟨_, _, rfl⟩, rfl⟩, fun tms i d ρ s hd hI => ?_, fun ρ s hI => ?_⟩
    · obtain ⟨⟨e2, e3, rfl⟩, rfl⟩ := hI
      obtain ⟨p, q, hp1, hq1, rfl⟩ := nb_get hd hp.ne
      have fp := hp.mem hp1
      have fq := hp.mem hq1
      have fp1 := fp.1
      have fp2 := fp.2
      have fq1 := fq.1
      have fq2 := fq.2
      have hne := lt_ne (asc_lt hp.asc hp1 hq1)
      walk_at "sxn"
      have hl : i < (List.zipWith slope ps (ps.drop 1)).length := by
        rcases Nat.lt_or_ge i (List.zipWith slope ps (ps.drop 1)).length with z | z
        · exact z
        · have := slopes_get hp1 hq1
          rw [List.getElem?_eq_none_iff.mpr z] at this
          cases this
      refine ⟨?_, ⟨_, _, rfl⟩, ?_⟩
      · rw [List.length_map, List.length_take]
        have := hp.len
        rw [List.length_zipWith] at hl
        omega
      · rw [take_succ_get (slopes_get hp1 hq1), List.map_append]
        rfl
    · obtain ⟨⟨e2, e3, rfl⟩, rfl⟩ := hI
      refine LS.frz 1 rfl (LS.ret (LE.ofL (LEL.cat ?_)))
      walk_at "sxn"
      have hz : (List.zipWith slope ps (ps.drop 1)).length = ps.length - 1 := by
        rw [List.length_zipWith, List.length_drop]
        omega
      have hpl := hp.len
      rw [nb_len hp.ne, List.take_of_length_le (by omega)]
      refine ⟨_, _, rfl, rfl, ?_, ?_⟩
      · rw [List.length_map, List.length_singleton, hz]
        omega
      · unfold slopes at h
        rw [List.map_append] at h
        exact h
local macro_rules | `(tactic| walk_at "sxk") => `(tactic| ((with_reducible show S_slopes_of _ _); refine ⟨_, rfl, by assumption, ?_⟩))



def S_turns_of : PSp := fun ds Φ => ∃ ps, ds = [.tup (knL ps)] ∧ KOk ps ∧ Φ (.tup (knL (turns ps)))

theorem ok_turns_of (T : Tx K mg base) : FnOk P w K mg base CX0 5 T.f_turns_of T.fd_turns_of ["points"] (liftP K T.tbs S_turns_of) := by
  refine okP T.F_turns_of sc_turns_of (fun ds Φ h => ?len) (by decide) (fun cdv A outer s H E hr => ⟨_, (pss_cons (ps_set (i := 1) sc_turns_of.nd rfl (.inr rfl) (pe_call (ok_slopes_of T) hr (by rfl) T.g_slopes_of T.F_slopes_of.kp T.b_slopes_of .nil pass0 (pa_cons (pv 0) pa_nil)))
    (pss_one (ps_ret (pe_op op_catA (pe_slice sl_tupA (pv 0) po_none (po_some pe_int)) (pe_callTy call_tuple_of (by rfl) T.z_tuple (by decide +kernel) (pa_cons (pe_lc (own := [("at", 2)]) (by rfl) sc_turns_of.nd (pi_range2 (by rfl) T.z_range (pa_cons pe_int (pa_cons (pe_callB call_len_seq (by rfl) T.z_len (by decide +kernel) (pa_cons (pv 0) pa_nil)) pa_nil))) (blkOk_by (own := [("at", 2)]) (N := N_turns_of) (sc := defScope s_turns_of) (by decide +kernel)) (fun _ _ _ _ _ => (pg_name (i := 2) sc_turns_of.nd rfl (.inl rfl))) (fun _ _ _ _ _ => (pts_one (pt_cmpR (r := rNeD K) (op_neD hr.units) (pe_ix (r := rIxL K) ix_list (pv 1) (pv 2) (fun _ _ => rfl)) (pe_ix (r := rIxL K) ix_list (pv 1) (pe_op op_sub (pv 2) pe_int) (fun _ _ => rfl)) (nomark _)))) (fun _ _ _ _ _ => (pe_ix (r := rIxT K) ix_tup (pv 0) (pv 2) (fun _ _ => rfl)))) pa_nil)))))), fun H0 Xs ds Φ h => ?body⟩)
  case len =>
    obtain ⟨ps, rfl, _⟩ := h
    rfl
  case body =>
    (try dsimp only [cxOf, L2.Cx.nox, L2.Cx.wish])
    obtain ⟨ps, rfl, hp, h⟩ := h
    walk_at "sxn"
    refine LE.ofL (LEL.lcF Tg.name (LI.range2 ?_))
    walk_at "sxn"
    have hpl := hp.len
    have hp0 := hp.ne
    have hsl := slopes_len ps hp.ne
    have hkl := knL_len ps
    refine ⟨⟨by decide, by decide, by omega, by omega⟩, fun i => knL (turnsB ps i), ?_, rfl, fun tms p i d hd => ?_, ?_⟩
    · unfold rngD
      rw [List.length_map, List.length_range]
      omega
    · obtain ⟨rfl, hi⟩ := rngD_get hd
      obtain ⟨k1, hk1⟩ := get_of_lt (l := slopes ps) (i := i + 1) (by omega)
      obtain ⟨k0, hk0⟩ := get_of_lt (l := slopes ps) (i := i) (by omega)
      obtain ⟨p1, hp1⟩ := get_of_lt (l := ps) (i := i + 1) (by omega)
      rw [show (1 + (i : Int)) = ((i + 1 : Nat) : Int) by omega]
      walk_at "sxn"
      refine OpD.ixL (frL_at hk1) ?_
      walk_at "sxn"
      rw [show (((i + 1 : Nat) : Int) - 1) = (i : Int) by omega]
      refine OpD.ixL (frL_at hk0) ?_
      refine OpD.neD (show Ip 40 (fr k1) = true from rfl) (show Ip 40 (fr k0) = true from rfl) fun b hb => ?_
      have et : turnAt ps i = b := by
        unfold turnAt
        rw [hk1, hk0]
        cases b with
        | true => exact decide_eq_true (fun z => hb.mp rfl (by injection z with z; rw [z]))
        | false => exact decide_eq_false (fun z => Bool.noConfusion (hb.mpr fun y => z (by rw [fr_inj.mp y])))
      refine ⟨b, rfl, fun hb => ?_, fun hb => ?_⟩
      · walk_at "sxn"
        refine OpD.ixT (knL_at hp1) ⟨rfl, ?_⟩
        show knL (turnsB ps i ++ (if turnAt ps i then (ps[i + 1]?).toList else [])) = knL (turnsB ps i) ++ [kn p1]
        rw [et, hb, if_pos rfl, hp1]
        unfold knL
        rw [List.map_append]
        rfl
      · refine ⟨rfl, ?_⟩
        show knL (turnsB ps i ++ (if turnAt ps i then (ps[i + 1]?).toList else [])) = knL (turnsB ps i)
        rw [et, hb, if_neg (by decide), List.append_nil]
    · walk_at "sxn"
      have en : (rngD 1 (((knL ps).length : Int) - 1).toNat).length = ps.length - 1 := by
        unfold rngD
        rw [List.length_map, List.length_range]
        omega
      rw [en, cut_take1 _ (by omega)]
      refine OpD.catA ?_ ?_
      · have := turnsB_len ps (ps.length - 1)
        rw [List.length_take, knL_len, knL_len]
        omega
      · have e : (knL ps).take 1 ++ knL (turnsB ps (ps.length - 1)) = knL (turns ps) := by
          unfold turns knL
          rw [List.map_append, List.map_take]
        rw [e]
        exact h
local macro_rules | `(tactic| walk_at "sxk") => `(tactic| ((with_reducible show S_turns_of _ _); refine ⟨_, rfl, by assumption, ?_⟩))



def S_is_fraction : PSp := fun ds Φ => ∃ d, ds = [d] ∧ Okd d = true ∧ Φ (.bl (isFr d))

theorem ok_is_fraction (T : Tx K mg base) : FnOk P w K mg base CX0 2 T.f_is_fraction T.fd_is_fraction ["value"] (liftP K T.tbs S_is_fraction) := by
  refine okP T.F_is_fraction sc_is_fraction (fun ds Φ h => ?len) (by decide) (fun cdv A outer s H E hr => ⟨_, (pss_cons (ps_if (PW.pt (pw_or (pt_not (pt_val (pe_callB call_isi (by rfl) T.z_isinstance (by decide +kernel) (pa_cons (pv 0) (pa_cons (pe_bltn (v := .ty "tuple") (by rfl) T.z_tuple (by decide +kernel) rfl) pa_nil))))) (pw_or (pt_cmpR op_ne (pe_callB call_len_seq (by rfl) T.z_len (by decide +kernel) (pa_cons (pv 0) pa_nil)) pe_int (nomark _)) (pw_or (pt_not (pt_val (pe_call (ok_is_whole T) hr (by rfl) T.g_is_whole T.F_is_whole.kp T.b_is_whole .nil pass0 (pa_cons (pe_ix ix_tup (pv 0) pe_int (fun _ _ => rfl)) pa_nil)))) (pw_or1 (pt_not (pt_val (pe_call (ok_is_whole T) hr (by rfl) T.g_is_whole T.F_is_whole.kp T.b_is_whole .nil pass0 (pa_cons (pe_ix ix_tup (pv 0) pe_int (fun _ _ => rfl)) pa_nil))))))))) (pss_one (ps_ret pe_bl)) pss_nil)
    (pss_one (ps_ret (pe_and (pe_cmpR op_ge (pe_ix ix_tup (pv 0) pe_int (fun _ _ => rfl)) pe_int (nomark _)) (pe_one (pe_cmpR op_eq (pe_call (ok_common_divisor T) hr (by rfl) T.g_common_divisor T.F_common_divisor.kp T.b_common_divisor .nil pass0 (pa_cons (pe_ix ix_tup (pv 0) pe_int (fun _ _ => rfl)) (pa_cons (pe_ix ix_tup (pv 0) pe_int (fun _ _ => rfl)) pa_nil))) pe_int (nomark _))))))), fun H0 Xs ds Φ h => ?body⟩)
  case len =>
    obtain ⟨d, rfl, _⟩ := h
    rfl
  case body =>
    (try dsimp only [cxOf, L2.Cx.nox, L2.Cx.wish])
    obtain ⟨d, rfl, hd, h⟩ := h
    cases d with
    | tup ds =>
      match ds, hd, h with
      | [], hd, h => walk_at "sxs"; all_goals exact h
      | [x], hd, h =>
        have e : isFr (.tup [x]) = false := by unfold isFr; split <;> simp_all
        rw [e] at h
        walk_at "sxs"
        all_goals exact h
      | x :: y :: z :: r, hd, h =>
        have e : isFr (.tup (x :: y :: z :: r)) = false := by unfold isFr; split <;> simp_all
        rw [e] at h
        walk_at "sxs"
        all_goals exact h
      | [x, y], hd, h =>
        have hx : tyName x ≠ "?" := by simp [Okd] at hd; exact hd.1
        have hy : tyName y ≠ "?" := by simp [Okd] at hd; exact hd.2
        walk_at "sxs"
        refine ⟨x, rfl, hx, ?_⟩
        rcases isInt_cases x with ⟨i, rfl⟩ | hxi
        · have ei : isIntD (.int i) = true := rfl
          rw [ei]
          walk_at "sxs"
          refine ⟨y, rfl, hy, ?_⟩
          rcases isInt_cases y with ⟨j, rfl⟩ | hyi
          · have ej : isIntD (.int j) = true := rfl
            rw [ej]
            walk_at "sxs"
            · refine ⟨_, _, rfl, ?_⟩
              walk_at "sxs"
              have e : isFr (.tup [.int i, .int j]) = decide ((Int.gcd i j : Int) = 1) := by
                show (decide (1 ≤ j) && decide (Int.gcd i j = 1)) = _
                rw [decide_eq_true (by omega), Bool.true_and]
                by_cases q : Int.gcd i j = 1
                · rw [decide_eq_true q, decide_eq_true (by omega)]
                · rw [decide_eq_false q, decide_eq_false (by omega)]
              rw [e] at h
              exact h
            · have e : isFr (.tup [.int i, .int j]) = false := by
                show (decide (1 ≤ j) && decide (Int.gcd i j = 1)) = _
                rw [decide_eq_false (by omega)]
                rfl
              rw [e] at h
              exact h
          · rw [hyi]
            rw [isFr_no2 hyi] at h
            walk_at "sxs"
            exact h
        · rw [hxi]
          rw [isFr_no1 hxi] at h
          walk_at "sxs"
          exact h
    | _ => first | (exfalso; simp [Okd, tyName] at hd; done) | (walk_at "sxs"; all_goals exact h)
local macro_rules | `(tactic| walk_at "sxk") => `(tactic| ((with_reducible show S_is_fraction _ _); refine ⟨_, rfl, by first | assumption | rfl, ?_⟩))



def S_is_knot : PSp := fun ds Φ => ∃ p : Kn, ds = [kn p] ∧ Φ (.bl true)

theorem ok_is_knot (T : Tx K mg base) : FnOk P w K mg base CX0 3 T.f_is_knot T.fd_is_knot ["value"] (liftP K T.tbs S_is_knot) := by
  refine okP T.F_is_knot sc_is_knot (fun ds Φ h => ?len) (by decide) (fun cdv A outer s H E hr => ⟨_, (pss_one (ps_ret (pe_and (pe_callB call_isi (by rfl) T.z_isinstance (by decide +kernel) (pa_cons (pv 0) (pa_cons (pe_bltn (v := .ty "tuple") (by rfl) T.z_tuple (by decide +kernel) rfl) pa_nil))) (pe_and (pe_cmpR op_eq (pe_callB call_len_seq (by rfl) T.z_len (by decide +kernel) (pa_cons (pv 0) pa_nil)) pe_int (nomark _)) (pe_and (pe_call (ok_is_fraction T) hr (by rfl) T.g_is_fraction T.F_is_fraction.kp T.b_is_fraction .nil pass0 (pa_cons (pe_ix ix_tup (pv 0) pe_int (fun _ _ => rfl)) pa_nil)) (pe_one (pe_call (ok_is_fraction T) hr (by rfl) T.g_is_fraction T.F_is_fraction.kp T.b_is_fraction .nil pass0 (pa_cons (pe_ix ix_tup (pv 0) pe_int (fun _ _ => rfl)) pa_nil)))))))), fun H0 Xs ds Φ h => ?body⟩)
  case len =>
    obtain ⟨p, rfl, _⟩ := h
    rfl
  case body =>
    (try dsimp only [cxOf, L2.Cx.nox, L2.Cx.wish])
    obtain ⟨p, rfl, h⟩ := h
    walk_at "sxn"
    all_goals first | exact h | (rw [isFr_fr]; exact h)
local macro_rules | `(tactic| walk_at "sxk") => `(tactic| ((with_reducible show S_is_knot _ _); refine ⟨_, rfl, ?_⟩))



def S_are_knots : PSp := fun ds Φ => ∃ ps, ds = [.lst (knL ps)] ∧ KOk ps ∧ Φ (.bl true)

theorem ok_are_knots (T : Tx K mg base) : FnOk P w K mg base CX0 4 T.f_are_knots T.fd_are_knots ["value"] (liftP K T.tbs S_are_knots) := by
  refine okP T.F_are_knots sc_are_knots (fun ds Φ h => ?len) (by decide) (fun cdv A outer s H E hr => ⟨_, (pss_cons (ps_if (PW.pt (pw_or (pt_not (pt_val (pe_callB call_isiT (by rfl) T.z_isinstance (by decide +kernel) (pa_cons (pv 0) (pa_cons (pe_tup (pa_cons (pe_bltn (v := .ty "list") (by rfl) T.z_list (by decide +kernel) rfl) (pa_cons (pe_bltn (v := .ty "tuple") (by rfl) T.z_tuple (by decide +kernel) rfl) pa_nil))) pa_nil))))) (pw_or1 (pt_cmpR op_eq (pe_callB call_len_seq (by rfl) T.z_len (by decide +kernel) (pa_cons (pv 0) pa_nil)) pe_int (nomark _))))) (pss_one (ps_ret pe_bl)) pss_nil)
    (pss_cons (ps_for PassesOwn.never rfl (pi_list (pv 0)) (pg_name (i := 1) sc_are_knots.nd rfl (.inl rfl)) (pss_one (ps_if (pt_not (pt_val (pe_call (ok_is_knot T) hr (by rfl) T.g_is_knot T.F_is_knot.kp T.b_is_knot .nil pass0 (pa_cons (pv 1) pa_nil)))) (pss_one (ps_ret pe_bl)) pss_nil)))
    (pss_cons (ps_for PassesOwn.never rfl (pi_range2 (by rfl) T.z_range (pa_cons pe_int (pa_cons (pe_callB call_len_seq (by rfl) T.z_len (by decide +kernel) (pa_cons (pv 0) pa_nil)) pa_nil))) (pg_name (i := 2) sc_are_knots.nd rfl (.inl rfl)) (pss_one (ps_if (pt_not (pt_val (pe_call (ok_is_less T) (hr.mono (by decide)) (by rfl) T.g_is_less T.F_is_less.kp T.b_is_less .nil pass0 (pa_cons (pe_ix ix_tup (pe_ix ix_list (pv 0) (pe_op op_sub (pv 2) pe_int) (fun _ _ => rfl)) pe_int (fun _ _ => rfl)) (pa_cons (pe_ix ix_tup (pe_ix ix_list (pv 0) (pv 2) (fun _ _ => rfl)) pe_int (fun _ _ => rfl)) pa_nil))))) (pss_one (ps_ret pe_bl)) pss_nil)))
    (pss_one (ps_ret pe_bl))))), fun H0 Xs ds Φ h => ?body⟩)
  case len =>
    obtain ⟨ps, rfl, _⟩ := h
    rfl
  case body =>
    (try dsimp only [cxOf, L2.Cx.nox, L2.Cx.wish])
    obtain ⟨ps, rfl, hp, h⟩ := h
    have hkl := knL_len ps
    have hp0 := hp.ne
    have hpl := hp.len
    refine LS.seq ?_
    refine LS.mid (fun ρ s => ρ = [some (.lst (knL ps)), none, none] ∧ s = ⟨[], [], Xs⟩) ?_ ?_
    · walk_at "sxd"
    · rintro ρ s ⟨rfl, rfl⟩
      refine LS.seq (LS.for (LI.list ?_))
      walk_at "sxn"
      refine ⟨fun i ρ s => (∃ e1, ρ = [some (.lst (knL ps)), e1, none]) ∧ s = ⟨[], [], Xs⟩, ⟨⟨_, rfl⟩, rfl⟩, fun tms i d ρ s hd hI => ?_, fun ρ s hI => ?_⟩
      · obtain ⟨⟨e1, rfl⟩, rfl⟩ := hI
        obtain ⟨p, hp1, rfl⟩ := knL_get hd
        walk_at "sxd"
        exact ⟨⟨_, rfl⟩, rfl⟩
      · obtain ⟨⟨e1, rfl⟩, rfl⟩ := hI
        refine LS.seq (LS.for (LI.range2 ?_))
        walk_at "sxn"
        refine ⟨⟨by decide, by decide, by omega, by omega⟩, fun i ρ s => (∃ e1 e2, ρ = [some (.lst (knL ps)), e1, e2]) ∧ s = ⟨[], [], Xs⟩, ⟨⟨_, _, rfl⟩, rfl⟩, fun tms i d ρ s hd hI => ?_, fun ρ s hI => ?_⟩
        · obtain ⟨⟨e1, e2, rfl⟩, rfl⟩ := hI
          obtain ⟨rfl, hi⟩ := rngD_get hd
          obtain ⟨p0, hp0⟩ := get_of_lt (l := ps) (i := i) (by omega)
          obtain ⟨p1, hp1⟩ := get_of_lt (l := ps) (i := i + 1) (by omega)
          have f0 := (hp.mem hp0).1
          have f1 := (hp.mem hp1).1
          rw [show (1 + (i : Int)) = ((i + 1 : Nat) : Int) by omega]
          walk_at "sxn"
          refine LS.ite (LT.not (LT.val ?_))
          walk_at "sxn"
          rw [show (((i + 1 : Nat) : Int) - 1) = (i : Int) by omega]
          refine OpD.ixL (knL_at hp0) ?_
          walk_at "sxn"
          refine OpD.ixL (knL_at hp1) ?_
          have hlt := asc_lt hp.asc hp0 hp1
          walk_at "sxd"
          · exact absurd hlt (by assumption)
          · exact ⟨⟨_, _, rfl⟩, rfl⟩
        · obtain ⟨⟨e1, e2, rfl⟩, rfl⟩ := hI
          walk_at "sxn"
          exact h
local macro_rules | `(tactic| walk_at "sxk") => `(tactic| ((with_reducible show S_are_knots _ _); refine ⟨_, rfl, by assumption, ?_⟩))



def S_Timetable___init__ : ISp := fun ds Φ => ∃ ps, ds = [.lst (knL ps)] ∧ KOk ps ∧ ps.length ≤ 40 ∧ Φ [(("points" : Str), .tup (knL ps)), (("turns" : Str), .tup (knL (turns ps)))]

theorem ok_Timetable___init__ (T : Tx K mg base) : FnOk P w K mg base CX0 6 T.f_Timetable___init__ T.fd_Timetable___init__ ["self", "knots"] (liftI K T.tbs T.C_Timetable (S_Timetable___init__)) := by
  refine okI T.F_Timetable___init__ sc_Timetable___init__ (fun ds Φ h => ?len) (by decide) (fun cdv A outer s H E hr => ⟨_, (pss_cons (ps_if (PW.pt (pw_or (pt_not (pt_val (pe_call (ok_are_knots T) (hr.mono (by decide)) (by rfl) T.g_are_knots T.F_are_knots.kp T.b_are_knots .nil pass0 (pa_cons (pv 1) pa_nil)))) (pw_or1 (pt_cmpR op_gt (pe_callB call_len_seq (by rfl) T.z_len (by decide +kernel) (pa_cons (pv 1) pa_nil)) (pe_con (pv 0) rfl) (nomark _))))) (pss_one ps_dead) pss_nil)
    (pss_cons (ps_fld (pv 0) (pe_callTy call_tuple_of (by rfl) T.z_tuple (by decide +kernel) (pa_cons (pv 1) pa_nil)) rfl)
    (pss_one (ps_fld (pv 0) (pe_call (ok_turns_of T) hr (by rfl) T.g_turns_of T.F_turns_of.kp T.b_turns_of .nil pass0 (pa_cons (pe_fld (pv 0) rfl) pa_nil)) rfl)))), fun Xs a ds Φ h => ?body⟩)
  case len =>
    obtain ⟨ps, rfl, _⟩ := h
    rfl
  case body =>
    (try dsimp only [cxOf, L2.Cx.nox, L2.Cx.wish])
    obtain ⟨ps, rfl, hp, hl, h⟩ := h
    have hkl := knL_len ps
    refine LN.seq (LN.skip rfl fun H => ?_)
    walk_at "sxn"
    refine ⟨decide_eq_false (by omega), ?_⟩
    refine LN.seq (LN.fld (Tx.c_Timetable T) (Tx.n_Timetable_points T) (show 0 < 900 by decide) rfl fun H => ?_)
    walk_at "sxn"
    refine ⟨knL_imm ps, ?_⟩
    rw [put_points]
    refine LN.fld (Tx.c_Timetable T) (Tx.n_Timetable_turns T) (show 1 < 900 by decide) rfl fun H => ?_
    walk_at "sxn"
    refine ⟨knL_imm _, ?_⟩
    rw [put_turns]
    exact h
local macro_rules | `(tactic| walk_at "sxk") => `(tactic| ((with_reducible show S_Timetable___init__ _ _); refine' ⟨_, rfl, ?hp, ?hl, ?fn⟩; (case' hp => assumption); (case' hl => assumption)))



def S_Timetable_resting (C : Addr) : PSp := fun ds Φ => ∃ t x : Rat, ds = [.adr C, fr t, fr x] ∧ Fit 400 t ∧ Fit 400 x ∧ Φ (tb C [(t, x)])

theorem ok_Timetable_resting (T : Tx K mg base) : FnOk P w K mg base CX0 8 T.f_Timetable_resting T.fd_Timetable_resting ["cls", "t", "x"] (liftP K T.tbs (S_Timetable_resting T.C_Timetable)) := by
  refine okP T.F_Timetable_resting sc_Timetable_resting (fun ds Φ h => ?len) (by decide) (fun cdv A outer s H E hr => ⟨_, (pss_one (ps_ret (pe_makeL (i := 0) T.M_Timetable (ok_Timetable___init__ T) hr rfl (.inl rfl) T.b_Timetable___init__ .nil pass0 (pa_cons (pe_lst (pa_cons (pe_tup (pa_cons (pv 1) (pa_cons (pv 2) pa_nil))) pa_nil)) pa_nil)))), fun H0 Xs ds Φ h => ?body⟩)
  case len =>
    obtain ⟨t, x, rfl, _⟩ := h
    rfl
  case body =>
    (try dsimp only [cxOf, L2.Cx.nox, L2.Cx.wish])
    obtain ⟨t, x, rfl, ht, hx, h⟩ := h
    have hok : KOk [(t, x)] := ⟨Nat.succ_pos _, by show (1 : Nat) ≤ 900; decide, trivial, fun p hp => by rw [List.mem_singleton.mp hp]; exact ⟨ht, hx⟩⟩
    refine LS.ret (LE.makeL rfl (LE.make ?_))
    walk_at "sxn"
    first
      | (refine ⟨[(t, x)], rfl, hok, (show (1 : Nat) ≤ 40 by decide), ?_⟩; exact h)
      | (refine ⟨[(t, x)], _, rfl, .inl rfl, hok, (show (1 : Nat) ≤ 40 by decide), ?_⟩; exact h)
local macro_rules | `(tactic| walk_at "sxk") => `(tactic| ((with_reducible show S_Timetable_resting _ _ _); refine ⟨_, _, rfl, by assumption, by assumption, ?_⟩))




theorem gives__law_error {X : Cx} {K : PySem.W.Frag} {mg : Str → Option Value} {base : Heap} (T : Tx K mg base) (hK : X.K = K) (hm : X.mg = mg) {g : Addr} {cd : Value} {q : Str} : LamX.GivesTo X N__law_error "_law_error" (defScope s__law_error) g cd (defBody s__law_error) "work" q (TTw T.tbs (fun C => C = T.C_NoTime ∨ C = T.C_NoTrack) (fun C => if C = T.C_NoTrack then "track" else "time")) := by
  subst hK
  subst hm
  intro f c' s H Q tl act hc h
  refine ⟨_, pss_cons (ps_set (i := 1) sc__law_error.nd rfl (.inl rfl) pe_non) (pss_cons (ps_try_asK (i := 2) (c := .ref T.C_TrackError)
      (tb := fun W D σ H => ∃ Ech : XK, (∀ cls d σ' H', Ech cls d H' → σ'.length = 5 → W cls d σ' H') ∧ σ[0]? = some (some (.ref f)) ∧ H c' = some (LamX.CodeO c' q) ∧ tl Ech H fun _ H' => D.nx σ H')
      (ts := fun _ _ _ => tAsg (tVar 2) (gName 1)) (Wout := fun _ _ _ _ => False)
      rfl rfl rfl sc__law_error.nd rfl rfl ⟨rfl, by decide, .inl T.g_TrackError⟩ LamX.takes0 (fun W pn xe tk _ => ?A) (fun a oe cls d pn _ _ => pss_one (ps_set (i := 1) sc__law_error.nd rfl (.inl rfl) (pv 2)))) (pss_cons (ps_if (pt_cmpR op_isN (pv 1) pe_non (nomark _)) (pss_one (ps_ret pe_non)) pss_nil) (pss_cons (ps_set (i := 3) sc__law_error.nd rfl (.inl rfl) (pe_or (pe_callB call_isXT (by rfl) T.z_isinstance (by decide +kernel) (pa_cons (pv 1) (pa_cons (pe_tup (pa_cons (pe_glob (v := .ref T.C_NoTable) (by rfl) T.g_NoTable rfl) (pa_cons (pe_glob (v := .ref T.C_NoRest) (by rfl) T.g_NoRest rfl) (pa_cons (pe_glob (v := .ref T.C_NoCarrier) (by rfl) T.g_NoCarrier rfl) (pa_cons (pe_glob (v := .ref T.C_NoName) (by rfl) T.g_NoName rfl) pa_nil))))) pa_nil))) (pe_one (pe_not (pe_callB call_isX (by rfl) T.z_isinstance (by decide +kernel) (pa_cons (pv 1) (pa_cons (pe_bltn (v := .ty "ValueError") (by rfl) T.z_ValueError (by decide +kernel) rfl) pa_nil))))))) (pss_cons (ps_set (i := 4) sc__law_error.nd rfl (.inl rfl) (pe_lst (pa_cons (pe_callB call_isX (by rfl) T.z_isinstance (by decide +kernel) (pa_cons (pv 1) (pa_cons (pe_glob (v := .ref T.C_NoTrack) (by rfl) T.g_NoTrack rfl) pa_nil))) (pa_cons (pe_callB call_isX (by rfl) T.z_isinstance (by decide +kernel) (pa_cons (pv 1) (pa_cons (pe_glob (v := .ref T.C_NoTime) (by rfl) T.g_NoTime rfl) pa_nil))) pa_nil)))) (pss_one (ps_ret (pe_ifExp (PW.pt (pw_and (pt_cmpR op_eq (pe_bm PySem.F.plainAttrs_list PySem.F.slot_list_count PySem.F.type_list_count mt_cntF (pv 4) (pa_cons pe_bl pa_nil)) pe_int (nomark _)) (pw_and1 (pt_not (pt_val (pv 3)))))) (pe_ix ix_list (pe_lst (pa_cons pe_str (pa_cons pe_str pa_nil))) (pe_bm PySem.F.plainAttrs_list PySem.F.slot_list_index PySem.F.type_list_index mt_index (pv 4) (pa_cons pe_bl pa_nil)) (fun _ _ => rfl)) pe_str))))))), ?B⟩
  case A =>
    refine ⟨fun pins s' σ H' D I h' => ?_⟩
    obtain ⟨Ech, hW, h1, h2, h3⟩ := h'
    exact (pss_one (ps_expr (act _ pn xe Ech _ _ (takes_len tk) (fun cls d σ' H' e hl => hW cls d σ' H' e hl)))).run pins s' σ H' D I ⟨h1, h2, h3⟩
  case B =>
    have hne : T.C_NoTime ≠ T.C_NoTrack := fun e => by
      have h1 := T.kt_NoTime_NoTrack
      rw [e, T.kt_NoTrack_NoTrack] at h1
      cases h1
    refine ⟨fun cls d H' => ∃ C, cls = .ref C ∧ d = none ∧ (C = T.C_NoTime ∨ C = T.C_NoTrack) ∧ LamX.Tabs T.tbs H' ∧ ∀ H'', ExtT T.tbs H' H'' → Q (.str (if C = T.C_NoTrack then "track" else "time")) H'', fun cls d σ' H' hE hl => ?_, rfl, hc, h _ _ (fun cls d H' z => z) fun v H' ht hq => ?_⟩
    · obtain ⟨C, rfl, rfl, hC, ht, hq⟩ := hE
      obtain ⟨x0, x1, x2, x3, x4, rfl⟩ : ∃ x0 x1 x2 x3 x4, σ' = [x0, x1, x2, x3, x4] := by
        match σ', hl with
        | [x0, x1, x2, x3, x4], _ => exact ⟨x0, x1, x2, x3, x4, rfl⟩
      rcases hC with rfl | rfl
      · rw [if_neg hne] at hq
        refine ⟨true, T.xh_NoTime, fun _ a ha => ?_, fun z => Bool.noConfusion z⟩
        refine ⟨.ref a, by rw [List.getElem?_set_self (by simp)], fun hn => ?_⟩
        have o : Ok ⟨X.K, noTb (upd H' a (XcO T.C_NoTime none a)), [], [], [], T.tbs⟩ [x0, some (.ref a), none, x3, x4] (upd H' a (XcO T.C_NoTime none a)) [none, some (.exc T.C_NoTime), none, none, none] {} := Ok.starts (tabs_new ht hn) ⟨⟨.ref a, rfl, a, rfl, by simp, upd_same⟩, trivial⟩
        dsimp only [cxOf, L2.Cx.nox, L2.Cx.wish]
        refine LS.run ?_ o (fits_ret (d0 := .str "time") (fun _ _ _ h => h) fun H'' e => hq H'' ((ext_new ht hn).trans e))
        walk_at "sxd"
        refine CbD.isXT (cs := [T.C_NoTable, T.C_NoRest, T.C_NoCarrier, T.C_NoName]) false T.i_NoTime (kitAny1 fun c hc => ?_) ?_
        · simp only [List.map_cons, List.map_nil, List.mem_cons, List.not_mem_nil, or_false] at hc
          rcases hc with rfl | rfl | rfl | rfl
          · exact T.kt_NoTime_NoTable
          · exact T.kt_NoTime_NoRest
          · exact T.kt_NoTime_NoCarrier
          · exact T.kt_NoTime_NoName
        walk_at "sxd"
        refine CbD.isXb true T.i_NoTime T.kb_NoTime_ValueError ⟨true, rfl, ?_⟩
        walk_at "sxd"
        refine CbD.isXo false T.i_NoTime T.kt_NoTime_NoTrack ?_
        walk_at "sxd"
        refine CbD.isXo true T.i_NoTime T.kt_NoTime_NoTime ?_
        walk_at "sxd"
        refine LE.cntB ?_
        walk_at "sxd"
        refine ⟨[false, true], rfl, ?_⟩
        walk_at "sxd"
        refine LE.idxB ?_
        walk_at "sxd"
        refine ⟨[false, true], rfl, ?_⟩
        walk_at "sxd"
        refine ⟨true, 1, rfl, rfl, fun m hm => by rw [show m = 0 by omega]; simp, ?_⟩
        walk_at "sxd"
        all_goals rfl
      · rw [if_pos rfl] at hq
        refine ⟨true, T.xh_NoTrack, fun _ a ha => ?_, fun z => Bool.noConfusion z⟩
        refine ⟨.ref a, by rw [List.getElem?_set_self (by simp)], fun hn => ?_⟩
        have o : Ok ⟨X.K, noTb (upd H' a (XcO T.C_NoTrack none a)), [], [], [], T.tbs⟩ [x0, some (.ref a), none, x3, x4] (upd H' a (XcO T.C_NoTrack none a)) [none, some (.exc T.C_NoTrack), none, none, none] {} := Ok.starts (tabs_new ht hn) ⟨⟨.ref a, rfl, a, rfl, by simp, upd_same⟩, trivial⟩
        dsimp only [cxOf, L2.Cx.nox, L2.Cx.wish]
        refine LS.run ?_ o (fits_ret (d0 := .str "track") (fun _ _ _ h => h) fun H'' e => hq H'' ((ext_new ht hn).trans e))
        walk_at "sxd"
        refine CbD.isXT (cs := [T.C_NoTable, T.C_NoRest, T.C_NoCarrier, T.C_NoName]) false T.i_NoTrack (kitAny1 fun c hc => ?_) ?_
        · simp only [List.map_cons, List.map_nil, List.mem_cons, List.not_mem_nil, or_false] at hc
          rcases hc with rfl | rfl | rfl | rfl
          · exact T.kt_NoTrack_NoTable
          · exact T.kt_NoTrack_NoRest
          · exact T.kt_NoTrack_NoCarrier
          · exact T.kt_NoTrack_NoName
        walk_at "sxd"
        refine CbD.isXb true T.i_NoTrack T.kb_NoTrack_ValueError ⟨true, rfl, ?_⟩
        walk_at "sxd"
        refine CbD.isXo true T.i_NoTrack T.kt_NoTrack_NoTrack ?_
        walk_at "sxd"
        refine CbD.isXo false T.i_NoTrack T.kt_NoTrack_NoTime ?_
        walk_at "sxd"
        refine LE.cntB ?_
        walk_at "sxd"
        refine ⟨[true, false], rfl, ?_⟩
        walk_at "sxd"
        refine LE.idxB ?_
        walk_at "sxd"
        refine ⟨[true, false], rfl, ?_⟩
        walk_at "sxd"
        refine ⟨true, 0, rfl, rfl, fun m hm => absurd hm (by omega), ?_⟩
        walk_at "sxd"
        all_goals rfl
    · have o : Ok ⟨X.K, noTb H', [], [], [], T.tbs⟩ _ H' [none, some .non, none, none, none] {} := Ok.starts (σ := (L2.start N__law_error [.ref f]).set 1 (some .non)) ht ⟨⟨.non, rfl, rfl⟩, trivial⟩
      dsimp only [cxOf, L2.Cx.nox, L2.Cx.wish]
      refine LS.run ?_ o (fits_ret (d0 := .non) (fun _ _ _ h => h) fun H'' e => hq H'' e)
      walk_at "sxd"
      all_goals rfl




local macro_rules | `(tactic| walk_at "sxS") => `(tactic| with_reducible refine LS.setD (te := tDNewK) (LED.new ?_))
local macro_rules | `(tactic| walk_at "sxS") => `(tactic| with_reducible refine LS.setD (te := tCB (rDictP _) _) (LED.pairs ?_))

theorem ok_law (T : Tx K mg base) {f : Addr} {fd : FuncData} (F : Pw.FunC K "law" "law" s_law f fd T.c_law) : LawOk P w K mg base f fd ["script"] (spLawT K T.tbs) := by
  obtain ⟨oc__law_error, od__law_error, kV__law_error, dc__law_error, pm__law_error, an__law_error, cd__law_error, ct__law_error, sl__law_error, e__law_error, lk__law_error, hc__law_error⟩ := T.F__law_error.ex
  have b__law_error := T.b__law_error
  rw [e__law_error] at lk__law_error b__law_error
  refine okLawL F sc_law (by decide) (k := 13) ⟨rfl, by decide, by decide⟩ (fun outer s H E hr => ⟨_, (pss_cons (ps_set (i := 1) sc_law.nd rfl (.inl rfl) (pe_call (ok__law_begun T) (hr.mono (by decide)) (by rfl) T.g__law_begun T.F__law_begun.kp T.b__law_begun .nil pass0 (pa_cons (pv 0) pa_nil)))
    (pss_cons (ps_for PassesOwn.never rfl (pi_range1 (by rfl) T.z_range (pa_cons (pe_op op_add pe_int (pe_callB (call_min2 rfl) (by rfl) T.z_min (by decide +kernel) (pa_cons (pe_callB call_len_seq (by rfl) T.z_len (by decide +kernel) (pa_cons (pv 0) pa_nil)) (pa_cons pe_int pa_nil)))) pa_nil)) (pg_name (i := 2) sc_law.nd rfl (.inl rfl)) (pss_cons (ps_set (i := 3) sc_law.nd rfl (.inr rfl) (pe_call (ok__law_pick T) (hr.mono (by decide)) (by rfl) T.g__law_pick T.F__law_pick.kp T.b__law_pick .nil pass0 (pa_cons (pv 1) (pa_cons (pe_lst (pa_cons pe_non (pa_cons pe_int (pa_cons pe_int (pa_cons (pe_op op_add pe_int (pe_call (ok__law_take T) (hr.mono (by decide)) (by rfl) T.g__law_take T.F__law_take.kp T.b__law_take .nil pass0 (pa_cons (pv 1) (pa_cons pe_int pa_nil)))) pa_nil))))) pa_nil))))
    (pss_cons (ps_set (i := 4) sc_law.nd rfl (.inl rfl) (pe_call (ok__law_names T) (hr.mono (by decide)) (by rfl) T.g__law_names T.F__law_names.kp T.b__law_names .nil pass0 (pa_cons (pv 1) (pa_cons (pe_op op_add pe_int (pe_call (ok__law_take T) (hr.mono (by decide)) (by rfl) T.g__law_take T.F__law_take.kp T.b__law_take .nil pass0 (pa_cons (pv 1) (pa_cons pe_int pa_nil)))) pa_nil))))
    (pss_cons (ps_set (i := 5) sc_law.nd rfl (.inl rfl) (pe_ifExp (pt_cmpR op_isN (pv 3) pe_non (nomark _)) pe_int (pv 3)))
    (pss_cons (ps_set (i := 6) sc_law.nd rfl (.inr rfl) (pe_call (ok__law_ratio T) (hr.mono (by decide)) (by rfl) T.g__law_ratio T.F__law_ratio.kp T.b__law_ratio .nil pass0 (pa_cons (pe_op op_sub (pe_call (ok__law_take T) (hr.mono (by decide)) (by rfl) T.g__law_take T.F__law_take.kp T.b__law_take .nil pass0 (pa_cons (pv 1) (pa_cons pe_int pa_nil))) pe_int) (pa_cons (pe_call (ok__law_pick T) (hr.mono (by decide)) (by rfl) T.g__law_pick T.F__law_pick.kp T.b__law_pick .nil pass0 (pa_cons (pv 1) (pa_cons (pe_lst (pa_cons pe_int (pa_cons pe_int (pa_cons pe_int pa_nil)))) pa_nil))) pa_nil))))
    (pss_cons (ps_set (i := 7) sc_law.nd rfl (.inl rfl) (pe_call (ok__law_plus T) (hr.mono (by decide)) (by rfl) T.g__law_plus T.F__law_plus.kp T.b__law_plus .nil pass0 (pa_cons (pv 6) (pa_cons (pe_call (ok__law_ratio T) (hr.mono (by decide)) (by rfl) T.g__law_ratio T.F__law_ratio.kp T.b__law_ratio .nil pass0 (pa_cons (pe_op op_add pe_int (pe_call (ok__law_take T) (hr.mono (by decide)) (by rfl) T.g__law_take T.F__law_take.kp T.b__law_take .nil pass0 (pa_cons (pv 1) (pa_cons pe_int pa_nil)))) (pa_cons (pe_call (ok__law_pick T) (hr.mono (by decide)) (by rfl) T.g__law_pick T.F__law_pick.kp T.b__law_pick .nil pass0 (pa_cons (pv 1) (pa_cons (pe_lst (pa_cons pe_int (pa_cons pe_int pa_nil))) pa_nil))) pa_nil))) pa_nil))))
    (pss_cons (ps_set (i := 8) sc_law.nd rfl (.inr rfl) (pe_call (ok__law_plus T) (hr.mono (by decide)) (by rfl) T.g__law_plus T.F__law_plus.kp T.b__law_plus .nil pass0 (pa_cons (pv 7) (pa_cons (pe_call (ok__law_ratio T) (hr.mono (by decide)) (by rfl) T.g__law_ratio T.F__law_ratio.kp T.b__law_ratio .nil pass0 (pa_cons (pe_op op_add pe_int (pe_call (ok__law_take T) (hr.mono (by decide)) (by rfl) T.g__law_take T.F__law_take.kp T.b__law_take .nil pass0 (pa_cons (pv 1) (pa_cons pe_int pa_nil)))) (pa_cons (pe_call (ok__law_pick T) (hr.mono (by decide)) (by rfl) T.g__law_pick T.F__law_pick.kp T.b__law_pick .nil pass0 (pa_cons (pv 1) (pa_cons (pe_lst (pa_cons pe_int (pa_cons pe_int pa_nil))) pa_nil))) pa_nil))) pa_nil))))
    (pss_cons (ps_set (i := 9) sc_law.nd rfl (.inr rfl) pe_dnewK)
    (pss_cons (ps_for PassesOwn.never rfl (pi_enum (by rfl) T.z_enumerate (pa_cons (pv 4) pa_nil)) (pg_tup rfl (pgs_cons (pg_name (i := 10) sc_law.nd rfl (.inl rfl)) (pgs_cons (pg_name (i := 11) sc_law.nd rfl (.inl rfl)) pgs_nil))) (pss_one (ps_dput (hu_of hr) (pv 9) (pv 11) (ClX.pe_cmeth (pe_glob (v := .ref T.C_Timetable) (by rfl) T.g_Timetable rfl) T.r_Timetable T.m_Timetable_resting ((ok_Timetable_resting T).raw T.b_Timetable_resting .nil) (hr.mono (by decide)) pass0 (pa_cons (pv 6) (pa_cons (pe_call (ok__law_ratio T) (hr.mono (by decide)) (by rfl) T.g__law_ratio T.F__law_ratio.kp T.b__law_ratio .nil pass0 (pa_cons (pe_op op_mulW (pv 5) (pv 10)) (pa_cons (pe_callB call_len_seq (by rfl) T.z_len (by decide +kernel) (pa_cons (pv 4) pa_nil)) pa_nil))) pa_nil))) rfl)))
    (pss_cons (ps_par (i := 12) (j := 13) rfl sc_law.nd rfl rfl (by decide) rfl rfl (pa_cons (pe_ix ix_list (pv 4) (pe_call (ok__law_take T) (hr.mono (by decide)) (by rfl) T.g__law_take T.F__law_take.kp T.b__law_take .nil pass0 (pa_cons (pv 1) (pa_cons (pe_callB call_len_seq (by rfl) T.z_len (by decide +kernel) (pa_cons (pv 4) pa_nil)) pa_nil))) (fun _ _ => rfl)) (pa_cons pe_str pa_nil)) (by rfl))
    (pss_cons (ps_if (pt_cmp (pc_din (hu_of hr) (pv 13) (pv 9)) (by with_unfolding_all rfl)) (pss_one (ps_set (i := 13) sc_law.nd rfl (.inl rfl) pe_str)) pss_nil)
    (pss_cons (ps_if (pt_cmp (pc_din (hu_of hr) (pv 13) (pv 9)) (by with_unfolding_all rfl)) (pss_one (ps_ret pe_bl)) pss_nil)
    (pss_cons (ps_set (i := 14) sc_law.nd rfl (.inl rfl) (pe_ifExp (pt_cmpR op_notN (pv 3) pe_non (nomark _)) (pe_tup (pa_cons (pe_op op_mulW (pv 5) (pe_op op_sub (pe_call (ok__law_take T) (hr.mono (by decide)) (by rfl) T.g__law_take T.F__law_take.kp T.b__law_take .nil pass0 (pa_cons (pv 1) (pa_cons pe_int pa_nil))) pe_int)) (pa_cons pe_int pa_nil))) (pe_tup (pa_cons pe_int (pa_cons pe_int pa_nil)))))
    (pss_cons (ps_set (i := 15) sc_law.nd rfl (.inl rfl) (pe_call (ok__law_plus T) (hr.mono (by decide)) (by rfl) T.g__law_plus T.F__law_plus.kp T.b__law_plus .nil pass0 (pa_cons (pe_meth (pe_dget (hu_of hr) (pv 9) (pv 12) (fun _ _ => rfl)) T.c_Timetable T.m_Timetable_at (ok_Timetable_at T) (hr.mono (by decide)) T.b_Timetable_at .nil pass0 (pa_cons (pv 6) pa_nil)) (pa_cons (pv 14) pa_nil))))
    (pss_cons (ps_set (i := 16) sc_law.nd rfl (.inl rfl) (pe_call (ok__law_plus T) (hr.mono (by decide)) (by rfl) T.g__law_plus T.F__law_plus.kp T.b__law_plus .nil pass0 (pa_cons (pv 15) (pa_cons (pe_call (ok__law_ratio T) (hr.mono (by decide)) (by rfl) T.g__law_ratio T.F__law_ratio.kp T.b__law_ratio .nil pass0 (pa_cons (pv 5) (pa_cons (pe_op op_mulW pe_int (pe_callB call_len_seq (by rfl) T.z_len (by decide +kernel) (pa_cons (pv 4) pa_nil))) pa_nil))) pa_nil))))
    (pss_cons (ps_set (i := 17) sc_law.nd rfl (.inr rfl) (pe_callTy (call_dictP rfl) (by rfl) T.z_dict (by decide +kernel) (pa_cons (pe_lk (pe_lc (own := [("name", 11)]) (by rfl) sc_law.nd (pi_keys (pv 9)) (blkOk_by (own := [("name", 11)]) (N := N_law) (sc := defScope s_law) (by decide +kernel)) (fun _ _ _ _ _ => (pg_name (i := 11) sc_law.nd rfl (.inl rfl))) (fun _ _ _ _ _ => pts_nil) (fun _ _ _ _ _ => (pe_tup (pa_cons (pv 11) (pa_cons (pe_dget (hu_of hr) (pv 9) (pv 11) (fun _ _ => rfl)) pa_nil)))))) pa_nil)))
    (pss_cons (ps_dput (hu_of hr) (pv 17) (pv 13) (pe_make T.M_Timetable (ok_Timetable___init__ T) (hr.mono (by decide)) (by rfl) T.g_Timetable T.b_Timetable___init__ .nil pass0 (pa_cons (pe_lst (pa_cons (pe_tup (pa_cons (pv 7) (pa_cons (pv 15) pa_nil))) (pa_cons (pe_tup (pa_cons (pv 8) (pa_cons (pv 15) pa_nil))) (pa_cons (pe_tup (pa_cons (pe_call (ok__law_plus T) (hr.mono (by decide)) (by rfl) T.g__law_plus T.F__law_plus.kp T.b__law_plus .nil pass0 (pa_cons (pv 8) (pa_cons (pe_tup (pa_cons pe_int (pa_cons pe_int pa_nil))) pa_nil))) (pa_cons (pv 16) pa_nil))) pa_nil)))) pa_nil)) rfl)
    (pss_cons (ps_set (i := 18) sc_law.nd rfl (.inr rfl) (pe_call (ok__law_pick T) (hr.mono (by decide)) (by rfl) T.g__law_pick T.F__law_pick.kp T.b__law_pick .nil pass0 (pa_cons (pv 1) (pa_cons (pe_lst (pa_cons pe_int (pa_cons (pe_un un_neg pe_int) (pa_cons (pe_op op_sub pe_int (pe_op op_pow pe_int pe_int)) (pa_cons pe_bl (pa_cons pe_bl (pa_cons pe_str (pa_cons (pe_lst (pa_cons pe_int pa_nil)) (pa_cons (pe_tup (pa_cons pe_int (pa_cons pe_int pa_nil))) (pa_cons pe_dnewK pa_nil)))))))))) pa_nil))))
    (pss_cons (ps_set (i := 19) sc_law.nd rfl (.inl rfl) (pe_callTy (call_list_dR rfl) (by rfl) T.z_list (by decide +kernel) (pa_cons (pv 17) pa_nil)))
    (pss_cons (ps_for PassesOwn.never rfl (pi_list (pe_lst (pa_cons (pe_call (ok__law_minus T) (hr.mono (by decide)) (by rfl) T.g__law_minus T.F__law_minus.kp T.b__law_minus .nil pass0 (pa_cons (pv 6) (pa_cons (pe_tup (pa_cons pe_int (pa_cons pe_int pa_nil))) pa_nil))) (pa_cons (pv 6) (pa_cons (pv 7) (pa_cons (pv 8) pa_nil)))))) (pg_name (i := 20) sc_law.nd rfl (.inr rfl)) (pss_cons (ps_if (pt_cmpR op_ne (LamX.pe_lamcall (T := T.tbs) (TT := TTw T.tbs (fun C => C = T.C_NoTime ∨ C = T.C_NoTrack) (fun C => if C = T.C_NoTrack then "track" else "time")) (x := "_law_error") (a := "work") (g := T.f__law_error) (c := T.c_law) (k := 11) (Ng := N__law_error) (by rfl) T.g__law_error T.F__law_error.kp lk__law_error hc__law_error b__law_error sc__law_error rfl (.inl rfl) (gives__law_error T rfl rfl) T.TB_law rfl T.mem_law (fun p hp e => T.tu p hp (T.P_law, lamQ "law") T.mem_law e) hr (LamX.lamS_by (sc := defScope s_law) (by decide +kernel)) rfl (fun _ _ _ _ _ => rfl) (fun A outer s H E f c' hrL => (pe_callN (E := E) (okr_order_at T) hrL (by rfl) T.g_order_at T.F_order_at.kp T.b_order_at (passR (E := E) rfl rfl rfl rfl) (pa_cons (pv 17) (pa_cons (pv 20) pa_nil)) (pk_cons (pv 18) pk_nil)))) pe_str (nomark _)) (pss_one (ps_ret pe_bl)) pss_nil)
    (pss_one (ps_if (pt_cmpR op_ne (LamX.pe_lamcall (T := T.tbs) (TT := TTw T.tbs (fun C => C = T.C_NoTime ∨ C = T.C_NoTrack) (fun C => if C = T.C_NoTrack then "track" else "time")) (x := "_law_error") (a := "work") (g := T.f__law_error) (c := T.c_law) (k := 11) (Ng := N__law_error) (by rfl) T.g__law_error T.F__law_error.kp lk__law_error hc__law_error b__law_error sc__law_error rfl (.inl rfl) (gives__law_error T rfl rfl) T.TB_law rfl T.mem_law (fun p hp e => T.tu p hp (T.P_law, lamQ "law") T.mem_law e) hr (LamX.lamS_by (sc := defScope s_law) (by decide +kernel)) rfl (fun _ _ _ _ _ => rfl) (fun A outer s H E f c' hrL => (pe_callN (E := E) (FnOk_or (ok_order_at T) (FnOk_orX (okr_order_at T) (FnOk_orX (okq_order_at T) (okz_order_at T)))) hrL (by rfl) T.g_order_at T.F_order_at.kp T.b_order_at (passR (E := E) rfl rfl rfl rfl) (pa_cons (pv 17) (pa_cons (pv 20) pa_nil)) (pk_cons (pv 3) pk_nil)))) pe_str (nomark _)) (pss_one (ps_ret pe_bl)) pss_nil))))
    (pss_cons (ps_if (pt_cmpR op_ne (LamX.pe_lamcall (T := T.tbs) (TT := TTw T.tbs (fun C => C = T.C_NoTime ∨ C = T.C_NoTrack) (fun C => if C = T.C_NoTrack then "track" else "time")) (x := "_law_error") (a := "work") (g := T.f__law_error) (c := T.c_law) (k := 11) (Ng := N__law_error) (by rfl) T.g__law_error T.F__law_error.kp lk__law_error hc__law_error b__law_error sc__law_error rfl (.inl rfl) (gives__law_error T rfl rfl) T.TB_law rfl T.mem_law (fun p hp e => T.tu p hp (T.P_law, lamQ "law") T.mem_law e) hr (LamX.lamS_by (sc := defScope s_law) (by decide +kernel)) rfl (fun _ _ _ _ _ => rfl) (fun A outer s H E f c' hrL => (pe_callN (E := E) (okq_order_at T) hrL (by rfl) T.g_order_at T.F_order_at.kp T.b_order_at (passR (E := E) rfl rfl rfl rfl) (pa_cons (pv 9) (pa_cons (pe_call (ok__law_minus T) (hrL.mono (by decide)) (by rfl) T.g__law_minus T.F__law_minus.kp T.b__law_minus .nil pass0 (pa_cons (pv 6) (pa_cons (pe_tup (pa_cons pe_int (pa_cons pe_int pa_nil))) pa_nil))) pa_nil)) (pk_cons (pv 3) pk_nil)))) pe_str (nomark _)) (pss_one (ps_ret pe_bl)) pss_nil)
    (pss_cons (ps_if (PW.pt (pw_or (pt_cmpR op_notN (LamX.pe_lamcall (T := T.tbs) (TT := TTw T.tbs (fun C => C = T.C_NoTime ∨ C = T.C_NoTrack) (fun C => if C = T.C_NoTrack then "track" else "time")) (x := "_law_error") (a := "work") (g := T.f__law_error) (c := T.c_law) (k := 11) (Ng := N__law_error) (by rfl) T.g__law_error T.F__law_error.kp lk__law_error hc__law_error b__law_error sc__law_error rfl (.inl rfl) (gives__law_error T rfl rfl) T.TB_law rfl T.mem_law (fun p hp e => T.tu p hp (T.P_law, lamQ "law") T.mem_law e) hr (LamX.lamS_by (sc := defScope s_law) (by decide +kernel)) rfl (fun _ _ _ _ _ => rfl) (fun A outer s H E f c' hrL => (pe_callN (ok_order_at T) hrL (by rfl) T.g_order_at T.F_order_at.kp T.b_order_at pass0 (pa_cons (pv 9) (pa_cons (pv 6) pa_nil)) (pk_cons (pv 3) pk_nil)))) pe_non (nomark _)) (pw_or1 (pt_cmpR (op_neD hr.units) (pe_callTy (call_list_dR rfl) (by rfl) T.z_list (by decide +kernel) (pa_cons (pv 17) pa_nil)) (pv 19) (nomark _))))) (pss_one (ps_ret pe_bl)) pss_nil)
    (pss_one (ps_if (pt_cmpR op_notN (LamX.pe_lamcall (T := T.tbs) (TT := TTw T.tbs (fun C => C = T.C_NoTime ∨ C = T.C_NoTrack) (fun C => if C = T.C_NoTrack then "track" else "time")) (x := "_law_error") (a := "work") (g := T.f__law_error) (c := T.c_law) (k := 11) (Ng := N__law_error) (by rfl) T.g__law_error T.F__law_error.kp lk__law_error hc__law_error b__law_error sc__law_error rfl (.inl rfl) (gives__law_error T rfl rfl) T.TB_law rfl T.mem_law (fun p hp e => T.tu p hp (T.P_law, lamQ "law") T.mem_law e) hr (LamX.lamS_by (sc := defScope s_law) (by decide +kernel)) rfl (fun _ _ _ _ _ => rfl) (fun A outer s H E f c' hrL => (pe_callN (ok_order_at T) hrL (by rfl) T.g_order_at T.F_order_at.kp T.b_order_at pass0 (pa_cons (pv 17) (pa_cons (pe_call (ok__law_plus T) (hrL.mono (by decide)) (by rfl) T.g__law_plus T.F__law_plus.kp T.b__law_plus .nil pass0 (pa_cons (pv 8) (pa_cons (pe_tup (pa_cons pe_int (pa_cons pe_int pa_nil))) pa_nil))) pa_nil)) (pk_cons (pv 3) pk_nil)))) pe_non (nomark _)) (pss_one (ps_ret pe_bl)) pss_nil))))))))))))))))))))))))
    (pss_one (ps_ret pe_bl)))), fun ns hns => ?body⟩)
  case body =>
    (try dsimp only [cxOf, L2.Cx.nox, L2.Cx.wish])
    walk_at "sxd"
    refine ⟨hns, fun A B C => ?_⟩
    walk_at "sxd"
    refine LS.range1 ?_
    walk_at "sxd"
    refine ⟨_, fun i ρ s => (∃ e2 e3 e4 e5 e6 e7 e8 e9 e10 e11 e12 e13 e14 e15 e16 e17 e18 e19 e20 : Option D, ρ = [some (.scr ns), some (.adr A), e2, e3, e4, e5, e6, e7, e8, e9, e10, e11, e12, e13, e14, e15, e16, e17, e18, e19, e20]) ∧ ∃ n, s = ⟨[], [(A, B, C, n)], []⟩ ∧ 2 ^ 39 ≤ n + 2000 * i, rfl, by split <;> omega, by split <;> omega,
      ⟨⟨_, _, _, _, _, _, _, _, _, _, _, _, _, _, _, _, _, _, _, rfl⟩, _, rfl, by omega⟩, fun i ρ' s' hi hI => ?_, fun ρ' s' hI => ?_⟩
    · obtain ⟨⟨e2, e3, e4, e5, e6, e7, e8, e9, e10, e11, e12, e13, e14, e15, e16, e17, e18, e19, e20, rfl⟩, n, rfl, hn⟩ := hI
      have hi46 : i < 20 := by
        have : (if 10 < (ns.length : Int) then (10 : Int) else ns.length) ≤ 10 := by split <;> omega
        omega
      have hn9 : 100000 ≤ n := by omega
      walk_at "sxn"
      rename_i k0 hk00 hk01
      intro d hd
      obtain ⟨L, hL, hLl⟩ : ∃ L, Len d L ∧ ∀ l, L = some l → l ≤ 99 := by
        simp only [List.mem_cons, List.not_mem_nil, or_false] at hd
        rcases hd with rfl | rfl | rfl | rfl
        · exact ⟨none, .inl ⟨rfl, rfl⟩, fun l e => by cases e⟩
        · exact ⟨some 1, .inr ⟨_, rfl, rfl, by omega, by omega⟩, fun l e => by cases e; decide⟩
        · exact ⟨some 10, .inr ⟨_, rfl, rfl, by omega, by omega⟩, fun l e => by cases e; decide⟩
        · exact ⟨some _, .inr ⟨_, rfl, rfl, by omega, by omega⟩, fun l e => by cases e; omega⟩
      clear hd
      have hLp : ∀ l, L = some l → 1 ≤ l := fun l e => by
        rcases hL with ⟨_, rfl⟩ | ⟨l', _, rfl, h1, _⟩
        · cases e
        · cases e; exact h1
      walk_at "sxn"
      rename_i q hq0 hq1
      obtain ⟨m, hm⟩ : ∃ m : Nat, 2 + q = (m : Int) := ⟨(2 + q).toNat, by omega⟩
      rw [hm]
      refine ⟨m, rfl, by omega, by omega, fun names hnl hnd hnok n2 hn2 => ?_⟩
      show LS _ _ _ _ _ _ _ _
      refine LS.seq (LS.mid (fun ρ s => ∃ (w : Int), ρ = [some (.scr ns), some (.adr A), some (.int (0 + (i : Int))), some d, some (.lst (names.map D.str)), some (.int w), e6, e7, e8, e9, e10, e11, e12, e13, e14, e15, e16, e17, e18, e19, e20] ∧ s = ⟨[], [(A, B, C, n2)], []⟩ ∧ 0 < w ∧ w ≤ 99 ∧ (∀ l, L = some l → l = w)) ?_ ?_)
      · rcases hL with ⟨rfl, rfl⟩ | ⟨l, rfl, rfl, hl1, hl2⟩
        · walk_at "sxn"
          exact ⟨rfl, by decide, by decide, fun l e => by cases e⟩
        · walk_at "sxn"
          exact ⟨rfl, by omega, hLl l rfl, fun l e => by cases e; rfl⟩
      rintro ρ s ⟨w, rfl, rfl, hw0, hw1, hwL⟩
      show LS _ _ _ _ _ _ _ _
      walk_at "sxn"
      rename_i z1 hz10 hz11
      intro d1 hd1
      obtain ⟨j1, rfl, hj10, hj11⟩ : ∃ j1 : Int, d1 = .int j1 ∧ 0 < j1 ∧ j1 < 8 := by
        simp only [List.mem_cons, List.not_mem_nil, or_false] at hd1
        rcases hd1 with rfl | rfl | rfl
        all_goals exact ⟨_, rfl, by decide, by decide⟩
      walk_at "sxn"
      rename_i z2 hz20 hz21
      intro d2 hd2
      obtain ⟨j2, rfl, hj20, hj21⟩ : ∃ j2 : Int, d2 = .int j2 ∧ 0 < j2 ∧ j2 < 8 := by
        simp only [List.mem_cons, List.not_mem_nil, or_false] at hd2
        rcases hd2 with rfl | rfl
        all_goals exact ⟨_, rfl, by decide, by decide⟩
      have fF : Fit 7 (Rat.divInt (z1 - 20) j1) := fit_divInt (by omega) (by omega) (by omega)
      generalize Rat.divInt (z1 - 20) j1 = F at *
      have f2 : Fit 7 (Rat.divInt (1 + z2) j2) := fit_divInt (by omega) (by omega) (by omega)
      have g2 : 0 < Rat.divInt (1 + z2) j2 := divInt_gt0 (by omega) hj20
      refine LA.nil ⟨_, _, rfl, by omega, by omega, ?_⟩
      generalize Rat.divInt (1 + z2) j2 = dl at *
      have fla : Fit 15 (F + dl) := fF.add f2
      walk_at "sxn"
      rename_i z3 hz30 hz31
      intro d3 hd3
      obtain ⟨j3, rfl, hj30, hj31⟩ : ∃ j3 : Int, d3 = .int j3 ∧ 0 < j3 ∧ j3 < 8 := by
        simp only [List.mem_cons, List.not_mem_nil, or_false] at hd3
        rcases hd3 with rfl | rfl
        all_goals exact ⟨_, rfl, by decide, by decide⟩
      have f3 : Fit 7 (Rat.divInt (1 + z3) j3) := fit_divInt (by omega) (by omega) (by omega)
      have g3 : 0 < Rat.divInt (1 + z3) j3 := divInt_gt0 (by omega) hj30
      refine LA.nil ⟨_, _, rfl, by omega, by omega, ?_⟩
      generalize Rat.divInt (1 + z3) j3 = dp at *
      have hFl : F < F + dl := by grind
      generalize F + dl = la at *
      have fpa : Fit 23 (la + dp) := fla.add f3
      have hlp : la < la + dp := by grind
      walk_at "sxn"
      generalize la + dp = pt at *
      intro pa
      show LS _ _ _ _ _ _ _ _
      refine LS.seq (LS.for (LI.enum ?_))
      walk_at "sxn"
      have hml : (names.map D.str).length = m := by rw [List.length_map, hnl]
      have hm2 : 2 ≤ m := by omega
      have hm8 : m ≤ 8 := by omega
      have fF4 : Fit 400 F := fF.mono (by decide)
      have fX : ∀ k : Nat, k < m → Fit 12 (Rat.divInt (w * (k : Int)) (m : Int)) := fun k hk => fit_divInt (by omega) (by
        rw [Int.natAbs_mul]
        exact Nat.lt_of_le_of_lt (Nat.mul_le_mul (show w.natAbs ≤ 99 by omega) (show ((k : Int)).natAbs ≤ 8 by omega)) (by decide)) (by omega)
      refine ⟨fun j ρ s => ∃ (e10 e11 : Option D), ρ = [some (.scr ns), some (.adr A), some (.int (0 + (i : Int))), some d, some (.lst (names.map D.str)), some (.int w), some (fr F), some (fr la), some (fr pt), some (.adr pa), e10, e11, e12, e13, e14, e15, e16, e17, e18, e19, e20] ∧ s = ⟨[(pa, .dct (ldsD T.C_Timetable ((restL w F names).take j)))], [(A, B, C, n2 - 1 - 1 - 1 - 1 - 1 - 1)], []⟩, ⟨_, _, rfl, rfl⟩, fun tms j d2 ρ' s' hd2 hI => ?_, fun ρ' s' hI => ?_⟩
      · obtain ⟨e10, e11, rfl, rfl⟩ := hI
        obtain ⟨d4, hd4, rfl⟩ := enumD_get hd2
        obtain ⟨x, hx, rfl⟩ : ∃ x, names[j]? = some x ∧ d4 = .str x := by
          rw [List.getElem?_map] at hd4
          cases e : names[j]? with
          | none => rw [e] at hd4; cases hd4
          | some z => rw [e] at hd4; cases hd4; exact ⟨z, rfl, rfl⟩
        have hj := (List.getElem?_eq_some_iff.mp hx).1
        have fxj : Fit 400 (Rat.divInt (w * (j : Int)) ((names.map D.str).length : Int)) := by rw [hml]; exact (fX j (by omega)).mono (show 12 ≤ 400 by decide)
        refine LG.tup rfl (LGs.consN (LGs.consN (LGs.nil ?_)))
        refine LS.dput rfl ?_
        walk_at "sxn"
        refine ⟨rfl, ?_⟩
        walk_at "sxn"
        rw [hml]
        refine ⟨.inr x, _, _, _, rfl, rfl, by rw [List.length_map, List.length_take]; omega, _, _, rfl, ?_⟩
        have hL2 := restL_get (w := w) (F := F) hx
        rw [hnl] at hL2
        have hps := putD_step (nm := fun q : Str × List Kn => q.1) (f := fun q => tb T.C_Timetable q.2) (by rw [restL_nm]; exact hnd) hL2
        exact congrArg (fun z => (⟨[(pa, D.dct z)], [(A, B, C, n2 - 1 - 1 - 1 - 1 - 1 - 1)], []⟩ : Rs)) hps
      obtain ⟨e10, e11, rfl, rfl⟩ := hI
      rw [enumD_len, hml, List.take_of_length_le (by rw [restL_len]; omega)]
      show LS _ _ _ _ _ _ _ _
      refine' LS.frz 9 ?hi9 ?_
      case' hi9 => exact rfl
      walk_at "sxn"
      rename_i kn hkn0 hkn1
      obtain ⟨ki, rfl⟩ : ∃ ki : Nat, kn = (ki : Int) := ⟨kn.toNat, by omega⟩
      have hki : ki < m := by omega
      obtain ⟨one, hone⟩ := get_of_lt (l := names) (i := ki) (by omega)
      have hmem1 : (one, restK w m F ki) ∈ restL w F names := by
        have := List.mem_of_getElem? (restL_get (w := w) (F := F) hone)
        rwa [hnl] at this
      refine OpD.ixL (atI_nat (by rw [List.getElem?_map, hone]; rfl)) ?_
      walk_at "sxn"
      have hrm : (restL w F names).map (·.1) = names := restL_nm
      refine (LS.mid (fun ρ s => ∃ two, ρ = [some (.scr ns), some (.adr A), some (.int (0 + (i : Int))), some d, some (.lst (names.map D.str)), some (.int w), some (fr F), some (fr la), some (fr pt), some (.dct (ldsD T.C_Timetable (restL w F names))), e10, e11, some (.str one), some (.str two), e14, e15, e16, e17, e18, e19, e20] ∧ s = ⟨[], [(A, B, C, n2 - 1 - 1 - 1 - 1 - 1 - 1 - 1)], []⟩ ∧ (two = Str.ofString "other" ∨ two = Str.ofString "others")) ?_ ?_)
      · refine LS.ite (LT.test ?_)
        walk_at "sxn"
        refine ⟨_, .inr (Str.ofString "other"), rfl, rfl, _, rfl, fun _ => ?_, fun _ => ?_⟩
        · walk_at "sxn"
          exact ⟨rfl, .inr rfl⟩
        · walk_at "sxn"
          exact ⟨rfl, .inl rfl⟩
      rintro ρ s ⟨two, rfl, rfl, htwo⟩
      show LS _ _ _ _ _ _ _ _
      refine LS.seq (LS.ite (LT.test ?_))
      walk_at "sxn"
      refine ⟨_, .inr two, rfl, rfl, _, rfl, fun _ => ?_, fun hnt => ?_⟩
      · walk_at "sxn"
      rw [val_some, hrm, decide_eq_false_iff_not] at hnt
      refine LS.next ?_
      show LS _ _ _ _ _ _ _ _
      refine LS.seq (LS.mid (fun ρ s => ∃ (z : Int) (m3 : Nat), ρ = [some (.scr ns), some (.adr A), some (.int (0 + (i : Int))), some d, some (.lst (names.map D.str)), some (.int w), some (fr F), some (fr la), some (fr pt), some (.dct (ldsD T.C_Timetable (restL w F names))), e10, e11, some (.str one), some (.str two), some (.tup [.int (w * z), .int 1]), e15, e16, e17, e18, e19, e20] ∧ s = ⟨[], [(A, B, C, m3)], []⟩ ∧ (L = none → z = 0) ∧ z.natAbs ≤ 2 ∧ n2 ≤ m3 + 10) ?_ ?_)
      · rcases hL with ⟨rfl, rfl⟩ | ⟨l, rfl, rfl, hl1, hl2⟩
        · walk_at "sxn"
          exact ⟨0, _, by rw [Int.mul_zero]; rfl, rfl, fun _ => rfl, by decide, by omega⟩
        · walk_at "sxn"
          rename_i z hz0 hz1
          exact ⟨fun e => (by cases e), by omega, by omega⟩
      rintro ρ s ⟨z, m3, rfl, rfl, hzL, hz2, hm3⟩
      have hkr : ∀ k, k < m → KS (restK w m F k) := fun k hk =>
        have ok : KOk (restK w m F k) := ⟨Nat.succ_pos _, by show (1 : Nat) ≤ 900; decide, trivial, fun p hp => by rw [List.mem_singleton.mp hp]; exact ⟨fF4, (fX k hk).mono (by decide)⟩⟩
        ⟨ok, fun p hp => by rw [List.mem_singleton.mp hp]; exact ⟨fF.mono (by decide), (fX k hk).mono (by decide)⟩⟩
      have hk1 := (hkr ki hki).ok
      have hl1 : Late (restK w m F ki) F := fun p hp => by cases hp; exact Rat.le_refl
      have vT1 : valD (ldsD T.C_Timetable (restL w F names)) (.inr one) = some (tb T.C_Timetable (restK w m F ki)) := valD_map (nm := fun q : Str × List Kn => q.1) (f := fun q => tb T.C_Timetable q.2) (by rw [hrm]; exact hnd) hmem1
      show LS _ _ _ _ _ _ _ _
      walk_at "sxn"
      refine ⟨_, .inr one, _, rfl, rfl, vT1, ?_⟩
      walk_at "sxn"
      rw [posQ_rest]
      have hwz : (w * z).natAbs < 2 ^ 20 := by
        rw [Int.natAbs_mul]
        exact Nat.lt_of_le_of_lt (Nat.mul_le_mul (show w.natAbs ≤ 99 by omega) hz2) (by decide)
      refine ⟨_, _, _, _, 12, 20, rfl, ⟨rfl, fX ki hki⟩, Fr.lit 20 (by decide) (Int.gcd_one_right _) hwz (by decide), by decide, ?_⟩
      rw [divInt_1]
      have fsp : Fit 34 (Rat.divInt (w * (ki : Int)) (m : Int) + ((w * z : Int) : Rat)) := ((fX ki hki).add (Fit.int hwz)).mono (by decide)
      have fgo : Fit 12 (Rat.divInt w (9 * (m : Int))) := fit_divInt (by omega) (by omega) (by omega)
      have fgo2 : Fit 12 (Rat.divInt w (9 * ((names.map D.str).length : Int))) := by rw [hml]; exact fgo
      generalize hX : Rat.divInt (w * (ki : Int)) (m : Int) + ((w * z : Int) : Rat) = X at *
      walk_at "sxn"
      rw [hml]
      have hll : (restL w F names).length = m := by rw [restL_len, hnl]
      have hnd2 : ((restL w F names).map fun q : Str × List Kn => q.1).Nodup := by rw [hrm]; exact hnd
      have hldl : (ldsD T.C_Timetable (restL w F names)).length = m := by rw [List.length_map, hll]
      refine LE.ofL (LEL.lcFD Tg.name DWalk.keys rfl (by intro x hx; cases hx) ⟨fun i => pairsD ((ldsD T.C_Timetable (restL w F names)).take i), by rw [keysD_len]; omega, rfl, fun H0' tms p j d5 hd5 => ?_, ?_⟩)
      · obtain ⟨q5, hq5, rfl⟩ := keysD_get hd5
        walk_at "sxn"
        refine ⟨_, .inr q5.1, _, rfl, rfl, valD_map (nm := fun q : Str × List Kn => q.1) (f := fun q => tb T.C_Timetable q.2) hnd2 (List.mem_of_getElem? hq5), ?_⟩
        walk_at "sxn"
        refine ⟨rfl, ?_⟩
        have hq6 : (ldsD T.C_Timetable (restL w F names))[j]? = some (.inr q5.1, tb T.C_Timetable q5.2) := by rw [List.getElem?_map, hq5]; rfl
        unfold pairsD
        dsimp only
        rw [take_succ_get hq6, List.map_append]
        rfl
      dsimp only
      rw [keysD_len, hll, List.take_of_length_le (by omega)]
      refine LA.nil ⟨_, rfl, ?_⟩
      rw [merge_map (nm := fun q : Str × List Kn => q.1) hnd2]
      intro pb
      show LS _ _ _ _ _ _ _ _
      generalize hY : X + Rat.divInt w (9 * (m : Int)) = Y at *
      have fY : Fit 50 Y := by rw [← hY]; exact (fsp.add fgo).mono (by decide)
      have hk2 : KS (twoK la pt X Y) := by
        have ha : asc (twoK la pt X Y) := ⟨hlp, (by show pt < pt + 1; grind), trivial⟩
        have hf : ∀ p ∈ twoK la pt X Y, Fit 100 p.1 ∧ Fit 330 p.2 := fun p hp => by
          unfold twoK at hp
          simp only [List.mem_cons, List.not_mem_nil, or_false] at hp
          rcases hp with rfl | rfl | rfl
          · exact ⟨fla.mono (by decide), fsp.mono (by decide)⟩
          · exact ⟨fpa.mono (by decide), fsp.mono (by decide)⟩
          · exact ⟨(fpa.add Fit.one).mono (by decide), fY.mono (by decide)⟩
        exact ⟨⟨Nat.succ_pos _, by show (3 : Nat) ≤ 900; decide, ha, fun p hp => ⟨(hf p hp).1.mono (by decide), (hf p hp).2.mono (by decide)⟩⟩, hf⟩
      have hpd : putD (ldsD T.C_Timetable (restL w F names)) (.inr two) (tb T.C_Timetable (twoK la pt X Y)) = ldsD T.C_Timetable (restL w F names ++ [(two, twoK la pt X Y)]) := by
        rw [putD_new (fun x hx e => ?_)]
        · unfold ldsD
          rw [List.map_append]
          rfl
        · obtain ⟨q, hq, rfl⟩ := List.mem_map.mp hx
          refine hnt ?_
          rw [← hrm]
          refine List.mem_map.mpr ⟨q, hq, ?_⟩
          injection e
      have hBl : (restL w F names ++ [(two, twoK la pt X Y)]).length ≤ 12 := by rw [List.length_append, hll]; show m + 1 ≤ 12; omega
      have hBn : ((restL w F names ++ [(two, twoK la pt X Y)]).map fun q : Str × List Kn => q.1).Nodup := by
        rw [List.map_append, hrm]
        refine List.nodup_append.mpr ⟨hnd, (by simp), fun a ha b hb => ?_⟩
        have : b = two := by simpa using hb
        subst this
        exact fun e => hnt (e ▸ ha)
      have hBc : ∀ q ∈ restL w F names ++ [(two, twoK la pt X Y)], (∃ k, k < m ∧ names[k]? = some q.1 ∧ q.2 = restK w m F k) ∨ (q.1 = two ∧ q.2 = twoK la pt X Y) := fun q hq => by
        rcases List.mem_append.mp hq with h | h
        · obtain ⟨k, h1, h2, h3⟩ := restL_mem h
          rw [hnl] at h1 h3
          exact .inl ⟨k, h1, h2, h3⟩
        · rw [List.mem_singleton.mp h]; exact .inr ⟨rfl, rfl⟩
      have hBk : ∀ q ∈ restL w F names ++ [(two, twoK la pt X Y)], KS q.2 := fun q hq => by
        rcases hBc q hq with ⟨k, h1, _, h3⟩ | ⟨_, h⟩
        · rw [h3]; exact hkr k h1
        · rw [h]; exact hk2
      have hB1 : (one, restK w m F ki) ∈ restL w F names ++ [(two, twoK la pt X Y)] := List.mem_append_left _ hmem1
      have hB2 : (two, twoK la pt X Y) ∈ restL w F names ++ [(two, twoK la pt X Y)] := List.mem_append_right _ (List.mem_singleton.mpr rfl)
      have h12 : one ≠ two := fun e => hnt (by rw [← e]; exact List.mem_of_getElem? hone)
      generalize hBL : restL w F names ++ [(two, twoK la pt X Y)] = BL at *
      refine LS.seq (LS.dput rfl ?_)
      walk_at "sxn"
      refine ⟨twoK la pt X Y, rfl, hk2.ok, (by show (3 : Nat) ≤ 40; decide), ?_⟩
      walk_at "sxn"
      refine ⟨.inr two, _, _, _, rfl, rfl, by rw [List.length_map]; omega, ?_⟩
      show LS _ _ _ _ _ _ _ _
      rw [hpd]
      refine' LS.frz 17 ?hi17 ?_
      case' hi17 => exact rfl
      have hsd0 : ∀ t, la ≤ t → t ≤ pt → sdQ L (restK w m F ki) (twoK la pt X Y) t = 0 := by
        subst hX
        exact fun t h1 h2 => two_side hw0 hwL hzL hki (Rat.le_of_lt hFl) h1 h2 hk1 hk2.ok
      have hap : ∀ l, l < m → spotQ L (posQ (restK w m F l) (pt + Rat.divInt 1 5)) ≠ spotQ L (posQ (twoK la pt X Y) (pt + Rat.divInt 1 5)) := by
        subst hY
        subst hX
        exact fun l hl => two_apart hw0 hwL hzL hki hl
      have hfst : ∀ q ∈ BL, fst0 q.2 = F ∨ fst0 q.2 = la := fun q hq => by
        rcases hBc q hq with ⟨k, h1, _, h3⟩ | ⟨_, h⟩
        · rw [h3]; exact .inl rfl
        · rw [h]; exact .inr rfl
      have hne1 : ∀ t, ∀ p ∈ restL w F names, ∀ q ∈ restL w F names, p.1 ≠ q.1 → sdQ L p.2 q.2 t ≠ 0 := fun t p hp q hq hne => by
        obtain ⟨k, h1, h2, h3⟩ := restL_mem hp
        obtain ⟨l, h4, h5, h6⟩ := restL_mem hq
        rw [hnl] at h1 h3 h4 h6
        rw [h3, h6]
        refine rest_sd hw0 hwL h1 h4 fun e => hne ?_
        rw [e, h5] at h2
        injection h2 with h2
        exact h2.symm
      have hne2 : ∀ p ∈ BL, ∀ q ∈ BL, p.1 ≠ q.1 → sdQ L p.2 q.2 (pt + Rat.divInt 1 5) ≠ 0 := fun p hp q hq hne => by
        rcases hBc p hp with ⟨k, h1, h2, h3⟩ | ⟨h2, h3⟩
        · rcases hBc q hq with ⟨l, h4, h5, h6⟩ | ⟨h5, h6⟩
          · rw [h3, h6]
            refine rest_sd hw0 hwL h1 h4 fun e => hne ?_
            rw [e, h5] at h2
            injection h2 with h2
            exact h2.symm
          · rw [h3, h6]
            exact sd_apart (hap k h1)
        · rcases hBc q hq with ⟨l, h4, h5, h6⟩ | ⟨h5, h6⟩
          · rw [h3, h6]
            exact sd_apart fun e => hap l h4 e.symm
          · exact absurd (h2.trans h5.symm) hne
      have hrk : ∀ q ∈ restL w F names, KS q.2 ∧ fst0 q.2 = F := fun q hq => by
        obtain ⟨k, h1, h2, h3⟩ := restL_mem hq
        rw [hnl] at h1 h3
        rw [h3]
        exact ⟨hkr k h1, rfl⟩
      have hrl12 : (restL w F names).length ≤ 12 := by omega
      have hCne : T.C_NoTime ≠ T.C_NoTrack := fun e => by
        have h1 := T.kt_NoTime_NoTrack
        rw [e, T.kt_NoTrack_NoTrack] at h1
        cases h1
      have hkip : Ip 40 (.lst (keysD (ldsD T.C_Timetable BL))) = true := keys_ip fun q hq => by
        rcases hBc q hq with ⟨k, h1, h2, _⟩ | ⟨h2, _⟩
        · exact name_strOk (hnok _ (List.mem_of_getElem? h2))
        · rw [h2]
          rcases htwo with rfl | rfl
          · decide +kernel
          · decide +kernel
      walk_at "sxn"
      intro odd hodd
      have hbad : BadLen odd := by
        simp only [List.mem_cons, List.not_mem_nil, or_false] at hodd
        rcases hodd with rfl | rfl | rfl | rfl | rfl | rfl | rfl | rfl | rfl
        · exact .inl ⟨_, rfl, by decide⟩
        · exact .inl ⟨_, rfl, by decide⟩
        · exact .inl ⟨_, rfl, by decide⟩
        · exact .inr (.inl ⟨_, rfl⟩)
        · exact .inr (.inl ⟨_, rfl⟩)
        · exact .inr (.inr (.inl ⟨_, rfl⟩))
        · exact .inr (.inr (.inr (.inl ⟨_, rfl⟩)))
        · exact .inr (.inr (.inr (.inr (.inl ⟨_, rfl⟩))))
        · exact .inr (.inr (.inr (.inr (.inr (.inr rfl)))))
      clear hodd
      show LS _ _ _ _ _ _ _ _
      refine LS.seq (LS.set (LE.ofL (LEL.keysOf ?_)))
      walk_at "sxn"
      first
        | refine LS.seq (LS.for (LI.list (LE.ofL (LEL.lst ?_))))
        | refine LS.for (LI.list (LE.ofL (LEL.lst ?_)))
      walk_at "sxn"
      refine ⟨_, _, _, _, 7, 10, rfl, ⟨rfl, fF⟩, Fr.lit 10 (by decide) (by decide) (by decide) (by decide), by decide, ?_⟩
      walk_at "sxn"
      have g3 : (0 : Rat) < Rat.divInt 1 3 := divInt_gt0 (by decide) (by decide)
      have fg3 : Fit 10 (Rat.divInt 1 3) := fit_divInt (by decide) (by decide) (by decide)
      have hts : ∀ t ∈ [F - Rat.divInt 1 3, F, la, pt], Fit 700 t ∧ ((∃ q ∈ BL, t < fst0 q.2) ∨ ((∀ q ∈ BL, KS q.2 ∧ fst0 q.2 ≤ t) ∧ ∃ p ∈ BL, ∃ q ∈ BL, p.1 ≠ q.1 ∧ sdQ L p.2 q.2 t = 0)) := fun t ht => by
        have hle : ∀ t, la ≤ t → ∀ q ∈ BL, KS q.2 ∧ fst0 q.2 ≤ t := fun t h q hq => ⟨hBk q hq, by rcases hfst q hq with e | e <;> rw [e] <;> grind⟩
        simp only [List.mem_cons, List.not_mem_nil, or_false] at ht
        rcases ht with rfl | rfl | rfl | rfl
        · exact ⟨(fF.sub fg3).mono (by decide), .inl ⟨_, hB1, by show F - Rat.divInt 1 3 < F; grind⟩⟩
        · exact ⟨fF.mono (by decide), .inl ⟨_, hB2, hFl⟩⟩
        · exact ⟨fla.mono (by decide), .inr ⟨hle _ Rat.le_refl, _, hB1, _, hB2, h12, hsd0 _ Rat.le_refl (Rat.le_of_lt hlp)⟩⟩
        · exact ⟨fpa.mono (by decide), .inr ⟨hle _ (Rat.le_of_lt hlp), _, hB1, _, hB2, h12, hsd0 _ (Rat.le_of_lt hlp) Rat.le_refl⟩⟩
      have ets : [fr (F - Rat.divInt 1 3), fr F, fr la, fr pt] = [F - Rat.divInt 1 3, F, la, pt].map fr := rfl
      rw [ets]
      generalize [F - Rat.divInt 1 3, F, la, pt] = ts at *
      refine ⟨fun j ρ s => ∃ (e20 : Option D), ρ = [some (.scr ns), some (.adr A), some (.int (0 + (i : Int))), some d, some (.lst (names.map D.str)), some (.int w), some (fr F), some (fr la), some (fr pt), some (.dct (ldsD T.C_Timetable (restL w F names))), e10, e11, some (.str one), some (.str two), some (.tup [.int (w * z), .int 1]), some (fr X), some (fr Y), some (.dct (ldsD T.C_Timetable BL)), some odd, some (.lst (keysD (ldsD T.C_Timetable BL))), e20] ∧ s = ⟨[], [(A, B, C, m3 - 1)], []⟩, ⟨_, rfl, rfl⟩, fun tms j d6 ρ' s' hd6 hI => ?_, fun ρ' s' hI => ?_⟩
      · obtain ⟨e20, rfl, rfl⟩ := hI
        obtain ⟨t, ht, rfl⟩ := frL_get hd6
        obtain ⟨ft, hct⟩ := hts t (List.mem_of_getElem? ht)
        refine LG.name ?_
        refine LS.seq (LS.ite (LT.test (LE.op (LE.lamW (LX.bad T.C_NoTrack (LER.callN ?_) ⟨Or.inr rfl, ?_⟩)))))
        · walk_at "sxn"
          exact ⟨rfl, rfl, rfl, _, _, _, _, rfl, ⟨rfl, ft⟩, hbad⟩
        rw [if_pos rfl]
        walk_at "sxn"
        refine LS.ite (LT.test (LE.op (LE.lamW (LX.bad T.C_NoTime (LER.callNS (S := fun ds => Q_order_at T.C_Timetable ds ∨ Z_order_at T.C_Timetable ds) (fun vs H Q E h => ?_) ?_) ⟨Or.inl rfl, ?_⟩))))
        · obtain ⟨Xs, ds, a1, a2, a3, a4, a5, a6⟩ := h
          rcases a5 with a5 | a5
          · exact .inr (.inr (.inl ⟨Xs, ds, a1, a2, a3, a4, a5, a6⟩))
          · exact .inr (.inr (.inr ⟨Xs, ds, a1, a2, a3, a4, a5, a6⟩))
        · walk_at "sxn"
          refine ⟨rfl, rfl, rfl, ?_⟩
          rcases hct with h | ⟨h1, h2⟩
          · exact .inl ⟨_, _, _, _, _, rfl, hBl, hBk, ⟨rfl, ft⟩, hL, h⟩
          · exact .inr ⟨_, _, _, _, _, rfl, hBl, hBn, h1, ⟨rfl, ft⟩, hL, h2⟩
        rw [if_neg hCne]
        walk_at "sxn"
      obtain ⟨e20, rfl, rfl⟩ := hI
      show LS _ _ _ _ _ _ _ _
      refine LS.next ?_
      show LS _ _ _ _ _ _ _ _
      have g9 : (0 : Rat) < Rat.divInt 1 9 := divInt_gt0 (by decide) (by decide)
      have fg9 : Fit 10 (Rat.divInt 1 9) := fit_divInt (by decide) (by decide) (by decide)
      have fF9 : Fit 700 (F - Rat.divInt 1 9) := (fF.sub fg9).mono (by decide)
      refine LS.seq (LS.ite (LT.test (LE.op (LE.lamW (LX.bad T.C_NoTime (LER.callN ?_) ⟨Or.inl rfl, ?_⟩)))))
      · walk_at "sxn"
        refine ⟨_, _, _, _, 7, 10, rfl, ⟨rfl, fF⟩, Fr.lit 10 (by decide) (by decide) (by decide) (by decide), by decide, ?_⟩
        walk_at "sxn"
        exact ⟨rfl, rfl, rfl, _, _, _, _, _, rfl, hrl12, fun q hq => (hrk q hq).1, ⟨rfl, fF9⟩, hL, _, hmem1, by show F - Rat.divInt 1 9 < F; grind⟩
      rw [if_neg hCne]
      walk_at "sxn"
      have fF7 : Fit 700 F := fF.mono (by decide)
      have hkF : ∀ q ∈ restL w F names, KS q.2 ∧ fst0 q.2 ≤ F := fun q hq => ⟨(hrk q hq).1, by rw [(hrk q hq).2]; exact Rat.le_refl⟩
      have hneF := hne1 F
      refine LS.ite (LT.or (LT.test (LE.op (LE.lamW (LX.good fun E => ?_)))))
      walk_at "sxn"
      refine ⟨rfl, ?_⟩
      walk_at "sxn"
      refine CbD.keysOf ?_
      walk_at "sxn"
      refine OpD.neS hkip ⟨false, rfl, fun h => Bool.noConfusion h, fun _ => ?_⟩
      refine LS.next ?_
      show LS _ _ _ _ _ _ _ _
      have g5 : (0 : Rat) < Rat.divInt 1 5 := divInt_gt0 (by decide) (by decide)
      have fg5 : Fit 10 (Rat.divInt 1 5) := fit_divInt (by decide) (by decide) (by decide)
      have fP5 : Fit 700 (pt + Rat.divInt 1 5) := (fpa.add fg5).mono (by decide)
      have hkP : ∀ q ∈ BL, KS q.2 ∧ fst0 q.2 ≤ pt + Rat.divInt 1 5 := fun q hq => ⟨hBk q hq, by rcases hfst q hq with e | e <;> rw [e] <;> grind⟩
      refine LS.ite (LT.test (LE.op (LE.lamW (LX.good fun E => ?_))))
      walk_at "sxn"
      refine ⟨_, _, _, _, 23, 10, rfl, ⟨rfl, fpa⟩, Fr.lit 10 (by decide) (by decide) (by decide) (by decide), by decide, ?_⟩
      walk_at "sxn"
      refine ⟨rfl, ?_⟩
      walk_at "sxn"
      exact ⟨⟨_, _, _, _, _, _, _, _, _, _, _, _, _, _, _, _, _, _, _, rfl⟩, _, rfl, by omega⟩
    · obtain ⟨⟨e2, e3, e4, e5, e6, e7, e8, e9, e10, e11, e12, e13, e14, e15, e16, e17, e18, e19, e20, rfl⟩, n, rfl, hn⟩ := hI
      walk_at "sxn"


end
theorem all_mk {l : PySem.W.OpenLaw} {w : World} {K : PySem.W.Frag} {h : Heap} {mg : Str → Option Value} {fa cA_ordered PA_ordered cA_law PA_law : Addr} (X : K.In h) (G : h.Ns mainGlobals mg) (hfa : mg "law" = some (.ref fa))
    {ts : List Addr} (tabs : ∀ P ∈ ts, h.get? P = some { cls := .none, data := .fields #[] })
    {C_Timetable : Addr} (a_Timetable : PySem.W.nsIn K mainGlobals "Timetable" = some (some (.ref C_Timetable)))
    (pg_Timetable : PySem.W.plainGet K C_Timetable Str.empty = true) (hd_Timetable : PySem.W.hasDictIn K C_Timetable = true) (po_Timetable : PySem.W.plainOver K C_Timetable = true) (sa_Timetable : PySem.W.findIn K (.ref C_Timetable) "__setattr__" = some (some (.builtin "object.__setattr__"))) (mk_Timetable : PySem.W.makesIn K C_Timetable = true) (kc_Timetable : PySem.W.keepIn K (.ref C_Timetable) = true)
    (oa_Timetable : PySem.W.findIn K (.ref C_Timetable) "__class__" = some (some (.builtin "object.__class__"))) (om_Timetable : PySem.W.mroIn K C_Timetable (.type "object") = some true) (on_Timetable : PySem.W.findIn K (.ref C_Timetable) "__ne__" = some (some (.builtin "object.__ne__")))
    (n_Timetable_points : PySem.W.findIn K (.ref C_Timetable) "points" = some none)
    (n_Timetable_turns : PySem.W.findIn K (.ref C_Timetable) "turns" = some none)
    (rd_Timetable : PySem.W.readsIn K C_Timetable (.type "type") = true) (ga_Timetable : PySem.W.specialIn K (.ref C_Timetable) "__getattribute__" = some (some (.builtin "type.__getattribute__")))
    {u_Timetable_MOST : Value} (ka_Timetable_MOST : PySem.W.findIn K (.ref C_Timetable) "MOST" = some (some u_Timetable_MOST)) (kr_Timetable_MOST : RelV (.int 40) u_Timetable_MOST) (kg_Timetable_MOST : PySem.W.specialIn K u_Timetable_MOST "__get__" = some none)
    {a_ZERO : Addr} {od_ZERO : Option Addr} {n_ZERO : Nat} {sl_ZERO : Array (Option Value)} {t0_ZERO : Nat} {t1_ZERO : Nat}
    (c_ZERO : PySem.W.nsIn K mainGlobals "ZERO" = some (some (.ref a_ZERO))) (l_ZERO : K.lookup a_ZERO = some ⟨.type "tuple", od_ZERO, .seq #[.int 0 t0_ZERO, .int 1 t1_ZERO] n_ZERO, sl_ZERO⟩)
    (ob_ : PySem.W.specialIn K (.builtin "object.__class__") "__get__" = some (some (.builtin "getset_descriptor.__get__"))) (oc_ : PySem.W.takesIn K (.builtin "object.__class__") = some true)
    {f_is_whole : Addr} {od_is_whole an_is_whole : Option Addr} {sl_is_whole : Array (Option Value)} {oc_is_whole kV_is_whole dc_is_whole pm_is_whole cd_is_whole ct_is_whole : Value}
    {f_common_divisor : Addr} {od_common_divisor an_common_divisor : Option Addr} {sl_common_divisor : Array (Option Value)} {oc_common_divisor kV_common_divisor dc_common_divisor pm_common_divisor cd_common_divisor ct_common_divisor : Value}
    {f_is_fraction : Addr} {od_is_fraction an_is_fraction : Option Addr} {sl_is_fraction : Array (Option Value)} {oc_is_fraction kV_is_fraction dc_is_fraction pm_is_fraction cd_is_fraction ct_is_fraction : Value}
    {f_new_fraction : Addr} {od_new_fraction an_new_fraction : Option Addr} {sl_new_fraction : Array (Option Value)} {oc_new_fraction kV_new_fraction dc_new_fraction pm_new_fraction cd_new_fraction ct_new_fraction dV_new_fraction : Value}
    {f_sum_of : Addr} {od_sum_of an_sum_of : Option Addr} {sl_sum_of : Array (Option Value)} {oc_sum_of kV_sum_of dc_sum_of pm_sum_of cd_sum_of ct_sum_of : Value}
    {f_rest_of : Addr} {od_rest_of an_rest_of : Option Addr} {sl_rest_of : Array (Option Value)} {oc_rest_of kV_rest_of dc_rest_of pm_rest_of cd_rest_of ct_rest_of : Value}
    {f_product_of : Addr} {od_product_of an_product_of : Option Addr} {sl_product_of : Array (Option Value)} {oc_product_of kV_product_of dc_product_of pm_product_of cd_product_of ct_product_of : Value}
    {f_share_of : Addr} {od_share_of an_share_of : Option Addr} {sl_share_of : Array (Option Value)} {oc_share_of kV_share_of dc_share_of pm_share_of cd_share_of ct_share_of : Value}
    {f_order_of : Addr} {od_order_of an_order_of : Option Addr} {sl_order_of : Array (Option Value)} {oc_order_of kV_order_of dc_order_of pm_order_of cd_order_of ct_order_of : Value}
    {f_is_less : Addr} {od_is_less an_is_less : Option Addr} {sl_is_less : Array (Option Value)} {oc_is_less kV_is_less dc_is_less pm_is_less cd_is_less ct_is_less : Value}
    {f_floor_of : Addr} {od_floor_of an_floor_of : Option Addr} {sl_floor_of : Array (Option Value)} {oc_floor_of kV_floor_of dc_floor_of pm_floor_of cd_floor_of ct_floor_of : Value}
    {f_need_length : Addr} {od_need_length an_need_length : Option Addr} {sl_need_length : Array (Option Value)} {oc_need_length kV_need_length dc_need_length pm_need_length cd_need_length ct_need_length : Value}
    {f_later_begin : Addr} {od_later_begin an_later_begin : Option Addr} {sl_later_begin : Array (Option Value)} {oc_later_begin kV_later_begin dc_later_begin pm_later_begin cd_later_begin ct_later_begin : Value}
    {f_gap_at : Addr} {od_gap_at an_gap_at : Option Addr} {sl_gap_at : Array (Option Value)} {oc_gap_at kV_gap_at dc_gap_at pm_gap_at cd_gap_at ct_gap_at : Value}
    {f_is_contact : Addr} {od_is_contact an_is_contact : Option Addr} {sl_is_contact : Array (Option Value)} {oc_is_contact kV_is_contact dc_is_contact pm_is_contact cd_is_contact ct_is_contact : Value}
    {f_last_turn : Addr} {od_last_turn an_last_turn : Option Addr} {sl_last_turn : Array (Option Value)} {oc_last_turn kV_last_turn dc_last_turn pm_last_turn cd_last_turn ct_last_turn : Value}
    {f_side_before : Addr} {od_side_before an_side_before : Option Addr} {sl_side_before : Array (Option Value)} {oc_side_before kV_side_before dc_side_before pm_side_before cd_side_before ct_side_before : Value}
    {f_before_at : Addr} {od_before_at an_before_at : Option Addr} {sl_before_at : Array (Option Value)} {oc_before_at kV_before_at dc_before_at pm_before_at cd_before_at ct_before_at : Value}
    {f_is_knot : Addr} {od_is_knot an_is_knot : Option Addr} {sl_is_knot : Array (Option Value)} {oc_is_knot kV_is_knot dc_is_knot pm_is_knot cd_is_knot ct_is_knot : Value}
    {f_are_knots : Addr} {od_are_knots an_are_knots : Option Addr} {sl_are_knots : Array (Option Value)} {oc_are_knots kV_are_knots dc_are_knots pm_are_knots cd_are_knots ct_are_knots : Value}
    {f_slopes_of : Addr} {od_slopes_of an_slopes_of : Option Addr} {sl_slopes_of : Array (Option Value)} {oc_slopes_of kV_slopes_of dc_slopes_of pm_slopes_of cd_slopes_of ct_slopes_of : Value}
    {f_turns_of : Addr} {od_turns_of an_turns_of : Option Addr} {sl_turns_of : Array (Option Value)} {oc_turns_of kV_turns_of dc_turns_of pm_turns_of cd_turns_of ct_turns_of : Value}
    {f_piece_on : Addr} {od_piece_on an_piece_on : Option Addr} {sl_piece_on : Array (Option Value)} {oc_piece_on kV_piece_on dc_piece_on pm_piece_on cd_piece_on ct_piece_on : Value}
    {f_pace_on : Addr} {od_pace_on an_pace_on : Option Addr} {sl_pace_on : Array (Option Value)} {oc_pace_on kV_pace_on dc_pace_on pm_pace_on cd_pace_on ct_pace_on : Value}
    {f_place_on : Addr} {od_place_on an_place_on : Option Addr} {sl_place_on : Array (Option Value)} {oc_place_on kV_place_on dc_place_on pm_place_on cd_place_on ct_place_on : Value}
    {f_Timetable___init__ : Addr} {od_Timetable___init__ an_Timetable___init__ : Option Addr} {sl_Timetable___init__ : Array (Option Value)} {oc_Timetable___init__ kV_Timetable___init__ dc_Timetable___init__ pm_Timetable___init__ cd_Timetable___init__ ct_Timetable___init__ : Value}
    {f_Timetable_resting : Addr} {od_Timetable_resting an_Timetable_resting : Option Addr} {sl_Timetable_resting : Array (Option Value)} {oc_Timetable_resting kV_Timetable_resting dc_Timetable_resting pm_Timetable_resting cd_Timetable_resting ct_Timetable_resting : Value}
    {f_Timetable_begin : Addr} {od_Timetable_begin an_Timetable_begin : Option Addr} {sl_Timetable_begin : Array (Option Value)} {oc_Timetable_begin kV_Timetable_begin dc_Timetable_begin pm_Timetable_begin cd_Timetable_begin ct_Timetable_begin : Value}
    {f_Timetable_at : Addr} {od_Timetable_at an_Timetable_at : Option Addr} {sl_Timetable_at : Array (Option Value)} {oc_Timetable_at kV_Timetable_at dc_Timetable_at pm_Timetable_at cd_Timetable_at ct_Timetable_at : Value}
    {f_lap_of : Addr} {od_lap_of an_lap_of : Option Addr} {sl_lap_of : Array (Option Value)} {oc_lap_of kV_lap_of dc_lap_of pm_lap_of cd_lap_of ct_lap_of : Value}
    {f_spot_of : Addr} {od_spot_of an_spot_of : Option Addr} {sl_spot_of : Array (Option Value)} {oc_spot_of kV_spot_of dc_spot_of pm_spot_of cd_spot_of ct_spot_of : Value}
    {f_ordered : Addr} {od_ordered an_ordered : Option Addr} {sl_ordered : Array (Option Value)} {oc_ordered kV_ordered dc_ordered pm_ordered ct_ordered : Value}
    {f_order_at : Addr} {od_order_at an_order_at : Option Addr} {sl_order_at : Array (Option Value)} {oc_order_at kV_order_at dc_order_at pm_order_at cd_order_at ct_order_at : Value}
    {f__law_begun : Addr} {od__law_begun an__law_begun : Option Addr} {sl__law_begun : Array (Option Value)} {oc__law_begun kV__law_begun dc__law_begun pm__law_begun cd__law_begun ct__law_begun : Value}
    {f__law_mixed : Addr} {od__law_mixed an__law_mixed : Option Addr} {sl__law_mixed : Array (Option Value)} {oc__law_mixed kV__law_mixed dc__law_mixed pm__law_mixed cd__law_mixed ct__law_mixed : Value}
    {f__law_take : Addr} {od__law_take an__law_take : Option Addr} {sl__law_take : Array (Option Value)} {oc__law_take kV__law_take dc__law_take pm__law_take cd__law_take ct__law_take : Value}
    {f__law_pick : Addr} {od__law_pick an__law_pick : Option Addr} {sl__law_pick : Array (Option Value)} {oc__law_pick kV__law_pick dc__law_pick pm__law_pick cd__law_pick ct__law_pick : Value}
    {f__law_ratio : Addr} {od__law_ratio an__law_ratio : Option Addr} {sl__law_ratio : Array (Option Value)} {oc__law_ratio kV__law_ratio dc__law_ratio pm__law_ratio cd__law_ratio ct__law_ratio : Value}
    {f__law_plus : Addr} {od__law_plus an__law_plus : Option Addr} {sl__law_plus : Array (Option Value)} {oc__law_plus kV__law_plus dc__law_plus pm__law_plus cd__law_plus ct__law_plus : Value}
    {f__law_minus : Addr} {od__law_minus an__law_minus : Option Addr} {sl__law_minus : Array (Option Value)} {oc__law_minus kV__law_minus dc__law_minus pm__law_minus cd__law_minus ct__law_minus : Value}
    {f__law_names : Addr} {od__law_names an__law_names : Option Addr} {sl__law_names : Array (Option Value)} {oc__law_names kV__law_names dc__law_names pm__law_names cd__law_names ct__law_names : Value}
    {f__law_error : Addr} {od__law_error an__law_error : Option Addr} {sl__law_error : Array (Option Value)} {oc__law_error kV__law_error dc__law_error pm__law_error cd__law_error ct__law_error : Value}
    {f_law : Addr} {od_law an_law : Option Addr} {sl_law : Array (Option Value)} {oc_law kV_law dc_law pm_law ct_law : Value}
    (a_is_whole : PySem.W.nsIn K mainGlobals "is_whole" = some (some (.ref f_is_whole)))
    (l_is_whole : K.lookup f_is_whole = some ⟨oc_is_whole, od_is_whole, .func (PySem.W.fnOf "is_whole" "is_whole" (defArgs s_is_whole) (defBody s_is_whole) (defScope s_is_whole) .none kV_is_whole dc_is_whole pm_is_whole an_is_whole cd_is_whole ct_is_whole), sl_is_whole⟩)
    (c_is_whole : PySem.W.codeIn K cd_is_whole "is_whole" = true) (k_is_whole : PySem.W.keepIn K (.ref f_is_whole) = true)
    (a_common_divisor : PySem.W.nsIn K mainGlobals "common_divisor" = some (some (.ref f_common_divisor)))
    (l_common_divisor : K.lookup f_common_divisor = some ⟨oc_common_divisor, od_common_divisor, .func (PySem.W.fnOf "common_divisor" "common_divisor" (defArgs s_common_divisor) (defBody s_common_divisor) (defScope s_common_divisor) .none kV_common_divisor dc_common_divisor pm_common_divisor an_common_divisor cd_common_divisor ct_common_divisor), sl_common_divisor⟩)
    (c_common_divisor : PySem.W.codeIn K cd_common_divisor "common_divisor" = true) (k_common_divisor : PySem.W.keepIn K (.ref f_common_divisor) = true)
    (a_is_fraction : PySem.W.nsIn K mainGlobals "is_fraction" = some (some (.ref f_is_fraction)))
    (l_is_fraction : K.lookup f_is_fraction = some ⟨oc_is_fraction, od_is_fraction, .func (PySem.W.fnOf "is_fraction" "is_fraction" (defArgs s_is_fraction) (defBody s_is_fraction) (defScope s_is_fraction) .none kV_is_fraction dc_is_fraction pm_is_fraction an_is_fraction cd_is_fraction ct_is_fraction), sl_is_fraction⟩)
    (c_is_fraction : PySem.W.codeIn K cd_is_fraction "is_fraction" = true) (k_is_fraction : PySem.W.keepIn K (.ref f_is_fraction) = true)
    (a_new_fraction : PySem.W.nsIn K mainGlobals "new_fraction" = some (some (.ref f_new_fraction)))
    (l_new_fraction : K.lookup f_new_fraction = some ⟨oc_new_fraction, od_new_fraction, .func (PySem.W.fnOf "new_fraction" "new_fraction" (defArgs s_new_fraction) (defBody s_new_fraction) (defScope s_new_fraction) dV_new_fraction kV_new_fraction dc_new_fraction pm_new_fraction an_new_fraction cd_new_fraction ct_new_fraction), sl_new_fraction⟩)
    (c_new_fraction : PySem.W.codeIn K cd_new_fraction "new_fraction" = true) (k_new_fraction : PySem.W.keepIn K (.ref f_new_fraction) = true)
    (y_new_fraction : DflV K dV_new_fraction [.int 1])
    (a_sum_of : PySem.W.nsIn K mainGlobals "sum_of" = some (some (.ref f_sum_of)))
    (l_sum_of : K.lookup f_sum_of = some ⟨oc_sum_of, od_sum_of, .func (PySem.W.fnOf "sum_of" "sum_of" (defArgs s_sum_of) (defBody s_sum_of) (defScope s_sum_of) .none kV_sum_of dc_sum_of pm_sum_of an_sum_of cd_sum_of ct_sum_of), sl_sum_of⟩)
    (c_sum_of : PySem.W.codeIn K cd_sum_of "sum_of" = true) (k_sum_of : PySem.W.keepIn K (.ref f_sum_of) = true)
    (a_rest_of : PySem.W.nsIn K mainGlobals "rest_of" = some (some (.ref f_rest_of)))
    (l_rest_of : K.lookup f_rest_of = some ⟨oc_rest_of, od_rest_of, .func (PySem.W.fnOf "rest_of" "rest_of" (defArgs s_rest_of) (defBody s_rest_of) (defScope s_rest_of) .none kV_rest_of dc_rest_of pm_rest_of an_rest_of cd_rest_of ct_rest_of), sl_rest_of⟩)
    (c_rest_of : PySem.W.codeIn K cd_rest_of "rest_of" = true) (k_rest_of : PySem.W.keepIn K (.ref f_rest_of) = true)
    (a_product_of : PySem.W.nsIn K mainGlobals "product_of" = some (some (.ref f_product_of)))
    (l_product_of : K.lookup f_product_of = some ⟨oc_product_of, od_product_of, .func (PySem.W.fnOf "product_of" "product_of" (defArgs s_product_of) (defBody s_product_of) (defScope s_product_of) .none kV_product_of dc_product_of pm_product_of an_product_of cd_product_of ct_product_of), sl_product_of⟩)
    (c_product_of : PySem.W.codeIn K cd_product_of "product_of" = true) (k_product_of : PySem.W.keepIn K (.ref f_product_of) = true)
    (a_share_of : PySem.W.nsIn K mainGlobals "share_of" = some (some (.ref f_share_of)))
    (l_share_of : K.lookup f_share_of = some ⟨oc_share_of, od_share_of, .func (PySem.W.fnOf "share_of" "share_of" (defArgs s_share_of) (defBody s_share_of) (defScope s_share_of) .none kV_share_of dc_share_of pm_share_of an_share_of cd_share_of ct_share_of), sl_share_of⟩)
    (c_share_of : PySem.W.codeIn K cd_share_of "share_of" = true) (k_share_of : PySem.W.keepIn K (.ref f_share_of) = true)
    (a_order_of : PySem.W.nsIn K mainGlobals "order_of" = some (some (.ref f_order_of)))
    (l_order_of : K.lookup f_order_of = some ⟨oc_order_of, od_order_of, .func (PySem.W.fnOf "order_of" "order_of" (defArgs s_order_of) (defBody s_order_of) (defScope s_order_of) .none kV_order_of dc_order_of pm_order_of an_order_of cd_order_of ct_order_of), sl_order_of⟩)
    (c_order_of : PySem.W.codeIn K cd_order_of "order_of" = true) (k_order_of : PySem.W.keepIn K (.ref f_order_of) = true)
    (a_is_less : PySem.W.nsIn K mainGlobals "is_less" = some (some (.ref f_is_less)))
    (l_is_less : K.lookup f_is_less = some ⟨oc_is_less, od_is_less, .func (PySem.W.fnOf "is_less" "is_less" (defArgs s_is_less) (defBody s_is_less) (defScope s_is_less) .none kV_is_less dc_is_less pm_is_less an_is_less cd_is_less ct_is_less), sl_is_less⟩)
    (c_is_less : PySem.W.codeIn K cd_is_less "is_less" = true) (k_is_less : PySem.W.keepIn K (.ref f_is_less) = true)
    (a_floor_of : PySem.W.nsIn K mainGlobals "floor_of" = some (some (.ref f_floor_of)))
    (l_floor_of : K.lookup f_floor_of = some ⟨oc_floor_of, od_floor_of, .func (PySem.W.fnOf "floor_of" "floor_of" (defArgs s_floor_of) (defBody s_floor_of) (defScope s_floor_of) .none kV_floor_of dc_floor_of pm_floor_of an_floor_of cd_floor_of ct_floor_of), sl_floor_of⟩)
    (c_floor_of : PySem.W.codeIn K cd_floor_of "floor_of" = true) (k_floor_of : PySem.W.keepIn K (.ref f_floor_of) = true)
    (a_need_length : PySem.W.nsIn K mainGlobals "need_length" = some (some (.ref f_need_length)))
    (l_need_length : K.lookup f_need_length = some ⟨oc_need_length, od_need_length, .func (PySem.W.fnOf "need_length" "need_length" (defArgs s_need_length) (defBody s_need_length) (defScope s_need_length) .none kV_need_length dc_need_length pm_need_length an_need_length cd_need_length ct_need_length), sl_need_length⟩)
    (c_need_length : PySem.W.codeIn K cd_need_length "need_length" = true) (k_need_length : PySem.W.keepIn K (.ref f_need_length) = true)
    (a_later_begin : PySem.W.nsIn K mainGlobals "later_begin" = some (some (.ref f_later_begin)))
    (l_later_begin : K.lookup f_later_begin = some ⟨oc_later_begin, od_later_begin, .func (PySem.W.fnOf "later_begin" "later_begin" (defArgs s_later_begin) (defBody s_later_begin) (defScope s_later_begin) .none kV_later_begin dc_later_begin pm_later_begin an_later_begin cd_later_begin ct_later_begin), sl_later_begin⟩)
    (c_later_begin : PySem.W.codeIn K cd_later_begin "later_begin" = true) (k_later_begin : PySem.W.keepIn K (.ref f_later_begin) = true)
    (a_gap_at : PySem.W.nsIn K mainGlobals "gap_at" = some (some (.ref f_gap_at)))
    (l_gap_at : K.lookup f_gap_at = some ⟨oc_gap_at, od_gap_at, .func (PySem.W.fnOf "gap_at" "gap_at" (defArgs s_gap_at) (defBody s_gap_at) (defScope s_gap_at) .none kV_gap_at dc_gap_at pm_gap_at an_gap_at cd_gap_at ct_gap_at), sl_gap_at⟩)
    (c_gap_at : PySem.W.codeIn K cd_gap_at "gap_at" = true) (k_gap_at : PySem.W.keepIn K (.ref f_gap_at) = true)
    (a_is_contact : PySem.W.nsIn K mainGlobals "is_contact" = some (some (.ref f_is_contact)))
    (l_is_contact : K.lookup f_is_contact = some ⟨oc_is_contact, od_is_contact, .func (PySem.W.fnOf "is_contact" "is_contact" (defArgs s_is_contact) (defBody s_is_contact) (defScope s_is_contact) .none kV_is_contact dc_is_contact pm_is_contact an_is_contact cd_is_contact ct_is_contact), sl_is_contact⟩)
    (c_is_contact : PySem.W.codeIn K cd_is_contact "is_contact" = true) (k_is_contact : PySem.W.keepIn K (.ref f_is_contact) = true)
    (a_last_turn : PySem.W.nsIn K mainGlobals "last_turn" = some (some (.ref f_last_turn)))
    (l_last_turn : K.lookup f_last_turn = some ⟨oc_last_turn, od_last_turn, .func (PySem.W.fnOf "last_turn" "last_turn" (defArgs s_last_turn) (defBody s_last_turn) (defScope s_last_turn) .none kV_last_turn dc_last_turn pm_last_turn an_last_turn cd_last_turn ct_last_turn), sl_last_turn⟩)
    (c_last_turn : PySem.W.codeIn K cd_last_turn "last_turn" = true) (k_last_turn : PySem.W.keepIn K (.ref f_last_turn) = true)
    (a_side_before : PySem.W.nsIn K mainGlobals "side_before" = some (some (.ref f_side_before)))
    (l_side_before : K.lookup f_side_before = some ⟨oc_side_before, od_side_before, .func (PySem.W.fnOf "side_before" "side_before" (defArgs s_side_before) (defBody s_side_before) (defScope s_side_before) .none kV_side_before dc_side_before pm_side_before an_side_before cd_side_before ct_side_before), sl_side_before⟩)
    (c_side_before : PySem.W.codeIn K cd_side_before "side_before" = true) (k_side_before : PySem.W.keepIn K (.ref f_side_before) = true)
    (a_before_at : PySem.W.nsIn K mainGlobals "before_at" = some (some (.ref f_before_at)))
    (l_before_at : K.lookup f_before_at = some ⟨oc_before_at, od_before_at, .func (PySem.W.fnOf "before_at" "before_at" (defArgs s_before_at) (defBody s_before_at) (defScope s_before_at) .none kV_before_at dc_before_at pm_before_at an_before_at cd_before_at ct_before_at), sl_before_at⟩)
    (c_before_at : PySem.W.codeIn K cd_before_at "before_at" = true) (k_before_at : PySem.W.keepIn K (.ref f_before_at) = true)
    (a_is_knot : PySem.W.nsIn K mainGlobals "is_knot" = some (some (.ref f_is_knot)))
    (l_is_knot : K.lookup f_is_knot = some ⟨oc_is_knot, od_is_knot, .func (PySem.W.fnOf "is_knot" "is_knot" (defArgs s_is_knot) (defBody s_is_knot) (defScope s_is_knot) .none kV_is_knot dc_is_knot pm_is_knot an_is_knot cd_is_knot ct_is_knot), sl_is_knot⟩)
    (c_is_knot : PySem.W.codeIn K cd_is_knot "is_knot" = true) (k_is_knot : PySem.W.keepIn K (.ref f_is_knot) = true)
    (a_are_knots : PySem.W.nsIn K mainGlobals "are_knots" = some (some (.ref f_are_knots)))
    (l_are_knots : K.lookup f_are_knots = some ⟨oc_are_knots, od_are_knots, .func (PySem.W.fnOf "are_knots" "are_knots" (defArgs s_are_knots) (defBody s_are_knots) (defScope s_are_knots) .none kV_are_knots dc_are_knots pm_are_knots an_are_knots cd_are_knots ct_are_knots), sl_are_knots⟩)
    (c_are_knots : PySem.W.codeIn K cd_are_knots "are_knots" = true) (k_are_knots : PySem.W.keepIn K (.ref f_are_knots) = true)
    (a_slopes_of : PySem.W.nsIn K mainGlobals "slopes_of" = some (some (.ref f_slopes_of)))
    (l_slopes_of : K.lookup f_slopes_of = some ⟨oc_slopes_of, od_slopes_of, .func (PySem.W.fnOf "slopes_of" "slopes_of" (defArgs s_slopes_of) (defBody s_slopes_of) (defScope s_slopes_of) .none kV_slopes_of dc_slopes_of pm_slopes_of an_slopes_of cd_slopes_of ct_slopes_of), sl_slopes_of⟩)
    (c_slopes_of : PySem.W.codeIn K cd_slopes_of "slopes_of" = true) (k_slopes_of : PySem.W.keepIn K (.ref f_slopes_of) = true)
    (a_turns_of : PySem.W.nsIn K mainGlobals "turns_of" = some (some (.ref f_turns_of)))
    (l_turns_of : K.lookup f_turns_of = some ⟨oc_turns_of, od_turns_of, .func (PySem.W.fnOf "turns_of" "turns_of" (defArgs s_turns_of) (defBody s_turns_of) (defScope s_turns_of) .none kV_turns_of dc_turns_of pm_turns_of an_turns_of cd_turns_of ct_turns_of), sl_turns_of⟩)
    (c_turns_of : PySem.W.codeIn K cd_turns_of "turns_of" = true) (k_turns_of : PySem.W.keepIn K (.ref f_turns_of) = true)
    (a_piece_on : PySem.W.nsIn K mainGlobals "piece_on" = some (some (.ref f_piece_on)))
    (l_piece_on : K.lookup f_piece_on = some ⟨oc_piece_on, od_piece_on, .func (PySem.W.fnOf "piece_on" "piece_on" (defArgs s_piece_on) (defBody s_piece_on) (defScope s_piece_on) .none kV_piece_on dc_piece_on pm_piece_on an_piece_on cd_piece_on ct_piece_on), sl_piece_on⟩)
    (c_piece_on : PySem.W.codeIn K cd_piece_on "piece_on" = true) (k_piece_on : PySem.W.keepIn K (.ref f_piece_on) = true)
    (a_pace_on : PySem.W.nsIn K mainGlobals "pace_on" = some (some (.ref f_pace_on)))
    (l_pace_on : K.lookup f_pace_on = some ⟨oc_pace_on, od_pace_on, .func (PySem.W.fnOf "pace_on" "pace_on" (defArgs s_pace_on) (defBody s_pace_on) (defScope s_pace_on) .none kV_pace_on dc_pace_on pm_pace_on an_pace_on cd_pace_on ct_pace_on), sl_pace_on⟩)
    (c_pace_on : PySem.W.codeIn K cd_pace_on "pace_on" = true) (k_pace_on : PySem.W.keepIn K (.ref f_pace_on) = true)
    (a_place_on : PySem.W.nsIn K mainGlobals "place_on" = some (some (.ref f_place_on)))
    (l_place_on : K.lookup f_place_on = some ⟨oc_place_on, od_place_on, .func (PySem.W.fnOf "place_on" "place_on" (defArgs s_place_on) (defBody s_place_on) (defScope s_place_on) .none kV_place_on dc_place_on pm_place_on an_place_on cd_place_on ct_place_on), sl_place_on⟩)
    (c_place_on : PySem.W.codeIn K cd_place_on "place_on" = true) (k_place_on : PySem.W.keepIn K (.ref f_place_on) = true)
    (a_Timetable___init__ : PySem.W.findIn K (.ref C_Timetable) "__init__" = some (some (.ref f_Timetable___init__))) (i_Timetable___init__ : PySem.W.isFn K (.ref f_Timetable___init__) = true)
    (l_Timetable___init__ : K.lookup f_Timetable___init__ = some ⟨oc_Timetable___init__, od_Timetable___init__, .func (PySem.W.fnOf "__init__" "Timetable.__init__" (defArgs s_Timetable___init__) (defBody s_Timetable___init__) (defScope s_Timetable___init__) .none kV_Timetable___init__ dc_Timetable___init__ pm_Timetable___init__ an_Timetable___init__ cd_Timetable___init__ ct_Timetable___init__), sl_Timetable___init__⟩)
    (c_Timetable___init__ : PySem.W.codeIn K cd_Timetable___init__ "Timetable.__init__" = true) (k_Timetable___init__ : PySem.W.keepIn K (.ref f_Timetable___init__) = true)
    {p_Timetable_resting : Addr} {q_Timetable_resting : List Value} (a_Timetable_resting : PySem.W.findCls K (.ref C_Timetable) (.type "type") "resting" = some (.get (.builtin "classmethod.__get__") (.ref p_Timetable_resting) .none (.ref C_Timetable))) (r_Timetable_resting : PySem.W.recIn K p_Timetable_resting "classmethod" = some (.ref f_Timetable_resting :: q_Timetable_resting)) (i_Timetable_resting : PySem.W.fnIn K f_Timetable_resting = true)
    (l_Timetable_resting : K.lookup f_Timetable_resting = some ⟨oc_Timetable_resting, od_Timetable_resting, .func (PySem.W.fnOf "resting" "Timetable.resting" (defArgs s_Timetable_resting) (defBody s_Timetable_resting) (defScope s_Timetable_resting) .none kV_Timetable_resting dc_Timetable_resting pm_Timetable_resting an_Timetable_resting cd_Timetable_resting ct_Timetable_resting), sl_Timetable_resting⟩)
    (c_Timetable_resting : PySem.W.codeIn K cd_Timetable_resting "Timetable.resting" = true) (k_Timetable_resting : PySem.W.keepIn K (.ref f_Timetable_resting) = true)
    (a_Timetable_begin : PySem.W.findIn K (.ref C_Timetable) "begin" = some (some (.ref f_Timetable_begin))) (i_Timetable_begin : PySem.W.isFn K (.ref f_Timetable_begin) = true)
    (l_Timetable_begin : K.lookup f_Timetable_begin = some ⟨oc_Timetable_begin, od_Timetable_begin, .func (PySem.W.fnOf "begin" "Timetable.begin" (defArgs s_Timetable_begin) (defBody s_Timetable_begin) (defScope s_Timetable_begin) .none kV_Timetable_begin dc_Timetable_begin pm_Timetable_begin an_Timetable_begin cd_Timetable_begin ct_Timetable_begin), sl_Timetable_begin⟩)
    (c_Timetable_begin : PySem.W.codeIn K cd_Timetable_begin "Timetable.begin" = true) (k_Timetable_begin : PySem.W.keepIn K (.ref f_Timetable_begin) = true)
    (a_Timetable_at : PySem.W.findIn K (.ref C_Timetable) "at" = some (some (.ref f_Timetable_at))) (i_Timetable_at : PySem.W.isFn K (.ref f_Timetable_at) = true)
    (l_Timetable_at : K.lookup f_Timetable_at = some ⟨oc_Timetable_at, od_Timetable_at, .func (PySem.W.fnOf "at" "Timetable.at" (defArgs s_Timetable_at) (defBody s_Timetable_at) (defScope s_Timetable_at) .none kV_Timetable_at dc_Timetable_at pm_Timetable_at an_Timetable_at cd_Timetable_at ct_Timetable_at), sl_Timetable_at⟩)
    (c_Timetable_at : PySem.W.codeIn K cd_Timetable_at "Timetable.at" = true) (k_Timetable_at : PySem.W.keepIn K (.ref f_Timetable_at) = true)
    (a_lap_of : PySem.W.nsIn K mainGlobals "lap_of" = some (some (.ref f_lap_of)))
    (l_lap_of : K.lookup f_lap_of = some ⟨oc_lap_of, od_lap_of, .func (PySem.W.fnOf "lap_of" "lap_of" (defArgs s_lap_of) (defBody s_lap_of) (defScope s_lap_of) .none kV_lap_of dc_lap_of pm_lap_of an_lap_of cd_lap_of ct_lap_of), sl_lap_of⟩)
    (c_lap_of : PySem.W.codeIn K cd_lap_of "lap_of" = true) (k_lap_of : PySem.W.keepIn K (.ref f_lap_of) = true)
    (a_spot_of : PySem.W.nsIn K mainGlobals "spot_of" = some (some (.ref f_spot_of)))
    (l_spot_of : K.lookup f_spot_of = some ⟨oc_spot_of, od_spot_of, .func (PySem.W.fnOf "spot_of" "spot_of" (defArgs s_spot_of) (defBody s_spot_of) (defScope s_spot_of) .none kV_spot_of dc_spot_of pm_spot_of an_spot_of cd_spot_of ct_spot_of), sl_spot_of⟩)
    (c_spot_of : PySem.W.codeIn K cd_spot_of "spot_of" = true) (k_spot_of : PySem.W.keepIn K (.ref f_spot_of) = true)
    (a_ordered : PySem.W.nsIn K mainGlobals "ordered" = some (some (.ref f_ordered)))
    (l_ordered : K.lookup f_ordered = some ⟨oc_ordered, od_ordered, .func (PySem.W.fnOf "ordered" "ordered" (defArgs s_ordered) (defBody s_ordered) (defScope s_ordered) .none kV_ordered dc_ordered pm_ordered an_ordered (.ref cA_ordered) ct_ordered), sl_ordered⟩)
    (c_ordered : PySem.W.codeIn K (.ref cA_ordered) "ordered" = true) (k_ordered : PySem.W.keepIn K (.ref f_ordered) = true)
    (a_order_at : PySem.W.nsIn K mainGlobals "order_at" = some (some (.ref f_order_at)))
    (l_order_at : K.lookup f_order_at = some ⟨oc_order_at, od_order_at, .func (PySem.W.fnOf "order_at" "order_at" (defArgs s_order_at) (defBody s_order_at) (defScope s_order_at) .none kV_order_at dc_order_at pm_order_at an_order_at cd_order_at ct_order_at), sl_order_at⟩)
    (c_order_at : PySem.W.codeIn K cd_order_at "order_at" = true) (k_order_at : PySem.W.keepIn K (.ref f_order_at) = true)
    (a__law_begun : PySem.W.nsIn K mainGlobals "_law_begun" = some (some (.ref f__law_begun)))
    (l__law_begun : K.lookup f__law_begun = some ⟨oc__law_begun, od__law_begun, .func (PySem.W.fnOf "_law_begun" "_law_begun" (defArgs s__law_begun) (defBody s__law_begun) (defScope s__law_begun) .none kV__law_begun dc__law_begun pm__law_begun an__law_begun cd__law_begun ct__law_begun), sl__law_begun⟩)
    (c__law_begun : PySem.W.codeIn K cd__law_begun "_law_begun" = true) (k__law_begun : PySem.W.keepIn K (.ref f__law_begun) = true)
    (a__law_mixed : PySem.W.nsIn K mainGlobals "_law_mixed" = some (some (.ref f__law_mixed)))
    (l__law_mixed : K.lookup f__law_mixed = some ⟨oc__law_mixed, od__law_mixed, .func (PySem.W.fnOf "_law_mixed" "_law_mixed" (defArgs s__law_mixed) (defBody s__law_mixed) (defScope s__law_mixed) .none kV__law_mixed dc__law_mixed pm__law_mixed an__law_mixed cd__law_mixed ct__law_mixed), sl__law_mixed⟩)
    (c__law_mixed : PySem.W.codeIn K cd__law_mixed "_law_mixed" = true) (k__law_mixed : PySem.W.keepIn K (.ref f__law_mixed) = true)
    (a__law_take : PySem.W.nsIn K mainGlobals "_law_take" = some (some (.ref f__law_take)))
    (l__law_take : K.lookup f__law_take = some ⟨oc__law_take, od__law_take, .func (PySem.W.fnOf "_law_take" "_law_take" (defArgs s__law_take) (defBody s__law_take) (defScope s__law_take) .none kV__law_take dc__law_take pm__law_take an__law_take cd__law_take ct__law_take), sl__law_take⟩)
    (c__law_take : PySem.W.codeIn K cd__law_take "_law_take" = true) (k__law_take : PySem.W.keepIn K (.ref f__law_take) = true)
    (a__law_pick : PySem.W.nsIn K mainGlobals "_law_pick" = some (some (.ref f__law_pick)))
    (l__law_pick : K.lookup f__law_pick = some ⟨oc__law_pick, od__law_pick, .func (PySem.W.fnOf "_law_pick" "_law_pick" (defArgs s__law_pick) (defBody s__law_pick) (defScope s__law_pick) .none kV__law_pick dc__law_pick pm__law_pick an__law_pick cd__law_pick ct__law_pick), sl__law_pick⟩)
    (c__law_pick : PySem.W.codeIn K cd__law_pick "_law_pick" = true) (k__law_pick : PySem.W.keepIn K (.ref f__law_pick) = true)
    (a__law_ratio : PySem.W.nsIn K mainGlobals "_law_ratio" = some (some (.ref f__law_ratio)))
    (l__law_ratio : K.lookup f__law_ratio = some ⟨oc__law_ratio, od__law_ratio, .func (PySem.W.fnOf "_law_ratio" "_law_ratio" (defArgs s__law_ratio) (defBody s__law_ratio) (defScope s__law_ratio) .none kV__law_ratio dc__law_ratio pm__law_ratio an__law_ratio cd__law_ratio ct__law_ratio), sl__law_ratio⟩)
    (c__law_ratio : PySem.W.codeIn K cd__law_ratio "_law_ratio" = true) (k__law_ratio : PySem.W.keepIn K (.ref f__law_ratio) = true)
    (a__law_plus : PySem.W.nsIn K mainGlobals "_law_plus" = some (some (.ref f__law_plus)))
    (l__law_plus : K.lookup f__law_plus = some ⟨oc__law_plus, od__law_plus, .func (PySem.W.fnOf "_law_plus" "_law_plus" (defArgs s__law_plus) (defBody s__law_plus) (defScope s__law_plus) .none kV__law_plus dc__law_plus pm__law_plus an__law_plus cd__law_plus ct__law_plus), sl__law_plus⟩)
    (c__law_plus : PySem.W.codeIn K cd__law_plus "_law_plus" = true) (k__law_plus : PySem.W.keepIn K (.ref f__law_plus) = true)
    (a__law_minus : PySem.W.nsIn K mainGlobals "_law_minus" = some (some (.ref f__law_minus)))
    (l__law_minus : K.lookup f__law_minus = some ⟨oc__law_minus, od__law_minus, .func (PySem.W.fnOf "_law_minus" "_law_minus" (defArgs s__law_minus) (defBody s__law_minus) (defScope s__law_minus) .none kV__law_minus dc__law_minus pm__law_minus an__law_minus cd__law_minus ct__law_minus), sl__law_minus⟩)
    (c__law_minus : PySem.W.codeIn K cd__law_minus "_law_minus" = true) (k__law_minus : PySem.W.keepIn K (.ref f__law_minus) = true)
    (a__law_names : PySem.W.nsIn K mainGlobals "_law_names" = some (some (.ref f__law_names)))
    (l__law_names : K.lookup f__law_names = some ⟨oc__law_names, od__law_names, .func (PySem.W.fnOf "_law_names" "_law_names" (defArgs s__law_names) (defBody s__law_names) (defScope s__law_names) .none kV__law_names dc__law_names pm__law_names an__law_names cd__law_names ct__law_names), sl__law_names⟩)
    (c__law_names : PySem.W.codeIn K cd__law_names "_law_names" = true) (k__law_names : PySem.W.keepIn K (.ref f__law_names) = true)
    (a__law_error : PySem.W.nsIn K mainGlobals "_law_error" = some (some (.ref f__law_error)))
    (l__law_error : K.lookup f__law_error = some ⟨oc__law_error, od__law_error, .func (PySem.W.fnOf "_law_error" "_law_error" (defArgs s__law_error) (defBody s__law_error) (defScope s__law_error) .none kV__law_error dc__law_error pm__law_error an__law_error cd__law_error ct__law_error), sl__law_error⟩)
    (c__law_error : PySem.W.codeIn K cd__law_error "_law_error" = true) (k__law_error : PySem.W.keepIn K (.ref f__law_error) = true)
    (a_law : PySem.W.nsIn K mainGlobals "law" = some (some (.ref f_law)))
    (l_law : K.lookup f_law = some ⟨oc_law, od_law, .func (PySem.W.fnOf "law" "law" (defArgs s_law) (defBody s_law) (defScope s_law) .none kV_law dc_law pm_law an_law (.ref cA_law) ct_law), sl_law⟩)
    (c_law : PySem.W.codeIn K (.ref cA_law) "law" = true) (k_law : PySem.W.keepIn K (.ref f_law) = true)
    (mP_ordered : PA_ordered ∈ ts) (hc_ordered : PySem.W.codeHdIn K cA_ordered PA_ordered = true) (nP_ordered : K.lookup PA_ordered = none)
    (mP_law : PA_law ∈ ts) (hc_law : PySem.W.codeHdIn K cA_law PA_law = true) (nP_law : K.lookup PA_law = none)
    (tu_ : ∀ p ∈ ([(PA_ordered, lamQ "ordered"), (PA_law, lamQ "law")] : List (Addr × Str)), ∀ q ∈ ([(PA_ordered, lamQ "ordered"), (PA_law, lamQ "law")] : List (Addr × Str)), p.1 = q.1 → p.2 = q.2)
    (z_ValueError : PySem.W.nsIn K mainGlobals "ValueError" = some none)
    (z_abs : PySem.W.nsIn K mainGlobals "abs" = some none)
    (z_bool : PySem.W.nsIn K mainGlobals "bool" = some none)
    (z_dict : PySem.W.nsIn K mainGlobals "dict" = some none)
    (z_enumerate : PySem.W.nsIn K mainGlobals "enumerate" = some none)
    (z_int : PySem.W.nsIn K mainGlobals "int" = some none)
    (z_isinstance : PySem.W.nsIn K mainGlobals "isinstance" = some none)
    (z_len : PySem.W.nsIn K mainGlobals "len" = some none)
    (z_list : PySem.W.nsIn K mainGlobals "list" = some none)
    (z_min : PySem.W.nsIn K mainGlobals "min" = some none)
    (z_range : PySem.W.nsIn K mainGlobals "range" = some none)
    (z_sorted : PySem.W.nsIn K mainGlobals "sorted" = some none)
    (z_tuple : PySem.W.nsIn K mainGlobals "tuple" = some none)
    (z_zip : PySem.W.nsIn K mainGlobals "zip" = some none)
    {C_NoTime : Addr} (xg_NoTime : PySem.W.nsIn K mainGlobals "NoTime" = some (some (.ref C_NoTime))) (xi_NoTime : PySem.W.excIn K C_NoTime [.type "ValueError", .type "Exception", .type "BaseException", .type "object"] "ValueError.__new__" = true) (xk_NoTime : PySem.W.keepIn K (.ref C_NoTime) = true) (xb_NoTime : PySem.W.subIn K (.ref C_NoTime) (.type "BaseException") = some true) (xt_NoTime : PySem.W.typeIn K (.ref C_NoTime) = some (.type "type")) (xe_NoTime : PySem.W.exmOne K (.ref C_NoTime) (.ref C_NoTime) = some true)
    {C_NoTrack : Addr} (xg_NoTrack : PySem.W.nsIn K mainGlobals "NoTrack" = some (some (.ref C_NoTrack))) (xi_NoTrack : PySem.W.excIn K C_NoTrack [.type "ValueError", .type "Exception", .type "BaseException", .type "object"] "ValueError.__new__" = true) (xk_NoTrack : PySem.W.keepIn K (.ref C_NoTrack) = true) (xb_NoTrack : PySem.W.subIn K (.ref C_NoTrack) (.type "BaseException") = some true) (xt_NoTrack : PySem.W.typeIn K (.ref C_NoTrack) = some (.type "type")) (xe_NoTrack : PySem.W.exmOne K (.ref C_NoTrack) (.ref C_NoTrack) = some true)
    {C_NoTable : Addr} (xg_NoTable : PySem.W.nsIn K mainGlobals "NoTable" = some (some (.ref C_NoTable)))
    {C_NoRest : Addr} (xg_NoRest : PySem.W.nsIn K mainGlobals "NoRest" = some (some (.ref C_NoRest)))
    {C_NoCarrier : Addr} (xg_NoCarrier : PySem.W.nsIn K mainGlobals "NoCarrier" = some (some (.ref C_NoCarrier)))
    {C_NoName : Addr} (xg_NoName : PySem.W.nsIn K mainGlobals "NoName" = some (some (.ref C_NoName)))
    {C_TrackError : Addr} (xg_TrackError : PySem.W.nsIn K mainGlobals "TrackError" = some (some (.ref C_TrackError)))
    (jhg_NoTime : PySem.W.findIn K (.ref C_NoTime) "__getattribute__" = some (some (.builtin "BaseException.__getattribute__"))) (jhk_NoTime : PySem.W.findIn K (.ref C_NoTime) "__getattr__" = some none) (jhs_NoTime : PySem.W.subIn K (.ref C_NoTime) (.type "BaseException") = some true) (jhd_NoTime : PySem.W.hasDictIn K C_NoTime = true) (jha_NoTime : PySem.W.findIn K (.ref C_NoTime) "__class__" = some (some (.builtin "object.__class__"))) (jhn_NoTime : PySem.W.specialIn K (.builtin "object.__class__") "__get__" = some (some (.builtin "getset_descriptor.__get__"))) (jht_NoTime : PySem.W.takesIn K (.builtin "object.__class__") = some true) (jhm_NoTime : PySem.W.mroIn K C_NoTime (.type "object") = some true)
    (xh_NoTime : PySem.W.exmOne K (.ref C_NoTime) (.ref C_TrackError) = some true)
    (kt_NoTime_NoTable : PySem.W.kitOne K (.ref C_NoTime) (.ref C_NoTable) = some false)
    (kt_NoTime_NoRest : PySem.W.kitOne K (.ref C_NoTime) (.ref C_NoRest) = some false)
    (kt_NoTime_NoCarrier : PySem.W.kitOne K (.ref C_NoTime) (.ref C_NoCarrier) = some false)
    (kt_NoTime_NoName : PySem.W.kitOne K (.ref C_NoTime) (.ref C_NoName) = some false)
    (kt_NoTime_NoTrack : PySem.W.kitOne K (.ref C_NoTime) (.ref C_NoTrack) = some false)
    (kt_NoTime_NoTime : PySem.W.kitOne K (.ref C_NoTime) (.ref C_NoTime) = some true)
    (kb_NoTime_ValueError : PySem.W.kitOne K (.ref C_NoTime) (.type "ValueError") = some true)
    (jhg_NoTrack : PySem.W.findIn K (.ref C_NoTrack) "__getattribute__" = some (some (.builtin "BaseException.__getattribute__"))) (jhk_NoTrack : PySem.W.findIn K (.ref C_NoTrack) "__getattr__" = some none) (jhs_NoTrack : PySem.W.subIn K (.ref C_NoTrack) (.type "BaseException") = some true) (jhd_NoTrack : PySem.W.hasDictIn K C_NoTrack = true) (jha_NoTrack : PySem.W.findIn K (.ref C_NoTrack) "__class__" = some (some (.builtin "object.__class__"))) (jhn_NoTrack : PySem.W.specialIn K (.builtin "object.__class__") "__get__" = some (some (.builtin "getset_descriptor.__get__"))) (jht_NoTrack : PySem.W.takesIn K (.builtin "object.__class__") = some true) (jhm_NoTrack : PySem.W.mroIn K C_NoTrack (.type "object") = some true)
    (xh_NoTrack : PySem.W.exmOne K (.ref C_NoTrack) (.ref C_TrackError) = some true)
    (kt_NoTrack_NoTable : PySem.W.kitOne K (.ref C_NoTrack) (.ref C_NoTable) = some false)
    (kt_NoTrack_NoRest : PySem.W.kitOne K (.ref C_NoTrack) (.ref C_NoRest) = some false)
    (kt_NoTrack_NoCarrier : PySem.W.kitOne K (.ref C_NoTrack) (.ref C_NoCarrier) = some false)
    (kt_NoTrack_NoName : PySem.W.kitOne K (.ref C_NoTrack) (.ref C_NoName) = some false)
    (kt_NoTrack_NoTrack : PySem.W.kitOne K (.ref C_NoTrack) (.ref C_NoTrack) = some true)
    (kt_NoTrack_NoTime : PySem.W.kitOne K (.ref C_NoTrack) (.ref C_NoTime) = some false)
    (kb_NoTrack_ValueError : PySem.W.kitOne K (.ref C_NoTrack) (.type "ValueError") = some true)
    : LawAtC l w K "script" mg fa h := by
  have e := hfa.symm.trans (PySem.W.mg_of X G a_law)
  cases e
  have F_is_whole := fun_mk (st := s_is_whole) l_is_whole c_is_whole k_is_whole
  have b_is_whole := F_is_whole.binds (ps := ["value"]) fun _ _ _ _ _ _ us hl => match us, hl with | [_], _ => rfl
  have F_common_divisor := fun_mk (st := s_common_divisor) l_common_divisor c_common_divisor k_common_divisor
  have b_common_divisor := F_common_divisor.binds (ps := ["a", "b"]) fun _ _ _ _ _ _ us hl => match us, hl with | [_, _], _ => rfl
  have F_is_fraction := fun_mk (st := s_is_fraction) l_is_fraction c_is_fraction k_is_fraction
  have b_is_fraction := F_is_fraction.binds (ps := ["value"]) fun _ _ _ _ _ _ us hl => match us, hl with | [_], _ => rfl
  have F_new_fraction : FunD K "new_fraction" "new_fraction" (defArgs s_new_fraction) (defBody s_new_fraction) (defScope s_new_fraction) [.int 1] [] f_new_fraction _ := ⟨⟨_, _, _, _, _, _, _, _, _, _, rfl, l_new_fraction, c_new_fraction, y_new_fraction, .inl rfl⟩, k_new_fraction⟩
  obtain ⟨e_new_fraction, w_new_fraction, b_new_fraction⟩ := F_new_fraction.binds1 (ps := ["n", "d"]) 2 1 (by decide) (by decide) fun T kV doc pm an cdv ct us its hu hi => match us, its, hu, hi with | [_, _], [_], _, _ => ⟨_, rfl, rfl⟩
  have z_e_new_fraction : e_new_fraction = [] := by cases w_new_fraction; rfl
  subst z_e_new_fraction
  obtain ⟨d1_new_fraction, v1_new_fraction, b1_new_fraction⟩ := F_new_fraction.binds1 (ps := ["n", "d"]) 1 0 (by decide) (by decide) fun T kV doc pm an cdv ct us its hu hi => match us, its, hu, hi with | [_], [_], _, _ => ⟨_, rfl, rfl⟩
  have F_sum_of := fun_mk (st := s_sum_of) l_sum_of c_sum_of k_sum_of
  have b_sum_of := F_sum_of.binds (ps := ["a", "b"]) fun _ _ _ _ _ _ us hl => match us, hl with | [_, _], _ => rfl
  have F_rest_of := fun_mk (st := s_rest_of) l_rest_of c_rest_of k_rest_of
  have b_rest_of := F_rest_of.binds (ps := ["a", "b"]) fun _ _ _ _ _ _ us hl => match us, hl with | [_, _], _ => rfl
  have F_product_of := fun_mk (st := s_product_of) l_product_of c_product_of k_product_of
  have b_product_of := F_product_of.binds (ps := ["a", "b"]) fun _ _ _ _ _ _ us hl => match us, hl with | [_, _], _ => rfl
  have F_share_of := fun_mk (st := s_share_of) l_share_of c_share_of k_share_of
  have b_share_of := F_share_of.binds (ps := ["a", "b"]) fun _ _ _ _ _ _ us hl => match us, hl with | [_, _], _ => rfl
  have F_order_of := fun_mk (st := s_order_of) l_order_of c_order_of k_order_of
  have b_order_of := F_order_of.binds (ps := ["a", "b"]) fun _ _ _ _ _ _ us hl => match us, hl with | [_, _], _ => rfl
  have F_is_less := fun_mk (st := s_is_less) l_is_less c_is_less k_is_less
  have b_is_less := F_is_less.binds (ps := ["a", "b"]) fun _ _ _ _ _ _ us hl => match us, hl with | [_, _], _ => rfl
  have F_floor_of := fun_mk (st := s_floor_of) l_floor_of c_floor_of k_floor_of
  have b_floor_of := F_floor_of.binds (ps := ["a"]) fun _ _ _ _ _ _ us hl => match us, hl with | [_], _ => rfl
  have F_need_length := fun_mk (st := s_need_length) l_need_length c_need_length k_need_length
  have b_need_length := F_need_length.binds (ps := ["length"]) fun _ _ _ _ _ _ us hl => match us, hl with | [_], _ => rfl
  have F_later_begin := fun_mk (st := s_later_begin) l_later_begin c_later_begin k_later_begin
  have b_later_begin := F_later_begin.binds (ps := ["one", "other"]) fun _ _ _ _ _ _ us hl => match us, hl with | [_, _], _ => rfl
  have F_gap_at := fun_mk (st := s_gap_at) l_gap_at c_gap_at k_gap_at
  have b_gap_at := F_gap_at.binds (ps := ["one", "other", "t"]) fun _ _ _ _ _ _ us hl => match us, hl with | [_, _, _], _ => rfl
  have F_is_contact := fun_mk (st := s_is_contact) l_is_contact c_is_contact k_is_contact
  have b_is_contact := F_is_contact.binds (ps := ["gap", "length"]) fun _ _ _ _ _ _ us hl => match us, hl with | [_, _], _ => rfl
  have F_last_turn := fun_mk (st := s_last_turn) l_last_turn c_last_turn k_last_turn
  have b_last_turn := F_last_turn.binds (ps := ["one", "other", "t"]) fun _ _ _ _ _ _ us hl => match us, hl with | [_, _, _], _ => rfl
  have F_side_before := fun_mk (st := s_side_before) l_side_before c_side_before k_side_before
  have b_side_before := F_side_before.binds (ps := ["one", "other", "t"]) fun _ _ _ _ _ _ us hl => match us, hl with | [_, _, _], _ => rfl
  have F_before_at := fun_mk (st := s_before_at) l_before_at c_before_at k_before_at
  have b_before_at := F_before_at.binds (ps := ["one", "other", "t", "length"]) fun _ _ _ _ _ _ us hl => match us, hl with | [_, _, _, _], _ => rfl
  have F_is_knot := fun_mk (st := s_is_knot) l_is_knot c_is_knot k_is_knot
  have b_is_knot := F_is_knot.binds (ps := ["value"]) fun _ _ _ _ _ _ us hl => match us, hl with | [_], _ => rfl
  have F_are_knots := fun_mk (st := s_are_knots) l_are_knots c_are_knots k_are_knots
  have b_are_knots := F_are_knots.binds (ps := ["value"]) fun _ _ _ _ _ _ us hl => match us, hl with | [_], _ => rfl
  have F_slopes_of := fun_mk (st := s_slopes_of) l_slopes_of c_slopes_of k_slopes_of
  have b_slopes_of := F_slopes_of.binds (ps := ["points"]) fun _ _ _ _ _ _ us hl => match us, hl with | [_], _ => rfl
  have F_turns_of := fun_mk (st := s_turns_of) l_turns_of c_turns_of k_turns_of
  have b_turns_of := F_turns_of.binds (ps := ["points"]) fun _ _ _ _ _ _ us hl => match us, hl with | [_], _ => rfl
  have F_piece_on := fun_mk (st := s_piece_on) l_piece_on c_piece_on k_piece_on
  have b_piece_on := F_piece_on.binds (ps := ["points", "t"]) fun _ _ _ _ _ _ us hl => match us, hl with | [_, _], _ => rfl
  have F_pace_on := fun_mk (st := s_pace_on) l_pace_on c_pace_on k_pace_on
  have b_pace_on := F_pace_on.binds (ps := ["points", "t"]) fun _ _ _ _ _ _ us hl => match us, hl with | [_, _], _ => rfl
  have F_place_on := fun_mk (st := s_place_on) l_place_on c_place_on k_place_on
  have b_place_on := F_place_on.binds (ps := ["points", "t"]) fun _ _ _ _ _ _ us hl => match us, hl with | [_, _], _ => rfl
  have F_Timetable___init__ := fun_mk (st := s_Timetable___init__) l_Timetable___init__ c_Timetable___init__ k_Timetable___init__
  have b_Timetable___init__ := F_Timetable___init__.binds (ps := ["self", "knots"]) fun _ _ _ _ _ _ us hl => match us, hl with | [_, _], _ => rfl
  have F_Timetable_resting := fun_mk (st := s_Timetable_resting) l_Timetable_resting c_Timetable_resting k_Timetable_resting
  have b_Timetable_resting := F_Timetable_resting.binds (ps := ["cls", "t", "x"]) fun _ _ _ _ _ _ us hl => match us, hl with | [_, _, _], _ => rfl
  have F_Timetable_begin := fun_mk (st := s_Timetable_begin) l_Timetable_begin c_Timetable_begin k_Timetable_begin
  have b_Timetable_begin := F_Timetable_begin.binds (ps := ["self"]) fun _ _ _ _ _ _ us hl => match us, hl with | [_], _ => rfl
  have F_Timetable_at := fun_mk (st := s_Timetable_at) l_Timetable_at c_Timetable_at k_Timetable_at
  have b_Timetable_at := F_Timetable_at.binds (ps := ["self", "t"]) fun _ _ _ _ _ _ us hl => match us, hl with | [_, _], _ => rfl
  have F_lap_of := fun_mk (st := s_lap_of) l_lap_of c_lap_of k_lap_of
  have b_lap_of := F_lap_of.binds (ps := ["place", "length"]) fun _ _ _ _ _ _ us hl => match us, hl with | [_, _], _ => rfl
  have F_spot_of := fun_mk (st := s_spot_of) l_spot_of c_spot_of k_spot_of
  have b_spot_of := F_spot_of.binds (ps := ["place", "length"]) fun _ _ _ _ _ _ us hl => match us, hl with | [_, _], _ => rfl
  have F_ordered := fun_mk (st := s_ordered) l_ordered c_ordered k_ordered
  have b_ordered := F_ordered.binds (ps := ["tables", "t", "length"]) fun _ _ _ _ _ _ us hl => match us, hl with | [_, _, _], _ => rfl
  have F_order_at := fun_mk (st := s_order_at) l_order_at c_order_at k_order_at
  have b_order_at := Pw.kbinds (ps := ["tables", "t", "length"]) (ks := ["length"]) (n := 2) F_order_at (fun _ _ _ _ _ _ us ws hu hw => match us, ws, hu, hw with | [_, _], [_], _, _ => rfl)
  have F__law_begun := fun_mk (st := s__law_begun) l__law_begun c__law_begun k__law_begun
  have b__law_begun := F__law_begun.binds (ps := ["script"]) fun _ _ _ _ _ _ us hl => match us, hl with | [_], _ => rfl
  have F__law_mixed := fun_mk (st := s__law_mixed) l__law_mixed c__law_mixed k__law_mixed
  have b__law_mixed := F__law_mixed.binds (ps := ["state"]) fun _ _ _ _ _ _ us hl => match us, hl with | [_], _ => rfl
  have F__law_take := fun_mk (st := s__law_take) l__law_take c__law_take k__law_take
  have b__law_take := F__law_take.binds (ps := ["state", "size"]) fun _ _ _ _ _ _ us hl => match us, hl with | [_, _], _ => rfl
  have F__law_pick := fun_mk (st := s__law_pick) l__law_pick c__law_pick k__law_pick
  have b__law_pick := F__law_pick.binds (ps := ["state", "some"]) fun _ _ _ _ _ _ us hl => match us, hl with | [_, _], _ => rfl
  have F__law_ratio := fun_mk (st := s__law_ratio) l__law_ratio c__law_ratio k__law_ratio
  have b__law_ratio := F__law_ratio.binds (ps := ["n", "d"]) fun _ _ _ _ _ _ us hl => match us, hl with | [_, _], _ => rfl
  have F__law_plus := fun_mk (st := s__law_plus) l__law_plus c__law_plus k__law_plus
  have b__law_plus := F__law_plus.binds (ps := ["a", "b"]) fun _ _ _ _ _ _ us hl => match us, hl with | [_, _], _ => rfl
  have F__law_minus := fun_mk (st := s__law_minus) l__law_minus c__law_minus k__law_minus
  have b__law_minus := F__law_minus.binds (ps := ["a", "b"]) fun _ _ _ _ _ _ us hl => match us, hl with | [_, _], _ => rfl
  have F__law_names := fun_mk (st := s__law_names) l__law_names c__law_names k__law_names
  have b__law_names := F__law_names.binds (ps := ["state", "many"]) fun _ _ _ _ _ _ us hl => match us, hl with | [_, _], _ => rfl
  have F__law_error := fun_mk (st := s__law_error) l__law_error c__law_error k__law_error
  have b__law_error := F__law_error.binds (ps := ["work"]) fun _ _ _ _ _ _ us hl => match us, hl with | [_], _ => rfl
  refine ⟨PySem.W.fnOf "law" "law" (defArgs s_law) (defBody s_law) (defScope s_law) .none kV_law dc_law pm_law an_law (.ref cA_law) ct_law, [(cA_ordered, PA_ordered), (cA_law, PA_law)], [(PA_ordered, lamQ "ordered"), (PA_law, lamQ "law")], ?_, ?_, ?_, fun s v => .of_eq rfl, ?_, fun base _ _ hTB => ?_⟩
  · intro p hp
    simp only [List.mem_cons, List.not_mem_nil, or_false] at hp
    rcases hp with rfl | rfl
    · exact tabs PA_ordered mP_ordered
    · exact tabs PA_law mP_law
  · intro p hp
    simp only [List.mem_cons, List.not_mem_nil, or_false] at hp
    rcases hp with rfl | rfl
    · exact nP_ordered
    · exact nP_law
  · intro p hp
    simp only [List.mem_cons, List.not_mem_nil, or_false] at hp
    rcases hp with rfl | rfl
    · exact PySem.W.codeHd_of_K X hc_ordered
    · exact PySem.W.codeHd_of_K X hc_law
  · intro p hp
    simp only [List.mem_cons, List.not_mem_nil, or_false] at hp
    rcases hp with rfl | rfl
    · exact ⟨(cA_ordered, PA_ordered), by simp, rfl⟩
    · exact ⟨(cA_law, PA_law), by simp, rfl⟩
  · let T : Tx K mg base := { f_is_whole := f_is_whole, fd_is_whole := _, F_is_whole := F_is_whole, b_is_whole := b_is_whole, g_is_whole := PySem.W.mg_of X G a_is_whole, f_common_divisor := f_common_divisor, fd_common_divisor := _, F_common_divisor := F_common_divisor, b_common_divisor := b_common_divisor, g_common_divisor := PySem.W.mg_of X G a_common_divisor, f_is_fraction := f_is_fraction, fd_is_fraction := _, F_is_fraction := F_is_fraction, b_is_fraction := b_is_fraction, g_is_fraction := PySem.W.mg_of X G a_is_fraction, f_new_fraction := f_new_fraction, fd_new_fraction := _, F_new_fraction := F_new_fraction, b_new_fraction := b_new_fraction, d1_new_fraction := d1_new_fraction, v1_new_fraction := v1_new_fraction, b1_new_fraction := b1_new_fraction, g_new_fraction := PySem.W.mg_of X G a_new_fraction, f_sum_of := f_sum_of, fd_sum_of := _, F_sum_of := F_sum_of, b_sum_of := b_sum_of, g_sum_of := PySem.W.mg_of X G a_sum_of, f_rest_of := f_rest_of, fd_rest_of := _, F_rest_of := F_rest_of, b_rest_of := b_rest_of, g_rest_of := PySem.W.mg_of X G a_rest_of, f_product_of := f_product_of, fd_product_of := _, F_product_of := F_product_of, b_product_of := b_product_of, g_product_of := PySem.W.mg_of X G a_product_of, f_share_of := f_share_of, fd_share_of := _, F_share_of := F_share_of, b_share_of := b_share_of, g_share_of := PySem.W.mg_of X G a_share_of, f_order_of := f_order_of, fd_order_of := _, F_order_of := F_order_of, b_order_of := b_order_of, g_order_of := PySem.W.mg_of X G a_order_of, f_is_less := f_is_less, fd_is_less := _, F_is_less := F_is_less, b_is_less := b_is_less, g_is_less := PySem.W.mg_of X G a_is_less, f_floor_of := f_floor_of, fd_floor_of := _, F_floor_of := F_floor_of, b_floor_of := b_floor_of, g_floor_of := PySem.W.mg_of X G a_floor_of, f_need_length := f_need_length, fd_need_length := _, F_need_length := F_need_length, b_need_length := b_need_length, g_need_length := PySem.W.mg_of X G a_need_length, f_later_begin := f_later_begin, fd_later_begin := _, F_later_begin := F_later_begin, b_later_begin := b_later_begin, g_later_begin := PySem.W.mg_of X G a_later_begin, f_gap_at := f_gap_at, fd_gap_at := _, F_gap_at := F_gap_at, b_gap_at := b_gap_at, g_gap_at := PySem.W.mg_of X G a_gap_at, f_is_contact := f_is_contact, fd_is_contact := _, F_is_contact := F_is_contact, b_is_contact := b_is_contact, g_is_contact := PySem.W.mg_of X G a_is_contact, f_last_turn := f_last_turn, fd_last_turn := _, F_last_turn := F_last_turn, b_last_turn := b_last_turn, g_last_turn := PySem.W.mg_of X G a_last_turn, f_side_before := f_side_before, fd_side_before := _, F_side_before := F_side_before, b_side_before := b_side_before, g_side_before := PySem.W.mg_of X G a_side_before, f_before_at := f_before_at, fd_before_at := _, F_before_at := F_before_at, b_before_at := b_before_at, g_before_at := PySem.W.mg_of X G a_before_at, f_is_knot := f_is_knot, fd_is_knot := _, F_is_knot := F_is_knot, b_is_knot := b_is_knot, g_is_knot := PySem.W.mg_of X G a_is_knot, f_are_knots := f_are_knots, fd_are_knots := _, F_are_knots := F_are_knots, b_are_knots := b_are_knots, g_are_knots := PySem.W.mg_of X G a_are_knots, f_slopes_of := f_slopes_of, fd_slopes_of := _, F_slopes_of := F_slopes_of, b_slopes_of := b_slopes_of, g_slopes_of := PySem.W.mg_of X G a_slopes_of, f_turns_of := f_turns_of, fd_turns_of := _, F_turns_of := F_turns_of, b_turns_of := b_turns_of, g_turns_of := PySem.W.mg_of X G a_turns_of, f_piece_on := f_piece_on, fd_piece_on := _, F_piece_on := F_piece_on, b_piece_on := b_piece_on, g_piece_on := PySem.W.mg_of X G a_piece_on, f_pace_on := f_pace_on, fd_pace_on := _, F_pace_on := F_pace_on, b_pace_on := b_pace_on, g_pace_on := PySem.W.mg_of X G a_pace_on, f_place_on := f_place_on, fd_place_on := _, F_place_on := F_place_on, b_place_on := b_place_on, g_place_on := PySem.W.mg_of X G a_place_on, f_Timetable___init__ := f_Timetable___init__, fd_Timetable___init__ := _, F_Timetable___init__ := F_Timetable___init__, b_Timetable___init__ := b_Timetable___init__, M_Timetable := ⟨mk_Timetable, a_Timetable___init__, i_Timetable___init__, kc_Timetable⟩, f_Timetable_resting := f_Timetable_resting, fd_Timetable_resting := _, F_Timetable_resting := F_Timetable_resting, b_Timetable_resting := b_Timetable_resting, p_Timetable_resting := p_Timetable_resting, m_Timetable_resting := ⟨a_Timetable_resting, ⟨_, r_Timetable_resting⟩, i_Timetable_resting⟩, f_Timetable_begin := f_Timetable_begin, fd_Timetable_begin := _, F_Timetable_begin := F_Timetable_begin, b_Timetable_begin := b_Timetable_begin, m_Timetable_begin := ⟨a_Timetable_begin, i_Timetable_begin, k_Timetable_begin⟩, f_Timetable_at := f_Timetable_at, fd_Timetable_at := _, F_Timetable_at := F_Timetable_at, b_Timetable_at := b_Timetable_at, m_Timetable_at := ⟨a_Timetable_at, i_Timetable_at, k_Timetable_at⟩, f_lap_of := f_lap_of, fd_lap_of := _, F_lap_of := F_lap_of, b_lap_of := b_lap_of, g_lap_of := PySem.W.mg_of X G a_lap_of, f_spot_of := f_spot_of, fd_spot_of := _, F_spot_of := F_spot_of, b_spot_of := b_spot_of, g_spot_of := PySem.W.mg_of X G a_spot_of, f_ordered := f_ordered, fd_ordered := _, F_ordered := F_ordered, b_ordered := b_ordered, g_ordered := PySem.W.mg_of X G a_ordered, f_order_at := f_order_at, fd_order_at := _, F_order_at := F_order_at, b_order_at := b_order_at, g_order_at := PySem.W.mg_of X G a_order_at, f__law_begun := f__law_begun, fd__law_begun := _, F__law_begun := F__law_begun, b__law_begun := b__law_begun, g__law_begun := PySem.W.mg_of X G a__law_begun, f__law_mixed := f__law_mixed, fd__law_mixed := _, F__law_mixed := F__law_mixed, b__law_mixed := b__law_mixed, g__law_mixed := PySem.W.mg_of X G a__law_mixed, f__law_take := f__law_take, fd__law_take := _, F__law_take := F__law_take, b__law_take := b__law_take, g__law_take := PySem.W.mg_of X G a__law_take, f__law_pick := f__law_pick, fd__law_pick := _, F__law_pick := F__law_pick, b__law_pick := b__law_pick, g__law_pick := PySem.W.mg_of X G a__law_pick, f__law_ratio := f__law_ratio, fd__law_ratio := _, F__law_ratio := F__law_ratio, b__law_ratio := b__law_ratio, g__law_ratio := PySem.W.mg_of X G a__law_ratio, f__law_plus := f__law_plus, fd__law_plus := _, F__law_plus := F__law_plus, b__law_plus := b__law_plus, g__law_plus := PySem.W.mg_of X G a__law_plus, f__law_minus := f__law_minus, fd__law_minus := _, F__law_minus := F__law_minus, b__law_minus := b__law_minus, g__law_minus := PySem.W.mg_of X G a__law_minus, f__law_names := f__law_names, fd__law_names := _, F__law_names := F__law_names, b__law_names := b__law_names, g__law_names := PySem.W.mg_of X G a__law_names, f__law_error := f__law_error, fd__law_error := _, F__law_error := F__law_error, b__law_error := b__law_error, g__law_error := PySem.W.mg_of X G a__law_error, e_Timetable := ⟨oa_Timetable, ob_, oc_, om_Timetable, on_Timetable⟩, C_Timetable := C_Timetable, c_Timetable := ⟨pg_Timetable, hd_Timetable, po_Timetable, sa_Timetable⟩, g_Timetable := PySem.W.mg_of X G a_Timetable, n_Timetable_points := n_Timetable_points, n_Timetable_turns := n_Timetable_turns, r_Timetable := ⟨rd_Timetable, ga_Timetable⟩, u_Timetable_MOST := u_Timetable_MOST, k_Timetable_MOST := ⟨ka_Timetable_MOST, kr_Timetable_MOST, kg_Timetable_MOST, by decide +kernel⟩, a_ZERO := a_ZERO, c_ZERO := PySem.W.mg_of X G c_ZERO, t_ZERO := ⟨_, _, _, l_ZERO, rfl, rfl, (show (2 : Nat) ≤ sizeLine by decide), .cons ⟨_, rfl⟩ (.cons ⟨_, rfl⟩ (.nil))⟩, C_NoTable := C_NoTable, g_NoTable := PySem.W.mg_of X G xg_NoTable, C_NoRest := C_NoRest, g_NoRest := PySem.W.mg_of X G xg_NoRest, C_NoCarrier := C_NoCarrier, g_NoCarrier := PySem.W.mg_of X G xg_NoCarrier, C_NoName := C_NoName, g_NoName := PySem.W.mg_of X G xg_NoName, C_TrackError := C_TrackError, g_TrackError := PySem.W.mg_of X G xg_TrackError, i_NoTime := ⟨jhg_NoTime, jhk_NoTime, jhs_NoTime, jhd_NoTime, jha_NoTime, jhn_NoTime, jht_NoTime, jhm_NoTime⟩, xh_NoTime := xh_NoTime, kt_NoTime_NoTable := kt_NoTime_NoTable, kt_NoTime_NoRest := kt_NoTime_NoRest, kt_NoTime_NoCarrier := kt_NoTime_NoCarrier, kt_NoTime_NoName := kt_NoTime_NoName, kt_NoTime_NoTrack := kt_NoTime_NoTrack, kt_NoTime_NoTime := kt_NoTime_NoTime, kb_NoTime_ValueError := kb_NoTime_ValueError, i_NoTrack := ⟨jhg_NoTrack, jhk_NoTrack, jhs_NoTrack, jhd_NoTrack, jha_NoTrack, jhn_NoTrack, jht_NoTrack, jhm_NoTrack⟩, xh_NoTrack := xh_NoTrack, kt_NoTrack_NoTable := kt_NoTrack_NoTable, kt_NoTrack_NoRest := kt_NoTrack_NoRest, kt_NoTrack_NoCarrier := kt_NoTrack_NoCarrier, kt_NoTrack_NoName := kt_NoTrack_NoName, kt_NoTrack_NoTrack := kt_NoTrack_NoTrack, kt_NoTrack_NoTime := kt_NoTrack_NoTime, kb_NoTrack_ValueError := kb_NoTrack_ValueError, C_NoTime := C_NoTime, g_NoTime := PySem.W.mg_of X G xg_NoTime, x_NoTime := xi_NoTime, k_NoTime := xk_NoTime, b_NoTime := xb_NoTime, t_NoTime := xt_NoTime, e_NoTime := xe_NoTime, C_NoTrack := C_NoTrack, g_NoTrack := PySem.W.mg_of X G xg_NoTrack, x_NoTrack := xi_NoTrack, k_NoTrack := xk_NoTrack, b_NoTrack := xb_NoTrack, t_NoTrack := xt_NoTrack, e_NoTrack := xe_NoTrack, c_ordered := cA_ordered, P_ordered := PA_ordered, TB_ordered := hTB (cA_ordered, PA_ordered) (by simp), L_ordered := ⟨_, _, _, _, _, _, _, _, rfl, l_ordered, c_ordered⟩, c_law := cA_law, P_law := PA_law, TB_law := hTB (cA_law, PA_law) (by simp), tu := tu_, z_ValueError := PySem.W.mg_none_of X G z_ValueError, z_abs := PySem.W.mg_none_of X G z_abs, z_bool := PySem.W.mg_none_of X G z_bool, z_dict := PySem.W.mg_none_of X G z_dict, z_enumerate := PySem.W.mg_none_of X G z_enumerate, z_int := PySem.W.mg_none_of X G z_int, z_isinstance := PySem.W.mg_none_of X G z_isinstance, z_len := PySem.W.mg_none_of X G z_len, z_list := PySem.W.mg_none_of X G z_list, z_min := PySem.W.mg_none_of X G z_min, z_range := PySem.W.mg_none_of X G z_range, z_sorted := PySem.W.mg_none_of X G z_sorted, z_tuple := PySem.W.mg_none_of X G z_tuple, z_zip := PySem.W.mg_none_of X G z_zip }
    exact ok_law T ⟨_, _, _, _, _, _, _, _, rfl, l_law, c_law⟩
end G
open PySem PySem.W PyProof.Rows
set_option maxRecDepth 100000 in
set_option maxHeartbeats 0 in
theorem PySem.Challenge.cw_handedpast_k24_orders_refused_holds : PySem.Challenge.rw_handedpast_k24_orders_refused.Holds := by
  w_on; o_law; k_head; (case hw => w_witness2)
  k_fill
  refine Pw.walk_ofC (l := PySem.Challenge.rw_handedpast_k24_orders_refused) (x := "script") rfl rfl (fun w h Y => PySem.W.km_in_of Y) ?F
  case F =>
    intro w mg fa h Y KX GX hmg
    have tabs := PySem.W.km_tabs_of Y
    refine' G.all_mk KX GX hmg tabs ?a_Timetable ?pg_Timetable ?hd_Timetable ?po_Timetable ?sa_Timetable ?mk_Timetable ?kc_Timetable ?oa_Timetable ?om_Timetable ?on_Timetable ?n_Timetable_points ?n_Timetable_turns ?rd_Timetable ?ga_Timetable ?ka_Timetable_MOST ?kr_Timetable_MOST ?kg_Timetable_MOST ?ob_ ?oc_ ?c_ZERO ?l_ZERO ?a_is_whole ?l_is_whole ?c_is_whole ?k_is_whole ?a_common_divisor ?l_common_divisor ?c_common_divisor ?k_common_divisor ?a_is_fraction ?l_is_fraction ?c_is_fraction ?k_is_fraction ?a_new_fraction ?l_new_fraction ?c_new_fraction ?k_new_fraction ?y_new_fraction ?a_sum_of ?l_sum_of ?c_sum_of ?k_sum_of ?a_rest_of ?l_rest_of ?c_rest_of ?k_rest_of ?a_product_of ?l_product_of ?c_product_of ?k_product_of ?a_share_of ?l_share_of ?c_share_of ?k_share_of ?a_order_of ?l_order_of ?c_order_of ?k_order_of ?a_is_less ?l_is_less ?c_is_less ?k_is_less ?a_floor_of ?l_floor_of ?c_floor_of ?k_floor_of ?a_need_length ?l_need_length ?c_need_length ?k_need_length ?a_later_begin ?l_later_begin ?c_later_begin ?k_later_begin ?a_gap_at ?l_gap_at ?c_gap_at ?k_gap_at ?a_is_contact ?l_is_contact ?c_is_contact ?k_is_contact ?a_last_turn ?l_last_turn ?c_last_turn ?k_last_turn ?a_side_before ?l_side_before ?c_side_before ?k_side_before ?a_before_at ?l_before_at ?c_before_at ?k_before_at ?a_is_knot ?l_is_knot ?c_is_knot ?k_is_knot ?a_are_knots ?l_are_knots ?c_are_knots ?k_are_knots ?a_slopes_of ?l_slopes_of ?c_slopes_of ?k_slopes_of ?a_turns_of ?l_turns_of ?c_turns_of ?k_turns_of ?a_piece_on ?l_piece_on ?c_piece_on ?k_piece_on ?a_pace_on ?l_pace_on ?c_pace_on ?k_pace_on ?a_place_on ?l_place_on ?c_place_on ?k_place_on ?a_Timetable___init__ ?i_Timetable___init__ ?l_Timetable___init__ ?c_Timetable___init__ ?k_Timetable___init__ ?a_Timetable_resting ?r_Timetable_resting ?i_Timetable_resting ?l_Timetable_resting ?c_Timetable_resting ?k_Timetable_resting ?a_Timetable_begin ?i_Timetable_begin ?l_Timetable_begin ?c_Timetable_begin ?k_Timetable_begin ?a_Timetable_at ?i_Timetable_at ?l_Timetable_at ?c_Timetable_at ?k_Timetable_at ?a_lap_of ?l_lap_of ?c_lap_of ?k_lap_of ?a_spot_of ?l_spot_of ?c_spot_of ?k_spot_of ?a_ordered ?l_ordered ?c_ordered ?k_ordered ?a_order_at ?l_order_at ?c_order_at ?k_order_at ?a__law_begun ?l__law_begun ?c__law_begun ?k__law_begun ?a__law_mixed ?l__law_mixed ?c__law_mixed ?k__law_mixed ?a__law_take ?l__law_take ?c__law_take ?k__law_take ?a__law_pick ?l__law_pick ?c__law_pick ?k__law_pick ?a__law_ratio ?l__law_ratio ?c__law_ratio ?k__law_ratio ?a__law_plus ?l__law_plus ?c__law_plus ?k__law_plus ?a__law_minus ?l__law_minus ?c__law_minus ?k__law_minus ?a__law_names ?l__law_names ?c__law_names ?k__law_names ?a__law_error ?l__law_error ?c__law_error ?k__law_error ?a_law ?l_law ?c_law ?k_law ?mP_ordered ?hc_ordered ?nP_ordered ?mP_law ?hc_law ?nP_law ?tu_ ?z_ValueError ?z_abs ?z_bool ?z_dict ?z_enumerate ?z_int ?z_isinstance ?z_len ?z_list ?z_min ?z_range ?z_sorted ?z_tuple ?z_zip ?xg_NoTime ?xi_NoTime ?xk_NoTime ?xb_NoTime ?xt_NoTime ?xe_NoTime ?xg_NoTrack ?xi_NoTrack ?xk_NoTrack ?xb_NoTrack ?xt_NoTrack ?xe_NoTrack ?xg_NoTable ?xg_NoRest ?xg_NoCarrier ?xg_NoName ?xg_TrackError ?jhg_NoTime ?jhk_NoTime ?jhs_NoTime ?jhd_NoTime ?jha_NoTime ?jhn_NoTime ?jht_NoTime ?jhm_NoTime ?xh_NoTime ?kt_NoTime_NoTable ?kt_NoTime_NoRest ?kt_NoTime_NoCarrier ?kt_NoTime_NoName ?kt_NoTime_NoTrack ?kt_NoTime_NoTime ?kb_NoTime_ValueError ?jhg_NoTrack ?jhk_NoTrack ?jhs_NoTrack ?jhd_NoTrack ?jha_NoTrack ?jhn_NoTrack ?jht_NoTrack ?jhm_NoTrack ?xh_NoTrack ?kt_NoTrack_NoTable ?kt_NoTrack_NoRest ?kt_NoTrack_NoCarrier ?kt_NoTrack_NoName ?kt_NoTrack_NoTrack ?kt_NoTrack_NoTime ?kb_NoTrack_ValueError
    (case a_Timetable => k_is)
    (case pg_Timetable => k_is)
    (case hd_Timetable => k_is)
    (case po_Timetable => k_is)
    (case sa_Timetable => k_is)
    (case mk_Timetable => k_is)
    (case kc_Timetable => k_is)
    (case oa_Timetable => k_is)
    (case om_Timetable => k_is)
    (case on_Timetable => k_is)
    (case n_Timetable_points => k_is)
    (case n_Timetable_turns => k_is)
    (case rd_Timetable => k_is)
    (case ga_Timetable => k_is)
    (case ka_Timetable_MOST => k_is)
    (case kr_Timetable_MOST => exact ⟨_, rfl⟩)
    (case kg_Timetable_MOST => k_is)
    (case ob_ => k_is)
    (case oc_ => k_is)
    (case c_ZERO => k_is)
    (case l_ZERO => k_is)
    (case a_is_whole => k_is)
    (case l_is_whole => k_is)
    (case c_is_whole => k_is)
    (case k_is_whole => k_is)
    (case a_common_divisor => k_is)
    (case l_common_divisor => k_is)
    (case c_common_divisor => k_is)
    (case k_common_divisor => k_is)
    (case a_is_fraction => k_is)
    (case l_is_fraction => k_is)
    (case c_is_fraction => k_is)
    (case k_is_fraction => k_is)
    (case a_new_fraction => k_is)
    (case l_new_fraction => k_is)
    (case c_new_fraction => k_is)
    (case k_new_fraction => k_is)
    (case y_new_fraction => exact .inr ⟨by decide, _, _, _, _, rfl, (by k_is), rfl, .cons ⟨_, rfl⟩ .nil⟩)
    (case a_sum_of => k_is)
    (case l_sum_of => k_is)
    (case c_sum_of => k_is)
    (case k_sum_of => k_is)
    (case a_rest_of => k_is)
    (case l_rest_of => k_is)
    (case c_rest_of => k_is)
    (case k_rest_of => k_is)
    (case a_product_of => k_is)
    (case l_product_of => k_is)
    (case c_product_of => k_is)
    (case k_product_of => k_is)
    (case a_share_of => k_is)
    (case l_share_of => k_is)
    (case c_share_of => k_is)
    (case k_share_of => k_is)
    (case a_order_of => k_is)
    (case l_order_of => k_is)
    (case c_order_of => k_is)
    (case k_order_of => k_is)
    (case a_is_less => k_is)
    (case l_is_less => k_is)
    (case c_is_less => k_is)
    (case k_is_less => k_is)
    (case a_floor_of => k_is)
    (case l_floor_of => k_is)
    (case c_floor_of => k_is)
    (case k_floor_of => k_is)
    (case a_need_length => k_is)
    (case l_need_length => k_is)
    (case c_need_length => k_is)
    (case k_need_length => k_is)
    (case a_later_begin => k_is)
    (case l_later_begin => k_is)
    (case c_later_begin => k_is)
    (case k_later_begin => k_is)
    (case a_gap_at => k_is)
    (case l_gap_at => k_is)
    (case c_gap_at => k_is)
    (case k_gap_at => k_is)
    (case a_is_contact => k_is)
    (case l_is_contact => k_is)
    (case c_is_contact => k_is)
    (case k_is_contact => k_is)
    (case a_last_turn => k_is)
    (case l_last_turn => k_is)
    (case c_last_turn => k_is)
    (case k_last_turn => k_is)
    (case a_side_before => k_is)
    (case l_side_before => k_is)
    (case c_side_before => k_is)
    (case k_side_before => k_is)
    (case a_before_at => k_is)
    (case l_before_at => k_is)
    (case c_before_at => k_is)
    (case k_before_at => k_is)
    (case a_is_knot => k_is)
    (case l_is_knot => k_is)
    (case c_is_knot => k_is)
    (case k_is_knot => k_is)
    (case a_are_knots => k_is)
    (case l_are_knots => k_is)
    (case c_are_knots => k_is)
    (case k_are_knots => k_is)
    (case a_slopes_of => k_is)
    (case l_slopes_of => k_is)
    (case c_slopes_of => k_is)
    (case k_slopes_of => k_is)
    (case a_turns_of => k_is)
    (case l_turns_of => k_is)
    (case c_turns_of => k_is)
    (case k_turns_of => k_is)
    (case a_piece_on => k_is)
    (case l_piece_on => k_is)
    (case c_piece_on => k_is)
    (case k_piece_on => k_is)
    (case a_pace_on => k_is)
    (case l_pace_on => k_is)
    (case c_pace_on => k_is)
    (case k_pace_on => k_is)
    (case a_place_on => k_is)
    (case l_place_on => k_is)
    (case c_place_on => k_is)
    (case k_place_on => k_is)
    (case a_Timetable___init__ => k_is)
    (case i_Timetable___init__ => k_is)
    (case l_Timetable___init__ => k_is)
    (case c_Timetable___init__ => k_is)
    (case k_Timetable___init__ => k_is)
    (case a_Timetable_resting => k_is)
    (case r_Timetable_resting => k_is)
    (case i_Timetable_resting => k_is)
    (case l_Timetable_resting => k_is)
    (case c_Timetable_resting => k_is)
    (case k_Timetable_resting => k_is)
    (case a_Timetable_begin => k_is)
    (case i_Timetable_begin => k_is)
    (case l_Timetable_begin => k_is)
    (case c_Timetable_begin => k_is)
    (case k_Timetable_begin => k_is)
    (case a_Timetable_at => k_is)
    (case i_Timetable_at => k_is)
    (case l_Timetable_at => k_is)
    (case c_Timetable_at => k_is)
    (case k_Timetable_at => k_is)
    (case a_lap_of => k_is)
    (case l_lap_of => k_is)
    (case c_lap_of => k_is)
    (case k_lap_of => k_is)
    (case a_spot_of => k_is)
    (case l_spot_of => k_is)
    (case c_spot_of => k_is)
    (case k_spot_of => k_is)
    (case a_ordered => k_is)
    (case l_ordered => k_is)
    (case c_ordered => k_is)
    (case k_ordered => k_is)
    (case a_order_at => k_is)
    (case l_order_at => k_is)
    (case c_order_at => k_is)
    (case k_order_at => k_is)
    (case a__law_begun => k_is)
    (case l__law_begun => k_is)
    (case c__law_begun => k_is)
    (case k__law_begun => k_is)
    (case a__law_mixed => k_is)
    (case l__law_mixed => k_is)
    (case c__law_mixed => k_is)
    (case k__law_mixed => k_is)
    (case a__law_take => k_is)
    (case l__law_take => k_is)
    (case c__law_take => k_is)
    (case k__law_take => k_is)
    (case a__law_pick => k_is)
    (case l__law_pick => k_is)
    (case c__law_pick => k_is)
    (case k__law_pick => k_is)
    (case a__law_ratio => k_is)
    (case l__law_ratio => k_is)
    (case c__law_ratio => k_is)
    (case k__law_ratio => k_is)
    (case a__law_plus => k_is)
    (case l__law_plus => k_is)
    (case c__law_plus => k_is)
    (case k__law_plus => k_is)
    (case a__law_minus => k_is)
    (case l__law_minus => k_is)
    (case c__law_minus => k_is)
    (case k__law_minus => k_is)
    (case a__law_names => k_is)
    (case l__law_names => k_is)
    (case c__law_names => k_is)
    (case k__law_names => k_is)
    (case a__law_error => k_is)
    (case l__law_error => k_is)
    (case c__law_error => k_is)
    (case k__law_error => k_is)
    (case a_law => k_is)
    (case l_law => k_is)
    (case c_law => k_is)
    (case k_law => k_is)
    (case mP_ordered => exact List.mem_cons_self ..)
    (case hc_ordered => kernel_rfl)
    (case nP_ordered => kernel_rfl)
    (case mP_law => exact List.mem_cons_of_mem _ (List.mem_cons_self ..))
    (case hc_law => kernel_rfl)
    (case nP_law => kernel_rfl)
    (case tu_ => simp only [List.mem_cons, List.not_mem_nil, or_false, forall_eq_or_imp, forall_eq]; decide +kernel)
    (case z_ValueError => k_is)
    (case z_abs => k_is)
    (case z_bool => k_is)
    (case z_dict => k_is)
    (case z_enumerate => k_is)
    (case z_int => k_is)
    (case z_isinstance => k_is)
    (case z_len => k_is)
    (case z_list => k_is)
    (case z_min => k_is)
    (case z_range => k_is)
    (case z_sorted => k_is)
    (case z_tuple => k_is)
    (case z_zip => k_is)
    (case xg_NoTime => k_is)
    (case xi_NoTime => k_exc)
    (case xk_NoTime => k_is)
    (case xb_NoTime => k_is)
    (case xt_NoTime => k_is)
    (case xe_NoTime => first | kernel_rfl | rfl)
    (case xg_NoTrack => k_is)
    (case xi_NoTrack => k_exc)
    (case xk_NoTrack => k_is)
    (case xb_NoTrack => k_is)
    (case xt_NoTrack => k_is)
    (case xe_NoTrack => first | kernel_rfl | rfl)
    (case xg_NoTable => k_is)
    (case xg_NoRest => k_is)
    (case xg_NoCarrier => k_is)
    (case xg_NoName => k_is)
    (case xg_TrackError => k_is)
    (case jhg_NoTime => k_is)
    (case jhk_NoTime => k_is)
    (case jhs_NoTime => k_is)
    (case jhd_NoTime => k_is)
    (case jha_NoTime => k_is)
    (case jhn_NoTime => k_is)
    (case jht_NoTime => k_is)
    (case jhm_NoTime => k_is)
    (case xh_NoTime => first | kernel_rfl | rfl)
    (case kt_NoTime_NoTable => first | kernel_rfl | rfl)
    (case kt_NoTime_NoRest => first | kernel_rfl | rfl)
    (case kt_NoTime_NoCarrier => first | kernel_rfl | rfl)
    (case kt_NoTime_NoName => first | kernel_rfl | rfl)
    (case kt_NoTime_NoTrack => first | kernel_rfl | rfl)
    (case kt_NoTime_NoTime => first | kernel_rfl | rfl)
    (case kb_NoTime_ValueError => first | kernel_rfl | rfl)
    (case jhg_NoTrack => k_is)
    (case jhk_NoTrack => k_is)
    (case jhs_NoTrack => k_is)
    (case jhd_NoTrack => k_is)
    (case jha_NoTrack => k_is)
    (case jhn_NoTrack => k_is)
    (case jht_NoTrack => k_is)
    (case jhm_NoTrack => k_is)
    (case xh_NoTrack => first | kernel_rfl | rfl)
    (case kt_NoTrack_NoTable => first | kernel_rfl | rfl)
    (case kt_NoTrack_NoRest => first | kernel_rfl | rfl)
    (case kt_NoTrack_NoCarrier => first | kernel_rfl | rfl)
    (case kt_NoTrack_NoName => first | kernel_rfl | rfl)
    (case kt_NoTrack_NoTrack => first | kernel_rfl | rfl)
    (case kt_NoTrack_NoTime => first | kernel_rfl | rfl)
    (case kb_NoTrack_ValueError => first | kernel_rfl | rfl)
