import PyProof.Rows.All
import Wide.All
import OpenK.AllK
import Wide.FinOn
import HandS.ForMost
import HandS.Wide
import HandS.WideBits
import HandS.StrMore
import HandS.Replace
import HandS.IsInst
import HandS.Zip
import HandS.Conv
import HandS.Flow
import HandS.TryOnly
import HandS.Defaults
import HandS.TupAny
import HandS.More
import HandS.TupLe
import Wide.Txt
import KE.DataMinMax
import HandS.SortKw
import KE.KRevSl
import HandS.Dict
import HandS.Iter
import HandS.Comp
import HandS.Deep
import HandS.ReplaceLit
import HandS.ReplaceDef
import PyProof.ToksMono
import KE.KItemsList
import HandS.ListItems
import PyProof.Rows.SetFrom
import HandS.Strs
import KE.KDictZip
import PyProof.AutoSeq1
import HandS.ReplaceList
import PySem.Challenge.RW_freshpage_k05_whole_or_not
set_option Elab.async false
set_option linter.all false
set_option maxRecDepth 100000
set_option maxHeartbeats 4000000
/-! F0: values by value (D), how they lie in the abstract heap (R), slots, steps. -/
namespace F
open PySem PySem.Spec PyProof.Rows L2

abbrev St := L2.St
inductive D where
  | non | bl (b : Bool) | int (i : Int) | str (s : List Nat) | tup (ds : List D) | rol (ds : List D) | scr (ds : List D) | ref (n : Nat)
  deriving Inhabited
abbrev S (l : List Nat) : Str := ⟨l.toArray⟩
inductive Cell where
  | lst (ds : List D) | dct (kvs : List (D × D))
  deriving Inhabited
inductive Slot where
  | no | v (d : D) | c (c : Cell)
  deriving Inhabited
abbrev Env := List Slot
abbrev Hs := List Cell
/-- what an expression gives: a value; a new cell (list, dict) that nobody holds; a cell that somebody holds (to be read) -/
inductive RV where
  | d (d : D) | l (c : Cell) | b (c : Cell)

/-! ### how data lie in the heap -/
def KLst (K : PySem.W.Frag) (a : Addr) (xs : List V) : Prop :=
  ∃ (o : Obj) (its : Array Value) (n : Nat), K.lookup a = some o ∧ o.cls = .type "list" ∧ o.dict = none ∧ o.data = .seq its n ∧ its.size ≤ sizeLine ∧ Vals xs its.toList
def KTup (K : PySem.W.Frag) (a : Addr) (xs : List V) : Prop :=
  ∃ (o : Obj) (its : Array Value) (n : Nat), K.lookup a = some o ∧ o.cls = .type "tuple" ∧ o.data = .seq its n ∧ its.size ≤ sizeLine ∧ Vals xs its.toList
mutual
def R (K : PySem.W.Frag) (α : List Addr) (O : Addr → Prop) (H : Hp) : D → V → Prop
  | .non, v => v = .non
  | .bl b, v => v = .bl b
  | .int i, v => v = .int i
  | .str s, v => v = .str (S s)
  | .tup ds, v => ∃ a xs, v = .ref a ∧ ((H a = some (.tup xs) ∧ a ∉ α ∧ ¬ O a) ∨ KTup K a xs) ∧ RL K α O H ds xs
  | .rol ds, v => ∃ a xs, v = .ref a ∧ (H a = some (.lst xs) ∧ a ∉ α ∧ ¬ O a) ∧ RL K α O H ds xs
  | .scr ds, v => ∃ a xs, v = .ref a ∧ ((Rd H a (.lst xs) ∧ a ∉ α ∧ ¬ O a) ∨ KLst K a xs) ∧ RL K α O H ds xs
  | .ref n, v => ∃ a, v = .ref a ∧ α[n]? = some a
def RL (K : PySem.W.Frag) (α : List Addr) (O : Addr → Prop) (H : Hp) : List D → List V → Prop
  | [], xs => xs = []
  | d :: ds, xs => ∃ x r, xs = x :: r ∧ R K α O H d x ∧ RL K α O H ds r
end
def keyOf : D → Option Key
  | .int i => some (.inl i)
  | .str s => some (.inr (S s))
  | _ => none
def RP (K : PySem.W.Frag) (α : List Addr) (O : Addr → Prop) (H : Hp) : List (D × D) → List (Key × V) → Prop
  | [], ps => ps = []
  | kd :: r, ps => ∃ k x q, ps = (k, x) :: q ∧ keyOf kd.1 = some k ∧ R K α O H kd.2 x ∧ RP K α O H r q
def COk (K : PySem.W.Frag) (α : List Addr) (O : Addr → Prop) (H : Hp) : Cell → Addr → Prop
  | .lst ds, a => ∃ xs, H a = some (.lst xs) ∧ RL K α O H ds xs
  | .dct kvs, a => ∃ ps, H a = some (.dK ps) ∧ RP K α O H kvs ps

/-- how the heap moves on: what is not in α stays -/
structure Stp (α : List Addr) (H : Hp) (α' : List Addr) (H' : Hp) : Prop where
  fr : ∀ a o, H a = some o → a ∉ α → H' a = some o
  pre : ∀ (i : Nat) a, α[i]? = some a → α'[i]? = some a
  new : ∀ a, a ∈ α' → a ∈ α ∨ H a = none
theorem Stp.refl (α : List Addr) (H : Hp) : Stp α H α H := ⟨fun _ _ h _ => h, fun _ _ h => h, fun _ h => .inl h⟩
theorem none_of_fr {α : List Addr} {H H' : Hp} (fr : ∀ a o, H a = some o → a ∉ α → H' a = some o) {a : Addr} (ha : a ∉ α) (h : H' a = none) : H a = none := by
  cases e : H a with
  | none => rfl
  | some o => rw [fr a o e ha] at h; cases h
theorem Stp.trans {α α1 α2 : List Addr} {H H1 H2 : Hp} (s : Stp α H α1 H1) (t : Stp α1 H1 α2 H2) : Stp α H α2 H2 where
  fr := fun a o h n => t.fr a o (s.fr a o h n) fun m => by
    rcases s.new a m with q | q
    · exact n q
    · rw [q] at h; cases h
  pre := fun i a h => t.pre i a (s.pre i a h)
  new := fun a m => by
    rcases t.new a m with q | q
    · exact s.new a q
    · by_cases ha : a ∈ α
      · exact .inl ha
      · exact .inr (none_of_fr s.fr ha q)
theorem Rd.fr {α : List Addr} {H H' : Hp} (fr : ∀ a o, H a = some o → a ∉ α → H' a = some o) {a : Addr} {u : HO} (r : Rd H a u) (n : a ∉ α) : Rd H' a u := by
  rcases r with r | ⟨o, r⟩
  · exact .inl (fr _ _ r n)
  · exact .inr ⟨o, fr _ _ r n⟩
theorem Rd.some {H : Hp} {a : Addr} {u : HO} (r : Rd H a u) : ∃ o, H a = some o := by
  rcases r with r | ⟨o, r⟩
  · exact ⟨_, r⟩
  · exact ⟨_, r⟩

section
variable {K : PySem.W.Frag} {α α' : List Addr} {O O' : Addr → Prop} {H H' : Hp}
/-- data stand: each address that is neither held as a cell nor owned stays so -/
structure Mv (α : List Addr) (O : Addr → Prop) (H : Hp) (α' : List Addr) (O' : Addr → Prop) (H' : Hp) : Prop where
  at_ : ∀ a o, H a = some o → a ∉ α → ¬ O a → H' a = some o ∧ a ∉ α' ∧ ¬ O' a
  pre : ∀ (i : Nat) a, α[i]? = some a → α'[i]? = some a
theorem Mv.rd (m : Mv α O H α' O' H') {a : Addr} {u : HO} (r : Rd H a u) (n : a ∉ α) (n2 : ¬ O a) : Rd H' a u ∧ a ∉ α' ∧ ¬ O' a := by
  rcases r with r | ⟨o, r⟩
  · obtain ⟨x, y, z⟩ := m.at_ _ _ r n n2; exact ⟨.inl x, y, z⟩
  · obtain ⟨x, y, z⟩ := m.at_ _ _ r n n2; exact ⟨.inr ⟨o, x⟩, y, z⟩
mutual
theorem R.mv (m : Mv α O H α' O' H') : ∀ (d : D) (v : V), R K α O H d v → R K α' O' H' d v
  | .non, v, h => by simpa only [R] using h
  | .bl b, v, h => by simpa only [R] using h
  | .int i, v, h => by simpa only [R] using h
  | .str s, v, h => by simpa only [R] using h
  | .tup ds, v, h => by
    simp only [R] at h ⊢
    obtain ⟨a, xs, e, p, q⟩ := h
    refine ⟨a, xs, e, ?_, RL.mv m ds xs q⟩
    rcases p with ⟨p1, p2, p3⟩ | p
    · exact .inl (m.at_ _ _ p1 p2 p3)
    · exact .inr p
  | .rol ds, v, h => by
    simp only [R] at h ⊢
    obtain ⟨a, xs, e, ⟨p1, p2, p3⟩, q⟩ := h
    exact ⟨a, xs, e, m.at_ _ _ p1 p2 p3, RL.mv m ds xs q⟩
  | .scr ds, v, h => by
    simp only [R] at h ⊢
    obtain ⟨a, xs, e, p, q⟩ := h
    refine ⟨a, xs, e, ?_, RL.mv m ds xs q⟩
    rcases p with ⟨p1, p2, p3⟩ | p
    · exact .inl (m.rd p1 p2 p3)
    · exact .inr p
  | .ref n, v, h => by
    simp only [R] at h ⊢
    obtain ⟨a, e, p⟩ := h
    exact ⟨a, e, m.pre _ _ p⟩
theorem RL.mv (m : Mv α O H α' O' H') : ∀ (ds : List D) (xs : List V), RL K α O H ds xs → RL K α' O' H' ds xs
  | [], xs, h => by simpa only [RL] using h
  | d :: ds, xs, h => by
    simp only [RL] at h ⊢
    obtain ⟨x, r, e, p, q⟩ := h
    exact ⟨x, r, e, R.mv m d x p, RL.mv m ds r q⟩
end
theorem RP.mv (m : Mv α O H α' O' H') : ∀ (kvs : List (D × D)) (ps : List (Key × V)), RP K α O H kvs ps → RP K α' O' H' kvs ps
  | [], ps, h => h
  | kd :: r, ps, h => by
    obtain ⟨k, x, q, e, p, r1, r2⟩ := h
    exact ⟨k, x, q, e, p, R.mv m _ _ r1, RP.mv m r q r2⟩
/-- a cell of which the object stays -/
theorem COk.mv (m : Mv α O H α' O' H') {c : Cell} {a : Addr} (h : COk K α O H c a) (s : ∀ o, H a = some o → H' a = some o) : COk K α' O' H' c a := by
  cases c with
  | lst ds =>
    obtain ⟨xs, e, q⟩ := h
    exact ⟨xs, s _ e, RL.mv m _ _ q⟩
  | dct kvs =>
    obtain ⟨ps, e, q⟩ := h
    exact ⟨ps, s _ e, RP.mv m _ _ q⟩
theorem COk.there {c : Cell} {a : Addr} (h : COk K α O H c a) : ∃ o, H a = some o := by
  cases c with
  | lst ds => obtain ⟨xs, e, _⟩ := h; exact ⟨_, e⟩
  | dct kvs => obtain ⟨ps, e, _⟩ := h; exact ⟨_, e⟩
/-- a step, O as it is -/
theorem Stp.mv (s : Stp α H α' H') : Mv α O H α' O H' where
  at_ := fun a o h n n2 => ⟨s.fr a o h n, (fun m => by
    rcases s.new a m with q | q
    · exact n q
    · rw [q] at h; cases h), n2⟩
  pre := s.pre
theorem Mv.refl : Mv α O H α O H := ⟨fun a o h n m => ⟨h, n, m⟩, fun _ _ h => h⟩
/-- less owned -/
theorem Mv.less (h : ∀ a, O' a → O a) : Mv α O H α O' H := ⟨fun a o e n m => ⟨e, n, fun q => m (h a q)⟩, fun _ _ h => h⟩
theorem RL.length : ∀ {ds : List D} {xs : List V}, RL K α O H ds xs → ds.length = xs.length
  | [], xs, h => by simp only [RL] at h; subst h; rfl
  | d :: ds, xs, h => by
    simp only [RL] at h
    obtain ⟨x, r, e, p, q⟩ := h
    subst e
    simp [RL.length q]
theorem RL.get : ∀ {ds : List D} {xs : List V} {i : Nat} {d : D}, RL K α O H ds xs → ds[i]? = some d → ∃ x, xs[i]? = some x ∧ R K α O H d x
  | [], xs, i, d, h, e => by simp at e
  | d :: ds, xs, 0, d', h, e => by
    simp only [RL] at h
    obtain ⟨x, r, e1, p, q⟩ := h
    subst e1
    simp at e
    subst e
    exact ⟨x, rfl, p⟩
  | d :: ds, xs, i + 1, d', h, e => by
    simp only [RL] at h
    obtain ⟨x, r, e1, p, q⟩ := h
    subst e1
    obtain ⟨y, e2, q2⟩ := RL.get (i := i) q (by simpa using e)
    exact ⟨y, by simpa using e2, q2⟩
theorem RL.app : ∀ {ds es : List D} {xs ys : List V}, RL K α O H ds xs → RL K α O H es ys → RL K α O H (ds ++ es) (xs ++ ys)
  | [], es, xs, ys, h, h2 => by simp only [RL] at h; subst h; exact h2
  | d :: ds, es, xs, ys, h, h2 => by
    simp only [RL] at h
    obtain ⟨x, r, e1, p, q⟩ := h
    subst e1
    simp only [List.cons_append, RL]
    exact ⟨x, r ++ ys, rfl, p, RL.app q h2⟩
theorem RL.one {d : D} {x : V} (h : R K α O H d x) : RL K α O H [d] [x] := by
  simp only [RL]; exact ⟨x, [], rfl, h, rfl⟩
theorem RL.nil : RL K α O H [] [] := by simp only [RL]
theorem RL.cons {d : D} {x : V} {ds : List D} {xs : List V} (h : R K α O H d x) (q : RL K α O H ds xs) : RL K α O H (d :: ds) (x :: xs) := by
  simp only [RL]; exact ⟨x, xs, rfl, h, q⟩
theorem RL.inv {d : D} {ds : List D} {xs : List V} (h : RL K α O H (d :: ds) xs) : ∃ x r, xs = x :: r ∧ R K α O H d x ∧ RL K α O H ds r := by
  simpa only [RL] using h
theorem RL.invN {xs : List V} (h : RL K α O H [] xs) : xs = [] := by simpa only [RL] using h
theorem RL.take : ∀ {ds : List D} {xs : List V} (n : Nat), RL K α O H ds xs → RL K α O H (ds.take n) (xs.take n)
  | _, _, 0, _ => by simpa using RL.nil
  | [], xs, n + 1, h => by rw [RL.invN h]; simpa using RL.nil
  | d :: ds, xs, n + 1, h => by
    obtain ⟨x, r, e, p, q⟩ := h.inv
    subst e
    simpa using RL.cons p (RL.take n q)
theorem RL.drop : ∀ {ds : List D} {xs : List V} (n : Nat), RL K α O H ds xs → RL K α O H (ds.drop n) (xs.drop n)
  | _, _, 0, h => by simpa using h
  | [], xs, n + 1, h => by rw [RL.invN h]; simpa using RL.nil
  | d :: ds, xs, n + 1, h => by
    obtain ⟨x, r, e, p, q⟩ := h.inv
    subst e
    simpa using RL.drop n q
theorem RL.set : ∀ {ds : List D} {xs : List V} (n : Nat) {d : D} {x : V}, RL K α O H ds xs → R K α O H d x → RL K α O H (ds.set n d) (xs.set n x)
  | [], xs, n, d, x, h, p => by rw [RL.invN h]; simpa using RL.nil
  | e :: ds, xs, 0, d, x, h, p => by
    obtain ⟨y, r, e1, _, q⟩ := h.inv
    subst e1
    simpa using RL.cons p q
  | e :: ds, xs, n + 1, d, x, h, p => by
    obtain ⟨y, r, e1, p1, q⟩ := h.inv
    subst e1
    simpa using RL.cons p1 (RL.set n q p)
theorem RL.rev : ∀ {ds : List D} {xs : List V}, RL K α O H ds xs → RL K α O H ds.reverse xs.reverse
  | [], xs, h => by rw [RL.invN h]; simpa using RL.nil
  | d :: ds, xs, h => by
    obtain ⟨x, r, e, p, q⟩ := h.inv
    subst e
    simpa using (RL.rev q).app (RL.one p)
end

/-! ### the whole -/
def Ins (O : Addr → Prop) (a : Addr) : Addr → Prop := fun b => b = a ∨ O b
structure HRel (K : PySem.W.Frag) (α : List Addr) (O : Addr → Prop) (H : Hp) (h : Hs) : Prop where
  len : α.length = h.length
  nd : α.Nodup
  cell : ∀ (n : Nat) c a, h[n]? = some c → α[n]? = some a → COk K α O H c a
  dis : ∀ a, a ∈ α → ¬ O a
  trk : ∀ a, O a → ∃ o, H a = some o
structure SRel (K : PySem.W.Frag) (α : List Addr) (O : Addr → Prop) (H : Hp) (σ : St) (env : Env) : Prop where
  len : env.length = σ.length
  val : ∀ (i : Nat) d, env[i]? = some (.v d) → ∃ x, σ[i]? = some (some x) ∧ R K α O H d x
  own : ∀ (i : Nat) c, env[i]? = some (.c c) → ∃ a, σ[i]? = some (some (.ref a)) ∧ COk K α O H c a ∧ O a
  dis : ∀ (i j : Nat) c c' a, env[i]? = some (.c c) → env[j]? = some (.c c') → σ[i]? = some (some (.ref a)) → σ[j]? = some (some (.ref a)) → i = j
section
variable {K : PySem.W.Frag} {α α' : List Addr} {O O' : Addr → Prop} {H H' : Hp} {h h' : Hs} {σ : St} {env : Env}
theorem HRel.tracked (r : HRel K α O H h) {a : Addr} (m : a ∈ α) : ∃ o, H a = some o := by
  obtain ⟨n, hn, e⟩ := List.getElem_of_mem m
  have h1 : α[n]? = some a := by rw [List.getElem?_eq_getElem hn, e]
  have h2 : n < h.length := by rw [← r.len]; exact hn
  exact (r.cell n _ a (List.getElem?_eq_getElem h2) h1).there
theorem HRel.notin (r : HRel K α O H h) {a : Addr} (n : H a = none) : a ∉ α := fun m => by
  obtain ⟨o, e⟩ := r.tracked m
  rw [n] at e; cases e
theorem HRel.notO (r : HRel K α O H h) {a : Addr} (n : H a = none) : ¬ O a := fun m => by
  obtain ⟨o, e⟩ := r.trk a m
  rw [n] at e; cases e
theorem HRel.less (r : HRel K α O H h) (l : ∀ a, O' a → O a) : HRel K α O' H h :=
  ⟨r.len, r.nd, fun n c a e1 e2 => (r.cell n c a e1 e2).mv (Mv.less l) fun _ q => q, fun a m q => r.dis a m (l a q), fun a q => r.trk a (l a q)⟩
theorem SRel.mv (s : SRel K α O H σ env) (m : Mv α O H α' O' H') (ko : ∀ a o, O a → H a = some o → H' a = some o) (oo : ∀ a, O a → O' a) : SRel K α' O' H' σ env where
  len := s.len
  val := fun i d e => by
    obtain ⟨x, e1, r⟩ := s.val i d e
    exact ⟨x, e1, R.mv m _ _ r⟩
  own := fun i c e => by
    obtain ⟨a, e1, r, o⟩ := s.own i c e
    exact ⟨a, e1, r.mv m fun ob q => ko a ob o q, oo a o⟩
  dis := s.dis
theorem SRel.stp (s : SRel K α O H σ env) (r : HRel K α O H h) (m : Stp α H α' H') : SRel K α' O H' σ env :=
  s.mv m.mv (fun a o ho e => m.fr a o e fun hm => r.dis a hm ho) fun _ h => h
end
end F
/-! F1: the judgements over data, names, operators, tests. -/
namespace F
open PySem PySem.Spec PyProof.Rows L2

/-! ### contexts -/
structure GG where
  P : Program
  w : World
  K : PySem.W.Frag
  mg : Str → Option Value
  base : Heap
structure G where
  g : GG
  N : List Str
  sc : Scope
  k : Nat
  fn : Str → Bool
structure G.At (Γ : G) (X : Cx) : Prop where
  prog : X.prog = Γ.g.P
  w : X.w = Γ.g.w
  K : X.K = Γ.g.K
  mg : X.mg = Γ.g.mg
  base : X.base = Γ.g.base
  N : X.N = Γ.N
  sc : X.env.scope = Γ.sc
  nd : Γ.N.Nodup
  calm : X.calm = true
  room : Room Γ.k X.A
  xe : X.xe = fun _ _ => False
  fn : X.fn = Γ.fn
theorem G.At.hu {Γ : G} {X : Cx} (c : Γ.At X) : X.A.units + 1 < cLine := hu_of c.room

/-- what a value is at a later moment -/
inductive VAt (K : PySem.W.Frag) (α : List Addr) (O : Addr → Prop) (H : Hp) : RV → V → Prop
  | d {d : D} {x : V} (r : R K α O H d x) : VAt K α O H (.d d) x
  | l {c : Cell} {a : Addr} (q : COk K α O H c a) (n : a ∉ α) : VAt K α O H (.l c) (.ref a)
  | b {c : Cell} {a : Addr} (q : COk K α O H c a) (n : a ∉ α) : VAt K α O H (.b c) (.ref a)
/-- what is told of an expression's value -/
inductive VOk (K : PySem.W.Frag) (O : Addr → Prop) (H : Hp) (α' : List Addr) (H' : Hp) (h' : Hs) : RV → V → Prop
  | d {d : D} {x : V} (r : HRel K α' O H' h') (q : R K α' O H' d x) : VOk K O H α' H' h' (.d d) x
  | l {c : Cell} {a : Addr} (n : H a = none) (r : HRel K α' (Ins O a) H' h') (q : COk K α' (Ins O a) H' c a) : VOk K O H α' H' h' (.l c) (.ref a)
  | b {c : Cell} {a : Addr} (r : HRel K α' O H' h') (q : COk K α' O H' c a) (n : a ∉ α') : VOk K O H α' H' h' (.b c) (.ref a)
section
variable {K : PySem.W.Frag} {α α' α1 α2 : List Addr} {O O' : Addr → Prop} {H H' H1 H2 : Hp} {h h' h1 h2 : Hs} {σ : St} {env : Env}
theorem COk.less {c : Cell} {a : Addr} (x : COk K α O H c a) (l : ∀ a, O' a → O a) : COk K α O' H c a := x.mv (Mv.less l) fun _ q => q
theorem VOk.hr {rv : RV} {x : V} (o : VOk K O H α' H' h' rv x) : HRel K α' O H' h' := by
  cases o with
  | d r q => exact r
  | l n r q => exact r.less fun _ q => .inr q
  | b r q n => exact r
theorem VOk.at_ {rv : RV} {x : V} (o : VOk K O H α' H' h' rv x) : VAt K α' O H' rv x := by
  cases o with
  | d r q => exact .d q
  | l n r q => exact .l (q.less fun _ q => .inr q) fun m => r.dis _ m (.inl rfl)
  | b r q n => exact .b q n
theorem VAt.stp {rv : RV} {x : V} (o : VAt K α O H rv x) (s : Stp α H α' H') : VAt K α' O H' rv x := by
  have go : ∀ {c : Cell} {a : Addr}, COk K α O H c a → a ∉ α → COk K α' O H' c a ∧ a ∉ α' := fun {c a} q n => by
    refine ⟨q.mv s.mv fun o e => s.fr _ _ e n, fun m => ?_⟩
    rcases s.new a m with z | z
    · exact n z
    · obtain ⟨o, e⟩ := q.there
      rw [z] at e; cases e
  cases o with
  | d r => exact .d (R.mv s.mv _ _ r)
  | l q n => exact .l (go q n).1 (go q n).2
  | b q n => exact .b (go q n).1 (go q n).2
/-- from an earlier heap on -/
theorem VOk.back {rv : RV} {x : V} (s : Stp α H α1 H1) (r1 : HRel K α1 O H1 h1) (o : VOk K O H1 α' H' h' rv x) : VOk K O H α' H' h' rv x := by
  cases o with
  | d r q => exact .d r q
  | l n r q =>
    refine .l (none_of_fr s.fr (fun m => r1.notin n ?_) n) r q
    obtain ⟨i, hi, e2⟩ := List.getElem_of_mem m
    exact List.mem_of_getElem? (s.pre i _ (by rw [List.getElem?_eq_getElem hi, e2]))
  | b r q n => exact .b r q n
theorem VOk.isD {d : D} {x : V} (o : VOk K O H α' H' h' (.d d) x) : R K α' O H' d x := by
  cases o with
  | d r q => exact q
theorem VAt.isD {d : D} {x : V} (o : VAt K α O H (.d d) x) : R K α O H d x := by
  cases o with
  | d q => exact q
theorem R.bl_eq {b : Bool} {x : V} (h : R K α O H (.bl b) x) : x = .bl b := by simpa only [R] using h
theorem R.int_eq {b : Int} {x : V} (h : R K α O H (.int b) x) : x = .int b := by simpa only [R] using h
theorem R.str_eq {b : List Nat} {x : V} (h : R K α O H (.str b) x) : x = .str (S b) := by simpa only [R] using h
theorem R.non_eq {x : V} (h : R K α O H .non x) : x = .non := by simpa only [R] using h
theorem R.bl_mk {b : Bool} : R K α O H (.bl b) (.bl b) := by simp only [R]
theorem R.int_mk {b : Int} : R K α O H (.int b) (.int b) := by simp only [R]
theorem R.str_mk {b : List Nat} : R K α O H (.str b) (.str (S b)) := by simp only [R]
theorem R.non_mk : R K α O H .non .non := by simp only [R]
end

/-! ### the data's readings -/
abbrev DE := Env → Hs → Option (RV × Hs)
abbrev DA := Env → Hs → Option (List RV × Hs)
abbrev DT := Env → Hs → Option (Bool × Hs)
def tE (K : PySem.W.Frag) (f : DE) : TE := fun σ H Q => ∃ α O h env, HRel K α O H h ∧ SRel K α O H σ env ∧ ∃ rv h', f env h = some (rv, h') ∧ ∀ α' H' x, Stp α H α' H' → VOk K O H α' H' h' rv x → Q x H'
def VAts (K : PySem.W.Frag) (α : List Addr) (O : Addr → Prop) (H : Hp) : List RV → List V → Prop
  | [], xs => xs = []
  | rv :: r, xs => ∃ x q, xs = x :: q ∧ VAt K α O H rv x ∧ VAts K α O H r q
def tA (K : PySem.W.Frag) (f : DA) : TA := fun σ H Q => ∃ α O h env, HRel K α O H h ∧ SRel K α O H σ env ∧ ∃ rvs h', f env h = some (rvs, h') ∧ ∀ α' H' xs, Stp α H α' H' → HRel K α' O H' h' → VAts K α' O H' rvs xs → Q xs H'
def tT (K : PySem.W.Frag) (f : DT) : TT := fun σ H Q => ∃ α O h env, HRel K α O H h ∧ SRel K α O H σ env ∧ ∃ b h', f env h = some (b, h') ∧ ∀ α' H', Stp α H α' H' → HRel K α' O H' h' → Q b H'
theorem VAts.stp {K : PySem.W.Frag} {α α' : List Addr} {O : Addr → Prop} {H H' : Hp} (s : Stp α H α' H') : ∀ {rs : List RV} {xs : List V}, VAts K α O H rs xs → VAts K α' O H' rs xs
  | [], xs, o => o
  | rv :: r, xs, o => by
    obtain ⟨x, q, e, o1, o2⟩ := o
    exact ⟨x, q, e, o1.stp s, VAts.stp s o2⟩
/-- the judgements -/
def SE (Γ : G) (e : Expr) (f : DE) : Prop := ∀ X : Cx, Γ.At X → PE X e (tE Γ.g.K f)
def ST (Γ : G) (e : Expr) (f : DT) : Prop := ∀ X : Cx, Γ.At X → PT X e (tT Γ.g.K f)
def SW (Γ : G) (e : Expr) (f : DT) : Prop := ∀ X : Cx, Γ.At X → PW X e (tT Γ.g.K f)
def SA (Γ : G) (es : List Expr) (f : DA) : Prop := ∀ X : Cx, Γ.At X → PA X es (tA Γ.g.K f)
section
variable {X : Cx} {e : Expr} {es : List Expr}
theorem PE.imp {t u : TE} (h : PE X e t) (i : ∀ σ H Q, u σ H Q → t σ H Q) : PE X e u := ⟨fun pins s σ H Q I q => h.run pins s σ H Q I (i σ H Q q)⟩
theorem PT.imp {t u : TT} (h : PT X e t) (i : ∀ σ H Q, u σ H Q → t σ H Q) : PT X e u := ⟨fun pins s σ H Q I q => h.run pins s σ H Q I (i σ H Q q)⟩
theorem PW.imp {t u : TT} (h : PW X e t) (i : ∀ σ H Q, u σ H Q → t σ H Q) : PW X e u := ⟨fun wh pins s σ H Q I q => h.run wh pins s σ H Q I (i σ H Q q)⟩
theorem PA.imp {t u : TA} (h : PA X es t) (i : ∀ σ H Q, u σ H Q → t σ H Q) : PA X es u := ⟨fun pos pins s σ H Q I q => h.run pos pins s σ H Q I (i σ H Q q)⟩
end

/-! ### names and constants -/
def eC (d : D) : DE := fun _ h => some (.d d, h)
def eV (i : Nat) : DE := fun env h => match env[i]? with
  | some (.v d) => some (.d d, h)
  | some (.c c) => some (.b c, h)
  | _ => none
section
variable {Γ : G} {pos : Pos}
theorem Vis.of {X : Cx} {x : Str} (c : Γ.At X) (h : Γ.sc.names.lookup x = some .local ∨ Γ.sc.names.lookup x = some .cell ∨ Γ.sc.names.lookup x = some .free) : Vis X.env.scope x := by
  rw [c.sc]; exact h
theorem se_var {i : Nat} {x : Str} (hN : Γ.N[i]? = some x := by rfl) (hv : Γ.sc.names.lookup x = some .local ∨ Γ.sc.names.lookup x = some .cell ∨ Γ.sc.names.lookup x = some .free := by first | exact Or.inl rfl | exact Or.inr (Or.inl rfl) | exact Or.inr (Or.inr rfl))
    (hd : (x == ("__debug__" : Str)) = false := by decide) (hcd : (x == ("__classdict__" : Str)) = false := by decide) : SE Γ (.Name x pos) (eV i) := fun X c => by
  refine PE.imp (pe_var (by rw [c.N]; exact hN) (Vis.of c hv) hd hcd) fun σ H Q h => ?_
  obtain ⟨α, O, h, env, hr, sr, rv, h', e, k⟩ := h
  unfold eV at e
  split at e
  · rename_i d e1
    cases e
    obtain ⟨x, e2, r⟩ := sr.val _ _ e1
    exact ⟨x, e2, k α H x (.refl _ _) (.d hr r)⟩
  · rename_i d e1
    cases e
    obtain ⟨a, e2, r, o⟩ := sr.own _ _ e1
    exact ⟨_, e2, k α H _ (.refl _ _) (.b hr r fun m => hr.dis a m o)⟩
  · cases e
theorem tC_imp {K : PySem.W.Frag} {d : D} {v : V} (hd : ∀ α O H, R K α O H d v) {σ : St} {H : Hp} {Q : VK} (h : tE K (eC d) σ H Q) : tC v σ H Q := by
  obtain ⟨α, O, h, env, hr, sr, rv, h', e, k⟩ := h
  cases e
  exact k α H v (.refl _ _) (.d hr (hd _ _ _))
theorem se_int {i : Int} {j} : SE Γ (.Constant (.int i) j pos) (eC (.int i)) := fun X c => PE.imp pe_int fun σ H Q h => tC_imp (fun _ _ _ => by simp only [R]) h
theorem se_bl {b : Bool} {j} : SE Γ (.Constant (.bool b) j pos) (eC (.bl b)) := fun X c => PE.imp pe_bl fun σ H Q h => tC_imp (fun _ _ _ => by simp only [R]) h
theorem se_non {j} : SE Γ (.Constant .none j pos) (eC .non) := fun X c => PE.imp pe_non fun σ H Q h => tC_imp (fun _ _ _ => by simp only [R]) h
theorem se_str {x : Str} {l : List Nat} {j} (e : x = S l := by decide +kernel) : SE Γ (.Constant (.str x) j pos) (eC (.str l)) := fun X c => PE.imp pe_str fun σ H Q h => tC_imp (fun _ _ _ => by simp only [R, e]) h
/-- a module's constant -/
structure CAt (g : GG) (x : Str) (d : D) : Prop where
  ex : ∃ u v, g.mg x = some u ∧ RelV v u ∧ ∀ α O H, R g.K α O H d v
theorem se_glob {x : Str} {d : D} (C : CAt Γ.g x d) (hg : Γ.sc.names.lookup x = some .globalImplicit := by rfl) (hd : (x == ("__debug__" : Str)) = false := by decide) : SE Γ (.Name x pos) (eC d) := fun X c => by
  obtain ⟨u, v, e, r, k⟩ := C.ex
  exact PE.imp (pe_glob (v := v) (u := u) (by show X.env.scope.names.lookup x = _; rw [c.sc]; exact hg) (by rw [c.mg]; exact e) r hd) fun σ H Q h => tC_imp k h
end

/-! ### operators by values -/
def OpS (K : PySem.W.Frag) (r : R2) (g : RV → RV → Hs → Option (RV × Hs)) : Prop :=
  ∀ α O H h x y rx ry rv h' (Q : VK), HRel K α O H h → VAt K α O H rx x → VAt K α O H ry y → g rx ry h = some (rv, h') → (∀ z α' H', Stp α H α' H' → VOk K O H α' H' h' rv z → Q z H') → r x y H Q
def eB (g : RV → RV → Hs → Option (RV × Hs)) (fa fb : DE) : DE := fun env h => match fa env h with
  | some (x, h1) => match fb env h1 with
    | some (y, h2) => g x y h2
    | none => none
  | none => none
def UnS (K : PySem.W.Frag) (r : V → Hp → VK → Prop) (g : RV → Hs → Option (RV × Hs)) : Prop :=
  ∀ α O H h x rx rv h' (Q : VK), HRel K α O H h → VAt K α O H rx x → g rx h = some (rv, h') → (∀ z α' H', Stp α H α' H' → VOk K O H α' H' h' rv z → Q z H') → r x H Q
def eU (g : RV → Hs → Option (RV × Hs)) (fa : DE) : DE := fun env h => match fa env h with
  | some (x, h1) => g x h1
  | none => none
section
variable {Γ : G} {pos : Pos} {a b c : Expr} {fa fb fc : DE} {g g' : RV → RV → Hs → Option (RV × Hs)} {r r' : R2}
theorem tOp_imp {K : PySem.W.Frag} (hs : OpS K r g) {σ : St} {H : Hp} {Q : VK} (q : tE K (eB g fa fb) σ H Q) : tOp r (tE K fa) (tE K fb) σ H Q := by
  obtain ⟨α, O, h, env, hr, sr, rv, h', e, k⟩ := q
  unfold eB at e
  split at e
  · rename_i x1 h1 e1
    split at e
    · rename_i y1 h2 e2
      refine ⟨α, O, h, env, hr, sr, x1, h1, e1, fun α1 H1 x s1 o1 => ?_⟩
      refine ⟨α1, O, h1, env, o1.hr, sr.stp hr s1, y1, h2, e2, fun α2 H2 y s2 o2 => ?_⟩
      exact hs α2 O H2 h2 x y x1 y1 rv h' Q o2.hr (o1.at_.stp s2) o2.at_ e fun z α3 H3 s3 o3 => k α3 H3 z (s1.trans (s2.trans s3)) (o3.back (s1.trans s2) o2.hr)
    · cases e
  · cases e
theorem se_bin {op : Operator} (ho : ∀ X, Γ.At X → OpR X (binaryOp op) r) (hs : OpS Γ.g.K r g) (ha : SE Γ a fa) (hb : SE Γ b fb) : SE Γ (.BinOp a op b pos) (eB g fa fb) := fun X c =>
  PE.imp (pe_op (ho X c) (ha X c) (hb X c)) fun σ H Q q => tOp_imp hs q
theorem se_un {op : UnaryOp} {r : V → Hp → VK → Prop} {g : RV → Hs → Option (RV × Hs)} (ho : ∀ X, Γ.At X → UnR X (unaryOp op) r) (hs : UnS Γ.g.K r g) (ha : SE Γ a fa) : SE Γ (.UnaryOp op a pos) (eU g fa) := fun X c =>
  PE.imp (pe_un (ho X c) (ha X c)) fun σ H Q q => by
    obtain ⟨α, O, h, env, hr, sr, rv, h', e, k⟩ := q
    unfold eU at e
    split at e
    · rename_i x1 h1 e1
      refine ⟨α, O, h, env, hr, sr, x1, h1, e1, fun α1 H1 x s1 o1 => ?_⟩
      exact hs α1 O H1 h1 x x1 rv h' Q o1.hr o1.at_ e fun z α3 H3 s3 o3 => k α3 H3 z (s1.trans s3) (o3.back s1 o1.hr)
    · cases e
theorem se_cmp {op : CmpOp} (ho : ∀ X, Γ.At X → OpR X (compareOp op) r) (hs : OpS Γ.g.K r g) (ha : SE Γ a fa) (hb : SE Γ b fb) (hm : behindInMarks op b = false := by first | exact nomark _ | rfl) : SE Γ (.Compare a [op] [b] pos) (eB g fa fb) := fun X c =>
  PE.imp (pe_cmpR (ho X c) (ha X c) (hb X c) hm) fun σ H Q q => tOp_imp hs q
/-- a value as a test: a bool -/
def fB (f : DE) : DT := fun env h => match f env h with
  | some (.d (.bl b), h1) => some (b, h1)
  | _ => none
theorem tB_imp {K : PySem.W.Frag} {t : TE} {f : DE} (i : ∀ σ H Q, tE K f σ H Q → t σ H Q) {σ : St} {H : Hp} {Q : Bool → Hp → Prop} (q : tT K (fB f) σ H Q) : tTest t σ H Q := by
  obtain ⟨α, O, h, env, hr, sr, b, h', e, k⟩ := q
  unfold fB at e
  split at e
  · rename_i b1 h1 e1
    cases e
    refine i _ _ _ ⟨α, O, h, env, hr, sr, _, h', e1, fun α1 H1 x s1 o1 => ?_⟩
    exact ⟨b, o1.isD.bl_eq, k α1 H1 s1 o1.hr⟩
  · cases e
theorem st_cmp {op : CmpOp} (ho : ∀ X, Γ.At X → OpR X (compareOp op) r) (hs : OpS Γ.g.K r g) (ha : SE Γ a fa) (hb : SE Γ b fb) (hm : behindInMarks op b = false := by first | exact nomark _ | rfl) : ST Γ (.Compare a [op] [b] pos) (fB (eB g fa fb)) := fun X c =>
  PT.imp (pt_cmpR (ho X c) (ha X c) (hb X c) hm) fun σ H Q q => tB_imp (t := tOp r (tE Γ.g.K fa) (tE Γ.g.K fb)) (fun σ H Q q => tOp_imp hs q) q
theorem st_val (ha : SE Γ a fa) (he : ∀ (env : PySem.Env) whole, isTrue a env whole = (do let v ← whole; standAt a.pos; holding [v] (truthy v)) := by intro _ _; rfl) : ST Γ a (fB fa) := fun X c =>
  PT.imp (pt_val (ha X c) (fun w => he _ w)) fun σ H Q q => by
    have := tB_imp (t := tE Γ.g.K fa) (fun _ _ _ q => q) q
    exact this
/-- a < b < c -/
def eCh (g g' : RV → RV → Hs → Option (RV × Hs)) (fa fb fc : DE) : DE := fun env h => match fa env h with
  | some (x, h1) => match fb env h1 with
    | some (y, h2) => match g x y h2 with
      | some (.d (.bl true), h3) => match fc env h3 with
        | some (z, h4) => g' y z h4
        | none => none
      | some (.d (.bl false), h3) => some (.d (.bl false), h3)
      | _ => none
    | none => none
  | none => none
theorem tChain_imp {K : PySem.W.Frag} (hs : OpS K r g) (hs' : OpS K r' g') {σ : St} {H : Hp} {Q : VK} (q : tE K (eCh g g' fa fb fc) σ H Q) : tChain r r' (tE K fa) (tE K fb) (tE K fc) σ H Q := by
  obtain ⟨α, O, h, env, hr, sr, rv, h', e, k⟩ := q
  unfold eCh at e
  split at e
  · rename_i x1 h1 e1
    split at e
    · rename_i y1 h2 e2
      refine ⟨α, O, h, env, hr, sr, x1, h1, e1, fun α1 H1 x s1 o1 => ?_⟩
      refine ⟨α1, O, h1, env, o1.hr, sr.stp hr s1, y1, h2, e2, fun α2 H2 y s2 o2 => ?_⟩
      have sr1 := sr.stp hr s1
      have sr2 := sr1.stp o1.hr s2
      split at e
      · rename_i h3 e3
        split at e
        · rename_i z1 h4 e4
          refine hs α2 O H2 h2 x y x1 y1 _ h3 _ o2.hr (o1.at_.stp s2) o2.at_ e3 fun z α3 H3 s3 o3 => ?_
          refine ⟨true, o3.isD.bl_eq, iteT ?_⟩
          refine ⟨α3, O, h3, env, o3.hr, sr2.stp o2.hr s3, z1, h4, e4, fun α4 H4 z' s4 o4 => ?_⟩
          exact hs' α4 O H4 h4 y z' y1 z1 rv h' Q o4.hr (o2.at_.stp (s3.trans s4)) o4.at_ e fun u α5 H5 s5 o5 =>
            k α5 H5 u (s1.trans (s2.trans (s3.trans (s4.trans s5)))) (o5.back (s1.trans (s2.trans (s3.trans s4))) o4.hr)
        · cases e
      · rename_i h3 e3
        cases e
        refine hs α2 O H2 h2 x y x1 y1 _ _ _ o2.hr (o1.at_.stp s2) o2.at_ e3 fun z α3 H3 s3 o3 => ?_
        refine ⟨false, o3.isD.bl_eq, iteF ?_⟩
        exact k α3 H3 _ (s1.trans (s2.trans s3)) (.d o3.hr R.bl_mk)
      · cases e
    · cases e
  · cases e
theorem se_chain {op op' : CmpOp} (ho : ∀ X, Γ.At X → OpR X (compareOp op) r) (hs : OpS Γ.g.K r g) (ho' : ∀ X, Γ.At X → OpR X (compareOp op') r') (hs' : OpS Γ.g.K r' g') (ha : SE Γ a fa) (hb : SE Γ b fb) (hc : SE Γ c fc)
    (hm : lastMarks [op, op'] [b, c] = false := by with_unfolding_all rfl) : SE Γ (.Compare a [op, op'] [b, c] pos) (eCh g g' fa fb fc) := fun X cc =>
  PE.imp (pe_chain (ho X cc) (ho' X cc) (ha X cc) (hb X cc) (hc X cc) hm) fun σ H Q q => tChain_imp hs hs' q
theorem st_chain {op op' : CmpOp} (ho : ∀ X, Γ.At X → OpR X (compareOp op) r) (hs : OpS Γ.g.K r g) (ho' : ∀ X, Γ.At X → OpR X (compareOp op') r') (hs' : OpS Γ.g.K r' g') (ha : SE Γ a fa) (hb : SE Γ b fb) (hc : SE Γ c fc)
    (hm : lastMarks [op, op'] [b, c] = false := by with_unfolding_all rfl) : ST Γ (.Compare a [op, op'] [b, c] pos) (fB (eCh g g' fa fb fc)) := fun X cc =>
  PT.imp (pt_chain (ho X cc) (ho' X cc) (ha X cc) (hb X cc) (hc X cc) hm) fun σ H Q q => tB_imp (fun σ H Q q => tChain_imp hs hs' q) q
end

/-! ### and, or, not, if -/
def fAnd (f g : DT) : DT := fun env h => match f env h with
  | some (true, h1) => g env h1
  | some (false, h1) => some (false, h1)
  | none => none
def fOr (f g : DT) : DT := fun env h => match f env h with
  | some (true, h1) => some (true, h1)
  | some (false, h1) => g env h1
  | none => none
def fNot (f : DT) : DT := fun env h => match f env h with
  | some (b, h1) => some (!b, h1)
  | none => none
def eIf (c : DT) (f g : DE) : DE := fun env h => match c env h with
  | some (true, h1) => f env h1
  | some (false, h1) => g env h1
  | none => none
def eNot (f : DE) : DE := fun env h => match f env h with
  | some (.d (.bl b), h1) => some (.d (.bl !b), h1)
  | _ => none
def eAnd (f g : DE) : DE := fun env h => match f env h with
  | some (.d (.bl true), h1) => g env h1
  | some (.d (.bl false), h1) => some (.d (.bl false), h1)
  | _ => none
def eOr (f g : DE) : DE := fun env h => match f env h with
  | some (.d (.bl true), h1) => some (.d (.bl true), h1)
  | some (.d (.bl false), h1) => g env h1
  | _ => none
section
variable {Γ : G} {pos : Pos} {a b c : Expr} {rest : List Expr} {f g : DT} {fa fb : DE}
theorem sw_and1 (ha : ST Γ a f) : SW Γ (.BoolOp .And [a] pos) f := fun X c => pw_and1 (ha X c)
theorem sw_or1 (ha : ST Γ a f) : SW Γ (.BoolOp .Or [a] pos) f := fun X c => pw_or1 (ha X c)
theorem sw_and (ha : ST Γ a f) (hb : SW Γ (.BoolOp .And (b :: rest) pos) g) : SW Γ (.BoolOp .And (a :: b :: rest) pos) (fAnd f g) := fun X c =>
  PW.imp (pw_and (ha X c) (hb X c)) fun σ H Q q => by
    obtain ⟨α, O, h, env, hr, sr, rv, h', e, k⟩ := q
    unfold fAnd at e
    split at e
    · rename_i h1 e1
      refine ⟨α, O, h, env, hr, sr, true, h1, e1, fun α1 H1 s1 r1 => iteT ?_⟩
      exact ⟨α1, O, h1, env, r1, sr.stp hr s1, rv, h', e, fun α2 H2 s2 r2 => k α2 H2 (s1.trans s2) r2⟩
    · rename_i h1 e1
      cases e
      refine ⟨α, O, h, env, hr, sr, false, _, e1, fun α1 H1 s1 r1 => iteF ?_⟩
      exact k α1 H1 s1 r1
    · cases e
theorem sw_or (ha : ST Γ a f) (hb : SW Γ (.BoolOp .Or (b :: rest) pos) g) : SW Γ (.BoolOp .Or (a :: b :: rest) pos) (fOr f g) := fun X c =>
  PW.imp (pw_or (ha X c) (hb X c)) fun σ H Q q => by
    obtain ⟨α, O, h, env, hr, sr, rv, h', e, k⟩ := q
    unfold fOr at e
    split at e
    · rename_i h1 e1
      cases e
      refine ⟨α, O, h, env, hr, sr, true, _, e1, fun α1 H1 s1 r1 => iteT ?_⟩
      exact k α1 H1 s1 r1
    · rename_i h1 e1
      refine ⟨α, O, h, env, hr, sr, false, h1, e1, fun α1 H1 s1 r1 => iteF ?_⟩
      exact ⟨α1, O, h1, env, r1, sr.stp hr s1, rv, h', e, fun α2 H2 s2 r2 => k α2 H2 (s1.trans s2) r2⟩
    · cases e
theorem st_w (h : SW Γ a f) : ST Γ a f := fun X c => (h X c).pt
theorem st_not (ha : ST Γ a f) : ST Γ (.UnaryOp .Not a pos) (fNot f) := fun X c =>
  PT.imp (pt_not (ha X c)) fun σ H Q q => by
    obtain ⟨α, O, h, env, hr, sr, rv, h', e, k⟩ := q
    unfold fNot at e
    split at e
    · rename_i b h1 e1
      cases e
      exact ⟨α, O, h, env, hr, sr, b, _, e1, k⟩
    · cases e
theorem se_not (ha : SE Γ a fa) : SE Γ (.UnaryOp .Not a pos) (eNot fa) := fun X c =>
  PE.imp (pe_not (ha X c)) fun σ H Q q => by
    obtain ⟨α, O, h, env, hr, sr, rv, h', e, k⟩ := q
    unfold eNot at e
    split at e
    · rename_i b h1 e1
      cases e
      refine ⟨α, O, h, env, hr, sr, _, _, e1, fun α1 H1 x s1 o1 => ?_⟩
      exact ⟨b, o1.isD.bl_eq, k α1 H1 _ s1 (.d o1.hr R.bl_mk)⟩
    · cases e
theorem se_if (hc : ST Γ c f) (ha : SE Γ a fa) (hb : SE Γ b fb) : SE Γ (.IfExp c a b pos) (eIf f fa fb) := fun X cc =>
  PE.imp (pe_ifExp (hc X cc) (ha X cc) (hb X cc)) fun σ H Q q => by
    obtain ⟨α, O, h, env, hr, sr, rv, h', e, k⟩ := q
    unfold eIf at e
    split at e
    · rename_i h1 e1
      refine ⟨α, O, h, env, hr, sr, true, h1, e1, fun α1 H1 s1 r1 => iteT ?_⟩
      exact ⟨α1, O, h1, env, r1, sr.stp hr s1, rv, h', e, fun α2 H2 x s2 o2 => k α2 H2 x (s1.trans s2) (o2.back s1 r1)⟩
    · rename_i h1 e1
      refine ⟨α, O, h, env, hr, sr, false, h1, e1, fun α1 H1 s1 r1 => iteF ?_⟩
      exact ⟨α1, O, h1, env, r1, sr.stp hr s1, rv, h', e, fun α2 H2 x s2 o2 => k α2 H2 x (s1.trans s2) (o2.back s1 r1)⟩
    · cases e
theorem se_one {op} (ha : SE Γ a fa) : SE Γ (.BoolOp op [a] pos) fa := fun X c => pe_one (ha X c)
theorem se_and (ha : SE Γ a fa) (hb : SE Γ (.BoolOp .And (b :: rest) pos) fb) : SE Γ (.BoolOp .And (a :: b :: rest) pos) (eAnd fa fb) := fun X c =>
  PE.imp (pe_and (ha X c) (hb X c)) fun σ H Q q => by
    obtain ⟨α, O, h, env, hr, sr, rv, h', e, k⟩ := q
    unfold eAnd at e
    split at e
    · rename_i h1 e1
      refine ⟨α, O, h, env, hr, sr, _, h1, e1, fun α1 H1 x s1 o1 => ?_⟩
      refine ⟨true, o1.isD.bl_eq, iteT ?_⟩
      exact ⟨α1, O, h1, env, o1.hr, sr.stp hr s1, rv, h', e, fun α2 H2 x s2 o2 => k α2 H2 x (s1.trans s2) (o2.back s1 o1.hr)⟩
    · rename_i h1 e1
      cases e
      refine ⟨α, O, h, env, hr, sr, _, _, e1, fun α1 H1 x s1 o1 => ?_⟩
      refine ⟨false, o1.isD.bl_eq, iteF ?_⟩
      exact k α1 H1 _ s1 (.d o1.hr R.bl_mk)
    · cases e
theorem se_or (ha : SE Γ a fa) (hb : SE Γ (.BoolOp .Or (b :: rest) pos) fb) : SE Γ (.BoolOp .Or (a :: b :: rest) pos) (eOr fa fb) := fun X c =>
  PE.imp (pe_or (ha X c) (hb X c)) fun σ H Q q => by
    obtain ⟨α, O, h, env, hr, sr, rv, h', e, k⟩ := q
    unfold eOr at e
    split at e
    · rename_i h1 e1
      cases e
      refine ⟨α, O, h, env, hr, sr, _, _, e1, fun α1 H1 x s1 o1 => ?_⟩
      refine ⟨true, o1.isD.bl_eq, iteT ?_⟩
      exact k α1 H1 _ s1 (.d o1.hr R.bl_mk)
    · rename_i h1 e1
      refine ⟨α, O, h, env, hr, sr, _, h1, e1, fun α1 H1 x s1 o1 => ?_⟩
      refine ⟨false, o1.isD.bl_eq, iteF ?_⟩
      exact ⟨α1, O, h1, env, o1.hr, sr.stp hr s1, rv, h', e, fun α2 H2 x s2 o2 => k α2 H2 x (s1.trans s2) (o2.back s1 o1.hr)⟩
    · cases e
end

/-! ### argument lists, displays, coercions -/
def aNil : DA := fun _ h => some ([], h)
def aCons (f : DE) (g : DA) : DA := fun env h => match f env h with
  | some (x, h1) => match g env h1 with
    | some (xs, h2) => some (x :: xs, h2)
    | none => none
  | none => none
/-- all plain values -/
def plain : List RV → Option (List D)
  | [] => some []
  | .d d :: r => match plain r with
    | some ds => some (d :: ds)
    | none => none
  | _ :: _ => none
def eTup (f : DA) : DE := fun env h => match f env h with
  | some (rs, h1) => match plain rs with
    | some ds => if ds.length ≤ sizeLine then some (.d (.tup ds), h1) else none
    | none => none
  | none => none
def eLst (f : DA) : DE := fun env h => match f env h with
  | some (rs, h1) => match plain rs with
    | some ds => if ds.length ≤ sizeLine then some (.l (.lst ds), h1) else none
    | none => none
  | none => none
/-- a new list as a value that never changes; as a cell of the heap -/
def eFrz (f : DE) : DE := fun env h => match f env h with
  | some (.l (.lst ds), h1) => some (.d (.rol ds), h1)
  | some (.d d, h1) => some (.d d, h1)
  | _ => none
def eNew (f : DE) : DE := fun env h => match f env h with
  | some (.l c, h1) => some (.d (.ref h1.length), h1 ++ [c])
  | _ => none
theorem plain_R {K : PySem.W.Frag} {α : List Addr} {O : Addr → Prop} {H : Hp} : ∀ {rs : List RV} {ds : List D} {xs : List V}, plain rs = some ds → VAts K α O H rs xs → RL K α O H ds xs
  | [], ds, xs, e, o => by
    cases e
    have : xs = [] := o
    subst this
    exact RL.nil
  | .d d :: r, ds, xs, e, o => by
    unfold plain at e
    split at e
    · rename_i es e1
      cases e
      obtain ⟨x, q, e2, o1, o2⟩ := o
      subst e2
      exact RL.cons o1.isD (plain_R e1 o2)
    · cases e
  | .l _ :: r, ds, xs, e, o => by cases e
  | .b _ :: r, ds, xs, e, o => by cases e
section
variable {K : PySem.W.Frag} {α α' : List Addr} {O : Addr → Prop} {H : Hp} {h : Hs} {a : Addr} {c : Cell} {o : HO}
/-- a new object that is no cell -/
theorem Stp.upd (r : HRel K α O H h) (n : H a = none) : Stp α H α (upd H a o) :=
  ⟨fun b u e m => by rw [upd_ne (ne_of_none e n)]; exact e, fun _ _ e => e, fun _ m => .inl m⟩
theorem HRel.stp (r : HRel K α O H h) {H' : Hp} (s : Stp α H α H') (ks : ∀ a o, a ∈ α → H a = some o → H' a = some o) : HRel K α O H' h :=
  ⟨r.len, r.nd, fun n c a e1 e2 => (r.cell n c a e1 e2).mv s.mv fun o e => ks a o (List.mem_of_getElem? e2) e, r.dis, fun a q => by
    obtain ⟨o, e⟩ := r.trk a q
    exact ⟨o, s.fr a o e fun m => r.dis a m q⟩⟩
theorem HRel.upd (r : HRel K α O H h) (n : H a = none) : HRel K α O (upd H a o) h :=
  r.stp (Stp.upd r n) fun b u m e => by rw [upd_ne (ne_of_none e n)]; exact e
/-- a pending cell is counted among the owned -/
theorem HRel.ins (r : HRel K α O H h) (m : a ∉ α) (t : ∃ o, H a = some o) (q : ∀ d x, R K α O H d x → R K α (Ins O a) H d x) (q2 : ∀ kvs ps, RP K α O H kvs ps → RP K α (Ins O a) H kvs ps) (q3 : ∀ ds xs, RL K α O H ds xs → RL K α (Ins O a) H ds xs) : HRel K α (Ins O a) H h :=
  ⟨r.len, r.nd, fun n c b e1 e2 => by
    have := r.cell n c b e1 e2
    cases c with
    | lst ds => obtain ⟨xs, e, z⟩ := this; exact ⟨xs, e, q3 _ _ z⟩
    | dct kvs => obtain ⟨xs, e, z⟩ := this; exact ⟨xs, e, q2 _ _ z⟩, fun b hb e => by
    rcases e with e | e
    · exact m (e ▸ hb)
    · exact r.dis b hb e, fun b e => by
    rcases e with e | e
    · exact e ▸ t
    · exact r.trk b e⟩
/-- the move to a heap with one more object at a, which is owned from then on -/
theorem Mv.fresh (r : HRel K α O H h) (n : H a = none) : Mv α O H α (Ins O a) (L2.upd H a o) :=
  ⟨fun b u e m m2 => ⟨by rw [upd_ne (ne_of_none e n)]; exact e, m, fun z => by
    rcases z with z | z
    · rw [z, n] at e; cases e
    · exact m2 z⟩, fun _ _ e => e⟩
theorem HRel.fresh (r : HRel K α O H h) (n : H a = none) : HRel K α (Ins O a) (L2.upd H a o) h :=
  ⟨r.len, r.nd, fun i c b e1 e2 => (r.cell i c b e1 e2).mv (Mv.fresh r n) fun u e => by rw [upd_ne (ne_of_none e n)]; exact e, fun b m e => by
    rcases e with e | e
    · exact r.notin n (e ▸ m)
    · exact r.dis b m e, fun b e => by
    rcases e with e | e
    · exact ⟨o, by rw [e]; exact upd_same⟩
    · obtain ⟨u, q⟩ := r.trk b e
      exact ⟨u, by rw [upd_ne (ne_of_none q n)]; exact q⟩⟩
/-- a new list is told as a fresh cell -/
theorem VOk.fresh (r : HRel K α O H h) (n : H a = none) {ds : List D} {xs : List V} (q : RL K α O H ds xs) : VOk K O H α (L2.upd H a (.lst xs)) h (.l (.lst ds)) (.ref a) :=
  .l n (r.fresh n) ⟨xs, upd_same, RL.mv (Mv.fresh r n) _ _ q⟩
theorem VOk.tup (r : HRel K α O H h) (n : H a = none) {ds : List D} {xs : List V} (q : RL K α O H ds xs) : VOk K O H α (L2.upd H a (.tup xs)) h (.d (.tup ds)) (.ref a) :=
  .d (r.upd n) (by
    simp only [R]
    exact ⟨a, xs, rfl, .inl ⟨upd_same, r.notin n, r.notO n⟩, RL.mv (Stp.upd r n).mv _ _ q⟩)
end
section
variable {Γ : G} {pos : Pos} {e : Expr} {es : List Expr} {f : DE} {fs : DA}
theorem sa_nil : SA Γ [] aNil := fun X c => PA.imp pa_nil fun σ H Q q => by
  obtain ⟨α, O, h, env, hr, sr, rv, h', e, k⟩ := q
  cases e
  exact k α H [] (.refl _ _) hr rfl
theorem sa_cons (ha : SE Γ e f) (hr : SA Γ es fs) (hs : ∀ env, starEach (e :: es) env = (false, eval e env) :: starEach es env := by intro _; rfl) : SA Γ (e :: es) (aCons f fs) := fun X c =>
  PA.imp (pa_cons (ha X c) (hr X c) (hs _)) fun σ H Q q => by
    obtain ⟨α, O, h, env, hr, sr, rv, h', e, k⟩ := q
    unfold aCons at e
    split at e
    · rename_i x1 h1 e1
      split at e
      · rename_i xs1 h2 e2
        cases e
        refine ⟨α, O, h, env, hr, sr, x1, h1, e1, fun α1 H1 x s1 o1 => ?_⟩
        exact ⟨α1, O, h1, env, o1.hr, sr.stp hr s1, xs1, _, e2, fun α2 H2 xs s2 r2 o2 => k α2 H2 _ (s1.trans s2) r2 ⟨x, xs, rfl, o1.at_.stp s2, o2⟩⟩
      · cases e
    · cases e
theorem se_tup {x1} (h : SA Γ es fs) : SE Γ (.Tuple es x1 pos) (eTup fs) := fun X c => PE.imp (pe_tup (h X c)) fun σ H Q q => by
  obtain ⟨α, O, h, env, hr, sr, rv, h', e, k⟩ := q
  unfold eTup at e
  split at e
  · rename_i rs h1 e1
    split at e
    · rename_i ds e2
      split at e
      · rename_i hz
        cases e
        refine ⟨α, O, h, env, hr, sr, rs, _, e1, fun α1 H1 xs s1 r1 o1 => ?_⟩
        have rl := plain_R e2 o1
        refine ⟨by rw [← rl.length]; exact hz, fun p hp => ?_⟩
        exact k α1 _ _ (s1.trans (Stp.upd r1 hp)) ((VOk.tup r1 hp rl).back s1 r1)
      · cases e
    · cases e
  · cases e
theorem se_lst (h : SA Γ es fs) : SE Γ (.List es pos) (eLst fs) := fun X c => PE.imp (pe_lst (h X c)) fun σ H Q q => by
  obtain ⟨α, O, h, env, hr, sr, rv, h', e, k⟩ := q
  unfold eLst at e
  split at e
  · rename_i rs h1 e1
    split at e
    · rename_i ds e2
      split at e
      · rename_i hz
        cases e
        refine ⟨α, O, h, env, hr, sr, rs, _, e1, fun α1 H1 xs s1 r1 o1 => ?_⟩
        have rl := plain_R e2 o1
        refine ⟨by rw [← rl.length]; exact hz, fun p hp => ?_⟩
        exact k α1 _ _ (s1.trans (Stp.upd r1 hp)) ((VOk.fresh r1 hp rl).back s1 r1)
      · cases e
    · cases e
  · cases e
/-- ghost: a new list is frozen -/
theorem se_frz (h : SE Γ e f) : SE Γ e (eFrz f) := fun X c => PE.imp (h X c) fun σ H Q q => by
  obtain ⟨α, O, h, env, hr, sr, rv, h', e, k⟩ := q
  unfold eFrz at e
  split at e
  · rename_i ds h1 e1
    cases e
    refine ⟨α, O, h, env, hr, sr, _, _, e1, fun α1 H1 x s1 o1 => ?_⟩
    obtain ⟨⟩ | ⟨n, r, xs, e2, rl⟩ | ⟨⟩ := o1
    rename_i a
    refine k α1 H1 _ s1 (.d (r.less fun _ q => .inr q) ?_)
    simp only [R]
    exact ⟨a, xs, rfl, ⟨e2, fun m => r.dis a m (.inl rfl), hr.notO n⟩, RL.mv (Mv.less fun _ q => .inr q) _ _ rl⟩
  · rename_i d h1 e1
    cases e
    exact ⟨α, O, h, env, hr, sr, _, _, e1, k⟩
  · cases e
theorem nodup_snoc {l : List Addr} {a : Addr} (h : l.Nodup) (n : a ∉ l) : (l ++ [a]).Nodup := by
  rw [List.nodup_append]
  exact ⟨h, by simp, fun x hx y hy e => by
    have : y = a := by simpa using hy
    exact n (this ▸ e ▸ hx)⟩
/-- a pending cell becomes one of the heap's -/
theorem HRel.push {K : PySem.W.Frag} {α : List Addr} {O : Addr → Prop} {H : Hp} {h : Hs} {a : Addr} {c : Cell} (r : HRel K α (Ins O a) H h) (q : COk K α (Ins O a) H c a) (nO : ¬ O a) : HRel K (α ++ [a]) O H (h ++ [c]) ∧ Mv α (Ins O a) H (α ++ [a]) O H := by
  have m : Mv α (Ins O a) H (α ++ [a]) O H := ⟨fun b u e n n2 => ⟨e, fun m => by
    rcases List.mem_append.mp m with m | m
    · exact n m
    · have : b = a := by simpa using m
      exact n2 (.inl this), fun z => n2 (.inr z)⟩, fun i b e => by rw [List.getElem?_append_left (List.getElem?_eq_some_iff.mp e).1]; exact e⟩
  have na : a ∉ α := fun m => r.dis a m (.inl rfl)
  refine ⟨⟨by simp [r.len], nodup_snoc r.nd na, fun n c' b e1 e2 => ?_, fun b hb ho => ?_, fun b ho => r.trk b (.inr ho)⟩, m⟩
  · by_cases hn : n < h.length
    · rw [List.getElem?_append_left hn] at e1
      rw [List.getElem?_append_left (by rw [r.len]; exact hn)] at e2
      exact (r.cell n c' b e1 e2).mv m fun _ e => e
    · have e3 : n = h.length := by
        have := (List.getElem?_eq_some_iff.mp e1).1
        simp at this; omega
      subst e3
      rw [List.getElem?_append_right (Nat.le_refl _)] at e1
      rw [← r.len, List.getElem?_append_right (Nat.le_refl _)] at e2
      simp at e1 e2
      subst e1; subst e2
      exact q.mv m fun _ e => e
  · rcases List.mem_append.mp hb with hb | hb
    · exact r.dis b hb (.inr ho)
    · have : b = a := by simpa using hb
      exact nO (this ▸ ho)
theorem se_new (h : SE Γ e f) : SE Γ e (eNew f) := fun X c => PE.imp (h X c) fun σ H Q q => by
  obtain ⟨α, O, h, env, hr, sr, rv, h', e, k⟩ := q
  unfold eNew at e
  split at e
  · rename_i cl h1 e1
    cases e
    refine ⟨α, O, h, env, hr, sr, _, _, e1, fun α1 H1 x s1 o1 => ?_⟩
    obtain ⟨⟩ | ⟨n, r, q⟩ | ⟨⟩ := o1
    rename_i a
    obtain ⟨r2, m⟩ := r.push q (hr.notO n)
    refine k (α1 ++ [a]) H1 _ ⟨s1.fr, fun i b e => m.pre i b (s1.pre i b e), fun b hb => ?_⟩ (.d r2 ?_)
    · rcases List.mem_append.mp hb with hb | hb
      · exact s1.new b hb
      · have : b = a := by simpa using hb
        exact .inr (this ▸ n)
    · simp only [R]
      exact ⟨a, rfl, by rw [← r.len, List.getElem?_append_right (Nat.le_refl _)]; simp⟩
  · cases e
end
end F
/-! F2: statements over data. -/
namespace F
open PySem PySem.Spec PyProof.Rows L2

/-- a moment that later ones are compared with: the cells, what is owned, the heap, what this frame's slots own -/
structure Bs where
  α0 : List Addr
  O0 : Addr → Prop
  H0 : Hp
  W0 : Addr → Prop
  t0 : ∀ a, O0 a → ∃ o, H0 a = some o
  d0 : ∀ a, O0 a → a ∉ α0
structure BH (B : Bs) (α : List Addr) (O : Addr → Prop) (H : Hp) : Prop where
  fr : ∀ a o, B.H0 a = some o → a ∉ B.α0 → ¬ B.W0 a → H a = some o ∧ a ∉ α
  pre : ∀ (i : Nat) a, B.α0[i]? = some a → α[i]? = some a
  new : ∀ a, a ∈ α → a ∈ B.α0 ∨ B.H0 a = none ∨ B.W0 a
  o : ∀ a, O a → B.O0 a ∨ B.H0 a = none
  oo : ∀ a, B.O0 a → B.W0 a ∨ O a
  th : ∀ a o, B.H0 a = some o → ∃ o', H a = some o'
def Own (σ : St) (env : Env) (a : Addr) : Prop := ∃ (i : Nat) (c : Cell), env[i]? = some (.c c) ∧ σ[i]? = some (some (.ref a))
structure BRel (B : Bs) (α : List Addr) (O : Addr → Prop) (H : Hp) (σ : St) (env : Env) : Prop where
  bh : BH B α O H
  own : ∀ a, Own σ env a → B.H0 a = none ∨ B.W0 a

inductive SOut where
  | nx (env : Env) (h : Hs) | rt (rv : RV) (h : Hs) | bk (env : Env) (h : Hs) | ct (env : Env) (h : Hs)
abbrev DS := Env → Hs → Option SOut
inductive RtOk (K : PySem.W.Frag) (B : Bs) (α : List Addr) (O : Addr → Prop) (H : Hp) (h : Hs) : RV → V → Prop
  | d {d : D} {x : V} (b : BH B α O H) (r : HRel K α O H h) (q : R K α O H d x) : RtOk K B α O H h (.d d) x
  | l {c : Cell} {a : Addr} (b : BH B α O H) (r : HRel K α O H h) (q : COk K α O H c a) (o : O a) (w : B.H0 a = none ∨ B.W0 a) : RtOk K B α O H h (.l c) (.ref a)
def SK (K : PySem.W.Frag) (B : Bs) (D : Ends) : SOut → Prop
  | .nx env h => ∀ α O H σ, HRel K α O H h → SRel K α O H σ env → BRel B α O H σ env → D.nx σ H
  | .bk env h => ∀ α O H σ, HRel K α O H h → SRel K α O H σ env → BRel B α O H σ env → D.bk σ H
  | .ct env h => ∀ α O H σ, HRel K α O H h → SRel K α O H σ env → BRel B α O H σ env → D.ct σ H
  | .rt rv h => ∀ α O H x, RtOk K B α O H h rv x → D.rt x H
def tS (K : PySem.W.Frag) (B : Bs) (f : DS) : TS := fun D σ H => ∃ α O h env, HRel K α O H h ∧ SRel K α O H σ env ∧ BRel B α O H σ env ∧ ∃ o, f env h = some o ∧ SK K B D o
def SS (Γ : G) (sts : List Stmt) (f : DS) : Prop := ∀ X : Cx, Γ.At X → ∀ B, PSs X sts (tS Γ.g.K B f)
def S1 (Γ : G) (st : Stmt) (f : DS) : Prop := ∀ X : Cx, Γ.At X → ∀ B, PS X st (tS Γ.g.K B f)
theorem PS.imp {X : Cx} {st : Stmt} {t u : TS} (h : PS X st t) (i : ∀ D σ H, u D σ H → t D σ H) : PS X st u := ⟨fun pins s σ H D I q => h.run pins s σ H D I (i D σ H q)⟩
theorem PSs.imp {X : Cx} {st : List Stmt} {t u : TS} (h : PSs X st t) (i : ∀ D σ H, u D σ H → t D σ H) : PSs X st u := ⟨fun pins s σ H D I q => h.run pins s σ H D I (i D σ H q)⟩

section
variable {K : PySem.W.Frag} {B : Bs} {α α' α1 : List Addr} {O O' O1 : Addr → Prop} {H H' H1 : Hp} {h h' h1 : Hs} {σ σ' σ1 : St} {env env' env1 : Env}
theorem SRel.ownO (s : SRel K α O H σ env) {a : Addr} (w : Own σ env a) : O a ∧ ∃ o, H a = some o := by
  obtain ⟨i, c, e1, e2⟩ := w
  obtain ⟨b, e3, q, o⟩ := s.own i c e1
  rw [e2] at e3
  cases e3
  exact ⟨o, q.there⟩
/-- an expression's step -/
theorem BH.stp (b : BH B α O H) (r : HRel K α O H h) (r' : HRel K α' O H' h') (s : Stp α H α' H') : BH B α' O H' where
  fr := fun a o e n w => by
    obtain ⟨e1, n1⟩ := b.fr a o e n w
    exact ⟨s.fr a o e1 n1, fun m => by
      rcases s.new a m with z | z
      · exact n1 z
      · rw [z] at e1; cases e1⟩
  pre := fun i a e => s.pre i a (b.pre i a e)
  new := fun a m => by
    rcases s.new a m with z | z
    · exact b.new a z
    · refine .inr (.inl ?_)
      cases e : B.H0 a with
      | none => rfl
      | some o =>
        obtain ⟨o', e'⟩ := b.th a o e
        rw [z] at e'; cases e'
  o := b.o
  oo := b.oo
  th := fun a o e => by
    obtain ⟨o', e'⟩ := b.th a o e
    by_cases m : a ∈ α
    · obtain ⟨i, hi, e2⟩ := List.getElem_of_mem m
      exact r'.tracked (List.mem_of_getElem? (s.pre i a (by rw [List.getElem?_eq_getElem hi, e2])))
    · exact ⟨_, s.fr a o' e' m⟩
theorem BRel.stp (b : BRel B α O H σ env) (r : HRel K α O H h) (r' : HRel K α' O H' h') (s : Stp α H α' H') : BRel B α' O H' σ env := ⟨b.bh.stp r r' s, b.own⟩
theorem BH.none_back (b : BH B α O H) {a : Addr} (n : H a = none) : B.H0 a = none := by
  cases e : B.H0 a with
  | none => rfl
  | some o =>
    obtain ⟨o', e'⟩ := b.th a o e
    rw [n] at e'; cases e'
/-- one more address is owned, of a new object -/
theorem BH.ins (b : BH B α O H) {a : Addr} (n : B.H0 a = none) : BH B α (Ins O a) H :=
  ⟨b.fr, b.pre, b.new, fun c e => by
    rcases e with e | e
    · exact .inr (e ▸ n)
    · exact b.o c e, fun c e => (b.oo c e).imp id .inr, b.th⟩
/-- slots that hold data only, or what they held -/
def Less (σ : St) (env : Env) (σ' : St) (env' : Env) : Prop := ∀ (i : Nat) c, env'[i]? = some (.c c) → env[i]? = some (.c c) ∧ σ'[i]? = σ[i]?
theorem Less.own (l : Less σ env σ' env') {a : Addr} (w : Own σ' env' a) : Own σ env a := by
  obtain ⟨i, c, e1, e2⟩ := w
  obtain ⟨e3, e4⟩ := l i c e1
  exact ⟨i, c, e3, by rw [← e4]; exact e2⟩
theorem Less.refl : Less σ env σ env := fun i c e => ⟨e, rfl⟩
theorem Less.trans (a : Less σ env σ1 env1) (b : Less σ1 env1 σ' env') : Less σ env σ' env' := fun i c e => by
  obtain ⟨e1, e2⟩ := b i c e
  obtain ⟨e3, e4⟩ := a i c e1
  exact ⟨e3, e2.trans e4⟩
theorem BRel.less (b : BRel B α O H σ env) (l : Less σ env σ' env') : BRel B α O H σ' env' := ⟨b.bh, fun a w => b.own a (l.own w)⟩
theorem set_get {T : Type} {l : List T} {i j : Nat} {x y : T} (e : (l.set i x)[j]? = some y) : (i = j ∧ x = y) ∨ (i ≠ j ∧ l[j]? = some y) := by
  by_cases hij : i = j
  · subst hij
    have : i < l.length := by
      have := (List.getElem?_eq_some_iff.mp e).1
      simpa using this
    rw [List.getElem?_set_self this] at e
    exact .inl ⟨rfl, Option.some.inj e⟩
  · rw [List.getElem?_set_ne hij] at e
    exact .inr ⟨hij, e⟩
theorem SRel.setV (s : SRel K α O H σ env) (i : Nat) {d : D} {x : V} (r : R K α O H d x) : SRel K α O H (σ.set i (some x)) (env.set i (.v d)) ∧ Less σ env (σ.set i (some x)) (env.set i (.v d)) := by
  have l : Less σ env (σ.set i (some x)) (env.set i (.v d)) := fun j c e => by
    rcases set_get e with ⟨_, q⟩ | ⟨n, q⟩
    · cases q
    · exact ⟨q, List.getElem?_set_ne n⟩
  refine ⟨⟨by simp [s.len], fun j d' e => ?_, fun j c e => ?_, fun j k c c' a e1 e2 e3 e4 => ?_⟩, l⟩
  · rcases set_get e with ⟨n, q⟩ | ⟨n, q⟩
    · subst n
      cases q
      have : i < σ.length := by
        rw [← s.len]
        have := (List.getElem?_eq_some_iff.mp e).1
        simpa using this
      exact ⟨x, by rw [List.getElem?_set_self this], r⟩
    · obtain ⟨y, e1, r1⟩ := s.val j d' q
      exact ⟨y, by rw [List.getElem?_set_ne n]; exact e1, r1⟩
  · obtain ⟨e1, e2⟩ := l j c e
    obtain ⟨a, e3, q⟩ := s.own j c e1
    exact ⟨a, by rw [e2]; exact e3, q⟩
  · obtain ⟨a1, a2⟩ := l j c e1
    obtain ⟨b1, b2⟩ := l k c' e2
    exact s.dis j k c c' a a1 b1 (by rw [← a2]; exact e3) (by rw [← b2]; exact e4)
/-- a slot takes a new cell -/
theorem SRel.setC (s : SRel K α O H σ env) {i : Nat} {c : Cell} {a : Addr} (m : ∀ (j : Nat) d x, env[j]? = some (.v d) → R K α O H d x → R K α' (Ins O a) H' d x) (mc : ∀ c' b, O b → COk K α O H c' b → COk K α' (Ins O a) H' c' b) (q : COk K α' (Ins O a) H' c a) (n : ¬ O a) :
    SRel K α' (Ins O a) H' (σ.set i (some (.ref a))) (env.set i (.c c)) := by
  refine ⟨by simp [s.len], fun j d' e => ?_, fun j c' e => ?_, fun j k c1 c2 b e1 e2 e3 e4 => ?_⟩
  · rcases set_get e with ⟨_, z⟩ | ⟨ne, z⟩
    · cases z
    · obtain ⟨y, e1, r1⟩ := s.val j d' z
      exact ⟨y, by rw [List.getElem?_set_ne ne]; exact e1, m j d' y z r1⟩
  · rcases set_get e with ⟨ne, z⟩ | ⟨ne, z⟩
    · subst ne
      cases z
      have : i < σ.length := by
        rw [← s.len]
        have := (List.getElem?_eq_some_iff.mp e).1
        simpa using this
      exact ⟨a, by rw [List.getElem?_set_self this], q, .inl rfl⟩
    · obtain ⟨b, e1, q1, o1⟩ := s.own j c' z
      exact ⟨b, by rw [List.getElem?_set_ne ne]; exact e1, mc _ _ o1 q1, .inr o1⟩
  · have own : ∀ {j : Nat} {c'}, (env.set i (.c c))[j]? = some (.c c') → (σ.set i (some (.ref a)))[j]? = some (some (.ref b)) → (i = j ∧ b = a) ∨ (i ≠ j ∧ env[j]? = some (.c c') ∧ σ[j]? = some (some (.ref b)) ∧ O b) := fun {j c'} e e' => by
      rcases set_get e' with ⟨ne, z⟩ | ⟨ne, z⟩
      · cases z
        exact .inl ⟨ne, rfl⟩
      · rcases set_get e with ⟨ne', z'⟩ | ⟨ne', z'⟩
        · exact absurd ne' ne
        · refine .inr ⟨ne, z', z, ?_⟩
          obtain ⟨b', e5, _, o⟩ := s.own j c' z'
          rw [z] at e5
          cases e5
          exact o
    rcases own e1 e3 with ⟨x1, x2⟩ | ⟨x1, x2, x3, x4⟩
    · rcases own e2 e4 with ⟨y1, y2⟩ | ⟨y1, y2, y3, y4⟩
      · omega
      · exact absurd (x2 ▸ y4) n
    · rcases own e2 e4 with ⟨y1, y2⟩ | ⟨y1, y2, y3, y4⟩
      · exact absurd (y2 ▸ x4) n
      · exact s.dis j k c1 c2 b x2 y2 x3 y3
theorem Own.set {i : Nat} {c : Cell} {a b : Addr} (w : Own (σ.set i (some (.ref a))) (env.set i (.c c)) b) : b = a ∨ Own σ env b := by
  obtain ⟨j, c', e1, e2⟩ := w
  rcases set_get e2 with ⟨n, z⟩ | ⟨n, z⟩
  · cases z
    exact .inl rfl
  · rcases set_get e1 with ⟨n', z'⟩ | ⟨n', z'⟩
    · exact absurd n' n
    · exact .inr ⟨j, c', z', z⟩
end

/-! ### statements -/
def dNil : DS := fun env h => some (.nx env h)
def dSeq (f g : DS) : DS := fun env h => match f env h with
  | some (.nx env1 h1) => g env1 h1
  | r => r
def dIf (c : DT) (f g : DS) : DS := fun env h => match c env h with
  | some (true, h1) => f env h1
  | some (false, h1) => g env h1
  | none => none
def dSet (i : Nat) (f : DE) : DS := fun env h => match f env h with
  | some (.d d, h1) => some (.nx (env.set i (.v d)) h1)
  | some (.l c, h1) => some (.nx (env.set i (.c c)) h1)
  | _ => none
def dExpr (f : DE) : DS := fun env h => match f env h with
  | some (_, h1) => some (.nx env h1)
  | none => none
def dRet (f : DE) : DS := fun env h => match f env h with
  | some (.d d, h1) => some (.rt (.d d) h1)
  | some (.l c, h1) => some (.rt (.l c) h1)
  | some (.b c, h1) => some (.rt (.l c) h1)
  | none => none
def dRetN : DS := fun _ h => some (.rt (.d .non) h)
def dNever : DS := fun _ _ => none
section
variable {Γ : G} {pos pos' : Pos} {st : Stmt} {sts : List Stmt} {e c : Expr} {f g : DS} {fe : DE} {fc : DT}
theorem ss_nil : SS Γ [] dNil := fun X c B => PSs.imp pss_nil fun D σ H q => by
  obtain ⟨α, O, h, env, hr, sr, br, o, e, k⟩ := q
  cases e
  exact k α O H σ hr sr br
theorem ss_cons (h1 : S1 Γ st f) (h2 : SS Γ sts g) : SS Γ (st :: sts) (dSeq f g) := fun X c B => PSs.imp (pss_cons (h1 X c B) (h2 X c B)) fun D σ H q => by
  obtain ⟨α, O, h, env, hr, sr, br, o, e, k⟩ := q
  unfold dSeq at e
  split at e
  · rename_i env1 h1 e1
    exact ⟨α, O, h, env, hr, sr, br, _, e1, fun α1 O1 H1 σ1 hr1 sr1 br1 => ⟨α1, O1, h1, env1, hr1, sr1, br1, o, e, k⟩⟩
  · rename_i r hn
    refine ⟨α, O, h, env, hr, sr, br, o, e, ?_⟩
    cases o with
    | nx env1 h1 => exact absurd e (hn env1 h1)
    | rt rv h1 => exact k
    | bk env1 h1 => exact k
    | ct env1 h1 => exact k
theorem ss_one (h1 : S1 Γ st f) : SS Γ [st] f := fun X c B => pss_one (h1 X c B)
theorem s1_pass : S1 Γ (.Pass pos) dNil := fun X c B => PS.imp ps_pass fun D σ H q => by
  obtain ⟨α, O, h, env, hr, sr, br, o, e, k⟩ := q
  cases e
  exact k α O H σ hr sr br
theorem s1_brk : S1 Γ (.Break pos) (fun env h => some (.bk env h)) := fun X c B => PS.imp ps_break fun D σ H q => by
  obtain ⟨α, O, h, env, hr, sr, br, o, e, k⟩ := q
  cases e
  exact k α O H σ hr sr br
theorem s1_cont : S1 Γ (.Continue pos) (fun env h => some (.ct env h)) := fun X c B => PS.imp ps_continue fun D σ H q => by
  obtain ⟨α, O, h, env, hr, sr, br, o, e, k⟩ := q
  cases e
  exact k α O H σ hr sr br
theorem s1_never : S1 Γ st dNever := fun X c B => PS.imp ps_never fun D σ H q => by
  obtain ⟨α, O, h, env, hr, sr, br, o, e, k⟩ := q
  cases e
theorem s1_if {a b : List Stmt} (hc : ST Γ c fc) (ha : SS Γ a f) (hb : SS Γ b g) : S1 Γ (.If c a b pos) (dIf fc f g) := fun X cc B => PS.imp (ps_if (hc X cc) (ha X cc B) (hb X cc B)) fun D σ H q => by
  obtain ⟨α, O, h, env, hr, sr, br, o, e, k⟩ := q
  unfold dIf at e
  split at e
  · rename_i h1 e1
    refine ⟨α, O, h, env, hr, sr, true, h1, e1, fun α1 H1 s1 r1 => iteT ?_⟩
    exact ⟨α1, O, h1, env, r1, sr.stp hr s1, br.stp hr r1 s1, o, e, k⟩
  · rename_i h1 e1
    refine ⟨α, O, h, env, hr, sr, false, h1, e1, fun α1 H1 s1 r1 => iteF ?_⟩
    exact ⟨α1, O, h1, env, r1, sr.stp hr s1, br.stp hr r1 s1, o, e, k⟩
  · cases e
theorem Loc.of {X : Cx} {x : Str} (c : Γ.At X) (h : Γ.sc.names.lookup x = some .local ∨ Γ.sc.names.lookup x = some .cell) : Loc X.env.scope x := by
  rw [c.sc]; exact h
theorem hf_of {X : Cx} {x : Str} (c : Γ.At X) (h : Γ.fn x = true ∨ Γ.sc.names.lookup x = some .local) : X.fn x = true ∨ X.env.scope.names.lookup x = some .local := by
  rw [c.sc, c.fn]
  exact h
/-- a slot is stored, by what an expression gave -/
theorem store_imp {K : PySem.W.Frag} {B : Bs} {α α1 : List Addr} {O : Addr → Prop} {H H1 : Hp} {h h1 : Hs} {σ : St} {env : Env} {i : Nat} {rv : RV} {x : V} {env' : Env} (hr : HRel K α O H h) (sr : SRel K α O H σ env) (br : BRel B α O H σ env) (s : Stp α H α1 H1) (o : VOk K O H α1 H1 h1 rv x)
    (e : (match rv with | .d d => some (env.set i (.v d)) | .l c => some (env.set i (.c c)) | .b _ => none) = some env') : ∃ O', HRel K α1 O' H1 h1 ∧ SRel K α1 O' H1 (σ.set i (some x)) env' ∧ BRel B α1 O' H1 (σ.set i (some x)) env' := by
  cases o with
  | d r q =>
    cases e
    obtain ⟨s1, l⟩ := (sr.stp hr s).setV i q
    exact ⟨O, r, s1, (br.stp hr r s).less l⟩
  | l n r q =>
    rename_i cl a
    cases e
    have r0 : HRel K α1 O H1 h1 := r.less fun _ q => .inr q
    have nO : ¬ O a := hr.notO n
    have b0 := br.bh.none_back n
    have mi : Mv α O H α1 (Ins O a) H1 := ⟨fun b u e m m2 => by
      obtain ⟨z1, z2, z3⟩ := s.mv.at_ b u e m m2
      exact ⟨z1, z2, fun z => by
        rcases z with z | z
        · rw [z, n] at e; cases e
        · exact z3 z⟩, s.pre⟩
    refine ⟨Ins O a, r, sr.setC (fun j d y _ r => R.mv mi _ _ r) (fun c' b ob q => q.mv mi fun u e => s.fr b u e fun m => hr.dis b m ob) q nO, ⟨(br.bh.stp hr r0 s).ins b0, fun b w => ?_⟩⟩
    rcases w.set with z | z
    · exact .inl (z ▸ b0)
    · exact br.own b z
  | b r q n => cases e
theorem s1_set {i : Nat} {x : Str} (hN : Γ.N[i]? = some x := by rfl) (hx : Γ.sc.names.lookup x = some .local ∨ Γ.sc.names.lookup x = some .cell := by first | exact .inl rfl | exact .inr rfl) (he : SE Γ e fe)
    (hs : ∀ env, swapsWith e (some (.Name x pos')) pos.line env = pure false := by intro _; rfl) (hf : Γ.fn x = true ∨ Γ.sc.names.lookup x = some .local := by first | exact .inr rfl | exact .inl rfl) : S1 Γ (.Assign [.Name x pos'] e pos) (dSet i fe) := fun X c B =>
  PS.imp (ps_set (by rw [c.N]; exact c.nd) (by rw [c.N]; exact hN) (Loc.of c hx) (he X c) (hs _) (hf_of c hf)) fun D σ H q => by
    obtain ⟨α, O, h, env, hr, sr, br, o, e, k⟩ := q
    unfold dSet at e
    split at e
    · rename_i d h1 e1
      cases e
      refine ⟨α, O, h, env, hr, sr, _, h1, e1, fun α1 H1 x s1 o1 => ?_⟩
      obtain ⟨O', r, s, b⟩ := store_imp (i := i) hr sr br s1 o1 rfl
      exact k α1 O' H1 _ r s b
    · rename_i d h1 e1
      cases e
      refine ⟨α, O, h, env, hr, sr, _, h1, e1, fun α1 H1 x s1 o1 => ?_⟩
      obtain ⟨O', r, s, b⟩ := store_imp (i := i) hr sr br s1 o1 rfl
      exact k α1 O' H1 _ r s b
    · cases e
theorem s1_expr (he : SE Γ e fe) (hs : ∀ env, swapsWith e none pos.line env = pure false := by intro _; rfl) : S1 Γ (.Expr e pos) (dExpr fe) := fun X c B => PS.imp (ps_expr (he X c) (hs _)) fun D σ H q => by
  obtain ⟨α, O, h, env, hr, sr, br, o, e, k⟩ := q
  unfold dExpr at e
  split at e
  · rename_i rv h1 e1
    cases e
    exact ⟨α, O, h, env, hr, sr, _, h1, e1, fun α1 H1 x s1 o1 => k α1 O H1 σ o1.hr (sr.stp hr s1) (br.stp hr o1.hr s1)⟩
  · cases e
theorem s1_doc {x j p p'} : S1 Γ (.Expr (.Constant (.str x) j p) p') dNil := fun X c B => PS.imp ps_doc fun D σ H q => by
  obtain ⟨α, O, h, env, hr, sr, br, o, e, k⟩ := q
  cases e
  exact k α O H σ hr sr br
/-- what is returned is no list that a slot holds -/
theorem s1_ret (he : SE Γ e fe) (hb : ∀ env h c h1, fe env h ≠ some (.b c, h1)) : S1 Γ (.Return (some e) pos) (dRet fe) := fun X c B => PS.imp (ps_ret (he X c)) fun D σ H q => by
  obtain ⟨α, O, h, env, hr, sr, br, o, e, k⟩ := q
  unfold dRet at e
  split at e
  · rename_i rv h1 e1
    cases e
    refine ⟨α, O, h, env, hr, sr, _, h1, e1, fun α1 H1 x s1 o1 => ?_⟩
    exact k α1 O H1 x (.d (br.bh.stp hr o1.hr s1) o1.hr o1.isD)
  · rename_i rv h1 e1
    cases e
    refine ⟨α, O, h, env, hr, sr, _, h1, e1, fun α1 H1 x s1 o1 => ?_⟩
    have r0 := o1.hr
    cases o1 with
    | l n r q => exact k α1 _ H1 _ (.l ((br.bh.stp hr r0 s1).ins (br.bh.none_back n)) r q (.inl rfl) (.inl (br.bh.none_back n)))
  · rename_i rv h1 e1
    exact absurd e1 (hb _ _ _ _)
  · cases e
/-- return of a slot: its list goes to the caller -/
theorem s1_retV {i : Nat} {x : Str} (hN : Γ.N[i]? = some x := by rfl) (hv : Γ.sc.names.lookup x = some .local ∨ Γ.sc.names.lookup x = some .cell ∨ Γ.sc.names.lookup x = some .free := by first | exact Or.inl rfl | exact Or.inr (Or.inl rfl) | exact Or.inr (Or.inr rfl))
    (hd : (x == ("__debug__" : Str)) = false := by decide) (hcd : (x == ("__classdict__" : Str)) = false := by decide) : S1 Γ (.Return (some (.Name x pos')) pos) (dRet (eV i)) := fun X c B =>
  PS.imp (ps_ret (pe_var (by rw [c.N]; exact hN) (Vis.of c hv) hd hcd)) fun D σ H q => by
    obtain ⟨α, O, h, env, hr, sr, br, o, e, k⟩ := q
    unfold dRet eV at e
    split at e
    · rename_i d h1 e1
      split at e1
      · rename_i d' e2
        cases e1; cases e
        obtain ⟨x, e3, r⟩ := sr.val _ _ e2
        exact ⟨x, e3, k α O H x (.d br.bh hr r)⟩
      · cases e1
      · cases e1
    · rename_i d h1 e1
      split at e1
      · cases e1
      · cases e1
      · cases e1
    · rename_i d h1 e1
      split at e1
      · cases e1
      · rename_i d' e2
        cases e1; cases e
        obtain ⟨a, e3, r, o⟩ := sr.own _ _ e2
        exact ⟨_, e3, k α O H _ (.l br.bh hr r o (br.own a ⟨i, _, e2, e3⟩))⟩
      · cases e1
    · cases e
theorem s1_retN : S1 Γ (.Return none pos) dRetN := fun X c B => PS.imp ps_retN fun D σ H q => by
  obtain ⟨α, O, h, env, hr, sr, br, o, e, k⟩ := q
  cases e
  exact k α O H .non (.d br.bh hr R.non_mk)
end

/-! ### ghosts: a slot's list is frozen, or becomes a cell of the heap -/
def Del (O : Addr → Prop) (a : Addr) : Addr → Prop := fun b => O b ∧ b ≠ a
def frz (i : Nat) (env : Env) : Option Env := match env[i]? with
  | some (.c (.lst ds)) => some (env.set i (.v (.rol ds)))
  | some (.v d) => some env
  | _ => none
def dFrz (i : Nat) (f : DS) : DS := fun env h => match frz i env with
  | some env1 => f env1 h
  | none => none
def dPro (i : Nat) (f : DS) : DS := fun env h => match env[i]? with
  | some (.c c) => f (env.set i (.v (.ref h.length))) (h ++ [c])
  | some (.v d) => f env h
  | _ => none
section
variable {K : PySem.W.Frag} {B : Bs} {α : List Addr} {O : Addr → Prop} {H : Hp} {h : Hs} {σ : St} {env : Env}
theorem SRel.not_own (s : SRel K α O H σ env) (br : BRel B α O H σ env) (hr : HRel K α O H h) {a : Addr} (w : Own σ env a) : ¬ B.O0 a ∨ B.W0 a := by
  rcases br.own a w with z | z
  · refine .inl fun q => ?_
    obtain ⟨o, e⟩ := B.t0 a q
    rw [z] at e; cases e
  · exact .inr z
theorem frz_rel (hr : HRel K α O H h) (sr : SRel K α O H σ env) (br : BRel B α O H σ env) {i : Nat} {env' : Env} (e : frz i env = some env') : ∃ O', HRel K α O' H h ∧ SRel K α O' H σ env' ∧ BRel B α O' H σ env' := by
  unfold frz at e
  split at e
  · rename_i ds e1
    cases e
    obtain ⟨a, e2, ⟨xs, q1, q2⟩, o⟩ := sr.own _ _ e1
    have w : Own σ env a := ⟨i, _, e1, e2⟩
    have le : ∀ b, Del O a b → O b := fun b z => z.1
    have m : Mv α O H α (Del O a) H := Mv.less le
    have hi : i < env.length := (List.getElem?_eq_some_iff.mp e1).1
    have ne : ∀ (j : Nat) c, (env.set i (.v (.rol ds)))[j]? = some (.c c) → i ≠ j ∧ env[j]? = some (.c c) := fun j c z => by
      rcases set_get z with ⟨_, z⟩ | z
      · cases z
      · exact z
    refine ⟨Del O a, hr.less le, ⟨by simp [sr.len], fun j d z => ?_, fun j c z => ?_, fun j k c c' b z1 z2 z3 z4 => ?_⟩, ⟨⟨br.bh.fr, br.bh.pre, br.bh.new, fun b z => br.bh.o b z.1, fun b z => ?_, br.bh.th⟩, fun b z => ?_⟩⟩
    · rcases set_get z with ⟨n, y⟩ | ⟨n, z⟩
      · subst n
        cases y
        refine ⟨.ref a, e2, ?_⟩
        simp only [R]
        exact ⟨a, xs, rfl, ⟨q1, fun m => hr.dis a m o, fun z => z.2 rfl⟩, RL.mv m _ _ q2⟩
      · obtain ⟨x, z1, z2⟩ := sr.val j d z
        exact ⟨x, z1, R.mv m _ _ z2⟩
    · obtain ⟨n, z⟩ := ne j c z
      obtain ⟨b, z1, z2, z3⟩ := sr.own j c z
      refine ⟨b, z1, z2.mv m fun _ e => e, z3, fun q => n ?_⟩
      exact sr.dis i j _ c a e1 z e2 (q ▸ z1)
    · exact sr.dis j k c c' b (ne j c z1).2 (ne k c' z2).2 z3 z4
    · rcases br.bh.oo b z with q | q
      · exact .inl q
      · by_cases hb : b = a
        · subst hb
          rcases sr.not_own br hr w with y | y
          · exact absurd z y
          · exact .inl y
        · exact .inr ⟨q, hb⟩
    · obtain ⟨j, c, z1, z2⟩ := z
      exact br.own b ⟨j, c, (ne j c z1).2, z2⟩
  · cases e
    exact ⟨O, hr, sr, br⟩
  · cases e
theorem pro_rel (hr : HRel K α O H h) (sr : SRel K α O H σ env) (br : BRel B α O H σ env) {i : Nat} {c : Cell} (e : env[i]? = some (.c c)) : ∃ α' O', HRel K α' O' H (h ++ [c]) ∧ SRel K α' O' H σ (env.set i (.v (.ref h.length))) ∧ BRel B α' O' H σ (env.set i (.v (.ref h.length))) := by
  obtain ⟨a, e2, q, o⟩ := sr.own _ _ e
  have w : Own σ env a := ⟨i, _, e, e2⟩
  have le : ∀ b, Ins (Del O a) a b → O b := fun b z => by
    rcases z with z | z
    · exact z ▸ o
    · exact z.1
  have hr1 : HRel K α (Ins (Del O a) a) H h := hr.less le
  obtain ⟨r2, m2⟩ := hr1.push (q.less le) (fun z => z.2 rfl)
  have m : Mv α O H (α ++ [a]) (Del O a) H := ⟨fun b u e n n2 => m2.at_ b u e n fun z => n2 (le b z), m2.pre⟩
  have na : a ∉ α := fun z => hr.dis a z o
  have ne : ∀ (j : Nat) c', (env.set i (.v (.ref h.length)))[j]? = some (.c c') → i ≠ j ∧ env[j]? = some (.c c') := fun j c z => by
    rcases set_get z with ⟨_, z⟩ | z
    · cases z
    · exact z
  refine ⟨α ++ [a], Del O a, r2, ⟨by simp [sr.len], fun j d z => ?_, fun j c z => ?_, fun j k c c' b z1 z2 z3 z4 => ?_⟩, ⟨⟨fun b u z n nw => ?_, fun j b z => m2.pre j b (br.bh.pre j b z), fun b z => ?_, fun b z => br.bh.o b z.1, fun b z => ?_, br.bh.th⟩, fun b z => ?_⟩⟩
  · rcases set_get z with ⟨n, y⟩ | ⟨n, z⟩
    · subst n
      cases y
      refine ⟨.ref a, e2, ?_⟩
      simp only [R]
      exact ⟨a, rfl, by rw [← hr.len, List.getElem?_append_right (Nat.le_refl _)]; simp⟩
    · obtain ⟨x, z1, z2⟩ := sr.val j d z
      exact ⟨x, z1, R.mv m _ _ z2⟩
  · obtain ⟨n, z⟩ := ne j c z
    obtain ⟨b, z1, z2, z3⟩ := sr.own j c z
    refine ⟨b, z1, z2.mv m fun _ e => e, z3, fun q => n ?_⟩
    exact sr.dis i j _ c a e z e2 (q ▸ z1)
  · exact sr.dis j k c c' b (ne j c z1).2 (ne k c' z2).2 z3 z4
  · obtain ⟨z1, z2⟩ := br.bh.fr b u z n nw
    refine ⟨z1, fun m => ?_⟩
    rcases List.mem_append.mp m with m | m
    · exact z2 m
    · have : b = a := by simpa using m
      subst this
      rcases br.own b w with y | y
      · rw [y] at z; cases z
      · exact nw y
  · rcases List.mem_append.mp z with z | z
    · exact br.bh.new b z
    · have : b = a := by simpa using z
      exact .inr (this ▸ br.own a w)
  · rcases br.bh.oo b z with q | q
    · exact .inl q
    · by_cases hb : b = a
      · subst hb
        rcases sr.not_own br hr w with y | y
        · exact absurd z y
        · exact .inl y
      · exact .inr ⟨q, hb⟩
  · obtain ⟨j, c, z1, z2⟩ := z
    exact br.own b ⟨j, c, (ne j c z1).2, z2⟩
end
section
variable {Γ : G} {sts : List Stmt} {f : DS}
theorem ss_frz (i : Nat) (h : SS Γ sts f) : SS Γ sts (dFrz i f) := fun X c B => PSs.imp (h X c B) fun D σ H q => by
  obtain ⟨α, O, h, env, hr, sr, br, o, e, k⟩ := q
  unfold dFrz at e
  split at e
  · rename_i env1 e1
    obtain ⟨O', r, s, b⟩ := frz_rel hr sr br e1
    exact ⟨α, O', h, env1, r, s, b, o, e, k⟩
  · cases e
theorem ss_pro (i : Nat) (h : SS Γ sts f) : SS Γ sts (dPro i f) := fun X c B => PSs.imp (h X c B) fun D σ H q => by
  obtain ⟨α, O, h, env, hr, sr, br, o, e, k⟩ := q
  unfold dPro at e
  split at e
  · rename_i cl e1
    obtain ⟨α', O', r, s, b⟩ := pro_rel hr sr br e1
    exact ⟨α', O', _, _, r, s, b, o, e, k⟩
  · exact ⟨α, O, h, env, hr, sr, br, o, e, k⟩
  · cases e
end
end F
/-! F3: targets, loops, comprehensions over data. -/
namespace F
open PySem PySem.Spec PyProof.Rows L2

section
variable {K : PySem.W.Frag} {α α' : List Addr} {O O' : Addr → Prop} {H H' : Hp} {h : Hs}
theorem KLst.sq {a : Addr} {xs : List V} (k : KLst K a xs) : SqL K H a xs := .inr k
theorem KTup.sq {a : Addr} {xs : List V} (k : KTup K a xs) : SqT K H a xs := .inr k
/-- a list that is to be read -/
def lv : RV → Hs → Option (List D)
  | .d (.rol ds), _ => some ds
  | .d (.scr ds), _ => some ds
  | .d (.ref n), h => match h[n]? with
    | some (.lst ds) => some ds
    | _ => none
  | .l (.lst ds), _ => some ds
  | .b (.lst ds), _ => some ds
  | _, _ => none
theorem R.rol_sq {ds : List D} {x : V} (r : R K α O H (.rol ds) x) : ∃ a xs, x = .ref a ∧ SqL K H a xs ∧ RL K α O H ds xs := by
  simp only [R] at r
  obtain ⟨a, xs, e, p, q⟩ := r
  exact ⟨a, xs, e, SqL.of p.1, q⟩
theorem R.scr_sq {ds : List D} {x : V} (r : R K α O H (.scr ds) x) : ∃ a xs, x = .ref a ∧ SqL K H a xs ∧ RL K α O H ds xs := by
  simp only [R] at r
  obtain ⟨a, xs, e, p, q⟩ := r
  exact ⟨a, xs, e, p.elim (fun z => .inl z.1) KLst.sq, q⟩
theorem R.tup_sq {ds : List D} {x : V} (r : R K α O H (.tup ds) x) : ∃ a xs, x = .ref a ∧ SqT K H a xs ∧ RL K α O H ds xs := by
  simp only [R] at r
  obtain ⟨a, xs, e, p, q⟩ := r
  exact ⟨a, xs, e, p.elim (fun z => SqT.of z.1) KTup.sq, q⟩
theorem R.ref_cell {n : Nat} {x : V} {c : Cell} (hr : HRel K α O H h) (r : R K α O H (.ref n) x) (e : h[n]? = some c) : ∃ a, x = .ref a ∧ α[n]? = some a ∧ COk K α O H c a := by
  simp only [R] at r
  obtain ⟨a, e1, e2⟩ := r
  exact ⟨a, e1, e2, hr.cell n c a e e2⟩
theorem lv_sq {rv : RV} {x : V} {ds : List D} (hr : HRel K α O H h) (o : VAt K α O H rv x) (e : lv rv h = some ds) : ∃ a xs, x = .ref a ∧ SqL K H a xs ∧ RL K α O H ds xs := by
  unfold lv at e
  split at e
  · cases e
    exact o.isD.rol_sq
  · cases e
    exact o.isD.scr_sq
  · rename_i n h'
    split at e
    · rename_i es e1
      cases e
      obtain ⟨a, e2, e3, xs, q1, q2⟩ := o.isD.ref_cell hr e1
      exact ⟨a, xs, e2, SqL.of q1, q2⟩
    · cases e
  · cases e
    cases o with
    | l q n => obtain ⟨xs, q1, q2⟩ := q; exact ⟨_, xs, rfl, SqL.of q1, q2⟩
  · cases e
    cases o with
    | b q n => obtain ⟨xs, q1, q2⟩ := q; exact ⟨_, xs, rfl, SqL.of q1, q2⟩
  · cases e
end

/-! ### targets -/
abbrev DG := D → Env → Option Env
def tG (K : PySem.W.Frag) (ws : List Nat) (g : DG) : TG := fun v σ H Q => ∃ α O h env d, HRel K α O H h ∧ SRel K α O H σ env ∧ R K α O H d v ∧ ∃ env', g d env = some env' ∧
  ∀ σ', SRel K α O H σ' env' → Less σ env σ' env' → (∀ vs : List Nat, (∀ i ∈ ws, i ∈ vs) → wipe σ' vs = wipe σ vs) → Q σ' H
def gAll : List DG → List D → Env → Option Env
  | [], [], env => some env
  | g :: gs, d :: ds, env => match g d env with
    | some env1 => gAll gs ds env1
    | none => none
  | _, _, _ => none
def tGs (K : PySem.W.Frag) (ws : List Nat) (gs : List DG) : TGs := fun vs σ H Q => ∃ α O h env ds, HRel K α O H h ∧ SRel K α O H σ env ∧ RL K α O H ds vs ∧ ∃ env', gAll gs ds env = some env' ∧
  ∀ σ', SRel K α O H σ' env' → Less σ env σ' env' → (∀ vs : List Nat, (∀ i ∈ ws, i ∈ vs) → wipe σ' vs = wipe σ vs) → Q σ' H
def SG (Γ : G) (tg : Expr) (ws : List Nat) (g : DG) : Prop := ∀ X : Cx, Γ.At X → PG X tg (tG Γ.g.K ws g)
def SGs (Γ : G) (tg : List Expr) (ws : List Nat) (g : List DG) : Prop := ∀ X : Cx, Γ.At X → PGs X tg (tGs Γ.g.K ws g)
theorem PG.imp {X : Cx} {e : Expr} {t u : TG} (h : PG X e t) (i : ∀ v σ H Q, u v σ H Q → t v σ H Q) : PG X e u := ⟨fun pins s σ H v w Q I r q => h.run pins s σ H v w Q I r (i v σ H Q q)⟩
theorem PGs.imp {X : Cx} {e : List Expr} {t u : TGs} (h : PGs X e t) (i : ∀ v σ H Q, u v σ H Q → t v σ H Q) : PGs X e u := ⟨fun pins s σ H v w Q I r q => h.run pins s σ H v w Q I r (i v σ H Q q)⟩
def gNm (i : Nat) : DG := fun d env => some (env.set i (.v d))
def gTp (gs : List DG) : DG := fun d env => match d with
  | .tup ds => gAll gs ds env
  | _ => none
theorem wipe_set {σ : St} {i : Nat} {x : Option V} : ∀ {vs : List Nat}, i ∈ vs → wipe (σ.set i x) vs = wipe σ vs
  | [], h => by cases h
  | v :: vs, h => by
    unfold wipe
    by_cases hv : i ∈ vs
    · rw [wipe_set hv]
    · have e : i = v := by
        rcases List.mem_cons.mp h with h | h
        · exact h
        · exact absurd h hv
      subst e
      have : ∀ (vs : List Nat), i ∉ vs → wipe (σ.set i x) vs = (wipe σ vs).set i x := by
        intro vs
        induction vs with
        | nil => intro _; rfl
        | cons v vs ih =>
          intro hn
          simp only [List.mem_cons, not_or] at hn
          unfold wipe
          rw [ih hn.2, List.set_comm _ _ hn.1]
      rw [this vs hv, List.set_set]
section
variable {Γ : G} {pos : Pos} {x : Str} {e : Expr} {es : List Expr} {g : DG} {gs : List DG} {ws vs : List Nat}
theorem sg_name {i : Nat} (hN : Γ.N[i]? = some x := by rfl) (hx : Γ.sc.names.lookup x = some .local ∨ Γ.sc.names.lookup x = some .cell := by first | exact .inl rfl | exact .inr rfl) (hf : Γ.fn x = true ∨ Γ.sc.names.lookup x = some .local := by first | exact .inr rfl | exact .inl rfl) :
    SG Γ (.Name x pos) [i] (gNm i) := fun X c => PG.imp (pg_name (by rw [c.N]; exact c.nd) (by rw [c.N]; exact hN) (Loc.of c hx) (hf_of c hf)) fun v σ H Q q => by
  obtain ⟨α, O, h, env, d, hr, sr, r, env', e, k⟩ := q
  cases e
  obtain ⟨s1, l⟩ := sr.setV i r
  exact k _ s1 l fun vs hv => wipe_set (hv i (by simp))
theorem sgs_nil : SGs Γ [] [] [] := fun X c => PGs.imp pgs_nil fun v σ H Q q => by
  obtain ⟨α, O, h, env, ds, hr, sr, r, env', e, k⟩ := q
  cases ds with
  | nil => cases e; exact ⟨r.invN, k σ sr Less.refl fun _ _ => rfl⟩
  | cons d ds => cases e
theorem sgs_cons (h1 : SG Γ e ws g) (h2 : SGs Γ es vs gs) (hs : ∀ env, (assignEach (e :: es) env).map (·.2) = assign e env :: (assignEach es env).map (·.2) := by intro _; rfl) : SGs Γ (e :: es) (ws ++ vs) (g :: gs) := fun X c =>
  PGs.imp (pgs_cons (h1 X c) (h2 X c) (hs _)) fun v σ H Q q => by
    obtain ⟨α, O, h, env, ds, hr, sr, r, env', e, k⟩ := q
    cases ds with
    | nil => cases e
    | cons d ds =>
      unfold gAll at e
      split at e
      · rename_i env1 e1
        obtain ⟨y, q, e2, r1, r2⟩ := r.inv
        refine ⟨y, q, e2, α, O, h, env, d, hr, sr, r1, env1, e1, fun σ1 s1 l1 w1 => ?_⟩
        exact ⟨α, O, h, env1, ds, hr, s1, r2, env', e, fun σ2 s2 l2 w2 => k σ2 s2 (l1.trans l2) fun us hu => (w2 us fun i hi => hu i (List.mem_append_right _ hi)).trans (w1 us fun i hi => hu i (List.mem_append_left _ hi))⟩
      · cases e
theorem gAll_length : ∀ {gs : List DG} {ds : List D} {env env' : Env}, gAll gs ds env = some env' → gs.length = ds.length
  | [], [], _, _, _ => rfl
  | [], _ :: _, _, _, e => by cases e
  | _ :: _, [], _, _, e => by cases e
  | g :: gs, d :: ds, env, env', e => by
    unfold gAll at e
    split at e
    · simp [gAll_length e]
    · cases e
theorem sg_tup {k : Nat} (h : SGs Γ es ws gs) (hl : gs.length = es.length := by rfl) (hn : ∀ env, (assignEach es env).length = es.length := by intro _; rfl) (hst : ∀ env, (assignEach es env).findIdx? (·.1) = none := by intro _; rfl) : SG Γ (.Tuple es k pos) ws (gTp gs) := fun X c =>
  PG.imp (pg_tup c.calm (h X c) (hn _) (hst _)) fun v σ H Q q => by
    obtain ⟨α, O, h, env, d, hr, sr, r, env', e, k⟩ := q
    unfold gTp at e
    split at e
    · rename_i ds
      obtain ⟨a, xs, e1, q, rl⟩ := r.tup_sq
      exact ⟨a, xs, e1, by rw [c.K]; exact q, by rw [← rl.length, ← gAll_length e, hl], α, O, h, env, ds, hr, sr, rl, env', e, k⟩
    · cases e
/-- a, b = a list of just so many -/
def gLs (gs : List DG) : DG := fun d env => match d with
  | .rol ds => gAll gs ds env
  | _ => none
theorem sg_lst {k : Nat} (h : SGs Γ es ws gs) (hl : gs.length = es.length := by rfl) (hn : ∀ env, (assignEach es env).length = es.length := by intro _; rfl) (hst : ∀ env, (assignEach es env).findIdx? (·.1) = none := by intro _; rfl) : SG Γ (.Tuple es k pos) ws (gLs gs) := fun X c =>
  PG.imp (pg_lst c.calm (h X c) (hn _) (hst _)) fun v σ H Q q => by
    obtain ⟨α, O, h, env, d, hr, sr, r, env', e, k⟩ := q
    unfold gLs at e
    split at e
    · rename_i ds
      obtain ⟨a, xs, e1, q, rl⟩ := r.rol_sq
      exact ⟨a, xs, e1, by rw [c.K]; exact q, by rw [← rl.length, ← gAll_length e, hl], α, O, h, env, ds, hr, sr, rl, env', e, k⟩
    · cases e
end
/-- target = e -/
def dAsg (f : DE) (g : DG) : DS := fun env h => match f env h with
  | some (.d d, h1) => match g d env with
    | some env1 => some (.nx env1 h1)
    | none => none
  | _ => none
theorem s1_asg {Γ : G} {pos : Pos} {tg e : Expr} {ws : List Nat} {f : DE} {g : DG} (he : SE Γ e f) (hg : SG Γ tg ws g) (hs : ∀ env, swapsWithSole [tg] e pos.line env = pure false := by intro _; rfl) (hw : ∀ env, swappedStores [tg] e env = pure none := by intro _; rfl)
    (h1 : ∀ env, (assignEach [tg] env).map (·.2) = [assign tg env] := by intro _; rfl) : S1 Γ (.Assign [tg] e pos) (dAsg f g) := fun X c B => PS.imp (ps_asg (he X c) (hg X c) (hs _) (hw _) (h1 _)) fun D σ H q => by
  obtain ⟨α, O, h, env, hr, sr, br, o, e, k⟩ := q
  unfold dAsg at e
  split at e
  · rename_i d h1 e1
    split at e
    · rename_i env1 e2
      cases e
      refine ⟨α, O, h, env, hr, sr, _, h1, e1, fun α1 H1 x s1 o1 => ?_⟩
      exact ⟨α1, O, h1, env, d, o1.hr, sr.stp hr s1, o1.isD, env1, e2, fun σ' s' l _ => k α1 O H1 σ' o1.hr s' ((br.stp hr o1.hr s1).less l)⟩
    · cases e
  · cases e

/-! ### what is walked -/
abbrev DI := Env → Hs → Option (List D × Hs)
def ItOk (K : PySem.W.Frag) (J : It) (ds : List D) (α1 : List Addr) (O1 : Addr → Prop) (H1 : Hp) : Prop :=
  ∀ α O H h, Mv α1 O1 H1 α O H → HRel K α O H h → ∀ i : Nat, (∀ d, ds[i]? = some d → J.go i H ∧ ∀ x H', J.yld i H x H' → Stp α H α H' ∧ HRel K α O H' h ∧ R K α O H' d x) ∧ (ds.length ≤ i → J.stop i H)
def tI (K : PySem.W.Frag) (f : DI) : TI := fun σ H R => ∃ α O h env, HRel K α O H h ∧ SRel K α O H σ env ∧ ∃ ds h', f env h = some (ds, h') ∧ ∀ α' H' J, Stp α H α' H' → HRel K α' O H' h' → ItOk K J ds α' O H' → R J H'
def SI (Γ : G) (tg iter : Expr) (f : DI) : Prop := ∀ X : Cx, Γ.At X → PI X tg iter (tI Γ.g.K f)
theorem PI.imp {X : Cx} {tg e : Expr} {t u : TI} (h : PI X tg e t) (i : ∀ σ H R, u σ H R → t σ H R) : PI X tg e u := ⟨fun pins s σ H R I q => h.run pins s σ H R I (i σ H R q)⟩
theorem PI.or {X : Cx} {tg e : Expr} {t u : TI} (h : PI X tg e t) (h2 : PI X tg e u) : PI X tg e (fun σ H R => t σ H R ∨ u σ H R) := ⟨fun pins s σ H R I q => q.elim (h.run pins s σ H R I) (h2.run pins s σ H R I)⟩
section
variable {K : PySem.W.Frag} {α α' : List Addr} {O O' : Addr → Prop} {H H' : Hp} {h : Hs}
theorem R.rol_scr {ds : List D} {x : V} (r : R K α O H (.rol ds) x) : R K α O H (.scr ds) x := by
  simp only [R] at r ⊢
  obtain ⟨a, xs, e, ⟨p1, p2⟩, q⟩ := r
  exact ⟨a, xs, e, .inl ⟨.inl p1, p2⟩, q⟩
theorem itok_list {ds : List D} {x : V} (r : R K α O H (.scr ds) x) : ∃ a, x = .ref a ∧ (∃ xs, SqL K H a xs) ∧ ItOk K (Itl K a) ds α O H := by
  simp only [R] at r
  obtain ⟨a, xs, e, p, q⟩ := r
  subst e
  have sq : ∀ α' O' H', Mv α O H α' O' H' → SqL K H' a xs ∧ RL K α' O' H' ds xs := fun α' O' H' m => by
    refine ⟨?_, RL.mv m _ _ q⟩
    rcases p with ⟨p1, p2, p3⟩ | p
    · exact .inl (m.rd p1 p2 p3).1
    · exact .inr p
  refine ⟨a, rfl, ⟨xs, (sq _ _ _ Mv.refl).1⟩, fun α' O' H' h' m hr i => ⟨fun d e => ?_, fun l => ⟨xs, (sq _ _ _ m).1, by rw [← q.length]; exact l⟩⟩⟩
  obtain ⟨s, q'⟩ := sq _ _ _ m
  obtain ⟨y, e1, r1⟩ := q'.get e
  refine ⟨⟨xs, y, s, e1⟩, fun z H'' yl => ?_⟩
  obtain ⟨e2, f⟩ := yl
  subst e2
  have := f xs s
  rw [e1] at this
  cases this
  exact ⟨Stp.refl _ _, hr, r1⟩
theorem itok_tup {ds : List D} {x : V} (r : R K α O H (.tup ds) x) : ∃ a, x = .ref a ∧ (∃ xs, SqT K H a xs) ∧ ItOk K (Itt K a) ds α O H := by
  simp only [R] at r
  obtain ⟨a, xs, e, p, q⟩ := r
  subst e
  have sq : ∀ α' O' H', Mv α O H α' O' H' → SqT K H' a xs ∧ RL K α' O' H' ds xs := fun α' O' H' m => by
    refine ⟨?_, RL.mv m _ _ q⟩
    rcases p with ⟨p1, p2, p3⟩ | p
    · exact SqT.of (m.at_ _ _ p1 p2 p3).1
    · exact .inr p
  refine ⟨a, rfl, ⟨xs, (sq _ _ _ Mv.refl).1⟩, fun α' O' H' h' m hr i => ⟨fun d e => ?_, fun l => ⟨xs, (sq _ _ _ m).1, by rw [← q.length]; exact l⟩⟩⟩
  obtain ⟨s, q'⟩ := sq _ _ _ m
  obtain ⟨y, e1, r1⟩ := q'.get e
  refine ⟨⟨xs, y, s, e1⟩, fun z H'' yl => ?_⟩
  obtain ⟨e2, f⟩ := yl
  subst e2
  have := f xs s
  rw [e1] at this
  cases this
  exact ⟨Stp.refl _ _, hr, r1⟩
theorem itok_str {s : List Nat} : ItOk K (Its (S s)) (s.map fun c => .str [c]) α O H := fun α' O' H' h' m hr i => by
  refine ⟨fun d e => ?_, fun l => ?_⟩
  · rw [List.getElem?_map] at e
    cases e1 : s[i]? with
    | none => rw [e1] at e; cases e
    | some c =>
      rw [e1] at e
      cases e
      refine ⟨?_, fun z H'' yl => ?_⟩
      · have := (List.getElem?_eq_some_iff.mp e1).1
        show i < (s.toArray).size
        simpa using this
      · obtain ⟨e2, c', e3, e4⟩ := yl
        subst e2; subst e4
        have : c' = c := by
          have e3' : s[i]? = some c' := by simpa using e3
          rw [e1] at e3'
          cases e3'; rfl
        subst this
        exact ⟨Stp.refl _ _, hr, by simp only [R]⟩
  · show (s.toArray).size ≤ i
    simpa using l
/-- lo, lo + c, .. -/
def rangeL (lo c : Int) (n : Nat) : List D := (List.range n).map fun i => .int (lo + (i : Nat) * c)
theorem rangeL_get {lo c : Int} {n i : Nat} {d : D} (e : (rangeL lo c n)[i]? = some d) : i < n ∧ d = .int (lo + (i : Nat) * c) := by
  unfold rangeL at e
  rw [List.getElem?_map] at e
  cases e1 : (List.range n)[i]? with
  | none => rw [e1] at e; cases e
  | some j =>
    rw [e1] at e
    obtain ⟨h1, h2⟩ := List.getElem?_eq_some_iff.mp e1
    simp at h1 h2
    cases e
    exact ⟨h1, by rw [h2]⟩
theorem itok_range1 {lo : Int} {n : Nat} : ItOk K (Itr lo n) (rangeL lo 1 n) α O H := fun α' O' H' h' m hr i => by
  refine ⟨fun d e => ?_, fun l => ?_⟩
  · obtain ⟨h1, h2⟩ := rangeL_get e
    refine ⟨h1, fun z H'' yl => ?_⟩
    obtain ⟨e2, e3⟩ := yl
    subst e2 e3 h2
    exact ⟨Stp.refl _ _, hr, by simp only [R, Int.mul_one]⟩
  · show n ≤ i
    simpa [rangeL] using l
theorem itok_range3 {lo c : Int} {n : Nat} : ItOk K (Itc lo c n) (rangeL lo c n) α O H := fun α' O' H' h' m hr i => by
  refine ⟨fun d e => ?_, fun l => ?_⟩
  · obtain ⟨h1, h2⟩ := rangeL_get e
    refine ⟨h1, fun z H'' yl => ?_⟩
    obtain ⟨e2, e3⟩ := yl
    subst e2 e3 h2
    exact ⟨Stp.refl _ _, hr, by simp only [R]⟩
  · show n ≤ i
    simpa [rangeL] using l
end
/-- a value that is gone along: a list that nobody changes, a tuple, a text -/
def iE (f : DE) : DI := fun env h => match f env h with
  | some (.d (.rol ds), h1) => some (ds, h1)
  | some (.d (.scr ds), h1) => some (ds, h1)
  | some (.l (.lst ds), h1) => some (ds, h1)
  | some (.d (.tup ds), h1) => some (ds, h1)
  | some (.d (.str s), h1) => some (s.map fun c => .str [c], h1)
  | _ => none
/-- a new list that is frozen where it is told -/
theorem VOk.frz {K : PySem.W.Frag} {O : Addr → Prop} {H : Hp} {α' : List Addr} {H' : Hp} {h h' : Hs} {ds : List D} {x : V} {α : List Addr} (hr : HRel K α O H h) (o : VOk K O H α' H' h' (.l (.lst ds)) x) : HRel K α' O H' h' ∧ R K α' O H' (.rol ds) x := by
  cases o with
  | l n r q =>
    obtain ⟨xs, e2, rl⟩ := q
    refine ⟨r.less fun _ q => .inr q, ?_⟩
    simp only [R]
    exact ⟨_, xs, rfl, ⟨e2, fun m => r.dis _ m (.inl rfl), hr.notO n⟩, RL.mv (Mv.less fun _ q => .inr q) _ _ rl⟩
def ints1 : List RV → Option Int
  | [.d (.int j)] => some j
  | _ => none
def inB (i : Int) : Bool := decide (-(2 ^ 62) ≤ i ∧ i < 2 ^ 62)
def iR1 (f : DA) : DI := fun env h => match f env h with
  | some ([.d (.int j)], h1) => if inB j then some (rangeL 0 1 j.toNat, h1) else none
  | _ => none
def iR2 (f : DA) : DI := fun env h => match f env h with
  | some ([.d (.int i), .d (.int j)], h1) => if inB i && inB j then some (rangeL i 1 (j - i).toNat, h1) else none
  | _ => none
/-- range with a step: downwards by ones, or upwards by any -/
def iR3 (f : DA) : DI := fun env h => match f env h with
  | some ([.d (.int i), .d (.int j), .d (.int c)], h1) => if c ≠ 0 ∧ c.natAbs < 1073741824 ∧ Builtin.Range.small i j c = true then some (rangeL i c (Builtin.Range.rangeSize i j c).toNat, h1) else none
  | _ => none
section
variable {Γ : G} {pos p : Pos} {tg e a b c : Expr} {f : DE} {fa : DA}
theorem si_e (he : SE Γ e f) : SI Γ tg e (iE f) := fun X cc => PI.imp (PI.or (PI.or (pi_list (he X cc)) (pi_tup (he X cc))) (pi_str (he X cc))) fun σ H R q => by
  obtain ⟨α, O, h, env, hr, sr, ds, h', e, k⟩ := q
  unfold iE at e
  split at e
  · rename_i ds' h1 e1
    cases e
    refine .inl (.inl ⟨α, O, h, env, hr, sr, _, _, e1, fun α1 H1 x s1 o1 => ?_⟩)
    obtain ⟨a, e2, sq, ok⟩ := itok_list o1.isD.rol_scr
    rw [cc.K]
    exact ⟨a, e2, sq, k α1 H1 _ s1 o1.hr ok⟩
  · rename_i ds' h1 e1
    cases e
    refine .inl (.inl ⟨α, O, h, env, hr, sr, _, _, e1, fun α1 H1 x s1 o1 => ?_⟩)
    obtain ⟨a, e2, sq, ok⟩ := itok_list o1.isD
    rw [cc.K]
    exact ⟨a, e2, sq, k α1 H1 _ s1 o1.hr ok⟩
  · rename_i ds' h1 e1
    cases e
    refine .inl (.inl ⟨α, O, h, env, hr, sr, _, _, e1, fun α1 H1 x s1 o1 => ?_⟩)
    obtain ⟨r1, r2⟩ := o1.frz hr
    obtain ⟨a, e2, sq, ok⟩ := itok_list r2.rol_scr
    rw [cc.K]
    exact ⟨a, e2, sq, k α1 H1 _ s1 r1 ok⟩
  · rename_i ds' h1 e1
    cases e
    refine .inl (.inr ⟨α, O, h, env, hr, sr, _, _, e1, fun α1 H1 x s1 o1 => ?_⟩)
    obtain ⟨a, e2, sq, ok⟩ := itok_tup o1.isD
    rw [cc.K]
    exact ⟨a, e2, sq, k α1 H1 _ s1 o1.hr ok⟩
  · rename_i s h1 e1
    cases e
    refine .inr ⟨α, O, h, env, hr, sr, _, _, e1, fun α1 H1 x s1 o1 => ?_⟩
    exact ⟨S s, o1.isD.str_eq, k α1 H1 _ s1 o1.hr itok_str⟩
  · cases e
theorem Gl.of {X : Cx} {x : Str} (cc : Γ.At X) (hg : Γ.sc.names.lookup x = some .globalImplicit) : Gl X x := by
  show X.env.scope.names.lookup x = _
  rw [cc.sc]; exact hg
theorem VAts1 {K : PySem.W.Frag} {α : List Addr} {O : Addr → Prop} {H : Hp} {r : RV} {xs : List V} (o : VAts K α O H [r] xs) : ∃ x, xs = [x] ∧ VAt K α O H r x := by
  obtain ⟨x, q, e, o1, o2⟩ := o
  have : q = [] := o2
  subst this
  exact ⟨x, e, o1⟩
theorem VAts2 {K : PySem.W.Frag} {α : List Addr} {O : Addr → Prop} {H : Hp} {r1 r2 : RV} {xs : List V} (o : VAts K α O H [r1, r2] xs) : ∃ x y, xs = [x, y] ∧ VAt K α O H r1 x ∧ VAt K α O H r2 y := by
  obtain ⟨x, q, e, o1, o2⟩ := o
  obtain ⟨y, e2, o3⟩ := VAts1 o2
  subst e2
  exact ⟨x, y, e, o1, o3⟩
theorem VAts3 {K : PySem.W.Frag} {α : List Addr} {O : Addr → Prop} {H : Hp} {r1 r2 r3 : RV} {xs : List V} (o : VAts K α O H [r1, r2, r3] xs) : ∃ x y z, xs = [x, y, z] ∧ VAt K α O H r1 x ∧ VAt K α O H r2 y ∧ VAt K α O H r3 z := by
  obtain ⟨x, q, e, o1, o2⟩ := o
  obtain ⟨y, z, e2, o3⟩ := VAts2 o2
  subst e2
  exact ⟨x, y, z, e, o1, o3⟩
theorem si_range1 (hm : Γ.g.mg ("range" : Str) = none) (ha : SA Γ [a] fa) (hg : Γ.sc.names.lookup ("range" : Str) = some .globalImplicit := by rfl) (hs : ∀ env, starEach [a] env = [(false, eval a env)] := by intro _; rfl) : SI Γ tg (.Call (.Name "range" p) [a] [] pos) (iR1 fa) := fun X cc =>
  PI.imp (pi_range1 (Gl.of cc hg) (by rw [cc.mg]; exact hm) (ha X cc) (hs _)) fun σ H R q => by
    obtain ⟨α, O, h, env, hr, sr, ds, h', e, k⟩ := q
    unfold iR1 at e
    split at e
    · rename_i j h1 e1
      split at e
      · rename_i hb
        cases e
        refine ⟨α, O, h, env, hr, sr, _, _, e1, fun α1 H1 xs s1 r1 o1 => ?_⟩
        obtain ⟨x, ex, o⟩ := VAts1 o1
        have hb' := of_decide_eq_true hb
        exact ⟨j, by rw [ex, o.isD.int_eq], hb'.1, hb'.2, k α1 H1 _ s1 r1 itok_range1⟩
      · cases e
    · cases e
theorem si_range2 (hm : Γ.g.mg ("range" : Str) = none) (ha : SA Γ [a, b] fa) (hg : Γ.sc.names.lookup ("range" : Str) = some .globalImplicit := by rfl) (hs : ∀ env, starEach [a, b] env = [(false, eval a env), (false, eval b env)] := by intro _; rfl) (hs2 : ∀ env, starEach [b] env = [(false, eval b env)] := by intro _; rfl) :
    SI Γ tg (.Call (.Name "range" p) [a, b] [] pos) (iR2 fa) := fun X cc =>
  PI.imp (pi_range2 (Gl.of cc hg) (by rw [cc.mg]; exact hm) (ha X cc) (hs _) (hs2 _)) fun σ H R q => by
    obtain ⟨α, O, h, env, hr, sr, ds, h', e, k⟩ := q
    unfold iR2 at e
    split at e
    · rename_i i j h1 e1
      split at e
      · rename_i hb
        cases e
        refine ⟨α, O, h, env, hr, sr, _, _, e1, fun α1 H1 xs s1 r1 o1 => ?_⟩
        obtain ⟨x, y, ex, o, o'⟩ := VAts2 o1
        simp only [Bool.and_eq_true] at hb
        have hb1 := of_decide_eq_true hb.1
        have hb2 := of_decide_eq_true hb.2
        exact ⟨i, j, by rw [ex, o.isD.int_eq, o'.isD.int_eq], ⟨hb1.1, hb1.2, hb2.1, hb2.2⟩, k α1 H1 _ s1 r1 itok_range1⟩
      · cases e
    · cases e
end

/-! ### for -/
def dFl (g : DG) (b : DS) : List D → DS
  | [] => fun env h => some (.nx env h)
  | d :: ds => fun env h => match g d env with
    | some env1 => match b env1 h with
      | some (.nx env2 h2) => dFl g b ds env2 h2
      | some (.ct env2 h2) => dFl g b ds env2 h2
      | some (.bk env2 h2) => some (.nx env2 h2)
      | r => r
    | none => none
def dFor (it : DI) (g : DG) (b : DS) : DS := fun env h => match it env h with
  | some (ds, h1) => dFl g b ds env h1
  | none => none
section
variable {K : PySem.W.Frag} {B : Bs} {α α1 : List Addr} {O O1 : Addr → Prop} {H H1 : Hp} {h h1 : Hs} {σ σ1 : St} {env env1 : Env}
/-- this moment as a base -/
def Bs.now (hr : HRel K α O H h) (W : Addr → Prop) : Bs := ⟨α, O, H, W, hr.trk, fun a o m => hr.dis a m o⟩
theorem BH.of_now (hr : HRel K α O H h) (b : BH B α O H) (own : ∀ a, Own σ env a → B.H0 a = none ∨ B.W0 a) (sr : SRel K α O H σ env) (b1 : BH (Bs.now hr (Own σ env)) α1 O1 H1) : BH B α1 O1 H1 where
  fr := fun a o e n w => by
    obtain ⟨e1, n1⟩ := b.fr a o e n w
    refine b1.fr a o e1 n1 fun q => ?_
    rcases own a q with z | z
    · rw [e] at z; cases z
    · exact w z
  pre := fun i a e => b1.pre i a (b.pre i a e)
  new := fun a m => by
    rcases b1.new a m with z | z | z
    · exact b.new a z
    · exact .inr (.inl (b.none_back z))
    · exact .inr (own a z)
  o := fun a q => by
    rcases b1.o a q with z | z
    · exact b.o a z
    · exact .inr (b.none_back z)
  oo := fun a q => by
    rcases b.oo a q with z | z
    · exact .inl z
    · rcases b1.oo a z with y | y
      · rcases own a y with u | u
        · obtain ⟨o, e⟩ := B.t0 a q
          rw [u] at e; cases e
        · exact .inl u
      · exact .inr y
  th := fun a o e => by
    obtain ⟨o1, e1⟩ := b.th a o e
    exact b1.th a o1 e1
theorem own_back (hr : HRel K α O H h) (b : BH B α O H) (own : ∀ a, Own σ env a → B.H0 a = none ∨ B.W0 a) {a : Addr} (q : (Bs.now hr (Own σ env)).H0 a = none ∨ (Bs.now hr (Own σ env)).W0 a) : B.H0 a = none ∨ B.W0 a := by
  rcases q with z | z
  · exact .inl (b.none_back z)
  · exact own a z
theorem BRel.of_now (hr : HRel K α O H h) (b : BRel B α O H σ env) (sr : SRel K α O H σ env) (b1 : BRel (Bs.now hr (Own σ env)) α1 O1 H1 σ1 env1) : BRel B α1 O1 H1 σ1 env1 :=
  ⟨b.bh.of_now hr b.own sr b1.bh, fun a q => own_back hr b.bh b.own (b1.own a q)⟩
theorem BRel.now (hr : HRel K α O H h) (sr : SRel K α O H σ env) : BRel (Bs.now hr (Own σ env)) α O H σ env :=
  ⟨⟨fun a o e n w => ⟨e, n⟩, fun _ _ e => e, fun _ m => .inl m, fun _ o => .inl o, fun _ o => .inr o, fun _ o e => ⟨o, e⟩⟩, fun a q => .inr q⟩
theorem SK.of_now {D : Ends} {o : SOut} (hr : HRel K α O H h) (b : BRel B α O H σ env) (sr : SRel K α O H σ env) (k : SK K B D o) : SK K (Bs.now hr (Own σ env)) D o := by
  cases o with
  | nx env1 h1 => exact fun α1 O1 H1 σ1 r1 s1 b1 => k α1 O1 H1 σ1 r1 s1 (b.of_now hr sr b1)
  | bk env1 h1 => exact fun α1 O1 H1 σ1 r1 s1 b1 => k α1 O1 H1 σ1 r1 s1 (b.of_now hr sr b1)
  | ct env1 h1 => exact fun α1 O1 H1 σ1 r1 s1 b1 => k α1 O1 H1 σ1 r1 s1 (b.of_now hr sr b1)
  | rt rv h1 =>
    refine fun α1 O1 H1 x ok => k α1 O1 H1 x ?_
    cases ok with
    | d b1 r q => exact .d (b.bh.of_now hr b.own sr b1) r q
    | l b1 r q o w => exact .l (b.bh.of_now hr b.own sr b1) r q o (own_back hr b.bh b.own w)
/-- what the base knew moves on -/
theorem BH.mv (hr : HRel K α O H h) (sr : SRel K α O H σ env) (b1 : BH (Bs.now hr (Own σ env)) α1 O1 H1) : Mv α O H α1 O1 H1 :=
  ⟨fun a o e n n2 => by
    obtain ⟨e1, n1⟩ := b1.fr a o e n fun w => n2 (sr.ownO w).1
    exact ⟨e1, n1, fun q => by
      rcases b1.o a q with z | z
      · exact n2 z
      · have z' : H a = none := z
        rw [z'] at e; cases e⟩, b1.pre⟩
end
section
variable {Γ : G} {pos : Pos} {tg iter : Expr} {body : List Stmt} {ws : List Nat} {it : DI} {g : DG} {b : DS} {c : Expr} {fc : DT}
theorem s1_for (hi : SI Γ tg iter it) (hg : SG Γ tg ws g) (hb : SS Γ body b) (hs : ∀ env x, foldedSetIterable iter env x = pure x := by intro _ _; rfl) : S1 Γ (.For tg iter body [] pos) (dFor it g b) := fun X cc B0 => by
  refine ⟨fun pins s σ H D I q => ?_⟩
  obtain ⟨α, O, h, env, hr, sr, br, o, e, k⟩ := q
  unfold dFor at e
  split at e
  · rename_i ds h1 e1
    -- the body is read for the base at the loop's begin: B is chosen inside
    refine (ps_for (wi := tI Γ.g.K it) (g := tG Γ.g.K ws g) (tb := fun D σ H => ∃ B, tS Γ.g.K B b D σ H) (by rw [cc.xe]; exact PassesOwn.never) cc.calm (hi X cc) (hg X cc) ⟨fun pins s σ H D I q => by
      obtain ⟨B, q⟩ := q
      exact (hb X cc B).run pins s σ H D I q⟩ (hs _)).run pins s σ H D I ?_
    refine ⟨α, O, h, env, hr, sr, ds, h1, e1, fun α1 H1 J s1 r1 ok => ?_⟩
    have sr1 := sr.stp hr s1
    have br1 := br.stp hr r1 s1
    have k1 := SK.of_now r1 br1 sr1 k
    refine ⟨fun i m σ' H' => m = ds.length - i ∧ i ≤ ds.length ∧ ∃ α' O' h' env', HRel Γ.g.K α' O' H' h' ∧ SRel Γ.g.K α' O' H' σ' env' ∧ BRel (Bs.now r1 (Own σ env)) α' O' H' σ' env' ∧ dFl g b (ds.drop i) env' h' = some o,
      ⟨ds.length, by omega, Nat.zero_le _, α1, O, h1, env, r1, sr1, BRel.now r1 sr1, by rw [List.drop_zero]; exact e⟩, ?_⟩
    rintro i m σ' H' ⟨rfl, hi, α', O', h', env', hr', sr', br', e'⟩
    have mv := BH.mv r1 sr1 br'.bh
    obtain ⟨go, stop⟩ := ok α' O' H' h' mv hr' i
    cases hd : ds.drop i with
    | nil =>
      rw [hd] at e'
      unfold dFl at e'
      cases e'
      refine .inl ⟨stop ?_, k1 α' O' H' σ' hr' sr' br'⟩
      have := congrArg List.length hd
      simp at this
      omega
    | cons d rest =>
      have hlt : i < ds.length := by
        have := congrArg List.length hd
        simp at this
        omega
      have hd1 : ds[i]? = some d := by
        have := congrArg (·[0]?) hd
        simpa using this
      have hd2 : ds.drop (i + 1) = rest := by
        have := congrArg List.tail hd
        simpa using this
      rw [hd] at e'
      unfold dFl at e'
      obtain ⟨go1, yl⟩ := go d hd1
      refine .inr ⟨go1, fun σ'' H'' => ∃ α'' O'' h'' env'', HRel Γ.g.K α'' O'' H'' h'' ∧ SRel Γ.g.K α'' O'' H'' σ'' env'' ∧ BRel (Bs.now r1 (Own σ env)) α'' O'' H'' σ'' env'' ∧ dFl g b rest env'' h'' = some o,
        fun σ'' H'' ⟨α'', O'', h'', env'', z1, z2, z3, z4⟩ => ⟨ds.length - (i + 1), by omega, rfl, hlt, α'', O'', h'', env'', z1, z2, z3, by rw [hd2]; exact z4⟩, fun x H'' y => ?_⟩
      obtain ⟨st, hr2, rx⟩ := yl x H'' y
      have sr2 := sr'.stp hr' st
      have br2 := br'.stp hr' hr2 st
      split at e'
      · rename_i env1 e2
        refine ⟨α', O', h', env', d, hr2, sr2, rx, env1, e2, fun σ3 sr3 l3 _ => ?_⟩
        have br3 := br2.less l3
        split at e'
        · rename_i env2 h2 e3
          exact ⟨Bs.now r1 (Own σ env), α', O', h', env1, hr2, sr3, br3, _, e3, fun α4 O4 H4 σ4 hr4 sr4 br4 => ⟨α4, O4, h2, env2, hr4, sr4, br4, e'⟩⟩
        · rename_i env2 h2 e3
          exact ⟨Bs.now r1 (Own σ env), α', O', h', env1, hr2, sr3, br3, _, e3, fun α4 O4 H4 σ4 hr4 sr4 br4 => ⟨α4, O4, h2, env2, hr4, sr4, br4, e'⟩⟩
        · rename_i env2 h2 e3
          cases e'
          exact ⟨Bs.now r1 (Own σ env), α', O', h', env1, hr2, sr3, br3, _, e3, k1⟩
        · rename_i r n1 n2 n3
          refine ⟨Bs.now r1 (Own σ env), α', O', h', env1, hr2, sr3, br3, o, e', ?_⟩
          cases o with
          | nx env2 h2 => exact absurd e' (n1 _ _)
          | ct env2 h2 => exact absurd e' (n2 _ _)
          | bk env2 h2 => exact absurd e' (n3 _ _)
          | rt rv h2 => exact k1
      · cases e'
  · cases e

/-! ### while -/
def dWh (c : DT) (b : DS) : Nat → DS
  | 0 => fun _ _ => none
  | n + 1 => fun env h => match c env h with
    | some (true, h1) => match b env h1 with
      | some (.nx env2 h2) => dWh c b n env2 h2
      | some (.ct env2 h2) => dWh c b n env2 h2
      | some (.bk env2 h2) => some (.nx env2 h2)
      | r => r
    | some (false, h1) => some (.nx env h1)
    | none => none
theorem s1_while (n : Nat) (hc : ST Γ c fc) (hb : SS Γ body b) : S1 Γ (.While c body [] pos) (dWh fc b n) := fun X cc B => by
  refine PS.imp (ps_while (by rw [cc.xe]; exact PassesOwn.never) (hc X cc) (hb X cc B)) fun D σ H q => ?_
  obtain ⟨α, O, h, env, hr, sr, br, o, e, k⟩ := q
  refine ⟨fun m σ' H' => ∃ α' O' h' env', HRel Γ.g.K α' O' H' h' ∧ SRel Γ.g.K α' O' H' σ' env' ∧ BRel B α' O' H' σ' env' ∧ dWh fc b m env' h' = some o, ⟨n, α, O, h, env, hr, sr, br, e⟩, ?_⟩
  rintro m σ' H' ⟨α', O', h', env', hr', sr', br', e'⟩
  cases m with
  | zero => cases e'
  | succ m =>
    unfold dWh at e'
    split at e'
    · rename_i h1 e1
      refine ⟨α', O', h', env', hr', sr', true, h1, e1, fun α1 H1 s1 r1 => iteT ?_⟩
      refine ⟨fun σ'' H'' => ∃ α'' O'' h'' env'', HRel Γ.g.K α'' O'' H'' h'' ∧ SRel Γ.g.K α'' O'' H'' σ'' env'' ∧ BRel B α'' O'' H'' σ'' env'' ∧ dWh fc b m env'' h'' = some o, fun σ'' H'' z => ⟨m, Nat.lt_succ_self _, z⟩, ?_⟩
      have sr1 := sr'.stp hr' s1
      have br1 := br'.stp hr' r1 s1
      split at e'
      · rename_i env2 h2 e3
        exact ⟨α1, O', h1, env', r1, sr1, br1, _, e3, fun α4 O4 H4 σ4 hr4 sr4 br4 => ⟨α4, O4, h2, env2, hr4, sr4, br4, e'⟩⟩
      · rename_i env2 h2 e3
        exact ⟨α1, O', h1, env', r1, sr1, br1, _, e3, fun α4 O4 H4 σ4 hr4 sr4 br4 => ⟨α4, O4, h2, env2, hr4, sr4, br4, e'⟩⟩
      · rename_i env2 h2 e3
        cases e'
        exact ⟨α1, O', h1, env', r1, sr1, br1, _, e3, k⟩
      · rename_i r n1 n2 n3
        refine ⟨α1, O', h1, env', r1, sr1, br1, o, e', ?_⟩
        cases o with
        | nx env2 h2 => exact absurd e' (n1 _ _)
        | ct env2 h2 => exact absurd e' (n2 _ _)
        | bk env2 h2 => exact absurd e' (n3 _ _)
        | rt rv h2 => exact k
    · rename_i h1 e1
      cases e'
      refine ⟨α', O', h', env', hr', sr', false, _, e1, fun α1 H1 s1 r1 => iteF ?_⟩
      exact k α1 O' H1 σ' r1 (sr'.stp hr' s1) (br'.stp hr' r1 s1)
    · cases e'
end

/-! ### comprehensions -/
def wipeE (env : Env) : List Nat → Env
  | [] => env
  | v :: vs => (wipeE env vs).set v .no
def G.blk (Γ : G) (scope : Scope) : G := { Γ with sc := relS scope Γ.sc, fn := fun x => scope.names.lookup x == some .cell }
def lcL (g : DG) (tt : DT) (te : DE) (env : Env) : List D → Hs → Option (List D × Hs)
  | [], h => some ([], h)
  | d :: ds, h => match g d env with
    | some env1 => match tt env1 h with
      | some (false, h1) => lcL g tt te env ds h1
      | some (true, h1) => match te env1 h1 with
        | some (.d y, h2) => match lcL g tt te env ds h2 with
          | some (ys, h3) => some (y :: ys, h3)
          | none => none
        | _ => none
      | none => none
    | none => none
def eLc (it : DI) (g : DG) (tt : DT) (te : DE) (vs : List Nat) : DE := fun env h => match it env h with
  | some (ds, h1) => if ds.length ≤ sizeLine then match lcL g tt te (wipeE env vs) ds h1 with
    | some (ys, h2) => some (.l (.lst ys), h2)
    | none => none
    else none
  | none => none
def fYes : DT := fun _ h => some (true, h)
def STs (Γ : G) (ifs : List Expr) (f : DT) : Prop := ∀ X : Cx, Γ.At X → PTs X ifs (tT Γ.g.K f)
section
variable {K : PySem.W.Frag} {α : List Addr} {O : Addr → Prop} {H : Hp} {σ : St} {env : Env}
theorem SRel.wipe (s : SRel K α O H σ env) : ∀ vs : List Nat, SRel K α O H (L2.wipe σ vs) (wipeE env vs) ∧ Less σ env (L2.wipe σ vs) (wipeE env vs)
  | [] => ⟨s, Less.refl⟩
  | v :: vs => by
    obtain ⟨s1, l1⟩ := s.wipe vs
    have ne : ∀ (j : Nat) (sl : Slot), sl ≠ .no → (wipeE env (v :: vs))[j]? = some sl → v ≠ j ∧ (wipeE env vs)[j]? = some sl := fun j sl hn e => by
      rcases set_get e with ⟨_, z⟩ | z
      · exact absurd z.symm hn
      · exact z
    have sg : ∀ (j : Nat), v ≠ j → (L2.wipe σ (v :: vs))[j]? = (L2.wipe σ vs)[j]? := fun j hj => List.getElem?_set_ne hj
    refine ⟨⟨by unfold wipeE L2.wipe; simp [s1.len], fun i d e => ?_, fun i c e => ?_, fun i j c c' a e1 e2 e3 e4 => ?_⟩, l1.trans fun i c e => ?_⟩
    · obtain ⟨n, z⟩ := ne i _ (by intro q; cases q) e
      obtain ⟨x, z1, z2⟩ := s1.val i d z
      exact ⟨x, by rw [sg i n]; exact z1, z2⟩
    · obtain ⟨n, z⟩ := ne i _ (by intro q; cases q) e
      obtain ⟨x, z1, z2⟩ := s1.own i c z
      exact ⟨x, by rw [sg i n]; exact z1, z2⟩
    · obtain ⟨n, z⟩ := ne i _ (by intro q; cases q) e1
      obtain ⟨n2, z2⟩ := ne j _ (by intro q; cases q) e2
      rw [sg i n] at e3
      rw [sg j n2] at e4
      exact s1.dis i j c c' a z z2 e3 e4
    · obtain ⟨n, z⟩ := ne i _ (by intro q; cases q) e
      exact ⟨z, sg i n⟩
end
theorem G.At.blk {Γ : G} {X : Cx} (cc : Γ.At X) (s : Shared) (H : Hp) (scope : Scope) (C : Addr) (cl : List (Str × Addr)) (fp : List Addr) : (Γ.blk scope).At (X.blk s H scope (compEnvC scope cl C X.env) fp) where
  prog := cc.prog
  w := cc.w
  K := cc.K
  mg := cc.mg
  base := cc.base
  N := cc.N
  sc := by
    show relS scope X.env.scope = relS scope Γ.sc
    rw [cc.sc]
  nd := cc.nd
  calm := cc.calm
  room := cc.room
  xe := rfl
  fn := rfl
section
variable {Γ : G} {pos : Pos} {elt tg iter : Expr} {ifs : List Expr} {scope : Scope} {ws : List Nat} {it : DI} {g : DG} {tt : DT} {te : DE} {own : List (Str × Nat)}
theorem sts_nil : STs Γ [] fYes := fun X cc => by
  refine ⟨fun pins s σ H Q I q => ?_⟩
  obtain ⟨α, O, h, env, hr, sr, b, h', e, k⟩ := q
  cases e
  exact pts_nil.run pins s σ H Q I (k α H (.refl _ _) hr)
theorem sts_one {c : Expr} (hc : ST Γ c tt) : STs Γ [c] tt := fun X cc => pts_one (hc X cc)
theorem wipe_sub {σ : St} {vs : List Nat} : ∀ us : List Nat, (∀ i ∈ us, i ∈ vs) → L2.wipe (L2.wipe σ us) vs = L2.wipe σ vs
  | [], _ => rfl
  | u :: us, h => by
    show L2.wipe ((L2.wipe σ us).set u none) vs = _
    rw [wipe_set (h u List.mem_cons_self), wipe_sub us fun i hi => h i (List.mem_cons_of_mem _ hi)]
/-- an owned address is written -/
theorem Mv.updO {α : List Addr} {O : Addr → Prop} {H : Hp} {a : Addr} {o : HO} (q : O a) : Mv α O H α O (L2.upd H a o) :=
  ⟨fun b u e n n2 => ⟨by rw [upd_ne (fun z : b = a => n2 (by rw [z]; exact q))]; exact e, n, n2⟩, fun _ _ e => e⟩
theorem HRel.updO {K : PySem.W.Frag} {α : List Addr} {O : Addr → Prop} {H : Hp} {h : Hs} {a : Addr} {o : HO} (r : HRel K α O H h) (q : O a) : HRel K α O (L2.upd H a o) h :=
  ⟨r.len, r.nd, fun n c b e1 e2 => (r.cell n c b e1 e2).mv (Mv.updO q) fun u e => by
    rw [upd_ne (fun z : b = a => r.dis b (List.mem_of_getElem? e2) (by rw [z]; exact q))]; exact e, r.dis, fun b e => by
    by_cases hb : b = a
    · exact ⟨o, by rw [hb]; exact upd_same⟩
    · obtain ⟨u, z⟩ := r.trk b e
      exact ⟨u, by rw [upd_ne hb]; exact z⟩⟩
theorem tLc_imp {K : PySem.W.Frag} {vs : List Nat} (hw : ∀ i ∈ ws, i ∈ vs) {σ : St} {H : Hp} {Q : VK} (q : tE K (eLc it g tt te vs) σ H Q) : tLc (tI K it) (tG K ws g) (tT K tt) (tE K te) vs σ H Q := by
  obtain ⟨α, O, h, env, hr, sr, rv, h', e, k⟩ := q
  unfold eLc at e
  split at e
  · rename_i ds h1 e1
    split at e
    · rename_i hz
      split at e
      · rename_i ys h2 e2
        cases e
        refine ⟨α, O, h, env, hr, sr, ds, h1, e1, fun α1 H1 J s1 r1 ok => fun Dn hD => ?_⟩
        have sr1 := sr.stp hr s1
        have hn : H Dn = none := none_of_fr s1.fr (fun m => r1.notin hD (by
          obtain ⟨i, hi, e2⟩ := List.getElem_of_mem m
          exact List.mem_of_getElem? (s1.pre i _ (by rw [List.getElem?_eq_getElem hi, e2])))) hD
        -- turn i: the list made so far stands at Dn, what is left gives the rest
        refine ⟨fun i m H' => m = ds.length - i ∧ i ≤ ds.length ∧ ∃ α' h2 acc xs ys', HRel K α' (Ins O Dn) H' h2 ∧ Stp α1 H1 α' H' ∧ H' Dn = some (.lst xs) ∧ RL K α' (Ins O Dn) H' acc xs ∧ acc.length ≤ i ∧
            lcL g tt te (wipeE env vs) (ds.drop i) h2 = some (ys', h') ∧ acc ++ ys' = ys,
          ⟨ds.length, by omega, Nat.zero_le _, α1, h1, [], [], ys, r1.fresh hD, ⟨fun a o e n => by rw [upd_ne (ne_of_none e hD)]; exact e, fun _ _ e => e, fun _ m => .inl m⟩, upd_same, RL.nil, Nat.zero_le _, by rw [List.drop_zero]; exact e2, rfl⟩, ?_⟩
        rintro i m H' ⟨rfl, hi, α', hc, acc, xs, ys', hr', st', hx, rl, hacc, e', eys⟩
        have nD : Dn ∉ α' := fun m => hr'.dis _ m (.inl rfl)
        have mv1 : Mv α1 O H1 α' (Ins O Dn) H' := ⟨fun a o e n n2 => ⟨st'.fr a o e n, (fun m => by
          rcases st'.new a m with z | z
          · exact n z
          · rw [z] at e; cases e), fun z => z.elim (ne_of_none e hD) n2⟩, st'.pre⟩
        have sr' : SRel K α' (Ins O Dn) H' σ env := sr1.mv mv1 (fun a o q e => st'.fr a o e fun m => r1.dis a m q) fun a q => .inr q
        obtain ⟨go, stop⟩ := ok α' _ H' hc mv1 hr' i
        cases hd : ds.drop i with
        | nil =>
          rw [hd] at e'
          cases e'
          refine .inl ⟨stop ?_, ?_⟩
          · have := congrArg List.length hd
            simp at this
            omega
          · rw [List.append_nil] at eys
            subst eys
            exact k α' H' _ (s1.trans st') (.l hn hr' ⟨xs, hx, rl⟩)
        | cons d rest =>
          have hlt : i < ds.length := by
            have := congrArg List.length hd
            simp at this
            omega
          have hd1 : ds[i]? = some d := by
            have := congrArg (·[0]?) hd
            simpa using this
          have hd2 : ds.drop (i + 1) = rest := by
            have := congrArg List.tail hd
            simpa using this
          rw [hd] at e'
          unfold lcL at e'
          obtain ⟨go1, yl⟩ := go d hd1
          refine .inr ⟨go1, fun H'' => ∃ α'' h2 acc xs ys'', HRel K α'' (Ins O Dn) H'' h2 ∧ Stp α1 H1 α'' H'' ∧ H'' Dn = some (.lst xs) ∧ RL K α'' (Ins O Dn) H'' acc xs ∧ acc.length ≤ i + 1 ∧
              lcL g tt te (wipeE env vs) rest h2 = some (ys'', h') ∧ acc ++ ys'' = ys,
            fun H'' ⟨α'', h2, acc, xs, ys'', z1, z2, z3, z4, z5, z6, z7⟩ => ⟨ds.length - (i + 1), by omega, rfl, hlt, α'', h2, acc, xs, ys'', z1, z2, z3, z4, z5, by rw [hd2]; exact z6, z7⟩, fun x H'' y => ?_⟩
          obtain ⟨st2, hr2, rx⟩ := yl x H'' y
          obtain ⟨sw, lw⟩ := (sr'.stp hr' st2).wipe vs
          have stt := st'.trans st2
          split at e'
          · rename_i env1 e3
            refine ⟨α', _, hc, _, d, hr2, sw, rx, env1, e3, fun σ3 sr3 l3 w3 => ⟨?_, ?_⟩⟩
            · rw [w3 vs hw, wipe_sub vs fun _ h => h]
            · split at e'
              · rename_i h3 e4
                refine ⟨α', _, hc, env1, hr2, sr3, false, h3, e4, fun α3 H3 s3 r3 => iteF ?_⟩
                exact ⟨α3, h3, acc, xs, ys', r3, stt.trans s3, s3.fr _ _ (st2.fr _ _ hx nD) nD, RL.mv s3.mv _ _ (RL.mv st2.mv _ _ rl), by omega, e', eys⟩
              · rename_i h3 e4
                refine ⟨α', _, hc, env1, hr2, sr3, true, h3, e4, fun α3 H3 s3 r3 => iteT ?_⟩
                split at e'
                · rename_i y' h4 e5
                  split at e'
                  · rename_i zs h5 e6
                    cases e'
                    refine ⟨α3, _, h3, env1, r3, sr3.stp hr2 s3, _, h4, e5, fun α4 H4 w s4 o4 => ?_⟩
                    have nD3 : Dn ∉ α3 := fun m => r3.dis _ m (.inl rfl)
                    have hx4 : H4 Dn = some (.lst xs) := s4.fr _ _ (s3.fr _ _ (st2.fr _ _ hx nD) nD) nD3
                    have rl4 := RL.mv s4.mv _ _ (RL.mv s3.mv _ _ (RL.mv st2.mv _ _ rl))
                    have hl := rl4.length
                    have q : Ins O Dn Dn := .inl rfl
                    refine ⟨xs, hx4, by omega, α4, h4, acc ++ [y'], xs ++ [w], zs, o4.hr.updO q, ?_, upd_same, RL.mv (Mv.updO q) _ _ (rl4.app (RL.one o4.isD)), by simp; omega, e6, by simpa using eys⟩
                    have st5 := stt.trans (s3.trans s4)
                    exact ⟨fun a o e n => by rw [upd_ne (ne_of_none e hD)]; exact st5.fr a o e n, st5.pre, st5.new⟩
                  · cases e'
                · cases e'
              · cases e'
          · cases e'
      · cases e
    · cases e
  · cases e
theorem se_lc (hi : SI Γ tg iter it) (hg : SG (Γ.blk scope) tg ws g) (ht : STs (Γ.blk scope) ifs tt) (he : SE (Γ.blk scope) elt te) (ok : blkC Γ.N Γ.sc scope own = true := by (dsimp only [F.G.blk]; decide +kernel)) (hw : (ws.all fun i => (own.map (·.2)).contains i) = true := by rfl)
    (hs : ∀ env x, foldedSetIterable iter env x = pure x := by intro _ _; rfl) : SE Γ (.ListComp elt [⟨tg, iter, ifs, 0⟩] scope pos) (eLc it g tt te (own.map (·.2))) := fun X cc =>
  PE.imp (pe_lc cc.calm (by rw [cc.N]; exact cc.nd) (hi X cc) (by rw [cc.N, cc.sc]; exact blkOk_by ok) (fun s H C cl fp => hg _ (cc.blk s H scope C cl fp)) (fun s H C cl fp => ht _ (cc.blk s H scope C cl fp)) (fun s H C cl fp => he _ (cc.blk s H scope C cl fp)) (hs _)) fun σ H Q q =>
    tLc_imp (fun i hi => by
      have := List.all_eq_true.mp hw i hi
      simpa using this) q
/-- name = [..] -/
theorem s1_setLc {i : Nat} {y : Str} {py spos : Pos} (hN : Γ.N[i]? = some y := by rfl) (hyl : Γ.sc.names.lookup y = some .local := by rfl) (hi : SI Γ tg iter it) (hg : SG (Γ.blk scope) tg ws g) (ht : STs (Γ.blk scope) ifs tt) (he : SE (Γ.blk scope) elt te) (ok : blkC Γ.N Γ.sc scope own = true := by (dsimp only [F.G.blk]; decide +kernel)) (hw : (ws.all fun i => (own.map (·.2)).contains i) = true := by rfl)
    (hl : (py.line == pos.line) = true := by rfl) (ha : (scope.names.any fun (n, k) => n == y && (k == .local || k == .cell)) = false := by decide +kernel) (hs : ∀ env x, foldedSetIterable iter env x = pure x := by intro _ _; rfl) :
    S1 Γ (.Assign [.Name y py] (.ListComp elt [⟨tg, iter, ifs, 0⟩] scope pos) spos) (dSet i (eLc it g tt te (own.map (·.2)))) := fun X cc B => by
  refine ⟨fun pins s σ H D I q => ?_⟩
  have hk : X.env.scope.kind = .function := I.ok.kind
  have hy2 : X.env.scope.names.lookup y = some .local := by rw [cc.sc]; exact hyl
  refine (ps_setLc cc.calm (by rw [cc.N]; exact cc.nd) (by rw [cc.N]; exact hN) hy2 (sw_true hk hy2 hl ha) (hi X cc) (by rw [cc.N, cc.sc]; exact blkOk_by ok) (fun s H C cl fp => hg _ (cc.blk s H scope C cl fp)) (fun s H C cl fp => ht _ (cc.blk s H scope C cl fp)) (fun s H C cl fp => he _ (cc.blk s H scope C cl fp)) (hs _)).run pins s σ H D I ?_
  obtain ⟨α, O, h, env, hr, sr, br, o, e, k⟩ := q
  have hw' : ∀ i ∈ ws, i ∈ own.map (·.2) := fun i hi => by
    have := List.all_eq_true.mp hw i hi
    simpa using this
  unfold dSet at e
  split at e
  · rename_i d h1 e1
    cases e
    refine tLc_imp hw' ⟨α, O, h, env, hr, sr, _, h1, e1, fun α1 H1 x s1 o1 => ?_⟩
    obtain ⟨O', r, s, b⟩ := store_imp (i := i) hr sr br s1 o1 rfl
    exact k α1 O' H1 _ r s b
  · rename_i d h1 e1
    cases e
    refine tLc_imp hw' ⟨α, O, h, env, hr, sr, _, h1, e1, fun α1 H1 x s1 o1 => ?_⟩
    obtain ⟨O', r, s, b⟩ := store_imp (i := i) hr sr br s1 o1 rfl
    exact k α1 O' H1 _ r s b
  · cases e
end
end F
/-! F4: defs over data: calls, what a def promises. -/
namespace F
open PySem PySem.Spec PyProof.Rows L2

abbrev Mir := List D → Hs → Option (RV × Hs)
def spM (K : PySem.W.Frag) (n : Nat) (m : Mir) : Sp := fun vs H Q _ => ∃ α O h ds, HRel K α O H h ∧ RL K α O H ds vs ∧ ds.length = n ∧ ∃ rv h', m ds h = some (rv, h') ∧ (∀ c, rv ≠ .b c) ∧ ∀ α' H' x, Stp α H α' H' → VOk K O H α' H' h' rv x → Q x H'
structure FnAt (g : GG) (k : Nat) (x : Str) (ps : List Str) (m : Mir) : Prop where
  ex : ∃ f fd, g.mg x = some (.ref f) ∧ PySem.W.keepIn g.K (.ref f) = true ∧ Binds g.K fd ps [] ∧ FnOk g.P g.w g.K g.mg g.base CX0 k f fd ps (spM g.K ps.length m)
theorem FnAt.mono {g : GG} {j k : Nat} {x : Str} {ps : List Str} {m : Mir} (F : FnAt g j x ps m) (h : j ≤ k) : FnAt g k x ps m := by
  obtain ⟨f, fd, a, b, c, d⟩ := F.ex
  exact ⟨f, fd, a, b, c, d.mono h⟩
def eCall (m : Mir) (fa : DA) : DE := fun env h => match fa env h with
  | some (rs, h1) => match plain rs with
    | some ds => match m ds h1 with
      | some (.b _, _) => none
      | r => r
    | none => none
  | none => none
section
variable {Γ : G} {x : Str} {ps : List Str} {m : Mir} {p pos : Pos} {e : Expr} {es : List Expr} {fa : DA} {j : Nat}
theorem call_imp {K : PySem.W.Frag} {n : Nat} {perm : List D → List D} {permV : List V → List V} {kws : Bool} {σ : St} {H : Hp} {Q : VK} (q : tE K (eCall m fa) σ H Q) (hn : ∀ rs h ds h1 env, fa env h = some (rs, h1) → plain rs = some ds → ds.length = n) : tCall (spM K n m) [] E0 (tA K fa) σ H Q := by
  obtain ⟨α, O, h, env, hr, sr, rv, h', e, k⟩ := q
  unfold eCall at e
  split at e
  · rename_i rs h1 e1
    split at e
    · rename_i ds e2
      refine ⟨α, O, h, env, hr, sr, rs, h1, e1, fun α1 H1 xs s1 r1 o1 => ?_⟩
      show spM K n m (xs ++ []) H1 Q E0
      rw [List.append_nil]
      refine ⟨α1, O, h1, ds, r1, plain_R e2 o1, hn _ _ _ _ _ e1 e2, rv, h', ?_, ?_, fun α2 H2 y s2 o2 => k α2 H2 y (s1.trans s2) (o2.back s1 r1)⟩
      · split at e
        · cases e
        · exact e
      · intro c hc
        subst hc
        split at e
        · cases e
        · rename_i nb
          exact nb _ _ e
    · cases e
  · cases e
theorem plain_length : ∀ {rs : List RV} {ds : List D}, plain rs = some ds → ds.length = rs.length
  | [], ds, e => by cases e; rfl
  | .d d :: r, ds, e => by
    unfold plain at e
    split at e
    · rename_i es e1
      cases e
      simp [plain_length e1]
    · cases e
  | .l _ :: r, ds, e => by cases e
  | .b _ :: r, ds, e => by cases e
/-- how many values an argument list gives -/
def ALen (fa : DA) (n : Nat) : Prop := ∀ env h rs h1, fa env h = some (rs, h1) → rs.length = n
theorem alen_nil : ALen aNil 0 := fun env h rs h1 e => by cases e; rfl
theorem alen_cons {f : DE} {n : Nat} (h : ALen fa n) : ALen (aCons f fa) (n + 1) := fun env h0 rs h1 e => by
  unfold aCons at e
  split at e
  · split at e
    · rename_i xs h2 e2
      cases e
      simp [h _ _ _ _ e2]
    · cases e
  · cases e
theorem se_call (Fx : FnAt Γ.g j x ps m) (ha : SA Γ (e :: es) fa) (hn : ALen fa ps.length) (hj : j ≤ Γ.k := by first | assumption | omega) (hg : Γ.sc.names.lookup x = some .globalImplicit := by rfl) (hdb : (x == ("__debug__" : Str)) = false := by decide)
    (he : ∀ env, starEach (e :: es) env = (false, eval e env) :: starEach es env := by intro _; rfl) (hpl : ∀ env, (backTo pos (starEach es env)).any (·.1) = false := by intro _; rfl) : SE Γ (.Call (.Name x p) (e :: es) [] pos) (eCall m fa) := fun X cc => by
  obtain ⟨f, fd, a, b, c, d⟩ := (Fx.mono hj).ex
  refine PE.imp (pe_call (sp := spM Γ.g.K ps.length m) (k := Γ.k) (CX := CX0) (E := E0) (by rw [cc.prog, cc.w, cc.K, cc.mg, cc.base]; exact d) cc.room (Gl.of cc hg) (by rw [cc.mg]; exact a) (by rw [cc.K]; exact b) (by rw [cc.K]; exact c) .nil pass0 (ha X cc) hdb (he _) (hpl _)) fun σ H Q q => ?_
  exact call_imp (perm := id) (permV := id) (kws := false) q fun rs h ds h1 env e1 e2 => by rw [plain_length e2]; exact hn _ _ _ _ e1
theorem se_call0 (Fx : FnAt Γ.g j x [] m) (hj : j ≤ Γ.k := by first | assumption | omega) (hg : Γ.sc.names.lookup x = some .globalImplicit := by rfl) (hdb : (x == ("__debug__" : Str)) = false := by decide) : SE Γ (.Call (.Name x p) [] [] pos) (eCall m aNil) := fun X cc => by
  obtain ⟨f, fd, a, b, c, d⟩ := (Fx.mono hj).ex
  refine PE.imp (pe_call0 (sp := spM Γ.g.K 0 m) (k := Γ.k) (CX := CX0) (E := E0) (by rw [cc.prog, cc.w, cc.K, cc.mg, cc.base]; exact d) cc.room (Gl.of cc hg) (by rw [cc.mg]; exact a) (by rw [cc.K]; exact b) (by rw [cc.K]; exact c) .nil pass0 hdb) fun σ H Q q => ?_
  obtain ⟨α, O, h, env, hr, sr, rs, h1, e1, k⟩ := call_imp (n := 0) (perm := id) (permV := id) (kws := false) q fun rs h ds h1 env e1 e2 => by cases e1; cases e2; rfl
  cases e1
  exact k α H [] (.refl _ _) hr rfl

/-! ### keywords -/
/-- the arguments in the parameters' order: places among the positional ones and the keywords' values behind -/
def pick {T : Type} (ix : List Nat) (l : List T) : List T := ix.filterMap fun i => l[i]?
structure KwAt (g : GG) (k : Nat) (x : Str) (ps : List Str) (n : Nat) (ks : List Str) (ix : List Nat) (m : Mir) : Prop where
  ex : ∃ f fd, g.mg x = some (.ref f) ∧ PySem.W.keepIn g.K (.ref f) = true ∧ (∀ (s : Shared) (us ws : List Value), us.length = n → ws.length = ks.length → BindsTo s fd ⟨us, ks.zip ws⟩ (ps.zip (pick ix (us ++ ws)))) ∧ FnOk g.P g.w g.K g.mg g.base CX0 k f fd ps (spM g.K ps.length m)
theorem KwAt.mono {g : GG} {j k : Nat} {x : Str} {ps : List Str} {n : Nat} {ks : List Str} {ix : List Nat} {m : Mir} (F : KwAt g j x ps n ks ix m) (h : j ≤ k) : KwAt g k x ps n ks ix m := by
  obtain ⟨f, fd, a, b, c, d⟩ := F.ex
  exact ⟨f, fd, a, b, c, d.mono h⟩
def eCallK (m : Mir) (ix : List Nat) (fa fk : DA) : DE := fun env h => match fa env h with
  | some (rs, h1) => match fk env h1 with
    | some (qs, h2) => match plain (rs ++ qs) with
      | some ds => match m (pick ix ds) h2 with
        | some (.b _, _) => none
        | r => r
      | none => none
    | none => none
  | none => none
def SKw (Γ : G) (kws : List Keyword) (f : DA) : Prop := ∀ X : Cx, Γ.At X → PK X kws (tA Γ.g.K f)
theorem PK.imp {X : Cx} {kws : List Keyword} {t u : TA} (h : PK X kws t) (i : ∀ σ H Q, u σ H Q → t σ H Q) : PK X kws u := ⟨fun pos pins s σ H Q I q => h.run pos pins s σ H Q I (i σ H Q q)⟩
theorem sk_nil : SKw Γ [] aNil := fun X c => PK.imp pk_nil fun σ H Q q => by
  obtain ⟨α, O, h, env, hr, sr, rv, h', e, k⟩ := q
  cases e
  exact k α H [] (.refl _ _) hr rfl
theorem sk_cons {nm : Option Str} {kpos : Pos} {f : DE} {fs : DA} {kws : List Keyword} (ha : SE Γ e f) (hr : SKw Γ kws fs) : SKw Γ (⟨nm, e, kpos⟩ :: kws) (aCons f fs) := fun X c => PK.imp (pk_cons (ha X c) (hr X c)) fun σ H Q q => by
  obtain ⟨α, O, h, env, hr, sr, rv, h', e, k⟩ := q
  unfold aCons at e
  split at e
  · rename_i x1 h1 e1
    split at e
    · rename_i xs1 h2 e2
      cases e
      refine ⟨α, O, h, env, hr, sr, x1, h1, e1, fun α1 H1 x s1 o1 => ?_⟩
      exact ⟨α1, O, h1, env, o1.hr, sr.stp hr s1, xs1, _, e2, fun α2 H2 xs s2 r2 o2 => k α2 H2 _ (s1.trans s2) r2 ⟨x, xs, rfl, o1.at_.stp s2, o2⟩⟩
    · cases e
  · cases e
theorem RL.pick {K : PySem.W.Frag} {α : List Addr} {O : Addr → Prop} {H : Hp} {ds : List D} {xs : List V} (r : RL K α O H ds xs) : ∀ ix : List Nat, RL K α O H (pick ix ds) (pick ix xs)
  | [] => RL.nil
  | i :: ix => by
    have ih := RL.pick r ix
    unfold F.pick at ih ⊢
    cases e : ds[i]? with
    | none =>
      have e2 : xs[i]? = none := by
        rw [List.getElem?_eq_none_iff] at e ⊢
        rw [← r.length]; exact e
      rw [List.filterMap_cons_none e, List.filterMap_cons_none e2]
      exact ih
    | some d =>
      obtain ⟨x, e2, q⟩ := r.get e
      rw [List.filterMap_cons_some e, List.filterMap_cons_some e2]
      exact RL.cons q ih
theorem Vals.pick {xs : List V} {us : List Value} (r : Vals xs us) : ∀ ix : List Nat, Vals (pick ix xs) (pick ix us)
  | [] => .nil
  | i :: ix => by
    have ih := Vals.pick r ix
    unfold F.pick at ih ⊢
    cases e : xs[i]? with
    | none =>
      have e2 := Vals.none_of r e
      rw [List.filterMap_cons_none e, List.filterMap_cons_none e2]
      exact ih
    | some d =>
      obtain ⟨x, e2, q⟩ := Vals.get r e
      rw [List.filterMap_cons_some e, List.filterMap_cons_some e2]
      exact .cons q ih
theorem plain_app : ∀ {rs qs : List RV} {ds : List D}, plain (rs ++ qs) = some ds → ∃ d1 d2, plain rs = some d1 ∧ plain qs = some d2 ∧ ds = d1 ++ d2
  | [], qs, ds, e => ⟨[], ds, rfl, e, rfl⟩
  | .d d :: r, qs, ds, e => by
    rw [List.cons_append] at e
    unfold plain at e
    split at e
    · rename_i es e1
      cases e
      obtain ⟨d1, d2, a, b, c⟩ := plain_app e1
      exact ⟨d :: d1, d2, by unfold plain; rw [a], b, by rw [c]; rfl⟩
    · cases e
  | .l _ :: r, qs, ds, e => by cases e
  | .b _ :: r, qs, ds, e => by cases e
variable {n : Nat} {ks : List Str} {ix : List Nat} {fk : DA} {kws : List Keyword}
theorem kcall_imp {K : PySem.W.Frag} {np : Nat} (hix : ix.length = np) (hixn : ix.all (fun i => decide (i < n + ks.length)) = true) (hn : ALen fa n) (hk : ALen fk ks.length) {σ : St} {H : Hp} {Q : VK} (q : tE K (eCallK m ix fa fk) σ H Q) :
    tA K fa σ H fun vs H1 => tA K fk σ H1 fun zs H2 => vs.length = n ∧ zs.length = ks.length ∧ spM K np m (pick ix (vs ++ zs)) H2 Q E0 := by
  obtain ⟨α, O, h, env, hr, sr, rv, h', e, k⟩ := q
  unfold eCallK at e
  split at e
  · rename_i rs h1 e1
    split at e
    · rename_i qs h2 e2
      split at e
      · rename_i ds e3
        obtain ⟨d1, d2, a, b, c⟩ := plain_app e3
        refine ⟨α, O, h, env, hr, sr, rs, h1, e1, fun α1 H1 xs s1 r1 o1 => ?_⟩
        refine ⟨α1, O, h1, env, r1, sr.stp hr s1, qs, h2, e2, fun α2 H2 zs s2 r2 o2 => ?_⟩
        have rl1 := plain_R a (VAts.stp s2 o1)
        have rl2 := plain_R b o2
        have l1 : d1.length = n := by rw [plain_length a]; exact hn _ _ _ _ e1
        have l2 : d2.length = ks.length := by rw [plain_length b]; exact hk _ _ _ _ e2
        refine ⟨by rw [← rl1.length]; exact l1, by rw [← rl2.length]; exact l2, α2, O, h2, pick ix ds, r2, by rw [c]; exact RL.pick (rl1.app rl2) ix, ?_, rv, h', ?_, ?_, fun α3 H3 y s3 o3 => k α3 H3 y (s1.trans (s2.trans s3)) (o3.back (s1.trans s2) r2)⟩
        · rw [← hix]
          have hl : ds.length = n + ks.length := by rw [c, List.length_append, l1, l2]
          clear e k
          induction ix generalizing np with
          | nil => rfl
          | cons i ix ih =>
            simp only [List.all_cons, Bool.and_eq_true, decide_eq_true_eq] at hixn
            unfold pick at ih ⊢
            have e4 : ds[i]? = some ds[i] := List.getElem?_eq_getElem (by omega)
            rw [List.filterMap_cons_some e4]
            simp only [List.length_cons]
            rw [ih rfl hixn.2]
        · split at e
          · cases e
          · exact e
        · intro c hc
          subst hc
          split at e
          · cases e
          · rename_i nb
            exact nb _ _ e
      · cases e
    · cases e
  · cases e
theorem run_kw {X : Cx} {k : Nat} {f : Addr} {fd : FuncData} {sp : Sp} {pins : List (Addr × Obj)} {σ : St} {H : Hp} {s : Shared} {Q : VK} {us ws : List Value} {vs zs : List V} (F : FnOk X.prog X.w X.K X.mg X.base CX0 k f fd ps sp) (hr : Room k X.A)
    (hb : ∀ (s : Shared) (us ws : List Value), us.length = n → ws.length = ks.length → BindsTo s fd ⟨us, ks.zip ws⟩ (ps.zip (pick ix (us ++ ws)))) (I : Inv X pins σ H s) (r : Vals vs us) (rz : Vals zs ws) (l1 : vs.length = n) (l2 : zs.length = ks.length) (h : sp (pick ix (vs ++ zs)) H Q E0) :
    wpAny (model X.prog X.w) X.A (PySem.call (.ref f) us (ks.zip ws)) (EP X pins σ Q) X.xe s := by
  have r2 : Vals (pick ix (vs ++ zs)) (pick ix (us ++ ws)) := Vals.pick (r.append rz) ix
  refine wpAny_call (codeAny_mono (F.run X.A X.stack s H ⟨us, ks.zip ws⟩ _ _ Q E0 hr I.env0 (hb s us ws (by rw [← r.length]; exact l1) (by rw [← rz.length]; exact l2)) r2 h) fun r s' hq => ?_)
  cases r with
  | error e => exact False.elim hq
  | ok fl =>
    cases fl with
    | ret u => exact I.after hq
    | next => exact False.elim hq
    | brk => exact False.elim hq
    | cont => exact False.elim hq
theorem se_callK (Fx : KwAt Γ.g j x ps n ks ix m) (ha : SA Γ (e :: es) fa) (hn : ALen fa n) (hkw : SKw Γ kws fk) (hkn : ALen fk ks.length) (hix : ix.length = ps.length := by rfl) (hixn : ix.all (fun i => decide (i < n + ks.length)) = true := by decide) (hj : j ≤ Γ.k := by first | assumption | omega) (hg : Γ.sc.names.lookup x = some .globalImplicit := by rfl)
    (hall : ∀ env, (backToKw pos (keywordEach kws env)).all (·.1.isSome) = true := by intro _; rfl) (hks : ∀ env, (backToKw pos (keywordEach kws env)).filterMap (·.1) = ks := by intro _; rfl) (hdb : (x == ("__debug__" : Str)) = false := by decide)
    (he : ∀ env, starEach (e :: es) env = (false, eval e env) :: starEach es env := by intro _; rfl) (hpl : ∀ env, ((backTo pos (starEach (e :: es) env)).any (·.1) || (backToKw pos (keywordEach kws env)).any (·.1.isNone)) = false := by intro _; rfl) :
    SE Γ (.Call (.Name x p) (e :: es) kws pos) (eCallK m ix fa fk) := fun X cc => by
  obtain ⟨f, fd, a, b, c, d⟩ := (Fx.mono hj).ex
  refine ⟨fun pins s σ H Q I q => ?_⟩
  have q := kcall_imp (np := ps.length) hix hixn hn hkn q
  refine wpAny_Call_Name_kw (ld_glob I (Gl.of cc hg) (by rw [cc.mg]; exact a) ?_ hdb)
  refine PySem.W.callWith_KW (h₀ := X.base) I.ok.mod.kin (by rw [cc.K]; exact b) (hall _) (thn ((ha X cc).run pos pins s σ H _ I q) fun us s1 ⟨vs, H1, I1, r, q⟩ => ?_) (hpl _) (he _)
  refine thn ((hkw X cc).run pos pins s1 σ H1 _ I1 q) fun ws s2 ⟨zs, H2, I2, rz, l1, l2, q2⟩ => ⟨I2.kIn, ?_⟩
  rw [hks]
  exact run_kw (by rw [cc.prog, cc.w, cc.K, cc.mg, cc.base]; exact d) cc.room c I2 r rz l1 l2 q2
theorem se_callK0 (Fx : KwAt Γ.g j x ps 0 ks ix m) (hkw : SKw Γ kws fk) (hkn : ALen fk ks.length) (hix : ix.length = ps.length := by rfl) (hixn : ix.all (fun i => decide (i < 0 + ks.length)) = true := by decide) (hj : j ≤ Γ.k := by first | assumption | omega) (hg : Γ.sc.names.lookup x = some .globalImplicit := by rfl)
    (hall : ∀ env, (backToKw pos (keywordEach kws env)).all (·.1.isSome) = true := by intro _; rfl) (hks : ∀ env, (backToKw pos (keywordEach kws env)).filterMap (·.1) = ks := by intro _; rfl) (hdb : (x == ("__debug__" : Str)) = false := by decide)
    (hpl : ∀ env, ((backTo pos (starEach [] env)).any (·.1) || (backToKw pos (keywordEach kws env)).any (·.1.isNone)) = false := by intro _; rfl) :
    SE Γ (.Call (.Name x p) [] kws pos) (eCallK m ix aNil fk) := fun X cc => by
  obtain ⟨f, fd, a, b, c, d⟩ := (Fx.mono hj).ex
  refine ⟨fun pins s σ H Q I q => ?_⟩
  have q := kcall_imp (np := ps.length) hix hixn alen_nil hkn q
  refine wpAny_Call_Name_kw (ld_glob I (Gl.of cc hg) (by rw [cc.mg]; exact a) ?_ hdb)
  refine PySem.W.callWith_KW0 (h₀ := X.base) I.ok.mod.kin (by rw [cc.K]; exact b) (hall _) ?_ (hpl _)
  obtain ⟨α, O, h, env, hr, sr, rs, h1, e1, k⟩ := q
  cases e1
  have q := k α H [] (.refl _ _) hr rfl
  refine thn ((hkw X cc).run pos pins s σ H _ I q) fun ws s2 ⟨zs, H2, I2, rz, l1, l2, q2⟩ => ⟨I2.kIn, ?_⟩
  rw [hks]
  exact run_kw (us := []) (vs := []) (by rw [cc.prog, cc.w, cc.K, cc.mg, cc.base]; exact d) cc.room c I2 .nil rz rfl l2 q2
end

/-! ### a def's body -/
mutual
def bel (n : Nat) : D → Bool
  | .ref m => decide (m < n)
  | .tup ds => bels n ds
  | .rol ds => bels n ds
  | .scr ds => bels n ds
  | _ => true
def bels (n : Nat) : List D → Bool
  | [] => true
  | d :: ds => bel n d && bels n ds
end
def cbel (n : Nat) : Cell → Bool
  | .lst ds => bels n ds
  | .dct kvs => bels n (kvs.map (·.2))
def rbel (n : Nat) : RV → Bool
  | .d d => bel n d
  | .l c => cbel n c
  | .b c => cbel n c
def GcOk (h h' : Hs) (rv : RV) : Prop := rbel h.length rv = true ∧ ∀ (i : Nat) c, i < h.length → h'[i]? = some c → h[i]? = some c ∨ cbel h.length c = true
open Classical in
/-- what the callee made and nobody needs goes -/
noncomputable def gc (h h' : Hs) (rv : RV) : Hs := if GcOk h h' rv then h'.take h.length else h'
noncomputable def mOf (n : Nat) (b : DS) : Mir := fun ds h => match b (ds.map .v ++ List.replicate (n - ds.length) .no) h with
  | some (.rt rv h') => some (rv, gc h h' rv)
  | some (.nx _ h') => some (.d .non, gc h h' (.d .non))
  | _ => none
section
variable {K : PySem.W.Frag} {α α' : List Addr} {O O' : Addr → Prop} {H H' : Hp} {h h' : Hs} {n : Nat}
mutual
theorem R.bel : ∀ (d : D) (v : V), R K α O H d v → bel α.length d = true
  | .non, v, r => rfl
  | .bl b, v, r => rfl
  | .int i, v, r => rfl
  | .str s, v, r => rfl
  | .tup ds, v, r => by
    simp only [R] at r
    obtain ⟨a, xs, _, _, q⟩ := r
    simp only [F.bel]
    exact RL.bels ds xs q
  | .rol ds, v, r => by
    simp only [R] at r
    obtain ⟨a, xs, _, _, q⟩ := r
    simp only [F.bel]
    exact RL.bels ds xs q
  | .scr ds, v, r => by
    simp only [R] at r
    obtain ⟨a, xs, _, _, q⟩ := r
    simp only [F.bel]
    exact RL.bels ds xs q
  | .ref n, v, r => by
    simp only [R] at r
    obtain ⟨a, _, e⟩ := r
    simp only [F.bel]
    exact decide_eq_true (List.getElem?_eq_some_iff.mp e).1
theorem RL.bels : ∀ (ds : List D) (xs : List V), RL K α O H ds xs → bels α.length ds = true
  | [], xs, r => rfl
  | d :: ds, xs, r => by
    obtain ⟨x, q, e, r1, r2⟩ := r.inv
    simp only [F.bels, R.bel d x r1, RL.bels ds q r2, Bool.and_self]
end
theorem RP.bels : ∀ (kvs : List (D × D)) (ps : List (Key × V)), RP K α O H kvs ps → bels α.length (kvs.map (·.2)) = true
  | [], _, _ => rfl
  | kd :: r, ps, q => by
    obtain ⟨k, x, q', e, _, r1, r2⟩ := q
    simp only [List.map_cons, F.bels, R.bel _ _ r1, RP.bels r q' r2, Bool.and_self]
theorem COk.cbel {c : Cell} {a : Addr} (q : COk K α O H c a) : cbel α.length c = true := by
  cases c with
  | lst ds => obtain ⟨xs, _, r⟩ := q; exact RL.bels ds xs r
  | dct kvs => obtain ⟨xs, _, r⟩ := q; exact RP.bels kvs xs r
mutual
theorem R.cut : ∀ (d : D) (v : V), F.bel n d = true → R K α O H d v → R K (α.take n) O H d v
  | .non, v, b, r => by simpa only [R] using r
  | .bl b, v, b', r => by simpa only [R] using r
  | .int i, v, b, r => by simpa only [R] using r
  | .str s, v, b, r => by simpa only [R] using r
  | .tup ds, v, b, r => by
    simp only [R] at r ⊢
    obtain ⟨a, xs, e, p, q⟩ := r
    simp only [F.bel] at b
    exact ⟨a, xs, e, p.imp (fun z => ⟨z.1, fun m => z.2.1 (List.mem_of_mem_take m), z.2.2⟩) id, RL.cut ds xs b q⟩
  | .rol ds, v, b, r => by
    simp only [R] at r ⊢
    obtain ⟨a, xs, e, p, q⟩ := r
    simp only [F.bel] at b
    exact ⟨a, xs, e, ⟨p.1, fun m => p.2.1 (List.mem_of_mem_take m), p.2.2⟩, RL.cut ds xs b q⟩
  | .scr ds, v, b, r => by
    simp only [R] at r ⊢
    obtain ⟨a, xs, e, p, q⟩ := r
    simp only [F.bel] at b
    exact ⟨a, xs, e, p.imp (fun z => ⟨z.1, fun m => z.2.1 (List.mem_of_mem_take m), z.2.2⟩) id, RL.cut ds xs b q⟩
  | .ref m, v, b, r => by
    simp only [R] at r ⊢
    obtain ⟨a, e, p⟩ := r
    simp only [F.bel, decide_eq_true_eq] at b
    exact ⟨a, e, by rw [List.getElem?_take_of_lt b]; exact p⟩
theorem RL.cut : ∀ (ds : List D) (xs : List V), F.bels n ds = true → RL K α O H ds xs → RL K (α.take n) O H ds xs
  | [], xs, b, r => by rw [r.invN]; exact RL.nil
  | d :: ds, xs, b, r => by
    obtain ⟨x, q, e, r1, r2⟩ := r.inv
    simp only [F.bels, Bool.and_eq_true] at b
    subst e
    exact RL.cons (R.cut d x b.1 r1) (RL.cut ds q b.2 r2)
end
theorem RP.cut : ∀ (kvs : List (D × D)) (ps : List (Key × V)), F.bels n (kvs.map (·.2)) = true → RP K α O H kvs ps → RP K (α.take n) O H kvs ps
  | [], _, _, q => q
  | kd :: r, ps, b, q => by
    obtain ⟨k, x, q', e, e2, r1, r2⟩ := q
    simp only [List.map_cons, F.bels, Bool.and_eq_true] at b
    exact ⟨k, x, q', e, e2, R.cut _ _ b.1 r1, RP.cut r q' b.2 r2⟩
theorem COk.cut {c : Cell} {a : Addr} (b : F.cbel n c = true) (q : COk K α O H c a) : COk K (α.take n) O H c a := by
  cases c with
  | lst ds => obtain ⟨xs, e, r⟩ := q; exact ⟨xs, e, RL.cut ds xs b r⟩
  | dct kvs => obtain ⟨xs, e, r⟩ := q; exact ⟨xs, e, RP.cut kvs xs b r⟩
theorem HRel.cut (r : HRel K α' O' H' h') (le : n ≤ h'.length) (b : ∀ (i : Nat) c, i < n → h'[i]? = some c → F.cbel n c = true) : HRel K (α'.take n) O' H' (h'.take n) :=
  ⟨by simp [r.len], r.nd.sublist (List.take_sublist _ _), fun i c a e1 e2 => by
    have hi : i < n := by
      have := (List.getElem?_eq_some_iff.mp e1).1
      simp at this
      omega
    rw [List.getElem?_take_of_lt hi] at e1 e2
    exact (r.cell i c a e1 e2).cut (b i c hi e1), fun a m => r.dis a (List.mem_of_mem_take m), r.trk⟩
theorem gc_le (s : Stp α H α' H') (r : HRel K α O H h) (r' : HRel K α' O' H' h') : h.length ≤ h'.length := by
  rw [← r.len, ← r'.len]
  rcases Nat.eq_zero_or_pos α.length with z | z
  · omega
  · have := s.pre (α.length - 1) α[α.length - 1] (List.getElem?_eq_getElem (by omega))
    have := (List.getElem?_eq_some_iff.mp this).1
    omega
theorem gc_rel (r : HRel K α O H h) (s : Stp α H α' H') {rv : RV} {x : V} (o : VOk K O H α' H' h' rv x) : ∃ α'', Stp α H α'' H' ∧ VOk K O H α'' H' (gc h h' rv) rv x := by
  unfold gc
  split
  · rename_i g
    obtain ⟨g1, g2⟩ := g
    have le := gc_le s r o.hr
    have cb : ∀ (i : Nat) c, i < h.length → h'[i]? = some c → F.cbel h.length c = true := fun i c hi e => by
      rcases g2 i c hi e with z | z
      · have hi' : i < α.length := by rw [r.len]; exact hi
        have ha : α[i]? = some α[i] := List.getElem?_eq_getElem hi'
        rw [← r.len]
        exact (r.cell i c _ z ha).cbel
      · exact z
    refine ⟨α'.take h.length, ⟨s.fr, fun i a e => ?_, fun a m => s.new a (List.mem_of_mem_take m)⟩, ?_⟩
    · have hi := (List.getElem?_eq_some_iff.mp e).1
      rw [List.getElem?_take_of_lt (by rw [← r.len]; exact hi)]
      exact s.pre i a e
    · cases o with
      | d r' q => exact .d (r'.cut le cb) (R.cut _ _ g1 q)
      | l n r' q => exact .l n (r'.cut le cb) (q.cut g1)
      | b r' q nm => exact .b (r'.cut le cb) (q.cut g1) fun m => nm (List.mem_of_mem_take m)
  · exact ⟨α', s, o⟩
theorem SRel.start : ∀ {ds : List D} {vs : List V} (m : Nat), RL K α O H ds vs → SRel K α O H (vs.map some ++ List.replicate m none) (ds.map Slot.v ++ List.replicate m .no) := fun {ds vs} m r => by
  have no : ∀ (i : Nat) c, (ds.map Slot.v ++ List.replicate m .no)[i]? ≠ some (.c c) := fun i c e => by
    rcases List.mem_append.mp (List.mem_of_getElem? e) with z | z
    · obtain ⟨_, _, q⟩ := List.mem_map.mp z
      cases q
    · cases (List.mem_replicate.mp z).2
  refine ⟨by simp [r.length], fun i d e => ?_, fun i c e => absurd e (no i c), fun i j c c' a e1 => absurd e1 (no i c)⟩
  by_cases hi : i < ds.length
  · rw [List.getElem?_append_left (by simpa using hi), List.getElem?_map, List.getElem?_eq_getElem hi] at e
    cases e
    obtain ⟨x, e2, q⟩ := r.get (List.getElem?_eq_getElem hi)
    exact ⟨x, by rw [List.getElem?_append_left (by rw [List.length_map, ← r.length]; exact hi), List.getElem?_map, e2]; rfl, q⟩
  · rw [List.getElem?_append_right (by simpa using hi), List.getElem?_replicate] at e
    split at e <;> cases e
end
/-- THE RULE for a def: its body over data -/
theorem fn_ok {g : GG} {x qual : Str} {st : Stmt} {f : Addr} {fd : FuncData} {N ps : List Str} {k : Nat} {b : DS} (F : Fun g.K x qual st f fd) (S : FnScope N ps (defScope st)) (hb : SS ⟨g, N, defScope st, k, fun _ => true⟩ (defBody st) b) :
    FnOk g.P g.w g.K g.mg g.base CX0 (k + 1) f fd ps (spM g.K ps.length (mOf N.length b)) := by
  refine F.ok S (fun vs H Q E q => ?_) (fun cdv A outer s H vs Q E hr q => ?_)
  · obtain ⟨α, O, h, ds, hr, rl, hl, _⟩ := q
    rw [← rl.length]; exact hl
  · obtain ⟨α, O, h, ds, hr1, rl, hl, rv, h', e, nb, k'⟩ := q
    let B : Bs := ⟨α, O, H, fun _ => False, hr1.trk, fun a o m => hr1.dis a m o⟩
    refine ⟨_, hb _ ⟨rfl, rfl, rfl, rfl, rfl, rfl, rfl, S.nd, rfl, hr, rfl, rfl⟩ B, ?_⟩
    have sr := SRel.start (N.length - ds.length) rl
    have hst : L2.start N vs = vs.map some ++ List.replicate (N.length - ds.length) none := by
      unfold L2.start
      rw [rl.length]
    have noown : ∀ a, ¬ Own (L2.start N vs) (ds.map Slot.v ++ List.replicate (N.length - ds.length) .no) a := fun a w => by
      obtain ⟨i, c, e, _⟩ := w
      rcases List.mem_append.mp (List.mem_of_getElem? e) with z | z
      · obtain ⟨_, _, q⟩ := List.mem_map.mp z
        cases q
      · cases (List.mem_replicate.mp z).2
    have br : BRel B α O H (L2.start N vs) (ds.map Slot.v ++ List.replicate (N.length - ds.length) .no) :=
      ⟨⟨fun a o e n _ => ⟨e, n⟩, fun _ _ e => e, fun _ m => .inl m, fun _ o => .inl o, fun _ o => .inr o, fun _ o e => ⟨o, e⟩⟩, fun a w => absurd w (noown a)⟩
    rw [← hst] at sr
    have fin : ∀ {α' : List Addr} {O' : Addr → Prop} {H' : Hp} {h2 : Hs} {rv : RV} {x : V}, RtOk g.K B α' O' H' h2 rv x → ∃ α'', Stp α H α'' H' ∧ VOk g.K O H α'' H' (gc h h2 rv) rv x := fun {α' O' H' h2 rv x} ok => by
      have st : ∀ {O'}, BH B α' O' H' → Stp α H α' H' := fun {O'} bh => ⟨fun a o e n => (bh.fr a o e n fun z => z).1, bh.pre, fun a m => (bh.new a m).imp id fun z => z.elim id False.elim⟩
      cases ok with
      | d bh r q =>
        refine gc_rel hr1 (st bh) (.d (r.less fun a o => ?_) (R.mv (Mv.less fun a o => ?_) _ _ q))
        · exact (bh.oo a o).elim False.elim id
        · exact (bh.oo a o).elim False.elim id
      | l bh r q o w =>
        have le : ∀ a', Ins O _ a' → O' a' := fun a' z => by
          rcases z with z | z
          · exact z ▸ o
          · exact (bh.oo a' z).elim False.elim id
        exact gc_rel hr1 (st bh) (.l (w.elim id False.elim) (r.less le) (q.less le))
    unfold mOf at e
    refine ⟨α, O, h, _, hr1, sr, br, ?_⟩
    split at e
    · rename_i rv2 h2 e2
      cases e
      refine ⟨_, e2, fun α' O' H' y ok => ?_⟩
      obtain ⟨α'', s2, o2⟩ := fin ok
      exact k' α'' H' y s2 o2
    · rename_i env2 h2 e2
      cases e
      refine ⟨_, e2, fun α' O' H' σ' r' s' b' => ?_⟩
      obtain ⟨α'', s2, o2⟩ := fin (x := .non) (rv := .d .non) (.d b'.bh r' R.non_mk)
      exact k' α'' H' .non s2 o2
    · cases e
end F
/-! F5: operators, comparisons, subscripts, slices over data. -/
namespace F
open PySem PySem.Spec PyProof.Rows L2

section
variable {K : PySem.W.Frag} {α α' : List Addr} {O O' : Addr → Prop} {H H' : Hp} {h : Hs}
/-- a list that is tracked, to be read -/
def lvT : RV → Hs → Option (List D)
  | .d (.rol ds), _ => some ds
  | .d (.ref n), h => match h[n]? with
    | some (.lst ds) => some ds
    | _ => none
  | .l (.lst ds), _ => some ds
  | .b (.lst ds), _ => some ds
  | _, _ => none
theorem lvT_eq {rv : RV} {x : V} {ds : List D} (hr : HRel K α O H h) (o : VAt K α O H rv x) (e : lvT rv h = some ds) : ∃ a xs, x = .ref a ∧ H a = some (.lst xs) ∧ RL K α O H ds xs := by
  unfold lvT at e
  split at e
  · cases e
    have r := o.isD
    simp only [R] at r
    obtain ⟨a, xs, e, p, q⟩ := r
    exact ⟨a, xs, e, p.1, q⟩
  · rename_i n h'
    split at e
    · rename_i es e1
      cases e
      obtain ⟨a, e2, e3, xs, q1, q2⟩ := o.isD.ref_cell hr e1
      exact ⟨a, xs, e2, q1, q2⟩
    · cases e
  · cases e
    cases o with
    | l q n => obtain ⟨xs, q1, q2⟩ := q; exact ⟨_, xs, rfl, q1, q2⟩
  · cases e
    cases o with
    | b q n => obtain ⟨xs, q1, q2⟩ := q; exact ⟨_, xs, rfl, q1, q2⟩
  · cases e
theorem S_len (s : List Nat) : (S s).length = s.length := by simp [S, Str.length]
theorem S_app (a b : List Nat) : S a ++ S b = S (a ++ b) := by
  apply TL.ext_tl
  rw [TL.tl_append]
theorem S_tl (a : List Nat) : TL.tl (S a) = a := rfl
theorem S_of (x : Str) : x = S (TL.tl x) := (TL.mk_tl x).symm
end

/-! ### + -/
def rAdd (K : PySem.W.Frag) : R2 := fun x y H Q => rI0 (fun i j => .int (i + j)) x y H Q ∨ (∃ i j, x = .str i ∧ y = .str j ∧ i.length + j.length ≤ sizeLine ∧ Q (.str (i ++ j)) H) ∨ rCatA K x y H Q ∨ rCat x y H Q
def gAdd : RV → RV → Hs → Option (RV × Hs)
  | .d (.int i), .d (.int j), h => some (.d (.int (i + j)), h)
  | .d (.str a), .d (.str b), h => if a.length + b.length ≤ sizeLine then some (.d (.str (a ++ b)), h) else none
  | .d (.tup a), .d (.tup b), h => if a.length + b.length ≤ sizeLine then some (.d (.tup (a ++ b)), h) else none
  | x, y, h => match lvT x h, lvT y h with
    | some a, some b => if a.length + b.length ≤ sizeLine then some (.l (.lst (a ++ b)), h) else none
    | _, _ => none
section
variable {Γ : G} {pos : Pos} {a b : Expr} {fa fb : DE}
theorem RL.nil_iff {K : PySem.W.Frag} {α : List Addr} {O : Addr → Prop} {H : Hp} {ds : List D} {xs : List V} (r : RL K α O H ds xs) : ds = [] ↔ xs = [] := by
  have := r.length
  constructor
  · intro e; subst e; exact List.eq_nil_of_length_eq_zero this.symm
  · intro e; subst e; exact List.eq_nil_of_length_eq_zero this
theorem oS_add {K : PySem.W.Frag} : OpS K (rAdd K) gAdd := fun α O H h x y rx ry rv h' Q hr ox oy e k => by
  unfold gAdd at e
  split at e
  · cases e
    exact .inl ⟨_, _, ox.isD.int_eq, oy.isD.int_eq, k _ α H (.refl _ _) (.d hr R.int_mk)⟩
  · rename_i a b h0
    split at e
    · rename_i hl
      cases e
      exact .inr (.inl ⟨_, _, ox.isD.str_eq, oy.isD.str_eq, by rw [S_len, S_len]; exact hl, by rw [S_app]; exact k _ α H (.refl _ _) (.d hr R.str_mk)⟩)
    · cases e
  · rename_i a b h0
    split at e
    · rename_i hl
      cases e
      obtain ⟨p, xs, e1, q1, r1⟩ := ox.isD.tup_sq
      obtain ⟨q, ys, e2, q2, r2⟩ := oy.isD.tup_sq
      refine .inr (.inr (.inl ⟨p, q, xs, ys, e1, e2, q1, q2, by rw [← r1.length, ← r2.length]; exact hl, fun z => ?_, fun z z2 => ?_, fun z z2 n hn => ?_⟩))
      · have ha := r1.nil_iff.mpr z
        refine k _ α H (.refl _ _) (.d hr ?_)
        rw [ha, List.nil_append, ← e2]
        exact oy.isD
      · have hb := r2.nil_iff.mpr z2
        refine k _ α H (.refl _ _) (.d hr ?_)
        rw [hb, List.append_nil, ← e1]
        exact ox.isD
      · exact k _ α _ (Stp.upd hr hn) (VOk.tup hr hn (r1.app r2))
    · cases e
  · split at e
    · rename_i a b ea eb
      split at e
      · rename_i hl
        cases e
        obtain ⟨p, xs, e1, q1, r1⟩ := lvT_eq hr ox ea
        obtain ⟨q, ys, e2, q2, r2⟩ := lvT_eq hr oy eb
        exact .inr (.inr (.inr ⟨p, q, xs, ys, e1, e2, q1, q2, by rw [← r1.length, ← r2.length]; exact hl, fun n hn => k _ α _ (Stp.upd hr hn) (VOk.fresh hr hn (r1.app r2))⟩))
      · cases e
    · cases e
theorem oR_add {X : Cx} (c : Γ.At X) : OpR X (binaryOp .Add) (rAdd Γ.g.K) := by
  have := (op_add (X := X)).or ((op_add_str (X := X)).or ((op_catA (X := X)).or (op_cat (X := X))))
  rw [← c.K]
  exact this
theorem se_add (ha : SE Γ a fa) (hb : SE Γ b fb) : SE Γ (.BinOp a .Add b pos) (eB gAdd fa fb) := se_bin (fun _ => oR_add) oS_add ha hb

/-! ### minus, times, div, mod, power -/
def gI (g : Int → Int → Option Int) : RV → RV → Hs → Option (RV × Hs)
  | .d (.int i), .d (.int j), h => match g i j with
    | some k => some (.d (.int k), h)
    | none => none
  | _, _, _ => none
theorem oS_I {K : PySem.W.Frag} {g : Int → Int → Option Int} {C : Int → Int → Prop} {f : Int → Int → V} (hg : ∀ i j k, g i j = some k → C i j ∧ f i j = .int k) : OpS K (rI C f) (gI g) := fun α O H h x y rx ry rv h' Q hr ox oy e k => by
  unfold gI at e
  split at e
  · split at e
    · rename_i z ez
      cases e
      obtain ⟨h1, h2⟩ := hg _ _ _ ez
      exact ⟨_, _, ox.isD.int_eq, oy.isD.int_eq, h1, by rw [h2]; exact k _ α H (.refl _ _) (.d hr R.int_mk)⟩
    · cases e
  · cases e
def sub' (i j : Int) : Option Int := some (i - j)
theorem se_sub (ha : SE Γ a fa) (hb : SE Γ b fb) : SE Γ (.BinOp a .Sub b pos) (eB (gI sub') fa fb) :=
  se_bin (r := rI (fun _ _ => True) fun i j => .int (i - j)) (fun X _ => (fun pins s σ H x y v u Q I rx ry ⟨i, j, e1, e2, _, q⟩ => op_sub pins s σ H x y v u Q I rx ry ⟨i, j, e1, e2, q⟩)) (oS_I fun i j k e => by cases e; exact ⟨trivial, rfl⟩) ha hb
/-- the divisor is not 0, below 2^100 in size -/
def CDivL (_ j : Int) : Prop := j ≠ 0 ∧ j.natAbs < 1267650600228229401496703205376
theorem log_small {n : Nat} (h : n < 1267650600228229401496703205376) : n.log2 < 9000 := by
  by_cases z : n = 0
  · subst z; decide
  · have h2 : n < 2 ^ 100 := by rw [show (2 : Nat) ^ 100 = 1267650600228229401496703205376 by decide]; exact h
    have := (Nat.log2_lt z).mpr h2
    omega
theorem op_fdivL {X : Cx} : OpR X (binaryOp .FloorDiv) (rI CDivL fun i j => .int (i.fdiv j)) :=
  opI fun i j t u s Q E hc q => PyProof.Rows.floordiv_int hc.1 q (Or.inl (PyProof.noPylong_of_log2 (log_small hc.2)))
def fdiv' (i j : Int) : Option Int := if j ≠ 0 ∧ j.natAbs < 1267650600228229401496703205376 then some (i.fdiv j) else none
theorem se_fdiv (ha : SE Γ a fa) (hb : SE Γ b fb) : SE Γ (.BinOp a .FloorDiv b pos) (eB (gI fdiv') fa fb) :=
  se_bin (fun X _ => op_fdivL) (oS_I fun i j k e => by
    unfold fdiv' at e
    split at e
    · rename_i h; cases e; exact ⟨h, rfl⟩
    · cases e) ha hb
def mod' (i j : Int) : Option Int := if j ≠ 0 then some (i.fmod j) else none
theorem se_mod (ha : SE Γ a fa) (hb : SE Γ b fb) : SE Γ (.BinOp a .Mod b pos) (eB (gI mod') fa fb) :=
  se_bin (fun X _ => op_modN) (oS_I fun i j k e => by
    unfold mod' at e
    split at e
    · rename_i h; cases e; exact ⟨h, rfl⟩
    · cases e) ha hb
/-- a power: few bits -/
def pow' (i j : Int) : Option Int := if 0 ≤ j ∧ ((Builtin.Int.intBits i : Nat) : Int) * j ≤ 100000 then some (i ^ j.toNat) else none
def CPw (i j : Int) : Prop := 0 ≤ j ∧ ((Builtin.Int.intBits i : Nat) : Int) * j ≤ 100000
theorem op_pw {X : Cx} : OpR X (binaryOp .Pow) (rI CPw fun i j => .int (i ^ j.toNat)) := opI fun i j t u s Q E hc q => pow_int hc.1 (by have := hc.2; omega) q
theorem se_pow (ha : SE Γ a fa) (hb : SE Γ b fb) : SE Γ (.BinOp a .Pow b pos) (eB (gI pow') fa fb) :=
  se_bin (fun X _ => op_pw) (oS_I fun i j k e => by
    unfold pow' at e
    split at e
    · rename_i h; cases e; exact ⟨h, rfl⟩
    · cases e) ha hb

/-! ### times -/
def mul' (i j : Int) : Option Int := if (-18446744073709551616 < i ∧ i < 18446744073709551616) ∨ (-18446744073709551616 < j ∧ j < 18446744073709551616) then some (i * j) else none
def rMul : R2 := fun x y H Q => rI CMul (fun i j => .int (i * j)) x y H Q ∨ (∃ z k, x = .str z ∧ y = .int k ∧ MulOk z k ∧ Q (.str (Txt.mul z k)) H) ∨ rRep x y H Q
theorem op_mulS {X : Cx} : OpR X (binaryOp .Mult) (fun x y H Q => ∃ z k, x = .str z ∧ y = .int k ∧ MulOk z k ∧ Q (.str (Txt.mul z k)) H) := by
  intro pins s σ H x y v u Q I rx ry h
  obtain ⟨z, k, rfl, rfl, hk, q⟩ := h
  obtain ⟨t, rfl⟩ := rx
  obtain ⟨t', rfl⟩ := ry
  refine PySem.SB.mul hk fun t2 k2 => ⟨.str (Txt.mul z k), H, ?_, ⟨_, rfl⟩, q⟩
  exact I.kept (t' := k2) fun b ob q => q
theorem foldl_app (xs : Array Nat) : ∀ (n : Nat) (acc : Array Nat), ((List.replicate n xs).foldl (· ++ ·) acc).toList = acc.toList ++ (List.replicate n xs.toList).flatten
  | 0, acc => by simp
  | n + 1, acc => by
    rw [List.replicate_succ, List.foldl_cons, foldl_app xs n]
    simp [List.replicate_succ]
/-- a text times an int -/
def rep (s : List Nat) (k : Int) : List Nat := (List.replicate k.toNat s).flatten
theorem mul_rep (s : List Nat) (k : Int) : Txt.mul (S s) k = S (rep s k) := by
  apply TL.ext_tl
  unfold Txt.mul rep
  by_cases h1 : k < 1
  · rw [if_pos h1]
    have : k.toNat = 0 := by omega
    rw [this]; rfl
  · rw [if_neg h1]
    by_cases h2 : (k == 1 || (S s).length == 0) = true
    · rw [if_pos h2]
      rw [Bool.or_eq_true] at h2
      rcases h2 with h2 | h2
      · have : k = 1 := by simpa using h2
        subst this
        simp [TL.tl]
      · have : s = [] := by
          rw [S_len] at h2
          simpa using h2
        subst this
        simp [TL.tl]
    · rw [if_neg h2]
      show ((List.replicate k.toNat (S s).cps).foldl (· ++ ·) #[]).toList = _
      rw [foldl_app]
      simp [TL.tl]
theorem notLongS {n : Nat} (h : n ≤ sizeLine) : Builtin.Str.tooLong n = false := by
  unfold Builtin.Str.tooLong
  exact decide_eq_false (Nat.not_lt.mpr h)
theorem mulOk_of {s : List Nat} {k : Int} (h1 : -9223372036854775808 ≤ k) (h2 : k < 9223372036854775808) (h : s.length * k.toNat ≤ sizeLine) : MulOk (S s) k := by
  have hl : sizeLine < 2 ^ 60 := by decide
  refine ⟨?_, fun g1 g2 => ?_, fun g1 g2 => ?_⟩
  · have e1 : decide (k < -(2 ^ 63 : Int)) = false := decide_eq_false (by omega)
    have e2 : decide (k ≥ 2 ^ 63) = false := decide_eq_false (by omega)
    rw [e1, e2, Bool.or_false]
  · rw [S_len]
    have hk : 0 < k := by omega
    have e : ((k.toNat : Nat) : Int) = k := by omega
    have h3 : ((s.length : Int) * k) ≤ 2 ^ 63 - 1 := by
      have : ((s.length * k.toNat : Nat) : Int) ≤ ((sizeLine : Nat) : Int) := by exact_mod_cast h
      rw [Int.natCast_mul, e] at this
      have h4 : ((sizeLine : Nat) : Int) < 2 ^ 60 := by exact_mod_cast hl
      omega
    have := Int.le_ediv_of_mul_le hk h3
    omega
  · rw [S_len]
    exact notLongS h
def gMul : RV → RV → Hs → Option (RV × Hs)
  | .d (.int i), .d (.int j), h => match mul' i j with
    | some k => some (.d (.int k), h)
    | none => none
  | .d (.str s), .d (.int k), h => if -9223372036854775808 ≤ k ∧ k < 9223372036854775808 ∧ s.length * k.toNat ≤ sizeLine then some (.d (.str (rep s k)), h) else none
  | x, .d (.int k), h => match lvT x h with
    | some a => if -9223372036854775808 ≤ k ∧ k < 9223372036854775808 ∧ a.length * k.toNat ≤ sizeLine then some (.l (.lst (List.replicate k.toNat a).flatten), h) else none
    | none => none
  | _, _, _ => none
theorem RL.rep {K : PySem.W.Frag} {α : List Addr} {O : Addr → Prop} {H : Hp} {ds : List D} {xs : List V} (r : RL K α O H ds xs) : ∀ n : Nat, RL K α O H (List.replicate n ds).flatten (List.replicate n xs).flatten
  | 0 => RL.nil
  | n + 1 => by
    rw [List.replicate_succ, List.replicate_succ, List.flatten_cons, List.flatten_cons]
    exact r.app (RL.rep r n)
theorem oS_mul {K : PySem.W.Frag} : OpS K rMul gMul := fun α O H h x y rx ry rv h' Q hr ox oy e k => by
  unfold gMul at e
  split at e
  · split at e
    · rename_i z ez
      cases e
      unfold mul' at ez
      split at ez
      · rename_i hc
        cases ez
        exact .inl ⟨_, _, ox.isD.int_eq, oy.isD.int_eq, by unfold CMul; omega, k _ α H (.refl _ _) (.d hr R.int_mk)⟩
      · cases ez
    · cases e
  · split at e
    · rename_i hc
      cases e
      exact .inr (.inl ⟨_, _, ox.isD.str_eq, oy.isD.int_eq, mulOk_of hc.1 hc.2.1 hc.2.2, by rw [mul_rep]; exact k _ α H (.refl _ _) (.d hr R.str_mk)⟩)
    · cases e
  · split at e
    · rename_i a ea
      split at e
      · rename_i hc
        cases e
        obtain ⟨p, xs, e1, q1, r1⟩ := lvT_eq hr ox ea
        exact .inr (.inr ⟨p, _, xs, e1, oy.isD.int_eq, q1, by omega, by omega, by rw [← r1.length]; exact hc.2.2, fun n hn => k _ α _ (Stp.upd hr hn) (VOk.fresh hr hn (r1.rep _))⟩)
      · cases e
    · cases e
  · cases e
theorem se_mul (ha : SE Γ a fa) (hb : SE Γ b fb) : SE Γ (.BinOp a .Mult b pos) (eB gMul fa fb) := se_bin (fun _ _ => op_mul.or (op_mulS.or op_rep)) oS_mul ha hb

/-! ### -x -/
def gNeg : RV → Hs → Option (RV × Hs)
  | .d (.int i), h => some (.d (.int (-i)), h)
  | _, _ => none
theorem uS_neg {K : PySem.W.Frag} : UnS K (rU fun i => .int (-i)) gNeg := fun α O H h x rx rv h' Q hr ox e k => by
  unfold gNeg at e
  split at e
  · cases e
    exact ⟨_, ox.isD.int_eq, k _ α H (.refl _ _) (.d hr R.int_mk)⟩
  · cases e
theorem se_neg (ha : SE Γ a fa) : SE Γ (.UnaryOp .USub a pos) (eU gNeg fa) := se_un (fun _ _ => un_neg) uS_neg ha
end
end F
/-! F6: comparisons, membership, subscripts, slices. -/
namespace F
open PySem PySem.Spec PyProof.Rows L2

/-! ### == and != -/
/-- scalars told apart at once -/
def scD : D → D → Option Bool
  | .int i, .int j => some (i == j)
  | .str a, .str b => some (a == b)
  | .bl a, .bl b => some (a == b)
  | .non, .non => some true
  | .non, .int _ => some false
  | .int _, .non => some false
  | .non, .bl _ => some false
  | .bl _, .non => some false
  | .non, .str _ => some false
  | .str _, .non => some false
  | .int _, .str _ => some false
  | .str _, .int _ => some false
  | .bl _, .str _ => some false
  | .str _, .bl _ => some false
  | _, _ => none
theorem S_inj {a b : List Nat} : S a = S b ↔ a = b := by simp [S]
theorem scD_ok {K : PySem.W.Frag} {α : List Addr} {O : Addr → Prop} {H : Hp} {d e : D} {x y : V} {b : Bool} (h : scD d e = some b) (rx : R K α O H d x) (ry : R K α O H e y) : scal x y = true ∧ decide (x = y) = b := by
  unfold scD at h
  split at h <;> first
    | (cases h; done)
    | (cases h; simp only [R] at rx ry; subst rx; subst ry; refine ⟨rfl, ?_⟩; first | (simp; done) | (rw [Bool.eq_iff_iff]; simp [S_inj]))
/-! the reading as pure data -/
mutual
def tP (rf : Nat → Option PyData) : D → Option PyData
  | .non => some .none
  | .bl b => some (.bool b)
  | .int i => some (.int i)
  | .str s => some (.str (S s))
  | .tup ds => match tPs rf ds with
    | some ps => some (.tuple ps)
    | none => none
  | .rol ds => match tPs rf ds with
    | some ps => some (.list ps)
    | none => none
  | .scr ds => match tPs rf ds with
    | some ps => some (.list ps)
    | none => none
  | .ref n => rf n
def tPs (rf : Nat → Option PyData) : List D → Option (List PyData)
  | [] => some []
  | d :: ds => match tP rf d, tPs rf ds with
    | some p, some ps => some (p :: ps)
    | _, _ => none
end
def tPh (h : Hs) : Nat → Nat → Option PyData
  | 0, _ => none
  | n + 1, i => match h[i]? with
    | some (.lst ds) => match tPs (tPh h n) ds with
      | some ps => some (.list ps)
      | none => none
    | _ => none
def tR (h : Hs) : RV → Option PyData
  | .d d => tP (tPh h 4) d
  | .l (.lst ds) => match tPs (tPh h 4) ds with
    | some ps => some (.list ps)
    | none => none
  | .b (.lst ds) => match tPs (tPh h 4) ds with
    | some ps => some (.list ps)
    | none => none
  | _ => none
section
variable {K : PySem.W.Frag} {α : List Addr} {O : Addr → Prop} {H : Hp} {h : Hs} {rf : Nat → Option PyData}
mutual
theorem tP_dp (hrf : ∀ n p x, rf n = some p → R K α O H (.ref n) x → Dp K H x p) : ∀ (d : D) (p : PyData) (x : V), tP rf d = some p → R K α O H d x → Dp K H x p
  | .non, p, x, e, r => by simp only [tP] at e; cases e; rw [r.non_eq]; exact .non
  | .bl b, p, x, e, r => by simp only [tP] at e; cases e; rw [r.bl_eq]; exact .bl b
  | .int i, p, x, e, r => by simp only [tP] at e; cases e; rw [r.int_eq]; exact .int i
  | .str s, p, x, e, r => by simp only [tP] at e; cases e; rw [r.str_eq]; exact .str _
  | .tup ds, p, x, e, r => by
    simp only [tP] at e
    split at e
    · rename_i ps e1
      cases e
      obtain ⟨a, xs, e2, q, r2⟩ := r.tup_sq
      rw [e2]
      exact .tup q (tPs_dp hrf ds ps xs e1 r2)
    · cases e
  | .rol ds, p, x, e, r => by
    simp only [tP] at e
    split at e
    · rename_i ps e1
      cases e
      obtain ⟨a, xs, e2, q, r2⟩ := r.rol_sq
      rw [e2]
      exact Dp.lst q (tPs_dp hrf ds ps xs e1 r2)
    · cases e
  | .scr ds, p, x, e, r => by
    simp only [tP] at e
    split at e
    · rename_i ps e1
      cases e
      obtain ⟨a, xs, e2, q, r2⟩ := r.scr_sq
      rw [e2]
      exact Dp.lst q (tPs_dp hrf ds ps xs e1 r2)
    · cases e
  | .ref n, p, x, e, r => hrf n p x (by simpa only [tP] using e) r
theorem tPs_dp (hrf : ∀ n p x, rf n = some p → R K α O H (.ref n) x → Dp K H x p) : ∀ (ds : List D) (ps : List PyData) (xs : List V), tPs rf ds = some ps → RL K α O H ds xs → DpAll K H xs ps
  | [], ps, xs, e, r => by simp only [tPs] at e; cases e; rw [r.invN]; exact .nil
  | d :: ds, ps, xs, e, r => by
    simp only [tPs] at e
    obtain ⟨x, q, e2, r1, r2⟩ := r.inv
    subst e2
    split at e
    · rename_i p' ps' e3 e4
      cases e
      exact .cons (tP_dp hrf d p' x e3 r1) (tPs_dp hrf ds ps' q e4 r2)
    · cases e
end
theorem sqL_some {a : Addr} {xs : List V} (e : H a = some (.lst xs)) : SqL K H a xs := .inl (.inl e)
theorem tPh_dp (hr : HRel K α O H h) : ∀ (m n : Nat) (p : PyData) (x : V), tPh h m n = some p → R K α O H (.ref n) x → Dp K H x p
  | 0, n, p, x, e, r => by cases e
  | m + 1, n, p, x, e, r => by
    simp only [tPh] at e
    split at e
    · rename_i ds e1
      split at e
      · rename_i ps e2
        cases e
        obtain ⟨a, e3, e4, xs, q1, q2⟩ := r.ref_cell hr e1
        rw [e3]
        exact Dp.lst (sqL_some q1) (tPs_dp (fun n p x e r => tPh_dp hr m n p x e r) ds ps xs e2 q2)
      · cases e
    · cases e
theorem tR_dp (hr : HRel K α O H h) {rv : RV} {p : PyData} {x : V} (e : tR h rv = some p) (o : VAt K α O H rv x) : Dp K H x p := by
  unfold tR at e
  split at e
  · exact tP_dp (fun n p x e r => tPh_dp hr 4 n p x e r) _ p x e o.isD
  · split at e
    · rename_i ps e2
      cases e
      cases o with
      | l q n => obtain ⟨xs, q1, q2⟩ := q; exact Dp.lst (sqL_some q1) (tPs_dp (fun n p x e r => tPh_dp hr 4 n p x e r) _ ps xs e2 q2)
    · cases e
  · split at e
    · rename_i ps e2
      cases e
      cases o with
      | b q n => obtain ⟨xs, q1, q2⟩ := q; exact Dp.lst (sqL_some q1) (tPs_dp (fun n p x e r => tPh_dp hr 4 n p x e r) _ ps xs e2 q2)
    · cases e
  · cases e
end
def gEqX (ng : Bool) (x y : RV) (h : Hs) : Option (RV × Hs) := match tR h x, tR h y with
  | some p, some q => if SeqAt.shaped p && SeqAt.shaped q then some (.d (.bl (if ng then !PyData.eqv p q else PyData.eqv p q)), h) else none
  | _, _ => none
def gEqN (ng : Bool) (x y : RV) (h : Hs) : Option (RV × Hs) := match x, y with
  | .d d, .d e => match scD d e with
    | some b => some (.d (.bl (if ng then !b else b)), h)
    | none => gEqX ng x y h
  | _, _ => gEqX ng x y h
def rEqN (K : PySem.W.Frag) (ng : Bool) : R2 := fun x y H Q => (scal x y = true ∧ Q (.bl (if ng then !decide (x = y) else decide (x = y))) H) ∨ (∃ d e, Dp K H x d ∧ Dp K H y e ∧ SeqAt.shaped d = true ∧ SeqAt.shaped e = true ∧ Q (.bl (if ng then !PyData.eqv d e else PyData.eqv d e)) H)
theorem oS_eq {K : PySem.W.Frag} {ng : Bool} : OpS K (rEqN K ng) (gEqN ng) := fun α O H h x y rx ry rv h' Q hr ox oy e k => by
  have gx : gEqX ng rx ry h = some (rv, h') → rEqN K ng x y H Q := fun e => by
    unfold gEqX at e
    split at e
    · rename_i p q ep eq
      split at e
      · rename_i hs
        cases e
        rw [Bool.and_eq_true] at hs
        exact .inr ⟨p, q, tR_dp hr ep ox, tR_dp hr eq oy, hs.1, hs.2, k _ α H (.refl _ _) (.d hr R.bl_mk)⟩
      · cases e
    · cases e
  unfold gEqN at e
  split at e
  · split at e
    · rename_i b eb
      cases e
      obtain ⟨h1, h2⟩ := scD_ok eb ox.isD oy.isD
      exact .inl ⟨h1, by rw [h2]; exact k _ α H (.refl _ _) (.d hr R.bl_mk)⟩
    · exact gx e
  · exact gx e
section
variable {Γ : G} {pos : Pos} {a b : Expr} {fa fb : DE}
theorem hu64 {X : Cx} (c : Γ.At X) : X.A.units + 64 < cLine := by have := c.room.un; omega
theorem oR_eq {X : Cx} (c : Γ.At X) : OpR X (compareOp .Eq) (rEqN Γ.g.K false) := by
  have := (op_eq (X := X)).or (op_eqD (X := X) (hu64 c))
  rw [← c.K]
  exact this
theorem oR_ne {X : Cx} (c : Γ.At X) : OpR X (compareOp .NotEq) (rEqN Γ.g.K true) := by
  have := (op_ne (X := X)).or (op_neD (X := X) (hu64 c))
  rw [← c.K]
  exact this
abbrev gEq := gEqN false
abbrev gNe := gEqN true

/-! ### order -/
def gOrd (fi : Int → Int → Bool) (fs : List Nat → List Nat → Bool) : RV → RV → Hs → Option (RV × Hs)
  | .d (.int i), .d (.int j), h => some (.d (.bl (fi i j)), h)
  | .d (.str i), .d (.str j), h => some (.d (.bl (fs i j)), h)
  | _, _, _ => none
theorem oS_ord {K : PySem.W.Frag} {fi : Int → Int → Bool} {fs : List Nat → List Nat → Bool} : OpS K (fun x y H Q => rI0 (fun i j => .bl (fi i j)) x y H Q ∨ (∃ i j, x = .str i ∧ y = .str j ∧ Q (.bl (fs i.cps.toList j.cps.toList)) H)) (gOrd fi fs) := fun α O H h x y rx ry rv h' Q hr ox oy e k => by
  unfold gOrd at e
  split at e
  · cases e
    exact .inl ⟨_, _, ox.isD.int_eq, oy.isD.int_eq, k _ α H (.refl _ _) (.d hr R.bl_mk)⟩
  · cases e
    exact .inr ⟨_, _, ox.isD.str_eq, oy.isD.str_eq, k _ α H (.refl _ _) (.d hr R.bl_mk)⟩
  · cases e
abbrev gLt := gOrd (fun i j => decide (i < j)) (fun i j => decide (i < j))
abbrev gLe := gOrd (fun i j => decide (i ≤ j)) (fun i j => !decide (j < i))
abbrev gGt := gOrd (fun i j => decide (j < i)) (fun i j => decide (j < i))
abbrev gGe := gOrd (fun i j => decide (j ≤ i)) (fun i j => !decide (i < j))
theorem oR_lt {X : Cx} : OpR X (compareOp .Lt) (fun x y H Q => rI0 (fun i j => .bl (decide (i < j))) x y H Q ∨ (∃ i j, x = .str i ∧ y = .str j ∧ Q (.bl (decide (i.cps.toList < j.cps.toList))) H)) := op_lt.or op_lt_str
theorem oR_le {X : Cx} : OpR X (compareOp .LtE) (fun x y H Q => rI0 (fun i j => .bl (decide (i ≤ j))) x y H Q ∨ (∃ i j, x = .str i ∧ y = .str j ∧ Q (.bl (!decide (j.cps.toList < i.cps.toList))) H)) := op_le.or op_le_str
theorem oR_gt {X : Cx} : OpR X (compareOp .Gt) (fun x y H Q => rI0 (fun i j => .bl (decide (j < i))) x y H Q ∨ (∃ i j, x = .str i ∧ y = .str j ∧ Q (.bl (decide (j.cps.toList < i.cps.toList))) H)) := op_gt.or op_gt_str
theorem oR_ge {X : Cx} : OpR X (compareOp .GtE) (fun x y H Q => rI0 (fun i j => .bl (decide (j ≤ i))) x y H Q ∨ (∃ i j, x = .str i ∧ y = .str j ∧ Q (.bl (!decide (i.cps.toList < j.cps.toList))) H)) := op_ge.or op_ge_str

/-! ### in, not in -/
def flD : D → Bool
  | .non => true
  | .bl _ => true
  | .int _ => true
  | .str _ => true
  | _ => false
def eqF : D → D → Bool
  | .non, .non => true
  | .bl a, .bl b => a == b
  | .bl a, .int b => (if a then 1 else 0) == b
  | .int a, .bl b => a == (if b then 1 else 0)
  | .int a, .int b => a == b
  | .str a, .str b => a == b
  | _, _ => false
theorem fl_R {K : PySem.W.Frag} {α : List Addr} {O : Addr → Prop} {H : Hp} {d : D} {x : V} (f : flD d = true) (r : R K α O H d x) : flatV x = true := by
  cases d <;> first
    | (simp only [R] at r; subst r; rfl)
    | cases f
theorem eqF_R {K : PySem.W.Frag} {α : List Addr} {O : Addr → Prop} {H : Hp} {d e : D} {x y : V} (f : flD d = true) (f' : flD e = true) (r : R K α O H d x) (r' : R K α O H e y) : eqV x y = eqF d e := by
  cases d <;> first
    | (cases f; done)
    | (simp only [R] at r; subst r
       cases e <;> first
         | (cases f'; done)
         | (simp only [R] at r'; subst r'; first | rfl | (simp only [eqV, eqF]; rw [Bool.eq_iff_iff]; simp [S_inj])))
def inF (d : D) (ds : List D) : Bool := ds.any fun e => eqF e d
theorem inF_R {K : PySem.W.Frag} {α : List Addr} {O : Addr → Prop} {H : Hp} {d : D} {x : V} (f : flD d = true) (r : R K α O H d x) : ∀ {ds : List D} {xs : List V}, ds.all flD = true → RL K α O H ds xs → xs.all flatV = true ∧ inV x xs = inF d ds
  | [], xs, _, q => by rw [q.invN]; exact ⟨rfl, rfl⟩
  | e :: ds, xs, g, q => by
    obtain ⟨y, ys, e2, r1, r2⟩ := q.inv
    subst e2
    rw [List.all_cons, Bool.and_eq_true] at g
    obtain ⟨h1, h2⟩ := inF_R f r g.2 r2
    refine ⟨by rw [List.all_cons, fl_R g.1 r1, h1]; rfl, ?_⟩
    unfold inV inF at h2 ⊢
    rw [List.any_cons, List.any_cons, h2, eqF_R g.1 f r1 r]
/-- a list or a tuple, to be read -/
def sq : RV → Hs → Option (List D)
  | .d (.tup ds), _ => some ds
  | rv, h => lv rv h
theorem sq_eq {K : PySem.W.Frag} {α : List Addr} {O : Addr → Prop} {H : Hp} {h : Hs} {rv : RV} {x : V} {ds : List D} (hr : HRel K α O H h) (o : VAt K α O H rv x) (e : sq rv h = some ds) : ∃ a xs, x = .ref a ∧ (SqL K H a xs ∨ SqT K H a xs) ∧ RL K α O H ds xs := by
  unfold sq at e
  split at e
  · cases e
    obtain ⟨a, xs, e, p, q⟩ := o.isD.tup_sq
    exact ⟨a, xs, e, .inr p, q⟩
  · obtain ⟨a, xs, e, p, q⟩ := lv_sq hr o e
    exact ⟨a, xs, e, .inl p, q⟩
/-- a text within a text -/
def occ (s z : List Nat) : Bool := !(Builtin.Str.occurrences (S z) (S s) 0 (S z).length 1).isEmpty
def gInN (ng : Bool) : RV → RV → Hs → Option (RV × Hs)
  | .d (.str [c]), .d (.str z), h => some (.d (.bl (if ng then !decide (c ∈ z) else decide (c ∈ z))), h)
  | .d (.str s), .d (.str z), h => some (.d (.bl (if ng then !occ s z else occ s z)), h)
  | .d d, y, h => match sq y h with
    | some ds => if flD d && ds.all flD then some (.d (.bl (if ng then !inF d ds else inF d ds)), h) else none
    | none => none
  | _, _, _ => none
abbrev gIn := gInN false
abbrev gNi := gInN true
def rInN (K : PySem.W.Frag) (ng : Bool) : R2 := fun x y H Q => (∃ (c : Nat) (z : Str), x = .str ⟨#[c]⟩ ∧ y = .str z ∧ Q (.bl (if ng then !decide (c ∈ z.cps.toList) else decide (c ∈ z.cps.toList))) H) ∨
  (∃ i j, x = .str i ∧ y = .str j ∧ Q (.bl (if ng then !(!(Builtin.Str.occurrences j i 0 j.length 1).isEmpty) else (!(Builtin.Str.occurrences j i 0 j.length 1).isEmpty))) H) ∨ rIn K ng x y H Q
theorem oS_in {K : PySem.W.Frag} {ng : Bool} : OpS K (rInN K ng) (gInN ng) := fun α O H h x y rx ry rv h' Q hr ox oy e k => by
  unfold gInN at e
  split at e
  · cases e
    exact .inl ⟨_, _, ox.isD.str_eq, oy.isD.str_eq, k _ α H (.refl _ _) (.d hr R.bl_mk)⟩
  · cases e
    exact .inr (.inl ⟨_, _, ox.isD.str_eq, oy.isD.str_eq, k _ α H (.refl _ _) (.d hr R.bl_mk)⟩)
  · split at e
    · rename_i ds ed
      split at e
      · rename_i hf
        cases e
        rw [Bool.and_eq_true] at hf
        obtain ⟨p, xs, e1, q1, r1⟩ := sq_eq hr oy ed
        obtain ⟨h1, h2⟩ := inF_R hf.1 ox.isD hf.2 r1
        refine .inr (.inr ⟨p, xs, e1, q1, fl_R hf.1 ox.isD, h1, ?_⟩)
        rw [h2]
        exact k _ α H (.refl _ _) (.d hr R.bl_mk)
      · cases e
    · cases e
  · cases e
theorem oR_in {X : Cx} (c : Γ.At X) : OpR X (compareOp .In) (rInN Γ.g.K false) := by
  have := (op_in_sign (X := X)).or ((op_in_str (X := X)).or (op_in_seq (X := X)))
  rw [← c.K]
  exact this
theorem oR_ni {X : Cx} (c : Γ.At X) : OpR X (compareOp .NotIn) (rInN Γ.g.K true) := by
  have := (op_notIn_sign (X := X)).or ((L2.op_notIn_str (X := X)).or (op_notIn_seq (X := X)))
  rw [← c.K]
  exact this

/-! ### is None, is not None -/
def isNon : RV → Bool
  | .d .non => true
  | _ => false
def gIsN (ng : Bool) : RV → RV → Hs → Option (RV × Hs)
  | x, .d .non, h => some (.d (.bl (if ng then !isNon x else isNon x)), h)
  | _, _, _ => none
abbrev gIs := gIsN false
abbrev gIsNot := gIsN true
theorem isNon_R {K : PySem.W.Frag} {α : List Addr} {O : Addr → Prop} {H : Hp} {rv : RV} {x : V} (o : VAt K α O H rv x) : decide (x = .non) = isNon rv := by
  cases o with
  | l q n => rfl
  | b q n => rfl
  | @d d x r =>
    cases d with
    | non => simp only [R] at r; subst r; rfl
    | bl b => simp only [R] at r; subst r; rfl
    | int i => simp only [R] at r; subst r; rfl
    | str s => simp only [R] at r; subst r; rfl
    | tup ds => simp only [R] at r; obtain ⟨a, xs, e, _⟩ := r; subst e; rfl
    | rol ds => simp only [R] at r; obtain ⟨a, xs, e, _⟩ := r; subst e; rfl
    | scr ds => simp only [R] at r; obtain ⟨a, xs, e, _⟩ := r; subst e; rfl
    | ref n => simp only [R] at r; obtain ⟨a, e, _⟩ := r; subst e; rfl
theorem oS_is {K : PySem.W.Frag} {ng : Bool} : OpS K (fun x y H Q => y = .non ∧ Q (.bl (if ng then !decide (x = .non) else decide (x = .non))) H) (gIsN ng) := fun α O H h x y rx ry rv h' Q hr ox oy e k => by
  unfold gIsN at e
  split at e
  · cases e
    refine ⟨oy.isD.non_eq, ?_⟩
    rw [isNon_R ox]
    exact k _ α H (.refl _ _) (.d hr R.bl_mk)
  · cases e
theorem oR_is {X : Cx} : OpR X (compareOp .Is) (fun x y H Q => y = .non ∧ Q (.bl (if false then !decide (x = .non) else decide (x = .non))) H) := op_isN
theorem oR_isNot {X : Cx} : OpR X (compareOp .IsNot) (fun x y H Q => y = .non ∧ Q (.bl (if true then !decide (x = .non) else decide (x = .non))) H) := op_notN
end
end F
/-! F7: subscripts, slices, builtins, methods of texts. -/
namespace F
open PySem PySem.Spec PyProof.Rows L2

/-! ### subscripts -/
section
variable {K : PySem.W.Frag} {α α' : List Addr} {O O' : Addr → Prop} {H H' : Hp} {h : Hs}
theorem atI_R {ds : List D} {xs : List V} {i : Int} {d : D} (r : RL K α O H ds xs) (e : atI ds i = some d) : ∃ x, atI xs i = some x ∧ R K α O H d x := by
  unfold atI at e ⊢
  rw [← r.length]
  cases e1 : ixN ds.length i with
  | none => rw [e1] at e; cases e
  | some j =>
    rw [e1] at e
    exact r.get e
end
def gIx : RV → RV → Hs → Option (RV × Hs)
  | .d (.str s), .d (.int i), h => if s.length ≤ sizeLine then match atI s i with
    | some c => some (.d (.str [c]), h)
    | none => none
    else none
  | x, .d (.int i), h => match sq x h with
    | some ds => match atI ds i with
      | some d => some (.d d, h)
      | none => none
    | none => none
  | _, _, _ => none
theorem oS_ix {K : PySem.W.Frag} : OpS K (rIx K) gIx := fun α O H h x y rx ry rv h' Q hr ox oy e k => by
  unfold gIx at e
  split at e
  · split at e
    · rename_i hz
      split at e
      · rename_i c ec
        cases e
        exact .inr (.inr ⟨_, _, c, ox.isD.str_eq, oy.isD.int_eq, by rw [S_len]; exact hz, ec, k _ α H (.refl _ _) (.d hr R.str_mk)⟩)
      · cases e
    · cases e
  · split at e
    · rename_i ds ed
      split at e
      · rename_i d e1
        cases e
        obtain ⟨p, xs, e2, q, r⟩ := sq_eq hr ox ed
        obtain ⟨z, e3, rz⟩ := atI_R r e1
        rcases q with q | q
        · exact .inl ⟨p, xs, _, z, e2, oy.isD.int_eq, q, e3, k _ α H (.refl _ _) (.d hr rz)⟩
        · exact .inr (.inl ⟨p, xs, _, z, e2, oy.isD.int_eq, q, e3, k _ α H (.refl _ _) (.d hr rz)⟩)
      · cases e
    · cases e
  · cases e
section
variable {Γ : G} {pos p2 : Pos} {a b : Expr} {fa fb : DE}
theorem ix_of {X : Cx} (c : Γ.At X) : IxR X (rIx Γ.g.K) := by rw [← c.K]; exact ix_seq
theorem se_ix (ha : SE Γ a fa) (hb : SE Γ b fb) (hs : PlainIx b := by intro _ _; rfl) : SE Γ (.Subscript a b pos) (eB gIx fa fb) := fun X c =>
  PE.imp (pe_ix (ix_of c) (ha X c) (hb X c) hs) fun σ H Q q => tOp_imp oS_ix q

/-! ### slices -/
abbrev DO := Env → Hs → Option (Option Int × Hs)
def tO (K : PySem.W.Frag) (f : DO) : TO := fun σ H Q => ∃ α O h env, HRel K α O H h ∧ SRel K α O H σ env ∧ ∃ o h', f env h = some (o, h') ∧ ∀ α' H', Stp α H α' H' → HRel K α' O H' h' → Q o H'
def SO (Γ : G) (e : Option Expr) (f : DO) : Prop := ∀ X : Cx, Γ.At X → PO X e (tO Γ.g.K f)
theorem PO.imp {X : Cx} {e : Option Expr} {t u : TO} (h : PO X e t) (i : ∀ σ H Q, u σ H Q → t σ H Q) : PO X e u := ⟨fun pins s σ H Q I q => h.run pins s σ H Q I (i σ H Q q)⟩
def oN : DO := fun _ h => some (none, h)
def oI (f : DE) : DO := fun env h => match f env h with
  | some (.d (.int i), h1) => some (some i, h1)
  | _ => none
theorem so_none : SO Γ none oN := fun X c => PO.imp po_none fun σ H Q q => by
  obtain ⟨α, O, h, env, hr, sr, o, h', e, k⟩ := q
  cases e
  exact k α H (.refl _ _) hr
theorem so_some (ha : SE Γ a fa) : SO Γ (some a) (oI fa) := fun X c => PO.imp (po_some (ha X c)) fun σ H Q q => by
  obtain ⟨α, O, h, env, hr, sr, o, h', e, k⟩ := q
  unfold oI at e
  split at e
  · rename_i i h1 e1
    cases e
    refine ⟨α, O, h, env, hr, sr, _, _, e1, fun α1 H1 x s1 o1 => ?_⟩
    exact ⟨i, o1.isD.int_eq, k α1 H1 s1 o1.hr⟩
  · cases e
def cut {T : Type} (ds : List T) (lo hi : Option Int) : List T := (ds.drop (HT.sIx ds.length 0 lo)).take (HT.sIx ds.length ds.length hi - HT.sIx ds.length 0 lo)
theorem RL_cutR {K : PySem.W.Frag} {α : List Addr} {O : Addr → Prop} {H : Hp} {ds : List D} {xs : List V} (r : RL K α O H ds xs) (lo hi : Option Int) : RL K α O H (F.cut ds lo hi) (cutV xs lo hi) := by
  unfold cut cutV
  rw [← r.length]
  exact (r.drop _).take _
theorem cut_whole {T : Type} {ds : List T} {lo hi : Option Int} (h : HT.sIx ds.length 0 lo = 0 ∧ HT.sIx ds.length ds.length hi = ds.length) : cut ds lo hi = ds := by
  unfold cut
  rw [h.1, h.2]
  simp
theorem cutS_cut (s : List Nat) (lo hi : Option Int) : cutS (S s) lo hi = S (cut s lo hi) := by
  unfold cutS cut
  rw [S_len]
def gSl : RV → Option Int → Option Int → Hs → Option (RV × Hs)
  | .d (.str s), lo, hi, h => if s.length ≤ sizeLine then some (.d (.str (cut s lo hi)), h) else none
  | .d (.tup ds), lo, hi, h => some (.d (.tup (cut ds lo hi)), h)
  | x, lo, hi, h => match lv x h with
    | some ds => some (.l (.lst (cut ds lo hi)), h)
    | none => none
def eSl (fa : DE) (fl fu : DO) : DE := fun env h => match fa env h with
  | some (x, h1) => match fl env h1 with
    | some (lo, h2) => match fu env h2 with
      | some (hi, h3) => gSl x lo hi h3
      | none => none
    | none => none
  | none => none
def rSl (K : PySem.W.Frag) : V → Option Int → Option Int → Hp → VK → Prop := fun x lo hi H Q => rSlL K x lo hi H Q ∨ rSlA K x lo hi H Q ∨ rSlS x lo hi H Q
theorem sl_of {X : Cx} (c : Γ.At X) : SlR X (rSl Γ.g.K) := by
  rw [← c.K]
  exact sl_list.or (sl_tupA.or sl_str)
theorem oS_sl {K : PySem.W.Frag} {α : List Addr} {O : Addr → Prop} {H : Hp} {h h' : Hs} {x : V} {rx rv : RV} {lo hi : Option Int} {Q : VK} (hr : HRel K α O H h) (ox : VAt K α O H rx x) (e : gSl rx lo hi h = some (rv, h')) (k : ∀ z α' H', Stp α H α' H' → VOk K O H α' H' h' rv z → Q z H') : rSl K x lo hi H Q := by
  unfold gSl at e
  split at e
  · split at e
    · rename_i hz
      cases e
      exact .inr (.inr ⟨_, ox.isD.str_eq, by rw [S_len]; exact hz, by rw [cutS_cut]; exact k _ α H (.refl _ _) (.d hr R.str_mk)⟩)
    · cases e
  · rename_i ds _
    cases e
    obtain ⟨a, xs, e1, q, r⟩ := ox.isD.tup_sq
    refine .inr (.inl ⟨a, xs, e1, q, fun w => ?_, fun w p hp => ?_⟩)
    · rw [← r.length] at w
      refine k _ α H (.refl _ _) (.d hr ?_)
      rw [cut_whole w, ← e1]
      exact ox.isD
    · exact k _ α _ (Stp.upd hr hp) (VOk.tup hr hp (RL_cutR r lo hi))
  · split at e
    · rename_i ds ed
      cases e
      obtain ⟨a, xs, e1, q, r⟩ := lv_sq hr ox ed
      exact .inl ⟨a, xs, e1, q, fun p hp => k _ α _ (Stp.upd hr hp) (VOk.fresh hr hp (RL_cutR r lo hi))⟩
    · cases e
theorem se_slice {lo hi : Option Expr} {fl fu : DO} (ha : SE Γ a fa) (hl : SO Γ lo fl) (hu : SO Γ hi fu) : SE Γ (.Subscript a (.Slice lo hi none p2) pos) (eSl fa fl fu) := fun X c =>
  PE.imp (pe_slice (sl_of c) (ha X c) (hl X c) (hu X c)) fun σ H Q q => by
    obtain ⟨α, O, h, env, hr, sr, rv, h', e, k⟩ := q
    unfold eSl at e
    split at e
    · rename_i x1 h1 e1
      split at e
      · rename_i lo h2 e2
        split at e
        · rename_i hi h3 e3
          refine ⟨α, O, h, env, hr, sr, x1, h1, e1, fun α1 H1 x s1 o1 => ?_⟩
          refine ⟨α1, O, h1, env, o1.hr, sr.stp hr s1, lo, h2, e2, fun α2 H2 s2 r2 => ?_⟩
          refine ⟨α2, O, h2, env, r2, (sr.stp hr s1).stp o1.hr s2, hi, h3, e3, fun α3 H3 s3 r3 => ?_⟩
          exact oS_sl r3 ((o1.at_.stp s2).stp s3) e fun z α4 H4 s4 o4 => k α4 H4 z (s1.trans (s2.trans (s3.trans s4))) (o4.back (s1.trans (s2.trans s3)) r3)
        · cases e
      · cases e
    · cases e
end

/-! ### calls of builtins -/
def CallS (K : PySem.W.Frag) (r : List V → Hp → VK → Prop) (g : List RV → Hs → Option (RV × Hs)) : Prop :=
  ∀ α O H h xs rs rv h' (Q : VK), HRel K α O H h → VAts K α O H rs xs → g rs h = some (rv, h') → (∀ z α' H', Stp α H α' H' → VOk K O H α' H' h' rv z → Q z H') → r xs H Q
def eF (g : List RV → Hs → Option (RV × Hs)) (fa : DA) : DE := fun env h => match fa env h with
  | some (rs, h1) => g rs h1
  | none => none
theorem tCB_imp {K : PySem.W.Frag} {r : List V → Hp → VK → Prop} {g : List RV → Hs → Option (RV × Hs)} {fa : DA} (hs : CallS K r g) {σ : St} {H : Hp} {Q : VK} (q : tE K (eF g fa) σ H Q) : tCB r (tA K fa) σ H Q := by
  obtain ⟨α, O, h, env, hr, sr, rv, h', e, k⟩ := q
  unfold eF at e
  split at e
  · rename_i rs h1 e1
    refine ⟨α, O, h, env, hr, sr, rs, h1, e1, fun α1 H1 xs s1 r1 o1 => ?_⟩
    exact hs α1 O H1 h1 xs rs rv h' Q r1 o1 e fun z α2 H2 s2 o2 => k α2 H2 z (s1.trans s2) (o2.back s1 r1)
  · cases e
section
variable {Γ : G} {pos p p2 : Pos} {e : Expr} {es : List Expr} {fa : DA} {f : DE} {r : List V → Hp → VK → Prop} {g : List RV → Hs → Option (RV × Hs)} {x : Str} {id T : String}
theorem se_bcall (hc : ∀ X, Γ.At X → CallR X (.builtin id) r) (hs : CallS Γ.g.K r g) (ha : SA Γ (e :: es) fa) (hm : Γ.g.mg x = none) (hv : bootBuiltins x = some (.builtin id)) (hg : Γ.sc.names.lookup x = some .globalImplicit) (hn : x ≠ "__name__") (hdb : (x == ("__debug__" : Str)) = false)
    (he : ∀ env, starEach (e :: es) env = (false, eval e env) :: starEach es env) (hpl : ∀ env, (backTo pos (starEach es env)).any (·.1) = false) : SE Γ (.Call (.Name x p) (e :: es) [] pos) (eF g fa) := fun X c =>
  PE.imp (pe_callB (hc X c) (Gl.of c hg) (by rw [c.mg]; exact hm) hv (ha X c) hn hdb (he _) (hpl _)) fun σ H Q q => tCB_imp hs q
theorem se_tcall (hc : ∀ X, Γ.At X → CallR X (.type T) r) (hs : CallS Γ.g.K r g) (ha : SA Γ (e :: es) fa) (hm : Γ.g.mg x = none) (hv : bootBuiltins x = some (.type T)) (hg : Γ.sc.names.lookup x = some .globalImplicit) (hn : x ≠ "__name__") (hdb : (x == ("__debug__" : Str)) = false)
    (he : ∀ env, starEach (e :: es) env = (false, eval e env) :: starEach es env) (hpl : ∀ env, (backTo pos (starEach es env)).any (·.1) = false) : SE Γ (.Call (.Name x p) (e :: es) [] pos) (eF g fa) := fun X c =>
  PE.imp (pe_callTy (hc X c) (Gl.of c hg) (by rw [c.mg]; exact hm) hv (ha X c) hn hdb (he _) (hpl _)) fun σ H Q q => tCB_imp hs q
end

/-! len -/
def gLen : List RV → Hs → Option (RV × Hs)
  | [.d (.str s)], h => if s.length ≤ sizeLine then some (.d (.int s.length), h) else none
  | [x], h => match sq x h with
    | some ds => some (.d (.int ds.length), h)
    | none => none
  | _, _ => none
theorem cS_len {K : PySem.W.Frag} : CallS K (fun xs H Q => ∃ x n, xs = [x] ∧ LenV K x H n ∧ Q (.int n) H) gLen := fun α O H h xs rs rv h' Q hr o e k => by
  unfold gLen at e
  split at e
  · split at e
    · rename_i hz
      cases e
      obtain ⟨x, e1, o1⟩ := VAts1 o
      rw [e1, o1.isD.str_eq]
      exact ⟨_, _, rfl, ⟨by rw [S_len]; exact hz, rfl⟩, by rw [S_len]; exact k _ α H (.refl _ _) (.d hr R.int_mk)⟩
    · cases e
  · split at e
    · rename_i ds ed
      cases e
      obtain ⟨x, e1, o1⟩ := VAts1 o
      obtain ⟨p, ys, e2, q, r⟩ := sq_eq hr o1 ed
      rw [e1, e2]
      refine ⟨_, ys.length, rfl, ?_, by rw [← r.length]; exact k _ α H (.refl _ _) (.d hr R.int_mk)⟩
      rcases q with q | q
      · exact .inl ⟨ys, q, rfl⟩
      · exact .inr ⟨ys, q, rfl⟩
    · cases e
  · cases e
/-! abs, max, min of two ints -/
def gAbs : List RV → Hs → Option (RV × Hs)
  | [.d (.int i)], h => some (.d (.int (if i < 0 then -i else i)), h)
  | _, _ => none
theorem cS_abs {K : PySem.W.Frag} : CallS K (fun xs H Q => ∃ i, xs = [.int i] ∧ Q (.int (if i < 0 then -i else i)) H) gAbs := fun α O H h xs rs rv h' Q hr o e k => by
  unfold gAbs at e
  split at e
  · cases e
    obtain ⟨x, e1, o1⟩ := VAts1 o
    exact ⟨_, by rw [e1, o1.isD.int_eq], k _ α H (.refl _ _) (.d hr R.int_mk)⟩
  · cases e
def gMax2 : List RV → Hs → Option (RV × Hs)
  | [.d (.int i), .d (.int j)], h => some (.d (.int (if j > i then j else i)), h)
  | _, _ => none
def gMin2 : List RV → Hs → Option (RV × Hs)
  | [.d (.int i), .d (.int j)], h => some (.d (.int (if j < i then j else i)), h)
  | _, _ => none
theorem cS_max2 {K : PySem.W.Frag} : CallS K (fun xs H Q => ∃ i j, xs = [.int i, .int j] ∧ Q (.int (if j > i then j else i)) H) gMax2 := fun α O H h xs rs rv h' Q hr o e k => by
  unfold gMax2 at e
  split at e
  · cases e
    obtain ⟨x, y, e1, o1, o2⟩ := VAts2 o
    exact ⟨_, _, by rw [e1, o1.isD.int_eq, o2.isD.int_eq], k _ α H (.refl _ _) (.d hr R.int_mk)⟩
  · cases e
theorem cS_min2 {K : PySem.W.Frag} : CallS K (fun xs H Q => ∃ i j, xs = [.int i, .int j] ∧ Q (.int (if j < i then j else i)) H) gMin2 := fun α O H h xs rs rv h' Q hr o e k => by
  unfold gMin2 at e
  split at e
  · cases e
    obtain ⟨x, y, e1, o1, o2⟩ := VAts2 o
    exact ⟨_, _, by rw [e1, o1.isD.int_eq, o2.isD.int_eq], k _ α H (.refl _ _) (.d hr R.int_mk)⟩
  · cases e
/-! int(x), str(i) -/
def gInt : List RV → Hs → Option (RV × Hs)
  | [.d (.int i)], h => some (.d (.int i), h)
  | [.d (.bl b)], h => some (.d (.int (if b then 1 else 0)), h)
  | [.d (.str s)], h => if s.length ≤ 640 then match PySem.intText? (S s) with
    | some n => some (.d (.int n), h)
    | none => none
    else none
  | _, _ => none
theorem cS_int {K : PySem.W.Frag} : CallS K (fun xs H Q => ((∃ i, xs = [.int i] ∧ Q (.int i) H) ∨ ∃ k, xs = [.bl k] ∧ Q (.int (if k then 1 else 0)) H) ∨ ∃ a n, xs = [.str a] ∧ PySem.intText? a = some n ∧ a.length ≤ 640 ∧ Q (.int n) H) gInt := fun α O H h xs rs rv h' Q hr o e k => by
  unfold gInt at e
  split at e
  · cases e
    obtain ⟨x, e1, o1⟩ := VAts1 o
    exact .inl (.inl ⟨_, by rw [e1, o1.isD.int_eq], k _ α H (.refl _ _) (.d hr R.int_mk)⟩)
  · cases e
    obtain ⟨x, e1, o1⟩ := VAts1 o
    exact .inl (.inr ⟨_, by rw [e1, o1.isD.bl_eq], k _ α H (.refl _ _) (.d hr R.int_mk)⟩)
  · split at e
    · rename_i hz
      split at e
      · rename_i n en
        cases e
        obtain ⟨x, e1, o1⟩ := VAts1 o
        exact .inr ⟨_, n, by rw [e1, o1.isD.str_eq], en, by rw [S_len]; exact hz, k _ α H (.refl _ _) (.d hr R.int_mk)⟩
      · cases e
    · cases e
  · cases e
/-- the figures of an int -/
def fig (i : Int) : List Nat := (toString i).toList.map Char.toNat
def gStr : List RV → Hs → Option (RV × Hs)
  | [.d (.int i)], h => if i.natAbs.log2 < 1920 then some (.d (.str (fig i)), h) else none
  | _, _ => none
theorem fig_S (i : Int) : (Str.ofString (toString i)) = S (fig i) := by
  apply TL.ext_tl
  rw [TL.tl_ofString]
  rfl
theorem cS_str {K : PySem.W.Frag} : CallS K (fun xs H Q => ∃ i, xs = [.int i] ∧ i.natAbs.log2 < 1920 ∧ Q (.str (toString i)) H) gStr := fun α O H h xs rs rv h' Q hr o e k => by
  unfold gStr at e
  split at e
  · split at e
    · rename_i hz
      cases e
      obtain ⟨x, e1, o1⟩ := VAts1 o
      refine ⟨_, by rw [e1, o1.isD.int_eq], hz, ?_⟩
      have := k (.str (S (fig _))) α H (.refl _ _) (.d hr R.str_mk)
      rw [← fig_S] at this
      exact this
    · cases e
  · cases e
/-! all, any of a list of bools -/
def bls : List D → Option (List Bool)
  | [] => some []
  | .bl b :: r => match bls r with
    | some bs => some (b :: bs)
    | none => none
  | _ :: _ => none
theorem bls_R {K : PySem.W.Frag} {α : List Addr} {O : Addr → Prop} {H : Hp} : ∀ {ds : List D} {bs : List Bool} {xs : List V}, bls ds = some bs → RL K α O H ds xs → xs = bs.map V.bl
  | [], bs, xs, e, r => by cases e; exact r.invN
  | d :: ds, bs, xs, e, r => by
    obtain ⟨x, q, e1, r1, r2⟩ := r.inv
    subst e1
    unfold bls at e
    split at e
    · rename_i h; cases h
    · rename_i b ds' h
      cases h
      split at e
      · rename_i bs' e2
        cases e
        rw [List.map_cons, ← bls_R e2 r2, r1.bl_eq]
      · cases e
    · cases e
def gQu (q : List Bool → Bool) : List RV → Hs → Option (RV × Hs)
  | [x], h => match lv x h with
    | some ds => match bls ds with
      | some bs => some (.d (.bl (q bs)), h)
      | none => none
    | none => none
  | _, _ => none
theorem cS_qu {K : PySem.W.Frag} {q : List Bool → Bool} : CallS K (fun vs H Q => ∃ (a : Addr) (bs : List Bool), vs = [V.ref a] ∧ SqL K H a (bs.map V.bl) ∧ Q (.bl (q bs)) H) (gQu q) := fun α O H h xs rs rv h' Q hr o e k => by
  unfold gQu at e
  split at e
  · split at e
    · rename_i ds ed
      split at e
      · rename_i bs eb
        cases e
        obtain ⟨x, e1, o1⟩ := VAts1 o
        obtain ⟨p, ys, e2, qq, r⟩ := lv_sq hr o1 ed
        rw [bls_R eb r] at qq
        exact ⟨p, bs, by rw [e1, e2], qq, k _ α H (.refl _ _) (.d hr R.bl_mk)⟩
      · cases e
    · cases e
  · cases e
abbrev gAllB := gQu fun bs => bs.all id
abbrev gAnyB := gQu fun bs => bs.any id
/-! list(x), tuple(x) -/
def gLstOf : List RV → Hs → Option (RV × Hs)
  | [x], h => match sq x h with
    | some ds => some (.l (.lst ds), h)
    | none => none
  | _, _ => none
theorem cS_listOf {K : PySem.W.Frag} : CallS K (fun xs H Q => ∃ p ys, xs = [.ref p] ∧ (SqL K H p ys ∨ SqT K H p ys) ∧ ∀ l, H l = none → Q (.ref l) (upd H l (.lst ys))) gLstOf := fun α O H h xs rs rv h' Q hr o e k => by
  unfold gLstOf at e
  split at e
  · split at e
    · rename_i ds ed
      cases e
      obtain ⟨x, e1, o1⟩ := VAts1 o
      obtain ⟨p, ys, e2, q, r⟩ := sq_eq hr o1 ed
      exact ⟨p, ys, by rw [e1, e2], q, fun l hl => k _ α _ (Stp.upd hr hl) (VOk.fresh hr hl r)⟩
    · cases e
  · cases e
def gTupOf : List RV → Hs → Option (RV × Hs)
  | [.d (.tup ds)], h => some (.d (.tup ds), h)
  | [x], h => match lv x h with
    | some ds => some (.d (.tup ds), h)
    | none => none
  | _, _ => none
theorem cS_tupOf {K : PySem.W.Frag} : CallS K (fun xs H Q => ∃ p ys, xs = [.ref p] ∧ ((SqL K H p ys ∧ ∀ l, H l = none → Q (.ref l) (upd H l (.tup ys))) ∨ (SqT K H p ys ∧ Q (.ref p) H))) gTupOf := fun α O H h xs rs rv h' Q hr o e k => by
  unfold gTupOf at e
  split at e
  · cases e
    obtain ⟨x, e1, o1⟩ := VAts1 o
    obtain ⟨p, ys, e2, q, r⟩ := o1.isD.tup_sq
    refine ⟨p, ys, by rw [e1, e2], .inr ⟨q, k _ α H (.refl _ _) (.d hr ?_)⟩⟩
    rw [← e2]; exact o1.isD
  · split at e
    · rename_i ds ed
      cases e
      obtain ⟨x, e1, o1⟩ := VAts1 o
      obtain ⟨p, ys, e2, q, r⟩ := lv_sq hr o1 ed
      exact ⟨p, ys, by rw [e1, e2], .inl ⟨q, fun l hl => k _ α _ (Stp.upd hr hl) (VOk.tup hr hl r)⟩⟩
    · cases e
  · cases e
section
variable {Γ : G} {pos p p2 p3 p4 : Pos} {e : Expr} {es : List Expr} {fa : DA} {f : DE}
theorem cR_len {X : Cx} (c : Γ.At X) : CallR X (.builtin "len") (fun xs H Q => ∃ x n, xs = [x] ∧ LenV Γ.g.K x H n ∧ Q (.int n) H) := by rw [← c.K]; exact call_len
theorem cR_int {X : Cx} : CallR X (.type "int") (fun xs H Q => ((∃ i, xs = [.int i] ∧ Q (.int i) H) ∨ ∃ k, xs = [.bl k] ∧ Q (.int (if k then 1 else 0)) H) ∨ ∃ a n, xs = [.str a] ∧ PySem.intText? a = some n ∧ a.length ≤ 640 ∧ Q (.int n) H) := call_int1.or call_int_str
theorem cR_all {X : Cx} (c : Γ.At X) : CallR X (.builtin "all") (fun vs H Q => ∃ (a : Addr) (bs : List Bool), vs = [V.ref a] ∧ SqL Γ.g.K H a (bs.map V.bl) ∧ Q (.bl (bs.all id)) H) := by rw [← c.K]; exact cr_all c.calm
theorem cR_any {X : Cx} (c : Γ.At X) : CallR X (.builtin "any") (fun vs H Q => ∃ (a : Addr) (bs : List Bool), vs = [V.ref a] ∧ SqL Γ.g.K H a (bs.map V.bl) ∧ Q (.bl (bs.any id)) H) := by rw [← c.K]; exact cr_any c.calm
theorem cR_listOf {X : Cx} (c : Γ.At X) : CallR X (.type "list") (fun xs H Q => ∃ p ys, xs = [.ref p] ∧ (SqL Γ.g.K H p ys ∨ SqT Γ.g.K H p ys) ∧ ∀ l, H l = none → Q (.ref l) (upd H l (.lst ys))) := by rw [← c.K]; exact call_list_of
theorem cR_tupOf {X : Cx} (c : Γ.At X) : CallR X (.type "tuple") (fun xs H Q => ∃ p ys, xs = [.ref p] ∧ ((SqL Γ.g.K H p ys ∧ ∀ l, H l = none → Q (.ref l) (upd H l (.tup ys))) ∨ (SqT Γ.g.K H p ys ∧ Q (.ref p) H))) := by rw [← c.K]; exact call_tuple_of
variable (ha : SA Γ (e :: es) fa)
theorem se_len (hm : Γ.g.mg "len" = none) (ha : SA Γ (e :: es) fa) (hg : Γ.sc.names.lookup ("len" : Str) = some .globalImplicit := by rfl) (he : ∀ env, starEach (e :: es) env = (false, eval e env) :: starEach es env := by intro _; rfl) (hpl : ∀ env, (backTo pos (starEach es env)).any (·.1) = false := by intro _; rfl) : SE Γ (.Call (.Name "len" p) (e :: es) [] pos) (eF gLen fa) := se_bcall (fun _ => cR_len) cS_len ha hm (by decide +kernel) hg (by decide) (by decide) he hpl
theorem se_abs (hm : Γ.g.mg "abs" = none) (ha : SA Γ (e :: es) fa) (hg : Γ.sc.names.lookup ("abs" : Str) = some .globalImplicit := by rfl) (he : ∀ env, starEach (e :: es) env = (false, eval e env) :: starEach es env := by intro _; rfl) (hpl : ∀ env, (backTo pos (starEach es env)).any (·.1) = false := by intro _; rfl) : SE Γ (.Call (.Name "abs" p) (e :: es) [] pos) (eF gAbs fa) := se_bcall (fun _ _ => call_abs) cS_abs ha hm (by decide +kernel) hg (by decide) (by decide) he hpl
theorem se_max2 (hm : Γ.g.mg "max" = none) (ha : SA Γ (e :: es) fa) (hg : Γ.sc.names.lookup ("max" : Str) = some .globalImplicit := by rfl) (he : ∀ env, starEach (e :: es) env = (false, eval e env) :: starEach es env := by intro _; rfl) (hpl : ∀ env, (backTo pos (starEach es env)).any (·.1) = false := by intro _; rfl) : SE Γ (.Call (.Name "max" p) (e :: es) [] pos) (eF gMax2 fa) := se_bcall (fun _ c => call_max2 c.calm) cS_max2 ha hm (by decide +kernel) hg (by decide) (by decide) he hpl
theorem se_min2 (hm : Γ.g.mg "min" = none) (ha : SA Γ (e :: es) fa) (hg : Γ.sc.names.lookup ("min" : Str) = some .globalImplicit := by rfl) (he : ∀ env, starEach (e :: es) env = (false, eval e env) :: starEach es env := by intro _; rfl) (hpl : ∀ env, (backTo pos (starEach es env)).any (·.1) = false := by intro _; rfl) : SE Γ (.Call (.Name "min" p) (e :: es) [] pos) (eF gMin2 fa) := se_bcall (fun _ c => call_min2 c.calm) cS_min2 ha hm (by decide +kernel) hg (by decide) (by decide) he hpl
theorem se_intF (hm : Γ.g.mg "int" = none) (ha : SA Γ (e :: es) fa) (hg : Γ.sc.names.lookup ("int" : Str) = some .globalImplicit := by rfl) (he : ∀ env, starEach (e :: es) env = (false, eval e env) :: starEach es env := by intro _; rfl) (hpl : ∀ env, (backTo pos (starEach es env)).any (·.1) = false := by intro _; rfl) : SE Γ (.Call (.Name "int" p) (e :: es) [] pos) (eF gInt fa) := se_tcall (fun _ _ => cR_int) cS_int ha hm (by decide +kernel) hg (by decide) (by decide) he hpl
theorem se_strF (hm : Γ.g.mg "str" = none) (ha : SA Γ (e :: es) fa) (hg : Γ.sc.names.lookup ("str" : Str) = some .globalImplicit := by rfl) (he : ∀ env, starEach (e :: es) env = (false, eval e env) :: starEach es env := by intro _; rfl) (hpl : ∀ env, (backTo pos (starEach es env)).any (·.1) = false := by intro _; rfl) : SE Γ (.Call (.Name "str" p) (e :: es) [] pos) (eF gStr fa) := se_tcall (fun _ _ => call_str_int) cS_str ha hm (by decide +kernel) hg (by decide) (by decide) he hpl
theorem se_all (hm : Γ.g.mg "all" = none) (ha : SA Γ (e :: es) fa) (hg : Γ.sc.names.lookup ("all" : Str) = some .globalImplicit := by rfl) (he : ∀ env, starEach (e :: es) env = (false, eval e env) :: starEach es env := by intro _; rfl) (hpl : ∀ env, (backTo pos (starEach es env)).any (·.1) = false := by intro _; rfl) : SE Γ (.Call (.Name "all" p) (e :: es) [] pos) (eF gAllB fa) := se_bcall (fun _ => cR_all) cS_qu ha hm (by decide +kernel) hg (by decide) (by decide) he hpl
theorem se_any (hm : Γ.g.mg "any" = none) (ha : SA Γ (e :: es) fa) (hg : Γ.sc.names.lookup ("any" : Str) = some .globalImplicit := by rfl) (he : ∀ env, starEach (e :: es) env = (false, eval e env) :: starEach es env := by intro _; rfl) (hpl : ∀ env, (backTo pos (starEach es env)).any (·.1) = false := by intro _; rfl) : SE Γ (.Call (.Name "any" p) (e :: es) [] pos) (eF gAnyB fa) := se_bcall (fun _ => cR_any) cS_qu ha hm (by decide +kernel) hg (by decide) (by decide) he hpl
theorem se_listF (hm : Γ.g.mg "list" = none) (ha : SA Γ (e :: es) fa) (hg : Γ.sc.names.lookup ("list" : Str) = some .globalImplicit := by rfl) (he : ∀ env, starEach (e :: es) env = (false, eval e env) :: starEach es env := by intro _; rfl) (hpl : ∀ env, (backTo pos (starEach es env)).any (·.1) = false := by intro _; rfl) : SE Γ (.Call (.Name "list" p) (e :: es) [] pos) (eF gLstOf fa) := se_tcall (fun _ => cR_listOf) cS_listOf ha hm (by decide +kernel) hg (by decide) (by decide) he hpl
theorem se_tupF (hm : Γ.g.mg "tuple" = none) (ha : SA Γ (e :: es) fa) (hg : Γ.sc.names.lookup ("tuple" : Str) = some .globalImplicit := by rfl) (he : ∀ env, starEach (e :: es) env = (false, eval e env) :: starEach es env := by intro _; rfl) (hpl : ∀ env, (backTo pos (starEach es env)).any (·.1) = false := by intro _; rfl) : SE Γ (.Call (.Name "tuple" p) (e :: es) [] pos) (eF gTupOf fa) := se_tcall (fun _ => cR_tupOf) cS_tupOf ha hm (by decide +kernel) hg (by decide) (by decide) he hpl
end
end F
/-! F8: isinstance, methods of texts, lists that are written, dicts of the module. -/
namespace F
open PySem PySem.Spec PyProof.Rows L2

/-! ### isinstance -/
inductive TN where
  | non | bl | int | str | tup | lst | dct
  deriving DecidableEq
def TN.nm : TN → String
  | .non => "NoneType"
  | .bl => "bool"
  | .int => "int"
  | .str => "str"
  | .tup => "tuple"
  | .lst => "list"
  | .dct => "dict"
def TN.is (a b : TN) : Bool := decide (a = b) || (decide (a = .bl) && decide (b = .int))
theorem TN.kit {K : PySem.W.Frag} : ∀ a b : TN, b ≠ .non → PySem.W.kitOne K (.type a.nm) (.type b.nm) = some (a.is b) := by
  intro a b h
  refine kit_ty ?_
  cases a <;> cases b <;> first
    | exact absurd rfl h
    | decide +kernel
theorem TN.kits {K : PySem.W.Frag} (a : TN) : ∀ bs : List TN, (∀ b ∈ bs, b ≠ .non) → PySem.W.kitAny K (.type a.nm) (bs.map fun b => Value.type b.nm) = some (bs.any a.is)
  | [], _ => kitAny_nil
  | b :: bs, h => by
    rw [List.map_cons, List.any_cons]
    refine kitAny_cons (TN.kit a b (h b List.mem_cons_self)) (fun e => ?_) (fun e => ?_)
    · rw [e, Bool.false_or]
      exact TN.kits a bs fun c hc => h c (List.mem_cons_of_mem _ hc)
    · rw [e, Bool.true_or]
def tyN : RV → Hs → Option TN
  | .d .non, _ => some .non
  | .d (.bl _), _ => some .bl
  | .d (.int _), _ => some .int
  | .d (.str _), _ => some .str
  | .d (.tup _), _ => some .tup
  | .d (.rol _), _ => some .lst
  | .d (.scr _), _ => some .lst
  | .d (.ref n), h => match h[n]? with
    | some (.lst _) => some .lst
    | some (.dct _) => some .dct
    | none => none
  | .l (.lst _), _ => some .lst
  | .l (.dct _), _ => some .dct
  | .b (.lst _), _ => some .lst
  | .b (.dct _), _ => some .dct
section
variable {K : PySem.W.Frag} {α α' : List Addr} {O O' : Addr → Prop} {H H' : Hp} {h : Hs}
theorem COk.ty {c : Cell} {a : Addr} {T : TN} (q : COk K α O H c a) (e : (match c with | .lst _ => some TN.lst | .dct _ => some TN.dct) = some T) : TyX K H (.ref a) (.type T.nm) := by
  cases c with
  | lst ds => cases e; obtain ⟨xs, e, _⟩ := q; exact .base (.lst e)
  | dct ds => cases e; obtain ⟨xs, e, _⟩ := q; exact .base (.dK e)
theorem sqL_ty {a : Addr} {xs : List V} (q : SqL K H a xs) : TyX K H (.ref a) (.type "list") := by
  rcases q with (q | ⟨o, q⟩) | ⟨o, its, n, q, c, _⟩
  · exact .base (.lst q)
  · exact .base (.frz q)
  · exact .kList q c
theorem sqT_ty {a : Addr} {xs : List V} (q : SqT K H a xs) : TyX K H (.ref a) (.type "tuple") := by
  rcases q with (q | ⟨o, q⟩) | ⟨o, its, n, q, c, _⟩
  · exact .base (.tup q)
  · exact .fTuple q
  · exact .kTuple q c
theorem tyN_ok (hr : HRel K α O H h) {rv : RV} {x : V} {T : TN} (o : VAt K α O H rv x) (e : tyN rv h = some T) : TyX K H x (.type T.nm) := by
  unfold tyN at e
  split at e
  · cases e; rw [o.isD.non_eq]; exact .base .non
  · cases e; rw [o.isD.bl_eq]; exact .base (.bl _)
  · cases e; rw [o.isD.int_eq]; exact .base (.int _)
  · cases e; rw [o.isD.str_eq]; exact .base (.str _)
  · cases e; obtain ⟨a, xs, e, q, _⟩ := o.isD.tup_sq; rw [e]; exact sqT_ty q
  · cases e; obtain ⟨a, xs, e, q, _⟩ := o.isD.rol_sq; rw [e]; exact sqL_ty q
  · cases e; obtain ⟨a, xs, e, q, _⟩ := o.isD.scr_sq; rw [e]; exact sqL_ty q
  · split at e
    · rename_i e1
      cases e
      obtain ⟨a, e2, _, q⟩ := o.isD.ref_cell hr e1
      rw [e2]; exact q.ty rfl
    · rename_i e1
      cases e
      obtain ⟨a, e2, _, q⟩ := o.isD.ref_cell hr e1
      rw [e2]; exact q.ty rfl
    · cases e
  all_goals
    cases e
    cases o
    rename_i n q
    exact q.ty rfl
end
def eIsi (Ts : List TN) (f : DE) : DE := fun env h => match f env h with
  | some (x, h1) => match tyN x h1 with
    | some T => some (.d (.bl (Ts.any T.is)), h1)
    | none => none
  | none => none
section
variable {Γ : G} {pos p p2 p3 p4 : Pos} {e : Expr} {f : DE}
theorem boot_ty : ∀ T : TN, T ≠ .non → bootBuiltins (Str.ofString T.nm) = some (.type T.nm) := by
  intro T h
  cases T <;> first
    | exact absurd rfl h
    | decide +kernel
/-- isinstance(e, T) -/
theorem se_isi1 (T : TN) (hT : T ≠ .non) (hm : Γ.g.mg ("isinstance" : Str) = none) (hm2 : Γ.g.mg (Str.ofString T.nm) = none) (he : SE Γ e f) (hg : Γ.sc.names.lookup ("isinstance" : Str) = some .globalImplicit := by rfl) (hg2 : Γ.sc.names.lookup (Str.ofString T.nm) = some .globalImplicit := by rfl)
    (hn : Str.ofString T.nm ≠ "__name__" := by decide) (hd : (Str.ofString T.nm == ("__debug__" : Str)) = false := by decide) (hs : ∀ env, starEach [e, .Name (Str.ofString T.nm) p2] env = (false, eval e env) :: starEach [.Name (Str.ofString T.nm) p2] env := by intro _; rfl)
    (hs2 : ∀ env, starEach [.Name (Str.ofString T.nm) p2] env = (false, eval (.Name (Str.ofString T.nm) p2) env) :: starEach [] env := by intro _; rfl) (hpl : ∀ env, (backTo pos (starEach [.Name (Str.ofString T.nm) p2] env)).any (·.1) = false := by intro _; rfl) :
    SE Γ (.Call (.Name "isinstance" p) [e, .Name (Str.ofString T.nm) p2] [] pos) (eIsi [T] f) := fun X c =>
  PE.imp (pe_callB call_isi (Gl.of c hg) (by rw [c.mg]; exact hm) (by decide +kernel) (pa_cons (he X c) (pa_cons (pe_bltn (v := .ty T.nm) (Gl.of c hg2) (by rw [c.mg]; exact hm2) (boot_ty T hT) rfl hn hd) pa_nil (hs2 _)) (hs _)) (by decide) (by decide) (hs _) (hpl _)) fun σ H Q q => by
    obtain ⟨α, O, h, env, hr, sr, rv, h', e, k⟩ := q
    unfold eIsi at e
    split at e
    · rename_i x1 h1 e1
      split at e
      · rename_i T1 e2
        cases e
        refine ⟨α, O, h, env, hr, sr, x1, _, e1, fun α1 H1 x s1 o1 => ?_⟩
        refine ⟨x, .ty T.nm, .type T1.nm, .type T.nm, [T].any T1.is, rfl, .ty _, ?_, ?_, ?_⟩
        · rw [c.K]; exact tyN_ok o1.hr o1.at_ e2
        · rw [TN.kit T1 T hT]; simp
        · exact k α1 H1 _ s1 (.d o1.hr R.bl_mk)
      · cases e
    · cases e
/-- isinstance(e, (T, U)) -/
theorem se_isi2 (T U : TN) (hT : T ≠ .non) (hU : U ≠ .non) {kk : Nat} (hm : Γ.g.mg ("isinstance" : Str) = none) (hm2 : Γ.g.mg (Str.ofString T.nm) = none) (hm3 : Γ.g.mg (Str.ofString U.nm) = none) (he : SE Γ e f) (hg : Γ.sc.names.lookup ("isinstance" : Str) = some .globalImplicit := by rfl) (hg2 : Γ.sc.names.lookup (Str.ofString T.nm) = some .globalImplicit := by rfl) (hg3 : Γ.sc.names.lookup (Str.ofString U.nm) = some .globalImplicit := by rfl)
    (hn : Str.ofString T.nm ≠ "__name__" := by decide) (hd : (Str.ofString T.nm == ("__debug__" : Str)) = false := by decide) (hn2 : Str.ofString U.nm ≠ "__name__" := by decide) (hd2 : (Str.ofString U.nm == ("__debug__" : Str)) = false := by decide)
    (hs : ∀ env, starEach [e, .Tuple [.Name (Str.ofString T.nm) p2, .Name (Str.ofString U.nm) p3] kk p4] env = (false, eval e env) :: starEach [.Tuple [.Name (Str.ofString T.nm) p2, .Name (Str.ofString U.nm) p3] kk p4] env := by intro _; rfl)
    (hpl : ∀ env, (backTo pos (starEach [.Tuple [.Name (Str.ofString T.nm) p2, .Name (Str.ofString U.nm) p3] kk p4] env)).any (·.1) = false := by intro _; rfl)
    (hs2 : ∀ env, starEach [.Tuple [.Name (Str.ofString T.nm) p2, .Name (Str.ofString U.nm) p3] kk p4] env = (false, eval (.Tuple [.Name (Str.ofString T.nm) p2, .Name (Str.ofString U.nm) p3] kk p4) env) :: starEach [] env := by intro _; rfl)
    (hs3 : ∀ env, starEach [.Name (Str.ofString T.nm) p2, .Name (Str.ofString U.nm) p3] env = (false, eval (.Name (Str.ofString T.nm) p2) env) :: starEach [.Name (Str.ofString U.nm) p3] env := by intro _; rfl)
    (hs4 : ∀ env, starEach [.Name (Str.ofString U.nm) p3] env = (false, eval (.Name (Str.ofString U.nm) p3) env) :: starEach [] env := by intro _; rfl) :
    SE Γ (.Call (.Name "isinstance" p) [e, .Tuple [.Name (Str.ofString T.nm) p2, .Name (Str.ofString U.nm) p3] kk p4] [] pos) (eIsi [T, U] f) := fun X c =>
  PE.imp (pe_callB call_isiT (Gl.of c hg) (by rw [c.mg]; exact hm) (by decide +kernel) (pa_cons (he X c) (pa_cons (pe_tup (pa_cons (pe_bltn (v := .ty T.nm) (Gl.of c hg2) (by rw [c.mg]; exact hm2) (boot_ty T hT) rfl hn hd) (pa_cons (pe_bltn (v := .ty U.nm) (Gl.of c hg3) (by rw [c.mg]; exact hm3) (boot_ty U hU) rfl hn2 hd2) pa_nil (hs4 _)) (hs3 _))) pa_nil (hs2 _)) (hs _)) (by decide) (by decide) (hs _) (hpl _)) fun σ H Q q => by
    obtain ⟨α, O, h, env, hr, sr, rv, h', e, k⟩ := q
    unfold eIsi at e
    split at e
    · rename_i x1 h1 e1
      split at e
      · rename_i T1 e2
        cases e
        refine ⟨α, O, h, env, hr, sr, x1, _, e1, fun α1 H1 x s1 o1 => ?_⟩
        refine ⟨by show 2 ≤ sizeLine; decide, fun tp htp => ?_⟩
        have r1 := o1.hr
        have s2 := Stp.upd (o := .tup [.ty T.nm, .ty U.nm]) r1 htp
        refine ⟨x, tp, [.ty T.nm, .ty U.nm], .type T1.nm, [.type T.nm, .type U.nm], [T, U].any T1.is, rfl, upd_same, .cons (.ty _) (.cons (.ty _) .nil), ?_, ?_, ?_⟩
        · rw [c.K]
          exact tyN_ok (r1.upd htp) (o1.at_.stp s2) e2
        · exact TN.kits T1 [T, U] fun b hb => by
            rcases List.mem_cons.mp hb with hb | hb
            · rw [hb]; exact hT
            · rcases List.mem_cons.mp hb with hb | hb
              · rw [hb]; exact hU
              · cases hb
        · exact k α1 _ _ (s1.trans s2) (.d (r1.upd htp) R.bl_mk)
      · cases e
    · cases e
end

/-! ### methods of texts -/
def Me1 (K : PySem.W.Frag) (r : V → List V → Hp → VK → Prop) (g : List Nat → RV → Hs → Option (RV × Hs)) : Prop :=
  ∀ α O H h s y ry rv h' (Q : VK), HRel K α O H h → VAt K α O H ry y → g s ry h = some (rv, h') → (∀ z α' H', Stp α H α' H' → VOk K O H α' H' h' rv z → Q z H') → r (.str (S s)) [y] H Q
def eM1 (g : List Nat → RV → Hs → Option (RV × Hs)) (fo fa : DE) : DE := fun env h => match fo env h with
  | some (.d (.str s), h1) => match fa env h1 with
    | some (y, h2) => g s y h2
    | none => none
  | _ => none
def Me0 (K : PySem.W.Frag) (r : V → List V → Hp → VK → Prop) (g : List Nat → Hs → Option (RV × Hs)) : Prop :=
  ∀ α O H h s rv h' (Q : VK), HRel K α O H h → g s h = some (rv, h') → (∀ z α' H', Stp α H α' H' → VOk K O H α' H' h' rv z → Q z H') → r (.str (S s)) [] H Q
def eM0 (g : List Nat → Hs → Option (RV × Hs)) (fo : DE) : DE := fun env h => match fo env h with
  | some (.d (.str s), h1) => g s h1
  | _ => none
section
variable {Γ : G} {pos apos : Pos} {o e : Expr} {fo fa : DE} {r : V → List V → Hp → VK → Prop} {id : String} {name : Str}
theorem se_m1 {g : List Nat → RV → Hs → Option (RV × Hs)} (slot : PySem.Slot "str" name id) (ty : typeOf (.builtin id) = pure (.type "method_descriptor")) (hc : ∀ X, Γ.At X → MtR X id r) (hs : Me1 Γ.g.K r g) (ho : SE Γ o fo) (he : SE Γ e fa)
    (hst : ∀ env, starEach [e] env = [(false, eval e env)]) (hb : ∀ env, attributeBase o name env (eval o env) = eval o env) (hl : (apos.endLine == pos.line) = true) : SE Γ (.Call (.Attribute o name apos) [e] [] pos) (eM1 g fo fa) := fun X c =>
  PE.imp (pe_m1 slot ty (hc X c) (ho X c) (he X c) (hst _) (hb _) hl) fun σ H Q q => by
    obtain ⟨α, O, h, env, hr, sr, rv, h', e, k⟩ := q
    unfold eM1 at e
    split at e
    · rename_i s h1 e1
      split at e
      · rename_i y h2 e2
        refine ⟨α, O, h, env, hr, sr, _, h1, e1, fun α1 H1 x s1 o1 => ?_⟩
        refine ⟨⟨S s, o1.isD.str_eq⟩, ?_⟩
        refine ⟨α1, O, h1, env, o1.hr, sr.stp hr s1, y, h2, e2, fun α2 H2 y' s2 o2 => ?_⟩
        rw [o1.isD.str_eq]
        exact hs α2 O H2 h2 s y' y rv h' Q o2.hr o2.at_ e fun z α3 H3 s3 o3 => k α3 H3 z (s1.trans (s2.trans s3)) (o3.back (s1.trans s2) o2.hr)
      · cases e
    · cases e
theorem se_m0 {g : List Nat → Hs → Option (RV × Hs)} (slot : PySem.Slot "str" name id) (ty : typeOf (.builtin id) = pure (.type "method_descriptor")) (hc : ∀ X, Γ.At X → MtR X id r) (hs : Me0 Γ.g.K r g) (ho : SE Γ o fo)
    (hb : ∀ env, attributeBase o name env (eval o env) = eval o env) (hl : (apos.endLine == pos.line) = true) : SE Γ (.Call (.Attribute o name apos) [] [] pos) (eM0 g fo) := fun X c =>
  PE.imp (pe_m0 slot ty (hc X c) (ho X c) (hb _) hl) fun σ H Q q => by
    obtain ⟨α, O, h, env, hr, sr, rv, h', e, k⟩ := q
    unfold eM0 at e
    split at e
    · rename_i s h1 e1
      refine ⟨α, O, h, env, hr, sr, _, h1, e1, fun α1 H1 x s1 o1 => ?_⟩
      refine ⟨⟨S s, o1.isD.str_eq⟩, ?_⟩
      rw [o1.isD.str_eq]
      exact hs α1 O H1 h1 s rv h' Q o1.hr e fun z α3 H3 s3 o3 => k α3 H3 z (s1.trans s3) (o3.back s1 o1.hr)
    · cases e
end
/-! partition, split, join, strip -/
def gPart (z : List Nat) : RV → Hs → Option (RV × Hs)
  | .d (.str s), h => if s ≠ [] ∧ z.length ≤ sizeLine then match TL.par s [] z with
    | some (a, b) => some (.d (.tup [.str a, .str s, .str b]), h)
    | none => some (.d (.tup [.str z, .str [], .str []]), h)
    else none
  | _, _ => none
theorem len_ne {s : List Nat} (h : s ≠ []) : ((S s).length == 0) = false := by
  rw [S_len]
  cases s with
  | nil => exact absurd rfl h
  | cons a r => rfl
theorem me_part {K : PySem.W.Frag} : Me1 K (fun x xs H Q => ∃ a b, x = .str a ∧ xs = [.str b] ∧ (b.length == 0) = false ∧ a.length ≤ sizeLine ∧
    ∀ p, H p = none → Q (.ref p) (upd H p (.tup [.str (Txt.partition a b).1, .str (Txt.partition a b).2.1, .str (Txt.partition a b).2.2]))) gPart := fun α O H h s y ry rv h' Q hr oy e k => by
  unfold gPart at e
  split at e
  · rename_i t
    split at e
    · rename_i hc
      refine ⟨S s, S t, rfl, by rw [oy.isD.str_eq], len_ne hc.1, by rw [S_len]; exact hc.2, fun p hp => ?_⟩
      have key := TL.partition_par (S s) (S t) (by exact hc.1)
      rw [S_tl, S_tl] at key
      rw [key]
      split at e
      · rename_i a b e1
        cases e
        rw [e1]
        exact k _ α _ (Stp.upd hr hp) (VOk.tup hr hp (RL.cons R.str_mk (RL.cons R.str_mk (RL.one R.str_mk))))
      · rename_i e1
        cases e
        rw [e1]
        exact k _ α _ (Stp.upd hr hp) (VOk.tup hr hp (RL.cons R.str_mk (RL.cons (R.str_mk (b := [])) (RL.one (R.str_mk (b := []))))))
    · cases e
  · cases e
theorem RL_strs {K : PySem.W.Frag} {α : List Addr} {O : Addr → Prop} {H : Hp} : ∀ {ls : List (List Nat)} {ys : List Str}, ys.map TL.tl = ls → RL K α O H (ls.map D.str) (ys.map V.str)
  | [], [], _ => RL.nil
  | [], y :: ys, e => by cases e
  | l :: ls, [], e => by cases e
  | l :: ls, y :: ys, e => by
    rw [List.map_cons] at e
    injection e with e1 e2
    subst e1
    rw [List.map_cons, List.map_cons]
    refine RL.cons ?_ (RL_strs e2)
    rw [S_of y]
    exact R.str_mk
def gSplit (z : List Nat) : RV → Hs → Option (RV × Hs)
  | .d (.str s), h => if s ≠ [] ∧ s.all (· < 256) ∧ z.length + 2 ≤ sizeLine then some (.l (.lst ((TL.spl s 0 [] z).map D.str)), h) else none
  | _, _ => none
theorem me_split {K : PySem.W.Frag} : Me1 K (fun x xs H Q => ∃ a b, x = .str a ∧ xs = [.str b] ∧ (b.length == 0) = false ∧ a.length + 2 ≤ sizeLine ∧ rNewStrs (Txt.split a b) H Q) gSplit := fun α O H h s y ry rv h' Q hr oy e k => by
  unfold gSplit at e
  split at e
  · rename_i t
    split at e
    · rename_i hc
      cases e
      refine ⟨S s, S t, rfl, by rw [oy.isD.str_eq], len_ne hc.1, by rw [S_len]; exact hc.2.2, fun p hp => ?_⟩
      have key := TL.split_spl (S s) (S t) (by exact hc.1) (TL.kind_ok (by simpa using hc.2.1))
      rw [S_tl, S_tl] at key
      exact k _ α _ (Stp.upd hr hp) (VOk.fresh hr hp (RL_strs key))
    · cases e
  · cases e
def txts : List D → Option (List (List Nat))
  | [] => some []
  | .str s :: r => match txts r with
    | some l => some (s :: l)
    | none => none
  | _ :: _ => none
theorem strs_R {K : PySem.W.Frag} {α : List Addr} {O : Addr → Prop} {H : Hp} : ∀ {ds : List D} {ls : List (List Nat)} {xs : List V}, txts ds = some ls → RL K α O H ds xs → xs = (ls.map fun l => (S l)).map V.str
  | [], ls, xs, e, r => by cases e; exact r.invN
  | d :: ds, ls, xs, e, r => by
    obtain ⟨x, q, e1, r1, r2⟩ := r.inv
    subst e1
    unfold txts at e
    split at e
    · rename_i h; cases h
    · rename_i s ds' h
      cases h
      split at e
      · rename_i l' e2
        cases e
        rw [List.map_cons, List.map_cons, ← strs_R e2 r2, r1.str_eq]
      · cases e
    · cases e
def joinOk (ls : List (List Nat)) (z : List Nat) : Bool := decide ((ls.map (·.length)).sum + ls.length * z.length ≤ 16777216)
def gJoin (z : List Nat) : RV → Hs → Option (RV × Hs)
  | x, h => match sq x h with
    | some ds => match txts ds with
      | some ls => if joinOk ls z = true then some (.d (.str (TL.joinL z ls)), h) else none
      | none => none
    | none => none
theorem me_join {K : PySem.W.Frag} : Me1 K (fun x xs H Q => ∃ a p, ∃ ys : List Str, x = .str a ∧ xs = [.ref p] ∧ (SqL K H p (ys.map V.str) ∨ SqT K H p (ys.map V.str)) ∧
    (ys.map (·.length)).sum + ys.length * a.length ≤ 16777216 ∧ Q (.str (Txt.join a ys)) H) gJoin := fun α O H h s y ry rv h' Q hr oy e k => by
  unfold gJoin at e
  cases ed : sq ry h with
  | none => simp only [ed] at e; cases e
  | some ds =>
  simp only [ed] at e
  cases el : txts ds with
  | none => simp only [el] at e; cases e
  | some ls =>
  simp only [el] at e
  by_cases hc : joinOk ls s = true
  · rw [if_pos hc] at e
    cases e
    obtain ⟨p, xs, e1, q, r⟩ := sq_eq hr oy ed
    rw [strs_R el r] at q
    have e5 : ((ls.map fun l => S l).map fun x : Str => x.length) = ls.map fun l => l.length := by
      rw [List.map_map]
      exact List.map_congr_left fun l _ => S_len l
    refine ⟨S s, p, ls.map fun l => S l, rfl, by rw [e1], q, ?_, ?_⟩
    · rw [e5, List.length_map, S_len]; exact of_decide_eq_true hc
    · have e6 : Txt.join (S s) (ls.map fun l => S l) = S (TL.joinL s ls) := by
        rw [TL.join_eq]
        apply TL.ext_tl
        have := TL.tl_join (S s) (ls.map fun l => S l)
        rw [List.map_map] at this
        have e7 : (ls.map (TL.tl ∘ fun l => S l)) = ls := by
          rw [show (TL.tl ∘ fun l => S l) = id from funext fun l => rfl, List.map_id]
        rw [e7] at this
        exact this
      rw [e6]
      exact k _ α H (.refl _ _) (.d hr R.str_mk)
  · rw [if_neg hc] at e
    cases e
/-- what a text's method gives, in list form -/
def stpD (z s : List Nat) : List Nat := TL.tl (Txt.stripChars (S z) (S s))
def gStripC (z : List Nat) : RV → Hs → Option (RV × Hs)
  | .d (.str s), h => if z.length ≤ sizeLine then some (.d (.str (stpD z s)), h) else none
  | _, _ => none
theorem me_stripC {K : PySem.W.Frag} : Me1 K (fun x xs H Q => ∃ a b, x = .str a ∧ xs = [.str b] ∧ a.length ≤ sizeLine ∧ Q (.str (Txt.stripChars a b)) H) gStripC := fun α O H h s y ry rv h' Q hr oy e k => by
  unfold gStripC at e
  split at e
  · split at e
    · rename_i hc
      cases e
      refine ⟨_, _, rfl, by rw [oy.isD.str_eq], by rw [S_len]; exact hc, ?_⟩
      rw [S_of (Txt.stripChars _ _)]
      exact k _ α H (.refl _ _) (.d hr R.str_mk)
    · cases e
  · cases e
section
variable {Γ : G} {pos apos : Pos} {o e : Expr} {fo fa : DE}
theorem se_part (ho : SE Γ o fo) (he : SE Γ e fa) (hst : ∀ env, starEach [e] env = [(false, eval e env)] := by intro _; rfl) (hb : ∀ env, attributeBase o "partition" env (eval o env) = eval o env := by intro _; rfl) (hl : (apos.endLine == pos.line) = true := by rfl) : SE Γ (.Call (.Attribute o "partition" apos) [e] [] pos) (eM1 gPart fo fa) :=
  se_m1 PySem.F.slot_str_partition PySem.F.type_str_partition (fun _ _ => mt_partition) me_part ho he hst hb hl
theorem se_split (ho : SE Γ o fo) (he : SE Γ e fa) (hst : ∀ env, starEach [e] env = [(false, eval e env)] := by intro _; rfl) (hb : ∀ env, attributeBase o "split" env (eval o env) = eval o env := by intro _; rfl) (hl : (apos.endLine == pos.line) = true := by rfl) : SE Γ (.Call (.Attribute o "split" apos) [e] [] pos) (eM1 gSplit fo fa) :=
  se_m1 PySem.F.slot_str_split PySem.F.type_str_split (fun _ _ => mt_split) me_split ho he hst hb hl
theorem mR_join {X : Cx} (c : Γ.At X) : MtR X "str.join" (fun x xs H Q => ∃ a p, ∃ ys : List Str, x = .str a ∧ xs = [.ref p] ∧ (SqL Γ.g.K H p (ys.map V.str) ∨ SqT Γ.g.K H p (ys.map V.str)) ∧
    (ys.map (·.length)).sum + ys.length * a.length ≤ 16777216 ∧ Q (.str (Txt.join a ys)) H) := by rw [← c.K]; exact mt_join
theorem se_join (ho : SE Γ o fo) (he : SE Γ e fa) (hst : ∀ env, starEach [e] env = [(false, eval e env)] := by intro _; rfl) (hb : ∀ env, attributeBase o "join" env (eval o env) = eval o env := by intro _; rfl) (hl : (apos.endLine == pos.line) = true := by rfl) : SE Γ (.Call (.Attribute o "join" apos) [e] [] pos) (eM1 gJoin fo fa) :=
  se_m1 PySem.F.slot_str_join PySem.F.type_str_join (fun _ => mR_join) me_join ho he hst hb hl
theorem se_stripC (ho : SE Γ o fo) (he : SE Γ e fa) (hst : ∀ env, starEach [e] env = [(false, eval e env)] := by intro _; rfl) (hb : ∀ env, attributeBase o "strip" env (eval o env) = eval o env := by intro _; rfl) (hl : (apos.endLine == pos.line) = true := by rfl) : SE Γ (.Call (.Attribute o "strip" apos) [e] [] pos) (eM1 gStripC fo fa) :=
  se_m1 PySem.F.slot_str_strip PySem.F.type_str_strip (fun _ _ => mt_stripChars) me_stripC ho he hst hb hl
end
end F
/-! F9: lists that are written, dicts of the module. -/
namespace F
open PySem PySem.Spec PyProof.Rows L2

theorem nodup_inj {T : Type} : ∀ {l : List T} {i j : Nat} {x : T}, l.Nodup → l[i]? = some x → l[j]? = some x → i = j
  | [], i, j, x, _, e, _ => by simp at e
  | y :: l, 0, 0, x, _, _, _ => rfl
  | y :: l, 0, j + 1, x, n, e, e2 => by
    simp at e e2
    subst e
    exact absurd (List.mem_of_getElem? e2) (List.nodup_cons.mp n).1
  | y :: l, i + 1, 0, x, n, e, e2 => by
    simp at e e2
    subst e2
    exact absurd (List.mem_of_getElem? e) (List.nodup_cons.mp n).1
  | y :: l, i + 1, j + 1, x, n, e, e2 => by
    simp at e e2
    rw [nodup_inj (List.nodup_cons.mp n).2 e e2]
section
variable {K : PySem.W.Frag} {B : Bs} {α α' : List Addr} {O O' : Addr → Prop} {H H' : Hp} {h h' : Hs} {σ : St} {env : Env}
/-- a slot's own cell is written -/
theorem wrC (hr : HRel K α O H h) (sr : SRel K α O H σ env) (br : BRel B α O H σ env) {i : Nat} {a : Addr} {c c' : Cell} {o : HO} (e : env[i]? = some (.c c)) (e2 : σ[i]? = some (some (.ref a))) (q : COk K α O H c' a → True) (q' : COk K α O (L2.upd H a o) c' a) :
    HRel K α O (L2.upd H a o) h ∧ SRel K α O (L2.upd H a o) σ (env.set i (.c c')) ∧ BRel B α O (L2.upd H a o) σ (env.set i (.c c')) := by
  obtain ⟨b, e3, q3, oa⟩ := sr.own i c e
  rw [e2] at e3
  cases e3
  have hi : i < env.length := (List.getElem?_eq_some_iff.mp e).1
  have own : ∀ b, Own σ (env.set i (.c c')) b → Own σ env b := fun b ⟨j, cc, e4, e5⟩ => by
    rcases set_get e4 with ⟨n, z⟩ | ⟨n, z⟩
    · subst n
      exact ⟨i, c, e, e5⟩
    · exact ⟨j, cc, z, e5⟩
  refine ⟨hr.updO oa, ⟨by simp [sr.len], fun j d ej => ?_, fun j cc ej => ?_, fun j k c1 c2 b e4 e5 e6 e7 => ?_⟩, ⟨⟨fun b u eb n w => ?_, br.bh.pre, br.bh.new, br.bh.o, br.bh.oo, fun b u eb => ?_⟩, fun b w => br.own b (own b w)⟩⟩
  · rcases set_get ej with ⟨n, z⟩ | ⟨n, z⟩
    · cases z
    · obtain ⟨x, e4, r⟩ := sr.val j d z
      exact ⟨x, e4, R.mv (Mv.updO oa) _ _ r⟩
  · rcases set_get ej with ⟨n, z⟩ | ⟨n, z⟩
    · subst n
      cases z
      exact ⟨a, e2, q', oa⟩
    · obtain ⟨b, e4, q4, ob⟩ := sr.own j cc z
      refine ⟨b, e4, q4.mv (Mv.updO oa) fun u eu => ?_, ob⟩
      rw [upd_ne (fun zz : b = a => n ?_)]
      · exact eu
      · subst zz
        exact sr.dis i j c cc b e z e2 e4
  · have g : ∀ {m : Nat} {cc}, (env.set i (.c c'))[m]? = some (.c cc) → ∃ c0, env[m]? = some (.c c0) := fun {m cc} em => by
      rcases set_get em with ⟨n, z⟩ | ⟨n, z⟩
      · subst n; exact ⟨c, e⟩
      · exact ⟨cc, z⟩
    obtain ⟨c3, e8⟩ := g e4
    obtain ⟨c4, e9⟩ := g e5
    exact sr.dis j k c3 c4 b e8 e9 e6 e7
  · obtain ⟨h1, h2⟩ := br.bh.fr b u eb n w
    refine ⟨?_, h2⟩
    rw [upd_ne (fun zz : b = a => ?_)]
    · exact h1
    · subst zz
      rcases br.own b ⟨i, c, e, e2⟩ with z | z
      · rw [z] at eb; cases eb
      · exact w z
  · obtain ⟨u', e4⟩ := br.bh.th b u eb
    by_cases hb : b = a
    · exact ⟨o, by rw [hb]; exact upd_same⟩
    · exact ⟨u', by rw [upd_ne hb]; exact e4⟩
/-- a cell of the heap is written -/
theorem wrR (hr : HRel K α O H h) {n : Nat} {a : Addr} {c : Cell} {o : HO} (e : α[n]? = some a) (q : COk K α O (L2.upd H a o) c a) : HRel K α O (L2.upd H a o) (h.set n c) ∧ Stp α H α (L2.upd H a o) := by
  have ma : a ∈ α := List.mem_of_getElem? e
  have s : Stp α H α (L2.upd H a o) := ⟨fun b u eb m => by rw [upd_ne (fun zz : b = a => m (zz ▸ ma))]; exact eb, fun _ _ e => e, fun _ m => .inl m⟩
  refine ⟨⟨by rw [List.length_set]; exact hr.len, hr.nd, fun m c2 b e1 e2 => ?_, hr.dis, fun b ob => ?_⟩, s⟩
  · rcases set_get e1 with ⟨z, zz⟩ | ⟨z, zz⟩
    · subst z
      rw [e] at e2
      cases e2
      have : c = c2 := by simpa using zz
      rw [← this]; exact q
    · refine (hr.cell m c2 b zz e2).mv s.mv fun u eu => ?_
      rw [upd_ne (fun w : b = a => z ?_)]
      · exact eu
      · subst w
        have h1 := (List.getElem?_eq_some_iff.mp e)
        have h2 := (List.getElem?_eq_some_iff.mp e2)
        exact nodup_inj hr.nd e e2
  · obtain ⟨u, eu⟩ := hr.trk b ob
    exact ⟨u, s.fr b u eu fun m => hr.dis b m ob⟩
end

/-! ### append -/
def dApp (i : Nat) (f : DE) : DS := fun env h => match env[i]? with
  | some (.c (.lst ds)) => match f env h with
    | some (.d d, h1) => if ds.length < sizeLine then some (.nx (env.set i (.c (.lst (ds ++ [d])))) h1) else none
    | _ => none
  | _ => none
def dAppR (fo f : DE) : DS := fun env h => match fo env h with
  | some (.d (.ref n), h1) => match h1[n]? with
    | some (.lst _) => match f env h1 with
      | some (.d d, h2) => match h2[n]? with
        | some (.lst ds) => if ds.length < sizeLine then some (.nx env (h2.set n (.lst (ds ++ [d])))) else none
        | _ => none
      | _ => none
    | _ => none
  | _ => none
section
variable {Γ : G} {pos apos cpos p : Pos} {e : Expr} {f : DE}
theorem s1_app {i : Nat} {x : Str} (hN : Γ.N[i]? = some x := by rfl) (he : SE Γ e f) (hv : Γ.sc.names.lookup x = some .local ∨ Γ.sc.names.lookup x = some .cell ∨ Γ.sc.names.lookup x = some .free := by first | exact Or.inl rfl | exact Or.inr (Or.inl rfl) | exact Or.inr (Or.inr rfl))
    (hd : (x == ("__debug__" : Str)) = false := by decide) (hcd : (x == ("__classdict__" : Str)) = false := by decide)
    (hbase : ∀ env, attributeBase (.Name x p) "append" env (eval (.Name x p) env) = eval (.Name x p) env := by intro _; rfl)
    (hfew : ∀ env, ((backTo cpos (starEach [e] env)).all (fun x => !x.1) && (backToKw cpos (keywordEach [] env)).all (fun x => x.1.isSome)
      && decide (([e] : List Expr).length + ([] : List Keyword).length + (if ([] : List Keyword).isEmpty then 0 else 1) < 30)) = true := by intro _; rfl)
    (hline : (apos.endLine == cpos.line) = true := by rfl) (hs : ∀ env, starEach [e] env = (false, eval e env) :: starEach [] env := by intro _; rfl) (hplain : ∀ env, (backTo cpos (starEach [] env)).any (·.1) = false := by intro _; rfl)
    (hsw : ∀ env, swapsWith (.Call (.Attribute (.Name x p) "append" apos) [e] [] cpos) none pos.line env = pure false := by intro _; rfl) :
    S1 Γ (.Expr (.Call (.Attribute (.Name x p) "append" apos) [e] [] cpos) pos) (dApp i f) := fun X c B =>
  PS.imp (ps_expr (pe_bm PySem.F.plainAttrs_list PySem.F.slot_list_append PySem.F.type_list_append mt_append (pe_var (by rw [c.N]; exact hN) (Vis.of c hv) hd hcd) (pa_cons (he X c) pa_nil (hs _)) (hbase _) (hfew _) hline (hs _) (hplain _)) (hsw _)) fun D σ H q => by
    obtain ⟨α, O, h, env, hr, sr, br, o, e, k⟩ := q
    unfold dApp at e
    split at e
    · rename_i ds ei
      split at e
      · rename_i d h1 e1
        split at e
        · rename_i hz
          cases e
          obtain ⟨a, e2, ⟨xs, e3, rl⟩, oa⟩ := sr.own i _ ei
          refine ⟨.ref a, e2, .inl ⟨rfl, xs, sqL_some e3⟩, ?_⟩
          refine ⟨α, O, h, env, hr, sr, _, h1, e1, fun α1 H1 y s1 o1 => ?_⟩
          have sr1 := sr.stp hr s1
          obtain ⟨a', e2', ⟨xs', e3', rl'⟩, oa'⟩ := sr1.own i _ ei
          rw [e2] at e2'
          cases e2'
          refine ⟨a, xs', y, rfl, rfl, e3', by rw [← rl'.length]; exact hz, ?_⟩
          obtain ⟨w1, w2, w3⟩ := wrC (c' := .lst (ds ++ [d])) (o := .lst (xs' ++ [y])) o1.hr sr1 (br.stp hr o1.hr s1) ei e2 (fun _ => trivial) ⟨_, upd_same, RL.mv (Mv.updO oa') _ _ (rl'.app (RL.one o1.isD))⟩
          exact k α1 O _ σ w1 w2 w3
        · cases e
      · cases e
    · cases e
/-- o.append(e), o a cell of the heap -/
theorem s1_appR {o : Expr} {fo : DE} (ho : SE Γ o fo) (he : SE Γ e f) (hbase : ∀ env, attributeBase o "append" env (eval o env) = eval o env := by intro _; rfl)
    (hfew : ∀ env, ((backTo cpos (starEach [e] env)).all (fun x => !x.1) && (backToKw cpos (keywordEach [] env)).all (fun x => x.1.isSome)
      && decide (([e] : List Expr).length + ([] : List Keyword).length + (if ([] : List Keyword).isEmpty then 0 else 1) < 30)) = true := by intro _; rfl)
    (hline : (apos.endLine == cpos.line) = true := by rfl) (hs : ∀ env, starEach [e] env = (false, eval e env) :: starEach [] env := by intro _; rfl) (hplain : ∀ env, (backTo cpos (starEach [] env)).any (·.1) = false := by intro _; rfl)
    (hsw : ∀ env, swapsWith (.Call (.Attribute o "append" apos) [e] [] cpos) none pos.line env = pure false := by intro _; rfl) :
    S1 Γ (.Expr (.Call (.Attribute o "append" apos) [e] [] cpos) pos) (dAppR fo f) := fun X c B =>
  PS.imp (ps_expr (pe_bm PySem.F.plainAttrs_list PySem.F.slot_list_append PySem.F.type_list_append mt_append (ho X c) (pa_cons (he X c) pa_nil (hs _)) (hbase _) (hfew _) hline (hs _) (hplain _)) (hsw _)) fun D σ H q => by
    obtain ⟨α, O, h, env, hr, sr, br, o, e, k⟩ := q
    unfold dAppR at e
    split at e
    · rename_i n h1 e1
      split at e
      · rename_i es e2
        split at e
        · rename_i d h2 e3
          split at e
          · rename_i ds e4
            split at e
            · rename_i hz
              cases e
              refine ⟨α, O, h, env, hr, sr, _, h1, e1, fun α1 H1 x s1 o1 => ?_⟩
              obtain ⟨a, e5, e6, xs, e7, rl⟩ := o1.isD.ref_cell o1.hr e2
              subst e5
              refine ⟨.inl ⟨rfl, xs, sqL_some e7⟩, ?_⟩
              refine ⟨α1, O, h1, env, o1.hr, sr.stp hr s1, _, h2, e3, fun α2 H2 y s2 o2 => ?_⟩
              have e8 := s2.pre n a e6
              obtain ⟨ys, e9, rl2⟩ := o2.hr.cell n _ a e4 e8
              refine ⟨a, ys, y, rfl, rfl, e9, by rw [← rl2.length]; exact hz, ?_⟩
              have s3 : Stp α2 H2 α2 (L2.upd H2 a (.lst (ys ++ [y]))) := (wrR (c := .lst []) (o := .lst []) o2.hr e8 ⟨[], upd_same, RL.nil⟩).2 |> fun _ => ⟨fun b u eb m => by rw [upd_ne (fun zz : b = a => m (zz ▸ List.mem_of_getElem? e8))]; exact eb, fun _ _ e => e, fun _ m => .inl m⟩
              obtain ⟨w1, w2⟩ := wrR (c := .lst (ds ++ [d])) (o := .lst (ys ++ [y])) o2.hr e8 ⟨_, upd_same, RL.mv s3.mv _ _ (rl2.app (RL.one o2.isD))⟩
              have s4 := s1.trans (s2.trans w2)
              exact k α2 O _ σ w1 (sr.stp hr s4) (br.stp hr w1 s4)
            · cases e
          · cases e
        · cases e
      · cases e
    · cases e
end

/-! ### o[i] = e, o a cell of the heap -/
def dPut (fo fi f : DE) : DS := fun env h => match f env h with
  | some (.d d, h1) => match fo env h1 with
    | some (.d (.ref n), h2) => match fi env h2 with
      | some (.d (.int k), h3) => match h3[n]? with
        | some (.lst ds) => match ixN ds.length k with
          | some j => some (.nx env (h3.set n (.lst (ds.set j d))))
          | none => none
        | _ => none
      | _ => none
    | _ => none
  | _ => none
section
variable {Γ : G} {pos p2 : Pos} {o i e : Expr} {fo fi f : DE}
theorem upd_stp {α : List Addr} {H : Hp} {n : Nat} {a : Addr} {u : HO} (e8 : α[n]? = some a) : Stp α H α (L2.upd H a u) := ⟨fun b u eb m => by rw [upd_ne (fun zz : b = a => m (zz ▸ List.mem_of_getElem? e8))]; exact eb, fun _ _ e => e, fun _ m => .inl m⟩
theorem s1_put (ho : SE Γ o fo) (hi : SE Γ i fi) (he : SE Γ e f) (ha : ∀ env v, assign (.Subscript o i p2) env v = (do
      let ov ← holding [v] (eval o env)
      let iv ← holding [v, ov] (eval i env)
      standAt p2
      holding [v, ov, iv] (setItem ov iv v)
      release [v, ov, iv] []) := by intro _ _; rfl) (hs : ∀ env, swapsWithSole [.Subscript o i p2] e pos.line env = pure false := by intro _; rfl) (hw : ∀ env, swappedStores [.Subscript o i p2] e env = pure none := by intro _; rfl)
    (h1 : ∀ env, (assignEach [.Subscript o i p2] env).map (·.2) = [assign (.Subscript o i p2) env] := by intro _; rfl) : S1 Γ (.Assign [.Subscript o i p2] e pos) (dPut fo fi f) := fun X c B =>
  PS.imp (ps_asg (he X c) (pg_sub (ho X c) (hi X c) set_list (ha _)) (hs _) (hw _) (h1 _)) fun D σ H q => by
    obtain ⟨α, O, h, env, hr, sr, br, o, e, k⟩ := q
    unfold dPut at e
    split at e
    · rename_i d h1 e1
      split at e
      · rename_i n h2 e2
        split at e
        · rename_i kk h3 e3
          split at e
          · rename_i ds e4
            split at e
            · rename_i j ej
              cases e
              refine ⟨α, O, h, env, hr, sr, _, h1, e1, fun α1 H1 x s1 o1 => ?_⟩
              refine ⟨α1, O, h1, env, o1.hr, sr.stp hr s1, _, h2, e2, fun α2 H2 y s2 o2 => ?_⟩
              refine ⟨α2, O, h2, env, o2.hr, (sr.stp hr s1).stp o1.hr s2, _, h3, e3, fun α3 H3 z s3 o3 => ?_⟩
              have ry := o2.isD
              simp only [R] at ry
              obtain ⟨a, e5, e6⟩ := ry
              subst e5
              have e8 := s3.pre n a e6
              obtain ⟨ys, e9, rl2⟩ := o3.hr.cell n _ a e4 e8
              have rx := R.mv s3.mv _ _ (R.mv s2.mv _ _ o1.isD)
              refine ⟨a, ys, kk, j, rfl, o3.isD.int_eq, e9, by rw [← rl2.length]; exact ej, ?_⟩
              obtain ⟨w1, w2⟩ := wrR (c := .lst (ds.set j d)) (o := .lst (ys.set j x)) o3.hr e8 ⟨_, upd_same, RL.mv (upd_stp e8).mv _ _ (rl2.set j rx)⟩
              have s4 := s1.trans (s2.trans (s3.trans w2))
              exact k α3 O _ σ w1 (sr.stp hr s4) (br.stp hr w1 s4)
            · cases e
          · cases e
        · cases e
      · cases e
    · cases e
end

/-! ### dicts of the module, str keys -/
/-- the global x is a written dict; kvs: its keys and values -/
structure DAt (g : GG) (x : Str) (kvs : List (List Nat × D)) : Prop where
  ex : ∃ d es n, g.mg x = some (.ref d) ∧ KDict g.K g.w d es n ∧ ∀ z : List Nat, match kvs.lookup z with
    | some v => ∃ u y, PySem.W.nsIn g.K d (S z) = some (some u) ∧ RelV y u ∧ ∀ α O H, R g.K α O H v y
    | none => PySem.W.nsIn g.K d (S z) = some none
def eKget (kvs : List (List Nat × D)) (f : DE) : DE := fun env h => match f env h with
  | some (.d (.str s), h1) => match kvs.lookup s with
    | some v => some (.d v, h1)
    | none => none
  | _ => none
def eKin (ng : Bool) (kvs : List (List Nat × D)) (f : DE) : DE := fun env h => match f env h with
  | some (.d (.str s), h1) => some (.d (.bl (if ng then !(kvs.lookup s).isSome else (kvs.lookup s).isSome)), h1)
  | _ => none
section
variable {Γ : G} {pos p p2 : Pos} {e : Expr} {f : DE} {x : Str} {kvs : List (List Nat × D)}
theorem se_kget (C : DAt Γ.g x kvs) (he : SE Γ e f) (hg : Γ.sc.names.lookup x = some .globalImplicit := by rfl) (hd : (x == ("__debug__" : Str)) = false := by decide) (hs : PlainIx e := by intro _ _; rfl) : SE Γ (.Subscript (.Name x p) e pos) (eKget kvs f) := fun X c => by
  obtain ⟨d, es, n, e1, KD, hk⟩ := C.ex
  refine PE.imp (pe_ix (ix_kdict) (pe_glob (v := .ref d) (u := .ref d) (by show X.env.scope.names.lookup x = _; rw [c.sc]; exact hg) (by rw [c.mg]; exact e1) rfl hd) (he X c) hs) fun σ H Q q => ?_
  obtain ⟨α, O, h, env, hr, sr, rv, h', e, k⟩ := q
  unfold eKget at e
  split at e
  · rename_i s h1 e2
    split at e
    · rename_i v ev
      cases e
      refine ⟨α, O, h, env, hr, sr, _, _, e2, fun α1 H1 y s1 o1 => ?_⟩
      have := hk s
      rw [ev] at this
      obtain ⟨u, y0, e3, r, q⟩ := this
      rw [c.K, c.w]
      exact ⟨d, S s, y0, rfl, o1.isD.str_eq, ⟨es, n, u, KD.at_, KD.lit, e3, r⟩, k α1 H1 _ s1 (.d o1.hr (q _ _ _))⟩
    · cases e
  · cases e
theorem kin_imp {X : Cx} (c : Γ.At X) {ng : Bool} {d : Addr} {σ : St} {H : Hp} {Q : VK} (hk : ∀ z : List Nat, match kvs.lookup z with
    | some v => ∃ u y, PySem.W.nsIn Γ.g.K d (S z) = some (some u) ∧ RelV y u ∧ ∀ α O H, R Γ.g.K α O H v y
    | none => PySem.W.nsIn Γ.g.K d (S z) = some none) (q : tE Γ.g.K (eKin ng kvs f) σ H Q) :
    tOp (fun x y H Q => ∃ (z : Str) (r : Option Value), x = .str z ∧ y = .ref d ∧ PySem.W.nsIn X.K d z = some r ∧ Q (.bl (if ng then !r.isSome else r.isSome)) H) (tE Γ.g.K f) (tC (.ref d)) σ H Q := by
  obtain ⟨α, O, h, env, hr, sr, rv, h', e, k⟩ := q
  unfold eKin at e
  split at e
  · rename_i s h1 e2
    cases e
    refine ⟨α, O, h, env, hr, sr, _, _, e2, fun α1 H1 y s1 o1 => ?_⟩
    have := hk s
    rw [c.K]
    split at this
    · rename_i v ev
      obtain ⟨u, y0, e3, r, q⟩ := this
      refine ⟨S s, some u, o1.isD.str_eq, rfl, e3, ?_⟩
      rw [ev] at k
      exact k α1 H1 _ s1 (.d o1.hr R.bl_mk)
    · rename_i ev
      refine ⟨S s, none, o1.isD.str_eq, rfl, this, ?_⟩
      rw [ev] at k
      exact k α1 H1 _ s1 (.d o1.hr R.bl_mk)
  · cases e
theorem se_kin (C : DAt Γ.g x kvs) (he : SE Γ e f) (hg : Γ.sc.names.lookup x = some .globalImplicit := by rfl) (hd : (x == ("__debug__" : Str)) = false := by decide) (hm : behindInMarks .In (.Name x p) = false := by rfl) : SE Γ (.Compare e [.In] [.Name x p] pos) (eKin false kvs f) := fun X c => by
  obtain ⟨d, es, n, e1, KD, hk⟩ := C.ex
  rw [← c.K, ← c.w] at KD
  refine PE.imp (pe_cmpR (op_in_kd KD) (he X c) (pe_glob (v := .ref d) (u := .ref d) (by show X.env.scope.names.lookup x = _; rw [c.sc]; exact hg) (by rw [c.mg]; exact e1) rfl hd) hm) fun σ H Q q => kin_imp (ng := false) c hk q
theorem se_kni (C : DAt Γ.g x kvs) (he : SE Γ e f) (hg : Γ.sc.names.lookup x = some .globalImplicit := by rfl) (hd : (x == ("__debug__" : Str)) = false := by decide) (hm : behindInMarks .NotIn (.Name x p) = false := by rfl) : SE Γ (.Compare e [.NotIn] [.Name x p] pos) (eKin true kvs f) := fun X c => by
  obtain ⟨d, es, n, e1, KD, hk⟩ := C.ex
  rw [← c.K, ← c.w] at KD
  refine PE.imp (pe_cmpR (op_notIn_kd KD) (he X c) (pe_glob (v := .ref d) (u := .ref d) (by show X.env.scope.names.lookup x = _; rw [c.sc]; exact hg) (by rw [c.mg]; exact e1) rfl hd) hm) fun σ H Q q => kin_imp (ng := true) c hk q
end
end F
/-! F10: small joints for the printed parts. -/
namespace F
open PySem PySem.Spec PyProof.Rows L2

structure FnFact (g : GG) (x : Str) (st : Stmt) (ps : List Str) : Prop where
  ex : ∃ f fd, g.mg x = some (.ref f) ∧ Fun g.K x x st f fd ∧ Binds g.K fd ps []
theorem fnAt {g : GG} {x : Str} {st : Stmt} {N ps : List Str} {k : Nat} {b : DS} (F : FnFact g x st ps) (S : FnScope N ps (defScope st)) (hb : SS ⟨g, N, defScope st, k, fun _ => true⟩ (defBody st) b) : FnAt g (k + 1) x ps (mOf N.length b) := by
  obtain ⟨f, fd, h1, h2, h3⟩ := F.ex
  exact ⟨f, fd, h1, h2.kp, h3, fn_ok h2 S hb⟩
theorem ss_never {Γ : G} {sts : List Stmt} : SS Γ sts dNever := fun X c B => ⟨fun pins s σ H D I q => by
  obtain ⟨α, O, h, env, hr, sr, br, o, e, k⟩ := q
  cases e⟩
theorem nb_frz {f : DE} : ∀ env h c h1, eFrz f env h ≠ some (.b c, h1) := fun env h c h1 e => by
  unfold eFrz at e
  split at e <;> cases e
theorem nb_lst {f : DA} : ∀ env h c h1, eLst f env h ≠ some (.b c, h1) := fun env h c h1 e => by
  unfold eLst at e
  split at e
  · split at e
    · split at e <;> cases e
    · cases e
  · cases e
theorem nb_tup {f : DA} : ∀ env h c h1, eTup f env h ≠ some (.b c, h1) := fun env h c h1 e => by
  unfold eTup at e
  split at e
  · split at e
    · split at e <;> cases e
    · cases e
  · cases e
theorem nb_new {f : DE} : ∀ env h c h1, eNew f env h ≠ some (.b c, h1) := fun env h c h1 e => by
  unfold eNew at e
  split at e <;> cases e
section
variable {Γ : G} {pos p p2 : Pos} {e : Expr} {f : DE} {x : Str} {kvs : List (List Nat × D)}
theorem st_kin (C : DAt Γ.g x kvs) (he : SE Γ e f) (hg : Γ.sc.names.lookup x = some .globalImplicit := by rfl) (hd : (x == ("__debug__" : Str)) = false := by decide) (hm : behindInMarks .In (.Name x p) = false := by rfl) : ST Γ (.Compare e [.In] [.Name x p] pos) (fB (eKin false kvs f)) := fun X c => by
  obtain ⟨d, es, n, e1, KD, hk⟩ := C.ex
  rw [← c.K, ← c.w] at KD
  refine PT.imp (pt_cmpR (op_in_kd KD) (he X c) (pe_glob (v := .ref d) (u := .ref d) (by show X.env.scope.names.lookup x = _; rw [c.sc]; exact hg) (by rw [c.mg]; exact e1) rfl hd) hm) fun σ H Q q => tB_imp (fun σ H Q q => kin_imp (ng := false) c hk q) q
theorem st_kni (C : DAt Γ.g x kvs) (he : SE Γ e f) (hg : Γ.sc.names.lookup x = some .globalImplicit := by rfl) (hd : (x == ("__debug__" : Str)) = false := by decide) (hm : behindInMarks .NotIn (.Name x p) = false := by rfl) : ST Γ (.Compare e [.NotIn] [.Name x p] pos) (fB (eKin true kvs f)) := fun X c => by
  obtain ⟨d, es, n, e1, KD, hk⟩ := C.ex
  rw [← c.K, ← c.w] at KD
  refine PT.imp (pt_cmpR (op_notIn_kd KD) (he X c) (pe_glob (v := .ref d) (u := .ref d) (by show X.env.scope.names.lookup x = _; rw [c.sc]; exact hg) (by rw [c.mg]; exact e1) rfl hd) hm) fun σ H Q q => tB_imp (fun σ H Q q => kin_imp (ng := true) c hk q) q
end
/-! constants -/
theorem cat_int {g : GG} {x : Str} {i : Int} {t : Tok} (h : g.mg x = some (.int i t)) : CAt g x (.int i) := ⟨_, .int i, h, ⟨t, rfl⟩, fun _ _ _ => R.int_mk⟩
theorem cat_str {g : GG} {x y : Str} {l : List Nat} {t : Tok} (h : g.mg x = some (.str y t)) (e : y = S l) : CAt g x (.str l) := ⟨_, .str y, h, ⟨t, rfl⟩, fun _ _ _ => by rw [e]; exact R.str_mk⟩
/-- a value of the written part as data -/
structure KVal (K : PySem.W.Frag) (u : Value) (d : D) : Prop where
  ex : ∃ v, RelV v u ∧ ∀ α O H, R K α O H d v
theorem CAt.of {g : GG} {x : Str} {u : Value} {d : D} (h : g.mg x = some u) (k : KVal g.K u d) : CAt g x d := by
  obtain ⟨v, r, q⟩ := k.ex
  exact ⟨u, v, h, r, q⟩
section
variable {K : PySem.W.Frag}
theorem kv_int {i : Int} {t : Tok} : KVal K (.int i t) (.int i) := ⟨.int i, ⟨t, rfl⟩, fun _ _ _ => R.int_mk⟩
theorem kv_bl {b : Bool} : KVal K (.bool b) (.bl b) := ⟨.bl b, rfl, fun _ _ _ => R.bl_mk⟩
theorem kv_non : KVal K .none .non := ⟨.non, rfl, fun _ _ _ => R.non_mk⟩
theorem kv_str {y : Str} {l : List Nat} {t : Tok} (e : y = S l) : KVal K (.str y t) (.str l) := ⟨.str y, ⟨t, rfl⟩, fun _ _ _ => by rw [e]; exact R.str_mk⟩
inductive KVals (K : PySem.W.Frag) : List Value → List D → Prop
  | nil : KVals K [] []
  | cons {u : Value} {us : List Value} {d : D} {ds : List D} (h : KVal K u d) (t : KVals K us ds) : KVals K (u :: us) (d :: ds)
theorem KVals.get : ∀ {us : List Value} {ds : List D}, KVals K us ds → ∃ xs, Vals xs us ∧ ∀ α O H, RL K α O H ds xs
  | _, _, .nil => ⟨[], .nil, fun _ _ _ => RL.nil⟩
  | _, _, .cons h t => by
    obtain ⟨x, r, q⟩ := h.ex
    obtain ⟨xs, r2, q2⟩ := t.get
    exact ⟨x :: xs, .cons r r2, fun _ _ _ => RL.cons (q _ _ _) (q2 _ _ _)⟩
theorem kv_tup {a : Addr} {dd : Option Addr} {us : List Value} {n : Nat} {sl : Array (Option Value)} {ds : List D} (l : K.lookup a = some ⟨.type "tuple", dd, .seq us.toArray n, sl⟩) (h : KVals K us ds) (hz : us.length ≤ sizeLine) : KVal K (.ref a) (.tup ds) := by
  obtain ⟨xs, r, q⟩ := h.get
  refine ⟨.ref a, rfl, fun α O H => ?_⟩
  simp only [R]
  exact ⟨a, xs, rfl, .inr ⟨_, us.toArray, n, l, rfl, rfl, by simpa using hz, by simpa using r⟩, q _ _ _⟩
theorem ns_miss {d : Addr} {es : Array DictEntry} {n : Nat} {z : Str} (l : K.lookup d = some ⟨.type "dict", none, .dict es n, #[]⟩) (h : ∀ e ∈ es.toList, ∃ x t, e.key = .str x t ∧ x ≠ z) (hr : es.toList.any (·.refKey) = false) : PySem.W.nsIn K d z = some none := by
  unfold PySem.W.nsIn
  rw [l]
  dsimp only
  have : es.toList.find? (fun e => e.key.isStr z) = none := by
    rw [List.find?_eq_none]
    intro e he
    obtain ⟨x, t, e1, e2⟩ := h e he
    rw [e1]
    intro q
    exact e2 (by simpa [Value.isStr] using q)
  rw [this, hr]
  rfl
end
end F
namespace F
open PySem PySem.Spec PyProof.Rows L2
theorem fnFact {g : GG} {x : Str} {st : Stmt} {ps : List Str} {f : Addr} {oc : Value} {od an : Option Addr} {osl : Array (Option Value)} {kV doc pm cdv ct : Value} (m : g.mg x = some (.ref f))
    (l : g.K.lookup f = some ⟨oc, od, .func (PySem.W.fnOf x x (defArgs st) (defBody st) (defScope st) .none kV doc pm an cdv ct), osl⟩) (c : PySem.W.codeIn g.K cdv x = true) (k : PySem.W.keepIn g.K (.ref f) = true) (b : Binds g.K (PySem.W.fnOf x x (defArgs st) (defBody st) (defScope st) .none kV doc pm an cdv ct) ps []) : FnFact g x st ps :=
  ⟨f, _, m, fun_mk l c k, b⟩
/-- the promise of a law -/
def spLaw (K : PySem.W.Frag) : Sp := fun vs H Q _ => ∃ (a : Addr) (ns : List Int), vs = [.ref a] ∧ SqL K H a (ns.map V.int) ∧ ns.length ≤ 63 ∧ ∀ H', Q (.bl true) H'
/-- a law's mirror answers True -/
def Law (m : Mir) : Prop := ∀ ns : List Int, ns.length ≤ 63 → ∃ h', m [.scr (ns.map .int)] [] = some (.d (.bl true), h')
theorem RL_ints {K : PySem.W.Frag} {α : List Addr} {O : Addr → Prop} {H : Hp} : ∀ ns : List Int, RL K α O H (ns.map D.int) (ns.map V.int)
  | [] => RL.nil
  | n :: ns => RL.cons R.int_mk (RL_ints ns)
theorem law_ok {P : Program} {w : World} {K : PySem.W.Frag} {mg : Str → Option Value} {base : Heap} {k : Nat} {f : Addr} {m : Mir} {fd : FuncData} (A : FnOk P w K mg base CX0 k f fd ["script"] (spM K 1 m)) (L : Law m) : FnOk P w K mg base CX0 k f fd ["script"] (spLaw K) := by
  refine A.imp fun vs H Q E q => ?_
  obtain ⟨a, ns, e, hS, hl, hQ⟩ := q
  obtain ⟨h', e'⟩ := L ns hl
  refine ⟨[], fun _ => False, [], [.scr (ns.map .int)], ⟨rfl, List.nodup_nil, fun n c a e => (by simp at e), fun a m => (by cases m), fun a m => False.elim m⟩, ?_, rfl, _, h', e', fun c z => (by cases z), fun α' H' x s o => ?_⟩
  · rw [e]
    refine RL.one ?_
    simp only [R]
    refine ⟨a, _, rfl, ?_, RL_ints ns⟩
    rcases hS with h | h
    · exact .inl ⟨h, by simp, fun z => z⟩
    · exact .inr h
  · rw [o.isD.bl_eq]
    exact hQ _
end F
namespace F
open PySem PySem.Spec PyProof.Rows L2
/-- the values of a written dict, key by key -/
def DVals (K : PySem.W.Frag) (d : Addr) : List (List Nat × D) → List (Value) → Prop
  | [], [] => True
  | kv :: r, u :: us => (PySem.W.nsIn K d (S kv.1) = some (some u) ∧ KVal K u kv.2) ∧ DVals K d r us
  | _, _ => False
theorem DVals.hit {K : PySem.W.Frag} {d : Addr} : ∀ {kvs : List (List Nat × D)} {us : List Value}, DVals K d kvs us → ∀ {z : List Nat} {v : D}, kvs.lookup z = some v → ∃ u, PySem.W.nsIn K d (S z) = some (some u) ∧ KVal K u v
  | [], us, h, z, v, e => by cases e
  | kv :: r, [], h, z, v, e => by cases h
  | (k, x) :: r, u :: us, h, z, v, e => by
    rw [List.lookup_cons] at e
    cases hk : z == k with
    | true =>
      rw [hk] at e
      cases e
      have : z = k := by simpa using hk
      subst this
      exact ⟨u, h.1⟩
    | false =>
      rw [hk] at e
      exact h.2.hit e
theorem lookup_none_ne {kvs : List (List Nat × D)} {z : List Nat} (e : kvs.lookup z = none) : ∀ kv ∈ kvs, kv.1 ≠ z := by
  intro kv hkv he
  induction kvs with
  | nil => cases hkv
  | cons x r ih =>
    rw [List.lookup_cons] at e
    cases hk : z == x.1 with
    | true => rw [hk] at e; cases e
    | false =>
      rw [hk] at e
      rcases List.mem_cons.mp hkv with z1 | z1
      · subst z1
        rw [he] at hk
        simp at hk
      · exact ih e z1
theorem dAt {g : GG} {x : Str} {kvs : List (List Nat × D)} {d : Addr} {es : Array DictEntry} {n : Nat} {us : List Value} {ts : List Tok} (h : g.mg x = some (.ref d)) (l : g.K.lookup d = some ⟨.type "dict", none, .dict es n, #[]⟩) (k : PySem.W.KeysLit g.w.params es.toList) (lo : (d == sysModules) = false)
    (m : es.toList.map (·.key) = (kvs.zip ts).map fun q => .str (S q.1.1) q.2) (hts : kvs.length = ts.length) (r : es.toList.any (·.refKey) = false) (v : DVals g.K d kvs us) : DAt g x kvs := by
  refine ⟨d, es, n, h, ⟨l, k, lo⟩, fun z => ?_⟩
  cases e : kvs.lookup z with
  | some w =>
    obtain ⟨u, e1, q⟩ := v.hit e
    obtain ⟨y, r1, q1⟩ := q.ex
    exact ⟨u, y, e1, r1, q1⟩
  | none =>
    refine ns_miss l (fun e' he => ?_) r
    have : e'.key ∈ es.toList.map (·.key) := List.mem_map_of_mem he
    rw [m] at this
    obtain ⟨q, hq, e2⟩ := List.mem_map.mp this
    refine ⟨_, _, e2.symm, fun z' => ?_⟩
    have hm := (List.of_mem_zip hq).1
    exact lookup_none_ne e _ hm (S_inj.mp z')
end F
/-! F11: the mirrors' equations, for simp: results bound, conditions as cond. -/
namespace F
open PySem L2

def bd {A B : Type} (o : Option A) (k : A → Option B) : Option B := match o with
  | some a => k a
  | none => none
section
variable {A B : Type} {k : A → Option B} {x y : Option A} {a : A}
theorem bd_some : bd (some a) k = k a := rfl
theorem bd_none : bd (none : Option A) k = none := rfl
theorem bd_cond {b : Bool} : bd (cond b x y) k = cond b (bd x k) (bd y k) := by cases b <;> rfl
theorem bd_ite {P : Prop} [Decidable P] : bd (if P then x else y) k = if P then bd x k else bd y k := by split <;> rfl
end
def rdS (h : Hs) : Option Slot → Option (RV × Hs)
  | some (.v d) => some (.d d, h)
  | some (.c c) => some (.b c, h)
  | _ => none
def bK {A : Type} (k : Bool → Option A) : RV → Option A
  | .d (.bl b) => k b
  | _ => none
def iK {A : Type} (k : Int → Option A) : RV → Option A
  | .d (.int b) => k b
  | _ => none
def sK {A : Type} (k : List Nat → Option A) : RV → Option A
  | .d (.str b) => k b
  | _ => none
def dK {A : Type} (k : D → Option A) : RV → Option A
  | .d b => k b
  | _ => none
section
variable {A : Type}
theorem bK_eq {k : Bool → Option A} {b : Bool} : bK k (.d (.bl b)) = k b := rfl
theorem iK_eq {k : Int → Option A} {b : Int} : iK k (.d (.int b)) = k b := rfl
theorem sK_eq {k : List Nat → Option A} {b : List Nat} : sK k (.d (.str b)) = k b := rfl
theorem dK_eq {k : D → Option A} {b : D} : dK k (.d b) = k b := rfl
theorem rdS_v {h : Hs} {d : D} : rdS h (some (.v d)) = some (.d d, h) := rfl
theorem rdS_c {h : Hs} {d : Cell} : rdS h (some (.c d)) = some (.b d, h) := rfl
end
section
variable {env : Env} {h : Hs} {f fa fb fc : DE} {t t' : DT} {fs : DA} {i : Nat} {d : D} {g g' : RV → RV → Hs → Option (RV × Hs)} {gu : RV → Hs → Option (RV × Hs)}
theorem eC_e : eC d env h = some (.d d, h) := rfl
theorem eV_e : eV i env h = rdS h env[i]? := by
  unfold eV rdS
  split <;> simp_all
theorem eB_e : eB g fa fb env h = bd (fa env h) fun p => bd (fb env p.2) fun q => g p.1 q.1 q.2 := by
  unfold eB
  cases fa env h with
  | none => rfl
  | some p =>
    show (match fb env p.2 with | some (y, h2) => g p.1 y h2 | none => none) = bd (fb env p.2) _
    cases fb env p.2 <;> rfl
theorem eU_e : eU gu fa env h = bd (fa env h) fun p => gu p.1 p.2 := by
  unfold eU
  cases fa env h <;> rfl
theorem fB_e : fB f env h = bd (f env h) fun p => bK (fun b => some (b, p.2)) p.1 := by
  unfold fB
  cases f env h with
  | none => rfl
  | some p =>
    obtain ⟨x, h1⟩ := p
    show _ = bK _ x
    unfold bK
    split <;> simp_all
theorem eCh_e : eCh g g' fa fb fc env h = bd (fa env h) fun p => bd (fb env p.2) fun q => bd (g p.1 q.1 q.2) fun r => bK (fun b => cond b (bd (fc env r.2) fun s => g' q.1 s.1 s.2) (some (.d (.bl false), r.2))) r.1 := by
  unfold eCh
  cases fa env h with
  | none => rfl
  | some p =>
    obtain ⟨x, h1⟩ := p
    simp only [bd_some]
    cases fb env h1 with
    | none => rfl
    | some q =>
      obtain ⟨y, h2⟩ := q
      simp only [bd_some]
      cases g x y h2 with
      | none => rfl
      | some r =>
        obtain ⟨z, h3⟩ := r
        simp only [bd_some]
        split
        · rename_i e; cases e; rw [bK_eq]; cases fc env h3 <;> rfl
        · rename_i e; cases e; rfl
        · rename_i n1 n2
          unfold bK
          split
          · rename_i b
            cases b
            · exact (n2 _ rfl).elim
            · exact (n1 _ rfl).elim
          · rfl
theorem fAnd_e : fAnd t t' env h = bd (t env h) fun p => cond p.1 (t' env p.2) (some (false, p.2)) := by
  unfold fAnd
  cases t env h with
  | none => rfl
  | some p => obtain ⟨b, h1⟩ := p; cases b <;> rfl
theorem fOr_e : fOr t t' env h = bd (t env h) fun p => cond p.1 (some (true, p.2)) (t' env p.2) := by
  unfold fOr
  cases t env h with
  | none => rfl
  | some p => obtain ⟨b, h1⟩ := p; cases b <;> rfl
theorem fNot_e : fNot t env h = bd (t env h) fun p => some (!p.1, p.2) := by
  unfold fNot
  cases t env h <;> rfl
theorem fYes_e : fYes env h = some (true, h) := rfl
theorem eIf_e : eIf t fa fb env h = bd (t env h) fun p => cond p.1 (fa env p.2) (fb env p.2) := by
  unfold eIf
  cases t env h with
  | none => rfl
  | some p => obtain ⟨b, h1⟩ := p; cases b <;> rfl
theorem eNot_e : eNot f env h = bd (f env h) fun p => bK (fun b => some (.d (.bl !b), p.2)) p.1 := by
  unfold eNot
  cases f env h with
  | none => rfl
  | some p =>
    obtain ⟨x, h1⟩ := p
    show _ = bK _ x
    unfold bK
    split <;> simp_all
theorem eAnd_e : eAnd fa fb env h = bd (fa env h) fun p => bK (fun b => cond b (fb env p.2) (some (.d (.bl false), p.2))) p.1 := by
  unfold eAnd
  cases fa env h with
  | none => rfl
  | some p =>
    obtain ⟨x, h1⟩ := p
    show _ = bK _ x
    unfold bK
    split <;> simp_all
theorem eOr_e : eOr fa fb env h = bd (fa env h) fun p => bK (fun b => cond b (some (.d (.bl true), p.2)) (fb env p.2)) p.1 := by
  unfold eOr
  cases fa env h with
  | none => rfl
  | some p =>
    obtain ⟨x, h1⟩ := p
    show _ = bK _ x
    unfold bK
    split <;> simp_all
theorem aNil_e : aNil env h = some ([], h) := rfl
theorem aCons_e : aCons f fs env h = bd (f env h) fun p => bd (fs env p.2) fun q => some (p.1 :: q.1, q.2) := by
  unfold aCons
  cases f env h with
  | none => rfl
  | some p =>
    obtain ⟨x, h1⟩ := p
    simp only [bd_some]
    cases fs env h1 <;> rfl
theorem plain_nil : plain [] = some [] := rfl
theorem plain_cons {r : List RV} : plain (.d d :: r) = bd (plain r) fun ds => some (d :: ds) := by
  show (match plain r with | some ds => some (d :: ds) | none => none) = _
  cases plain r <;> rfl
/-- a short display -/
def tupK (h : Hs) (ds : List D) : Option (RV × Hs) := if ds.length ≤ sizeLine then some (.d (.tup ds), h) else none
def lstK (h : Hs) (ds : List D) : Option (RV × Hs) := if ds.length ≤ sizeLine then some (.l (.lst ds), h) else none
theorem tupK_e {ds : List D} (hz : ds.length ≤ 1000) : tupK h ds = some (.d (.tup ds), h) := if_pos (Nat.le_trans hz (by decide))
theorem lstK_e {ds : List D} (hz : ds.length ≤ 1000) : lstK h ds = some (.l (.lst ds), h) := if_pos (Nat.le_trans hz (by decide))
theorem eTup_e : eTup fs env h = bd (fs env h) fun p => bd (plain p.1) fun ds => tupK p.2 ds := by
  unfold eTup
  cases fs env h with
  | none => rfl
  | some p => obtain ⟨x, h1⟩ := p; simp only [bd_some]; cases plain x <;> rfl
theorem eLst_e : eLst fs env h = bd (fs env h) fun p => bd (plain p.1) fun ds => lstK p.2 ds := by
  unfold eLst
  cases fs env h with
  | none => rfl
  | some p => obtain ⟨x, h1⟩ := p; simp only [bd_some]; cases plain x <;> rfl
def frzR (h : Hs) : RV → Option (RV × Hs)
  | .l (.lst ds) => some (.d (.rol ds), h)
  | .d d => some (.d d, h)
  | _ => none
theorem frzR_l {ds : List D} : frzR h (.l (.lst ds)) = some (.d (.rol ds), h) := rfl
theorem frzR_d : frzR h (.d d) = some (.d d, h) := rfl
theorem eFrz_e : eFrz f env h = bd (f env h) fun p => frzR p.2 p.1 := by
  unfold eFrz
  cases f env h with
  | none => rfl
  | some p =>
    obtain ⟨x, h1⟩ := p
    show _ = frzR h1 x
    unfold frzR
    split <;> simp_all
def newR (h : Hs) : RV → Option (RV × Hs)
  | .l c => some (.d (.ref h.length), h ++ [c])
  | _ => none
theorem newR_l {c : Cell} : newR h (.l c) = some (.d (.ref h.length), h ++ [c]) := rfl
theorem eNew_e : eNew f env h = bd (f env h) fun p => newR p.2 p.1 := by
  unfold eNew
  cases f env h with
  | none => rfl
  | some p =>
    obtain ⟨x, h1⟩ := p
    show _ = newR h1 x
    unfold newR
    split <;> simp_all
theorem oN_e : oN env h = some (none, h) := rfl
theorem oI_e : oI f env h = bd (f env h) fun p => iK (fun i => some (some i, p.2)) p.1 := by
  unfold oI
  cases f env h with
  | none => rfl
  | some p =>
    obtain ⟨x, h1⟩ := p
    show _ = iK _ x
    unfold iK
    split <;> simp_all
theorem eSl_e {fl fu : DO} : eSl fa fl fu env h = bd (fa env h) fun p => bd (fl env p.2) fun q => bd (fu env q.2) fun r => gSl p.1 q.1 r.1 r.2 := by
  unfold eSl
  cases fa env h with
  | none => rfl
  | some p =>
    obtain ⟨x, h1⟩ := p
    simp only [bd_some]
    cases fl env h1 with
    | none => rfl
    | some q =>
      obtain ⟨y, h2⟩ := q
      simp only [bd_some]
      cases fu env h2 <;> rfl
theorem eF_e {gf : List RV → Hs → Option (RV × Hs)} : eF gf fs env h = bd (fs env h) fun p => gf p.1 p.2 := by
  unfold eF
  cases fs env h <;> rfl
theorem eM1_e {gm : List Nat → RV → Hs → Option (RV × Hs)} : eM1 gm fa fb env h = bd (fa env h) fun p => sK (fun s => bd (fb env p.2) fun q => gm s q.1 q.2) p.1 := by
  unfold eM1
  cases fa env h with
  | none => rfl
  | some p =>
    obtain ⟨x, h1⟩ := p
    show _ = sK _ x
    unfold sK
    split
    · rename_i e
      cases e
      simp only
      cases fb env h1 <;> rfl
    · rename_i n
      split
      · rename_i z _; exact absurd rfl (n _ _)
      · rfl
theorem eIsi_e {Ts : List TN} : eIsi Ts f env h = bd (f env h) fun p => bd (tyN p.1 p.2) fun T => some (.d (.bl (Ts.any T.is)), p.2) := by
  unfold eIsi
  cases f env h with
  | none => rfl
  | some p => obtain ⟨x, h1⟩ := p; simp only [bd_some]; cases tyN x h1 <;> rfl
theorem eKget_e {kvs : List (List Nat × D)} : eKget kvs f env h = bd (f env h) fun p => sK (fun s => bd (kvs.lookup s) fun v => some (.d v, p.2)) p.1 := by
  unfold eKget
  cases f env h with
  | none => rfl
  | some p =>
    obtain ⟨x, h1⟩ := p
    show _ = sK _ x
    unfold sK
    split
    · rename_i e
      cases e
      simp only
      cases kvs.lookup _ <;> rfl
    · rename_i n
      split
      · rename_i z _; exact absurd rfl (n _ _)
      · rfl
theorem eKin_e {ng : Bool} {kvs : List (List Nat × D)} : eKin ng kvs f env h = bd (f env h) fun p => sK (fun s => some (.d (.bl (if ng then !(kvs.lookup s).isSome else (kvs.lookup s).isSome)), p.2)) p.1 := by
  unfold eKin
  cases f env h with
  | none => rfl
  | some p =>
    obtain ⟨x, h1⟩ := p
    show _ = sK _ x
    unfold sK
    split <;> simp_all
def callR : Option (RV × Hs) → Option (RV × Hs)
  | some (.b _, _) => none
  | r => r
theorem callR_d : callR (some (.d d, h)) = some (.d d, h) := rfl
theorem callR_l {c : Cell} : callR (some (.l c, h)) = some (.l c, h) := rfl
theorem eCall_e {m : Mir} : eCall m fs env h = bd (fs env h) fun p => bd (plain p.1) fun ds => callR (m ds p.2) := by
  unfold eCall
  cases fs env h with
  | none => rfl
  | some p =>
    obtain ⟨x, h1⟩ := p
    simp only [bd_some]
    cases plain x with
    | none => rfl
    | some ds =>
      simp only [bd_some]
      unfold callR
      split <;> simp_all
end
/-! statements -/
def sqS (g : DS) : Option SOut → Option SOut
  | some (.nx env1 h1) => g env1 h1
  | r => r
section
variable {env env' : Env} {h h' : Hs} {f : DE} {b b' : DS} {t : DT} {i : Nat} {rv : RV} {x y : Option SOut}
theorem sqS_nx : sqS b (some (.nx env h)) = b env h := rfl
theorem sqS_rt : sqS b (some (.rt rv h)) = some (.rt rv h) := rfl
theorem sqS_bk : sqS b (some (.bk env h)) = some (.bk env h) := rfl
theorem sqS_ct : sqS b (some (.ct env h)) = some (.ct env h) := rfl
theorem sqS_none : sqS b none = none := rfl
theorem sqS_cond {c : Bool} : sqS b (cond c x y) = cond c (sqS b x) (sqS b y) := by cases c <;> rfl
theorem sqS_ite {P : Prop} [Decidable P] : sqS b (if P then x else y) = if P then sqS b x else sqS b y := by split <;> rfl
theorem dSeq_e : dSeq b b' env h = sqS b' (b env h) := by
  unfold dSeq sqS
  split <;> simp_all
theorem dNil_e : dNil env h = some (.nx env h) := rfl
theorem dIf_e : dIf t b b' env h = bd (t env h) fun p => cond p.1 (b env p.2) (b' env p.2) := by
  unfold dIf
  cases t env h with
  | none => rfl
  | some p => obtain ⟨c, h1⟩ := p; cases c <;> rfl
def setR (i : Nat) (env : Env) (h : Hs) : RV → Option SOut
  | .d d => some (.nx (env.set i (.v d)) h)
  | .l c => some (.nx (env.set i (.c c)) h)
  | _ => none
theorem setR_d {d : D} : setR i env h (.d d) = some (.nx (env.set i (.v d)) h) := rfl
theorem setR_l {d : Cell} : setR i env h (.l d) = some (.nx (env.set i (.c d)) h) := rfl
theorem dSet_e : dSet i f env h = bd (f env h) fun p => setR i env p.2 p.1 := by
  unfold dSet
  cases f env h with
  | none => rfl
  | some p =>
    obtain ⟨x, h1⟩ := p
    show _ = setR i env h1 x
    unfold setR
    split <;> simp_all
def retR (h : Hs) : RV → Option SOut
  | .d d => some (.rt (.d d) h)
  | .l c => some (.rt (.l c) h)
  | .b c => some (.rt (.l c) h)
theorem retR_d {d : D} : retR h (.d d) = some (.rt (.d d) h) := rfl
theorem retR_l {d : Cell} : retR h (.l d) = some (.rt (.l d) h) := rfl
theorem retR_b {d : Cell} : retR h (.b d) = some (.rt (.l d) h) := rfl
theorem dRet_e : dRet f env h = bd (f env h) fun p => retR p.2 p.1 := by
  unfold dRet
  cases f env h with
  | none => rfl
  | some p =>
    obtain ⟨x, h1⟩ := p
    cases x <;> rfl
theorem dExpr_e : dExpr f env h = bd (f env h) fun p => some (.nx env p.2) := by
  unfold dExpr
  cases f env h <;> rfl
theorem dAsg_e {g : DG} : dAsg f g env h = bd (f env h) fun p => dK (fun d => bd (g d env) fun env1 => some (.nx env1 p.2)) p.1 := by
  unfold dAsg
  cases f env h with
  | none => rfl
  | some p =>
    obtain ⟨x, h1⟩ := p
    cases x with
    | d d => simp only [bd_some, dK_eq]; cases g d env <;> rfl
    | l c => rfl
    | b c => rfl
theorem gTp_e {gs : List DG} {ds : List D} : gTp gs (.tup ds) env = gAll gs ds env := rfl
theorem gNm_e {d : D} : gNm i d env = some (env.set i (.v d)) := rfl
theorem gAll_nil : gAll [] [] env = some env := rfl
theorem gAll_cons {g : DG} {gs : List DG} {d : D} {ds : List D} : gAll (g :: gs) (d :: ds) env = bd (g d env) fun env1 => gAll gs ds env1 := by
  show (match g d env with | some env1 => gAll gs ds env1 | none => none) = _
  cases g d env <;> rfl
theorem dFrz_v {d : D} (e : env[i]? = some (.v d)) : dFrz i b env h = b env h := by unfold dFrz frz; rw [e]
theorem dFrz_c {ds : List D} (e : env[i]? = some (.c (.lst ds))) : dFrz i b env h = b (env.set i (.v (.rol ds))) h := by unfold dFrz frz; rw [e]
theorem dApp_c {ds : List D} (e : env[i]? = some (.c (.lst ds))) (hz : ds.length ≤ 1000) : dApp i f env h = bd (f env h) fun p => dK (fun d => some (.nx (env.set i (.c (.lst (ds ++ [d])))) p.2)) p.1 := by
  unfold dApp
  rw [e]
  have : ds.length < sizeLine := Nat.lt_of_le_of_lt hz (by decide)
  simp only [this, if_true]
  cases f env h with
  | none => rfl
  | some p =>
    obtain ⟨x, h1⟩ := p
    cases x <;> rfl
/-- how a def ends -/
noncomputable def fin (h : Hs) : Option SOut → Option (RV × Hs)
  | some (.rt rv h') => some (rv, gc h h' rv)
  | some (.nx _ h') => some (.d .non, gc h h' (.d .non))
  | _ => none
theorem fin_rt : fin h (some (.rt rv h')) = some (rv, gc h h' rv) := rfl
theorem fin_nx : fin h (some (.nx env h')) = some (.d .non, gc h h' (.d .non)) := rfl
theorem fin_none : fin h none = none := rfl
theorem fin_cond {c : Bool} : fin h (cond c x y) = cond c (fin h x) (fin h y) := by cases c <;> rfl
theorem mOf_e {n : Nat} {ds : List D} : mOf n b ds h = fin h (b (ds.map .v ++ List.replicate (n - ds.length) .no) h) := by
  unfold mOf fin
  split <;> simp_all
theorem gc_len (e : h'.length = h.length) : gc h h' rv = h' := by
  unfold gc
  split
  · rw [← e]; exact List.take_length
  · rfl
theorem gc_same : gc h h rv = h := gc_len rfl
theorem dFor_e {it : DI} {g : DG} : dFor it g b env h = bd (it env h) fun p => dFl g b p.1 env p.2 := by
  unfold dFor
  cases it env h <;> rfl
/-- one round's end -/
def rnd (k : DS) : Option SOut → Option SOut
  | some (.nx env2 h2) => k env2 h2
  | some (.ct env2 h2) => k env2 h2
  | some (.bk env2 h2) => some (.nx env2 h2)
  | r => r
theorem rnd_nx : rnd b (some (.nx env h)) = b env h := rfl
theorem rnd_ct : rnd b (some (.ct env h)) = b env h := rfl
theorem rnd_bk : rnd b (some (.bk env h)) = some (.nx env h) := rfl
theorem rnd_rt : rnd b (some (.rt rv h)) = some (.rt rv h) := rfl
theorem rnd_none : rnd b none = none := rfl
theorem rnd_cond {c : Bool} : rnd b (cond c x y) = cond c (rnd b x) (rnd b y) := by cases c <;> rfl
theorem dFl_nil {g : DG} : dFl g b [] env h = some (.nx env h) := rfl
theorem dFl_cons {g : DG} {d : D} {ds : List D} : dFl g b (d :: ds) env h = bd (g d env) fun env1 => rnd (dFl g b ds) (b env1 h) := by
  rw [dFl.eq_2]
  dsimp only
  generalize dFl g b ds = K
  cases g d env with
  | none => rfl
  | some env1 =>
    simp only [bd_some]
    unfold rnd
    split <;> simp_all
theorem dWh_succ {n : Nat} : dWh t b (n + 1) env h = bd (t env h) fun p => cond p.1 (rnd (dWh t b n) (b env p.2)) (some (.nx env p.2)) := by
  rw [dWh.eq_2]
  dsimp only
  generalize dWh t b n = K
  cases t env h with
  | none => rfl
  | some p =>
    obtain ⟨c, h1⟩ := p
    cases c with
    | false => rfl
    | true =>
      simp only [bd_some, cond_true]
      unfold rnd
      split <;> simp_all
end
/-! iterables, comprehensions -/
section
variable {env env' : Env} {h h' : Hs} {f te : DE} {tt : DT} {fs : DA} {g : DG} {it : DI} {vs : List Nat}
def itR (h : Hs) : RV → Option (List D × Hs)
  | .d (.rol ds) => some (ds, h)
  | .d (.scr ds) => some (ds, h)
  | .l (.lst ds) => some (ds, h)
  | .d (.tup ds) => some (ds, h)
  | .d (.str s) => some (s.map fun c => .str [c], h)
  | _ => none
theorem itR_rol {ds : List D} : itR h (.d (.rol ds)) = some (ds, h) := rfl
theorem itR_scr {ds : List D} : itR h (.d (.scr ds)) = some (ds, h) := rfl
theorem itR_l {ds : List D} : itR h (.l (.lst ds)) = some (ds, h) := rfl
theorem itR_tup {ds : List D} : itR h (.d (.tup ds)) = some (ds, h) := rfl
theorem itR_str {s : List Nat} : itR h (.d (.str s)) = some (s.map fun c => .str [c], h) := rfl
theorem iE_e : iE f env h = bd (f env h) fun p => itR p.2 p.1 := by
  unfold iE
  cases f env h with
  | none => rfl
  | some p =>
    obtain ⟨x, h1⟩ := p
    show _ = itR h1 x
    unfold itR
    split <;> simp_all
/-- range(j), j small -/
def rngK (h : Hs) : List RV → Option (List D × Hs)
  | [.d (.int j)] => if inB j then some (rangeL 0 1 j.toNat, h) else none
  | _ => none
theorem iR1_e : iR1 fs env h = bd (fs env h) fun p => rngK p.2 p.1 := by
  unfold iR1
  cases fs env h with
  | none => rfl
  | some p =>
    obtain ⟨x, h1⟩ := p
    show _ = rngK h1 x
    unfold rngK
    split <;> simp_all
theorem rngK_e {j : Int} (h1 : -1000000 ≤ j) (h2 : j ≤ 1000000) : rngK h [.d (.int j)] = some (rangeL 0 1 j.toNat, h) := by
  have : inB j = true := by unfold inB; exact decide_eq_true (by omega)
  simp only [rngK, this, if_true]
/-- the comprehension's list -/
def lcK (vs : List Nat) (g : DG) (tt : DT) (te : DE) (env : Env) (ds : List D) (h : Hs) : Option (RV × Hs) := if ds.length ≤ sizeLine then bd (lcL g tt te (wipeE env vs) ds h) fun q => some (.l (.lst q.1), q.2) else none
theorem eLc_e : eLc it g tt te vs env h = bd (it env h) fun p => lcK vs g tt te env p.1 p.2 := by
  unfold eLc
  cases it env h with
  | none => rfl
  | some p =>
    obtain ⟨ds, h1⟩ := p
    show _ = lcK vs g tt te env ds h1
    unfold lcK
    simp only
    split
    · cases lcL g tt te (wipeE env vs) ds h1 <;> rfl
    · rfl
theorem lcL_map {E : D → Env} {v : D → D} : ∀ {ds : List D}, (∀ d ∈ ds, g d env = some (E d) ∧ tt (E d) h = some (true, h) ∧ te (E d) h = some (.d (v d), h)) → lcL g tt te env ds h = some (ds.map v, h)
  | [], _ => rfl
  | d :: ds, H => by
    obtain ⟨h1, h2, h3⟩ := H d List.mem_cons_self
    unfold lcL
    rw [h1]
    simp only [h2, h3]
    rw [lcL_map fun d hd => H d (List.mem_cons_of_mem _ hd)]
    rfl
theorem lcL_filter {E : D → Env} {q : D → Bool} {v : D → D} : ∀ {ds : List D}, (∀ d ∈ ds, g d env = some (E d) ∧ tt (E d) h = some (q d, h) ∧ (q d = true → te (E d) h = some (.d (v d), h))) → lcL g tt te env ds h = some ((ds.filter q).map v, h)
  | [], _ => rfl
  | d :: ds, H => by
    obtain ⟨h1, h2, h3⟩ := H d List.mem_cons_self
    have ih := lcL_filter (ds := ds) fun d hd => H d (List.mem_cons_of_mem _ hd)
    unfold lcL
    rw [h1]
    simp only [h2]
    cases hq : q d with
    | true =>
      rw [hq] at h3
      simp only [h3 rfl, ih]
      rw [List.filter_cons_of_pos hq]; rfl
    | false =>
      simp only [ih]
      rw [List.filter_cons_of_neg (by rw [hq]; exact Bool.false_ne_true)]
theorem lcK_map {E : D → Env} {v : D → D} {ds : List D} (hz : ds.length ≤ 100000) (H : ∀ d ∈ ds, g d (wipeE env vs) = some (E d) ∧ tt (E d) h = some (true, h) ∧ te (E d) h = some (.d (v d), h)) : lcK vs g tt te env ds h = some (.l (.lst (ds.map v)), h) := by
  unfold lcK
  rw [if_pos (Nat.le_trans hz (by decide)), lcL_map H]
  rfl
theorem lcK_filter {E : D → Env} {q : D → Bool} {v : D → D} {ds : List D} (hz : ds.length ≤ 100000) (H : ∀ d ∈ ds, g d (wipeE env vs) = some (E d) ∧ tt (E d) h = some (q d, h) ∧ (q d = true → te (E d) h = some (.d (v d), h))) : lcK vs g tt te env ds h = some (.l (.lst ((ds.filter q).map v)), h) := by
  unfold lcK
  rw [if_pos (Nat.le_trans hz (by decide)), lcL_filter H]
  rfl
end
end F
/-! F12: values of the operators, for simp. -/
namespace F
open PySem L2
section
variable {h : Hs} {a b s z : List Nat} {i j : Int} {p q : Bool} {c : Nat} {ds es : List D} {d : D} {x : RV}
theorem gEq_str : gEqN false (.d (.str a)) (.d (.str b)) h = some (.d (.bl (a == b)), h) := rfl
theorem gNe_str : gEqN true (.d (.str a)) (.d (.str b)) h = some (.d (.bl (!(a == b))), h) := rfl
theorem gEq_int : gEqN false (.d (.int i)) (.d (.int j)) h = some (.d (.bl (i == j)), h) := rfl
theorem gNe_int : gEqN true (.d (.int i)) (.d (.int j)) h = some (.d (.bl (!(i == j))), h) := rfl
theorem gEq_bl : gEqN false (.d (.bl p)) (.d (.bl q)) h = some (.d (.bl (p == q)), h) := rfl
theorem gNe_bl : gEqN true (.d (.bl p)) (.d (.bl q)) h = some (.d (.bl (!(p == q))), h) := rfl
theorem gLt_int : gLt (.d (.int i)) (.d (.int j)) h = some (.d (.bl (decide (i < j))), h) := rfl
theorem gLe_int : gLe (.d (.int i)) (.d (.int j)) h = some (.d (.bl (decide (i ≤ j))), h) := rfl
theorem gGt_int : gGt (.d (.int i)) (.d (.int j)) h = some (.d (.bl (decide (j < i))), h) := rfl
theorem gGe_int : gGe (.d (.int i)) (.d (.int j)) h = some (.d (.bl (decide (j ≤ i))), h) := rfl
theorem gAdd_int : gAdd (.d (.int i)) (.d (.int j)) h = some (.d (.int (i + j)), h) := rfl
theorem gAdd_str (hz : a.length + b.length ≤ 100000) : gAdd (.d (.str a)) (.d (.str b)) h = some (.d (.str (a ++ b)), h) := if_pos (Nat.le_trans hz (by decide))
theorem gAdd_lst {u v : RV} (hu : lvT u h = some ds) (hv : lvT v h = some es) (nu : ∀ d, u ≠ .d (.int d)) (ns : ∀ d, u ≠ .d (.str d)) (nt : ∀ d, u ≠ .d (.tup d)) (hz : ds.length + es.length ≤ 100000) : gAdd u v h = some (.l (.lst (ds ++ es)), h) := by
  unfold gAdd
  split
  · exact absurd rfl (nu _)
  · exact absurd rfl (ns _)
  · exact absurd rfl (nt _)
  · rw [hu, hv]
    exact if_pos (Nat.le_trans hz (by decide))
theorem gSub_e : gI sub' (.d (.int i)) (.d (.int j)) h = some (.d (.int (i - j)), h) := rfl
theorem gMod_e (hj : j ≠ 0) : gI mod' (.d (.int i)) (.d (.int j)) h = some (.d (.int (i.fmod j)), h) := by simp only [gI, mod', if_pos hj]
theorem gFdiv_e (hj : j ≠ 0) (h2 : j.natAbs < 1073741824) : gI fdiv' (.d (.int i)) (.d (.int j)) h = some (.d (.int (i.fdiv j)), h) := by simp only [gI, fdiv', if_pos (And.intro hj (show j.natAbs < 1267650600228229401496703205376 by omega))]
theorem gFdiv_L (hj : j ≠ 0) (h2 : j.natAbs < 1267650600228229401496703205376) : gI fdiv' (.d (.int i)) (.d (.int j)) h = some (.d (.int (i.fdiv j)), h) := by simp only [gI, fdiv', if_pos (And.intro hj h2)]
theorem gPow_e (h1 : 0 ≤ j) (h2 : ((Builtin.Int.intBits i : Nat) : Int) * j ≤ 100000) : gI pow' (.d (.int i)) (.d (.int j)) h = some (.d (.int (i ^ j.toNat)), h) := by simp only [gI, pow', if_pos (And.intro h1 h2)]
theorem gMul_int (hc : (-18446744073709551616 < i ∧ i < 18446744073709551616) ∨ (-18446744073709551616 < j ∧ j < 18446744073709551616)) : gMul (.d (.int i)) (.d (.int j)) h = some (.d (.int (i * j)), h) := by simp only [gMul, mul', if_pos hc]
theorem gNeg_e : gNeg (.d (.int i)) h = some (.d (.int (-i)), h) := rfl
theorem gIn_sign : gInN false (.d (.str [c])) (.d (.str z)) h = some (.d (.bl (decide (c ∈ z))), h) := rfl
theorem gNi_sign : gInN true (.d (.str [c])) (.d (.str z)) h = some (.d (.bl (!decide (c ∈ z))), h) := rfl
theorem gIn_sq (hs : sq x h = some ds) (hd : flD d = true) (hf : ds.all flD = true) (n : ∀ z, x ≠ .d (.str z)) : gInN false (.d d) x h = some (.d (.bl (inF d ds)), h) := by
  unfold gInN
  split
  · exact absurd rfl (n _)
  · exact absurd rfl (n _)
  · rename_i e _ _; cases e; rw [hs]; simp only [hd, hf, Bool.and_self, if_true]; rfl
  · exfalso; simp_all
theorem gNi_sq (hs : sq x h = some ds) (hd : flD d = true) (hf : ds.all flD = true) (n : ∀ z, x ≠ .d (.str z)) : gInN true (.d d) x h = some (.d (.bl (!inF d ds)), h) := by
  unfold gInN
  split
  · exact absurd rfl (n _)
  · exact absurd rfl (n _)
  · rename_i e _ _; cases e; rw [hs]; simp only [hd, hf, Bool.and_self, if_true]
  · exfalso; simp_all
theorem gIn_tup (hf : ds.all flD = true) : gInN false (.d (.str s)) (.d (.tup ds)) h = some (.d (.bl (inF (.str s) ds)), h) := gIn_sq rfl rfl hf fun _ e => by cases e
theorem gNi_tup (hf : ds.all flD = true) : gInN true (.d (.str s)) (.d (.tup ds)) h = some (.d (.bl (!inF (.str s) ds)), h) := gNi_sq rfl rfl hf fun _ e => by cases e
theorem gIn_lst (hf : ds.all flD = true) : gInN false (.d (.str s)) (.l (.lst ds)) h = some (.d (.bl (inF (.str s) ds)), h) := gIn_sq rfl rfl hf fun _ e => by cases e
theorem gNi_lst (hf : ds.all flD = true) : gInN true (.d (.str s)) (.l (.lst ds)) h = some (.d (.bl (!inF (.str s) ds)), h) := gNi_sq rfl rfl hf fun _ e => by cases e
theorem gIs_e : gIsN false x (.d .non) h = some (.d (.bl (isNon x)), h) := by cases x <;> rfl
theorem gIsNot_e : gIsN true x (.d .non) h = some (.d (.bl (!isNon x)), h) := by cases x <;> rfl
theorem atI_nat {T : Type} {l : List T} {k : Nat} (hk : k < l.length) : atI l (k : Int) = l[k]? := by
  unfold atI ixN
  rw [if_pos (by omega), if_pos (by omega)]
  rfl
theorem atI_zero {T : Type} {l : List T} {a : T} : atI (a :: l) 0 = some a := by
  have := atI_nat (l := a :: l) (k := 0) (by simp)
  simpa using this
theorem atI_one {T : Type} {l : List T} {a b : T} : atI (a :: b :: l) 1 = some b := by
  have := atI_nat (l := a :: b :: l) (k := 1) (by simp)
  simpa using this
theorem atI_two {T : Type} {l : List T} {a b c : T} : atI (a :: b :: c :: l) 2 = some c := by
  have := atI_nat (l := a :: b :: c :: l) (k := 2) (by simp)
  simpa using this
theorem atI_int {T : Type} {l : List T} {i : Int} (h0 : 0 ≤ i) (hk : i < l.length) : atI l i = l[i.toNat]? := by
  have := atI_nat (l := l) (k := i.toNat) (by omega)
  rw [← this]
  congr 1
  omega
theorem atI_last {T : Type} {l : List T} {a : T} : atI (l ++ [a]) (-1) = some a := by
  unfold atI ixN
  rw [if_neg (by omega), if_pos (by simp; omega)]
  show (l ++ [a])[((-1 : Int) + ((l ++ [a]).length : Nat)).toNat]? = some a
  have : ((-1 : Int) + ((l ++ [a]).length : Nat)).toNat = l.length := by simp; omega
  rw [this]
  simp
theorem gIx_str {c : Nat} (hz : s.length ≤ 100000) (e : atI s i = some c) : gIx (.d (.str s)) (.d (.int i)) h = some (.d (.str [c]), h) := by
  simp only [gIx, if_pos (Nat.le_trans hz (by decide : 100000 ≤ sizeLine)), e]
theorem gIx_sq (hs : sq x h = some ds) (n : ∀ z, x ≠ .d (.str z)) (e : atI ds i = some d) : gIx x (.d (.int i)) h = some (.d d, h) := by
  unfold gIx
  split
  · exact absurd rfl (n _)
  · rename_i _ e1; cases e1; rw [hs]; simp only [e]
  · exfalso; simp_all
theorem gIx_tup (e : atI ds i = some d) : gIx (.d (.tup ds)) (.d (.int i)) h = some (.d d, h) := gIx_sq rfl (fun _ e => by cases e) e
theorem gIx_rol (e : atI ds i = some d) : gIx (.d (.rol ds)) (.d (.int i)) h = some (.d d, h) := gIx_sq rfl (fun _ e => by cases e) e
theorem gIx_lst (e : atI ds i = some d) : gIx (.l (.lst ds)) (.d (.int i)) h = some (.d d, h) := gIx_sq rfl (fun _ e => by cases e) e
theorem gIx_ref {n : Nat} (hn : h[n]? = some (.lst ds)) (e : atI ds i = some d) : gIx (.d (.ref n)) (.d (.int i)) h = some (.d d, h) := gIx_sq (by simp only [sq, lv, hn]) (fun _ e => by cases e) e
theorem gLen_str (hz : s.length ≤ 100000) : gLen [.d (.str s)] h = some (.d (.int s.length), h) := if_pos (Nat.le_trans hz (by decide))
theorem gLen_rol : gLen [.d (.rol ds)] h = some (.d (.int ds.length), h) := rfl
theorem gLen_scr : gLen [.d (.scr ds)] h = some (.d (.int ds.length), h) := rfl
theorem gLen_tup : gLen [.d (.tup ds)] h = some (.d (.int ds.length), h) := rfl
theorem gLen_l : gLen [.l (.lst ds)] h = some (.d (.int ds.length), h) := rfl
theorem gLen_b : gLen [.b (.lst ds)] h = some (.d (.int ds.length), h) := rfl
theorem gLen_ref {n : Nat} (hn : h[n]? = some (.lst ds)) : gLen [.d (.ref n)] h = some (.d (.int ds.length), h) := by
  show (match sq (.d (.ref n)) h with | some ds => some (RV.d (.int ds.length), h) | none => none) = _
  have : sq (.d (.ref n)) h = some ds := by simp only [sq, lv, hn]
  rw [this]
theorem cut_take {T : Type} {l : List T} {n : Nat} : cut l none (some (n : Int)) = l.take n := by
  unfold cut HT.sIx
  simp only [if_neg (show ¬ ((n : Int) < 0) by omega), Int.toNat_natCast, List.drop_zero, Nat.sub_zero]
  rw [List.take_eq_take_iff]
  omega
theorem cut_drop {T : Type} {l : List T} {n : Nat} : cut l (some (n : Int)) none = l.drop n := by
  unfold cut HT.sIx
  simp only [if_neg (show ¬ ((n : Int) < 0) by omega), Int.toNat_natCast]
  by_cases hn : n ≤ l.length
  · rw [Nat.min_eq_left hn]
    apply List.take_of_length_le
    simp
  · have : l.length ≤ n := by omega
    rw [Nat.min_eq_right this]
    simp [List.drop_eq_nil_of_le this]
theorem cut_both {T : Type} {l : List T} {m n : Nat} (hn : n ≤ l.length) (hm : m ≤ n) : cut l (some (m : Int)) (some (n : Int)) = (l.drop m).take (n - m) := by
  unfold cut HT.sIx
  simp only [if_neg (show ¬ ((n : Int) < 0) by omega), if_neg (show ¬ ((m : Int) < 0) by omega), Int.toNat_natCast]
  rw [Nat.min_eq_left hn, Nat.min_eq_left (Nat.le_trans hm hn)]
theorem cut_take1 {T : Type} {l : List T} : cut l none (some 1) = l.take 1 := cut_take (n := 1)
theorem cut_drop1 {T : Type} {l : List T} : cut l (some 1) none = l.drop 1 := cut_drop (n := 1)
/-- l[1:-1] -/
theorem cut_mid {T : Type} {l : List T} : cut l (some 1) (some (-1)) = (l.drop 1).take (l.length - 2) := by
  unfold cut HT.sIx
  simp only [if_neg (show ¬ ((1 : Int) < 0) by omega), if_pos (show ((-1 : Int) < 0) by omega), show ((1 : Int).toNat) = 1 from rfl]
  have e : ((-1 : Int) + (l.length : Nat)).toNat = l.length - 1 := by omega
  rw [e]
  cases l with
  | nil => rfl
  | cons a r =>
    have : min 1 (a :: r).length = 1 := by simp
    rw [this]
    simp
theorem gSl_str {lo hi : Option Int} (hz : s.length ≤ 100000) : gSl (.d (.str s)) lo hi h = some (.d (.str (cut s lo hi)), h) := if_pos (Nat.le_trans hz (by decide))
theorem gSl_tup {lo hi : Option Int} : gSl (.d (.tup ds)) lo hi h = some (.d (.tup (cut ds lo hi)), h) := rfl
theorem gSl_rol {lo hi : Option Int} : gSl (.d (.rol ds)) lo hi h = some (.l (.lst (cut ds lo hi)), h) := rfl
theorem gSl_scr {lo hi : Option Int} : gSl (.d (.scr ds)) lo hi h = some (.l (.lst (cut ds lo hi)), h) := rfl
theorem gInt_bl : gInt [.d (.bl p)] h = some (.d (.int (if p then 1 else 0)), h) := rfl
theorem gInt_str {n : Int} (hz : s.length ≤ 640) (e : PySem.intText? (S s) = some n) : gInt [.d (.str s)] h = some (.d (.int n), h) := by
  simp only [gInt, if_pos hz, e]
theorem gStr_e (hz : i.natAbs.log2 < 1920) : gStr [.d (.int i)] h = some (.d (.str (fig i)), h) := if_pos hz
theorem gAbs_e : gAbs [.d (.int i)] h = some (.d (.int (if i < 0 then -i else i)), h) := rfl
theorem bls_map {T : Type} {l : List T} {f : T → Bool} : bls (l.map fun t => D.bl (f t)) = some (l.map f) := by
  induction l with
  | nil => rfl
  | cons a r ih => simp only [List.map_cons, bls, ih]
theorem gAllB_map {T : Type} {l : List T} {f : T → Bool} : gAllB [.l (.lst (l.map fun t => D.bl (f t)))] h = some (.d (.bl (l.all f)), h) := by
  show (match bls _ with | some bs => some (RV.d (.bl (bs.all id)), h) | none => none) = _
  rw [bls_map]
  simp [List.all_map]
theorem gTupOf_rol : gTupOf [.d (.rol ds)] h = some (.d (.tup ds), h) := rfl
theorem gTupOf_b : gTupOf [.b (.lst ds)] h = some (.d (.tup ds), h) := rfl
theorem gPart_e (h1 : s ≠ []) (h2 : z.length ≤ 100000) : gPart z (.d (.str s)) h = match TL.par s [] z with
    | some (a, b) => some (.d (.tup [.str a, .str s, .str b]), h)
    | none => some (.d (.tup [.str z, .str [], .str []]), h) := by
  simp only [gPart, if_pos (And.intro h1 (Nat.le_trans h2 (by decide : 100000 ≤ sizeLine)))]
  first | done | rfl
theorem txts_map {l : List (List Nat)} : txts (l.map D.str) = some l := by
  induction l with
  | nil => rfl
  | cons a r ih => simp only [List.map_cons, txts, ih]
theorem gJoin_e {l : List (List Nat)} (hs : sq x h = some (l.map D.str)) (hz : (l.map (·.length)).sum + l.length * z.length ≤ 100000) : gJoin z x h = some (.d (.str (TL.joinL z l)), h) := by
  have : joinOk l z = true := decide_eq_true (Nat.le_trans hz (by decide))
  simp only [gJoin, hs, txts_map, this, if_true]
theorem gStripC_e (hz : z.length ≤ 100000) : gStripC z (.d (.str s)) h = some (.d (.str (stpD z s)), h) := if_pos (Nat.le_trans hz (by decide))
theorem gSplit_e (h1 : s ≠ []) (h2 : s.all (· < 256) = true) (h3 : z.length ≤ 100000) : gSplit z (.d (.str s)) h = some (.l (.lst ((TL.spl s 0 [] z).map D.str)), h) := by
  have : (100000 : Nat) + 2 ≤ sizeLine := by decide
  exact if_pos ⟨h1, by simpa using h2, by omega⟩
theorem lcK_signs {s : List Nat} {k : Nat} {te : DE} {env : Env} {h : Hs} (q : Nat → D) (hz : s.length ≤ 100000) (H : ∀ c, c ∈ s → te ((wipeE env [k]).set k (.v (.str [c]))) h = some (.d (q c), h)) :
    lcK [k] (gNm k) fYes te env (s.map fun c => .str [c]) h = some (.l (.lst (s.map q)), h) := by
  have := lcK_map (vs := [k]) (g := gNm k) (tt := fYes) (te := te) (env := env) (h := h) (ds := s.map fun c => D.str [c]) (E := fun d => (wipeE env [k]).set k (.v d)) (v := fun d => match d with | .str [c] => q c | _ => .non) (by simpa using hz) fun d hd => by
    obtain ⟨c, hc, e⟩ := List.mem_map.mp hd
    subst e
    exact ⟨rfl, rfl, H c hc⟩
  rw [this, List.map_map]
  rfl
theorem lcK_signsF {s : List Nat} {k : Nat} {tt : DT} {te : DE} {env : Env} {h : Hs} (w : Nat → Bool) (q : Nat → D) (hz : s.length ≤ 100000) (H1 : ∀ c, c ∈ s → tt ((wipeE env [k]).set k (.v (.str [c]))) h = some (w c, h)) (H : ∀ c, c ∈ s → te ((wipeE env [k]).set k (.v (.str [c]))) h = some (.d (q c), h)) :
    lcK [k] (gNm k) tt te env (s.map fun c => .str [c]) h = some (.l (.lst ((s.filter w).map q)), h) := by
  have := lcK_filter (vs := [k]) (g := gNm k) (tt := tt) (te := te) (env := env) (h := h) (ds := s.map fun c => D.str [c]) (E := fun d => (wipeE env [k]).set k (.v d)) (q := fun d => match d with | .str [c] => w c | _ => false) (v := fun d => match d with | .str [c] => q c | _ => .non) (by simpa using hz) fun d hd => by
    obtain ⟨c, hc, e⟩ := List.mem_map.mp hd
    subst e
    exact ⟨rfl, H1 c hc, fun _ => H c hc⟩
  rw [this, List.filter_map, List.map_map]
  rfl
theorem ix0 {c : Nat} {r : List Nat} {h : Hs} (hs : (c :: r).length ≤ 100000) : gIx (.d (.str (c :: r))) (.d (.int 0)) h = some (.d (.str [c]), h) := gIx_str hs atI_zero
end
section
variable {h : Hs}
theorem tupK_0 : tupK h [] = some (.d (.tup []), h) := tupK_e (by show 0 ≤ 1000; decide)
theorem lstK_0 : lstK h [] = some (.l (.lst []), h) := lstK_e (by show 0 ≤ 1000; decide)
theorem tupK_1 {x0 : D} : tupK h [x0] = some (.d (.tup [x0]), h) := tupK_e (by show 1 ≤ 1000; decide)
theorem lstK_1 {x0 : D} : lstK h [x0] = some (.l (.lst [x0]), h) := lstK_e (by show 1 ≤ 1000; decide)
theorem tupK_2 {x0 x1 : D} : tupK h [x0, x1] = some (.d (.tup [x0, x1]), h) := tupK_e (by show 2 ≤ 1000; decide)
theorem lstK_2 {x0 x1 : D} : lstK h [x0, x1] = some (.l (.lst [x0, x1]), h) := lstK_e (by show 2 ≤ 1000; decide)
theorem tupK_3 {x0 x1 x2 : D} : tupK h [x0, x1, x2] = some (.d (.tup [x0, x1, x2]), h) := tupK_e (by show 3 ≤ 1000; decide)
theorem lstK_3 {x0 x1 x2 : D} : lstK h [x0, x1, x2] = some (.l (.lst [x0, x1, x2]), h) := lstK_e (by show 3 ≤ 1000; decide)
theorem tupK_4 {x0 x1 x2 x3 : D} : tupK h [x0, x1, x2, x3] = some (.d (.tup [x0, x1, x2, x3]), h) := tupK_e (by show 4 ≤ 1000; decide)
theorem lstK_4 {x0 x1 x2 x3 : D} : lstK h [x0, x1, x2, x3] = some (.l (.lst [x0, x1, x2, x3]), h) := lstK_e (by show 4 ≤ 1000; decide)
theorem tupK_5 {x0 x1 x2 x3 x4 : D} : tupK h [x0, x1, x2, x3, x4] = some (.d (.tup [x0, x1, x2, x3, x4]), h) := tupK_e (by show 5 ≤ 1000; decide)
theorem lstK_5 {x0 x1 x2 x3 x4 : D} : lstK h [x0, x1, x2, x3, x4] = some (.l (.lst [x0, x1, x2, x3, x4]), h) := lstK_e (by show 5 ≤ 1000; decide)
theorem tupK_6 {x0 x1 x2 x3 x4 x5 : D} : tupK h [x0, x1, x2, x3, x4, x5] = some (.d (.tup [x0, x1, x2, x3, x4, x5]), h) := tupK_e (by show 6 ≤ 1000; decide)
theorem lstK_6 {x0 x1 x2 x3 x4 x5 : D} : lstK h [x0, x1, x2, x3, x4, x5] = some (.l (.lst [x0, x1, x2, x3, x4, x5]), h) := lstK_e (by show 6 ≤ 1000; decide)
theorem tupK_7 {x0 x1 x2 x3 x4 x5 x6 : D} : tupK h [x0, x1, x2, x3, x4, x5, x6] = some (.d (.tup [x0, x1, x2, x3, x4, x5, x6]), h) := tupK_e (by show 7 ≤ 1000; decide)
theorem lstK_7 {x0 x1 x2 x3 x4 x5 x6 : D} : lstK h [x0, x1, x2, x3, x4, x5, x6] = some (.l (.lst [x0, x1, x2, x3, x4, x5, x6]), h) := lstK_e (by show 7 ≤ 1000; decide)
theorem tupK_8 {x0 x1 x2 x3 x4 x5 x6 x7 : D} : tupK h [x0, x1, x2, x3, x4, x5, x6, x7] = some (.d (.tup [x0, x1, x2, x3, x4, x5, x6, x7]), h) := tupK_e (by show 8 ≤ 1000; decide)
theorem lstK_8 {x0 x1 x2 x3 x4 x5 x6 x7 : D} : lstK h [x0, x1, x2, x3, x4, x5, x6, x7] = some (.l (.lst [x0, x1, x2, x3, x4, x5, x6, x7]), h) := lstK_e (by show 8 ≤ 1000; decide)
theorem one_eq {c d : Nat} : ([c] == [d]) = (c == d) := by simp
theorem inF_cons {s a : List Nat} {ds : List D} : inF (.str s) (.str a :: ds) = (a == s || inF (.str s) ds) := rfl
theorem inF_nil {s : List Nat} : inF (.str s) [] = false := rfl
end
/-! texts cut at one sign -/
theorem pre1 {s c : Nat} {r : List Nat} : TL.pre [s] (c :: r) = (c == s) := by simp [TL.pre]
theorem par_hit {s : Nat} : ∀ {p acc r : List Nat}, s ∉ p → TL.par [s] acc (p ++ s :: r) = some (acc ++ p, r)
  | [], acc, r, _ => by
    show (if TL.pre [s] (s :: r) = true then some (acc, (s :: r).drop 1) else _) = _
    rw [pre1, if_pos (by simp)]
    simp
  | c :: p, acc, r, h => by
    have h1 : (c == s) = false := by
      simp at h
      simpa using fun e : c = s => h.1 e.symm
    show (if TL.pre [s] (c :: (p ++ s :: r)) = true then _ else TL.par [s] (acc ++ [c]) (p ++ s :: r)) = _
    rw [pre1, h1, if_neg (by simp), par_hit (fun m => h (List.mem_cons_of_mem _ m))]
    simp
theorem par_miss {s : Nat} : ∀ {p acc : List Nat}, s ∉ p → TL.par [s] acc p = none
  | [], acc, _ => rfl
  | c :: p, acc, h => by
    have h1 : (c == s) = false := by
      simp at h
      simpa using fun e : c = s => h.1 e.symm
    show (if TL.pre [s] (c :: p) = true then _ else TL.par [s] (acc ++ [c]) p) = _
    rw [pre1, h1, if_neg (by simp), par_miss (fun m => h (List.mem_cons_of_mem _ m))]
theorem spl_miss1 {s : Nat} : ∀ {p acc : List Nat}, s ∉ p → TL.spl [s] 0 acc p = [acc ++ p]
  | [], acc, _ => by rw [TL.spl_nil]; simp
  | c :: p, acc, h => by
    have h1 : (c == s) = false := by
      simp at h
      simpa using fun e : c = s => h.1 e.symm
    rw [TL.spl_miss (by rw [pre1]; exact h1), spl_miss1 (fun m => h (List.mem_cons_of_mem _ m))]
    simp
/-! lists that are written -/
def slK {A : Type} (k : List D → Option A) : Option Slot → Option A
  | some (.c (.lst ds)) => k ds
  | _ => none
theorem slK_c {A : Type} {k : List D → Option A} {ds : List D} : slK k (some (.c (.lst ds))) = k ds := rfl
def appS (i : Nat) (env : Env) (h : Hs) (ds : List D) (d : D) : Option SOut := if ds.length < sizeLine then some (.nx (env.set i (.c (.lst (ds ++ [d])))) h) else none
theorem appS_e {i : Nat} {env : Env} {h : Hs} {ds : List D} {d : D} (hz : ds.length ≤ 1000) : appS i env h ds d = some (.nx (env.set i (.c (.lst (ds ++ [d])))) h) := if_pos (Nat.lt_of_le_of_lt hz (by decide))
theorem dApp_e {i : Nat} {f : DE} {env : Env} {h : Hs} : dApp i f env h = slK (fun ds => bd (f env h) fun p => dK (fun d => appS i env p.2 ds d) p.1) env[i]? := by
  unfold dApp
  cases env[i]? with
  | none => rfl
  | some s =>
    cases s with
    | no => rfl
    | v d => rfl
    | c c =>
      cases c with
      | dct _ => rfl
      | lst ds =>
        rw [slK_c]
        cases f env h with
        | none => rfl
        | some p =>
          obtain ⟨x, h1⟩ := p
          cases x <;> rfl
def frK (i : Nat) (b : DS) (env : Env) (h : Hs) : Option Slot → Option SOut
  | some (.c (.lst ds)) => b (env.set i (.v (.rol ds))) h
  | some (.v _) => b env h
  | _ => none
theorem frK_c {i : Nat} {b : DS} {env : Env} {h : Hs} {ds : List D} : frK i b env h (some (.c (.lst ds))) = b (env.set i (.v (.rol ds))) h := rfl
theorem frK_v {i : Nat} {b : DS} {env : Env} {h : Hs} {d : D} : frK i b env h (some (.v d)) = b env h := rfl
theorem dFrz_e {i : Nat} {b : DS} {env : Env} {h : Hs} : dFrz i b env h = frK i b env h env[i]? := by
  unfold dFrz frz
  cases env[i]? with
  | none => rfl
  | some s =>
    cases s with
    | no => rfl
    | v d => rfl
    | c c => cases c <;> rfl
def rfK {A : Type} (k : Nat → Option A) : RV → Option A
  | .d (.ref n) => k n
  | _ => none
theorem rfK_e {A : Type} {k : Nat → Option A} {n : Nat} : rfK k (.d (.ref n)) = k n := rfl
def putS (n : Nat) (k : Int) (d : D) (env : Env) (h : Hs) : Option SOut := match h[n]? with
  | some (.lst ds) => match ixN ds.length k with
    | some j => some (.nx env (h.set n (.lst (ds.set j d))))
    | none => none
  | _ => none
theorem putS_e {n j : Nat} {k : Int} {d : D} {env : Env} {h : Hs} {ds : List D} (hn : h[n]? = some (.lst ds)) (hj : ixN ds.length k = some j) : putS n k d env h = some (.nx env (h.set n (.lst (ds.set j d)))) := by
  unfold putS
  rw [hn]
  simp only [hj]
theorem dPut_e {fo fi f : DE} {env : Env} {h : Hs} : dPut fo fi f env h = bd (f env h) fun p => dK (fun d => bd (fo env p.2) fun q => rfK (fun n => bd (fi env q.2) fun r => iK (fun k => putS n k d env r.2) r.1) q.1) p.1 := by
  unfold dPut
  cases f env h with
  | none => rfl
  | some p =>
    obtain ⟨x, h1⟩ := p
    cases x with
    | l c => rfl
    | b c => rfl
    | d d =>
      simp only [bd_some, dK_eq]
      cases fo env h1 with
      | none => rfl
      | some q =>
        obtain ⟨y, h2⟩ := q
        cases y with
        | l c => rfl
        | b c => rfl
        | d y =>
          cases y <;> try rfl
          rename_i n
          simp only [bd_some, rfK_e]
          cases fi env h2 with
          | none => rfl
          | some r =>
            obtain ⟨z, h3⟩ := r
            cases z with
            | l c => rfl
            | b c => rfl
            | d z => cases z <;> rfl
theorem ixr0 {x : D} {r : List D} {h : Hs} : gIx (.d (.rol (x :: r))) (.d (.int 0)) h = some (.d x, h) := gIx_rol atI_zero
theorem ixr1 {x y : D} {r : List D} {h : Hs} : gIx (.d (.rol (x :: y :: r))) (.d (.int 1)) h = some (.d y, h) := gIx_rol atI_one
theorem ixr2 {x y z : D} {r : List D} {h : Hs} : gIx (.d (.rol (x :: y :: z :: r))) (.d (.int 2)) h = some (.d z, h) := gIx_rol atI_two
theorem drop1c {T : Type} {x : T} {r : List T} : List.drop 1 (x :: r) = r := rfl
theorem drop2c {T : Type} {x y : T} {r : List T} : List.drop 2 (x :: y :: r) = r := rfl
theorem take1c {T : Type} {x : T} {r : List T} : List.take 1 (x :: r) = [x] := rfl
theorem cut_drop2 {T : Type} {l : List T} : cut l (some 2) none = l.drop 2 := cut_drop (n := 2)
theorem cut_drop3 {T : Type} {l : List T} : cut l (some 3) none = l.drop 3 := cut_drop (n := 3)
theorem isNon_rol {ds : List D} : isNon (.d (.rol ds)) = false := rfl
theorem isNon_non : isNon (.d .non) = true := rfl
theorem gAdd_bl {ds es : List D} {h : Hs} (hz : ds.length + es.length ≤ 100000) : gAdd (.b (.lst ds)) (.d (.rol es)) h = some (.l (.lst (ds ++ es)), h) := gAdd_lst rfl rfl (fun _ e => by cases e) (fun _ e => by cases e) (fun _ e => by cases e) hz
theorem tw_rep {g : Nat → Bool} {s : Nat} (hs : g s = true) {d : Nat} {l : List Nat} (hd : g d = false) : ∀ n : Nat, (List.replicate n s ++ d :: l).takeWhile g = List.replicate n s
  | 0 => by simp [hd]
  | n + 1 => by
    rw [List.replicate_succ, List.cons_append, List.takeWhile_cons, hs, if_pos rfl, tw_rep hs hd n]
/-- a text that begins and ends with another sign, and signs s behind it -/
theorem strip_sp {s c d : Nat} {u r : List Nat} {n : Nat} (h1 : u = c :: r) (hc : c ≠ s) (h2 : ∃ q, u = q ++ [d]) (hd : d ≠ s) : stpD (u ++ List.replicate n s) [s] = u := by
  obtain ⟨q, h2⟩ := h2
  unfold stpD Txt.stripChars
  rw [PySem.W.stripBy_eq]
  unfold PySem.W.stripped
  have g1 : ∀ x : Nat, (S [s]).cps.contains x = (x == s) := fun x => by
    rw [Bool.eq_iff_iff]
    simp [S]
  have e0 : (S (u ++ List.replicate n s)).cps.toList = u ++ List.replicate n s := rfl
  rw [e0]
  have lo : ((u ++ List.replicate n s).takeWhile (S [s]).cps.contains).length = 0 := by
    rw [h1, List.cons_append, List.takeWhile_cons, g1, if_neg (by simpa using hc)]
    rfl
  have hi : ((u ++ List.replicate n s).reverse.takeWhile (S [s]).cps.contains).length = n := by
    rw [List.reverse_append, List.reverse_replicate, h2, List.reverse_append, List.reverse_singleton, List.singleton_append, tw_rep (by rw [g1]; simp) (by rw [g1]; simpa using hd)]
    simp
  simp only [if_true]
  rw [lo, List.drop_zero, hi, TL.tl_strSub]
  show (((u ++ List.replicate n s).drop 0).take _) = u
  rw [S_len]
  simp
theorem lcK_one {k : Nat} {te : DE} {env : Env} {h : Hs} {d : D} : lcK [k] (gNm k) fYes te env [d] h = bd (te ((wipeE env [k]).set k (.v d)) h) fun p => dK (fun y => some (.l (.lst [y]), p.2)) p.1 := by
  unfold lcK
  rw [if_pos (by show 1 ≤ sizeLine; decide)]
  unfold lcL
  simp only [gNm_e, fYes_e]
  cases te ((wipeE env [k]).set k (.v d)) h with
  | none => rfl
  | some p =>
    obtain ⟨x, h1⟩ := p
    cases x <;> rfl
/-! numbers as texts -/
theorem dv_snoc (G : List Nat) (c : Nat) : NumText.digitsVal (G ++ [c]) = NumText.digitsVal G * 10 + (c - 48) := by
  unfold NumText.digitsVal
  rw [List.foldl_append]
  rfl
theorem snoc_cases {T : Type} (l : List T) : l = [] ∨ ∃ q d, l = q ++ [d] := by
  rcases List.eq_nil_or_concat l with h | ⟨q, d, h⟩
  · exact .inl h
  · exact .inr ⟨q, d, by simpa using h⟩
theorem dv_lt : ∀ (n : Nat) (F : List Nat), F.length = n → NumText.AllDigits F → NumText.digitsVal F < 10 ^ n
  | 0, F, e, _ => by
    have : F = [] := List.eq_nil_of_length_eq_zero e
    subst this
    decide
  | n + 1, F, e, h => by
    rcases snoc_cases F with z | ⟨G, c, z⟩
    · subst z; cases e
    · subst z
      have hG : G.length = n := by simpa using e
      have h1 := dv_lt n G hG fun d hd => h d (List.mem_append_left _ hd)
      have h2 := h c (List.mem_append_right _ List.mem_cons_self)
      rw [dv_snoc, Nat.pow_succ]
      omega
theorem canon : ∀ (n : Nat) (F : List Nat), F.length = n → NumText.AllDigits F → F ≠ [] → (F.head? ≠ some 48 ∨ F = [48]) → TL.numL (NumText.digitsVal F) = F
  | 0, F, e, _, ne, _ => absurd (List.eq_nil_of_length_eq_zero e) ne
  | n + 1, F, e, h, ne, hc => by
    rcases snoc_cases F with z | ⟨G, c, z⟩
    · exact absurd z ne
    · subst z
      have hG : G.length = n := by simpa using e
      have hG2 : NumText.AllDigits G := fun d hd => h d (List.mem_append_left _ hd)
      have h2 := h c (List.mem_append_right _ List.mem_cons_self)
      rw [dv_snoc]
      cases G with
      | nil =>
        show TL.numL (NumText.digitsVal [] * 10 + (c - 48)) = [c]
        have : NumText.digitsVal [] * 10 + (c - 48) = c - 48 := by show 0 * 10 + (c - 48) = _; omega
        rw [this, TL.numL_lt (by omega)]
        congr 1
        omega
      | cons g G =>
        have hg : g ≠ 48 := by
          rcases hc with z | z
          · intro w; subst w; exact z rfl
          · simp at z
        have ih := canon n (g :: G) hG hG2 (by simp) (.inl (by simpa using hg))
        have pos : 1 ≤ NumText.digitsVal (g :: G) := by
          apply Nat.one_le_iff_ne_zero.mpr
          intro z
          rw [z, TL.numL_lt (by decide)] at ih
          injection ih with w _
          exact hg w.symm
        rw [TL.numL_step (by omega)]
        have e1 : (NumText.digitsVal (g :: G) * 10 + (c - 48)) / 10 = NumText.digitsVal (g :: G) := by omega
        have e2 : (NumText.digitsVal (g :: G) * 10 + (c - 48)) % 10 = c - 48 := by omega
        rw [e1, e2, ih]
        congr 2
        omega
theorem numL_head : ∀ (n : Nat), (TL.numL n).head? = some 48 → TL.numL n = [48] := by
  intro n
  induction n using Nat.strongRecOn with
  | _ n ih =>
    intro h
    by_cases hn : n < 10
    · rw [TL.numL_lt hn] at h ⊢
      have : 48 + n = 48 := by simpa using h
      rw [this]
    · rw [TL.numL_step (by omega)] at h
      have ne := TL.numL_ne (n / 10)
      have h2 : (TL.numL (n / 10)).head? = some 48 := by
        cases hq : TL.numL (n / 10) with
        | nil => exact absurd hq ne
        | cons a b => rw [hq] at h; simpa using h
      have h3 := ih (n / 10) (by omega) h2
      have h4 := TL.numL_val (n / 10)
      rw [h3] at h4
      have : n / 10 = 0 := h4.symm
      omega
theorem fig_nat (n : Nat) : fig (n : Int) = TL.numL n := by
  have := TL.tl_num n
  rw [fig_S] at this
  exact this
theorem fig_neg (n : Nat) (hn : 1 ≤ n) : fig (-(n : Int)) = 45 :: TL.numL n := by
  obtain ⟨m, rfl⟩ : ∃ m, n = m + 1 := ⟨n - 1, by omega⟩
  show ("-" ++ toString (m + 1)).toList.map Char.toNat = _
  rw [String.toList_append, List.map_append]
  show 45 :: ((toString (m + 1)).toList.map Char.toNat) = _
  congr 1
  exact fig_nat (m + 1)
/-! cells of the heap -/
def ixK (i : Int) (h : Hs) : Option Cell → Option (RV × Hs)
  | some (.lst ds) => bd (atI ds i) fun d => some (.d d, h)
  | _ => none
theorem ixK_e {i : Int} {h : Hs} {ds : List D} : ixK i h (some (.lst ds)) = bd (atI ds i) fun d => some (.d d, h) := rfl
theorem gIx_ref_e {n : Nat} {i : Int} {h : Hs} : gIx (.d (.ref n)) (.d (.int i)) h = ixK i h h[n]? := by
  cases hc : h[n]? with
  | none => simp only [gIx, sq, lv, hc]; rfl
  | some c =>
    cases c with
    | lst ds => simp only [gIx, sq, lv, hc, ixK]; cases atI ds i <;> rfl
    | dct _ => simp only [gIx, sq, lv, hc, ixK]
def ptK (n : Nat) (k : Int) (d : D) (env : Env) (h : Hs) : Option Cell → Option SOut
  | some (.lst ds) => bd (ixN ds.length k) fun j => some (.nx env (h.set n (.lst (ds.set j d))))
  | _ => none
theorem ptK_e {n : Nat} {k : Int} {d : D} {env : Env} {h : Hs} {ds : List D} : ptK n k d env h (some (.lst ds)) = bd (ixN ds.length k) fun j => some (.nx env (h.set n (.lst (ds.set j d)))) := rfl
theorem putS_k {n : Nat} {k : Int} {d : D} {env : Env} {h : Hs} : putS n k d env h = ptK n k d env h h[n]? := by
  unfold putS
  cases h[n]? with
  | none => rfl
  | some c =>
    cases c with
    | lst ds => simp only [ptK]; cases ixN ds.length k <;> rfl
    | dct _ => rfl
theorem ix5_0 : ixN 5 0 = some 0 := rfl
theorem ix5_1 : ixN 5 1 = some 1 := rfl
theorem ix5_2 : ixN 5 2 = some 2 := rfl
theorem ix5_3 : ixN 5 3 = some 3 := rfl
theorem ix5_4 : ixN 5 4 = some 4 := rfl
section
variable {T : Type} {a b c d e : T}
theorem at5_0 : atI [a, b, c, d, e] 0 = some a := rfl
theorem at5_1 : atI [a, b, c, d, e] 1 = some b := rfl
theorem at5_2 : atI [a, b, c, d, e] 2 = some c := rfl
theorem at5_3 : atI [a, b, c, d, e] 3 = some d := rfl
theorem at5_4 : atI [a, b, c, d, e] 4 = some e := rfl
end
theorem rangeL_len {n : Nat} {a b : Int} : (rangeL a b n).length = n := by simp [rangeL]
theorem atI_mem {T : Type} {l : List T} {i : Int} (h0 : 0 ≤ i) (hk : i < l.length) : ∃ x, atI l i = some x ∧ x ∈ l := by
  rw [atI_int h0 hk]
  have : i.toNat < l.length := by omega
  exact ⟨l[i.toNat], List.getElem?_eq_getElem this, List.getElem_mem this⟩
/-- a comprehension whose items draw: what holds of each item, what stays true of the heap -/
theorem lcL_inv {g : DG} {te : DE} {env : Env} {E : D → Env} {P : D → Prop} {J : Hs → Prop} (hg : ∀ d, g d env = some (E d)) : ∀ {ds : List D} {h : Hs}, J h → (∀ d ∈ ds, ∀ h, J h → ∃ y h', te (E d) h = some (.d y, h') ∧ P y ∧ J h') →
    ∃ ys h', lcL g fYes te env ds h = some (ys, h') ∧ ys.length = ds.length ∧ (∀ y ∈ ys, P y) ∧ J h'
  | [], h, j, _ => ⟨[], h, rfl, rfl, fun y hy => (by cases hy), j⟩
  | d :: ds, h, j, H => by
    obtain ⟨y, h1, e1, p1, j1⟩ := H d List.mem_cons_self h j
    obtain ⟨ys, h2, e2, l2, p2, j2⟩ := lcL_inv hg j1 fun d hd => H d (List.mem_cons_of_mem _ hd)
    refine ⟨y :: ys, h2, ?_, by simp [l2], fun z hz => ?_, j2⟩
    · unfold lcL
      rw [hg]
      simp only [fYes_e, e1, e2]
    · rcases List.mem_cons.mp hz with w | w
      · rw [w]; exact p1
      · exact p2 z w
theorem lcK_inv {g : DG} {te : DE} {env : Env} {vs : List Nat} {E : D → Env} {P : D → Prop} {J : Hs → Prop} {ds : List D} {h : Hs} (hz : ds.length ≤ 100000) (hg : ∀ d, g d (wipeE env vs) = some (E d)) (j : J h) (H : ∀ d ∈ ds, ∀ h, J h → ∃ y h', te (E d) h = some (.d y, h') ∧ P y ∧ J h') :
    ∃ ys h', lcK vs g fYes te env ds h = some (.l (.lst ys), h') ∧ ys.length = ds.length ∧ (∀ y ∈ ys, P y) ∧ J h' := by
  obtain ⟨ys, h', e, l, p, j'⟩ := lcL_inv (env := wipeE env vs) hg j H
  refine ⟨ys, h', ?_, l, p, j'⟩
  unfold lcK
  rw [if_pos (Nat.le_trans hz (by decide)), e]
  rfl
theorem lcL_T {T : Type} {c q : T → D} {g : DG} {te : DE} {env : Env} {E : D → Env} {h : Hs} (hg : ∀ d, g d env = some (E d)) : ∀ {l : List T}, (∀ t, t ∈ l → te (E (c t)) h = some (.d (q t), h)) → lcL g fYes te env (l.map c) h = some (l.map q, h)
  | [], _ => rfl
  | t :: l, H => by
    rw [List.map_cons]
    unfold lcL
    rw [hg]
    simp only [fYes_e, H t List.mem_cons_self, lcL_T hg fun t ht => H t (List.mem_cons_of_mem _ ht)]
    rfl
/-- a comprehension over a list of like data -/
theorem lcK_T {T : Type} {c : T → D} {l : List T} {k : Nat} {te : DE} {env : Env} {h : Hs} (q : T → D) (hz : l.length ≤ 100000) (H : ∀ t, t ∈ l → te ((wipeE env [k]).set k (.v (c t))) h = some (.d (q t), h)) : lcK [k] (gNm k) fYes te env (l.map c) h = some (.l (.lst (l.map q)), h) := by
  unfold lcK
  rw [if_pos (by rw [List.length_map]; exact Nat.le_trans hz (by decide)), lcL_T (E := fun d => (wipeE env [k]).set k (.v d)) (fun d => rfl) H]
  rfl
/-! a list of signs and the empty list -/
theorem tPs_signs {rf : Nat → Option PyData} : ∀ l : List Nat, tPs rf (l.map fun c => D.str [c]) = some (l.map fun c => PyData.str (S [c]))
  | [] => by simp only [List.map_nil, tPs]
  | c :: l => by simp only [List.map_cons, tPs, tP, tPs_signs l]
theorem lay_signs : ∀ l : List Nat, (∀ c ∈ l, c < 1114112) → PyData.canLayAll0 (l.map fun c => PyData.str (S [c])) = true ∧ PyData.depthAll (l.map fun c => PyData.str (S [c])) = 0
  | [], _ => ⟨by simp only [List.map_nil, PyData.canLayAll0], by simp only [List.map_nil, PyData.depthAll]⟩
  | c :: l, h => by
    obtain ⟨h1, h2⟩ := lay_signs l fun d hd => h d (List.mem_cons_of_mem _ hd)
    refine ⟨?_, ?_⟩
    · simp only [List.map_cons, PyData.canLayAll0, PyData.canLay0, h1, Bool.and_true]
      have := h c List.mem_cons_self
      simp [PyData.strOk, S, this]
    · simp only [List.map_cons, PyData.depthAll, PyData.depth, h2]
      rfl
theorem gNe_signs {l : List Nat} {h : Hs} (hl : ∀ c ∈ l, c < 1114112) : gEqN true (.l (.lst (l.map fun c => .str [c]))) (.l (.lst [])) h = some (.d (.bl (!l.isEmpty)), h) := by
  obtain ⟨h1, h2⟩ := lay_signs l hl
  have s1 : SeqAt.shaped (.list (l.map fun c => PyData.str (S [c]))) = true := by
    simp only [SeqAt.shaped, PyData.canLay0, PyData.depth, h1, h2]
    decide
  have s2 : SeqAt.shaped (.list []) = true := by
    simp only [SeqAt.shaped, PyData.canLay0, PyData.canLayAll0, PyData.depth, PyData.depthAll]
    decide
  have e1 : tR h (.l (.lst (l.map fun c => .str [c]))) = some (.list (l.map fun c => PyData.str (S [c]))) := by simp only [tR, tPs_signs]
  have e2 : tR h (.l (.lst [])) = some (.list []) := by simp only [tR, tPs]
  show gEqX true _ _ h = _
  unfold gEqX
  rw [e1, e2]
  simp only [s1, s2, Bool.and_self, if_true]
  cases l with
  | nil => simp only [List.map_nil, PyData.eqv, PyData.eqvAll]; rfl
  | cons c r => simp only [List.map_cons, PyData.eqv, PyData.eqvAll]; rfl
theorem cut_mem {T : Type} {l : List T} {lo hi : Option Int} {x : T} (h : x ∈ cut l lo hi) : x ∈ l := List.mem_of_mem_drop (List.mem_of_mem_take h)
theorem cut_len {T : Type} {l : List T} {lo hi : Option Int} : (cut l lo hi).length ≤ l.length := by
  unfold cut
  rw [List.length_take, List.length_drop]
  omega
theorem joinL_nil : ∀ ls : List (List Nat), TL.joinL [] ls = ls.flatten
  | [] => rfl
  | [p] => by show p = _; simp
  | p :: q :: r => by
    show p ++ ([] ++ TL.joinL [] (q :: r)) = _
    rw [joinL_nil (q :: r)]
    simp
/-- ''.join of signs -/
theorem join_signs {P : Nat → Prop} {ys : List D} {h : Hs} (hz : ys.length ≤ 1000) (H : ∀ y ∈ ys, ∃ c, y = .str [c] ∧ P c) : ∃ s : List Nat, gJoin [] (.l (.lst ys)) h = some (.d (.str s), h) ∧ s.length = ys.length ∧ ∀ c ∈ s, P c := by
  have : ∃ s : List Nat, ys = (s.map fun c => [c]).map D.str ∧ ∀ c ∈ s, P c := by
    clear hz
    induction ys with
    | nil => exact ⟨[], rfl, fun c hc => by cases hc⟩
    | cons y ys ih =>
      obtain ⟨c, e, p⟩ := H y List.mem_cons_self
      obtain ⟨s, e2, p2⟩ := ih fun z hz => H z (List.mem_cons_of_mem _ hz)
      refine ⟨c :: s, by rw [e, e2]; rfl, fun d hd => ?_⟩
      rcases List.mem_cons.mp hd with w | w
      · rw [w]; exact p
      · exact p2 d w
  obtain ⟨s, e, p⟩ := this
  have l1 : ∀ s : List Nat, ((s.map fun c => [c]).map (·.length)).sum = s.length := fun s => by
    induction s with
    | nil => rfl
    | cons a r ih => simp at ih ⊢; omega
  have l2 : ∀ s : List Nat, (s.map fun c => [c]).flatten = s := fun s => by
    induction s with
    | nil => rfl
    | cons a r ih => simp [ih]
  have e0 : ys.length = s.length := by rw [e]; simp
  refine ⟨s, ?_, by rw [e0], p⟩
  rw [gJoin_e (l := s.map fun c => [c]) (by rw [e]; rfl) (by rw [l1]; simp; omega), joinL_nil, l2]
theorem gAdd_rl {ds es : List D} {h : Hs} (hz : ds.length + es.length ≤ 100000) : gAdd (.d (.rol ds)) (.l (.lst es)) h = some (.l (.lst (ds ++ es)), h) := gAdd_lst rfl rfl (fun _ e => by cases e) (fun _ e => by cases e) (fun _ e => by cases e) hz
end F
/-! F13: keywords, more joints. -/
namespace F
open PySem PySem.Spec PyProof.Rows L2
theorem nb_lc {it : DI} {g : DG} {tt : DT} {te : DE} {vs : List Nat} : ∀ env h c h1, eLc it g tt te vs env h ≠ some (.b c, h1) := fun env h c h1 e => by
  unfold eLc at e
  split at e
  · split at e
    · split at e <;> cases e
    · cases e
  · cases e
/-- a def called by names: n positional ones, then the names ks; ix: where each parameter's value stands -/
structure KwFact (g : GG) (x : Str) (st : Stmt) (ps : List Str) (n : Nat) (ks : List Str) (ix : List Nat) : Prop where
  ex : ∃ f fd, g.mg x = some (.ref f) ∧ Fun g.K x x st f fd ∧ (∀ (s : Shared) (us ws : List Value), us.length = n → ws.length = ks.length → BindsTo s fd ⟨us, ks.zip ws⟩ (ps.zip (pick ix (us ++ ws))))
theorem kwAt {g : GG} {x : Str} {st : Stmt} {N ps : List Str} {k n : Nat} {ks : List Str} {ix : List Nat} {b : DS} (F : KwFact g x st ps n ks ix) (S : FnScope N ps (defScope st)) (hb : SS ⟨g, N, defScope st, k, fun _ => true⟩ (defBody st) b) : KwAt g (k + 1) x ps n ks ix (mOf N.length b) := by
  obtain ⟨f, fd, h1, h2, h3⟩ := F.ex
  exact ⟨f, fd, h1, h2.kp, h3, fn_ok h2 S hb⟩
theorem kwFact {g : GG} {x : Str} {st : Stmt} {ps : List Str} {n : Nat} {ks : List Str} {ix : List Nat} {f : Addr} {oc : Value} {od an : Option Addr} {osl : Array (Option Value)} {kV doc pm cdv ct : Value} (m : g.mg x = some (.ref f))
    (l : g.K.lookup f = some ⟨oc, od, .func (PySem.W.fnOf x x (defArgs st) (defBody st) (defScope st) .none kV doc pm an cdv ct), osl⟩) (c : PySem.W.codeIn g.K cdv x = true) (k : PySem.W.keepIn g.K (.ref f) = true)
    (b : ∀ (s : Shared) (us ws : List Value), us.length = n → ws.length = ks.length → BindsTo s (PySem.W.fnOf x x (defArgs st) (defBody st) (defScope st) .none kV doc pm an cdv ct) ⟨us, ks.zip ws⟩ (ps.zip (pick ix (us ++ ws)))) : KwFact g x st ps n ks ix :=
  ⟨f, _, m, fun_mk l c k, b⟩
theorem tw_all {g : Nat → Bool} {s : Nat} (hs : g s = true) : ∀ n : Nat, (List.replicate n s).takeWhile g = List.replicate n s
  | 0 => rfl
  | n + 1 => by rw [List.replicate_succ, List.takeWhile_cons, hs, if_pos rfl, tw_all hs n]
theorem cont1 (s : Nat) : ∀ x : Nat, (S [s]).cps.contains x = (x == s) := fun x => by
  rw [Bool.eq_iff_iff]
  simp [S]
theorem strip_all {s n : Nat} : stpD (List.replicate n s) [s] = [] := by
  unfold stpD Txt.stripChars
  rw [PySem.W.stripBy_eq]
  unfold PySem.W.stripped
  have e0 : (S (List.replicate n s)).cps.toList = List.replicate n s := rfl
  rw [e0]
  have lo : ((List.replicate n s).takeWhile (S [s]).cps.contains).length = n := by rw [tw_all (by rw [cont1]; simp)]; simp
  simp only [if_true]
  rw [lo, TL.tl_strSub]
  show ((List.replicate n s).drop n).take _ = []
  simp
/-- signs s ahead and behind -/
theorem strip_sp2 {s c d : Nat} {u r : List Nat} {m n : Nat} (h1 : u = c :: r) (hc : c ≠ s) (h2 : ∃ q, u = q ++ [d]) (hd : d ≠ s) : stpD (List.replicate m s ++ (u ++ List.replicate n s)) [s] = u := by
  obtain ⟨q, h2⟩ := h2
  unfold stpD Txt.stripChars
  rw [PySem.W.stripBy_eq]
  unfold PySem.W.stripped
  have e0 : (S (List.replicate m s ++ (u ++ List.replicate n s))).cps.toList = List.replicate m s ++ (u ++ List.replicate n s) := rfl
  rw [e0]
  have lo : ((List.replicate m s ++ (u ++ List.replicate n s)).takeWhile (S [s]).cps.contains).length = m := by
    rw [h1, List.cons_append, tw_rep (by rw [cont1]; simp) (by rw [cont1]; simpa using hc)]
    simp
  have dr : (List.replicate m s ++ (u ++ List.replicate n s)).drop m = u ++ List.replicate n s := by
    rw [List.drop_left' (by simp)]
  have hi : ((u ++ List.replicate n s).reverse.takeWhile (S [s]).cps.contains).length = n := by
    rw [List.reverse_append, List.reverse_replicate, h2, List.reverse_append, List.reverse_singleton, List.singleton_append, tw_rep (by rw [cont1]; simp) (by rw [cont1]; simpa using hd)]
    simp
  simp only [if_true]
  rw [lo, dr, hi, TL.tl_strSub]
  show (((List.replicate m s ++ (u ++ List.replicate n s)).drop m).take _) = u
  rw [dr, S_len]
  simp
  rw [List.take_left' (by omega)]
theorem dAppR_ok {fo f : DE} {env : Env} {h h1 h2 : Hs} {n : Nat} {xs ds : List D} {d : D} (e1 : fo env h = some (.d (.ref n), h1)) (e2 : h1[n]? = some (.lst xs)) (e3 : f env h1 = some (.d d, h2)) (e4 : h2[n]? = some (.lst ds)) (hz : ds.length ≤ 1000) : dAppR fo f env h = some (.nx env (h2.set n (.lst (ds ++ [d])))) := by
  unfold dAppR
  simp only [e1, e2, e3, e4]
  exact if_pos (Nat.lt_of_le_of_lt hz (by decide))
theorem eCallK_e {m : Mir} {ix : List Nat} {fa fk : DA} {env : Env} {h : Hs} : eCallK m ix fa fk env h = bd (fa env h) fun p => bd (fk env p.2) fun q => bd (plain (p.1 ++ q.1)) fun ds => callR (m (pick ix ds) q.2) := by
  unfold eCallK
  cases fa env h with
  | none => rfl
  | some p =>
    obtain ⟨x, h1⟩ := p
    simp only [bd_some]
    cases fk env h1 with
    | none => rfl
    | some q =>
      obtain ⟨y, h2⟩ := q
      simp only [bd_some]
      cases plain (x ++ y) with
      | none => rfl
      | some ds =>
        simp only [bd_some]
        cases m (pick ix ds) h2 with
        | none => rfl
        | some r =>
          obtain ⟨z, h3⟩ := r
          cases z <;> rfl
theorem inF_txt {s : List Nat} : ∀ ls : List (List Nat), inF (.str s) (ls.map .str) = decide (s ∈ ls)
  | [] => by simp [inF]
  | l :: ls => by
    rw [List.map_cons, inF_cons, inF_txt ls]
    by_cases e : l = s
    · subst e
      simp
    · have e2 : ¬ s = l := fun z => e z.symm
      simp [e, e2]
theorem fl_txt : ∀ ls : List (List Nat), (ls.map D.str).all flD = true
  | [] => rfl
  | l :: ls => by rw [List.map_cons, List.all_cons, fl_txt ls]; rfl
theorem gIn_b {s : List Nat} {ls : List (List Nat)} {h : Hs} : gInN false (.d (.str s)) (.b (.lst (ls.map .str))) h = some (.d (.bl (decide (s ∈ ls))), h) := by
  rw [gIn_sq (x := .b (.lst (ls.map .str))) rfl rfl (fl_txt ls) (fun z e => by cases e), inF_txt]
theorem gIn_rl {s : List Nat} {ls : List (List Nat)} {h : Hs} : gInN false (.d (.str s)) (.d (.rol (ls.map .str))) h = some (.d (.bl (decide (s ∈ ls))), h) := by
  rw [gIn_sq (x := .d (.rol (ls.map .str))) rfl rfl (fl_txt ls) (fun z e => by cases e), inF_txt]
/-- as many different ones as there are, at most -/
theorem nodup_le {T : Type} [DecidableEq T] : ∀ {l t : List T}, l.Nodup → (∀ x ∈ l, x ∈ t) → l.length ≤ t.length
  | [], t, _, _ => Nat.zero_le _
  | a :: l, t, n, H => by
    have ha := H a List.mem_cons_self
    have n2 := List.nodup_cons.mp n
    have ih := nodup_le (l := l) (t := t.erase a) n2.2 fun x hx => by
      have ne : x ≠ a := fun e => n2.1 (e ▸ hx)
      exact (List.mem_erase_of_ne ne).mpr (H x (List.mem_cons_of_mem _ hx))
    rw [List.length_erase_of_mem ha] at ih
    have := List.length_pos_of_mem ha
    simp
    omega
end F
/-! F14: x += e of ints and texts. -/
namespace F
open PySem PySem.Spec PyProof.Rows L2
/-- += of ints and texts -/
def gAug : RV → RV → Hs → Option (RV × Hs)
  | .d (.int i), .d (.int j), h => some (.d (.int (i + j)), h)
  | .d (.str a), .d (.str b), h => if a.length + b.length ≤ sizeLine then some (.d (.str (a ++ b)), h) else none
  | _, _, _ => none
def gAugS : RV → RV → Hs → Option (RV × Hs)
  | .d (.int i), .d (.int j), h => some (.d (.int (i - j)), h)
  | _, _, _ => none
def rAug : TIp := fun x y H Q => ipI (fun i j => i + j) x y H Q ∨ (∃ i j, x = .str i ∧ y = .str j ∧ i.length + j.length ≤ sizeLine ∧ Q (.str (i ++ j)) H)
theorem pip_aug {X : Cx} : PIp X .Add rAug := by
  intro pins s σ H x y v u Q I rx ry h
  rcases h with h | h
  · exact ip_add pins s σ H x y v u Q I rx ry h
  · exact iop_add_str pins s σ H x y v u Q I rx ry h
theorem oS_aug {K : PySem.W.Frag} : OpS K rAug gAug := fun α O H h x y rx ry rv h' Q hr ox oy e k => by
  unfold gAug at e
  split at e
  · cases e
    exact .inl ⟨_, _, ox.isD.int_eq, oy.isD.int_eq, k _ α H (.refl _ _) (.d hr R.int_mk)⟩
  · split at e
    · rename_i hl
      cases e
      exact .inr ⟨_, _, ox.isD.str_eq, oy.isD.str_eq, by rw [S_len, S_len]; exact hl, by rw [S_app]; exact k _ α H (.refl _ _) (.d hr R.str_mk)⟩
    · cases e
  · cases e
theorem oS_augS {K : PySem.W.Frag} : OpS K (ipI fun i j => i - j) gAugS := fun α O H h x y rx ry rv h' Q hr ox oy e k => by
  unfold gAugS at e
  split at e
  · cases e
    exact ⟨_, _, ox.isD.int_eq, oy.isD.int_eq, k _ α H (.refl _ _) (.d hr R.int_mk)⟩
  · cases e
section
variable {Γ : G} {pos p : Pos} {e : Expr} {fe : DE}
theorem s1_augG {op : Operator} {r : TIp} {g : RV → RV → Hs → Option (RV × Hs)} (ho : ∀ X, Γ.At X → PIp X op r) (hs : OpS Γ.g.K r g) {i : Nat} {x : Str} (hN : Γ.N[i]? = some x := by rfl) (hx : Γ.sc.names.lookup x = some .local ∨ Γ.sc.names.lookup x = some .cell := by first | exact .inl rfl | exact .inr rfl) (he : SE Γ e fe)
    (hf : Γ.fn x = true ∨ Γ.sc.names.lookup x = some .local := by first | exact .inr rfl | exact .inl rfl) : S1 Γ (.AugAssign (.Name x p) op e pos) (dSet i (eB g (eV i) fe)) := fun X c B =>
  PS.imp (ps_aug (by rw [c.N]; exact c.nd) (by rw [c.N]; exact hN) (Loc.of c hx) (he X c) (ho X c) (hf_of c hf)) fun D σ H q => by
    obtain ⟨α, O, h, env, hr, sr, br, o, e, k⟩ := q
    unfold dSet eB at e
    cases ev : env[i]? with
    | none => simp only [eV, ev] at e; cases e
    | some sl =>
      cases sl with
      | no => simp only [eV, ev] at e; cases e
      | c cl =>
        obtain ⟨a, e2, q2, oa⟩ := sr.own i cl ev
        simp only [eV, ev] at e
        cases ef : fe env h with
        | none => simp only [ef] at e; cases e
        | some p =>
          obtain ⟨y1, h1⟩ := p
          simp only [ef] at e
          cases eg : g (.b cl) y1 h1 with
          | none => simp only [eg] at e; cases e
          | some p =>
            obtain ⟨z1, h2⟩ := p
            simp only [eg] at e
            refine ⟨_, e2, α, O, h, env, hr, sr, y1, h1, ef, fun α1 H1 y s1 o1 => ?_⟩
            have sr1 := sr.stp hr s1
            obtain ⟨a', e2', q2', oa'⟩ := sr1.own i cl ev
            rw [e2] at e2'
            cases e2'
            refine hs α1 O H1 h1 _ y (.b cl) y1 z1 h2 _ o1.hr (.b q2' fun m => o1.hr.dis _ m oa') o1.at_ eg fun z α2 H2 s2 o2 => ?_
            cases z1 with
            | d d =>
              simp only at e
              cases e
              obtain ⟨O', r, s, b⟩ := store_imp (i := i) hr sr br (s1.trans s2) (o2.back s1 o1.hr) rfl
              exact k α2 O' H2 _ r s b
            | l cc =>
              simp only at e
              cases e
              obtain ⟨O', r, s, b⟩ := store_imp (i := i) hr sr br (s1.trans s2) (o2.back s1 o1.hr) rfl
              exact k α2 O' H2 _ r s b
            | b cc => simp only at e; cases e
      | v d =>
        obtain ⟨x0, e2, r0⟩ := sr.val i d ev
        simp only [eV, ev] at e
        cases ef : fe env h with
        | none => simp only [ef] at e; cases e
        | some p =>
          obtain ⟨y1, h1⟩ := p
          simp only [ef] at e
          cases eg : g (.d d) y1 h1 with
          | none => simp only [eg] at e; cases e
          | some p =>
            obtain ⟨z1, h2⟩ := p
            simp only [eg] at e
            refine ⟨_, e2, α, O, h, env, hr, sr, y1, h1, ef, fun α1 H1 y s1 o1 => ?_⟩
            refine hs α1 O H1 h1 _ y (.d d) y1 z1 h2 _ o1.hr (.d (R.mv s1.mv _ _ r0)) o1.at_ eg fun z α2 H2 s2 o2 => ?_
            cases z1 with
            | d d =>
              simp only at e
              cases e
              obtain ⟨O', r, s, b⟩ := store_imp (i := i) hr sr br (s1.trans s2) (o2.back s1 o1.hr) rfl
              exact k α2 O' H2 _ r s b
            | l cc =>
              simp only at e
              cases e
              obtain ⟨O', r, s, b⟩ := store_imp (i := i) hr sr br (s1.trans s2) (o2.back s1 o1.hr) rfl
              exact k α2 O' H2 _ r s b
            | b cc => simp only at e; cases e
theorem s1_aug {i : Nat} {x : Str} (hN : Γ.N[i]? = some x := by rfl) (hx : Γ.sc.names.lookup x = some .local ∨ Γ.sc.names.lookup x = some .cell := by first | exact .inl rfl | exact .inr rfl) (he : SE Γ e fe)
    (hf : Γ.fn x = true ∨ Γ.sc.names.lookup x = some .local := by first | exact .inr rfl | exact .inl rfl) : S1 Γ (.AugAssign (.Name x p) .Add e pos) (dSet i (eB gAug (eV i) fe)) := s1_augG (fun _ _ => pip_aug) oS_aug hN hx he hf
theorem s1_augS {i : Nat} {x : Str} (hN : Γ.N[i]? = some x := by rfl) (hx : Γ.sc.names.lookup x = some .local ∨ Γ.sc.names.lookup x = some .cell := by first | exact .inl rfl | exact .inr rfl) (he : SE Γ e fe)
    (hf : Γ.fn x = true ∨ Γ.sc.names.lookup x = some .local := by first | exact .inr rfl | exact .inl rfl) : S1 Γ (.AugAssign (.Name x p) .Sub e pos) (dSet i (eB gAugS (eV i) fe)) := s1_augG (fun _ _ => ip_sub) oS_augS hN hx he hf
end
end F
/-! F15: enumerate. -/
namespace F
open PySem PySem.Spec PyProof.Rows L2
def enumD (ds : List D) : List D := (List.range ds.length).map fun i => .tup [.int ((i : Nat) : Int), ds.getD i .non]
theorem enumD_get {ds : List D} {i : Nat} {d : D} (e : (enumD ds)[i]? = some d) : ∃ x, ds[i]? = some x ∧ d = .tup [.int ((i : Nat) : Int), x] := by
  unfold enumD at e
  rw [List.getElem?_map] at e
  cases h : (List.range ds.length)[i]? with
  | none => rw [h] at e; cases e
  | some j =>
    rw [h] at e
    have hi : i < ds.length := by
      have := (List.getElem?_eq_some_iff.mp h).1
      simpa using this
    have hj : j = i := by
      have := (List.getElem?_eq_some_iff.mp h).2
      simpa using this.symm
    subst hj
    cases e
    refine ⟨ds[j], List.getElem?_eq_getElem hi, ?_⟩
    show D.tup [D.int ((j : Nat) : Int), ds.getD j .non] = _
    rw [List.getD_eq_getElem?_getD, List.getElem?_eq_getElem hi]
    rfl
theorem enumD_len {ds : List D} : (enumD ds).length = ds.length := by simp [enumD]
theorem itok_enum {K : PySem.W.Frag} {α : List Addr} {O : Addr → Prop} {H : Hp} {ds : List D} {x : V} (r : R K α O H (.scr ds) x) : ∃ a, x = .ref a ∧ (∃ xs, SqL K H a xs) ∧ ItOk K (Ite K a) (enumD ds) α O H := by
  simp only [R] at r
  obtain ⟨a, xs, e, p, q⟩ := r
  subst e
  have sq : ∀ α' O' H', Mv α O H α' O' H' → SqL K H' a xs ∧ RL K α' O' H' ds xs := fun α' O' H' m => by
    refine ⟨?_, RL.mv m _ _ q⟩
    rcases p with ⟨p1, p2, p3⟩ | p
    · exact .inl (m.rd p1 p2 p3).1
    · exact .inr p
  refine ⟨a, rfl, ⟨xs, (sq _ _ _ Mv.refl).1⟩, fun α' O' H' h' m hr i => ⟨fun d e => ?_, fun l => ⟨xs, (sq _ _ _ m).1, by rw [← q.length, ← enumD_len]; exact l⟩⟩⟩
  obtain ⟨x0, e0, ed⟩ := enumD_get e
  subst ed
  obtain ⟨s, q'⟩ := sq _ _ _ m
  obtain ⟨y, e1, r1⟩ := q'.get e0
  refine ⟨⟨xs, y, s, e1⟩, fun z H'' yl => ?_⟩
  obtain ⟨T, x1, e2, nT, e3, f⟩ := yl
  subst e2
  subst e3
  have := f xs s
  rw [e1] at this
  cases this
  exact ⟨Stp.upd hr nT, hr.upd nT, (VOk.tup hr nT (RL.cons R.int_mk (RL.one r1))).isD⟩
def iEn (f : DA) : DI := fun env h => match f env h with
  | some ([.d (.rol ds)], h1) => some (enumD ds, h1)
  | some ([.d (.scr ds)], h1) => some (enumD ds, h1)
  | _ => none
section
variable {Γ : G} {pos p tpos : Pos} {e : Expr} {elts : List Expr} {kk : Nat} {fa : DA}
theorem si_enum (hm : Γ.g.mg ("enumerate" : Str) = none) (ha : SA Γ [e] fa) (hg : Γ.sc.names.lookup ("enumerate" : Str) = some .globalImplicit := by rfl) (hs : ∀ env, starEach [e] env = [(false, eval e env)] := by intro _; rfl) : SI Γ (.Tuple elts kk tpos) (.Call (.Name "enumerate" p) [e] [] pos) (iEn fa) := fun X cc =>
  PI.imp (pi_enum (Gl.of cc hg) (by rw [cc.mg]; exact hm) (ha X cc) (hs _)) fun σ H R q => by
    obtain ⟨α, O, h, env, hr, sr, ds, h', e, k⟩ := q
    unfold iEn at e
    split at e
    · rename_i ds' h1 e1
      cases e
      refine ⟨α, O, h, env, hr, sr, _, _, e1, fun α1 H1 xs s1 r1 o1 => ?_⟩
      obtain ⟨x, ex, o2⟩ := VAts1 o1
      obtain ⟨a, e2, ⟨ys, sq⟩, ok⟩ := itok_enum o2.isD.rol_scr
      rw [cc.K]
      exact ⟨a, ys, by rw [ex, e2], sq, k α1 H1 _ s1 r1 ok⟩
    · rename_i ds' h1 e1
      cases e
      refine ⟨α, O, h, env, hr, sr, _, _, e1, fun α1 H1 xs s1 r1 o1 => ?_⟩
      obtain ⟨x, ex, o2⟩ := VAts1 o1
      obtain ⟨a, e2, ⟨ys, sq⟩, ok⟩ := itok_enum o2.isD
      rw [cc.K]
      exact ⟨a, ys, by rw [ex, e2], sq, k α1 H1 _ s1 r1 ok⟩
    · cases e
end
end F
/-! F16: methods of texts with more arguments; methods of lists in the heap. -/
namespace F
open PySem PySem.Spec PyProof.Rows L2
def MeN (K : PySem.W.Frag) (r : V → List V → Hp → VK → Prop) (g : List Nat → List RV → Hs → Option (RV × Hs)) : Prop :=
  ∀ α O H h s xs rs rv h' (Q : VK), HRel K α O H h → VAts K α O H rs xs → g s rs h = some (rv, h') → (∀ z α' H', Stp α H α' H' → VOk K O H α' H' h' rv z → Q z H') → r (.str (S s)) xs H Q
def eMN (g : List Nat → List RV → Hs → Option (RV × Hs)) (fo : DE) (fa : DA) : DE := fun env h => match fo env h with
  | some (.d (.str s), h1) => match fa env h1 with
    | some (rs, h2) => g s rs h2
    | none => none
  | _ => none
section
variable {Γ : G} {pos apos cpos : Pos} {o e : Expr} {es : List Expr} {fo : DE} {fa : DA} {r : V → List V → Hp → VK → Prop} {id : String} {name : Str}
theorem se_mN {g : List Nat → List RV → Hs → Option (RV × Hs)} (slot : PySem.Slot "str" name id) (ty : typeOf (.builtin id) = pure (.type "method_descriptor")) (hc : ∀ X, Γ.At X → MtR X id r) (hs : MeN Γ.g.K r g) (ho : SE Γ o fo) (ha : SA Γ (e :: es) fa)
    (hbase : ∀ env, attributeBase o name env (eval o env) = eval o env)
    (hfew : ∀ env, ((backTo cpos (starEach (e :: es) env)).all (fun x => !x.1) && (backToKw cpos (keywordEach [] env)).all (fun x => x.1.isSome)
      && decide ((e :: es).length + ([] : List Keyword).length + (if ([] : List Keyword).isEmpty then 0 else 1) < 30)) = true)
    (hline : (apos.endLine == cpos.line) = true) (hst : ∀ env, starEach (e :: es) env = (false, eval e env) :: starEach es env) (hplain : ∀ env, (backTo cpos (starEach es env)).any (·.1) = false) :
    SE Γ (.Call (.Attribute o name apos) (e :: es) [] cpos) (eMN g fo fa) := fun X c =>
  PE.imp (pe_bm PySem.F.plainAttrs_str slot ty (hc X c) (ho X c) (ha X c) (hbase _) (hfew _) hline (hst _) (hplain _)) fun σ H Q q => by
    obtain ⟨α, O, h, env, hr, sr, rv, h', e, k⟩ := q
    unfold eMN at e
    split at e
    · rename_i s h1 e1
      split at e
      · rename_i rs h2 e2
        refine ⟨α, O, h, env, hr, sr, _, h1, e1, fun α1 H1 x s1 o1 => ?_⟩
        rw [o1.isD.str_eq]
        refine ⟨rfl, α1, O, h1, env, o1.hr, sr.stp hr s1, rs, h2, e2, fun α2 H2 xs s2 r2 o2 => ?_⟩
        exact hs α2 O H2 h2 s xs rs rv h' Q r2 o2 e fun z α3 H3 s3 o3 => k α3 H3 z (s1.trans (s2.trans s3)) (o3.back (s1.trans s2) r2)
      · cases e
    · cases e
end
/-- where a text stands in a text from a place on; what the model tells -/
def findD (z s : List Nat) (i : Int) : Int := Txt.find3 (S z) (S s) i
def startsD (z s : List Nat) (i : Int) : Bool := Txt.startswith3 (S z) (S s) i
def gFind3 (z : List Nat) : List RV → Hs → Option (RV × Hs)
  | [.d (.str s), .d (.int i)], h => some (.d (.int (findD z s i)), h)
  | _, _ => none
def gStarts3 (z : List Nat) : List RV → Hs → Option (RV × Hs)
  | [.d (.str s), .d (.int i)], h => some (.d (.bl (startsD z s i)), h)
  | _, _ => none
theorem me_find3 {K : PySem.W.Frag} : MeN K (fun x xs H Q => ∃ (a b : Str) (i : Int), x = .str a ∧ xs = [.str b, .int i] ∧ Q (.int (Txt.find3 a b i)) H) gFind3 := fun α O H h s xs rs rv h' Q hr o e k => by
  unfold gFind3 at e
  split at e
  · cases e
    obtain ⟨x, y, ex, o1, o2⟩ := VAts2 o
    exact ⟨_, _, _, rfl, by rw [ex, o1.isD.str_eq, o2.isD.int_eq], k _ α H (.refl _ _) (.d hr R.int_mk)⟩
  · cases e
theorem me_starts3 {K : PySem.W.Frag} : MeN K (fun x xs H Q => ∃ (a b : Str) (i : Int), x = .str a ∧ xs = [.str b, .int i] ∧ Q (.bl (Txt.startswith3 a b i)) H) gStarts3 := fun α O H h s xs rs rv h' Q hr o e k => by
  unfold gStarts3 at e
  split at e
  · cases e
    obtain ⟨x, y, ex, o1, o2⟩ := VAts2 o
    exact ⟨_, _, _, rfl, by rw [ex, o1.isD.str_eq, o2.isD.int_eq], k _ α H (.refl _ _) (.d hr R.bl_mk)⟩
  · cases e
section
variable {Γ : G} {pos apos cpos : Pos} {o e : Expr} {es : List Expr} {fo : DE} {fa : DA}
theorem se_find3 (ho : SE Γ o fo) (ha : SA Γ (e :: es) fa) (hbase : ∀ env, attributeBase o "find" env (eval o env) = eval o env := by intro _; rfl)
    (hfew : ∀ env, ((backTo cpos (starEach (e :: es) env)).all (fun x => !x.1) && (backToKw cpos (keywordEach [] env)).all (fun x => x.1.isSome)
      && decide ((e :: es).length + ([] : List Keyword).length + (if ([] : List Keyword).isEmpty then 0 else 1) < 30)) = true := by intro _; rfl)
    (hline : (apos.endLine == cpos.line) = true := by rfl) (hst : ∀ env, starEach (e :: es) env = (false, eval e env) :: starEach es env := by intro _; rfl) (hplain : ∀ env, (backTo cpos (starEach es env)).any (·.1) = false := by intro _; rfl) :
    SE Γ (.Call (.Attribute o "find" apos) (e :: es) [] cpos) (eMN gFind3 fo fa) := se_mN PySem.F.slot_str_find PySem.F.type_str_find (fun _ _ => mt_find3) me_find3 ho ha hbase hfew hline hst hplain
theorem se_starts3 (ho : SE Γ o fo) (ha : SA Γ (e :: es) fa) (hbase : ∀ env, attributeBase o "startswith" env (eval o env) = eval o env := by intro _; rfl)
    (hfew : ∀ env, ((backTo cpos (starEach (e :: es) env)).all (fun x => !x.1) && (backToKw cpos (keywordEach [] env)).all (fun x => x.1.isSome)
      && decide ((e :: es).length + ([] : List Keyword).length + (if ([] : List Keyword).isEmpty then 0 else 1) < 30)) = true := by intro _; rfl)
    (hline : (apos.endLine == cpos.line) = true := by rfl) (hst : ∀ env, starEach (e :: es) env = (false, eval e env) :: starEach es env := by intro _; rfl) (hplain : ∀ env, (backTo cpos (starEach es env)).any (·.1) = false := by intro _; rfl) :
    SE Γ (.Call (.Attribute o "startswith" apos) (e :: es) [] cpos) (eMN gStarts3 fo fa) := se_mN PySem.F.slot_str_startswith PySem.F.type_str_startswith (fun _ _ => mt_startswith3) me_starts3 ho ha hbase hfew hline hst hplain
end
end F
/-! F17: a slot's own list: xs[i] = e, xs.pop(). -/
namespace F
open PySem PySem.Spec PyProof.Rows L2
def dPutO (i : Nat) (fi f : DE) : DS := fun env h => match env[i]? with
  | some (.c (.lst ds)) => match f env h with
    | some (.d d, h1) => match fi env h1 with
      | some (.d (.int k), h2) => match ixN ds.length k with
        | some j => some (.nx (env.set i (.c (.lst (ds.set j d)))) h2)
        | none => none
      | _ => none
    | _ => none
  | _ => none
def dPopO (i : Nat) : DS := fun env h => match env[i]? with
  | some (.c (.lst ds)) => if ds = [] then none else some (.nx (env.set i (.c (.lst ds.dropLast))) h)
  | _ => none
theorem RL.dropLast {K : PySem.W.Frag} {α : List Addr} {O : Addr → Prop} {H : Hp} {ds : List D} {xs : List V} (r : RL K α O H ds xs) : RL K α O H ds.dropLast xs.dropLast := by
  rw [List.dropLast_eq_take, List.dropLast_eq_take, r.length]
  exact r.take _
section
variable {Γ : G} {pos apos cpos p p2 : Pos} {e ix : Expr} {f fi : DE}
theorem s1_putO {i : Nat} {x : Str} (hN : Γ.N[i]? = some x := by rfl) (hi : SE Γ ix fi) (he : SE Γ e f) (hv : Γ.sc.names.lookup x = some .local ∨ Γ.sc.names.lookup x = some .cell ∨ Γ.sc.names.lookup x = some .free := by first | exact Or.inl rfl | exact Or.inr (Or.inl rfl) | exact Or.inr (Or.inr rfl))
    (hd : (x == ("__debug__" : Str)) = false := by decide) (hcd : (x == ("__classdict__" : Str)) = false := by decide)
    (ha : ∀ env v, assign (.Subscript (.Name x p) ix p2) env v = (do
      let ov ← holding [v] (eval (.Name x p) env)
      let iv ← holding [v, ov] (eval ix env)
      standAt p2
      holding [v, ov, iv] (setItem ov iv v)
      release [v, ov, iv] []) := by intro _ _; rfl) (hs : ∀ env, swapsWithSole [.Subscript (.Name x p) ix p2] e pos.line env = pure false := by intro _; rfl) (hw : ∀ env, swappedStores [.Subscript (.Name x p) ix p2] e env = pure none := by intro _; rfl)
    (h1 : ∀ env, (assignEach [.Subscript (.Name x p) ix p2] env).map (·.2) = [assign (.Subscript (.Name x p) ix p2) env] := by intro _; rfl) : S1 Γ (.Assign [.Subscript (.Name x p) ix p2] e pos) (dPutO i fi f) := fun X c B =>
  PS.imp (ps_asg (he X c) (pg_sub (pe_var (by rw [c.N]; exact hN) (Vis.of c hv) hd hcd) (hi X c) set_list (ha _)) (hs _) (hw _) (h1 _)) fun D σ H q => by
    obtain ⟨α, O, h, env, hr, sr, br, o, e, k⟩ := q
    unfold dPutO at e
    split at e
    · rename_i ds ei
      split at e
      · rename_i d h1 e1
        split at e
        · rename_i kk h2 e2
          split at e
          · rename_i j ej
            cases e
            refine ⟨α, O, h, env, hr, sr, _, h1, e1, fun α1 H1 v s1 o1 => ?_⟩
            have sr1 := sr.stp hr s1
            obtain ⟨a, e3, ⟨xs, e4, rl⟩, oa⟩ := sr1.own i _ ei
            refine ⟨.ref a, e3, ?_⟩
            refine ⟨α1, O, h1, env, o1.hr, sr1, _, h2, e2, fun α2 H2 z s2 o2 => ?_⟩
            have sr2 := sr1.stp o1.hr s2
            obtain ⟨a', e3', ⟨ys, e5, rl2⟩, oa2⟩ := sr2.own i _ ei
            rw [e3] at e3'
            cases e3'
            have rx := R.mv s2.mv _ _ o1.isD
            refine ⟨a, ys, kk, j, rfl, o2.isD.int_eq, e5, by rw [← rl2.length]; exact ej, ?_⟩
            obtain ⟨w1, w2, w3⟩ := wrC (c' := .lst (ds.set j d)) (o := .lst (ys.set j v)) o2.hr sr2 ((br.stp hr o1.hr s1).stp o1.hr o2.hr s2) ei e3 (fun _ => trivial) ⟨_, upd_same, RL.mv (Mv.updO oa2) _ _ (rl2.set j rx)⟩
            exact k α2 O _ σ w1 w2 w3
          · cases e
        · cases e
      · cases e
    · cases e
theorem s1_popO {i : Nat} {x : Str} (hN : Γ.N[i]? = some x := by rfl) (hv : Γ.sc.names.lookup x = some .local ∨ Γ.sc.names.lookup x = some .cell ∨ Γ.sc.names.lookup x = some .free := by first | exact Or.inl rfl | exact Or.inr (Or.inl rfl) | exact Or.inr (Or.inr rfl))
    (hd : (x == ("__debug__" : Str)) = false := by decide) (hcd : (x == ("__classdict__" : Str)) = false := by decide)
    (hbase : ∀ env, attributeBase (.Name x p) "pop" env (eval (.Name x p) env) = eval (.Name x p) env := by intro _; rfl)
    (hline : (apos.endLine == cpos.line) = true := by rfl)
    (hsw : ∀ env, swapsWith (.Call (.Attribute (.Name x p) "pop" apos) [] [] cpos) none pos.line env = pure false := by intro _; rfl) :
    S1 Γ (.Expr (.Call (.Attribute (.Name x p) "pop" apos) [] [] cpos) pos) (dPopO i) := fun X c B =>
  PS.imp (ps_expr (pe_bm0 PySem.F.plainAttrs_list PySem.F.slot_list_pop PySem.F.type_list_pop mt_pop (pe_var (by rw [c.N]; exact hN) (Vis.of c hv) hd hcd) (hbase _) hline) (hsw _)) fun D σ H q => by
    obtain ⟨α, O, h, env, hr, sr, br, o, e, k⟩ := q
    unfold dPopO at e
    split at e
    · rename_i ds ei
      split at e
      · cases e
      · rename_i hne
        cases e
        obtain ⟨a, e2, ⟨xs, e3, rl⟩, oa⟩ := sr.own i _ ei
        have hl := rl.length
        have xne : xs ≠ [] := fun z => hne (rl.nil_iff.mpr z)
        have pos : 0 < xs.length := List.length_pos_iff.mpr xne
        refine ⟨.ref a, e2, .inl ⟨rfl, xs, sqL_some e3⟩, ?_⟩
        refine ⟨a, xs, xs[xs.length - 1], rfl, rfl, e3, List.getElem?_eq_getElem (by omega), ?_⟩
        obtain ⟨w1, w2, w3⟩ := wrC (c' := .lst ds.dropLast) (o := .lst xs.dropLast) hr sr br ei e2 (fun _ => trivial) ⟨_, upd_same, RL.mv (Mv.updO oa) _ _ (RL.dropLast rl)⟩
        exact k α O _ σ w1 w2 w3
    · cases e
end
end F
/-! F18: xs.extend(ys), xs a slot's own list. -/
namespace F
open PySem PySem.Spec PyProof.Rows L2
def dExtO (i : Nat) (f : DE) : DS := fun env h => match env[i]? with
  | some (.c (.lst ds)) => match f env h with
    | some (rv, h1) => match lvT rv h1 with
      | some es => if ds.length + es.length ≤ sizeLine then some (.nx (env.set i (.c (.lst (ds ++ es)))) h1) else none
      | none => none
    | none => none
  | _ => none
section
variable {Γ : G} {pos apos cpos p : Pos} {e : Expr} {f : DE}
theorem s1_extO {i : Nat} {x : Str} (hN : Γ.N[i]? = some x := by rfl) (he : SE Γ e f) (hv : Γ.sc.names.lookup x = some .local ∨ Γ.sc.names.lookup x = some .cell ∨ Γ.sc.names.lookup x = some .free := by first | exact Or.inl rfl | exact Or.inr (Or.inl rfl) | exact Or.inr (Or.inr rfl))
    (hd : (x == ("__debug__" : Str)) = false := by decide) (hcd : (x == ("__classdict__" : Str)) = false := by decide)
    (hbase : ∀ env, attributeBase (.Name x p) "extend" env (eval (.Name x p) env) = eval (.Name x p) env := by intro _; rfl)
    (hfew : ∀ env, ((backTo cpos (starEach [e] env)).all (fun x => !x.1) && (backToKw cpos (keywordEach [] env)).all (fun x => x.1.isSome)
      && decide (([e] : List Expr).length + ([] : List Keyword).length + (if ([] : List Keyword).isEmpty then 0 else 1) < 30)) = true := by intro _; rfl)
    (hline : (apos.endLine == cpos.line) = true := by rfl) (hs : ∀ env, starEach [e] env = (false, eval e env) :: starEach [] env := by intro _; rfl) (hplain : ∀ env, (backTo cpos (starEach [] env)).any (·.1) = false := by intro _; rfl)
    (hsw : ∀ env, swapsWith (.Call (.Attribute (.Name x p) "extend" apos) [e] [] cpos) none pos.line env = pure false := by intro _; rfl) :
    S1 Γ (.Expr (.Call (.Attribute (.Name x p) "extend" apos) [e] [] cpos) pos) (dExtO i f) := fun X c B =>
  PS.imp (ps_expr (pe_bm PySem.F.plainAttrs_list PySem.F.slot_list_extend PySem.F.type_list_extend mt_extend (pe_var (by rw [c.N]; exact hN) (Vis.of c hv) hd hcd) (pa_cons (he X c) pa_nil (hs _)) (hbase _) (hfew _) hline (hs _) (hplain _)) (hsw _)) fun D σ H q => by
    obtain ⟨α, O, h, env, hr, sr, br, o, e, k⟩ := q
    unfold dExtO at e
    split at e
    · rename_i ds ei
      split at e
      · rename_i rv h1 e1
        split at e
        · rename_i es el
          split at e
          · rename_i hz
            cases e
            obtain ⟨a, e2, ⟨xs, e3, rl⟩, oa⟩ := sr.own i _ ei
            refine ⟨.ref a, e2, .inl ⟨rfl, xs, sqL_some e3⟩, ?_⟩
            refine ⟨α, O, h, env, hr, sr, _, h1, e1, fun α1 H1 y s1 o1 => ?_⟩
            have sr1 := sr.stp hr s1
            obtain ⟨a', e2', ⟨xs', e3', rl'⟩, oa'⟩ := sr1.own i _ ei
            rw [e2] at e2'
            cases e2'
            obtain ⟨b, zs, ey, eb, rz⟩ := lvT_eq o1.hr o1.at_ el
            subst ey
            -- what the value told of stays owned by nobody here
            have hr1 := o1.hr
            refine ⟨a, b, xs', zs, rfl, rfl, e3', eb, by rw [← rl'.length, ← rz.length]; exact hz, ?_⟩
            obtain ⟨w1, w2, w3⟩ := wrC (c' := .lst (ds ++ es)) (o := .lst (xs' ++ zs)) hr1 sr1 (br.stp hr hr1 s1) ei e2 (fun _ => trivial) ⟨_, upd_same, RL.mv (Mv.updO oa') _ _ (rl'.app rz)⟩
            exact k α1 O _ σ w1 w2 w3
          · cases e
        · cases e
      · cases e
    · cases e
end
end F
/-! F19: y = xs.pop(i), xs a slot's own list. -/
namespace F
open PySem PySem.Spec PyProof.Rows L2
def dPopX (j i : Nat) (fi : DE) : DS := fun env h => match env[i]? with
  | some (.c (.lst ds)) => match fi env h with
    | some (.d (.int k), h1) => if -(2 ^ 63) ≤ k ∧ k < 2 ^ 63 then match ixN ds.length k with
      | some m => match ds[m]? with
        | some d => some (.nx ((env.set i (.c (.lst (ds.eraseIdx m)))).set j (.v d)) h1)
        | none => none
      | none => none else none
    | _ => none
  | _ => none
theorem RL.eraseIdx {K : PySem.W.Frag} {α : List Addr} {O : Addr → Prop} {H : Hp} : ∀ {ds : List D} {xs : List V} (m : Nat), RL K α O H ds xs → RL K α O H (ds.eraseIdx m) (xs.eraseIdx m)
  | _, _, m, r => by
    rw [List.eraseIdx_eq_take_drop_succ, List.eraseIdx_eq_take_drop_succ]
    exact (r.take m).app (r.drop (m + 1))
section
variable {Γ : G} {pos apos cpos p pos' : Pos} {ix : Expr} {fi : DE}
theorem s1_popX {j i : Nat} {x y : Str} (hM : Γ.N[j]? = some y := by rfl) (hN : Γ.N[i]? = some x := by rfl) (hi : SE Γ ix fi)
    (hy : Γ.sc.names.lookup y = some .local := by rfl)
    (hv : Γ.sc.names.lookup x = some .local ∨ Γ.sc.names.lookup x = some .cell ∨ Γ.sc.names.lookup x = some .free := by first | exact Or.inl rfl | exact Or.inr (Or.inl rfl) | exact Or.inr (Or.inr rfl))
    (hd : (x == ("__debug__" : Str)) = false := by decide) (hcd : (x == ("__classdict__" : Str)) = false := by decide)
    (hbase : ∀ env, attributeBase (.Name x p) "pop" env (eval (.Name x p) env) = eval (.Name x p) env := by intro _; rfl)
    (hfew : ∀ env, ((backTo cpos (starEach [ix] env)).all (fun x => !x.1) && (backToKw cpos (keywordEach [] env)).all (fun x => x.1.isSome)
      && decide (([ix] : List Expr).length + ([] : List Keyword).length + (if ([] : List Keyword).isEmpty then 0 else 1) < 30)) = true := by intro _; rfl)
    (hline : (apos.endLine == cpos.line) = true := by rfl) (hs : ∀ env, starEach [ix] env = (false, eval ix env) :: starEach [] env := by intro _; rfl) (hplain : ∀ env, (backTo cpos (starEach [] env)).any (·.1) = false := by intro _; rfl)
    (hsw : ∀ env, swapsWith (.Call (.Attribute (.Name x p) "pop" apos) [ix] [] cpos) (some (.Name y pos')) pos.line env = pure false := by intro _; rfl) :
    S1 Γ (.Assign [.Name y pos'] (.Call (.Attribute (.Name x p) "pop" apos) [ix] [] cpos) pos) (dPopX j i fi) := fun X c B =>
  PS.imp (ps_set (by rw [c.N]; exact c.nd) (by rw [c.N]; exact hM) (Loc.of c (.inl hy)) (pe_bm PySem.F.plainAttrs_list PySem.F.slot_list_pop PySem.F.type_list_pop mt_popAt (pe_var (by rw [c.N]; exact hN) (Vis.of c hv) hd hcd) (pa_cons (hi X c) pa_nil (hs _)) (hbase _) (hfew _) hline (hs _) (hplain _)) (hsw _) (hf_of c (.inr hy))) fun D σ H q => by
    obtain ⟨α, O, h, env, hr, sr, br, o, e, k⟩ := q
    unfold dPopX at e
    split at e
    · rename_i ds ei
      split at e
      · rename_i kk h1 e1
        split at e
        · rename_i hz
          split at e
          · rename_i m em
            split at e
            · rename_i d ed
              cases e
              obtain ⟨a, e2, ⟨xs, e3, rl⟩, oa⟩ := sr.own i _ ei
              refine ⟨.ref a, e2, .inl ⟨rfl, xs, sqL_some e3⟩, ?_⟩
              refine ⟨α, O, h, env, hr, sr, _, h1, e1, fun α1 H1 z s1 o1 => ?_⟩
              have sr1 := sr.stp hr s1
              obtain ⟨a', e2', ⟨xs', e3', rl'⟩, oa'⟩ := sr1.own i _ ei
              rw [e2] at e2'
              cases e2'
              have hr1 := o1.hr
              obtain ⟨u, hu, ru⟩ := rl'.get ed
              refine ⟨a, xs', kk, m, u, rfl, by rw [o1.isD.int_eq], e3', hz.1, hz.2, by rw [← rl'.length]; exact (ixN_seq em).1, hu, ?_⟩
              obtain ⟨w1, w2, w3⟩ := wrC (c' := .lst (ds.eraseIdx m)) (o := .lst (xs'.eraseIdx m)) hr1 sr1 (br.stp hr hr1 s1) ei e2 (fun _ => trivial) ⟨_, upd_same, RL.mv (Mv.updO oa') _ _ (RL.eraseIdx m rl')⟩
              obtain ⟨O', r, s, b⟩ := store_imp (i := j) (rv := .d d) w1 w2 w3 (Stp.refl _ _) (.d w1 (R.mv (Mv.updO oa') _ _ ru)) rfl
              exact k α1 O' _ _ r s b
            · cases e
          · cases e
        · cases e
      · cases e
    · cases e
end
end F
/-! F20: what holds of what comes out (ok), walked from the head of the code on. -/
namespace F
open PySem L2
class Ho (A : Type) where
  q : A → Prop
/-- what comes out, and what holds of it -/
def ok {A : Type} (o : Option A) (Q : A → Prop) : Prop := ∃ a, o = some a ∧ Q a
/-- the same; simp leaves what stands behind alone -/
def wp {A : Type} (o : Option A) [Q : Ho A] : Prop := ∃ a, o = some a ∧ Q.q a
theorem wp_ok {A : Type} {o : Option A} {Q : A → Prop} (h : @wp A o ⟨Q⟩) : ok o Q := h
theorem ok_wp {A : Type} {o : Option A} {Q : A → Prop} : ok o Q = @wp A o ⟨Q⟩ := rfl
theorem Ho_q {A : Type} {f : A → Prop} {a : A} : Ho.q (self := ⟨f⟩) a = f a := rfl
section
variable {A B : Type} {o : Option A} {Q : Ho A} {R R' : A → Prop} {a : A}
theorem ok.mono (h : ok o R) (i : ∀ a, R a → R' a) : ok o R' := by
  obtain ⟨a, e, q⟩ := h
  exact ⟨a, e, i a q⟩
theorem ok_eq (e : o = some a) (q : R a) : ok o R := ⟨a, e, q⟩
theorem ok_some : ok (some a) R = R a := propext ⟨fun ⟨b, e, q⟩ => by cases e; exact q, fun q => ⟨a, rfl, q⟩⟩
theorem ok_bd {k : A → Option B} {P : B → Prop} : ok (bd o k) P = ok o fun a => ok (k a) P := by
  cases o with
  | none => exact propext ⟨(fun ⟨b, e, q⟩ => by cases e), (fun ⟨b, e, q⟩ => by cases e)⟩
  | some a => rw [bd_some, ok_some]
theorem wp_some : @wp A (some a) Q = Q.q a := propext ⟨fun ⟨b, e, q⟩ => by cases e; exact q, fun q => ⟨a, rfl, q⟩⟩
theorem wp_bd {k : A → Option B} {P : Ho B} : @wp B (bd o k) P = @wp A o ⟨fun a => @wp B (k a) P⟩ := by
  cases o with
  | none => exact propext ⟨(fun ⟨b, e, q⟩ => by cases e), (fun ⟨b, e, q⟩ => by cases e)⟩
  | some a => rw [bd_some, wp_some, Ho_q]
theorem wp_of (h : ok o R) (i : ∀ a, R a → Q.q a) : @wp A o Q := h.mono i
theorem wp_eq (e : o = some a) (q : Q.q a) : @wp A o Q := ⟨a, e, q⟩
theorem wp_cond {c : Bool} {x y : Option A} (h1 : c = true → @wp A x Q) (h2 : c = false → @wp A y Q) : @wp A (cond c x y) Q := by
  cases c
  · exact h2 rfl
  · exact h1 rfl
theorem wp_cond_dec {p : Prop} [Decidable p] {x y : Option A} (h1 : p → @wp A x Q) (h2 : ¬ p → @wp A y Q) : @wp A (cond (decide p) x y) Q :=
  wp_cond (fun e => h1 (of_decide_eq_true e)) fun e => h2 (of_decide_eq_false e)
theorem wp_cond_beq {T : Type} [BEq T] [LawfulBEq T] {s t : T} {x y : Option A} (h1 : s = t → @wp A x Q) (h2 : s ≠ t → @wp A y Q) : @wp A (cond (s == t) x y) Q :=
  wp_cond (fun e => h1 (by simpa using e)) fun e => h2 (by simpa using e)
theorem wp_cond_not {c : Bool} {x y : Option A} (h : @wp A (cond c y x) Q) : @wp A (cond (!c) x y) Q := by cases c <;> exact h
end
def sqC (b : DS) : SOut → Option SOut
  | .nx e h => b e h
  | r => some r
def rndC (b : DS) : SOut → Option SOut
  | .nx e h => b e h
  | .ct e h => b e h
  | .bk e h => some (.nx e h)
  | .rt r h => some (.rt r h)
noncomputable def finC (h : Hs) : SOut → Option (RV × Hs)
  | .rt rv h' => some (rv, gc h h' rv)
  | .nx _ h' => some (.d .non, gc h h' (.d .non))
  | _ => none
def callC (p : RV × Hs) : Option (RV × Hs) := callR (some p)
section
variable {b : DS} {o : Option SOut} {P : Ho SOut} {env : Env} {h h' : Hs} {rv : RV} {d : D} {c : Cell}
theorem wp_sqS : @wp SOut (sqS b o) P = @wp SOut o ⟨fun s => @wp SOut (sqC b s) P⟩ := by
  cases o with
  | none => exact propext ⟨(fun ⟨b, e, q⟩ => by cases e), (fun ⟨b, e, q⟩ => by cases e)⟩
  | some s => rw [wp_some, Ho_q]; cases s <;> rfl
theorem wp_rnd : @wp SOut (rnd b o) P = @wp SOut o ⟨fun s => @wp SOut (rndC b s) P⟩ := by
  cases o with
  | none => exact propext ⟨(fun ⟨b, e, q⟩ => by cases e), (fun ⟨b, e, q⟩ => by cases e)⟩
  | some s => rw [wp_some, Ho_q]; cases s <;> rfl
theorem wp_fin {P : Ho (RV × Hs)} : @wp (RV × Hs) (fin h o) P = @wp SOut o ⟨fun s => @wp (RV × Hs) (finC h s) P⟩ := by
  cases o with
  | none => exact propext ⟨(fun ⟨b, e, q⟩ => by cases e), (fun ⟨b, e, q⟩ => by cases e)⟩
  | some s => rw [wp_some, Ho_q]; cases s <;> rfl
theorem wp_callR {o : Option (RV × Hs)} {P : Ho (RV × Hs)} : @wp (RV × Hs) (callR o) P = @wp (RV × Hs) o ⟨fun s => @wp (RV × Hs) (callC s) P⟩ := by
  cases o with
  | none => exact propext ⟨(fun ⟨b, e, q⟩ => by cases e), (fun ⟨b, e, q⟩ => by cases e)⟩
  | some s => rw [wp_some, Ho_q]; rfl
theorem sqC_nx : sqC b (.nx env h) = b env h := rfl
theorem sqC_rt : sqC b (.rt rv h) = some (.rt rv h) := rfl
theorem sqC_bk : sqC b (.bk env h) = some (.bk env h) := rfl
theorem sqC_ct : sqC b (.ct env h) = some (.ct env h) := rfl
theorem rndC_nx : rndC b (.nx env h) = b env h := rfl
theorem rndC_ct : rndC b (.ct env h) = b env h := rfl
theorem rndC_bk : rndC b (.bk env h) = some (.nx env h) := rfl
theorem rndC_rt : rndC b (.rt rv h) = some (.rt rv h) := rfl
theorem finC_rt : finC h (.rt rv h') = some (rv, gc h h' rv) := rfl
theorem finC_nx : finC h (.nx env h') = some (.d .non, gc h h' (.d .non)) := rfl
theorem callC_d : callC (.d d, h) = some (.d d, h) := rfl
theorem callC_l : callC (.l c, h) = some (.l c, h) := rfl
end
/-! a drawn one of a list -/
section
variable {ds : List D} {x : Int} {h : Hs} {Q : Ho (RV × Hs)}
theorem wp_pick (h0 : 0 ≤ x) (h1 : x < (ds.length : Nat)) (H : ∀ d ∈ ds, Q.q (.d d, h)) : @wp _ (gIx (.l (.lst ds)) (.d (.int x)) h) Q := by
  obtain ⟨y, e, m⟩ := atI_mem h0 h1
  exact ⟨_, gIx_lst e, H y m⟩
theorem wp_pickR (h0 : 0 ≤ x) (h1 : x < (ds.length : Nat)) (H : ∀ d ∈ ds, Q.q (.d d, h)) : @wp _ (gIx (.d (.rol ds)) (.d (.int x)) h) Q := by
  obtain ⟨y, e, m⟩ := atI_mem h0 h1
  exact ⟨_, gIx_rol e, H y m⟩
theorem wp_pickB (h0 : 0 ≤ x) (h1 : x < (ds.length : Nat)) (H : ∀ d ∈ ds, Q.q (.d d, h)) : @wp _ (gIx (.b (.lst ds)) (.d (.int x)) h) Q := by
  obtain ⟨y, e, m⟩ := atI_mem h0 h1
  exact ⟨_, gIx_sq rfl (fun _ e => by cases e) e, H y m⟩
theorem wp_pickS {s : List Nat} (hz : s.length ≤ 100000) (h0 : 0 ≤ x) (h1 : x < (s.length : Nat)) (H : ∀ c ∈ s, Q.q (.d (.str [c]), h)) : @wp _ (gIx (.d (.str s)) (.d (.int x)) h) Q := by
  obtain ⟨y, e, m⟩ := atI_mem (l := s) h0 h1
  exact ⟨_, gIx_str hz e, H y m⟩
theorem wp_lstK (hz : ds.length ≤ 1000) (q : Q.q (.l (.lst ds), h)) : @wp _ (lstK h ds) Q := ⟨_, lstK_e hz, q⟩
theorem wp_tupK (hz : ds.length ≤ 1000) (q : Q.q (.d (.tup ds), h)) : @wp _ (tupK h ds) Q := ⟨_, tupK_e hz, q⟩
theorem wp_addS {a b : List Nat} (hz : a.length + b.length ≤ 100000) (q : Q.q (.d (.str (a ++ b)), h)) : @wp _ (gAdd (.d (.str a)) (.d (.str b)) h) Q := ⟨_, gAdd_str hz, q⟩
theorem wp_add_rr {ds es : List D} (hz : ds.length + es.length ≤ 100000) (q : Q.q (.l (.lst (ds ++ es)), h)) : @wp _ (gAdd (.d (.rol ds)) (.d (.rol es)) h) Q := ⟨_, gAdd_lst rfl rfl (by intro _ e; cases e) (by intro _ e; cases e) (by intro _ e; cases e) hz, q⟩
theorem wp_add_rl {ds es : List D} (hz : ds.length + es.length ≤ 100000) (q : Q.q (.l (.lst (ds ++ es)), h)) : @wp _ (gAdd (.d (.rol ds)) (.l (.lst es)) h) Q := ⟨_, gAdd_lst rfl rfl (by intro _ e; cases e) (by intro _ e; cases e) (by intro _ e; cases e) hz, q⟩
theorem wp_add_rb {ds es : List D} (hz : ds.length + es.length ≤ 100000) (q : Q.q (.l (.lst (ds ++ es)), h)) : @wp _ (gAdd (.d (.rol ds)) (.b (.lst es)) h) Q := ⟨_, gAdd_lst rfl rfl (by intro _ e; cases e) (by intro _ e; cases e) (by intro _ e; cases e) hz, q⟩
theorem wp_add_lr {ds es : List D} (hz : ds.length + es.length ≤ 100000) (q : Q.q (.l (.lst (ds ++ es)), h)) : @wp _ (gAdd (.l (.lst ds)) (.d (.rol es)) h) Q := ⟨_, gAdd_lst rfl rfl (by intro _ e; cases e) (by intro _ e; cases e) (by intro _ e; cases e) hz, q⟩
theorem wp_add_ll {ds es : List D} (hz : ds.length + es.length ≤ 100000) (q : Q.q (.l (.lst (ds ++ es)), h)) : @wp _ (gAdd (.l (.lst ds)) (.l (.lst es)) h) Q := ⟨_, gAdd_lst rfl rfl (by intro _ e; cases e) (by intro _ e; cases e) (by intro _ e; cases e) hz, q⟩
theorem wp_add_lb {ds es : List D} (hz : ds.length + es.length ≤ 100000) (q : Q.q (.l (.lst (ds ++ es)), h)) : @wp _ (gAdd (.l (.lst ds)) (.b (.lst es)) h) Q := ⟨_, gAdd_lst rfl rfl (by intro _ e; cases e) (by intro _ e; cases e) (by intro _ e; cases e) hz, q⟩
theorem wp_add_br {ds es : List D} (hz : ds.length + es.length ≤ 100000) (q : Q.q (.l (.lst (ds ++ es)), h)) : @wp _ (gAdd (.b (.lst ds)) (.d (.rol es)) h) Q := ⟨_, gAdd_lst rfl rfl (by intro _ e; cases e) (by intro _ e; cases e) (by intro _ e; cases e) hz, q⟩
theorem wp_add_bl {ds es : List D} (hz : ds.length + es.length ≤ 100000) (q : Q.q (.l (.lst (ds ++ es)), h)) : @wp _ (gAdd (.b (.lst ds)) (.l (.lst es)) h) Q := ⟨_, gAdd_lst rfl rfl (by intro _ e; cases e) (by intro _ e; cases e) (by intro _ e; cases e) hz, q⟩
theorem wp_add_bb {ds es : List D} (hz : ds.length + es.length ≤ 100000) (q : Q.q (.l (.lst (ds ++ es)), h)) : @wp _ (gAdd (.b (.lst ds)) (.b (.lst es)) h) Q := ⟨_, gAdd_lst rfl rfl (by intro _ e; cases e) (by intro _ e; cases e) (by intro _ e; cases e) hz, q⟩
theorem wp_addT {a b : List D} (hz : a.length + b.length ≤ 1000) (q : Q.q (.d (.tup (a ++ b)), h)) : @wp _ (gAdd (.d (.tup a)) (.d (.tup b)) h) Q := ⟨_, if_pos (Nat.le_trans hz (by decide)), q⟩
theorem wp_slS {s : List Nat} {lo hi : Option Int} (hz : s.length ≤ 100000) (q : Q.q (.d (.str (cut s lo hi)), h)) : @wp _ (gSl (.d (.str s)) lo hi h) Q := ⟨_, gSl_str hz, q⟩
theorem wp_lenS {s : List Nat} (hz : s.length ≤ 100000) (q : Q.q (.d (.int s.length), h)) : @wp _ (gLen [.d (.str s)] h) Q := ⟨_, gLen_str hz, q⟩
theorem wp_rng {j : Int} {Q : Ho (List D × Hs)} (h1 : -1000000 ≤ j) (h2 : j ≤ 1000000) (q : Q.q (rangeL 0 1 j.toNat, h)) : @wp _ (rngK h [.d (.int j)]) Q := ⟨_, rngK_e h1 h2, q⟩
end
theorem txts_map2 : ∀ {ds : List D} {ls : List (List Nat)}, txts ds = some ls → ds = ls.map .str
  | [], ls, e => by cases e; rfl
  | d :: ds, ls, e => by
    cases d <;> try (cases e; done)
    rename_i s
    unfold txts at e
    cases h2 : txts ds with
    | none => rw [h2] at e; cases e
    | some l => rw [h2] at e; cases e; rw [txts_map2 h2]; rfl
theorem wp_pickT {ds : List D} {ls : List (List Nat)} (e : txts ds = some ls) {x : Int} {h : Hs} {Q : Ho (RV × Hs)} (h0 : 0 ≤ x) (h1 : x < (ds.length : Nat)) (H : ∀ a ∈ ls, Q.q (.d (.str a), h)) : @wp _ (gIx (.l (.lst ds)) (.d (.int x)) h) Q := by
  have e2 := txts_map2 e
  subst e2
  refine wp_pick h0 h1 fun d hd => ?_
  obtain ⟨a, ha, rfl⟩ := List.mem_map.mp hd
  exact H a ha
/-! loops by what stands ahead of each round -/
section
variable {g : DG} {b : DS} {t : DT}
/-- for: I holds of what is left to go through, ahead of each round -/
theorem ok_dFl {I : List D → Env → Hs → Prop} {P : SOut → Prop} (step : ∀ d ds env h, I (d :: ds) env h → ok (g d env) fun env1 => ok (b env1 h) fun s => match s with
      | .nx e h1 => I ds e h1
      | .ct e h1 => I ds e h1
      | .bk e h1 => P (.nx e h1)
      | .rt r h1 => P (.rt r h1))
    (done : ∀ env h, I [] env h → P (.nx env h)) : ∀ (ds : List D) (env : Env) (h : Hs), I ds env h → ok (dFl g b ds env h) P
  | [], env, h, i => ⟨_, rfl, done env h i⟩
  | d :: ds, env, h, i => by
    rw [dFl_cons, ok_bd]
    refine (step d ds env h i).mono fun env1 q => ?_
    obtain ⟨s, es, q⟩ := q
    rw [es]
    cases s with
    | nx e h1 => exact ok_dFl step done ds e h1 q
    | ct e h1 => exact ok_dFl step done ds e h1 q
    | bk e h1 => exact ⟨_, rfl, q⟩
    | rt r h1 => exact ⟨_, rfl, q⟩
/-- while: I k holds ahead of each round, k falls -/
theorem ok_dWh {I : Nat → Env → Hs → Prop} {P : SOut → Prop} (step : ∀ k env h, I k env h → ok (t env h) fun p => match p.1 with
      | true => ok (b env p.2) fun s => match s with
        | .nx e h1 => ∃ j, j < k ∧ I j e h1
        | .ct e h1 => ∃ j, j < k ∧ I j e h1
        | .bk e h1 => P (.nx e h1)
        | .rt r h1 => P (.rt r h1)
      | false => P (.nx env p.2)) : ∀ (n k : Nat) (env : Env) (h : Hs), k < n → I k env h → ok (dWh t b n env h) P
  | 0, k, env, h, hk, i => absurd hk (Nat.not_lt_zero _)
  | n + 1, k, env, h, hk, i => by
    rw [dWh_succ, ok_bd]
    refine (step k env h i).mono fun p q => ?_
    obtain ⟨c, h1⟩ := p
    cases c with
    | false => exact ⟨_, rfl, q⟩
    | true =>
      show ok (rnd _ (b env h1)) P
      obtain ⟨s, es, q⟩ := q
      rw [es]
      cases s with
      | nx e h1 => obtain ⟨j, hj, i⟩ := q; exact ok_dWh step n j e h1 (by omega) i
      | ct e h1 => obtain ⟨j, hj, i⟩ := q; exact ok_dWh step n j e h1 (by omega) i
      | bk e h1 => exact ⟨_, rfl, q⟩
      | rt r h1 => exact ⟨_, rfl, q⟩
end
/-- a list made by rounds: J of the heap stays, P of each -/
theorem wp_lcK {k : Nat} {te : DE} {env : Env} {J : Hs → Prop} {P : D → Prop} {Q : Ho (RV × Hs)} {ds : List D} (hz : ds.length ≤ 100000) (step : ∀ d ∈ ds, ∀ h, J h → ok (te ((wipeE env [k]).set k (.v d)) h) fun p => ∃ y, p.1 = .d y ∧ P y ∧ J p.2)
    (h : Hs) (j : J h) (q : ∀ ys h', ys.length = ds.length → (∀ y ∈ ys, P y) → J h' → Q.q (.l (.lst ys), h')) : @wp _ (lcK [k] (gNm k) fYes te env ds h) Q := by
  have main : ∀ (ds : List D), (∀ d ∈ ds, ∀ h, J h → ok (te ((wipeE env [k]).set k (.v d)) h) fun p => ∃ y, p.1 = .d y ∧ P y ∧ J p.2) → ∀ h, J h → ∃ ys h', lcL (gNm k) fYes te (wipeE env [k]) ds h = some (ys, h') ∧ ys.length = ds.length ∧ (∀ y ∈ ys, P y) ∧ J h' := by
    intro ds
    induction ds with
    | nil => intro _ h j; exact ⟨[], h, rfl, rfl, (fun y hy => by cases hy), j⟩
    | cons d ds ih =>
      intro st h j
      obtain ⟨⟨rv, h1⟩, e, y, e2, py, j1⟩ := st d List.mem_cons_self h j
      obtain ⟨ys, h2, e3, l3, p3, j3⟩ := ih (fun d hd => st d (List.mem_cons_of_mem _ hd)) h1 j1
      refine ⟨y :: ys, h2, ?_, by simp [l3], fun z hz => ?_, j3⟩
      · unfold lcL
        simp only [gNm_e, fYes_e, e]
        simp only at e2
        rw [e2]
        simp only [e3]
      · rcases List.mem_cons.mp hz with z1 | z1
        · rw [z1]; exact py
        · exact p3 z z1
  obtain ⟨ys, h', e, l, p, j'⟩ := main ds step h j
  refine ⟨_, ?_, q ys h' l p j'⟩
  unfold lcK
  rw [if_pos (Nat.le_trans hz (by decide)), e]
  rfl
end F
/-! F21: equality of plain data; more of the mirrors' equations. -/
namespace F
open PySem L2
mutual
def eqD : D → D → Bool
  | .non, .non => true
  | .bl a, .bl b => a == b
  | .bl a, .int j => (if a then 1 else 0) == j
  | .int i, .bl b => i == (if b then 1 else 0)
  | .int i, .int j => i == j
  | .str a, .str b => a == b
  | .tup a, .tup b => eqDs a b
  | .rol a, .rol b => eqDs a b
  | .rol a, .scr b => eqDs a b
  | .scr a, .rol b => eqDs a b
  | .scr a, .scr b => eqDs a b
  | _, _ => false
def eqDs : List D → List D → Bool
  | [], [] => true
  | x :: xs, y :: ys => eqD x y && eqDs xs ys
  | [], _ :: _ => false
  | _ :: _, [] => false
end
mutual
/-- plain data, of signs that are signs, less deep than n -/
def dOk : Nat → D → Bool
  | _, .non => true
  | _, .bl _ => true
  | _, .int _ => true
  | _, .str s => s.all (· < 1114112)
  | n + 1, .tup ds => dOks n ds
  | n + 1, .rol ds => dOks n ds
  | n + 1, .scr ds => dOks n ds
  | _, _ => false
def dOks : Nat → List D → Bool
  | _, [] => true
  | n, d :: ds => dOk n d && dOks n ds
end
mutual
def toP : D → PyData
  | .non => .none
  | .bl b => .bool b
  | .int i => .int i
  | .str s => .str (S s)
  | .tup ds => .tuple (toPs ds)
  | .rol ds => .list (toPs ds)
  | .scr ds => .list (toPs ds)
  | .ref _ => .none
def toPs : List D → List PyData
  | [] => []
  | d :: ds => toP d :: toPs ds
end
mutual
theorem tP_toP {rf : Nat → Option PyData} : ∀ (n : Nat) (d : D), dOk n d = true → tP rf d = some (toP d)
  | _, .non, _ => by simp only [tP, toP]
  | _, .bl b, _ => by simp only [tP, toP]
  | _, .int i, _ => by simp only [tP, toP]
  | _, .str s, _ => by simp only [tP, toP]
  | 0, .tup ds, h => by simp only [dOk] at h; cases h
  | 0, .rol ds, h => by simp only [dOk] at h; cases h
  | 0, .scr ds, h => by simp only [dOk] at h; cases h
  | n + 1, .tup ds, h => by simp only [dOk] at h; simp only [tP, toP, tPs_toPs n ds h]
  | n + 1, .rol ds, h => by simp only [dOk] at h; simp only [tP, toP, tPs_toPs n ds h]
  | n + 1, .scr ds, h => by simp only [dOk] at h; simp only [tP, toP, tPs_toPs n ds h]
  | _, .ref i, h => by simp only [dOk] at h; cases h
theorem tPs_toPs {rf : Nat → Option PyData} : ∀ (n : Nat) (ds : List D), dOks n ds = true → tPs rf ds = some (toPs ds)
  | _, [], _ => by simp only [tPs, toPs]
  | n, d :: ds, h => by
    simp only [dOks, Bool.and_eq_true] at h
    simp only [tPs, toPs, tP_toP n d h.1, tPs_toPs n ds h.2]
end
mutual
theorem lay_toP : ∀ (n : Nat) (d : D), dOk n d = true → (toP d).canLay0 = true ∧ (toP d).depth ≤ n
  | n, .non, _ => by simp [toP, PyData.canLay0, PyData.depth]
  | n, .bl b, _ => by simp [toP, PyData.canLay0, PyData.depth]
  | n, .int i, _ => by simp [toP, PyData.canLay0, PyData.depth]
  | n, .str s, h => by
    simp only [dOk, List.all_eq_true, decide_eq_true_eq] at h
    simp [toP, PyData.canLay0, PyData.depth, PyData.strOk, S]
    exact h
  | 0, .tup ds, h => by simp only [dOk] at h; cases h
  | 0, .rol ds, h => by simp only [dOk] at h; cases h
  | 0, .scr ds, h => by simp only [dOk] at h; cases h
  | n + 1, .tup ds, h => by
    simp only [dOk] at h
    have := lay_toPs n ds h
    simp [toP, PyData.canLay0, PyData.depth, this]
  | n + 1, .rol ds, h => by
    simp only [dOk] at h
    have := lay_toPs n ds h
    simp [toP, PyData.canLay0, PyData.depth, this]
  | n + 1, .scr ds, h => by
    simp only [dOk] at h
    have := lay_toPs n ds h
    simp [toP, PyData.canLay0, PyData.depth, this]
  | _, .ref i, h => by simp only [dOk] at h; cases h
theorem lay_toPs : ∀ (n : Nat) (ds : List D), dOks n ds = true → PyData.canLayAll0 (toPs ds) = true ∧ PyData.depthAll (toPs ds) ≤ n
  | n, [], _ => by simp [toPs, PyData.canLayAll0, PyData.depthAll]
  | n, d :: ds, h => by
    simp only [dOks, Bool.and_eq_true] at h
    have h1 := lay_toP n d h.1
    have h2 := lay_toPs n ds h.2
    simp [toPs, PyData.canLayAll0, PyData.depthAll, h1, h2, Nat.max_le]
end
mutual
theorem eqv_toP : ∀ (n : Nat) (d e : D), dOk n d = true → dOk n e = true → PyData.eqv (toP d) (toP e) = eqD d e
  | _, .non, e, _, h => by cases e <;> first | (simp only [dOk] at h; cases h; done) | simp only [toP, PyData.eqv, eqD]
  | _, .bl b, e, _, h => by cases e <;> first | (simp only [dOk] at h; cases h; done) | simp only [toP, PyData.eqv, eqD]
  | _, .int i, e, _, h => by cases e <;> first | (simp only [dOk] at h; cases h; done) | simp only [toP, PyData.eqv, eqD]
  | _, .str s, e, _, h => by
    cases e <;> first | (simp only [dOk] at h; cases h; done) | simp only [toP, PyData.eqv, eqD]
    rw [Bool.eq_iff_iff]
    simp [S]
  | 0, .tup ds, e, h, _ => by simp only [dOk] at h; cases h
  | 0, .rol ds, e, h, _ => by simp only [dOk] at h; cases h
  | 0, .scr ds, e, h, _ => by simp only [dOk] at h; cases h
  | n + 1, .tup ds, e, h, k => by
    simp only [dOk] at h
    cases e <;> simp only [toP, PyData.eqv, eqD] <;> simp only [dOk] at k
    · exact eqv_toPs n ds _ h k
  | n + 1, .rol ds, e, h, k => by
    simp only [dOk] at h
    cases e <;> simp only [toP, PyData.eqv, eqD] <;> simp only [dOk] at k
    · exact eqv_toPs n ds _ h k
    · exact eqv_toPs n ds _ h k
  | n + 1, .scr ds, e, h, k => by
    simp only [dOk] at h
    cases e <;> simp only [toP, PyData.eqv, eqD] <;> simp only [dOk] at k
    · exact eqv_toPs n ds _ h k
    · exact eqv_toPs n ds _ h k
  | _, .ref i, e, h, _ => by simp only [dOk] at h; cases h
theorem eqv_toPs : ∀ (n : Nat) (ds es : List D), dOks n ds = true → dOks n es = true → PyData.eqvAll (toPs ds) (toPs es) = eqDs ds es
  | n, [], es, _, _ => by cases es <;> simp only [toPs, PyData.eqvAll, eqDs]
  | n, d :: ds, [], _, _ => by simp only [toPs, PyData.eqvAll, eqDs]
  | n, d :: ds, e :: es, h, k => by
    simp only [dOks, Bool.and_eq_true] at h k
    simp only [toPs, PyData.eqvAll, eqDs, eqv_toP n d e h.1 k.1, eqv_toPs n ds es h.2 k.2]
end
theorem scD_eqD {d e : D} {b : Bool} (h : scD d e = some b) : b = eqD d e := by
  unfold scD at h
  split at h <;> first
    | (cases h; done)
    | (cases h; simp only [eqD])
theorem gEq_plain {ng : Bool} {d e : D} {h : Hs} (n : Nat) (hd : dOk n d = true) (he : dOk n e = true) (hn : n ≤ 64 := by decide) : gEqN ng (.d d) (.d e) h = some (.d (.bl (if ng then !eqD d e else eqD d e)), h) := by
  unfold gEqN
  simp only
  cases hs : scD d e with
  | some b => simp only [scD_eqD hs]
  | none =>
    unfold gEqX tR
    have l1 := lay_toP n d hd
    have l2 := lay_toP n e he
    simp only [tP_toP n d hd, tP_toP n e he, eqv_toP n d e hd he]
    have s1 : SeqAt.shaped (toP d) = true := by unfold SeqAt.shaped; rw [l1.1]; simp; omega
    have s2 : SeqAt.shaped (toP e) = true := by unfold SeqAt.shaped; rw [l2.1]; simp; omega
    rw [s1, s2]
    rfl
/-- a value that is read: as data -/
def rvD : RV → Option D
  | .d d => some d
  | .l (.lst ds) => some (.rol ds)
  | .b (.lst ds) => some (.rol ds)
  | _ => none
theorem tR_rol {rv : RV} {d : D} {h : Hs} {n : Nat} (e : rvD rv = some d) (hd : dOk n d = true) : tR h rv = some (toP d) := by
  unfold rvD at e
  split at e
  · cases e; exact tP_toP n _ hd
  · cases e
    cases n with
    | zero => simp only [dOk] at hd; cases hd
    | succ n => simp only [dOk] at hd; simp only [tR, tPs_toPs n _ hd, toP]
  · cases e
    cases n with
    | zero => simp only [dOk] at hd; cases hd
    | succ n => simp only [dOk] at hd; simp only [tR, tPs_toPs n _ hd, toP]
  · cases e
theorem gEq_any {ng : Bool} {x y : RV} {d e : D} {h : Hs} (hx : rvD x = some d) (hy : rvD y = some e) (n : Nat) (hd : dOk n d = true) (he : dOk n e = true) (hn : n ≤ 64 := by decide) : gEqN ng x y h = some (.d (.bl (if ng then !eqD d e else eqD d e)), h) := by
  have go : gEqX ng x y h = some (.d (.bl (if ng then !eqD d e else eqD d e)), h) := by
    unfold gEqX
    have l1 := lay_toP n d hd
    have l2 := lay_toP n e he
    simp only [tR_rol hx hd, tR_rol hy he, eqv_toP n d e hd he]
    have s1 : SeqAt.shaped (toP d) = true := by unfold SeqAt.shaped; rw [l1.1]; simp; omega
    have s2 : SeqAt.shaped (toP e) = true := by unfold SeqAt.shaped; rw [l2.1]; simp; omega
    rw [s1, s2]
    rfl
  cases x with
  | d x => cases y with
    | d y => cases hx; cases hy; exact gEq_plain n hd he hn
    | l c => exact go
    | b c => exact go
  | l c => exact go
  | b c => exact go
theorem dOks_map {T : Type} {f : T → D} {n : Nat} : ∀ {l : List T}, (∀ t ∈ l, dOk n (f t) = true) → dOks n (l.map f) = true
  | [], _ => by simp only [List.map_nil, dOks]
  | t :: l, H => by simp only [List.map_cons, dOks, H t List.mem_cons_self, dOks_map fun x hx => H x (List.mem_cons_of_mem _ hx), Bool.and_self]
theorem dOks_all {n : Nat} : ∀ {l : List D}, (∀ t ∈ l, dOk n t = true) → dOks n l = true
  | [], _ => by simp only [dOks]
  | t :: l, H => by simp only [dOks, H t List.mem_cons_self, dOks_all fun x hx => H x (List.mem_cons_of_mem _ hx), Bool.and_self]
theorem eqDs_map {T : Type} [BEq T] {f : T → D} (hf : ∀ a b, eqD (f a) (f b) = (a == b)) : ∀ (l m : List T), eqDs (l.map f) (m.map f) = (l == m)
  | [], [] => by simp only [List.map_nil, eqDs]; rfl
  | [], b :: m => by simp only [List.map_nil, List.map_cons, eqDs]; rfl
  | a :: l, [] => by simp only [List.map_nil, List.map_cons, eqDs]; rfl
  | a :: l, b :: m => by simp only [List.map_cons, eqDs, hf, eqDs_map hf l m]; rfl
theorem eqDs_strs (l m : List (List Nat)) : eqDs (l.map .str) (m.map .str) = (l == m) := eqDs_map (fun _ _ => by simp only [eqD]) l m
theorem dOk_str {n : Nat} {s : List Nat} (h : ∀ c ∈ s, c < 1114112) : dOk n (.str s) = true := by
  cases n <;> simp only [dOk, List.all_eq_true, decide_eq_true_eq] <;> exact h
theorem wp_eqA {ng : Bool} {x y : RV} {d e : D} {h : Hs} {Q : Ho (RV × Hs)} (hx : rvD x = some d) (hy : rvD y = some e) (n : Nat) (hd : dOk n d = true) (he : dOk n e = true) (q : Q.q (.d (.bl (if ng then !eqD d e else eqD d e)), h)) (hn : n ≤ 64 := by decide) : @wp _ (gEqN ng x y h) Q := ⟨_, gEq_any hx hy n hd he hn, q⟩

/-! more equations -/
section
variable {env : Env} {h : Hs} {f fi : DE} {fs fk : DA} {i j : Nat} {ds es : List D} {d : D} {lo hi : Option Int} {a b : List Nat} {x y : Int}
theorem gSl_l : gSl (.l (.lst ds)) lo hi h = some (.l (.lst (cut ds lo hi)), h) := rfl
theorem gSl_b : gSl (.b (.lst ds)) lo hi h = some (.l (.lst (cut ds lo hi)), h) := rfl
def extS (i : Nat) (env : Env) (h : Hs) (ds : List D) (rv : RV) : Option SOut := match lvT rv h with
  | some es => if ds.length + es.length ≤ sizeLine then some (.nx (env.set i (.c (.lst (ds ++ es)))) h) else none
  | none => none
theorem dExtO_e : dExtO i f env h = slK (fun ds => bd (f env h) fun p => extS i env p.2 ds p.1) env[i]? := by
  unfold dExtO
  cases env[i]? with
  | none => rfl
  | some s =>
    cases s with
    | no => rfl
    | v d => rfl
    | c c =>
      cases c with
      | dct _ => rfl
      | lst ds =>
        rw [slK_c]
        cases f env h with
        | none => rfl
        | some p => obtain ⟨x, h1⟩ := p; rfl
theorem extS_e {rv : RV} (e : lvT rv h = some es) (hz : ds.length + es.length ≤ 100000) : extS i env h ds rv = some (.nx (env.set i (.c (.lst (ds ++ es)))) h) := by
  unfold extS
  rw [e]
  exact if_pos (Nat.le_trans hz (by decide))
theorem wp_ext_l {Q : Ho SOut} (hz : ds.length + es.length ≤ 100000) (q : Q.q (.nx (env.set i (.c (.lst (ds ++ es)))) h)) : @wp _ (extS i env h ds (.l (.lst es))) Q := ⟨_, extS_e rfl hz, q⟩
theorem wp_ext_r {Q : Ho SOut} (hz : ds.length + es.length ≤ 100000) (q : Q.q (.nx (env.set i (.c (.lst (ds ++ es)))) h)) : @wp _ (extS i env h ds (.d (.rol es))) Q := ⟨_, extS_e rfl hz, q⟩
theorem wp_ext_b {Q : Ho SOut} (hz : ds.length + es.length ≤ 100000) (q : Q.q (.nx (env.set i (.c (.lst (ds ++ es)))) h)) : @wp _ (extS i env h ds (.b (.lst es))) Q := ⟨_, extS_e rfl hz, q⟩
theorem wp_app {Q : Ho SOut} (hz : ds.length ≤ 1000) (q : Q.q (.nx (env.set i (.c (.lst (ds ++ [d])))) h)) : @wp _ (appS i env h ds d) Q := ⟨_, appS_e hz, q⟩
def popXS (j i : Nat) (env : Env) (h : Hs) (ds : List D) (k : Int) : Option SOut := if -(2 ^ 63) ≤ k ∧ k < 2 ^ 63 then match ixN ds.length k with
  | some m => match ds[m]? with
    | some d => some (.nx ((env.set i (.c (.lst (ds.eraseIdx m)))).set j (.v d)) h)
    | none => none
  | none => none else none
theorem dPopX_e : dPopX j i fi env h = slK (fun ds => bd (fi env h) fun p => iK (fun k => popXS j i env p.2 ds k) p.1) env[i]? := by
  unfold dPopX
  cases env[i]? with
  | none => rfl
  | some s =>
    cases s with
    | no => rfl
    | v d => rfl
    | c c =>
      cases c with
      | dct _ => rfl
      | lst ds =>
        rw [slK_c]
        cases fi env h with
        | none => rfl
        | some p =>
          obtain ⟨x, h1⟩ := p
          cases x with
          | l c => rfl
          | b c => rfl
          | d d => cases d <;> rfl
theorem wp_popX {Q : Ho SOut} {k : Int} (h0 : 0 ≤ k) (h1 : k < (ds.length : Nat)) (hz : ds.length ≤ 100000) (q : ∀ d, ds[k.toNat]? = some d → Q.q (.nx ((env.set i (.c (.lst (ds.eraseIdx k.toNat)))).set j (.v d)) h)) : @wp _ (popXS j i env h ds k) Q := by
  have hk : k.toNat < ds.length := by omega
  refine ⟨_, ?_, q _ (List.getElem?_eq_getElem hk)⟩
  unfold popXS
  rw [if_pos ⟨by omega, by omega⟩]
  have : ixN ds.length k = some k.toNat := by
    unfold ixN
    rw [if_pos h0, if_pos (by omega)]
  simp only [this, List.getElem?_eq_getElem hk]
def popS (i : Nat) (env : Env) (h : Hs) (ds : List D) : Option SOut := if ds = [] then none else some (.nx (env.set i (.c (.lst ds.dropLast))) h)
theorem dPopO_e : dPopO i env h = slK (fun ds => popS i env h ds) env[i]? := by
  unfold dPopO
  cases env[i]? with
  | none => rfl
  | some s =>
    cases s with
    | no => rfl
    | v d => rfl
    | c c => cases c <;> rfl
theorem popS_e (ne : ds ≠ []) : popS i env h ds = some (.nx (env.set i (.c (.lst ds.dropLast))) h) := if_neg ne
theorem wp_pop {Q : Ho SOut} (ne : ds ≠ []) (q : Q.q (.nx (env.set i (.c (.lst ds.dropLast))) h)) : @wp _ (popS i env h ds) Q := ⟨_, popS_e ne, q⟩
def putOS (i : Nat) (env : Env) (h : Hs) (ds : List D) (d : D) (k : Int) : Option SOut := match ixN ds.length k with
  | some j => some (.nx (env.set i (.c (.lst (ds.set j d)))) h)
  | none => none
theorem dPutO_e : dPutO i fi f env h = slK (fun ds => bd (f env h) fun p => dK (fun d => bd (fi env p.2) fun q => iK (fun k => putOS i env q.2 ds d k) q.1) p.1) env[i]? := by
  unfold dPutO
  cases env[i]? with
  | none => rfl
  | some s =>
    cases s with
    | no => rfl
    | v d => rfl
    | c c =>
      cases c with
      | dct _ => rfl
      | lst ds =>
        rw [slK_c]
        cases f env h with
        | none => rfl
        | some p =>
          obtain ⟨x, h1⟩ := p
          cases x with
          | l c => rfl
          | b c => rfl
          | d d =>
            simp only [bd_some, dK_eq]
            cases fi env h1 with
            | none => rfl
            | some q =>
              obtain ⟨y, h2⟩ := q
              cases y with
              | l c => rfl
              | b c => rfl
              | d y => cases y <;> rfl
theorem putOS_e {k : Int} {m : Nat} (e : ixN ds.length k = some m) : putOS i env h ds d k = some (.nx (env.set i (.c (.lst (ds.set m d)))) h) := by
  unfold putOS
  rw [e]
theorem wp_putO {Q : Ho SOut} {k : Int} {m : Nat} (e : ixN ds.length k = some m) (q : Q.q (.nx (env.set i (.c (.lst (ds.set m d)))) h)) : @wp _ (putOS i env h ds d k) Q := ⟨_, putOS_e e, q⟩
def rngK2 (h : Hs) : List RV → Option (List D × Hs)
  | [.d (.int i), .d (.int j)] => if inB i && inB j then some (rangeL i 1 (j - i).toNat, h) else none
  | _ => none
theorem iR2_e : iR2 fs env h = bd (fs env h) fun p => rngK2 p.2 p.1 := by
  unfold iR2
  cases fs env h with
  | none => rfl
  | some p =>
    obtain ⟨x, h1⟩ := p
    show _ = rngK2 h1 x
    unfold rngK2
    split <;> simp_all
theorem rngK2_e (h1 : -1000000 ≤ x) (h2 : x ≤ 1000000) (h3 : -1000000 ≤ y) (h4 : y ≤ 1000000) : rngK2 h [.d (.int x), .d (.int y)] = some (rangeL x 1 (y - x).toNat, h) := by
  have e1 : inB x = true := by unfold inB; exact decide_eq_true (by omega)
  have e2 : inB y = true := by unfold inB; exact decide_eq_true (by omega)
  simp only [rngK2, e1, e2, Bool.and_self, if_true]
theorem wp_rng2 {Q : Ho (List D × Hs)} (h1 : -1000000 ≤ x) (h2 : x ≤ 1000000) (h3 : -1000000 ≤ y) (h4 : y ≤ 1000000) (q : Q.q (rangeL x 1 (y - x).toNat, h)) : @wp _ (rngK2 h [.d (.int x), .d (.int y)]) Q := ⟨_, rngK2_e h1 h2 h3 h4, q⟩
def enK (h : Hs) : List RV → Option (List D × Hs)
  | [.d (.rol ds)] => some (enumD ds, h)
  | [.d (.scr ds)] => some (enumD ds, h)
  | _ => none
theorem iEn_e : iEn fs env h = bd (fs env h) fun p => enK p.2 p.1 := by
  unfold iEn
  cases fs env h with
  | none => rfl
  | some p =>
    obtain ⟨x, h1⟩ := p
    show _ = enK h1 x
    unfold enK
    split <;> simp_all
theorem enK_e : enK h [.d (.rol ds)] = some (enumD ds, h) := rfl
theorem eMN_e {g : List Nat → List RV → Hs → Option (RV × Hs)} : eMN g f fs env h = bd (f env h) fun p => sK (fun s => bd (fs env p.2) fun q => g s q.1 q.2) p.1 := by
  unfold eMN
  cases f env h with
  | none => rfl
  | some p =>
    obtain ⟨x, h1⟩ := p
    cases x with
    | l c => rfl
    | b c => rfl
    | d d =>
      cases d <;> try rfl
      simp only [bd_some, sK_eq]
      cases fs env h1 with
      | none => rfl
      | some q => rfl
theorem gFind3_e : gFind3 a [.d (.str b), .d (.int x)] h = some (.d (.int (findD a b x)), h) := rfl
theorem gStarts3_e : gStarts3 a [.d (.str b), .d (.int x)] h = some (.d (.bl (startsD a b x)), h) := rfl
theorem gAug_int : gAug (.d (.int x)) (.d (.int y)) h = some (.d (.int (x + y)), h) := rfl
theorem gAug_str (hz : a.length + b.length ≤ 100000) : gAug (.d (.str a)) (.d (.str b)) h = some (.d (.str (a ++ b)), h) := if_pos (Nat.le_trans hz (by decide))
theorem gAugS_int : gAugS (.d (.int x)) (.d (.int y)) h = some (.d (.int (x - y)), h) := rfl
theorem gInt_int : gInt [.d (.int x)] h = some (.d (.int x), h) := rfl
theorem gMax2_e : gMax2 [.d (.int x), .d (.int y)] h = some (.d (.int (if y > x then y else x)), h) := rfl
theorem gMin2_e : gMin2 [.d (.int x), .d (.int y)] h = some (.d (.int (if y < x then y else x)), h) := rfl
theorem gLstOf_rol : gLstOf [.d (.rol ds)] h = some (.l (.lst ds), h) := rfl
theorem gLstOf_tup : gLstOf [.d (.tup ds)] h = some (.l (.lst ds), h) := rfl
theorem gLstOf_l : gLstOf [.l (.lst ds)] h = some (.l (.lst ds), h) := rfl
theorem gTupOf_l : gTupOf [.l (.lst ds)] h = some (.d (.tup ds), h) := rfl
theorem itR_b : itR h (.b (.lst ds)) = none ∨ True := .inr trivial
theorem wp_augS {Q : Ho (RV × Hs)} (hz : a.length + b.length ≤ 100000) (q : Q.q (.d (.str (a ++ b)), h)) : @wp _ (gAug (.d (.str a)) (.d (.str b)) h) Q := ⟨_, gAug_str hz, q⟩
theorem wp_split {Q : Ho (RV × Hs)} (h1 : b ≠ []) (h2 : b.all (· < 256) = true) (h3 : a.length ≤ 100000) (q : Q.q (.l (.lst ((TL.spl b 0 [] a).map D.str)), h)) : @wp _ (gSplit a (.d (.str b)) h) Q := ⟨_, gSplit_e h1 h2 h3, q⟩
theorem wp_join {Q : Ho (RV × Hs)} {v : RV} {l : List (List Nat)} (hs : sq v h = some (l.map D.str)) (hz : (l.map (·.length)).sum + l.length * a.length ≤ 100000) (q : Q.q (.d (.str (TL.joinL a l)), h)) : @wp _ (gJoin a v h) Q := ⟨_, gJoin_e hs hz, q⟩
theorem wp_ixR {Q : Ho (RV × Hs)} {k : Int} (e : atI ds k = some d) (q : Q.q (.d d, h)) : @wp _ (gIx (.d (.rol ds)) (.d (.int k)) h) Q := ⟨_, gIx_rol e, q⟩
theorem wp_ixT {Q : Ho (RV × Hs)} {k : Int} (e : atI ds k = some d) (q : Q.q (.d d, h)) : @wp _ (gIx (.d (.tup ds)) (.d (.int k)) h) Q := ⟨_, gIx_tup e, q⟩
theorem wp_ixL {Q : Ho (RV × Hs)} {k : Int} (e : atI ds k = some d) (q : Q.q (.d d, h)) : @wp _ (gIx (.l (.lst ds)) (.d (.int k)) h) Q := ⟨_, gIx_lst e, q⟩
theorem wp_ixB {Q : Ho (RV × Hs)} {k : Int} (e : atI ds k = some d) (q : Q.q (.d d, h)) : @wp _ (gIx (.b (.lst ds)) (.d (.int k)) h) Q := ⟨_, gIx_sq rfl (fun _ e => by cases e) e, q⟩
theorem wp_ixS {Q : Ho (RV × Hs)} {k : Int} {c : Nat} (hz : a.length ≤ 100000) (e : atI a k = some c) (q : Q.q (.d (.str [c]), h)) : @wp _ (gIx (.d (.str a)) (.d (.int k)) h) Q := ⟨_, gIx_str hz e, q⟩
theorem gIx_str0 {c : Nat} (hz : a.length ≤ 1000) : gIx (.d (.str (c :: a))) (.d (.int 0)) h = some (.d (.str [c]), h) := ix0 (by simp; omega)
theorem wp_ixS0 {Q : Ho (RV × Hs)} {c : Nat} (hz : a.length ≤ 1000) (q : Q.q (.d (.str [c]), h)) : @wp _ (gIx (.d (.str (c :: a))) (.d (.int 0)) h) Q := ⟨_, gIx_str0 hz, q⟩
end
theorem ixb0 {x : D} {r : List D} {h : Hs} : gIx (.b (.lst (x :: r))) (.d (.int 0)) h = some (.d x, h) := gIx_sq rfl (fun _ e => by cases e) atI_zero
theorem ixt0 {x : D} {r : List D} {h : Hs} : gIx (.d (.tup (x :: r))) (.d (.int 0)) h = some (.d x, h) := gIx_tup atI_zero
theorem ixt1 {x y : D} {r : List D} {h : Hs} : gIx (.d (.tup (x :: y :: r))) (.d (.int 1)) h = some (.d y, h) := gIx_tup atI_one
theorem ixt2 {x y z : D} {r : List D} {h : Hs} : gIx (.d (.tup (x :: y :: z :: r))) (.d (.int 2)) h = some (.d z, h) := gIx_tup atI_two
theorem cut_takeI {T : Type} {l : List T} {x : Int} (h : 0 ≤ x) : cut l none (some x) = l.take x.toNat := by
  obtain ⟨n, rfl⟩ := Int.eq_ofNat_of_zero_le h
  exact cut_take
theorem cut_dropI {T : Type} {l : List T} {x : Int} (h : 0 ≤ x) : cut l (some x) none = l.drop x.toNat := by
  obtain ⟨n, rfl⟩ := Int.eq_ofNat_of_zero_le h
  exact cut_drop
theorem map_erase {T U : Type} {f : T → U} : ∀ {l : List T} {k : Nat}, (l.map f).eraseIdx k = (l.eraseIdx k).map f
  | [], k => by simp
  | a :: l, 0 => by simp
  | a :: l, k + 1 => by simp [map_erase (l := l) (k := k)]
section
variable {ls : List (List Nat)} {x : Int} {h : Hs} {Q : Ho (RV × Hs)}
theorem wp_pickMr (h0 : 0 ≤ x) (h1 : x < (ls.length : Nat)) (H : ∀ a ∈ ls, Q.q (.d (.str a), h)) : @wp _ (gIx (.d (.rol (ls.map .str))) (.d (.int x)) h) Q := wp_pickR h0 (by simpa using h1) fun d hd => by
  obtain ⟨a, ha, rfl⟩ := List.mem_map.mp hd
  exact H a ha
theorem wp_pickMb (h0 : 0 ≤ x) (h1 : x < (ls.length : Nat)) (H : ∀ a ∈ ls, Q.q (.d (.str a), h)) : @wp _ (gIx (.b (.lst (ls.map .str))) (.d (.int x)) h) Q := wp_pickB h0 (by simpa using h1) fun d hd => by
  obtain ⟨a, ha, rfl⟩ := List.mem_map.mp hd
  exact H a ha
theorem wp_popXm {i j : Nat} {env : Env} {Q : Ho SOut} (h0 : 0 ≤ x) (h1 : x < (ls.length : Nat)) (hz : ls.length ≤ 100000) (q : ∀ a ∈ ls, ls[x.toNat]? = some a → ∀ ls', ls' = ls.eraseIdx x.toNat → ls'.length + 1 = ls.length → (∀ w ∈ ls', w ∈ ls) → Q.q (.nx ((env.set i (.c (.lst (ls'.map .str)))).set j (.v (.str a))) h)) : @wp _ (popXS j i env h (ls.map .str) x) Q := by
  refine wp_popX h0 (by simpa using h1) (by simpa using hz) fun d hd => ?_
  rw [List.getElem?_map] at hd
  have hk : x.toNat < ls.length := by omega
  rw [List.getElem?_eq_getElem hk] at hd
  cases hd
  have := q _ (List.getElem_mem hk) (List.getElem?_eq_getElem hk) _ rfl (by rw [List.length_eraseIdx, if_pos hk]; omega) fun w hw => List.mem_of_mem_eraseIdx hw
  rw [map_erase]
  exact this
end
theorem rangeL_cons {lo : Int} {n : Nat} : rangeL lo 1 (n + 1) = .int lo :: rangeL (lo + 1) 1 n := by
  unfold rangeL
  rw [List.range_succ_eq_map, List.map_cons, List.map_map]
  congr 1
  · simp
  · apply List.map_congr_left
    intro i _
    simp only [Function.comp, Nat.succ_eq_add_one, Int.natCast_add, Int.mul_one, Int.natCast_one]
    congr 1
    omega
theorem rangeL_nil {lo c : Int} : rangeL lo c 0 = [] := rfl
end F
/-! F22: min(xs, default=None), min(xs) of whole numbers. -/
namespace F
open PySem PySem.Spec PyProof.Rows L2
def intsD : List D → Option (List Int)
  | [] => some []
  | .int i :: ds => match intsD ds with
    | some is => some (i :: is)
    | none => none
  | _ :: _ => none
theorem intsD_R {K : PySem.W.Frag} {α : List Addr} {O : Addr → Prop} {H : Hp} : ∀ {ds : List D} {is : List Int} {xs : List V}, intsD ds = some is → RL K α O H ds xs → xs = is.map V.int
  | [], is, xs, e, r => by cases e; exact r.invN
  | d :: ds, is, xs, e, r => by
    obtain ⟨x, q, e1, r1, r2⟩ := r.inv
    subst e1
    unfold intsD at e
    split at e
    · rename_i h; cases h
    · rename_i i ds' h
      cases h
      split at e
      · rename_i is' e2
        cases e
        rw [List.map_cons, ← intsD_R e2 r2, r1.int_eq]
      · cases e
    · cases e
theorem intsD_map : ∀ is : List Int, intsD (is.map .int) = some is
  | [] => rfl
  | i :: is => by simp only [List.map_cons, intsD, intsD_map is]
def minI : List Int → D
  | [] => .non
  | n :: ns => .int (ns.foldl min n)
def vMinI : List Int → V
  | [] => .non
  | n :: ns => .int (ns.foldl min n)
def rMinDf (K : PySem.W.Frag) : List V → List V → Hp → VK → Prop := fun vs zs H Q => ∃ (a : Addr) (ns : List Int), vs = [V.ref a] ∧ zs = [.non] ∧ SqL K H a (ns.map V.int) ∧ Q (vMinI ns) H
theorem reads_ints {h : Heap} : ∀ {ns : List Int} {us : List Value}, Vals (ns.map V.int) us → ReadsAll h us (ns.map .int) []
  | [], us, r => by cases r; exact .nil
  | n :: ns, us, r => by
    cases r with
    | cons r1 r2 =>
      obtain ⟨t, rfl⟩ := r1
      exact ReadsAll.cons (as := []) (bs := []) (.int n t) (reads_ints r2)
theorem depth_ints : ∀ ns : List Int, PyData.depthAll (ns.map .int) = 0
  | [] => by simp [PyData.depthAll]
  | n :: ns => by simp [PyData.depthAll, PyData.depth, depth_ints ns]
theorem alike_ints (ns : List Int) : PySem.W.AlikeAll (ns.map PyData.int) := by
  refine ⟨fun x hx y hy => ?_, fun x hx => ?_⟩
  · obtain ⟨i, _, rfl⟩ := List.mem_map.mp hx
    obtain ⟨j, _, rfl⟩ := List.mem_map.mp hy
    rfl
  · obtain ⟨i, _, rfl⟩ := List.mem_map.mp hx
    exact fun e => by cases e
theorem cr_minDf {X : Cx} (hc : X.calm = true) (hu : X.A.units + 1 < cLine) : CallRK X (.builtin "min") [Str.ofString "default"] (rMinDf X.K) := by
  intro pins s σ H vs zs us ws Q I r rz h
  obtain ⟨a, ns, rfl, rfl, hs, q⟩ := h
  obtain ⟨its, rv, hl, _⟩ := I.list hs
  obtain rfl := Vals.ref1 r
  obtain ⟨w1, rfl, e1⟩ := vals1 rz
  obtain rfl : w1 = Value.none := e1
  refine PySem.W.min_list_default (xs := ns.map .int) (I.ok.hd hc) hl.isList (reads_ints rv) (alike_ints ns) (by rw [depth_ints]; exact hu) (fun e h' tk hk => ?_) fun y ys i v h' tk bs e hv hr hk => ?_
  · have : ns = [] := by simpa using e
    subst this
    exact ⟨.non, H, I.kept hk, rfl, q⟩
  · cases ns with
    | nil => cases e
    | cons n ns =>
      rw [List.map_cons] at e
      cases e
      rw [PySem.W.minD_ints] at hr
      cases hr
      exact ⟨.int (ns.foldl min n), H, I.kept hk, ⟨_, rfl⟩, q⟩
def gMinDf : RV → Hs → Option (RV × Hs) := fun x h => match lv x h with
  | some ds => match intsD ds with
    | some is => some (.d (minI is), h)
    | none => none
  | none => none
def eMinDf (f : DE) : DE := fun env h => match f env h with
  | some (x, h1) => gMinDf x h1
  | none => none
section
variable {Γ : G} {pos p kpos npos : Pos} {jj : Nat} {e : Expr} {f : DE}
theorem se_minDf (hm : Γ.g.mg ("min" : Str) = none) (ha : SE Γ e f) (hg : Γ.sc.names.lookup ("min" : Str) = some .globalImplicit := by rfl)
    (hs : ∀ env, starEach [e] env = [(false, eval e env)] := by intro _; rfl) (he : ∀ X : Cx, backTo pos (starEach [e] X.env) = (false, eval e X.env) :: backTo pos (starEach [] X.env) := by intro _; rfl) (hpl : ∀ X : Cx, (backTo pos (starEach [e] X.env)).any (·.1) = false := by intro _; rfl)
    (hall : ∀ X : Cx, (backToKw pos (keywordEach [⟨some "default", .Constant .none jj npos, kpos⟩] X.env)).all (·.1.isSome) = true := by intro _; rfl) (hnone : ∀ X : Cx, (backToKw pos (keywordEach [⟨some "default", .Constant .none jj npos, kpos⟩] X.env)).any (·.1.isNone) = false := by intro _; rfl) (hks : ∀ X : Cx, (backToKw pos (keywordEach [⟨some "default", .Constant .none jj npos, kpos⟩] X.env)).filterMap (·.1) = [Str.ofString "default"] := by intro _; rfl) :
    SE Γ (.Call (.Name "min" p) [e] [⟨some "default", .Constant .none jj npos, kpos⟩] pos) (eMinDf f) := fun X c =>
  PE.imp (pe_callBK (cr_minDf c.calm c.hu) (Gl.of c hg) (by rw [c.mg]; exact hm) (by decide +kernel) ((sa_cons ha sa_nil (fun env => hs env)) X c) ((sk_cons se_non sk_nil) X c) (by decide) (by decide) (he X) (hpl X) (hall X) (hnone X) (hks X)) fun σ H Q q => by
    obtain ⟨α, O, h, env, hr, sr, rv, h', e1, k⟩ := q
    unfold eMinDf at e1
    split at e1
    · rename_i x h1 ef
      unfold gMinDf at e1
      split at e1
      · rename_i ds ed
        split at e1
        · rename_i is ei
          cases e1
          refine ⟨α, O, h, env, hr, sr, [x], h', by unfold aCons aNil; rw [ef], fun α1 H1 xs s1 r1 o1 => ?_⟩
          refine ⟨α1, O, h', env, r1, sr.stp hr s1, [.d .non], h', rfl, fun α2 H2 zs s2 r2 o2 => ?_⟩
          obtain ⟨y, e2, o3⟩ := VAts1 o1
          obtain ⟨z, e3, o4⟩ := VAts1 o2
          obtain ⟨p, ys, e4, qq, rr⟩ := lv_sq r2 (o3.stp s2) ed
          rw [intsD_R ei rr] at qq
          refine ⟨p, is, by rw [e2, e4], by rw [e3, o4.isD.non_eq], by rw [c.K]; exact qq, ?_⟩
          refine k α2 H2 _ (s1.trans s2) ?_
          cases is with
          | nil => exact .d r2 R.non_mk
          | cons n ns => exact .d r2 R.int_mk
        · cases e1
      · cases e1
    · cases e1
end
/-! min(xs), max(xs) -/
theorem foldl_min_le : ∀ (ns : List Int) (n : Int), ns.foldl min n ≤ n ∧ (∀ y ∈ ns, ns.foldl min n ≤ y) ∧ (ns.foldl min n = n ∨ ns.foldl min n ∈ ns)
  | [], n => ⟨Int.le_refl _, (fun y hy => by cases hy), .inl rfl⟩
  | k :: ns, n => by
    obtain ⟨h1, h2, h3⟩ := foldl_min_le ns (min n k)
    rw [List.foldl_cons]
    refine ⟨by omega, fun y hy => ?_, ?_⟩
    · rcases List.mem_cons.mp hy with z | z
      · rw [z]; omega
      · exact h2 y z
    · rcases h3 with z | z
      · rw [z]
        rcases (by omega : min n k = n ∨ min n k = k) with y | y
        · exact .inl y
        · exact .inr (by rw [y]; exact List.mem_cons_self)
      · exact .inr (List.mem_cons_of_mem _ z)
theorem foldl_max_ge : ∀ (ns : List Int) (n : Int), n ≤ ns.foldl max n ∧ (∀ y ∈ ns, y ≤ ns.foldl max n) ∧ (ns.foldl max n = n ∨ ns.foldl max n ∈ ns)
  | [], n => ⟨Int.le_refl _, (fun y hy => by cases hy), .inl rfl⟩
  | k :: ns, n => by
    obtain ⟨h1, h2, h3⟩ := foldl_max_ge ns (max n k)
    rw [List.foldl_cons]
    refine ⟨by omega, fun y hy => ?_, ?_⟩
    · rcases List.mem_cons.mp hy with z | z
      · rw [z]; omega
      · exact h2 y z
    · rcases h3 with z | z
      · rw [z]
        rcases (by omega : max n k = n ∨ max n k = k) with y | y
        · exact .inl y
        · exact .inr (by rw [y]; exact List.mem_cons_self)
      · exact .inr (List.mem_cons_of_mem _ z)
def gMin1 : List RV → Hs → Option (RV × Hs)
  | [x], h => match lv x h with
    | some ds => match intsD ds with
      | some (n :: ns) => some (.d (.int (ns.foldl min n)), h)
      | _ => none
    | none => none
  | _, _ => none
def gMax1 : List RV → Hs → Option (RV × Hs)
  | [x], h => match lv x h with
    | some ds => match intsD ds with
      | some (n :: ns) => some (.d (.int (ns.foldl max n)), h)
      | _ => none
    | none => none
  | _, _ => none
theorem cS_min1 {K : PySem.W.Frag} : CallS K (rMin K) gMin1 := fun α O H h xs rs rv h' Q hr o e k => by
  unfold gMin1 at e
  split at e
  · split at e
    · rename_i ds ed
      split at e
      · rename_i n ns eb
        cases e
        obtain ⟨x, e1, o1⟩ := VAts1 o
        obtain ⟨p, ys, e2, qq, r⟩ := lv_sq hr o1 ed
        rw [intsD_R eb r] at qq
        refine ⟨p, n :: ns, by rw [e1, e2], qq, by simp, fun m hm hl => ?_⟩
        obtain ⟨h1, h2, h3⟩ := foldl_min_le ns n
        have : m = ns.foldl min n := by
          have a : m ≤ ns.foldl min n := by
            rcases h3 with z | z
            · rw [z]; exact hl n List.mem_cons_self
            · exact hl _ (List.mem_cons_of_mem _ z)
          have b : ns.foldl min n ≤ m := by
            rcases List.mem_cons.mp hm with z | z
            · rw [z]; exact h1
            · exact h2 m z
          omega
        rw [this]
        exact k _ α H (.refl _ _) (.d hr R.int_mk)
      · cases e
    · cases e
  · cases e
theorem cS_max1 {K : PySem.W.Frag} : CallS K (rMax K) gMax1 := fun α O H h xs rs rv h' Q hr o e k => by
  unfold gMax1 at e
  split at e
  · split at e
    · rename_i ds ed
      split at e
      · rename_i n ns eb
        cases e
        obtain ⟨x, e1, o1⟩ := VAts1 o
        obtain ⟨p, ys, e2, qq, r⟩ := lv_sq hr o1 ed
        rw [intsD_R eb r] at qq
        refine ⟨p, n :: ns, by rw [e1, e2], qq, by simp, fun m hm hl => ?_⟩
        obtain ⟨h1, h2, h3⟩ := foldl_max_ge ns n
        have : m = ns.foldl max n := by
          have a : ns.foldl max n ≤ m := by
            rcases h3 with z | z
            · rw [z]; exact hl n List.mem_cons_self
            · exact hl _ (List.mem_cons_of_mem _ z)
          have b : m ≤ ns.foldl max n := by
            rcases List.mem_cons.mp hm with z | z
            · rw [z]; exact h1
            · exact h2 m z
          omega
        rw [this]
        exact k _ α H (.refl _ _) (.d hr R.int_mk)
      · cases e
    · cases e
  · cases e
section
variable {Γ : G} {pos p : Pos} {e : Expr} {es : List Expr} {fa : DA}
theorem se_min1 (hm : Γ.g.mg "min" = none) (ha : SA Γ (e :: es) fa) (hg : Γ.sc.names.lookup ("min" : Str) = some .globalImplicit := by rfl) (he : ∀ env, starEach (e :: es) env = (false, eval e env) :: starEach es env := by intro _; rfl) (hpl : ∀ env, (backTo pos (starEach es env)).any (·.1) = false := by intro _; rfl) : SE Γ (.Call (.Name "min" p) (e :: es) [] pos) (eF gMin1 fa) := se_bcall (fun X c => by rw [← c.K]; exact cr_min c.calm) cS_min1 ha hm (by decide +kernel) hg (by decide) (by decide) he hpl
theorem se_max1 (hm : Γ.g.mg "max" = none) (ha : SA Γ (e :: es) fa) (hg : Γ.sc.names.lookup ("max" : Str) = some .globalImplicit := by rfl) (he : ∀ env, starEach (e :: es) env = (false, eval e env) :: starEach es env := by intro _; rfl) (hpl : ∀ env, (backTo pos (starEach es env)).any (·.1) = false := by intro _; rfl) : SE Γ (.Call (.Name "max" p) (e :: es) [] pos) (eF gMax1 fa) := se_bcall (fun X c => by rw [← c.K]; exact cr_max c.calm) cS_max1 ha hm (by decide +kernel) hg (by decide) (by decide) he hpl
end
/-! their equations -/
theorem eMinDf_e {f : DE} {env : Env} {h : Hs} : eMinDf f env h = bd (f env h) fun p => gMinDf p.1 p.2 := by
  unfold eMinDf
  cases f env h <;> rfl
theorem gMinDf_l {ns : List Int} {h : Hs} : gMinDf (.l (.lst (ns.map .int))) h = some (.d (minI ns), h) := by
  unfold gMinDf
  simp only [lv, intsD_map]
end F
/-! F23: xs[::-1]. -/
namespace F
open PySem PySem.Spec PyProof.Rows L2
def rBack (K : PySem.W.Frag) : V → Hp → VK → Prop := fun x H Q => ∃ a xs, x = .ref a ∧ SqL K H a xs ∧ ∀ p, H p = none → Q (.ref p) (upd H p (.lst xs.reverse))
section
variable {X : Cx} {e : Expr} {te tst : TE} {pos p2 cp up : Pos} {j : Nat}
theorem pe_back (he : PE X e te) (hst : PE X (.UnaryOp .USub (.Constant (.int 1) j cp) up) tst) : PE X (.Subscript e (.Slice none none (some (.UnaryOp .USub (.Constant (.int 1) j cp) up)) p2) pos) (fun σ H Q => te σ H fun x H1 => tst σ H1 fun z H2 => z = .int (-1) ∧ rBack X.K x H2 Q) := by
  refine ⟨fun pins s σ H Q I h => ?_⟩
  refine Subscript_ (thn (he.run pins s σ H _ I h) fun v s1 ⟨x, H1, I1, r1, q1⟩ => ?_)
  refine wpAny_Slice ?_
  rw [evalPart_none]
  refine wpAny_pure ?_
  refine wpAny_pure ?_
  rw [evalPart_some]
  refine thn (hst.run pins s1 σ H1 _ I1 q1) fun vk s3 ⟨z, H3, I3, rk, ez, q3⟩ => ?_
  subst ez
  obtain ⟨t, rfl⟩ := rk
  obtain ⟨a, xs, rfl, hx, q⟩ := q3
  have I4 : Inv X pins σ H3 { s3 with heap := s3.heap.push { cls := .type "slice", data := .fields #[.none, .none, .int (-1) t] } } := I3.kept (t' := s3.toks) fun b ob q => Heap.get?_push_of_some _ q
  cases r1
  obtain ⟨its, r, ht, hz⟩ := I4.list hx
  refine tail_any (ops := [.ref a, .ref s3.heap.objs.size]) ht.isList.typeIs slot_list_getitem.lookup ?_ (by with_unfolding_all rfl)
  refine wpAny_getItem_list_slice ht.isList (Heap.IsSliceOf.new ..) .none .none (.int (-1) t) (by simp) ?_ (by rw [List.size_toArray, ← r.length]; exact hz)
  rw [PySem.W.krv_pick]
  have hz2 : xs.reverse.length ≤ sizeLine := by rw [List.length_reverse]; exact hz
  have rr : Vals xs.reverse its.reverse := by
    clear hz hz2 q hx ht
    induction r with
    | nil => exact .nil
    | cons r1 r2 ih => rw [List.reverse_cons, List.reverse_cons]; exact ih.append (.cons r1 .nil)
  refine ⟨.ref _, _, I4.laid (t' := s3.toks) (o := .lst xs.reverse) (fun b ob q => Heap.get?_push_of_some _ q) (Nat.le_refl _) ?_, rfl, q _ (I4.hok.fresh (Nat.le_refl _))⟩
  exact ⟨hz2, _, 0, by simpa using rr, Heap.get?_push_size _ rfl⟩
end
def gBack : RV → Hs → Option (RV × Hs) := fun x h => match lv x h with
  | some ds => some (.l (.lst ds.reverse), h)
  | none => none
def eBack (f : DE) : DE := fun env h => match f env h with
  | some (x, h1) => gBack x h1
  | none => none
section
variable {Γ : G} {pos p2 cp up : Pos} {j : Nat} {e : Expr} {f : DE}
theorem se_back (ha : SE Γ e f) : SE Γ (.Subscript e (.Slice none none (some (.UnaryOp .USub (.Constant (.int 1) j cp) up)) p2) pos) (eBack f) := fun X c =>
  PE.imp (pe_back (ha X c) (se_neg se_int X c)) fun σ H Q q => by
    obtain ⟨α, O, h, env, hr, sr, rv, h', e1, k⟩ := q
    unfold eBack at e1
    split at e1
    · rename_i x h1 ef
      unfold gBack at e1
      split at e1
      · rename_i ds ed
        cases e1
        refine ⟨α, O, h, env, hr, sr, x, h', ef, fun α1 H1 xv s1 o1 => ?_⟩
        refine ⟨α1, O, h', env, o1.hr, sr.stp hr s1, .d (.int (-1)), h', rfl, fun α2 H2 z s2 o2 => ?_⟩
        refine ⟨o2.isD.int_eq, ?_⟩
        obtain ⟨p, ys, e4, qq, rr⟩ := lv_sq o2.hr (o1.at_.stp s2) ed
        refine ⟨p, ys, e4, by rw [c.K]; exact qq, fun l hl => ?_⟩
        exact k α2 _ _ (s1.trans (s2.trans (Stp.upd o2.hr hl))) ((VOk.fresh o2.hr hl rr.rev).back (s1.trans s2) o2.hr)
      · cases e1
    · cases e1
end
theorem eBack_e {f : DE} {env : Env} {h : Hs} : eBack f env h = bd (f env h) fun p => gBack p.1 p.2 := by
  unfold eBack
  cases f env h <;> rfl
theorem gBack_rol {ds : List D} {h : Hs} : gBack (.d (.rol ds)) h = some (.l (.lst ds.reverse), h) := rfl
theorem gBack_b {ds : List D} {h : Hs} : gBack (.b (.lst ds)) h = some (.l (.lst ds.reverse), h) := rfl
end F
/-! F24: a, b = e1, e2 (two names). -/
namespace F
open PySem PySem.Spec PyProof.Rows L2
def dPar (i j : Nat) (fa fb : DE) : DS := fun env h => match fa env h with
  | some (.d x, h1) => match fb env h1 with
    | some (.d y, h2) => some (.nx ((env.set i (.v x)).set j (.v y)) h2)
    | _ => none
  | _ => none
section
variable {Γ : G} {pos px py pt p2 : Pos} {a b : Expr} {fa fb : DE} {kt k2 : Nat}
theorem s1_par {i j : Nat} {x y : Str} (hN : Γ.N[i]? = some x := by rfl) (hM : Γ.N[j]? = some y := by rfl) (hij : i ≠ j := by decide) (hx : Γ.sc.names.lookup x = some .local := by rfl) (hy : Γ.sc.names.lookup y = some .local := by rfl) (ha : SE Γ a fa) (hb : SE Γ b fb)
    (hw : ∀ env, env.scope = Γ.sc → swappedStores [.Tuple [.Name x px, .Name y py] kt pt] (.Tuple [a, b] k2 p2) env = pure (some [x, y]) := by intro env hs; unfold swappedStores Env.blockKind Env.kindOf; rw [hs]; with_unfolding_all rfl)
    (hs : ∀ env, swapsWithSole [.Tuple [.Name x px, .Name y py] kt pt] (.Tuple [a, b] k2 p2) pos.line env = pure false := by intro _; rfl)
    (h1 : ∀ env, starEach [a, b] env = (false, eval a env) :: starEach [b] env := by intro _; rfl) (h2 : ∀ env, starEach [b] env = (false, eval b env) :: starEach [] env := by intro _; rfl) :
    S1 Γ (.Assign [.Tuple [.Name x px, .Name y py] kt pt] (.Tuple [a, b] k2 p2) pos) (dPar i j fa fb) := fun X c B =>
  PS.imp (ps_par c.calm (by rw [c.N]; exact c.nd) (by rw [c.N]; exact hN) (by rw [c.N]; exact hM) hij (by rw [c.sc]; exact hx) (by rw [c.sc]; exact hy) ((sa_cons ha (sa_cons hb sa_nil h2) h1) X c) (hw _ c.sc) (hs _)) fun D σ H q => by
    obtain ⟨α, O, h, env, hr, sr, br, o, e, k⟩ := q
    unfold dPar at e
    split at e
    · rename_i d h1 e1
      split at e
      · rename_i d2 h2 e2
        cases e
        refine ⟨α, O, h, env, hr, sr, [.d d, .d d2], h2, by simp only [aCons, aNil, e1, e2], fun α1 H1 xs s1 r1 o1 => ?_⟩
        obtain ⟨v, ws, e3, o2, o3⟩ := o1
        obtain ⟨w, e4, o4⟩ := VAts1 o3
        refine ⟨v, w, by rw [e3, e4], ?_⟩
        obtain ⟨sA, lA⟩ := (sr.stp hr s1).setV i o2.isD
        obtain ⟨sB, lB⟩ := sA.setV j o4.isD
        exact k α1 O H1 _ r1 sB (((br.stp hr r1 s1).less lA).less lB)
      · cases e
    · cases e
end
theorem dPar_e {i j : Nat} {fa fb : DE} {env : Env} {h : Hs} : dPar i j fa fb env h = bd (fa env h) fun p => dK (fun x => bd (fb env p.2) fun q => dK (fun y => some (.nx ((env.set i (.v x)).set j (.v y)) q.2)) q.1) p.1 := by
  unfold dPar
  cases fa env h with
  | none => rfl
  | some p =>
    obtain ⟨x, h1⟩ := p
    cases x with
    | l c => rfl
    | b c => rfl
    | d x =>
      simp only [bd_some, dK_eq]
      cases fb env h1 with
      | none => rfl
      | some q =>
        obtain ⟨y, h2⟩ := q
        cases y <;> rfl
end F
/-! F25: dicts (keys ints and texts) in a slot of one's own or in the heap: d[k], d[k] = v, k in d, d.get(k, x), {}, {'a': .., ..}, [d[k] for k in d]. -/
namespace F
open PySem PySem.Spec PyProof.Rows L2
def keyEq : D → D → Bool
  | .int i, .int j => decide (i = j)
  | .str s, .str z => decide (s = z)
  | _, _ => false
def isKey : D → Bool
  | .int _ => true
  | .str _ => true
  | _ => false
def getL (kvs : List (D × D)) (k : D) : Option D := (kvs.find? fun kv => keyEq kv.1 k).map (·.2)
def putL (kvs : List (D × D)) (k v : D) : List (D × D) := if (kvs.any fun kv => keyEq kv.1 k) = true then kvs.map (fun kv => if keyEq kv.1 k = true then (kv.1, v) else kv) else kvs ++ [(k, v)]
def dv : RV → Hs → Option (List (D × D))
  | .l (.dct kvs), _ => some kvs
  | .b (.dct kvs), _ => some kvs
  | .d (.ref n), h => match h[n]? with
    | some (.dct kvs) => some kvs
    | _ => none
  | _, _ => none
theorem keyEq_key {a b : D} {x y : Key} (ea : keyOf a = some x) (eb : keyOf b = some y) : keyEq a b = decide (x = y) := by
  unfold keyOf at ea eb
  split at ea <;> split at eb <;> cases ea <;> cases eb
  · simp [keyEq]
  · simp [keyEq]
  · simp [keyEq]
  · simp only [keyEq, Sum.inr.injEq, F.S_inj]
theorem isKey_key {d : D} (h : isKey d = true) : ∃ k, keyOf d = some k := by
  cases d <;> simp [isKey] at h
  · exact ⟨_, rfl⟩
  · exact ⟨_, rfl⟩
section
variable {K : PySem.W.Frag} {α α' : List Addr} {O O' : Addr → Prop} {H H' : Hp} {h : Hs}
theorem key_R {d : D} {k : Key} {y : V} (e : keyOf d = some k) (r : R K α O H d y) : y = kV k := by
  unfold keyOf at e
  split at e
  · cases e; exact r.int_eq
  · cases e; exact r.str_eq
  · cases e
theorem RP.get {kd : D} {k : Key} (ek : keyOf kd = some k) : ∀ {kvs : List (D × D)} {ps : List (Key × V)}, RP K α O H kvs ps → (match getL kvs kd with | some d => ∃ x, valV ps k = some x ∧ R K α O H d x | none => valV ps k = none)
  | [], ps, r => by
    have : ps = [] := r
    subst this
    exact valV_nil
  | kv :: kvs, ps, r => by
    obtain ⟨k1, x, q, e, e1, r1, r2⟩ := r
    subst e
    have ih := RP.get ek r2
    unfold getL at ih ⊢
    rw [List.find?_cons, keyEq_key e1 ek]
    by_cases hk : k1 = k
    · rw [decide_eq_true hk]
      exact ⟨x, valV_pos hk, r1⟩
    · rw [decide_eq_false hk, valV_neg hk]
      exact ih
theorem RP.any {kd : D} {k : Key} (ek : keyOf kd = some k) : ∀ {kvs : List (D × D)} {ps : List (Key × V)}, RP K α O H kvs ps → (kvs.any fun kv => keyEq kv.1 kd) = (ps.any fun kv => decide (kv.1 = k))
  | [], ps, r => by
    have : ps = [] := r
    subst this
    rfl
  | kv :: kvs, ps, r => by
    obtain ⟨k1, x, q, e, e1, r1, r2⟩ := r
    subst e
    rw [List.any_cons, List.any_cons, keyEq_key e1 ek, RP.any ek r2]
theorem RP.app : ∀ {a b : List (D × D)} {p q : List (Key × V)}, RP K α O H a p → RP K α O H b q → RP K α O H (a ++ b) (p ++ q)
  | [], b, p, q, r, r2 => by
    have : p = [] := r
    subst this
    exact r2
  | kv :: a, b, p, q, r, r2 => by
    obtain ⟨k1, x, z, e, e1, r1, r3⟩ := r
    subst e
    exact ⟨k1, x, z ++ q, rfl, e1, r1, RP.app r3 r2⟩
theorem RP.repl {kd v : D} {k : Key} {y : V} (ek : keyOf kd = some k) (ry : R K α O H v y) : ∀ {kvs : List (D × D)} {ps : List (Key × V)}, RP K α O H kvs ps →
    RP K α O H (kvs.map fun kv => if keyEq kv.1 kd = true then (kv.1, v) else kv) (ps.map fun kv => if kv.1 = k then (kv.1, y) else kv)
  | [], ps, r => by
    have : ps = [] := r
    subst this
    exact r
  | kv :: kvs, ps, r => by
    obtain ⟨k1, x, q, e, e1, r1, r2⟩ := r
    subst e
    rw [List.map_cons, List.map_cons, keyEq_key e1 ek]
    by_cases hk : k1 = k
    · rw [decide_eq_true hk, if_pos rfl, if_pos hk]
      exact ⟨k1, y, _, rfl, e1, ry, RP.repl ek ry r2⟩
    · rw [decide_eq_false hk, if_neg (by decide), if_neg hk]
      exact ⟨k1, x, _, rfl, e1, r1, RP.repl ek ry r2⟩
theorem RP.put {kvs : List (D × D)} {ps : List (Key × V)} {kd v : D} {k : Key} {y : V} (r : RP K α O H kvs ps) (ek : keyOf kd = some k) (ry : R K α O H v y) : RP K α O H (putL kvs kd v) (putK ps k y) := by
  unfold putL putK
  rw [RP.any ek r]
  split
  · exact RP.repl ek ry r
  · exact RP.app r ⟨k, y, [], rfl, ek, ry, rfl⟩
theorem RP.length : ∀ {kvs : List (D × D)} {ps : List (Key × V)}, RP K α O H kvs ps → kvs.length = ps.length
  | [], ps, r => by
    have : ps = [] := r
    subst this
    rfl
  | kv :: kvs, ps, r => by
    obtain ⟨k1, x, q, e, e1, r1, r2⟩ := r
    subst e
    rw [List.length_cons, List.length_cons, RP.length r2]
theorem dv_eq {rv : RV} {x : V} {kvs : List (D × D)} (hr : HRel K α O H h) (o : VAt K α O H rv x) (e : dv rv h = some kvs) : ∃ a ps, x = .ref a ∧ H a = some (.dK ps) ∧ RP K α O H kvs ps := by
  unfold dv at e
  split at e
  · cases e
    cases o with
    | l q n => obtain ⟨ps, e1, r⟩ := q; exact ⟨_, ps, rfl, e1, r⟩
  · cases e
    cases o with
    | b q n => obtain ⟨ps, e1, r⟩ := q; exact ⟨_, ps, rfl, e1, r⟩
  · split at e
    · rename_i e1
      cases e
      obtain ⟨a, e5, e6, ps, e7, r⟩ := o.isD.ref_cell hr e1
      exact ⟨a, ps, e5, e7, r⟩
    · cases e
  · cases e
end
/-- d[k] -/
def gDg : RV → RV → Hs → Option (RV × Hs)
  | x, .d k, h => match dv x h with
    | some kvs => if isKey k = true then match getL kvs k with
      | some d => some (.d d, h)
      | none => none
      else none
    | none => none
  | _, _, _ => none
/-- k in d; k not in d -/
def gDi (ng : Bool) : RV → RV → Hs → Option (RV × Hs)
  | .d k, x, h => match dv x h with
    | some kvs => if isKey k = true then some (.d (.bl (if ng then !(getL kvs k).isSome else (getL kvs k).isSome)), h) else none
    | none => none
  | _, _, _ => none
theorem oS_dg {K : PySem.W.Frag} : OpS K (fun x y H Q => ∃ a v, x = .ref a ∧ DGet H a y (some v) ∧ Q v H) gDg := fun α O H h x y rx ry rv h' Q hr ox oy e k => by
  unfold gDg at e
  split at e
  · split at e
    · rename_i kvs ed
      split at e
      · rename_i ik
        split at e
        · rename_i d eg
          cases e
          obtain ⟨a, ps, e1, e2, r⟩ := dv_eq hr ox ed
          obtain ⟨kk, ek⟩ := isKey_key ik
          have g := RP.get ek r
          rw [eg] at g
          obtain ⟨v, e3, r3⟩ := g
          refine ⟨a, v, e1, ?_, k _ α H (.refl _ _) (.d hr r3)⟩
          rw [key_R ek oy.isD, ← e3]
          exact DGet.k e2
        · cases e
      · cases e
    · cases e
  · cases e
theorem oS_di {K : PySem.W.Frag} {ng : Bool} : OpS K (fun y x H Q => ∃ a o, x = .ref a ∧ DGet H a y o ∧ Q (.bl (if ng then !o.isSome else o.isSome)) H) (gDi ng) := fun α O H h y x ry rx rv h' Q hr oy ox e k => by
  unfold gDi at e
  split at e
  · split at e
    · rename_i kvs ed
      split at e
      · rename_i ik
        cases e
        obtain ⟨a, ps, e1, e2, r⟩ := dv_eq hr ox ed
        obtain ⟨kk, ek⟩ := isKey_key ik
        have g := RP.get ek r
        refine ⟨a, valV ps kk, e1, ?_, ?_⟩
        · rw [key_R ek oy.isD]
          exact DGet.k e2
        · have : (valV ps kk).isSome = ((getL kvs ‹D›).isSome) := by
            split at g
            · rename_i e3
              obtain ⟨v, e4, _⟩ := g
              rw [e3, e4]; rfl
            · rename_i e3
              rw [e3, g]; rfl
          rw [this]
          exact k _ α H (.refl _ _) (.d hr R.bl_mk)
      · cases e
    · cases e
  · cases e
/-- d.get(k, x) -/
def eDGt (fo fk fd : DE) : DE := fun env h => match fo env h with
  | some (x, h1) => match dv x h1 with
    | some _ => match fk env h1 with
      | some (.d k, h2) => match fd env h2 with
        | some (.d z, h3) => match dv x h3 with
          | some kvs => if isKey k = true then some (.d ((getL kvs k).getD z), h3) else none
          | none => none
        | _ => none
      | _ => none
    | none => none
  | none => none
section
variable {Γ : G} {pos p2 apos cpos : Pos} {a b c : Expr} {fa fb fc : DE}
theorem se_dget (ha : SE Γ a fa) (hb : SE Γ b fb) (hs : NoSl b := by intro _ _; rfl) : SE Γ (.Subscript a b pos) (eB gDg fa fb) := fun X c =>
  PE.imp (pe_dget c.hu (ha X c) (hb X c) hs) fun σ H Q q => tOp_imp oS_dg q
theorem se_din (ha : SE Γ a fa) (hb : SE Γ b fb) (hm : behindInMarks .In b = false := by rfl) : SE Γ (.Compare a [.In] [b] pos) (eB (gDi false) fa fb) := fun X c =>
  PE.imp (pe_cmp (pc_din c.hu (ha X c) (hb X c)) hm) fun σ H Q q => tOp_imp (oS_di (ng := false)) q
theorem se_dni (ha : SE Γ a fa) (hb : SE Γ b fb) (hm : behindInMarks .NotIn b = false := by rfl) : SE Γ (.Compare a [.NotIn] [b] pos) (eB (gDi true) fa fb) := fun X c =>
  PE.imp (pe_cmp (pc_dnotin c.hu (ha X c) (hb X c)) hm) fun σ H Q q => tOp_imp (oS_di (ng := true)) q
theorem st_din (ha : SE Γ a fa) (hb : SE Γ b fb) (hm : behindInMarks .In b = false := by rfl) : ST Γ (.Compare a [.In] [b] pos) (fB (eB (gDi false) fa fb)) := fun X c =>
  PT.imp (pt_cmp (pc_din c.hu (ha X c) (hb X c)) hm) fun σ H Q q => tB_imp (t := tDIn (tE Γ.g.K fa) (tE Γ.g.K fb)) (fun σ H Q q => tOp_imp (oS_di (ng := false)) q) q
theorem st_dni (ha : SE Γ a fa) (hb : SE Γ b fb) (hm : behindInMarks .NotIn b = false := by rfl) : ST Γ (.Compare a [.NotIn] [b] pos) (fB (eB (gDi true) fa fb)) := fun X c =>
  PT.imp (pt_cmp (pc_dnotin c.hu (ha X c) (hb X c)) hm) fun σ H Q q => tB_imp (t := tDNotIn (tE Γ.g.K fa) (tE Γ.g.K fb)) (fun σ H Q q => tOp_imp (oS_di (ng := true)) q) q
theorem se_dgt (ha : SE Γ a fa) (hb : SE Γ b fb) (hc : SE Γ c fc) (hbase : ∀ env, attributeBase a "get" env (eval a env) = eval a env := by intro _; rfl)
    (hfew : ∀ env, ((backTo cpos (starEach [b, c] env)).all (fun x => !x.1) && (backToKw cpos (keywordEach [] env)).all (fun x => x.1.isSome)
    && decide (([b, c] : List Expr).length + ([] : List Keyword).length + (if ([] : List Keyword).isEmpty then 0 else 1) < 30)) = true := by intro _; rfl) (hline : (apos.endLine == cpos.line) = true := by rfl)
    (htr : ∀ env, backTo cpos (starEach [b, c] env) = [(false, eval b env), (false, eval c env)] := by intro _; rfl) : SE Γ (.Call (.Attribute a "get" apos) [b, c] [] cpos) (eDGt fa fb fc) := fun X cc =>
  PE.imp (pe_dget2 cc.hu (ha X cc) (hb X cc) (hc X cc) ⟨hbase _, hfew _, hline, htr _⟩) fun σ H Q q => by
    obtain ⟨α, O, h, env, hr, sr, rv, h', e, k⟩ := q
    unfold eDGt at e
    split at e
    · rename_i x1 h1 e1
      split at e
      · rename_i kv0 d0
        split at e
        · rename_i kd h2 e2
          split at e
          · rename_i z h3 e3
            split at e
            · rename_i kvs d1
              split at e
              · rename_i ik
                cases e
                refine ⟨α, O, h, env, hr, sr, x1, h1, e1, fun α1 H1 x s1 o1 => ?_⟩
                obtain ⟨a, ps, ex, ea, r⟩ := dv_eq o1.hr o1.at_ d0
                refine ⟨a, ex, .inl ⟨ps, .inl ea⟩, ?_⟩
                refine ⟨α1, O, h1, env, o1.hr, sr.stp hr s1, _, h2, e2, fun α2 H2 y s2 o2 => ?_⟩
                refine ⟨α2, O, h2, env, o2.hr, (sr.stp hr s1).stp o1.hr s2, _, _, e3, fun α3 H3 w s3 o3 => ?_⟩
                have s23 := s2.trans s3
                obtain ⟨a', ps', ex', ea', r'⟩ := dv_eq o3.hr (o1.at_.stp s23) d1
                have : a' = a := by rw [ex] at ex'; cases ex'; rfl
                subst this
                obtain ⟨kk, ek⟩ := isKey_key ik
                have g := RP.get ek r'
                refine ⟨valV ps' kk, by rw [key_R ek o2.isD]; exact DGet.k ea', ?_⟩
                split at g
                · rename_i d e4
                  obtain ⟨v, e5, rr⟩ := g
                  rw [e5]
                  rw [e4] at k
                  exact k α3 H3 _ (s1.trans s23) (.d o3.hr rr)
                · rename_i e4
                  rw [g]
                  rw [e4] at k
                  exact k α3 H3 _ (s1.trans s23) (.d o3.hr o3.isD)
              · cases e
            · cases e
          · cases e
        · cases e
      · cases e
    · cases e
end
/-- {} -/
def eDNew : DE := fun _ h => some (.l (.dct []), h)
section
variable {Γ : G} {pos : Pos}
theorem se_dnew : SE Γ (.Dict [] [] pos) eDNew := fun X c => PE.imp pe_dnewK fun σ H Q q => by
  obtain ⟨α, O, h, env, hr, sr, rv, h', e, k⟩ := q
  cases e
  intro p hp
  exact k α _ _ (Stp.upd hr hp) (.l hp (hr.fresh hp) ⟨[], upd_same, rfl⟩)
end
/-- {'a': x, ..} -/
def mrg : List (List Nat) → List D → List (D × D) → List (D × D)
  | k :: ks, d :: ds, acc => mrg ks ds (putL acc (.str k) d)
  | _, _, acc => acc
def eDsp (ks : List (List Nat)) (fa : DA) : DE := fun env h => match fa env h with
  | some (rs, h1) => match plain rs with
    | some ds => if ds.length = ks.length ∧ ks.length ≤ 15 then some (.l (.dct (mrg ks ds [])), h1) else none
    | none => none
  | none => none
def zipV (ks : List (List Nat)) (xs : List V) : List (V × V) := List.zipWith (fun k x => (V.str (S k), x)) ks xs
def SPs (Γ : G) (keys : List (Option Expr)) (values : List Expr) (ks : List (List Nat)) (fa : DA) : Prop := ∀ X : Cx, Γ.At X → ∃ trs, (∀ pos, PPs X pos keys values trs) ∧ keys.all (·.isSome) = true ∧ keys.length = values.length ∧ keys.length = ks.length ∧
  ∀ σ H (Q : List (V × V) → Hp → Prop), (∃ α O h env, HRel Γ.g.K α O H h ∧ SRel Γ.g.K α O H σ env ∧ ∃ rvs h', fa env h = some (rvs, h') ∧ ∀ α' H' xs, Stp α H α' H' → HRel Γ.g.K α' O H' h' → VAts Γ.g.K α' O H' rvs xs → Q (zipV ks xs) H') → tPairs trs σ H Q
section
variable {Γ : G} {pos pk : Pos} {e : Expr} {keys : List (Option Expr)} {values : List Expr} {ks : List (List Nat)} {f : DE} {fa : DA} {x : Str} {l : List Nat} {j : Nat}
theorem sps_nil : SPs Γ [] [] [] aNil := fun X c => ⟨[], fun pos => pps_nil, rfl, rfl, rfl, fun σ H Q q => by
  obtain ⟨α, O, h, env, hr, sr, rv, h', e, k⟩ := q
  cases e
  exact k α H [] (.refl _ _) hr rfl⟩
theorem sps_cons (he : SE Γ e f) (hr : SPs Γ keys values ks fa) (ex : x = S l := by decide +kernel) : SPs Γ (some (.Constant (.str x) j pk) :: keys) (e :: values) (l :: ks) (aCons f fa) := fun X c => by
  obtain ⟨trs, p, h1, h2, h3, w⟩ := hr X c
  refine ⟨(tC (.str x), tE Γ.g.K f) :: trs, fun pos => pps_cons pe_str (he X c) (p pos), by simpa using h1, by simp [h2], by simp [h3], fun σ H Q q => ?_⟩
  obtain ⟨α, O, h, env, hr, sr, rv, h', e, k⟩ := q
  unfold aCons at e
  split at e
  · rename_i x1 h1 e1
    split at e
    · rename_i xs1 h2 e2
      cases e
      refine ⟨α, O, h, env, hr, sr, x1, h1, e1, fun α1 H1 y s1 o1 => ?_⟩
      refine w σ H1 _ ⟨α1, O, h1, env, o1.hr, sr.stp hr s1, xs1, _, e2, fun α2 H2 xs s2 r2 o2 => ?_⟩
      have := k α2 H2 (y :: xs) (s1.trans s2) r2 ⟨y, xs, rfl, o1.at_.stp s2, o2⟩
      rw [ex]
      exact this
    · cases e
  · cases e
theorem zip_kvs : ∀ (ks : List (List Nat)) (xs : List V), zipV ks xs = (List.zipWith (fun k x => ((Sum.inr (S k) : Key), x)) ks xs).map fun kv => (kV kv.1, kv.2)
  | [], _ => rfl
  | _ :: _, [] => rfl
  | k :: ks, x :: xs => by
    show _ :: zipV ks xs = _
    rw [zip_kvs ks xs]
    rfl
theorem RP.mrg {K : PySem.W.Frag} {α : List Addr} {O : Addr → Prop} {H : Hp} : ∀ {ks : List (List Nat)} {ds : List D} {xs : List V} {acc : List (D × D)} {ps : List (Key × V)}, RL K α O H ds xs → RP K α O H acc ps →
    RP K α O H (F.mrg ks ds acc) (mergeK ps (List.zipWith (fun k x => ((Sum.inr (S k) : Key), x)) ks xs))
  | [], ds, xs, acc, ps, r, p => by
    cases ds <;> exact p
  | k :: ks, [], xs, acc, ps, r, p => by
    have : xs = [] := by simpa only [RL] using r
    subst this
    exact p
  | k :: ks, d :: ds, xs, acc, ps, r, p => by
    simp only [RL] at r
    obtain ⟨x, q, e, r1, r2⟩ := r
    subst e
    exact RP.mrg (ks := ks) r2 (RP.put p (kd := .str k) rfl r1)
theorem se_dsp (h : SPs Γ keys values ks fa) (h0 : keys ≠ [] := by exact List.cons_ne_nil _ _) (h15 : keys.length ≤ 15 := by decide) : SE Γ (.Dict keys values pos) (eDsp ks fa) := fun X c => by
  obtain ⟨trs, p, q1, q2, q3, w⟩ := h X c
  refine PE.imp (pe_disp (p pos) q1 q2 h0 h15) fun σ H Q q => ?_
  obtain ⟨α, O, h, env, hr, sr, rv, h', e, k⟩ := q
  unfold eDsp at e
  split at e
  · rename_i rs h1 e1
    split at e
    · rename_i ds e2
      split at e
      · rename_i hl
        cases e
        intro p hp
        have m0 : Mv α O H α (Ins O p) (L2.upd H p (.dK [])) := Mv.fresh hr hp
        have hr0 := hr.fresh (o := .dK []) hp
        have sr0 : SRel Γ.g.K α (Ins O p) (L2.upd H p (.dK [])) σ env := sr.mv m0 (fun a o q e => by rw [upd_ne (ne_of_none e hp)]; exact e) fun a q => .inr q
        refine w _ _ _ ⟨α, _, h, env, hr0, sr0, rs, _, e1, fun α2 H2 xs s2 r2 o2 => ?_⟩
        have np : p ∉ α := hr.notin hp
        have e3 : H2 p = some (.dK []) := s2.fr p _ upd_same np
        have rl := plain_R e2 o2
        have q : Ins O p p := .inl rfl
        refine ⟨e3, List.zipWith (fun k x => ((Sum.inr (S k) : Key), x)) ks xs, zip_kvs ks xs, ?_, ?_⟩
        · rw [List.length_zipWith]; omega
        · have st : Stp α H α2 (L2.upd H2 p (.dK (mergeK [] (List.zipWith (fun k x => ((Sum.inr (S k) : Key), x)) ks xs)))) := by
            refine ⟨fun a o ea n => ?_, s2.pre, fun a m => ?_⟩
            · rw [upd_ne (ne_of_none ea hp)]
              exact s2.fr a o (by rw [upd_ne (ne_of_none ea hp)]; exact ea) n
            · rcases s2.new a m with z | z
              · exact .inl z
              · by_cases hap : a = p
                · exact .inr (hap ▸ hp)
                · rw [upd_ne hap] at z
                  exact .inr z
          exact k α2 _ _ st (.l hp (r2.updO q) ⟨_, upd_same, RP.mrg (RL.mv (Mv.updO q) _ _ rl) rfl⟩)
      · cases e
    · cases e
  · cases e
end
/-- d[k] = v, d in a slot of one's own -/
def dDPut (i : Nat) (fk f : DE) : DS := fun env h => match env[i]? with
  | some (.c (.dct kvs)) => match f env h with
    | some (.d d, h1) => match fk env h1 with
      | some (.d k, h2) => if isKey k = true ∧ kvs.length < sizeLine then some (.nx (env.set i (.c (.dct (putL kvs k d)))) h2) else none
      | _ => none
    | _ => none
  | _ => none
section
variable {Γ : G} {pos p p2 : Pos} {e ix : Expr} {f fi : DE}
theorem s1_dput {i : Nat} {x : Str} (hN : Γ.N[i]? = some x := by rfl) (hi : SE Γ ix fi) (he : SE Γ e f) (hv : Γ.sc.names.lookup x = some .local ∨ Γ.sc.names.lookup x = some .cell ∨ Γ.sc.names.lookup x = some .free := by first | exact Or.inl rfl | exact Or.inr (Or.inl rfl) | exact Or.inr (Or.inr rfl))
    (hd : (x == ("__debug__" : Str)) = false := by decide) (hcd : (x == ("__classdict__" : Str)) = false := by decide)
    (hs : ∀ env, swapsWith e (some (.Subscript (.Name x p) ix p2)) pos.line env = pure false := by intro _; rfl) : S1 Γ (.Assign [.Subscript (.Name x p) ix p2] e pos) (dDPut i fi f) := fun X c B =>
  PS.imp (ps_dput c.hu (pe_var (by rw [c.N]; exact hN) (Vis.of c hv) hd hcd) (hi X c) (he X c) (hs _)) fun D σ H q => by
    obtain ⟨α, O, h, env, hr, sr, br, o, e, k⟩ := q
    unfold dDPut at e
    split at e
    · rename_i kvs ei
      split at e
      · rename_i d h1 e1
        split at e
        · rename_i kd h2 e2
          split at e
          · rename_i hk
            cases e
            refine ⟨α, O, h, env, hr, sr, _, h1, e1, fun α1 H1 v s1 o1 => ?_⟩
            have sr1 := sr.stp hr s1
            obtain ⟨a, e3, ⟨xs, e4, rl⟩, oa⟩ := sr1.own i _ ei
            refine ⟨.ref a, e3, ?_⟩
            refine ⟨α1, O, h1, env, o1.hr, sr1, _, h2, e2, fun α2 H2 z s2 o2 => ?_⟩
            have sr2 := sr1.stp o1.hr s2
            obtain ⟨a', e3', ⟨ps, e5, rl2⟩, oa2⟩ := sr2.own i _ ei
            rw [e3] at e3'
            cases e3'
            have rx := R.mv s2.mv _ _ o1.isD
            obtain ⟨kk, ek⟩ := isKey_key hk.1
            refine ⟨a, _, rfl, by rw [key_R ek o2.isD]; exact DPut.k e5 (by rw [← rl2.length]; exact hk.2), ?_⟩
            obtain ⟨w1, w2, w3⟩ := wrC (c' := .dct (putL kvs kd d)) (o := .dK (putK ps kk v)) o2.hr sr2 ((br.stp hr o1.hr s1).stp o1.hr o2.hr s2) ei e3 (fun _ => trivial) ⟨_, upd_same, RP.mv (Mv.updO oa2) _ _ (RP.put rl2 ek rx)⟩
            exact k α2 O _ σ w1 w2 w3
          · cases e
        · cases e
      · cases e
    · cases e
end
end F
/-! F26: [d[k] for k in d], d a dict in a slot of one's own. -/
namespace F
open PySem PySem.Spec PyProof.Rows L2
def valsL (kvs : List (D × D)) : List D := kvs.map fun kv => (getL kvs kv.1).getD .non
def eDV (i j : Nat) : DE := fun env h => match env[i]? with
  | some (.c (.dct kvs)) => if j < env.length ∧ i ≠ j ∧ kvs.length < sizeLine then some (.l (.lst (valsL kvs)), h) else none
  | _ => none
theorem valsL_R {K : PySem.W.Frag} {α : List Addr} {O : Addr → Prop} {H : Hp} {kvs : List (D × D)} {ps : List (Key × V)} (r : RP K α O H kvs ps) : ∀ {as : List (D × D)} {qs : List (Key × V)}, RP K α O H as qs → (∀ p ∈ qs, ∃ v, valV ps p.1 = some v) →
    RL K α O H (as.map fun kv => (getL kvs kv.1).getD .non) (qs.map fun p => (valV ps p.1).getD .non)
  | [], qs, ra, _ => by
    have : qs = [] := ra
    subst this
    exact RL.nil
  | kv :: as, qs, ra, hq => by
    obtain ⟨k1, x, q, e, e1, r1, r2⟩ := ra
    subst e
    have g := RP.get e1 r
    obtain ⟨v, ev⟩ := hq _ List.mem_cons_self
    rw [List.map_cons, List.map_cons]
    refine RL.cons ?_ (valsL_R r r2 fun p m => hq p (List.mem_cons_of_mem _ m))
    split at g
    · rename_i d ed
      obtain ⟨y, e2, ry⟩ := g
      rw [ed, e2]
      exact ry
    · rw [ev] at g; cases g
theorem valV_mem : ∀ {ps : List (Key × V)} {p : Key × V}, p ∈ ps → ∃ v, valV ps p.1 = some v
  | [], p, m => by cases m
  | q :: ps, p, m => by
    by_cases h : q.1 = p.1
    · exact ⟨q.2, valV_pos h⟩
    · rw [valV_neg h]
      rcases List.mem_cons.mp m with z | z
      · exact absurd (z ▸ rfl) h
      · exact valV_mem z
theorem dV_imp {K : PySem.W.Frag} {i j : Nat} {vs : List Nat} (hvs : vs = [j]) {σ : St} {H : Hp} {Q : VK} (q : tE K (eDV i j) σ H Q) :
    tLockE (tLc (iKeys (tVar i)) (gName j) tYes (tDGet (tVar i) (tVar j)) vs) σ H Q := by
  subst hvs
  obtain ⟨α, O, h, env, hr, sr, rv, h', e, k⟩ := q
  unfold eDV at e
  split at e
  · rename_i kvs ei
    split at e
    · rename_i hj
      cases e
      obtain ⟨hj, hij, hsz⟩ := hj
      obtain ⟨a, e2, ⟨ps, e3, rp⟩, oa⟩ := sr.own i _ ei
      refine ⟨a, _, e3, True.intro, fun od => ?_⟩
      refine ⟨.ref a, e2, a, od, rfl, .inl ⟨ps, upd_same, fun Dn hD => ?_⟩⟩
      have hDa : Dn ≠ a := fun z => by rw [z, upd_same] at hD; cases hD
      have hn : H Dn = none := by rw [upd_ne hDa] at hD; exact hD
      have hlen := rp.length
      refine ⟨fun n m H' => m = ps.length - n ∧ n ≤ ps.length ∧ H' = L2.upd (L2.upd H a (.frz od (.dK ps))) Dn (.lst ((ps.take n).map fun p => (valV ps p.1).getD .non)), ⟨ps.length, by omega, Nat.zero_le _, rfl⟩, ?_⟩
      rintro n m H' ⟨rfl, hn1, rfl⟩
      have fa : L2.upd (L2.upd H a (.frz od (.dK ps))) Dn (.lst ((ps.take n).map fun p => (valV ps p.1).getD .non)) a = some (.frz od (.dK ps)) := by
        rw [upd_ne (Ne.symm hDa), upd_same]
      by_cases hl : n = ps.length
      · refine .inl ⟨⟨fa, by omega⟩, fa, ?_⟩
        rw [hl, List.take_length]
        have hh : L2.upd (L2.upd (L2.upd H a (.frz od (.dK ps))) Dn (.lst (ps.map fun p => (valV ps p.1).getD .non))) a (.dK ps) = L2.upd H Dn (.lst (ps.map fun p => (valV ps p.1).getD .non)) := by
          funext b
          by_cases hb : b = a
          · rw [hb, upd_same, upd_ne (Ne.symm hDa), e3]
          · rw [upd_ne hb]
            by_cases hb2 : b = Dn
            · rw [hb2, upd_same, upd_same]
            · rw [upd_ne hb2, upd_ne hb2, upd_ne hb]
        rw [hh]
        exact k α _ _ (Stp.upd hr hn) (VOk.fresh hr hn (valsL_R rp rp fun p m => valV_mem m))
      · have hlt : n < ps.length := by omega
        obtain ⟨p, hp⟩ : ∃ p, ps[n]? = some p := ⟨ps[n], List.getElem?_eq_getElem hlt⟩
        obtain ⟨v, ev⟩ := valV_mem (List.mem_of_getElem? hp)
        refine .inr ⟨⟨fa, hlt⟩, fun H'' => H'' = L2.upd (L2.upd H a (.frz od (.dK ps))) Dn (.lst ((ps.take (n + 1)).map fun p => (valV ps p.1).getD .non)), fun H'' z => ⟨ps.length - (n + 1), by omega, rfl, hlt, z⟩, ?_⟩
        rintro x H'' ⟨rfl, k1, v1, hp1, rfl⟩
        rw [hp] at hp1
        cases hp1
        refine ⟨(wipe_set (List.mem_singleton.mpr rfl)).trans (wipe_sub [j] fun _ h => h), ?_⟩
        unfold tYes
        dsimp only
        rw [if_pos rfl]
        have si : ∀ x : V, ((L2.wipe σ [j]).set j (some x))[i]? = some (some (.ref a)) := fun x => by
          unfold L2.wipe L2.wipe
          rw [List.getElem?_set_ne (Ne.symm hij), List.getElem?_set_ne (Ne.symm hij)]
          exact e2
        have sj : ∀ x : V, ((L2.wipe σ [j]).set j (some x))[j]? = some (some x) := fun x => by
          unfold L2.wipe L2.wipe
          rw [List.getElem?_set_self (by rw [List.length_set, ← sr.len]; exact hj)]
        refine ⟨.ref a, si _, kV k1, sj _, a, v, rfl, ?_, ?_⟩
        · exact .inl ⟨ps, k1, .inr ⟨od, fa⟩, rfl, ev.symm⟩
        · refine ⟨_, upd_same, ?_, ?_⟩
          · rw [List.length_map, List.length_take]; omega
          · have : L2.upd (L2.upd (L2.upd H a (.frz od (.dK ps))) Dn (.lst ((ps.take n).map fun p => (valV ps p.1).getD .non))) Dn (.lst (((ps.take n).map fun p => (valV ps p.1).getD .non) ++ [v])) = L2.upd (L2.upd H a (.frz od (.dK ps))) Dn (.lst ((ps.take (n + 1)).map fun p => (valV ps p.1).getD .non)) := by
              rw [List.take_add_one, hp]
              funext b
              by_cases hb : b = Dn
              · rw [hb, upd_same, upd_same]
                simp [ev]
              · rw [upd_ne hb, upd_ne hb, upd_ne hb]
            exact this
    · cases e
  · cases e
section
variable {Γ : G} {pos p1 p2 p3 p4 p5 : Pos} {scope : Scope} {x z : Str} {i j : Nat}
theorem se_dV (hN : Γ.N[i]? = some x := by rfl) (hM : Γ.N[j]? = some z := by rfl) (hxv : Γ.sc.names.lookup x = some .local ∨ Γ.sc.names.lookup x = some .cell ∨ Γ.sc.names.lookup x = some .free := by first | exact Or.inl rfl | exact Or.inr (Or.inl rfl) | exact Or.inr (Or.inr rfl))
    (hxb : (Γ.blk scope).sc.names.lookup x = some .local ∨ (Γ.blk scope).sc.names.lookup x = some .cell ∨ (Γ.blk scope).sc.names.lookup x = some .free := by first | exact Or.inl rfl | exact Or.inr (Or.inl rfl) | exact Or.inr (Or.inr rfl))
    (hzb : (Γ.blk scope).sc.names.lookup z = some .local := by rfl)
    (hdx : (x == ("__debug__" : Str)) = false := by decide) (hcx : (x == ("__classdict__" : Str)) = false := by decide) (hdz : (z == ("__debug__" : Str)) = false := by decide) (hcz : (z == ("__classdict__" : Str)) = false := by decide)
    (ok : blkC Γ.N Γ.sc scope [(z, j)] = true := by (dsimp only [F.G.blk]; decide +kernel)) :
    SE Γ (.ListComp (.Subscript (.Name x p1) (.Name z p2) p3) [⟨.Name z p4, .Name x p5, [], 0⟩] scope pos) (eDV i j) := fun X cc =>
  PE.imp (pe_lock (pe_lc cc.calm (by rw [cc.N]; exact cc.nd) (pi_keys (pe_var (by rw [cc.N]; exact hN) (Vis.of cc hxv) hdx hcx)) (by rw [cc.N, cc.sc]; exact blkOk_by ok)
    (fun s H C cl fp => pg_name (by rw [(cc.blk s H scope C cl fp).N]; exact cc.nd) (by rw [(cc.blk s H scope C cl fp).N]; exact hM) (Loc.of (cc.blk s H scope C cl fp) (.inl hzb)) (hf_of (cc.blk s H scope C cl fp) (.inr hzb)))
    (fun s H C cl fp => pts_nil)
    (fun s H C cl fp => pe_dget (cc.blk s H scope C cl fp).hu (pe_var (by rw [(cc.blk s H scope C cl fp).N]; exact hN) (Vis.of (cc.blk s H scope C cl fp) hxb) hdx hcx) (pe_var (by rw [(cc.blk s H scope C cl fp).N]; exact hM) (Vis.of (cc.blk s H scope C cl fp) (.inl hzb)) hdz hcz) (fun _ _ => rfl)) (fun _ => rfl)))
    fun σ H Q q => dV_imp rfl q
/-- y = [x[z] for z in x] -/
theorem s1_setDV {l : Nat} {y : Str} {py spos : Pos} (hL : Γ.N[l]? = some y := by rfl) (hyl : Γ.sc.names.lookup y = some .local := by rfl) (hN : Γ.N[i]? = some x := by rfl) (hM : Γ.N[j]? = some z := by rfl) (hxv : Γ.sc.names.lookup x = some .local ∨ Γ.sc.names.lookup x = some .cell ∨ Γ.sc.names.lookup x = some .free := by first | exact Or.inl rfl | exact Or.inr (Or.inl rfl) | exact Or.inr (Or.inr rfl))
    (hxb : (Γ.blk scope).sc.names.lookup x = some .local ∨ (Γ.blk scope).sc.names.lookup x = some .cell ∨ (Γ.blk scope).sc.names.lookup x = some .free := by first | exact Or.inl rfl | exact Or.inr (Or.inl rfl) | exact Or.inr (Or.inr rfl))
    (hzb : (Γ.blk scope).sc.names.lookup z = some .local := by rfl)
    (hdx : (x == ("__debug__" : Str)) = false := by decide) (hcx : (x == ("__classdict__" : Str)) = false := by decide) (hdz : (z == ("__debug__" : Str)) = false := by decide) (hcz : (z == ("__classdict__" : Str)) = false := by decide)
    (ok : blkC Γ.N Γ.sc scope [(z, j)] = true := by (dsimp only [F.G.blk]; decide +kernel))
    (hl : (py.line == pos.line) = true := by rfl) (ha : (scope.names.any fun (n, k) => n == y && (k == .local || k == .cell)) = false := by decide +kernel) :
    S1 Γ (.Assign [.Name y py] (.ListComp (.Subscript (.Name x p1) (.Name z p2) p3) [⟨.Name z p4, .Name x p5, [], 0⟩] scope pos) spos) (dSet l (eDV i j)) := fun X cc B => by
  refine ⟨fun pins s σ H D I q => ?_⟩
  have hk : X.env.scope.kind = .function := I.ok.kind
  have hy2 : X.env.scope.names.lookup y = some .local := by rw [cc.sc]; exact hyl
  refine (ps_lock (ps_setLc cc.calm (by rw [cc.N]; exact cc.nd) (by rw [cc.N]; exact hL) hy2 (sw_true hk hy2 hl ha) (pi_keys (pe_var (by rw [cc.N]; exact hN) (Vis.of cc hxv) hdx hcx)) (by rw [cc.N, cc.sc]; exact blkOk_by ok)
    (fun s H C cl fp => pg_name (by rw [(cc.blk s H scope C cl fp).N]; exact cc.nd) (by rw [(cc.blk s H scope C cl fp).N]; exact hM) (Loc.of (cc.blk s H scope C cl fp) (.inl hzb)) (hf_of (cc.blk s H scope C cl fp) (.inr hzb)))
    (fun s H C cl fp => pts_nil)
    (fun s H C cl fp => pe_dget (cc.blk s H scope C cl fp).hu (pe_var (by rw [(cc.blk s H scope C cl fp).N]; exact hN) (Vis.of (cc.blk s H scope C cl fp) hxb) hdx hcx) (pe_var (by rw [(cc.blk s H scope C cl fp).N]; exact hM) (Vis.of (cc.blk s H scope C cl fp) (.inl hzb)) hdz hcz) (fun _ _ => rfl)) (fun _ => rfl))).run pins s σ H D I ?_
  obtain ⟨α, O, h, env, hr, sr, br, o, e, k⟩ := q
  have go : tLockE (tLc (iKeys (tVar i)) (gName j) tYes (tDGet (tVar i) (tVar j)) [j]) σ H (fun v H' => D.nx (σ.set l (some v)) H') := by
    unfold dSet at e
    split at e
    · rename_i d h1 e1
      cases e
      refine dV_imp rfl ⟨α, O, h, env, hr, sr, _, h1, e1, fun α1 H1 x s1 o1 => ?_⟩
      obtain ⟨O', r, s, b⟩ := store_imp (i := l) hr sr br s1 o1 rfl
      exact k α1 O' H1 _ r s b
    · rename_i d h1 e1
      cases e
      refine dV_imp rfl ⟨α, O, h, env, hr, sr, _, h1, e1, fun α1 H1 x s1 o1 => ?_⟩
      obtain ⟨O', r, s, b⟩ := store_imp (i := l) hr sr br s1 o1 rfl
      exact k α1 O' H1 _ r s b
    · cases e
  exact go
end
end F
/-! F27: equations for dicts; comprehensions over a range with a test. -/
namespace F
open PySem PySem.Spec PyProof.Rows L2
def dcK {A : Type} (k : List (D × D) → Option A) : Option Slot → Option A
  | some (.c (.dct kvs)) => k kvs
  | _ => none
theorem dcK_c {A : Type} {k : List (D × D) → Option A} {kvs : List (D × D)} : dcK k (some (.c (.dct kvs))) = k kvs := rfl
section
variable {i j : Nat} {fo fk fd f : DE} {env : Env} {h : Hs} {kvs : List (D × D)} {d k z : D}
def dputS (i : Nat) (env : Env) (h : Hs) (kvs : List (D × D)) (k d : D) : Option SOut := if isKey k = true ∧ kvs.length < sizeLine then some (.nx (env.set i (.c (.dct (putL kvs k d)))) h) else none
theorem dputS_e (hk : isKey k = true) (hz : kvs.length ≤ 1000) : dputS i env h kvs k d = some (.nx (env.set i (.c (.dct (putL kvs k d)))) h) := if_pos ⟨hk, Nat.lt_of_le_of_lt hz (by decide)⟩
theorem dDPut_e : dDPut i fk f env h = dcK (fun kvs => bd (f env h) fun p => dK (fun d => bd (fk env p.2) fun q => dK (fun k => dputS i env q.2 kvs k d) q.1) p.1) env[i]? := by
  unfold dDPut
  cases env[i]? with
  | none => rfl
  | some s =>
    cases s with
    | no => rfl
    | v d => rfl
    | c c =>
      cases c with
      | lst ds => rfl
      | dct kvs =>
        rw [dcK_c]
        simp only
        cases f env h with
        | none => rfl
        | some p =>
          obtain ⟨x, h1⟩ := p
          cases x with
          | l c => rfl
          | b c => rfl
          | d d =>
            simp only [bd_some, dK_eq]
            cases fk env h1 with
            | none => rfl
            | some q =>
              obtain ⟨y, h2⟩ := q
              cases y <;> rfl
theorem eDNew_e : eDNew env h = some (.l (.dct []), h) := rfl
theorem dv_b : dv (.b (.dct kvs)) h = some kvs := rfl
def dgtS (x : RV) (k z : D) (h : Hs) : Option (RV × Hs) := match dv x h with
  | some kvs => if isKey k = true then some (.d ((getL kvs k).getD z), h) else none
  | none => none
theorem dgtS_b (hk : isKey k = true) : dgtS (.b (.dct kvs)) k z h = some (.d ((getL kvs k).getD z), h) := by
  unfold dgtS
  rw [dv_b]
  exact if_pos hk
theorem dgtS_i {n : Int} : dgtS (.b (.dct kvs)) (.int n) z h = some (.d ((getL kvs (.int n)).getD z), h) := dgtS_b rfl
def dvK {A : Type} (k : Option A) : Option (List (D × D)) → Option A
  | some _ => k
  | none => none
theorem dvK_some {A : Type} {k : Option A} : dvK k (some kvs) = k := rfl
theorem eDGt_e : eDGt fo fk fd env h = bd (fo env h) fun p => dvK (bd (fk env p.2) fun q => dK (fun k => bd (fd env q.2) fun r => dK (fun z => dgtS p.1 k z r.2) r.1) q.1) (dv p.1 p.2) := by
  unfold eDGt
  cases fo env h with
  | none => rfl
  | some p =>
    obtain ⟨x, h1⟩ := p
    simp only [bd_some]
    cases dv x h1 with
    | none => rfl
    | some kv0 =>
      simp only [dvK_some]
      cases fk env h1 with
      | none => rfl
      | some q =>
        obtain ⟨y, h2⟩ := q
        cases y with
        | l c => rfl
        | b c => rfl
        | d k =>
          simp only [bd_some, dK_eq]
          cases fd env h2 with
          | none => rfl
          | some r =>
            obtain ⟨w, h3⟩ := r
            cases w <;> rfl
theorem eDV_e : eDV i j env h = dcK (fun kvs => if j < env.length ∧ i ≠ j ∧ kvs.length < sizeLine then some (.l (.lst (valsL kvs)), h) else none) env[i]? := by
  unfold eDV
  cases env[i]? with
  | none => rfl
  | some s =>
    cases s with
    | no => rfl
    | v d => rfl
    | c c => cases c <;> rfl
theorem gDi_b {ng : Bool} (hk : isKey k = true) : gDi ng (.d k) (.b (.dct kvs)) h = some (.d (.bl (if ng then !(getL kvs k).isSome else (getL kvs k).isSome)), h) := by
  unfold gDi
  simp only [dv_b]
  exact if_pos hk
theorem gDi_t {n : Int} : gDi true (.d (.int n)) (.b (.dct kvs)) h = some (.d (.bl (!(getL kvs (.int n)).isSome)), h) := gDi_b rfl
theorem gDi_f {n : Int} : gDi false (.d (.int n)) (.b (.dct kvs)) h = some (.d (.bl (getL kvs (.int n)).isSome), h) := gDi_b rfl
theorem gDg_b (hk : isKey k = true) (e : getL kvs k = some d) : gDg (.b (.dct kvs)) (.d k) h = some (.d d, h) := by
  unfold gDg
  simp only [dv_b, hk, if_true, e]
def dspK (ks : List (List Nat)) (h : Hs) : Option (List D) → Option (RV × Hs)
  | some ds => if ds.length = ks.length ∧ ks.length ≤ 15 then some (.l (.dct (mrg ks ds [])), h) else none
  | none => none
theorem eDsp_e {ks : List (List Nat)} {fa : DA} : eDsp ks fa env h = bd (fa env h) fun p => dspK ks p.2 (plain p.1) := by
  unfold eDsp
  cases fa env h with
  | none => rfl
  | some p =>
    obtain ⟨rs, h1⟩ := p
    simp only [bd_some]
    cases plain rs <;> rfl
theorem dspK_2 {k0 k1 : List Nat} {x0 x1 : D} : dspK [k0, k1] h (some [x0, x1]) = some (.l (.dct (mrg [k0, k1] [x0, x1] [])), h) := by
  unfold dspK
  exact if_pos ⟨rfl, show 2 ≤ 15 by decide⟩
end
section
variable {k n : Nat} {tt : DT} {te : DE} {env : Env} {h : Hs}
theorem lcK_rf (q : Nat → Bool) (v : Nat → D) (hz : n ≤ 100000) (H : ∀ i, i < n → tt ((wipeE env [k]).set k (.v (.int (i : Nat)))) h = some (q i, h) ∧ (q i = true → te ((wipeE env [k]).set k (.v (.int (i : Nat)))) h = some (.d (v i), h))) :
    lcK [k] (gNm k) tt te env (rangeL 0 1 n) h = some (.l (.lst (((List.range n).filter q).map v)), h) := by
  have := lcK_filter (vs := [k]) (g := gNm k) (tt := tt) (te := te) (env := env) (h := h) (ds := rangeL 0 1 n) (E := fun d => (wipeE env [k]).set k (.v d)) (q := fun d => match d with | .int i => q i.toNat | _ => false) (v := fun d => match d with | .int i => v i.toNat | _ => .non) (by rw [rangeL_len]; exact hz) fun d hd => by
    unfold rangeL at hd
    obtain ⟨i, hi, e⟩ := List.mem_map.mp hd
    subst e
    have e1 : (0 : Int) + (i : Nat) * 1 = ((i : Nat) : Int) := by omega
    have := H i (by simpa using hi)
    simp only [e1, Int.toNat_natCast]
    exact ⟨rfl, this.1, this.2⟩
  rw [this]
  unfold rangeL
  rw [List.filter_map, List.map_map]
  congr 5
  · funext i
    show v ((0 : Int) + (i : Nat) * 1).toNat = v i
    rw [show ((0 : Int) + (i : Nat) * 1).toNat = i by omega]
  · congr 1
    funext i
    show q ((0 : Int) + (i : Nat) * 1).toNat = q i
    rw [show ((0 : Int) + (i : Nat) * 1).toNat = i by omega]
/-- over ints -/
theorem lcK_intF {is : List Int} (q : Int → Bool) (hz : is.length ≤ 100000) (H : ∀ i ∈ is, tt ((wipeE env [k]).set k (.v (.int i))) h = some (q i, h)) (hk : ∀ i, te ((wipeE env [k]).set k (.v (.int i))) h = some (.d (.int i), h)) :
    lcK [k] (gNm k) tt te env (is.map .int) h = some (.l (.lst ((is.filter q).map .int)), h) := by
  have := lcK_filter (vs := [k]) (g := gNm k) (tt := tt) (te := te) (env := env) (h := h) (ds := is.map .int) (E := fun d => (wipeE env [k]).set k (.v d)) (q := fun d => match d with | .int i => q i | _ => false) (v := fun d => d) (by rw [List.length_map]; exact hz) fun d hd => by
    obtain ⟨i, hi, e⟩ := List.mem_map.mp hd
    subst e
    exact ⟨rfl, H i hi, fun _ => hk i⟩
  rw [this, List.filter_map, List.map_map]
  rfl
theorem rolN {hs : List (List Nat)} {i : Nat} (hi : i < hs.length) : gIx (.d (.rol (hs.map .str))) (.d (.int (i : Nat))) h = some (.d (.str (hs.getD i [])), h) := by
  have : atI (hs.map D.str) (((i : Nat) : Int)) = some (.str (hs.getD i [])) := by
    rw [atI_nat (by simpa using hi), List.getElem?_map, List.getElem?_eq_getElem hi]
    simp [List.getD, hi]
  exact gIx_sq (x := .d (.rol (hs.map .str))) rfl (fun z e => by cases e) this
theorem flD_strs : ∀ ls : List (List Nat), (ls.map D.str).all flD = true
  | [] => rfl
  | x :: ls => by rw [List.map_cons, List.all_cons, flD_strs ls]; rfl
theorem flD_ints : ∀ ls : List Int, (ls.map D.int).all flD = true
  | [] => rfl
  | x :: ls => by rw [List.map_cons, List.all_cons, flD_ints ls]; rfl
theorem inF_strs {w : List Nat} : ∀ ls : List (List Nat), inF (.str w) (ls.map .str) = ls.contains w
  | [] => rfl
  | x :: ls => by
    rw [List.map_cons, inF_cons, inF_strs ls, List.contains_cons]
    rw [show (w == x) = (x == w) from BEq.comm]
theorem inF_ints {w : Int} : ∀ ls : List Int, inF (.int w) (ls.map .int) = ls.contains w
  | [] => rfl
  | x :: ls => by
    show (eqF (.int x) (.int w) || inF (.int w) (ls.map .int)) = _
    rw [inF_ints ls, List.contains_cons]
    rw [show eqF (.int x) (.int w) = (x == w) from rfl, show (w == x) = (x == w) from BEq.comm]
theorem strIn {w : List Nat} {ls : List (List Nat)} : gInN false (.d (.str w)) (.l (.lst (ls.map .str))) h = some (.d (.bl (ls.contains w)), h) := by
  rw [gIn_lst (flD_strs ls), inF_strs]
theorem intIn_b {w : Int} {ls : List Int} : gInN false (.d (.int w)) (.b (.lst (ls.map .int))) h = some (.d (.bl (ls.contains w)), h) := by
  rw [gIn_sq (x := .b (.lst (ls.map .int))) (ds := ls.map .int) rfl rfl (flD_ints ls) (fun _ e => by cases e), inF_ints]
theorem intNi {w : Int} {ls : List Int} : gInN true (.d (.int w)) (.d (.rol (ls.map .int))) h = some (.d (.bl (!ls.contains w)), h) := by
  have e : gInN true (.d (.int w)) (.d (.rol (ls.map .int))) h = if flD (.int w) && (ls.map D.int).all flD then some (.d (.bl (!inF (.int w) (ls.map .int))), h) else none := rfl
  rw [e, flD_ints ls, inF_ints]
  rfl
end
end F
/-! F28: x.bit_length(); o.extend(e), o a list of the heap. -/
namespace F
open PySem PySem.Spec PyProof.Rows L2
def gBits : RV → Hs → Option (RV × Hs)
  | .d (.int i), h => some (.d (.int ((Builtin.Int.intBits i : Nat) : Int)), h)
  | _, _ => none
def dExtR (fo f : DE) : DS := fun env h => match fo env h with
  | some (.d (.ref n), h1) => match h1[n]? with
    | some (.lst _) => match f env h1 with
      | some (rv, h2) => match lvT rv h2 with
        | some es => match h2[n]? with
          | some (.lst ds) => if ds.length + es.length ≤ sizeLine then some (.nx env (h2.set n (.lst (ds ++ es)))) else none
          | _ => none
        | none => none
      | none => none
    | _ => none
  | _ => none
section
variable {Γ : G} {pos apos cpos p : Pos} {e o : Expr} {f fo : DE}
theorem se_bits (ho : SE Γ o fo) (hbase : ∀ env, attributeBase o "bit_length" env (eval o env) = eval o env := by intro _; rfl) (hline : (apos.endLine == pos.line) = true := by rfl) : SE Γ (.Call (.Attribute o "bit_length" apos) [] [] pos) (eU gBits fo) := fun X c =>
  PE.imp (pe_bits (ho X c) (hbase _) hline) fun σ H Q q => by
    obtain ⟨α, O, h, env, hr, sr, rv, h', e, k⟩ := q
    unfold eU at e
    split at e
    · rename_i x1 h1 e1
      refine ⟨α, O, h, env, hr, sr, x1, h1, e1, fun α1 H1 x s1 o1 => ?_⟩
      unfold gBits at e
      split at e
      · cases e
        exact ⟨_, o1.isD.int_eq, k α1 H1 _ s1 (.d o1.hr R.int_mk)⟩
      · cases e
    · cases e
theorem s1_extR (ho : SE Γ o fo) (he : SE Γ e f) (hbase : ∀ env, attributeBase o "extend" env (eval o env) = eval o env := by intro _; rfl)
    (hfew : ∀ env, ((backTo cpos (starEach [e] env)).all (fun x => !x.1) && (backToKw cpos (keywordEach [] env)).all (fun x => x.1.isSome)
      && decide (([e] : List Expr).length + ([] : List Keyword).length + (if ([] : List Keyword).isEmpty then 0 else 1) < 30)) = true := by intro _; rfl)
    (hline : (apos.endLine == cpos.line) = true := by rfl) (hs : ∀ env, starEach [e] env = (false, eval e env) :: starEach [] env := by intro _; rfl) (hplain : ∀ env, (backTo cpos (starEach [] env)).any (·.1) = false := by intro _; rfl)
    (hsw : ∀ env, swapsWith (.Call (.Attribute o "extend" apos) [e] [] cpos) none pos.line env = pure false := by intro _; rfl) :
    S1 Γ (.Expr (.Call (.Attribute o "extend" apos) [e] [] cpos) pos) (dExtR fo f) := fun X c B =>
  PS.imp (ps_expr (pe_bm PySem.F.plainAttrs_list PySem.F.slot_list_extend PySem.F.type_list_extend mt_extend (ho X c) (pa_cons (he X c) pa_nil (hs _)) (hbase _) (hfew _) hline (hs _) (hplain _)) (hsw _)) fun D σ H q => by
    obtain ⟨α, O, h, env, hr, sr, br, o, e, k⟩ := q
    unfold dExtR at e
    split at e
    · rename_i n h1 e1
      split at e
      · rename_i es0 e2
        split at e
        · rename_i rv h2 e3
          split at e
          · rename_i es el
            split at e
            · rename_i ds e4
              split at e
              · rename_i hz
                cases e
                refine ⟨α, O, h, env, hr, sr, _, h1, e1, fun α1 H1 x s1 o1 => ?_⟩
                obtain ⟨a, e5, e6, xs, e7, rl⟩ := o1.isD.ref_cell o1.hr e2
                subst e5
                refine ⟨.inl ⟨rfl, xs, sqL_some e7⟩, ?_⟩
                refine ⟨α1, O, h1, env, o1.hr, sr.stp hr s1, _, h2, e3, fun α2 H2 y s2 o2 => ?_⟩
                have e8 := s2.pre n a e6
                obtain ⟨ys, e9, rl2⟩ := o2.hr.cell n _ a e4 e8
                obtain ⟨b, zs, ey, eb, rz⟩ := lvT_eq o2.hr o2.at_ el
                subst ey
                refine ⟨a, b, ys, zs, rfl, rfl, e9, eb, by rw [← rl2.length, ← rz.length]; exact hz, ?_⟩
                have s3 : Stp α2 H2 α2 (L2.upd H2 a (.lst (ys ++ zs))) := ⟨fun b u eb m => by rw [upd_ne (fun zz : b = a => m (zz ▸ List.mem_of_getElem? e8))]; exact eb, fun _ _ e => e, fun _ m => .inl m⟩
                obtain ⟨w1, w2⟩ := wrR (c := .lst (ds ++ es)) (o := .lst (ys ++ zs)) o2.hr e8 ⟨_, upd_same, RL.mv s3.mv _ _ (rl2.app rz)⟩
                have s4 := s1.trans (s2.trans w2)
                exact k α2 O _ σ w1 (sr.stp hr s4) (br.stp hr w1 s4)
              · cases e
            · cases e
          · cases e
        · cases e
      · cases e
    · cases e
end
theorem gBits_int {i : Int} {h : Hs} : gBits (.d (.int i)) h = some (.d (.int ((Builtin.Int.intBits i : Nat) : Int)), h) := rfl
def extC (n : Nat) (env : Env) (h : Hs) (es : List D) : Option SOut := match h[n]? with
  | some (.lst ds) => if ds.length + es.length ≤ sizeLine then some (.nx env (h.set n (.lst (ds ++ es)))) else none
  | _ => none
theorem extC_e {n : Nat} {env : Env} {h : Hs} {ds es : List D} (e : h[n]? = some (.lst ds)) (hz : ds.length + es.length ≤ 100000) : extC n env h es = some (.nx env (h.set n (.lst (ds ++ es)))) := by
  unfold extC
  rw [e]
  exact if_pos (Nat.le_trans hz (by decide))
theorem dExtR_e {fo f : DE} {env : Env} {h : Hs} : dExtR fo f env h = bd (fo env h) fun p => rfK (fun n => match p.2[n]? with
    | some (.lst _) => bd (f env p.2) fun q => bd (lvT q.1 q.2) fun es => extC n env q.2 es
    | _ => none) p.1 := by
  unfold dExtR
  cases fo env h with
  | none => rfl
  | some p =>
    obtain ⟨x, h1⟩ := p
    cases x with
    | l c => rfl
    | b c => rfl
    | d d =>
      cases d with
      | ref n =>
        simp only [bd_some, rfK_e]
        cases h1[n]? with
        | none => rfl
        | some c =>
          cases c with
          | dct _ => rfl
          | lst ds =>
            simp only
            cases f env h1 with
            | none => rfl
            | some q =>
              obtain ⟨y, h2⟩ := q
              simp only [bd_some]
              cases lvT y h2 with
              | none => rfl
              | some es => rfl
      | _ => rfl
end F
/-! F29: range with a step; a def's new lists of lists, frozen where they are handed out. -/
namespace F
open PySem PySem.Spec PyProof.Rows L2
def mapO (g : D → Option D) : List D → Option (List D)
  | [] => some []
  | d :: r => match g d, mapO g r with
    | some x, some y => some (x :: y)
    | _, _ => none
/-- cells made since become lists that never change -/
def frzD (h : Hs) (L : Nat) : Nat → D → Option D
  | 0, _ => none
  | f + 1, d => match d with
    | .ref n => if n < L then some (.ref n) else match h[n]? with
      | some (.lst ds) => (mapO (frzD h L f) ds).map .rol
      | _ => none
    | .tup ds => (mapO (frzD h L f) ds).map .tup
    | .rol ds => (mapO (frzD h L f) ds).map .rol
    | .scr ds => none
    | d => some d
theorem mapO_R {K : PySem.W.Frag} {α β : List Addr} {O : Addr → Prop} {H : Hp} {g : D → Option D} (hg : ∀ d d' x, g d = some d' → R K α O H d x → R K β O H d' x) : ∀ {ds ds' : List D} {xs : List V}, mapO g ds = some ds' → RL K α O H ds xs → RL K β O H ds' xs
  | [], ds', xs, e, r => by
    cases e
    rw [r.invN]; exact RL.nil
  | d :: ds, ds', xs, e, r => by
    obtain ⟨x, q, ex, r1, r2⟩ := r.inv
    unfold mapO at e
    split at e
    · rename_i y ys e1 e2
      cases e
      subst ex
      exact RL.cons (hg _ _ _ e1 r1) (mapO_R hg e2 r2)
    · cases e
theorem frzD_R {K : PySem.W.Frag} {α : List Addr} {O : Addr → Prop} {H : Hp} {h : Hs} {L : Nat} (hr : HRel K α O H h) : ∀ (f : Nat) (d d' : D) (x : V), frzD h L f d = some d' → R K α O H d x → R K (α.take L) O H d' x
  | 0, d, d', x, e, r => by cases e
  | f + 1, d, d', x, e, r => by
    have ih := frzD_R hr f (L := L)
    unfold frzD at e
    split at e
    · rename_i n
      split at e
      · rename_i hn
        cases e
        exact R.cut _ _ (by simp only [bel]; exact decide_eq_true hn) r
      · rename_i hn
        split at e
        · rename_i ds e1
          cases e2 : mapO (frzD h L f) ds with
          | none => rw [e2] at e; cases e
          | some ds' =>
            rw [e2] at e
            cases e
            simp only [R] at r
            obtain ⟨a, ex, ea⟩ := r
            obtain ⟨xs, e3, rl⟩ := hr.cell n _ a e1 ea
            simp only [R]
            refine ⟨a, xs, ex, ⟨e3, fun m => ?_, hr.dis a (List.mem_of_getElem? ea)⟩, mapO_R ih e2 rl⟩
            obtain ⟨i, hi, e4⟩ := List.getElem_of_mem m
            have e5 : (α.take L)[i]? = some a := by rw [List.getElem?_eq_getElem hi, e4]
            have hiL : i < L := by simp at hi; omega
            rw [List.getElem?_take_of_lt hiL] at e5
            have := nodup_inj hr.nd e5 ea
            omega
        · cases e
    · rename_i ds
      cases e2 : mapO (frzD h L f) ds with
      | none => rw [e2] at e; cases e
      | some ds' =>
        rw [e2] at e
        cases e
        simp only [R] at r ⊢
        obtain ⟨a, xs, ex, p, q⟩ := r
        exact ⟨a, xs, ex, p.imp (fun z => ⟨z.1, fun m => z.2.1 (List.mem_of_mem_take m), z.2.2⟩) id, mapO_R ih e2 q⟩
    · rename_i ds
      cases e2 : mapO (frzD h L f) ds with
      | none => rw [e2] at e; cases e
      | some ds' =>
        rw [e2] at e
        cases e
        simp only [R] at r ⊢
        obtain ⟨a, xs, ex, p, q⟩ := r
        exact ⟨a, xs, ex, ⟨p.1, fun m => p.2.1 (List.mem_of_mem_take m), p.2.2⟩, mapO_R ih e2 q⟩
    · cases e
    · rename_i n1 n2 n3 n4
      cases e
      cases d with
      | non => simpa only [R] using r
      | bl b => simpa only [R] using r
      | int i => simpa only [R] using r
      | str s => simpa only [R] using r
      | tup ds => exact absurd rfl (n2 ds)
      | rol ds => exact absurd rfl (n3 ds)
      | scr ds => exact absurd rfl (n4 ds)
      | ref n => exact absurd rfl (n1 n)
def KeepOk (h h' : Hs) : Prop := ∀ (i : Nat) c, i < h.length → h'[i]? = some c → h[i]? = some c ∨ cbel h.length c = true
open Classical in
/-- a def of which the new lists are frozen where it hands them out -/
noncomputable def fzM (m : Mir) : Mir := fun ds h => match m ds h with
  | some (.d d, h') => match frzD h' h.length 5 d with
    | some d' => if KeepOk h h' then some (.d d', h'.take h.length) else none
    | none => none
  | _ => none
theorem fz_rel {K : PySem.W.Frag} {α α' : List Addr} {O : Addr → Prop} {H H' : Hp} {h h' : Hs} {d d' : D} {x : V} (r : HRel K α O H h) (s : Stp α H α' H') (o : VOk K O H α' H' h' (.d d) x) (g2 : KeepOk h h') (e : frzD h' h.length 5 d = some d') : ∃ α'', Stp α H α'' H' ∧ VOk K O H α'' H' (h'.take h.length) (.d d') x := by
  have le := gc_le s r o.hr
  have cb : ∀ (i : Nat) c, i < h.length → h'[i]? = some c → F.cbel h.length c = true := fun i c hi e => by
    rcases g2 i c hi e with z | z
    · have hi' : i < α.length := by rw [r.len]; exact hi
      have ha : α[i]? = some α[i] := List.getElem?_eq_getElem hi'
      rw [← r.len]
      exact (r.cell i c _ z ha).cbel
    · exact z
  refine ⟨α'.take h.length, ⟨s.fr, fun i a e => ?_, fun a m => s.new a (List.mem_of_mem_take m)⟩, ?_⟩
  · have hi := (List.getElem?_eq_some_iff.mp e).1
    rw [List.getElem?_take_of_lt (by rw [← r.len]; exact hi)]
    exact s.pre i a e
  · cases o with
    | d r' q => exact .d (r'.cut le cb) (frzD_R r' 5 d d' x e q)
theorem spM_fz {K : PySem.W.Frag} {n : Nat} {m : Mir} {vs : List V} {H : Hp} {Q : V → Hp → Prop} {E : _} (q : spM K n (fzM m) vs H Q E) : spM K n m vs H Q E := by
  obtain ⟨α, O, h, ds, hr, rl, hl, rv, h', e, nb, k⟩ := q
  unfold fzM at e
  split at e
  · rename_i d h1 e1
    split at e
    · rename_i d' e2
      split at e
      · rename_i g
        cases e
        refine ⟨α, O, h, ds, hr, rl, hl, _, h1, e1, (fun c z => by cases z), fun α' H' x s o => ?_⟩
        obtain ⟨α'', s2, o2⟩ := fz_rel hr s o g e2
        exact k α'' H' x s2 o2
      · cases e
    · cases e
  · cases e
theorem FnAt.fz {g : GG} {k : Nat} {x : Str} {ps : List Str} {m : Mir} (F : FnAt g k x ps m) : FnAt g k x ps (fzM m) := by
  obtain ⟨f, fd, a, b, c, d⟩ := F.ex
  exact ⟨f, fd, a, b, c, d.imp fun vs H Q E q => spM_fz q⟩
theorem KwAt.fz {g : GG} {k : Nat} {x : Str} {ps : List Str} {n : Nat} {ks : List Str} {ix : List Nat} {m : Mir} (F : KwAt g k x ps n ks ix m) : KwAt g k x ps n ks ix (fzM m) := by
  obtain ⟨f, fd, a, b, c, d⟩ := F.ex
  exact ⟨f, fd, a, b, c, d.imp fun vs H Q E q => spM_fz q⟩
theorem fzM_e {m : Mir} {ds : List D} {h h' : Hs} {d d' : D} (e : m ds h = some (.d d, h')) (f : frzD h' h.length 5 d = some d') (k : ∀ i, i < h.length → h'[i]? = h[i]?) : fzM m ds h = some (.d d', h) := by
  have t : h'.take h.length = h := by
    refine List.ext_getElem? fun i => ?_
    by_cases hi : i < h.length
    · rw [List.getElem?_take_of_lt hi, k i hi]
    · rw [List.getElem?_eq_none (by simp; omega), List.getElem?_eq_none (by omega)]
  unfold fzM
  simp only [e, f]
  have g : KeepOk h h' := fun i c hi ec => .inl (by rw [← k i hi]; exact ec)
  rw [if_pos g, t]
/-- range with a step -/
def iR3s (f : DA) : DI := fun env h => match f env h with
  | some ([.d (.int i), .d (.int j), .d (.int c)], h1) => if c ≠ 0 ∧ c.natAbs < 1073741824 ∧ Builtin.Range.small i j c = true ∧ Builtin.Range.rangeSize i j c = (Builtin.Range.rangeSize i j c).toNat then some (rangeL i c (Builtin.Range.rangeSize i j c).toNat, h1) else none
  | _ => none
section
variable {Γ : G} {pos p : Pos} {tg a b c : Expr} {fa : DA}
theorem si_range3 (hm : Γ.g.mg ("range" : Str) = none) (ha : SA Γ [a, b, c] fa) (hg : Γ.sc.names.lookup ("range" : Str) = some .globalImplicit := by rfl) (hs : ∀ env, starEach [a, b, c] env = (false, eval a env) :: starEach [b, c] env := by intro _; rfl) (hpl : ∀ env, (backTo pos (starEach [b, c] env)).any (·.1) = false := by intro _; rfl) :
    SI Γ tg (.Call (.Name "range" p) [a, b, c] [] pos) (iR3s fa) := fun X cc =>
  PI.imp (pi_range3 (Gl.of cc hg) (by rw [cc.mg]; exact hm) (ha X cc) (hs _) (hpl _)) fun σ H R q => by
    obtain ⟨α, O, h, env, hr, sr, ds, h', e, k⟩ := q
    unfold iR3s at e
    split at e
    · rename_i i j c h1 e1
      split at e
      · rename_i hb
        cases e
        refine ⟨α, O, h, env, hr, sr, _, _, e1, fun α1 H1 xs s1 r1 o1 => ?_⟩
        obtain ⟨x, y, z, ex, o, o', o''⟩ := VAts3 o1
        exact ⟨i, j, c, _, by rw [ex, o.isD.int_eq, o'.isD.int_eq, o''.isD.int_eq], ⟨hb.1, hb.2.1, hb.2.2.1, hb.2.2.2⟩, k α1 H1 _ s1 r1 itok_range3⟩
      · cases e
    · cases e
end
end F
/-! F30: equality of data that hold lists of the heap (one level). -/
namespace F
open PySem PySem.Spec PyProof.Rows L2
mutual
def rsD (h : Hs) : D → D
  | .ref i => match h[i]? with
    | some (.lst ds) => .rol ds
    | _ => .non
  | .tup ds => .tup (rsDs h ds)
  | .rol ds => .rol (rsDs h ds)
  | d => d
def rsDs (h : Hs) : List D → List D
  | [] => []
  | d :: ds => rsD h d :: rsDs h ds
end
mutual
def okR (h : Hs) : Nat → D → Bool
  | n, .ref i => match h[i]? with
    | some (.lst ds) => dOk n (.rol ds)
    | _ => false
  | n + 1, .tup ds => okRs h n ds
  | n + 1, .rol ds => okRs h n ds
  | _, .tup _ => false
  | _, .rol _ => false
  | _, .scr _ => false
  | n, d => dOk n d
def okRs (h : Hs) : Nat → List D → Bool
  | _, [] => true
  | n, d :: ds => okR h n d && okRs h n ds
end
mutual
theorem tP_rs {h : Hs} {f : Nat} : ∀ (n : Nat) (d : D), okR h n d = true → tP (tPh h (f + 1)) d = some (toP (rsD h d)) ∧ dOk n (rsD h d) = true
  | n, .non, _ => by cases n <;> simp only [tP, rsD, toP, dOk, and_self]
  | n, .bl b, _ => by cases n <;> simp only [tP, rsD, toP, dOk, and_self]
  | n, .int i, _ => by cases n <;> simp only [tP, rsD, toP, dOk, and_self]
  | n, .str s, e => by
    simp only [okR] at e
    simp only [tP, rsD, toP, e, and_self]
  | 0, .tup ds, e => by simp only [okR] at e; cases e
  | 0, .rol ds, e => by simp only [okR] at e; cases e
  | n, .scr ds, e => by cases n <;> (simp only [okR] at e; cases e)
  | n + 1, .tup ds, e => by
    simp only [okR] at e
    obtain ⟨h1, h2⟩ := tPs_rs (f := f) n ds e
    simp only [tP, rsD, toP, h1, dOk, h2, and_self]
  | n + 1, .rol ds, e => by
    simp only [okR] at e
    obtain ⟨h1, h2⟩ := tPs_rs (f := f) n ds e
    simp only [tP, rsD, toP, h1, dOk, h2, and_self]
  | n, .ref i, e => by
    simp only [okR] at e
    cases hi : h[i]? with
    | none => rw [hi] at e; cases e
    | some c =>
      rw [hi] at e
      cases c with
      | dct _ => cases e
      | lst ds =>
        simp only at e
        refine ⟨?_, by simp only [rsD, hi, e]⟩
        cases n with
        | zero => simp only [dOk] at e; cases e
        | succ n =>
          simp only [dOk] at e
          simp only [tP, rsD, hi, toP, tPh, tPs_toPs n ds e]
theorem tPs_rs {h : Hs} {f : Nat} : ∀ (n : Nat) (ds : List D), okRs h n ds = true → tPs (tPh h (f + 1)) ds = some (toPs (rsDs h ds)) ∧ dOks n (rsDs h ds) = true
  | n, [], _ => by simp only [tPs, rsDs, toPs, dOks, and_self]
  | n, d :: ds, e => by
    simp only [okRs, Bool.and_eq_true] at e
    obtain ⟨h1, h2⟩ := tP_rs (f := f) n d e.1
    obtain ⟨h3, h4⟩ := tPs_rs (f := f) n ds e.2
    simp only [tPs, rsDs, toPs, h1, h3, dOks, h2, h4, Bool.and_self, and_self]
end
theorem tR_rs {rv : RV} {d : D} {h : Hs} {n : Nat} (e : rvD rv = some d) (hd : okR h n d = true) : tR h rv = some (toP (rsD h d)) := by
  have go := tP_rs (f := 3) n d hd
  unfold rvD at e
  split at e
  · cases e; exact go.1
  · cases e
    rename_i ds
    have g := go.1
    simp only [tP] at g
    simp only [tR]
    cases hh : tPs (tPh h 4) ds with
    | none => rw [hh] at g; cases g
    | some ps => rw [hh] at g; exact g
  · cases e
    rename_i ds
    have g := go.1
    simp only [tP] at g
    simp only [tR]
    cases hh : tPs (tPh h 4) ds with
    | none => rw [hh] at g; cases g
    | some ps => rw [hh] at g; exact g
  · cases e
/-- x against the empty list -/
theorem gEq_nilR {ng : Bool} {x : RV} {d : D} {h : Hs} (hx : rvD x = some d) (n : Nat) (hd : okR h n d = true) (hn : n ≤ 64 := by decide) (h0 : 1 ≤ n := by decide) : gEqN ng x (.l (.lst [])) h = some (.d (.bl (if ng then !eqD (rsD h d) (.rol []) else eqD (rsD h d) (.rol []))), h) := by
  obtain ⟨m, rfl⟩ : ∃ m, n = m + 1 := ⟨n - 1, by omega⟩
  have hd2 := (tP_rs (f := 3) (m + 1) d hd).2
  have he : dOk (m + 1) (.rol []) = true := by simp only [dOk, dOks]
  have go : gEqX ng x (.l (.lst [])) h = some (.d (.bl (if ng then !eqD (rsD h d) (.rol []) else eqD (rsD h d) (.rol []))), h) := by
    unfold gEqX
    have l1 := lay_toP (m + 1) _ hd2
    have l2 := lay_toP (m + 1) _ he
    have ey : tR h (.l (.lst [])) = some (toP (.rol [])) := tR_rol (n := m + 1) rfl he
    simp only [tR_rs hx hd, ey, eqv_toP (m + 1) _ _ hd2 he]
    have s1 : SeqAt.shaped (toP (rsD h d)) = true := by unfold SeqAt.shaped; rw [l1.1]; simp; omega
    have s2 : SeqAt.shaped (toP (.rol [])) = true := by unfold SeqAt.shaped; rw [l2.1]; simp; omega
    rw [s1, s2]
    rfl
  cases x with
  | d x => exact go
  | l c => exact go
  | b c => exact go
end F
/-! F31: append to long lists; an equation for append to a list of the heap. -/
namespace F
open PySem PySem.Spec PyProof.Rows L2
theorem appS_big {i : Nat} {env : Env} {h : Hs} {ds : List D} {d : D} (hz : ds.length ≤ 100000) : appS i env h ds d = some (.nx (env.set i (.c (.lst (ds ++ [d])))) h) := if_pos (Nat.lt_of_le_of_lt hz (by decide))
theorem wp_appL {i : Nat} {env : Env} {h : Hs} {ds : List D} {d : D} {Q : Ho SOut} (hz : ds.length ≤ 100000) (q : Q.q (.nx (env.set i (.c (.lst (ds ++ [d])))) h)) : @wp _ (appS i env h ds d) Q := ⟨_, appS_big hz, q⟩
def appC (n : Nat) (env : Env) (h : Hs) (d : D) : Option SOut := match h[n]? with
  | some (.lst ds) => if ds.length < sizeLine then some (.nx env (h.set n (.lst (ds ++ [d])))) else none
  | _ => none
theorem appC_e {n : Nat} {env : Env} {h : Hs} {ds : List D} {d : D} (e : h[n]? = some (.lst ds)) (hz : ds.length ≤ 100000) : appC n env h d = some (.nx env (h.set n (.lst (ds ++ [d])))) := by
  unfold appC
  rw [e]
  exact if_pos (Nat.lt_of_le_of_lt hz (by decide))
def lsK {A : Type} (k : Option A) : Option Cell → Option A
  | some (.lst _) => k
  | _ => none
theorem lsK_e {A : Type} {k : Option A} {ds : List D} : lsK k (some (.lst ds)) = k := rfl
theorem dAppR_e {fo f : DE} {env : Env} {h : Hs} : dAppR fo f env h = bd (fo env h) fun p => rfK (fun n => lsK (bd (f env p.2) fun q => dK (fun d => appC n env q.2 d) q.1) p.2[n]?) p.1 := by
  unfold dAppR
  cases fo env h with
  | none => rfl
  | some p =>
    obtain ⟨x, h1⟩ := p
    cases x with
    | l c => rfl
    | b c => rfl
    | d d =>
      cases d with
      | ref n =>
        simp only [bd_some, rfK_e]
        cases h1[n]? with
        | none => rfl
        | some c =>
          cases c with
          | dct _ => rfl
          | lst ds =>
            simp only [lsK_e]
            cases f env h1 with
            | none => rfl
            | some q =>
              obtain ⟨y, h2⟩ := q
              cases y <;> rfl
      | _ => rfl
end F
/-! F32: a < b < c < d. -/
namespace F
open PySem PySem.Spec PyProof.Rows L2
/-- three comparisons in a row, as demands -/
def tCh3 (r1 r2 r3 : R2) (ta tb tc td : TE) : TE := fun σ H Q =>
  ta σ H fun x H1 => tb σ H1 fun y H2 => r1 x y H2 fun z H3 => ∃ k, z = .bl k ∧ (if k = true then
    tc σ H3 fun w H4 => r2 y w H4 fun z2 H5 => ∃ k2, z2 = .bl k2 ∧ (if k2 = true then td σ H5 fun u H6 => r3 w u H6 Q else Q (.bl false) H5)
    else Q (.bl false) H3)
theorem pe_ch3 {X : Cx} {a b c d : Expr} {ta tb tc td : TE} {pos : Pos} {op1 op2 op3 : CmpOp} {r1 r2 r3 : R2} (h1 : OpR X (compareOp op1) r1) (h2 : OpR X (compareOp op2) r2) (h3 : OpR X (compareOp op3) r3)
    (ha : PE X a ta) (hb : PE X b tb) (hc : PE X c tc) (hd : PE X d td) (hm : lastMarks [op1, op2, op3] [b, c, d] = false := by with_unfolding_all rfl) :
    PE X (.Compare a [op1, op2, op3] [b, c, d] pos) (tCh3 r1 r2 r3 ta tb tc td) := ⟨fun pins s σ H Q inv q => by
  apply Compare_chain _ hm
  apply thn (ha.run pins s σ H _ inv q)
  rintro va sa ⟨xa, Ha, ia, ra, q⟩
  apply chain_link
  apply thn (hb.run pins sa σ Ha _ ia q)
  rintro vb sb ⟨xb, Hb, ib, rb, q⟩
  apply thn (h1 pins sb σ Hb xa xb va vb _ ib ra rb q)
  rintro v1 s1 ⟨y1, H1, i1, e1, k, rfl, q⟩
  cases e1
  apply wpAny_truthy_bool
  cases k
  · exact ite_ff ⟨.bl false, H1, i1, rfl, q⟩
  apply ite_tt
  apply chain_link
  apply thn (hc.run pins s1 σ H1 _ i1 q)
  rintro vc sc ⟨xc, Hc, ic, rc, q⟩
  apply thn (h2 pins sc σ Hc xb xc vb vc _ ic rb rc q)
  rintro v2 s2 ⟨y2, H2, i2, e2, k2, rfl, q⟩
  cases e2
  apply wpAny_truthy_bool
  cases k2
  · exact ite_ff ⟨.bl false, H2, i2, rfl, q⟩
  apply ite_tt
  apply chain_last
  apply thn (hd.run pins s2 σ H2 _ i2 q)
  rintro vd sd ⟨xd, Hd, id', rd, q⟩
  exact h3 pins sd σ Hd xc xd vc vd Q id' rc rd q⟩
def eCh3 (g1 g2 g3 : RV → RV → Hs → Option (RV × Hs)) (fa fb fc fd : DE) : DE := fun env h => match fa env h with
  | some (x, h1) => match fb env h1 with
    | some (y, h2) => match g1 x y h2 with
      | some (.d (.bl true), h3) => match fc env h3 with
        | some (z, h4) => match g2 y z h4 with
          | some (.d (.bl true), h5) => match fd env h5 with
            | some (u, h6) => g3 z u h6
            | none => none
          | some (.d (.bl false), h5) => some (.d (.bl false), h5)
          | _ => none
        | none => none
      | some (.d (.bl false), h3) => some (.d (.bl false), h3)
      | _ => none
    | none => none
  | none => none
section
variable {Γ : G} {pos : Pos} {a b c d : Expr} {fa fb fc fd : DE} {g1 g2 g3 : RV → RV → Hs → Option (RV × Hs)} {r1 r2 r3 : R2}
theorem tCh3_imp {K : PySem.W.Frag} (o1 : OpS K r1 g1) (o2 : OpS K r2 g2) (o3 : OpS K r3 g3) {σ : St} {H : Hp} {Q : VK} (q : tE K (eCh3 g1 g2 g3 fa fb fc fd) σ H Q) : tCh3 r1 r2 r3 (tE K fa) (tE K fb) (tE K fc) (tE K fd) σ H Q := by
  obtain ⟨α, O, h, env, hr, sr, rv, h', e, k⟩ := q
  unfold eCh3 at e
  split at e
  · rename_i x ha ea
    split at e
    · rename_i y hb eb
      refine ⟨α, O, h, env, hr, sr, x, ha, ea, fun αa Ha xa sa va => ?_⟩
      have sra := sr.stp hr sa
      refine ⟨αa, O, ha, env, va.hr, sra, y, hb, eb, fun αb Hb xb sb vb => ?_⟩
      have srb := sra.stp va.hr sb
      split at e
      · rename_i hc1 ec1
        split at e
        · rename_i z hz ez
          refine o1 αb O Hb hb xa xb x y _ hc1 _ vb.hr (va.at_.stp sb) vb.at_ ec1 fun w α1 H1 s1 v1 => ?_
          refine ⟨true, v1.isD.bl_eq, iteT ?_⟩
          have src := srb.stp vb.hr s1
          refine ⟨α1, O, hc1, env, v1.hr, src, z, hz, ez, fun αz Hz xz sz vz => ?_⟩
          have srz := src.stp v1.hr sz
          split at e
          · rename_i h5 e5
            split at e
            · rename_i u hu eu
              refine o2 αz O Hz hz xb xz y z _ h5 _ vz.hr (vb.at_.stp (s1.trans sz)) vz.at_ e5 fun w2 α5 H5 s5 v5 => ?_
              refine ⟨true, v5.isD.bl_eq, iteT ?_⟩
              refine ⟨α5, O, h5, env, v5.hr, srz.stp vz.hr s5, u, hu, eu, fun αu Hu xu su vu => ?_⟩
              refine o3 αu O Hu hu xz xu z u rv h' Q vu.hr (vz.at_.stp (s5.trans su)) vu.at_ e fun w3 α6 H6 s6 v6 => ?_
              exact k α6 H6 w3 (sa.trans (sb.trans (s1.trans (sz.trans (s5.trans (su.trans s6)))))) (v6.back (sa.trans (sb.trans (s1.trans (sz.trans (s5.trans su))))) vu.hr)
            · cases e
          · rename_i h5 e5
            cases e
            refine o2 αz O Hz hz xb xz y z _ _ _ vz.hr (vb.at_.stp (s1.trans sz)) vz.at_ e5 fun w2 α5 H5 s5 v5 => ?_
            refine ⟨false, v5.isD.bl_eq, iteF ?_⟩
            exact k α5 H5 _ (sa.trans (sb.trans (s1.trans (sz.trans s5)))) (.d v5.hr R.bl_mk)
          · cases e
        · cases e
      · rename_i hc1 ec1
        cases e
        refine o1 αb O Hb hb xa xb x y _ _ _ vb.hr (va.at_.stp sb) vb.at_ ec1 fun w α1 H1 s1 v1 => ?_
        refine ⟨false, v1.isD.bl_eq, iteF ?_⟩
        exact k α1 H1 _ (sa.trans (sb.trans s1)) (.d v1.hr R.bl_mk)
      · cases e
    · cases e
  · cases e
theorem se_ch3 {op1 op2 op3 : CmpOp} (h1 : ∀ X, Γ.At X → OpR X (compareOp op1) r1) (o1 : OpS Γ.g.K r1 g1) (h2 : ∀ X, Γ.At X → OpR X (compareOp op2) r2) (o2 : OpS Γ.g.K r2 g2) (h3 : ∀ X, Γ.At X → OpR X (compareOp op3) r3) (o3 : OpS Γ.g.K r3 g3)
    (ha : SE Γ a fa) (hb : SE Γ b fb) (hc : SE Γ c fc) (hd : SE Γ d fd) (hm : lastMarks [op1, op2, op3] [b, c, d] = false := by with_unfolding_all rfl) : SE Γ (.Compare a [op1, op2, op3] [b, c, d] pos) (eCh3 g1 g2 g3 fa fb fc fd) := fun X cc =>
  PE.imp (pe_ch3 (h1 X cc) (h2 X cc) (h3 X cc) (ha X cc) (hb X cc) (hc X cc) (hd X cc) hm) fun σ H Q q => tCh3_imp o1 o2 o3 q
end
theorem eCh3_e {g1 g2 g3 : RV → RV → Hs → Option (RV × Hs)} {fa fb fc fd : DE} {env : Env} {h : Hs} : eCh3 g1 g2 g3 fa fb fc fd env h = bd (fa env h) fun p => bd (fb env p.2) fun q => bd (g1 p.1 q.1 q.2) fun r => bK (fun b => cond b
    (bd (fc env r.2) fun s => bd (g2 q.1 s.1 s.2) fun t => bK (fun b2 => cond b2 (bd (fd env t.2) fun u => g3 s.1 u.1 u.2) (some (.d (.bl false), t.2))) t.1) (some (.d (.bl false), r.2))) r.1 := by
  unfold eCh3
  cases fa env h with
  | none => rfl
  | some p =>
    simp only [bd_some]
    cases fb env p.2 with
    | none => rfl
    | some q =>
      simp only [bd_some]
      cases hg : g1 p.1 q.1 q.2 with
      | none => rfl
      | some r =>
        obtain ⟨x, h3⟩ := r
        cases x with
        | d d =>
          cases d <;> try rfl
          rename_i b
          cases b
          · rfl
          · simp only [bd_some, bK_eq, cond_true]
            cases fc env h3 with
            | none => rfl
            | some s =>
              simp only [bd_some]
              cases hg2 : g2 q.1 s.1 s.2 with
              | none => rfl
              | some t =>
                obtain ⟨y, h5⟩ := t
                cases y with
                | d d =>
                  cases d <;> try rfl
                  rename_i b
                  cases b
                  · rfl
                  · simp only [bd_some, bK_eq, cond_true]
                    cases fd env h5 <;> rfl
                | l _ => rfl
                | b _ => rfl
        | l _ => rfl
        | b _ => rfl
end F
/-! F33: x in xs, x not in xs, where xs is a list of data of any depth. -/
namespace F
open PySem PySem.Spec PyProof.Rows L2
def gInX (ng : Bool) (x y : RV) (h : Hs) : Option (RV × Hs) := match tR h x, tR h y with
  | some p, some (.list ds) => if SeqAt.shaped p && SeqAt.shaped (.list ds) then some (.d (.bl (if ng then !(ds.any fun z => PyData.eqv z p) else ds.any fun z => PyData.eqv z p)), h) else none
  | _, _ => none
section
variable {K : PySem.W.Frag}
theorem inX_core {ng : Bool} {α : List Addr} {O : Addr → Prop} {H : Hp} {h h' : Hs} {x y : V} {rx ry rv : RV} {Q : VK} (hr : HRel K α O H h) (ox : VAt K α O H rx x) (oy : VAt K α O H ry y) (e : gInX ng rx ry h = some (rv, h')) (k : ∀ z α' H', Stp α H α' H' → VOk K O H α' H' h' rv z → Q z H') :
    ∃ p ds, Dp K H x p ∧ Dp K H y (.list ds) ∧ SeqAt.shaped p = true ∧ SeqAt.shaped (.list ds) = true ∧ Q (.bl (if ng then !(ds.any fun z => PyData.eqv z p) else ds.any fun z => PyData.eqv z p)) H := by
  unfold gInX at e
  split at e
  · rename_i p ds ep ed
    split at e
    · rename_i hs
      rw [Bool.and_eq_true] at hs
      cases e
      exact ⟨p, ds, tR_dp hr ep ox, tR_dp hr ed oy, hs.1, hs.2, k _ α H (.refl _ _) (.d hr R.bl_mk)⟩
    · cases e
  · cases e
theorem oS_inX : OpS K (rInD K) (gInX false) := fun α O H h x y rx ry rv h' Q hr ox oy e k => inX_core hr ox oy e k
theorem oS_niX : OpS K (rNotInD K) (gInX true) := fun α O H h x y rx ry rv h' Q hr ox oy e k => inX_core hr ox oy e k
end
section
variable {Γ : G}
theorem oR_inX {X : Cx} (c : Γ.At X) : OpR X (compareOp .In) (rInD Γ.g.K) := by
  rw [← c.K]
  exact op_inD (by have := c.room.un; omega)
theorem oR_niX {X : Cx} (c : Γ.At X) : OpR X (compareOp .NotIn) (rNotInD Γ.g.K) := by
  rw [← c.K]
  exact op_notInD (by have := c.room.un; omega)
end
theorem any_toP {n : Nat} {d : D} (hd : dOk n d = true) : ∀ {ds : List D}, dOks n ds = true → ((toPs ds).any fun z => PyData.eqv z (toP d)) = ds.any fun z => eqD z d
  | [], _ => by simp only [toPs, List.any_nil]
  | e :: ds, h => by
    simp only [dOks, Bool.and_eq_true] at h
    simp only [toPs, List.any_cons, eqv_toP n e d h.1 hd, any_toP hd h.2]
theorem gInX_plain {ng : Bool} {x y : RV} {d : D} {ds : List D} {h : Hs} (hx : rvD x = some d) (hy : rvD y = some (.rol ds)) (n : Nat) (hd : dOk n d = true) (he : dOks n ds = true) (hn : n + 1 ≤ 64 := by decide) :
    gInX ng x y h = some (.d (.bl (if ng then !(ds.any fun z => eqD z d) else ds.any fun z => eqD z d)), h) := by
  have he2 : dOk (n + 1) (.rol ds) = true := by simp only [dOk]; exact he
  unfold gInX
  have ep := tR_rol (h := h) hx hd
  have eq := tR_rol (h := h) hy he2
  simp only [toP] at eq
  have l1 := lay_toP n d hd
  have l2 := lay_toP (n + 1) _ he2
  simp only [ep, eq]
  have s1 : SeqAt.shaped (toP d) = true := by unfold SeqAt.shaped; rw [l1.1]; simp; omega
  have s2 : SeqAt.shaped (.list (toPs ds)) = true := by
    have : SeqAt.shaped (toP (.rol ds)) = true := by unfold SeqAt.shaped; rw [l2.1]; simp; omega
    simpa only [toP] using this
  rw [s1, s2, any_toP hd he]
  rfl
end F
/-! F34: return a if c else b (a list that a slot holds goes to the caller); find, endswith, count. -/
namespace F
open PySem PySem.Spec PyProof.Rows L2
/-- what can be returned, with the def's end -/
def RT (Γ : G) (e : Expr) (f : DS) : Prop := ∀ X : Cx, Γ.At X → ∀ B : Bs, ∃ te : TE, PE X e te ∧ ∀ D σ H, tS Γ.g.K B f D σ H → tRet te D σ H
section
variable {Γ : G} {pos pos' : Pos} {e a b c : Expr} {f g : DS} {fe : DE} {fc : DT}
theorem s1_rt (h : RT Γ e f) : S1 Γ (.Return (some e) pos) f := fun X cc B => by
  obtain ⟨te, p, i⟩ := h X cc B
  exact PS.imp (ps_ret p) i
theorem rt_e (he : SE Γ e fe) (hb : ∀ env h c h1, fe env h ≠ some (.b c, h1)) : RT Γ e (dRet fe) := fun X cc B => ⟨_, he X cc, fun D σ H q => by
  obtain ⟨α, O, h, env, hr, sr, br, o, eo, k⟩ := q
  unfold dRet at eo
  split at eo
  · rename_i d h1 e1
    cases eo
    exact ⟨α, O, h, env, hr, sr, _, h1, e1, fun α1 H1 x s1 o1 => k α1 O H1 x (.d (br.bh.stp hr o1.hr s1) o1.hr o1.isD)⟩
  · rename_i cl h1 e1
    cases eo
    refine ⟨α, O, h, env, hr, sr, _, h1, e1, fun α1 H1 x s1 o1 => ?_⟩
    have r0 := o1.hr
    cases o1 with
    | l n r q => exact k α1 _ H1 _ (.l ((br.bh.stp hr r0 s1).ins (br.bh.none_back n)) r q (.inl rfl) (.inl (br.bh.none_back n)))
  · rename_i cl h1 e1
    exact absurd e1 (hb _ _ _ _)
  · cases eo⟩
theorem rt_v {i : Nat} {x : Str} (hN : Γ.N[i]? = some x := by rfl) (hv : Γ.sc.names.lookup x = some .local ∨ Γ.sc.names.lookup x = some .cell ∨ Γ.sc.names.lookup x = some .free := by first | exact Or.inl rfl | exact Or.inr (Or.inl rfl) | exact Or.inr (Or.inr rfl))
    (hd : (x == ("__debug__" : Str)) = false := by decide) (hcd : (x == ("__classdict__" : Str)) = false := by decide) : RT Γ (.Name x pos') (dRet (eV i)) := fun X cc B =>
  ⟨_, pe_var (by rw [cc.N]; exact hN) (Vis.of cc hv) hd hcd, fun D σ H q => by
    obtain ⟨α, O, h, env, hr, sr, br, o, eo, k⟩ := q
    unfold dRet eV at eo
    cases hs : env[i]? with
    | none => simp only [hs] at eo; cases eo
    | some s =>
      simp only [hs] at eo
      cases s with
      | no => cases eo
      | v d =>
        cases eo
        obtain ⟨y, e3, r⟩ := sr.val _ _ hs
        exact ⟨y, e3, k α O H y (.d br.bh hr r)⟩
      | c d =>
        cases eo
        obtain ⟨y, e3, r, oo⟩ := sr.own _ _ hs
        exact ⟨_, e3, k α O H _ (.l br.bh hr r oo (br.own y ⟨i, _, hs, e3⟩))⟩⟩
theorem rt_if (hc : ST Γ c fc) (ha : RT Γ a f) (hb : RT Γ b g) : RT Γ (.IfExp c a b pos) (dIf fc f g) := fun X cc B => by
  obtain ⟨ta, pa, ia⟩ := ha X cc B
  obtain ⟨tb, pb, ib⟩ := hb X cc B
  refine ⟨_, pe_ifExp (hc X cc) pa pb, fun D σ H q => ?_⟩
  obtain ⟨α, O, h, env, hr, sr, br, o, e, k⟩ := q
  unfold dIf at e
  split at e
  · rename_i h1 e1
    refine ⟨α, O, h, env, hr, sr, true, h1, e1, fun α1 H1 s1 r1 => iteT ?_⟩
    exact ia D σ H1 ⟨α1, O, h1, env, r1, sr.stp hr s1, br.stp hr r1 s1, o, e, k⟩
  · rename_i h1 e1
    refine ⟨α, O, h, env, hr, sr, false, h1, e1, fun α1 H1 s1 r1 => iteF ?_⟩
    exact ib D σ H1 ⟨α1, O, h1, env, r1, sr.stp hr s1, br.stp hr r1 s1, o, e, k⟩
  · cases e
end
/-! methods of texts with one text -/
def findN (z s : List Nat) : Int := Txt.find (S z) (S s)
def endsN (z s : List Nat) : Bool := Txt.endswith (S z) (S s)
def cntN (z s : List Nat) : Int := Txt.count (S z) (S s)
def gFind1 (z : List Nat) : RV → Hs → Option (RV × Hs)
  | .d (.str s), h => some (.d (.int (findN z s)), h)
  | _, _ => none
def gEnds (z : List Nat) : RV → Hs → Option (RV × Hs)
  | .d (.str s), h => some (.d (.bl (endsN z s)), h)
  | _, _ => none
def gCnt (z : List Nat) : RV → Hs → Option (RV × Hs)
  | .d (.str s), h => some (.d (.int (cntN z s)), h)
  | _, _ => none
section
variable {K : PySem.W.Frag}
theorem me_find1 : Me1 K (fun x xs H Q => ∃ a b, x = .str a ∧ xs = [.str b] ∧ Q (.int (Txt.find a b)) H) gFind1 := fun α O H h s y ry rv h' Q hr oy e k => by
  unfold gFind1 at e
  split at e
  · cases e; exact ⟨_, _, rfl, by rw [oy.isD.str_eq], k _ α H (.refl _ _) (.d hr R.int_mk)⟩
  · cases e
theorem me_ends : Me1 K (fun x xs H Q => ∃ a b, x = .str a ∧ xs = [.str b] ∧ Q (.bl (Txt.endswith a b)) H) gEnds := fun α O H h s y ry rv h' Q hr oy e k => by
  unfold gEnds at e
  split at e
  · cases e; exact ⟨_, _, rfl, by rw [oy.isD.str_eq], k _ α H (.refl _ _) (.d hr R.bl_mk)⟩
  · cases e
theorem me_cnt : Me1 K (fun x xs H Q => ∃ a b, x = .str a ∧ xs = [.str b] ∧ Q (.int (Txt.count a b)) H) gCnt := fun α O H h s y ry rv h' Q hr oy e k => by
  unfold gCnt at e
  split at e
  · cases e; exact ⟨_, _, rfl, by rw [oy.isD.str_eq], k _ α H (.refl _ _) (.d hr R.int_mk)⟩
  · cases e
end
section
variable {Γ : G} {pos apos : Pos} {o e : Expr} {fo fa : DE}
theorem se_find1 (ho : SE Γ o fo) (he : SE Γ e fa) (hst : ∀ env, starEach [e] env = [(false, eval e env)] := by intro _; rfl) (hb : ∀ env, attributeBase o "find" env (eval o env) = eval o env := by intro _; rfl) (hl : (apos.endLine == pos.line) = true := by rfl) :
    SE Γ (.Call (.Attribute o "find" apos) [e] [] pos) (eM1 gFind1 fo fa) := se_m1 PySem.F.slot_str_find PySem.F.type_str_find (fun _ _ => mt_find) me_find1 ho he hst hb hl
theorem se_ends (ho : SE Γ o fo) (he : SE Γ e fa) (hst : ∀ env, starEach [e] env = [(false, eval e env)] := by intro _; rfl) (hb : ∀ env, attributeBase o "endswith" env (eval o env) = eval o env := by intro _; rfl) (hl : (apos.endLine == pos.line) = true := by rfl) :
    SE Γ (.Call (.Attribute o "endswith" apos) [e] [] pos) (eM1 gEnds fo fa) := se_m1 PySem.F.slot_str_endswith PySem.F.type_str_endswith (fun _ _ => mt_endswith) me_ends ho he hst hb hl
theorem se_cnt (ho : SE Γ o fo) (he : SE Γ e fa) (hst : ∀ env, starEach [e] env = [(false, eval e env)] := by intro _; rfl) (hb : ∀ env, attributeBase o "count" env (eval o env) = eval o env := by intro _; rfl) (hl : (apos.endLine == pos.line) = true := by rfl) :
    SE Γ (.Call (.Attribute o "count" apos) [e] [] pos) (eM1 gCnt fo fa) := se_m1 PySem.F.slot_str_count PySem.F.type_str_count (fun _ _ => mt_count) me_cnt ho he hst hb hl
end
/-- find is where partition cuts -/
theorem findN_par {z s : List Nat} (hs : s ≠ []) : findN z s = match TL.par s [] z with
    | some (a, _) => (a.length : Nat)
    | none => -1 := by
  have key := TL.partition_par (S z) (S s) hs
  rw [S_tl, S_tl] at key
  unfold Txt.partition at key
  unfold findN Txt.find
  have ne : S s ≠ Str.empty := fun e => hs (by have := congrArg TL.tl e; rw [S_tl] at this; rw [this]; rfl)
  rcases StrLaws.occ_head (S z) (S s) 1 (Nat.le_refl 1) with ⟨h0, hn⟩ | ⟨i, r, h0, hi, hn⟩
  · rw [h0] at key ⊢
    cases hp : TL.par s [] z with
    | none => rfl
    | some q =>
      obtain ⟨a, b⟩ := q
      rw [hp] at key
      have := congrArg (fun t => t.2.1) key
      exact absurd this.symm ne
  · rw [h0] at key ⊢
    cases hp : TL.par s [] z with
    | none =>
      rw [hp] at key
      have := congrArg (fun t => t.2.1) key
      exact absurd this ne
    | some q =>
      obtain ⟨a, b⟩ := q
      rw [hp] at key
      have e1 := congrArg (fun t => TL.tl t.1) key
      simp only [TL.tl_strSub] at e1
      have hl := hi.1
      have e2 : a = ((TL.tl (S z)).drop 0).take (i - 0) := e1.symm
      rw [S_tl, List.drop_zero, Nat.sub_zero] at e2
      have hz : i ≤ z.length := by
        have : (S z).length = z.length := S_len z
        omega
      show ((i : Nat) : Int) = ((a.length : Nat) : Int)
      rw [e2, List.length_take]
      omega
theorem endsN_e {z s : List Nat} : endsN z s = (decide (s.length ≤ z.length) && ((z.drop (z.length - s.length)).take s.length == s)) := by
  unfold endsN Txt.endswith
  rw [StrLaws.subAt_eq, Nat.zero_add]
  have e1 : (S z).length = z.length := S_len z
  have e2 : (S s).length = s.length := S_len s
  rw [e1, e2]
/-! d[k] = v, d a cell of the heap -/
def dDPutR (fo fk f : DE) : DS := fun env h => match f env h with
  | some (.d d, h1) => match fo env h1 with
    | some (.d (.ref n), h2) => match fk env h2 with
      | some (.d k, h3) => match h3[n]? with
        | some (.dct kvs) => if isKey k = true ∧ kvs.length < sizeLine then some (.nx env (h3.set n (.dct (putL kvs k d)))) else none
        | _ => none
      | _ => none
    | _ => none
  | _ => none
section
variable {Γ : G} {pos p2 : Pos} {o ix e : Expr} {fo fi f : DE}
theorem s1_dputR (ho : SE Γ o fo) (hi : SE Γ ix fi) (he : SE Γ e f) (hs : ∀ env, swapsWith e (some (.Subscript o ix p2)) pos.line env = pure false := by intro _; rfl) : S1 Γ (.Assign [.Subscript o ix p2] e pos) (dDPutR fo fi f) := fun X c B =>
  PS.imp (ps_dput c.hu (ho X c) (hi X c) (he X c) (hs _)) fun D σ H q => by
    obtain ⟨α, O, h, env, hr, sr, br, o, e, k⟩ := q
    unfold dDPutR at e
    split at e
    · rename_i d h1 e1
      split at e
      · rename_i n h2 e2
        split at e
        · rename_i kd h3 e3
          split at e
          · rename_i kvs e4
            split at e
            · rename_i hk
              cases e
              refine ⟨α, O, h, env, hr, sr, _, h1, e1, fun α1 H1 v s1 o1 => ?_⟩
              have sr1 := sr.stp hr s1
              refine ⟨α1, O, h1, env, o1.hr, sr1, _, h2, e2, fun α2 H2 y s2 o2 => ?_⟩
              have sr2 := sr1.stp o1.hr s2
              refine ⟨α2, O, h2, env, o2.hr, sr2, _, h3, e3, fun α3 H3 z s3 o3 => ?_⟩
              have ry := o2.isD
              simp only [R] at ry
              obtain ⟨a, e5, e6⟩ := ry
              subst e5
              have e8 := s3.pre n a e6
              obtain ⟨ps, e9, rl2⟩ := o3.hr.cell n _ a e4 e8
              have rx := R.mv s3.mv _ _ (R.mv s2.mv _ _ o1.isD)
              obtain ⟨kk, ek⟩ := isKey_key hk.1
              refine ⟨a, _, rfl, by rw [key_R ek o3.isD]; exact DPut.k e9 (by rw [← rl2.length]; exact hk.2), ?_⟩
              obtain ⟨w1, w2⟩ := wrR (c := .dct (putL kvs kd d)) (o := .dK (putK ps kk v)) o3.hr e8 ⟨_, upd_same, RP.mv (upd_stp e8).mv _ _ (RP.put rl2 ek rx)⟩
              have s4 := s1.trans (s2.trans (s3.trans w2))
              exact k α3 O _ σ w1 (sr.stp hr s4) (br.stp hr w1 s4)
            · cases e
          · cases e
        · cases e
      · cases e
    · cases e
end
def dputC (n : Nat) (env : Env) (h : Hs) (k d : D) : Option SOut := match h[n]? with
  | some (.dct kvs) => if isKey k = true ∧ kvs.length < sizeLine then some (.nx env (h.set n (.dct (putL kvs k d)))) else none
  | _ => none
theorem dputC_e {n : Nat} {env : Env} {h : Hs} {k d : D} {kvs : List (D × D)} (e : h[n]? = some (.dct kvs)) (hk : isKey k = true) (hz : kvs.length ≤ 1000) : dputC n env h k d = some (.nx env (h.set n (.dct (putL kvs k d)))) := by
  unfold dputC
  rw [e]
  exact if_pos ⟨hk, Nat.lt_of_le_of_lt hz (by decide)⟩
theorem dDPutR_e {fo fk f : DE} {env : Env} {h : Hs} : dDPutR fo fk f env h = bd (f env h) fun p => dK (fun d => bd (fo env p.2) fun q => rfK (fun n => bd (fk env q.2) fun r => dK (fun k => dputC n env r.2 k d) r.1) q.1) p.1 := by
  unfold dDPutR
  cases f env h with
  | none => rfl
  | some p =>
    obtain ⟨x, h1⟩ := p
    cases x with
    | l c => rfl
    | b c => rfl
    | d d =>
      simp only [bd_some, dK_eq]
      cases fo env h1 with
      | none => rfl
      | some q =>
        obtain ⟨y, h2⟩ := q
        cases y with
        | l c => rfl
        | b c => rfl
        | d y =>
          cases y with
          | ref n =>
            simp only [bd_some, rfK_e]
            cases fk env h2 with
            | none => rfl
            | some r =>
              obtain ⟨z, h3⟩ := r
              cases z <;> rfl
          | _ => rfl
end F
/-! F35: [e for a in xs for b in ys] -/
namespace F
open PySem PySem.Spec PyProof.Rows L2
def lcL2 (g : DG) (tt : DT) (it1 : DI) (g1 : DG) (tt1 : DT) (te : DE) (vs1 : List Nat) (env : Env) : List D → Hs → Option (List D × Hs)
  | [], h => some ([], h)
  | d :: ds, h => match g d env with
    | some env1 => match tt env1 h with
      | some (false, h1) => lcL2 g tt it1 g1 tt1 te vs1 env ds h1
      | some (true, h1) => match it1 env1 h1 with
        | some (ds1, h2) => match lcL g1 tt1 te (wipeE env1 vs1) ds1 h2 with
          | some (ys, h3) => match lcL2 g tt it1 g1 tt1 te vs1 env ds h3 with
            | some (zs, h4) => some (ys ++ zs, h4)
            | none => none
          | none => none
        | none => none
      | none => none
    | none => none
def eLc2 (it : DI) (g : DG) (tt : DT) (it1 : DI) (g1 : DG) (tt1 : DT) (te : DE) (vs vs1 : List Nat) : DE := fun env h => match it env h with
  | some (ds, h1) => match lcL2 g tt it1 g1 tt1 te vs1 (wipeE env vs) ds h1 with
    | some (ys, h2) => if ys.length ≤ sizeLine then some (.l (.lst ys), h2) else none
    | none => none
  | none => none
section
variable {K : PySem.W.Frag} {α α' : List Addr} {O O' : Addr → Prop} {H H' : Hp} {h : Hs} {σ : St} {env : Env}
/-- a cell that no slot owns may be another one -/
theorem SRel.mvN {Dn : Addr} (s : SRel K α O H σ env) (m : Mv α O H α' O' H') (ko : ∀ a o, O a → a ≠ Dn → H a = some o → H' a = some o) (oo : ∀ a, O a → O' a) (nw : ¬ Own σ env Dn) : SRel K α' O' H' σ env where
  len := s.len
  val := fun i d e => by
    obtain ⟨x, e1, r⟩ := s.val i d e
    exact ⟨x, e1, R.mv m _ _ r⟩
  own := fun i c e => by
    obtain ⟨a, e1, r, o⟩ := s.own i c e
    exact ⟨a, e1, r.mv m fun ob q => ko a ob o (fun z => nw ⟨i, c, e, by rw [← z]; exact e1⟩) q, oo a o⟩
  dis := s.dis
theorem SRel.nOwn {Dn : Addr} (s : SRel K α O H σ env) (hD : H Dn = none) : ¬ Own σ env Dn := fun ⟨i, c, e1, e2⟩ => by
  obtain ⟨a, e3, r, _⟩ := s.own i c e1
  rw [e2] at e3
  cases e3
  obtain ⟨o, z⟩ := r.there
  rw [hD] at z
  cases z
end
section
variable {Γ : G} {pos : Pos} {elt tg iter tg1 iter1 : Expr} {ifs ifs1 : List Expr} {scope : Scope} {ws ws1 : List Nat} {it it1 : DI} {g g1 : DG} {tt tt1 : DT} {te : DE} {own : List (Str × Nat)}
theorem tLc2_imp {K : PySem.W.Frag} {vs : List Nat} (hw : ∀ i ∈ ws, i ∈ vs) {σ : St} {H : Hp} {Q : VK} (q : tE K (eLc2 it g tt it1 g1 tt1 te vs ws1) σ H Q) : tLc2 (tI K it) (tG K ws g) (tT K tt) (tI K it1) (tG K ws1 g1) (tT K tt1) (tE K te) vs ws1 σ H Q := by
  obtain ⟨α, O, h, env, hr, sr, rv, h', e, k⟩ := q
  unfold eLc2 at e
  split at e
  · rename_i ds h1 e1
    split at e
    · rename_i ys h2 e2
      split at e
      · rename_i hz
        cases e
        refine ⟨α, O, h, env, hr, sr, ds, h1, e1, fun α1 H1 J s1 r1 ok => fun Dn hD => ?_⟩
        have sr1 := sr.stp hr s1
        have nOw := sr1.nOwn hD
        have hn : H Dn = none := none_of_fr s1.fr (fun m => r1.notin hD (by
          obtain ⟨i, hi, e2⟩ := List.getElem_of_mem m
          exact List.mem_of_getElem? (s1.pre i _ (by rw [List.getElem?_eq_getElem hi, e2])))) hD
        refine ⟨fun i m H' => m = ds.length - i ∧ i ≤ ds.length ∧ ∃ α' h2 acc xs ys', HRel K α' (Ins O Dn) H' h2 ∧ Stp α1 H1 α' H' ∧ H' Dn = some (.lst xs) ∧ RL K α' (Ins O Dn) H' acc xs ∧
            lcL2 g tt it1 g1 tt1 te ws1 (wipeE env vs) (ds.drop i) h2 = some (ys', h') ∧ acc ++ ys' = ys,
          ⟨ds.length, by omega, Nat.zero_le _, α1, h1, [], [], ys, r1.fresh hD, ⟨fun a o e n => by rw [upd_ne (ne_of_none e hD)]; exact e, fun _ _ e => e, fun _ m => .inl m⟩, upd_same, RL.nil, by rw [List.drop_zero]; exact e2, rfl⟩, ?_⟩
        rintro i m H' ⟨rfl, hi, α', hc, acc, xs, ys', hr', st', hx, rl, e', eys⟩
        have nD : Dn ∉ α' := fun m => hr'.dis _ m (.inl rfl)
        have mv1 : Mv α1 O H1 α' (Ins O Dn) H' := ⟨fun a o e n n2 => ⟨st'.fr a o e n, (fun m => by
          rcases st'.new a m with z | z
          · exact n z
          · rw [z] at e; cases e), fun z => z.elim (ne_of_none e hD) n2⟩, st'.pre⟩
        have sr' : SRel K α' (Ins O Dn) H' σ env := sr1.mv mv1 (fun a o q e => st'.fr a o e fun m => r1.dis a m q) fun a q => .inr q
        obtain ⟨go, stop⟩ := ok α' _ H' hc mv1 hr' i
        cases hd : ds.drop i with
        | nil =>
          rw [hd] at e'
          cases e'
          refine .inl ⟨stop ?_, ?_⟩
          · have := congrArg List.length hd
            simp at this
            omega
          · rw [List.append_nil] at eys
            subst eys
            exact k α' H' _ (s1.trans st') (.l hn hr' ⟨xs, hx, rl⟩)
        | cons d rest =>
          have hlt : i < ds.length := by
            have := congrArg List.length hd
            simp at this
            omega
          have hd1 : ds[i]? = some d := by
            have := congrArg (·[0]?) hd
            simpa using this
          have hd2 : ds.drop (i + 1) = rest := by
            have := congrArg List.tail hd
            simpa using this
          rw [hd] at e'
          unfold lcL2 at e'
          obtain ⟨go1, yl⟩ := go d hd1
          refine .inr ⟨go1, fun H'' => ∃ α'' h2 acc xs ys'', HRel K α'' (Ins O Dn) H'' h2 ∧ Stp α1 H1 α'' H'' ∧ H'' Dn = some (.lst xs) ∧ RL K α'' (Ins O Dn) H'' acc xs ∧
              lcL2 g tt it1 g1 tt1 te ws1 (wipeE env vs) rest h2 = some (ys'', h') ∧ acc ++ ys'' = ys,
            fun H'' ⟨α'', h2, acc, xs, ys'', z1, z2, z3, z4, z6, z7⟩ => ⟨ds.length - (i + 1), by omega, rfl, hlt, α'', h2, acc, xs, ys'', z1, z2, z3, z4, by rw [hd2]; exact z6, z7⟩, fun x H'' y => ?_⟩
          obtain ⟨st2, hr2, rx⟩ := yl x H'' y
          obtain ⟨sw, lw⟩ := (sr'.stp hr' st2).wipe vs
          have stt := st'.trans st2
          split at e'
          · rename_i env1 e3
            refine ⟨α', _, hc, _, d, hr2, sw, rx, env1, e3, fun σ3 sr3 l3 w3 => ⟨?_, ?_⟩⟩
            · rw [w3 vs hw, wipe_sub vs fun _ h => h]
            · have nOw3 : ¬ Own σ3 env1 Dn := fun z => nOw (lw.own (l3.own z))
              split at e'
              · rename_i h3 e4
                refine ⟨α', _, hc, env1, hr2, sr3, false, h3, e4, fun α3 H3 s3 r3 => iteF ?_⟩
                exact ⟨α3, h3, acc, xs, ys', r3, stt.trans s3, s3.fr _ _ (st2.fr _ _ hx nD) nD, RL.mv s3.mv _ _ (RL.mv st2.mv _ _ rl), e', eys⟩
              · rename_i h3 e4
                refine ⟨α', _, hc, env1, hr2, sr3, true, h3, e4, fun α3 H3 s3 r3 => iteT ?_⟩
                split at e'
                · rename_i ds1 h4 e5
                  split at e'
                  · rename_i ysA hE e6
                    split at e'
                    · rename_i zs h6 e7
                      cases e'
                      refine ⟨α3, _, h3, env1, r3, sr3.stp hr2 s3, ds1, h4, e5, fun α4 H4 J1 s4 r4 ok1 => ?_⟩
                      have sr4 := (sr3.stp hr2 s3).stp r3 s4
                      have st4 := stt.trans (s3.trans s4)
                      have nD3 : Dn ∉ α3 := fun m => r3.dis _ m (.inl rfl)
                      have hx4 : H4 Dn = some (.lst xs) := s4.fr _ _ (s3.fr _ _ (st2.fr _ _ hx nD) nD) nD3
                      have rl4 := RL.mv s4.mv _ _ (RL.mv s3.mv _ _ (RL.mv st2.mv _ _ rl))
                      refine ⟨fun j k H' => k = ds1.length - j ∧ j ≤ ds1.length ∧ ∃ α' h2 acc xs ysI, HRel K α' (Ins O Dn) H' h2 ∧ Stp α1 H1 α' H' ∧ Mv α4 (Ins O Dn) H4 α' (Ins O Dn) H' ∧ (∀ a o, Ins O Dn a → a ≠ Dn → H4 a = some o → H' a = some o) ∧ H' Dn = some (.lst xs) ∧ RL K α' (Ins O Dn) H' acc xs ∧
                          lcL g1 tt1 te (wipeE env1 ws1) (ds1.drop j) h2 = some (ysI, hE) ∧ acc ++ (ysI ++ zs) = ys,
                        ⟨ds1.length, by omega, Nat.zero_le _, α4, h4, acc, xs, ysA, r4, st4, .refl, fun _ _ _ _ e => e, hx4, rl4, by rw [List.drop_zero]; exact e6, eys⟩, ?_⟩
                      rintro j k5 H5 ⟨rfl, hj, α5, hc5, acc5, xs5, ysI, r5, st5, mv5, ko5, hx5, rl5, e8, ey5⟩
                      have nD5 : Dn ∉ α5 := fun m => r5.dis _ m (.inl rfl)
                      have sr5 : SRel K α5 (Ins O Dn) H5 σ3 env1 := sr4.mvN mv5 ko5 (fun _ q => q) nOw3
                      obtain ⟨goI, stopI⟩ := ok1 α5 _ H5 hc5 mv5 r5 j
                      cases hdI : ds1.drop j with
                      | nil =>
                        rw [hdI] at e8
                        cases e8
                        refine .inl ⟨stopI ?_, ?_⟩
                        · have := congrArg List.length hdI
                          simp at this
                          omega
                        · exact ⟨α5, _, acc5, xs5, zs, r5, st5, hx5, rl5, e7, by simpa using ey5⟩
                      | cons dI restI =>
                        have hltI : j < ds1.length := by
                          have := congrArg List.length hdI
                          simp at this
                          omega
                        have hdI1 : ds1[j]? = some dI := by
                          have := congrArg (·[0]?) hdI
                          simpa using this
                        have hdI2 : ds1.drop (j + 1) = restI := by
                          have := congrArg List.tail hdI
                          simpa using this
                        rw [hdI] at e8
                        unfold lcL at e8
                        obtain ⟨goI1, ylI⟩ := goI dI hdI1
                        refine .inr ⟨goI1, fun H' => ∃ α' h2 acc xs ysI, HRel K α' (Ins O Dn) H' h2 ∧ Stp α1 H1 α' H' ∧ Mv α4 (Ins O Dn) H4 α' (Ins O Dn) H' ∧ (∀ a o, Ins O Dn a → a ≠ Dn → H4 a = some o → H' a = some o) ∧ H' Dn = some (.lst xs) ∧ RL K α' (Ins O Dn) H' acc xs ∧
                            lcL g1 tt1 te (wipeE env1 ws1) restI h2 = some (ysI, hE) ∧ acc ++ (ysI ++ zs) = ys,
                          fun H' ⟨α', h2, acc, xs, ysI, z1, z2, z3, z4, z5, z6, z7, z8⟩ => ⟨ds1.length - (j + 1), by omega, rfl, hltI, α', h2, acc, xs, ysI, z1, z2, z3, z4, z5, z6, by rw [hdI2]; exact z7, z8⟩, fun xI H6 yI => ?_⟩
                        obtain ⟨st6, r6, rxI⟩ := ylI xI H6 yI
                        obtain ⟨swI, lwI⟩ := (sr5.stp r5 st6).wipe ws1
                        have mvS : ∀ {α7 : List Addr} {H7 : Hp}, Stp α5 H5 α7 H7 → Mv α4 (Ins O Dn) H4 α7 (Ins O Dn) H7 := fun {α7 H7} s7 => ⟨fun a o e n n2 => by
                          obtain ⟨z1, z2, z3⟩ := mv5.at_ a o e n n2
                          exact s7.mv.at_ a o z1 z2 z3, fun i a e => s7.pre i a (mv5.pre i a e)⟩
                        have koS : ∀ {α7 : List Addr} {H7 : Hp}, Stp α5 H5 α7 H7 → ∀ a o, Ins O Dn a → a ≠ Dn → H4 a = some o → H7 a = some o := fun {α7 H7} s7 a o q n e => s7.fr a o (ko5 a o q n e) fun m => r5.dis a m q
                        split at e8
                        · rename_i env6 e9
                          refine ⟨α5, _, hc5, _, dI, r6, swI, rxI, env6, e9, fun σ7 sr7 l7 w7 => ⟨?_, ?_⟩⟩
                          · rw [w7 ws1 fun _ h => h, wipe_sub ws1 fun _ h => h]
                          · split at e8
                            · rename_i h7 e10
                              refine ⟨α5, _, hc5, env6, r6, sr7, false, h7, e10, fun α8 H8 s8 r8 => iteF ?_⟩
                              have s68 := st6.trans s8
                              exact ⟨α8, h7, acc5, xs5, ysI, r8, st5.trans s68, mvS s68, koS s68, s68.fr _ _ hx5 nD5, RL.mv s68.mv _ _ rl5, e8, ey5⟩
                            · rename_i h7 e10
                              refine ⟨α5, _, hc5, env6, r6, sr7, true, h7, e10, fun α8 H8 s8 r8 => iteT ?_⟩
                              split at e8
                              · rename_i y' h9 e11
                                split at e8
                                · rename_i ysR h10 e12
                                  cases e8
                                  refine ⟨α8, _, h7, env6, r8, sr7.stp r6 s8, _, h9, e11, fun α9 H9 w s9 o9 => ?_⟩
                                  have s69 := st6.trans (s8.trans s9)
                                  have hx9 : H9 Dn = some (.lst xs5) := s69.fr _ _ hx5 nD5
                                  have rl9 := RL.mv s69.mv _ _ rl5
                                  have hl := rl9.length
                                  have hy := congrArg List.length ey5
                                  simp only [List.length_append, List.length_cons] at hy
                                  have q : Ins O Dn Dn := .inl rfl
                                  have st9 := st5.trans s69
                                  refine ⟨xs5, hx9, by omega, α9, h9, acc5 ++ [y'], xs5 ++ [w], ysR, o9.hr.updO q, ?_, ?_, ?_, upd_same, RL.mv (Mv.updO q) _ _ (rl9.app (RL.one o9.isD)), e12, by simpa using ey5⟩
                                  · exact ⟨fun a o e n => by rw [upd_ne (ne_of_none e hD)]; exact st9.fr a o e n, st9.pre, st9.new⟩
                                  · exact ⟨fun a o e n n2 => by
                                      obtain ⟨z1, z2, z3⟩ := (mvS s69).at_ a o e n n2
                                      exact (Mv.updO q).at_ a o z1 z2 z3, fun i a e => (mvS s69).pre i a e⟩
                                  · intro a o qa n e
                                    rw [upd_ne n]
                                    exact koS s69 a o qa n e
                                · cases e8
                              · cases e8
                            · cases e8
                        · cases e8
                    · cases e'
                  · cases e'
                · cases e'
              · cases e'
          · cases e'
      · cases e
    · cases e
  · cases e
theorem se_lc2 (hi : SI Γ tg iter it) (hg : SG (Γ.blk scope) tg ws g) (ht : STs (Γ.blk scope) ifs tt) (hi1 : SI (Γ.blk scope) tg1 iter1 it1) (hg1 : SG (Γ.blk scope) tg1 ws1 g1) (ht1 : STs (Γ.blk scope) ifs1 tt1) (he : SE (Γ.blk scope) elt te) (ok : blkC Γ.N Γ.sc scope own = true := by (dsimp only [F.G.blk]; decide +kernel))
    (hw : (ws.all fun i => (own.map (·.2)).contains i) = true := by rfl) (hw1 : (ws1.all fun i => (own.map (·.2)).contains i) = true := by rfl)
    (hs : ∀ env x, foldedSetIterable iter env x = pure x := by intro _ _; rfl) (hs1 : ∀ env x, foldedSetIterable iter1 env x = pure x := by intro _ _; rfl) : SE Γ (.ListComp elt [⟨tg, iter, ifs, 0⟩, ⟨tg1, iter1, ifs1, 0⟩] scope pos) (eLc2 it g tt it1 g1 tt1 te (own.map (·.2)) ws1) := fun X cc =>
  PE.imp (pe_lc2 cc.calm (by rw [cc.N]; exact cc.nd) (hi X cc) (by rw [cc.N, cc.sc]; exact blkOk_by ok) (fun i hi => by have := List.all_eq_true.mp hw1 i hi; simpa using this) (fun s H C cl fp => hg _ (cc.blk s H scope C cl fp)) (fun s H C cl fp => ht _ (cc.blk s H scope C cl fp)) (fun s H C cl fp => hi1 _ (cc.blk s H scope C cl fp)) (fun s H C cl fp => hg1 _ (cc.blk s H scope C cl fp)) (fun s H C cl fp => ht1 _ (cc.blk s H scope C cl fp)) (fun s H C cl fp => he _ (cc.blk s H scope C cl fp)) (hs _) hs1) fun σ H Q q =>
    tLc2_imp (fun i hi => by
      have := List.all_eq_true.mp hw i hi
      simpa using this) q
/-- name = [..] -/
theorem s1_setLc2 {i : Nat} {y : Str} {py spos : Pos} (hN : Γ.N[i]? = some y := by rfl) (hyl : Γ.sc.names.lookup y = some .local := by rfl) (hi : SI Γ tg iter it) (hg : SG (Γ.blk scope) tg ws g) (ht : STs (Γ.blk scope) ifs tt) (hi1 : SI (Γ.blk scope) tg1 iter1 it1) (hg1 : SG (Γ.blk scope) tg1 ws1 g1) (ht1 : STs (Γ.blk scope) ifs1 tt1) (he : SE (Γ.blk scope) elt te) (ok : blkC Γ.N Γ.sc scope own = true := by (dsimp only [F.G.blk]; decide +kernel))
    (hw : (ws.all fun i => (own.map (·.2)).contains i) = true := by rfl) (hw1 : (ws1.all fun i => (own.map (·.2)).contains i) = true := by rfl)
    (hl : (py.line == pos.line) = true := by rfl) (ha : (scope.names.any fun (n, k) => n == y && (k == .local || k == .cell)) = false := by decide +kernel) (hs : ∀ env x, foldedSetIterable iter env x = pure x := by intro _ _; rfl) (hs1 : ∀ env x, foldedSetIterable iter1 env x = pure x := by intro _ _; rfl) :
    S1 Γ (.Assign [.Name y py] (.ListComp elt [⟨tg, iter, ifs, 0⟩, ⟨tg1, iter1, ifs1, 0⟩] scope pos) spos) (dSet i (eLc2 it g tt it1 g1 tt1 te (own.map (·.2)) ws1)) := fun X cc B => by
  refine ⟨fun pins s σ H D I q => ?_⟩
  have hk : X.env.scope.kind = .function := I.ok.kind
  have hy2 : X.env.scope.names.lookup y = some .local := by rw [cc.sc]; exact hyl
  refine (ps_setLc2 cc.calm (by rw [cc.N]; exact cc.nd) (by rw [cc.N]; exact hN) hy2 (sw_true hk hy2 hl ha) (hi X cc) (by rw [cc.N, cc.sc]; exact blkOk_by ok) (fun i hi => by have := List.all_eq_true.mp hw1 i hi; simpa using this) (fun s H C cl fp => hg _ (cc.blk s H scope C cl fp)) (fun s H C cl fp => ht _ (cc.blk s H scope C cl fp)) (fun s H C cl fp => hi1 _ (cc.blk s H scope C cl fp)) (fun s H C cl fp => hg1 _ (cc.blk s H scope C cl fp)) (fun s H C cl fp => ht1 _ (cc.blk s H scope C cl fp)) (fun s H C cl fp => he _ (cc.blk s H scope C cl fp)) (hs _) hs1).run pins s σ H D I ?_
  obtain ⟨α, O, h, env, hr, sr, br, o, e, k⟩ := q
  have hw' : ∀ i ∈ ws, i ∈ own.map (·.2) := fun i hi => by
    have := List.all_eq_true.mp hw i hi
    simpa using this
  unfold dSet at e
  split at e
  · rename_i d h1 e1
    cases e
    refine tLc2_imp hw' ⟨α, O, h, env, hr, sr, _, h1, e1, fun α1 H1 x s1 o1 => ?_⟩
    obtain ⟨O', r, s, b⟩ := store_imp (i := i) hr sr br s1 o1 rfl
    exact k α1 O' H1 _ r s b
  · rename_i d h1 e1
    cases e
    refine tLc2_imp hw' ⟨α, O, h, env, hr, sr, _, h1, e1, fun α1 H1 x s1 o1 => ?_⟩
    obtain ⟨O', r, s, b⟩ := store_imp (i := i) hr sr br s1 o1 rfl
    exact k α1 O' H1 _ r s b
  · cases e
end
/-! equations -/
section
variable {it it1 : DI} {g g1 : DG} {tt tt1 : DT} {te : DE} {vs ws1 : List Nat} {env : Env} {h : Hs}
def lcK2 (g : DG) (tt : DT) (it1 : DI) (g1 : DG) (tt1 : DT) (te : DE) (vs ws1 : List Nat) (env : Env) (ds : List D) (h : Hs) : Option (RV × Hs) := bd (lcL2 g tt it1 g1 tt1 te ws1 (wipeE env vs) ds h) fun q => if q.1.length ≤ sizeLine then some (.l (.lst q.1), q.2) else none
theorem eLc2_e : eLc2 it g tt it1 g1 tt1 te vs ws1 env h = bd (it env h) fun p => lcK2 g tt it1 g1 tt1 te vs ws1 env p.1 p.2 := by
  unfold eLc2
  cases it env h with
  | none => rfl
  | some p =>
    obtain ⟨ds, h1⟩ := p
    show _ = lcK2 g tt it1 g1 tt1 te vs ws1 env ds h1
    unfold lcK2
    simp only
    cases lcL2 g tt it1 g1 tt1 te ws1 (wipeE env vs) ds h1 <;> rfl
/-- tests all true, the heap as it was -/
theorem lcL2_T {T : Type} {c : T → D} (f : T → List D) : ∀ {l : List T}, (∀ t ∈ l, ∃ env1 ds1, g (c t) env = some env1 ∧ tt env1 h = some (true, h) ∧ it1 env1 h = some (ds1, h) ∧ lcL g1 tt1 te (wipeE env1 ws1) ds1 h = some (f t, h)) →
    lcL2 g tt it1 g1 tt1 te ws1 env (l.map c) h = some ((l.map f).flatten, h)
  | [], _ => rfl
  | t :: l, H => by
    obtain ⟨env1, ds1, e1, e2, e3, e4⟩ := H t List.mem_cons_self
    have ih := lcL2_T f (l := l) fun t ht => H t (List.mem_cons_of_mem _ ht)
    rw [List.map_cons]
    unfold lcL2
    simp only [e1, e2, e3, e4, ih]
    rfl
theorem lcK2_T {T : Type} {c : T → D} (f : T → List D) {l : List T} (hz : ((l.map f).flatten).length ≤ 100000) (H : ∀ t ∈ l, ∃ env1 ds1, g (c t) (wipeE env vs) = some env1 ∧ tt env1 h = some (true, h) ∧ it1 env1 h = some (ds1, h) ∧ lcL g1 tt1 te (wipeE env1 ws1) ds1 h = some (f t, h)) :
    lcK2 g tt it1 g1 tt1 te vs ws1 env (l.map c) h = some (.l (.lst (l.map f).flatten), h) := by
  unfold lcK2
  rw [lcL2_T f H]
  show (if _ then _ else _) = _
  rw [if_pos (Nat.le_trans hz (by decide))]
end
end F
/-! F36: xs.count(text) of a list of texts; t <= u of tuples of ints -/
namespace F
open PySem PySem.Spec PyProof.Rows L2
theorem S_beq (a b : List Nat) : (S a == S b) = (a == b) := by
  rw [Bool.eq_iff_iff, beq_iff_eq, beq_iff_eq]
  constructor
  · intro e
    have := congrArg TL.tl e
    rw [S_tl, S_tl] at this
    exact this
  · rintro rfl; rfl
theorem isStr_count {k : Str} : ∀ {us : List Value} {ns : List Str}, StrsAre us ns → us.countP (isStrOf k) = ns.countP (· == k)
  | _, _, .nil => rfl
  | _, _, .cons n t h => by
    have ih := isStr_count (k := k) h
    rw [List.countP_cons, List.countP_cons, ih] <;> rfl
def rCntS (K : PySem.W.Frag) : V → List V → Hp → VK → Prop := fun x xs H Q => ∃ (p : Addr) (ns : List Str) (k : Str), x = .ref p ∧ xs = [.str k] ∧ SqL K H p (ns.map V.str) ∧ Q (.int (ns.countP (· == k) : Nat)) H
theorem mt_lcountS {X : Cx} : MtR X "list.count" (rCntS X.K) := by
  intro pins s σ H x xs v us Q I rx rxs h
  obtain ⟨p, ns, k, rfl, rfl, hs, q⟩ := h
  cases rx
  obtain ⟨u, rfl, ru⟩ := rxs.one
  obtain ⟨t, rfl⟩ := ru
  obtain ⟨its, rv, ⟨⟨cls, dd, data, sl⟩, n, ho, hc, hdn, hd⟩, hlen⟩ := I.list hs
  simp only at hc hd
  subst hc hd
  have hi := strs_of_vals rv
  refine call_meets PySem.F.slot_list_count ⟨_, ho, rfl⟩ PySem.F.entry_list_count (PySem.F.args_list_count_2 _ _)
    (SeqAt.list_countAt p its.toArray n dd sl (.str k t) (isStrOf k)) ⟨ho, fun y hy => (eq_isStrOf k t hi y (by simpa using hy)).at _ _, ?_⟩
  have ec : its.toArray.toList.countP (isStrOf k) = ns.countP (· == k) := isStr_count hi
  refine ⟨.int (ns.countP (· == k) : Nat), H, I.tok _, ⟨s.toks, ?_⟩, q⟩
  show Value.int ((its.toArray.toList.countP (isStrOf k) : Nat) : Int) s.toks = Value.int ((ns.countP (· == k) : Nat) : Int) s.toks
  rw [ec]
def eLCnt (fo fa : DE) : DE := fun env h => match fo env h with
  | some (.d (.rol ds), h1) => match fa env h1 with
    | some (.d (.str s), h2) => match txts ds with
      | some ls => some (.d (.int (ls.count s : Nat)), h2)
      | none => none
    | _ => none
  | _ => none
section
variable {Γ : G} {pos apos cpos : Pos} {o e : Expr} {fo fa : DE}
theorem se_lcnt (ho : SE Γ o fo) (he : SE Γ e fa) (hbase : ∀ env, attributeBase o "count" env (eval o env) = eval o env := by intro _; rfl)
    (hfew : ∀ env, ((backTo cpos (starEach [e] env)).all (fun x => !x.1) && (backToKw cpos (keywordEach [] env)).all (fun x => x.1.isSome)
      && decide (([e] : List Expr).length + ([] : List Keyword).length + (if ([] : List Keyword).isEmpty then 0 else 1) < 30)) = true := by intro _; rfl)
    (hline : (apos.endLine == cpos.line) = true := by rfl) (hs : ∀ env, starEach [e] env = (false, eval e env) :: starEach [] env := by intro _; rfl) (hplain : ∀ env, (backTo cpos (starEach [] env)).any (·.1) = false := by intro _; rfl) :
    SE Γ (.Call (.Attribute o "count" apos) [e] [] cpos) (eLCnt fo fa) := fun X c =>
  PE.imp (pe_bm PySem.F.plainAttrs_list PySem.F.slot_list_count PySem.F.type_list_count mt_lcountS (ho X c) (pa_cons (he X c) pa_nil (hs _)) (hbase _) (hfew _) hline (hs _) (hplain _)) fun σ H Q q => by
    obtain ⟨α, O, h, env, hr, sr, rv, h', e, k⟩ := q
    unfold eLCnt at e
    split at e
    · rename_i ds h1 e1
      split at e
      · rename_i s h2 e2
        split at e
        · rename_i ls e3
          cases e
          refine ⟨α, O, h, env, hr, sr, _, h1, e1, fun α1 H1 x s1 o1 => ?_⟩
          obtain ⟨a, xs, e4, p, rl⟩ := sq_eq o1.hr o1.at_ (ds := ds) rfl
          subst e4
          have pl : ∀ {α2 : List Addr} {H2 : Hp}, (∃ h, HRel Γ.g.K α2 O H2 h) → VAt Γ.g.K α2 O H2 (.d (.rol ds)) (.ref a) → SqL Γ.g.K H2 a ((ls.map fun l => S l).map V.str) := fun {α2 H2} ⟨h, hh⟩ v => by
            obtain ⟨a', xs', e5, p1, q5⟩ := lv_sq hh v (ds := ds) rfl
            cases e5
            rw [← strs_R e3 q5]
            exact p1
          refine ⟨.inl ⟨rfl, _, by rw [c.K]; exact pl ⟨_, o1.hr⟩ o1.at_⟩, ?_⟩
          refine ⟨α1, O, h1, env, o1.hr, sr.stp hr s1, _, h', e2, fun α2 H2 y s2 o2 => ?_⟩
          refine ⟨a, ls.map fun l => S l, S s, rfl, by rw [o2.isD.str_eq], by rw [c.K]; exact pl ⟨_, o2.hr⟩ (o1.at_.stp s2), ?_⟩
          have ec : (ls.map fun l => S l).countP (· == S s) = ls.count s := by
            rw [List.countP_map, List.count]
            exact List.countP_congr fun x _ => by simp only [Function.comp, S_beq]
          rw [ec]
          exact k α2 H2 _ (s1.trans s2) (.d o2.hr R.int_mk)
        · cases e
      · cases e
    · cases e
end
def cntK : RV → RV → Hs → Option (RV × Hs)
  | .d (.rol ds), .d (.str s), h => match txts ds with
    | some ls => some (.d (.int (ls.count s : Nat)), h)
    | none => none
  | _, _, _ => none
theorem eLCnt_e {fo fa : DE} {env : Env} {h : Hs} {ds : List D} {h1 : Hs} (e : fo env h = some (.d (.rol ds), h1)) : eLCnt fo fa env h = bd (fa env h1) fun q => cntK (.d (.rol ds)) q.1 q.2 := by
  unfold eLCnt
  rw [e]
  simp only
  cases fa env h1 with
  | none => rfl
  | some q =>
    obtain ⟨x, h2⟩ := q
    cases x with
    | d d => cases d <;> rfl
    | l c => rfl
    | b c => rfl
theorem cntK_e {ls : List (List Nat)} {s : List Nat} {h : Hs} : cntK (.d (.rol (ls.map .str))) (.d (.str s)) h = some (.d (.int (ls.count s : Nat)), h) := by
  have : ∀ l : List (List Nat), txts (l.map .str) = some l := fun l => by
    induction l with
    | nil => rfl
    | cons a l ih => simp only [List.map_cons, txts, ih]
  unfold cntK
  simp only [this]
/-! t <= u of tuples of ints -/
def leTI (ns ms : List Int) : Bool := Ob.lexAt (fun j => decide (ns.getD j 0 = ms.getD j 0)) (fun j => decide (ns.getD j 0 ≤ ms.getD j 0)) (decide (ns.length ≤ ms.length)) 0 (min ns.length ms.length)
def gLeT : RV → RV → Hs → Option (RV × Hs)
  | .d (.tup ds), .d (.tup es), h => match intsD ds, intsD es with
    | some ns, some ms => some (.d (.bl (leTI ns ms)), h)
    | _, _ => none
  | _, _, _ => none
theorem ints_R {K : PySem.W.Frag} {α : List Addr} {O : Addr → Prop} {H : Hp} : ∀ {ds : List D} {ns : List Int} {xs : List V}, intsD ds = some ns → RL K α O H ds xs → xs = ns.map V.int
  | [], ns, xs, e, r => by cases e; exact r.invN
  | d :: ds, ns, xs, e, r => by
    obtain ⟨x, q, e1, r1, r2⟩ := r.inv
    cases d with
    | int i =>
      simp only [intsD] at e
      cases ei : intsD ds with
      | none => rw [ei] at e; cases e
      | some is =>
        rw [ei] at e
        cases e
        rw [e1, ints_R ei r2]
        have : x = .int i := r1.int_eq
        rw [this]
        rfl
    | _ => simp only [intsD] at e; cases e
theorem oS_leT {K : PySem.W.Frag} : OpS K (rLeT K) gLeT := fun α O H h x y rx ry rv h' Q hr ox oy e k => by
  unfold gLeT at e
  split at e
  · split at e
    · rename_i ds es h ns ms e1 e2
      cases e
      obtain ⟨a, xs, e3, p, q⟩ := ox.isD.tup_sq
      obtain ⟨b, ys, e4, p2, q2⟩ := oy.isD.tup_sq
      rw [ints_R e1 q] at p
      rw [ints_R e2 q2] at p2
      exact ⟨a, b, ns, ms, e3, e4, p, p2, k _ α H (.refl _ _) (.d hr R.bl_mk)⟩
    · cases e
  · cases e
theorem oR_leT {Γ : G} {X : Cx} (c : Γ.At X) : OpR X (compareOp .LtE) (rLeT Γ.g.K) := by
  rw [← c.K]
  exact op_leT (by have := c.hu; omega)
end F
/-! F37: own lists lent to a call that tells a plain value and touches no cell -/
namespace F
open PySem PySem.Spec PyProof.Rows L2
mutual
def noRef : D → Bool
  | .ref _ => false
  | .tup ds => noRefs ds
  | .rol ds => noRefs ds
  | .scr ds => noRefs ds
  | .non => true
  | .bl _ => true
  | .int _ => true
  | .str _ => true
def noRefs : List D → Bool
  | [] => true
  | d :: ds => noRef d && noRefs ds
end
mutual
theorem R.nr {K : PySem.W.Frag} {α : List Addr} {O : Addr → Prop} {H : Hp} : ∀ (d : D) (v : V), noRef d = true → R K α O H d v → R K [] (fun _ => False) H d v
  | .non, v, _, h => by simpa only [R] using h
  | .bl b, v, _, h => by simpa only [R] using h
  | .int i, v, _, h => by simpa only [R] using h
  | .str s, v, _, h => by simpa only [R] using h
  | .tup ds, v, n, h => by
    simp only [R] at h ⊢
    obtain ⟨a, xs, e, p, q⟩ := h
    refine ⟨a, xs, e, ?_, RL.nr ds xs (by simpa only [noRef] using n) q⟩
    rcases p with ⟨p1, p2, p3⟩ | p
    · exact .inl ⟨p1, by simp, fun z => z⟩
    · exact .inr p
  | .rol ds, v, n, h => by
    simp only [R] at h ⊢
    obtain ⟨a, xs, e, ⟨p1, p2, p3⟩, q⟩ := h
    exact ⟨a, xs, e, ⟨p1, by simp, fun z => z⟩, RL.nr ds xs (by simpa only [noRef] using n) q⟩
  | .scr ds, v, n, h => by
    simp only [R] at h ⊢
    obtain ⟨a, xs, e, p, q⟩ := h
    refine ⟨a, xs, e, ?_, RL.nr ds xs (by simpa only [noRef] using n) q⟩
    rcases p with ⟨p1, p2, p3⟩ | p
    · exact .inl ⟨p1, by simp, fun z => z⟩
    · exact .inr p
  | .ref n, v, z, h => by simp only [noRef] at z; cases z
theorem RL.nr {K : PySem.W.Frag} {α : List Addr} {O : Addr → Prop} {H : Hp} : ∀ (ds : List D) (xs : List V), noRefs ds = true → RL K α O H ds xs → RL K [] (fun _ => False) H ds xs
  | [], xs, _, h => by simpa only [RL] using h
  | d :: ds, xs, n, h => by
    simp only [noRefs, Bool.and_eq_true] at n
    simp only [RL] at h ⊢
    obtain ⟨x, r, e, p, q⟩ := h
    exact ⟨x, r, e, R.nr d x n.1 p, RL.nr ds r n.2 q⟩
end
def lendS : Slot → Slot
  | .v d => if noRef d = true then .v d else .no
  | .c (.lst ds) => if noRefs ds = true then .v (.rol ds) else .no
  | _ => .no
def scal : D → Bool
  | .non => true
  | .bl _ => true
  | .int _ => true
  | .str _ => true
  | _ => false
def lentK (h : Hs) : RV × Hs → Option (RV × Hs)
  | (.d d, []) => if scal d = true then some (.d d, h) else none
  | _ => none
def eLent (f : DE) : DE := fun env h => match f (env.map lendS) [] with
  | some p => lentK h p
  | none => none
theorem eLent_e {f : DE} {env : Env} {h : Hs} : eLent f env h = bd (f (env.map lendS) []) (lentK h) := by
  unfold eLent
  cases f (env.map lendS) [] <;> rfl
theorem lentK_e {h : Hs} {d : D} (e : scal d = true) : lentK h (.d d, []) = some (.d d, h) := by
  show (if scal d = true then _ else _) = _
  rw [if_pos e]
theorem lend_at {env : Env} {i : Nat} {ds : List D} (e : env[i]? = some (.c (.lst ds))) (n : noRefs ds = true) : (env.map lendS)[i]? = some (.v (.rol ds)) := by
  rw [List.getElem?_map, e]
  show some (if noRefs ds = true then Slot.v (.rol ds) else .no) = _
  rw [if_pos n]
theorem lend_v {env : Env} {i : Nat} {d : D} (e : env[i]? = some (.v d)) (n : noRef d = true) : (env.map lendS)[i]? = some (.v d) := by
  rw [List.getElem?_map, e]
  show some (if noRef d = true then Slot.v d else .no) = _
  rw [if_pos n]
theorem SRel.lend {K : PySem.W.Frag} {α : List Addr} {O : Addr → Prop} {H : Hp} {σ : St} {env : Env} (s : SRel K α O H σ env) : SRel K [] (fun _ => False) H σ (env.map lendS) where
  len := by rw [List.length_map]; exact s.len
  val := fun i d e => by
    rw [List.getElem?_map] at e
    cases e1 : env[i]? with
    | none => rw [e1] at e; cases e
    | some sl =>
      rw [e1] at e
      simp only [Option.map_some, Option.some.injEq] at e
      cases sl with
      | no => cases e
      | v d' =>
        simp only [lendS] at e
        split at e
        · rename_i n
          cases e
          obtain ⟨x, e2, r⟩ := s.val i _ e1
          exact ⟨x, e2, R.nr _ _ n r⟩
        · cases e
      | c c =>
        cases c with
        | dct kvs => cases e
        | lst ds =>
          simp only [lendS] at e
          split at e
          · rename_i n
            cases e
            obtain ⟨a, e2, ⟨xs, e3, rl⟩, o⟩ := s.own i _ e1
            refine ⟨.ref a, e2, ?_⟩
            simp only [R]
            exact ⟨a, xs, rfl, ⟨e3, by simp, fun z => z⟩, RL.nr _ _ n rl⟩
          · cases e
  own := fun i c e => by
    rw [List.getElem?_map] at e
    cases e1 : env[i]? with
    | none => rw [e1] at e; cases e
    | some sl =>
      rw [e1] at e
      simp only [Option.map_some, Option.some.injEq] at e
      cases sl with
      | no => cases e
      | v d' => simp only [lendS] at e; split at e <;> cases e
      | c c =>
        cases c with
        | dct kvs => cases e
        | lst ds => simp only [lendS] at e; split at e <;> cases e
  dis := fun i j c c' a e => by
    rw [List.getElem?_map] at e
    cases e1 : env[i]? with
    | none => rw [e1] at e; cases e
    | some sl =>
      rw [e1] at e
      simp only [Option.map_some, Option.some.injEq] at e
      cases sl with
      | no => cases e
      | v d' => simp only [lendS] at e; split at e <;> cases e
      | c c =>
        cases c with
        | dct kvs => cases e
        | lst ds => simp only [lendS] at e; split at e <;> cases e
theorem HRel.empty {K : PySem.W.Frag} {H : Hp} : HRel K [] (fun _ => False) H [] where
  len := rfl
  nd := List.nodup_nil
  cell := fun n c a e => by simp at e
  dis := fun a m => by simp at m
  trk := fun a m => m.elim
theorem R.scal {K : PySem.W.Frag} {α α' : List Addr} {O O' : Addr → Prop} {H H' : Hp} {d : D} {x : V} (e : scal d = true) (r : R K α O H d x) : R K α' O' H' d x := by
  cases d <;> first | (simp only [F.scal] at e; cases e; done) | simpa only [R] using r
theorem se_lent {Γ : G} {e : Expr} {f : DE} (he : SE Γ e f) : SE Γ e (eLent f) := fun X c =>
  PE.imp (he X c) fun σ H Q q => by
    obtain ⟨α, O, h, env, hr, sr, rv, h', e1, k⟩ := q
    unfold eLent at e1
    split at e1
    · rename_i p ep
      obtain ⟨rv2, h2⟩ := p
      unfold lentK at e1
      split at e1
      · rename_i d hh
        split at e1
        · rename_i sc
          cases hh
          cases e1
          refine ⟨[], fun _ => False, [], env.map lendS, HRel.empty, sr.lend, _, _, ep, fun α1 H1 x s1 o1 => ?_⟩
          have fr : ∀ a o, H a = some o → H1 a = some o := fun a o e => s1.fr a o e (by simp)
          have st : Stp α H α H1 := ⟨fun a o e _ => fr a o e, fun _ _ z => z, fun _ z => .inl z⟩
          refine k α H1 x st (.d ?_ (R.scal sc o1.isD))
          exact ⟨hr.len, hr.nd, fun n c a e2 e3 => (hr.cell n c a e2 e3).mv st.mv fun o e => fr a o e, hr.dis, fun a o => by obtain ⟨ob, e⟩ := hr.trk a o; exact ⟨ob, fr a ob e⟩⟩
        · cases e1
      · cases e1
    · cases e1
end F
/-! F38: for over a list of the heap; o.clear(); own slots that become cells -/
namespace F
open PySem PySem.Spec PyProof.Rows L2
def dFlR (n : Nat) (g : DG) (b : DS) : Nat → Nat → DS
  | 0, _ => fun _ _ => none
  | k + 1, j => fun env h => match h[n]? with
    | some (.lst ds) => match ds[j]? with
      | none => some (.nx env h)
      | some d => match g d env with
        | some env1 => match b env1 h with
          | some (.nx env2 h2) => dFlR n g b k (j + 1) env2 h2
          | some (.ct env2 h2) => dFlR n g b k (j + 1) env2 h2
          | some (.bk env2 h2) => some (.nx env2 h2)
          | r => r
        | none => none
    | _ => none
def dForR (f : DE) (g : DG) (b : DS) (k : Nat) : DS := fun env h => match f env h with
  | some (.d (.ref n), h1) => dFlR n g b k 0 env h1
  | _ => none
section
variable {Γ : G} {pos : Pos} {tg e : Expr} {body : List Stmt} {ws : List Nat} {f : DE} {g : DG} {b : DS} {kk : Nat}
theorem s1_forR (he : SE Γ e f) (hg : SG Γ tg ws g) (hb : SS Γ body b) (hs : ∀ env x, foldedSetIterable e env x = pure x := by intro _ _; rfl) : S1 Γ (.For tg e body [] pos) (dForR f g b kk) := fun X cc B0 => by
  refine ⟨fun pins s σ H D I q => ?_⟩
  obtain ⟨α, O, h, env, hr, sr, br, o, eo, k⟩ := q
  unfold dForR at eo
  split at eo
  · rename_i n h1 e1
    refine (ps_for (wi := iList X.K (tE Γ.g.K f)) (g := tG Γ.g.K ws g) (tb := fun D σ H => ∃ B, tS Γ.g.K B b D σ H) (by rw [cc.xe]; exact PassesOwn.never) cc.calm (pi_list (he X cc)) (hg X cc) ⟨fun pins s σ H D I q => by
      obtain ⟨B, q⟩ := q
      exact (hb X cc B).run pins s σ H D I q⟩ (hs _)).run pins s σ H D I ?_
    refine ⟨α, O, h, env, hr, sr, _, h1, e1, fun α1 H1 x s1 o1 => ?_⟩
    have r1 := o1.hr
    have ra := o1.isD
    simp only [R] at ra
    obtain ⟨a, ea, an⟩ := ra
    have sr1 := sr.stp hr s1
    have br1 := br.stp hr r1 s1
    have k1 := SK.of_now r1 br1 sr1 k
    have cellOf : ∀ {α' : List Addr} {O' : Addr → Prop} {H' : Hp} {h' : Hs} {ds : List F.D}, HRel Γ.g.K α' O' H' h' → α'[n]? = some a → h'[n]? = some (.lst ds) → ∃ xs, H' a = some (.lst xs) ∧ RL Γ.g.K α' O' H' ds xs := fun {α' O' H' h' ds} hr' e2 e3 => by
      obtain ⟨xs, e4, rl⟩ := hr'.cell n _ a e3 e2
      exact ⟨xs, e4, rl⟩
    obtain ⟨kk0, hk0⟩ : ∃ kk0, kk = kk0 + 1 := by
      cases kk with
      | zero => cases eo
      | succ kk0 => exact ⟨kk0, rfl⟩
    have sq0 : ∃ xs, SqL X.K H1 a xs := by
      have eo2 := eo
      rw [hk0] at eo2
      unfold dFlR at eo2
      split at eo2
      · rename_i ds ed
        obtain ⟨xs, e4, rl⟩ := cellOf r1 an ed
        exact ⟨xs, SqL.of e4⟩
      · cases eo2
    refine ⟨a, ea, sq0, ?_⟩
    refine ⟨fun i m σ' H' => ∃ α' O' h' env', HRel Γ.g.K α' O' H' h' ∧ SRel Γ.g.K α' O' H' σ' env' ∧ BRel (Bs.now r1 (Own σ env)) α' O' H' σ' env' ∧ dFlR n g b m i env' h' = some o,
      ⟨kk, α1, O, h1, env, r1, sr1, BRel.now r1 sr1, eo⟩, ?_⟩
    rintro i m σ' H' ⟨α', O', h', env', hr', sr', br', e'⟩
    have an' : α'[n]? = some a := br'.bh.pre n a an
    cases m with
    | zero => cases e'
    | succ m =>
      unfold dFlR at e'
      split at e'
      · rename_i ds ed
        obtain ⟨xs, ex, rl⟩ := cellOf hr' an' ed
        have sq : SqL X.K H' a xs := SqL.of ex
        split at e'
        · rename_i en
          cases e'
          refine .inl ⟨⟨xs, sq, ?_⟩, k1 α' O' H' σ' hr' sr' br'⟩
          rw [← rl.length]
          exact List.getElem?_eq_none_iff.mp en
        · rename_i d ed2
          obtain ⟨y, ey, ry⟩ := rl.get ed2
          refine .inr ⟨⟨xs, y, sq, ey⟩, fun σ'' H'' => ∃ α'' O'' h'' env'', HRel Γ.g.K α'' O'' H'' h'' ∧ SRel Γ.g.K α'' O'' H'' σ'' env'' ∧ BRel (Bs.now r1 (Own σ env)) α'' O'' H'' σ'' env'' ∧ dFlR n g b m (i + 1) env'' h'' = some o,
            fun σ'' H'' ⟨α'', O'', h'', env'', z1, z2, z3, z4⟩ => ⟨m, Nat.lt_succ_self m, α'', O'', h'', env'', z1, z2, z3, z4⟩, fun x2 H'' yl => ?_⟩
          obtain ⟨eH, hx⟩ := yl
          subst eH
          have exy := hx xs sq
          rw [ey] at exy
          cases exy
          split at e'
          · rename_i env1 e2
            refine ⟨α', O', h', env', d, hr', sr', ry, env1, e2, fun σ3 sr3 l3 _ => ?_⟩
            have br3 := br'.less l3
            split at e'
            · rename_i env2 h2 e3
              exact ⟨Bs.now r1 (Own σ env), α', O', h', env1, hr', sr3, br3, _, e3, fun α4 O4 H4 σ4 hr4 sr4 br4 => ⟨α4, O4, h2, env2, hr4, sr4, br4, e'⟩⟩
            · rename_i env2 h2 e3
              exact ⟨Bs.now r1 (Own σ env), α', O', h', env1, hr', sr3, br3, _, e3, fun α4 O4 H4 σ4 hr4 sr4 br4 => ⟨α4, O4, h2, env2, hr4, sr4, br4, e'⟩⟩
            · rename_i env2 h2 e3
              cases e'
              exact ⟨Bs.now r1 (Own σ env), α', O', h', env1, hr', sr3, br3, _, e3, k1⟩
            · rename_i r n1 n2 n3
              refine ⟨Bs.now r1 (Own σ env), α', O', h', env1, hr', sr3, br3, o, e', ?_⟩
              cases o with
              | nx env2 h2 => exact absurd e' (n1 _ _)
              | ct env2 h2 => exact absurd e' (n2 _ _)
              | bk env2 h2 => exact absurd e' (n3 _ _)
              | rt rv h2 => exact k1
          · cases e'
      · cases e'
  · cases eo
end
/-! o.clear() -/
def dClrR (fo : DE) : DS := fun env h => match fo env h with
  | some (.d (.ref n), h1) => match h1[n]? with
    | some (.lst _) => some (.nx env (h1.set n (.lst [])))
    | _ => none
  | _ => none
section
variable {Γ : G} {pos apos cpos : Pos} {o : Expr} {fo : DE}
theorem s1_clrR (ho : SE Γ o fo) (hbase : ∀ env, attributeBase o "clear" env (eval o env) = eval o env := by intro _; rfl)
    (hline : (apos.endLine == cpos.line) = true := by rfl)
    (hsw : ∀ env, swapsWith (.Call (.Attribute o "clear" apos) [] [] cpos) none pos.line env = pure false := by intro _; rfl) :
    S1 Γ (.Expr (.Call (.Attribute o "clear" apos) [] [] cpos) pos) (dClrR fo) := fun X c B =>
  PS.imp (ps_expr (pe_bm0 PySem.F.plainAttrs_list PySem.F.slot_list_clear PySem.F.type_list_clear mt_clear (ho X c) (hbase _) hline) (hsw _)) fun D σ H q => by
    obtain ⟨α, O, h, env, hr, sr, br, o, e, k⟩ := q
    unfold dClrR at e
    split at e
    · rename_i n h1 e1
      split at e
      · rename_i es e2
        cases e
        refine ⟨α, O, h, env, hr, sr, _, h1, e1, fun α1 H1 x s1 o1 => ?_⟩
        obtain ⟨a, e5, e6, xs, e7, rl⟩ := o1.isD.ref_cell o1.hr e2
        subst e5
        refine ⟨.inl ⟨rfl, xs, sqL_some e7⟩, ?_⟩
        refine ⟨a, xs, rfl, rfl, e7, ?_⟩
        obtain ⟨w1, w2⟩ := wrR (c := .lst []) (o := .lst []) o1.hr e6 ⟨[], upd_same, RL.nil⟩
        have s4 := s1.trans w2
        exact k α1 O _ σ w1 (sr.stp hr s4) (br.stp hr w1 s4)
      · cases e
    · cases e
end
/-! equations -/
def frK2 (g : DG) (b : DS) (k : Nat) (env : Env) : RV × Hs → Option SOut
  | (.d (.ref n), h1) => dFlR n g b k 0 env h1
  | _ => none
theorem dForR_e {f : DE} {g : DG} {b : DS} {k : Nat} {env : Env} {h : Hs} : dForR f g b k env h = bd (f env h) fun p => frK2 g b k env p := by
  unfold dForR
  cases f env h with
  | none => rfl
  | some p =>
    obtain ⟨x, h1⟩ := p
    cases x with
    | d d => cases d <;> rfl
    | l c => rfl
    | b c => rfl
theorem dFlR_stop {n : Nat} {g : DG} {b : DS} {k j : Nat} {env : Env} {h : Hs} {ds : List D} (e : h[n]? = some (.lst ds)) (hj : ds.length ≤ j) : dFlR n g b (k + 1) j env h = some (.nx env h) := by
  unfold dFlR
  rw [e]
  simp only [List.getElem?_eq_none hj]
theorem dFlR_step {n : Nat} {g : DG} {b : DS} {k j : Nat} {env : Env} {h : Hs} {ds : List D} {d : D} (e : h[n]? = some (.lst ds)) (hj : ds[j]? = some d) : dFlR n g b (k + 1) j env h = bd (g d env) fun env1 => rnd (dFlR n g b k (j + 1)) (b env1 h) := by
  rw [show dFlR n g b (k + 1) j env h = match h[n]? with
    | some (.lst ds) => match ds[j]? with
      | none => some (.nx env h)
      | some d => match g d env with
        | some env1 => match b env1 h with
          | some (.nx env2 h2) => dFlR n g b k (j + 1) env2 h2
          | some (.ct env2 h2) => dFlR n g b k (j + 1) env2 h2
          | some (.bk env2 h2) => some (.nx env2 h2)
          | r => r
        | none => none
    | _ => none from rfl, e]
  simp only [hj]
  cases g d env with
  | none => rfl
  | some env1 =>
    rw [bd_some]
    simp only
    cases b env1 h with
    | none => rfl
    | some s => cases s <;> rfl
def clrC (n : Nat) (env : Env) (h : Hs) : Option Cell → Option SOut
  | some (.lst _) => some (.nx env (h.set n (.lst [])))
  | _ => none
def clrK (env : Env) : RV × Hs → Option SOut
  | (.d (.ref n), h1) => clrC n env h1 h1[n]?
  | _ => none
theorem dClrR_e {fo : DE} {env : Env} {h : Hs} : dClrR fo env h = bd (fo env h) (clrK env) := by
  unfold dClrR
  cases fo env h with
  | none => rfl
  | some p =>
    obtain ⟨x, h1⟩ := p
    rw [bd_some]
    cases x with
    | d d =>
      cases d with
      | ref n =>
        show _ = clrC n env h1 h1[n]?
        simp only
        cases h1[n]? with
        | none => rfl
        | some c => cases c <;> rfl
      | _ => rfl
    | l c => rfl
    | b c => rfl
theorem dPro_c {i : Nat} {f : DS} {env : Env} {h : Hs} {c : Cell} (e : env[i]? = some (.c c)) : dPro i f env h = f (env.set i (.v (.ref h.length))) (h ++ [c]) := by
  unfold dPro
  rw [e]
theorem dPro_v {i : Nat} {f : DS} {env : Env} {h : Hs} {d : D} (e : env[i]? = some (.v d)) : dPro i f env h = f env h := by
  unfold dPro
  rw [e]
end F
/-! F39: s.split(); range with a step of any usual size -/
namespace F
open PySem PySem.Spec PyProof.Rows L2
def wdsL (s : List Nat) : List (List Nat) := (Txt.words (S s)).map TL.tl
theorem wdsL_sum (s : List Nat) : ((wdsL s).map (·.length)).sum + (wdsL s).length ≤ s.length + 1 := by
  have h := StrLaws.words_weight (S s)
  have e1 : (S s).length = s.length := S_len s
  have e2 : ((wdsL s).map (·.length)) = (Txt.words (S s)).map (·.length) := by
    unfold wdsL
    rw [List.map_map]
    exact List.map_congr_left fun x _ => by show (TL.tl x).length = x.length; exact Array.length_toList
  rw [e2, show (wdsL s).length = (Txt.words (S s)).length by unfold wdsL; rw [List.length_map]]
  omega
theorem sum_mem : ∀ {l : List Nat} {a : Nat}, a ∈ l → a ≤ l.sum
  | b :: l, a, h => by
    rw [List.sum_cons]
    rcases List.mem_cons.mp h with rfl | z
    · omega
    · have := sum_mem z; omega
theorem wdsL_len {s w : List Nat} (h : w ∈ wdsL s) : w.length ≤ s.length + 1 := by
  have h1 := wdsL_sum s
  have h2 := sum_mem (List.mem_map_of_mem (f := (·.length)) h)
  omega
def gWds (s : List Nat) (h : Hs) : Option (RV × Hs) := if s.length + 2 ≤ sizeLine then some (.l (.lst ((wdsL s).map .str)), h) else none
theorem me_words {K : PySem.W.Frag} : Me0 K (fun x xs H Q => ∃ a, x = .str a ∧ xs = [] ∧ a.length + 2 ≤ sizeLine ∧ rNewStrs (Txt.words a) H Q) gWds := fun α O H h s rv h' Q hr e k => by
  unfold gWds at e
  split at e
  · rename_i hc
    cases e
    refine ⟨S s, rfl, rfl, by rw [S_len]; exact hc, fun p hp => ?_⟩
    exact k _ α _ (Stp.upd hr hp) (VOk.fresh hr hp (RL_strs rfl))
  · cases e
section
variable {Γ : G} {pos apos : Pos} {o e : Expr} {fo fa : DE}
theorem se_words (ho : SE Γ o fo) (hb : ∀ env, attributeBase o "split" env (eval o env) = eval o env := by intro _; rfl) (hl : (apos.endLine == pos.line) = true := by rfl) :
    SE Γ (.Call (.Attribute o "split" apos) [] [] pos) (eM0 gWds fo) := se_m0 PySem.F.slot_str_split PySem.F.type_str_split (fun _ _ => mt_words) me_words ho hb hl
end
def m0K (g : List Nat → Hs → Option (RV × Hs)) : RV × Hs → Option (RV × Hs)
  | (.d (.str s), h1) => g s h1
  | _ => none
theorem eM0_e {g : List Nat → Hs → Option (RV × Hs)} {fo : DE} {env : Env} {h : Hs} : eM0 g fo env h = bd (fo env h) (m0K g) := by
  unfold eM0
  cases fo env h with
  | none => rfl
  | some p =>
    obtain ⟨x, h1⟩ := p
    cases x with
    | d d => cases d <;> rfl
    | l c => rfl
    | b c => rfl
theorem gWds_e {s : List Nat} {h : Hs} (hz : s.length ≤ 100000) : gWds s h = some (.l (.lst ((wdsL s).map .str)), h) := if_pos (by have : (100000 : Nat) + 2 ≤ sizeLine := by decide
                                                                                                                                   omega)
/-! range(a, b, c) with a great step -/
def RgL (i j c : Int) (n : Nat) : Prop := c ≠ 0 ∧ c.natAbs < 1267650600228229401496703205376 ∧ Builtin.Range.small i j c = true ∧ Builtin.Range.rangeSize i j c = n
def iRngL (ta : TA) : TI := fun σ H R => ta σ H fun vs H1 => ∃ (i j c : Int) (n : Nat), vs = [.int i, .int j, .int c] ∧ RgL i j c n ∧ R (Itc i c n) H1
theorem pi_rangeL {X : Cx} {tg a b c : Expr} {ta : TA} {p pos : Pos} (hg : Gl X "range") (hm : X.mg "range" = none) (ha : PA X [a, b, c] ta)
    (hs : starEach [a, b, c] X.env = (false, eval a X.env) :: starEach [b, c] X.env := by rfl) (hpl : (backTo pos (starEach [b, c] X.env)).any (·.1) = false := by rfl) :
    PI X tg (.Call (.Name "range" p) [a, b, c] [] pos) (iRngL ta) := by
  refine ⟨fun pins s σ H R I h => ?_⟩
  refine Call_ (ld_blt I hg hm boot_range (PyProof.Rows.callWith_type1 (thn (ha.run pos pins s σ H _ I h) fun us s1 ⟨vs, H1, I1, r1, q1⟩ => ?_) hs hpl))
  obtain ⟨i, j, k, n, e, ⟨c0, c1, c2, c3⟩, q⟩ := q1
  subst e
  cases r1 with
  | cons r rr =>
    cases rr with
    | cons r' rr =>
      cases rr with
      | cons r'' rr =>
        cases rr
        obtain ⟨t, rfl⟩ := r
        obtain ⟨t', rfl⟩ := r'
        obtain ⟨t'', rfl⟩ := r''
        refine call_range_3 c0 ?_ (.inl (PyProof.noPylong_of_log2 (log_small c1)))
        refine wpAny_pyIter_range (IsRange.new ..) c2 ?_
        have I2 : Inv X pins σ H1 { s1 with heap := s1.heap.push { cls := .type "range", data := .fields #[.int i t, .int j t', .int k t''] } } := I1.kept (t' := s1.toks) fun b o e => Heap.get?_push_of_some _ e
        refine pi_one (tk := s1.toks) I2 _ (turn_rangeC _ i k n) ?_ q
        have e1 : i + ((0 : Nat) : Int) * k = i := by simp
        have e2 : (n : Int) - ((0 : Nat) : Int) = Builtin.Range.rangeSize i j k := by rw [c3]; simp
        show IsRangeIter _ _ (i + ((0 : Nat) : Int) * k) ((n : Int) - ((0 : Nat) : Int)) k
        rw [e1, e2]
        exact Heap.get?_push_size _ rfl
def iR3L (f : DA) : DI := fun env h => match f env h with
  | some ([.d (.int i), .d (.int j), .d (.int c)], h1) => if c ≠ 0 ∧ c.natAbs < 1267650600228229401496703205376 ∧ Builtin.Range.small i j c = true ∧ Builtin.Range.rangeSize i j c = (Builtin.Range.rangeSize i j c).toNat then some (rangeL i c (Builtin.Range.rangeSize i j c).toNat, h1) else none
  | _ => none
section
variable {Γ : G} {pos p : Pos} {tg a b c : Expr} {fa : DA}
theorem si_range3L (hm : Γ.g.mg ("range" : Str) = none) (ha : SA Γ [a, b, c] fa) (hg : Γ.sc.names.lookup ("range" : Str) = some .globalImplicit := by rfl) (hs : ∀ env, starEach [a, b, c] env = (false, eval a env) :: starEach [b, c] env := by intro _; rfl) (hpl : ∀ env, (backTo pos (starEach [b, c] env)).any (·.1) = false := by intro _; rfl) :
    SI Γ tg (.Call (.Name "range" p) [a, b, c] [] pos) (iR3L fa) := fun X cc =>
  PI.imp (pi_rangeL (Gl.of cc hg) (by rw [cc.mg]; exact hm) (ha X cc) (hs _) (hpl _)) fun σ H R q => by
    obtain ⟨α, O, h, env, hr, sr, ds, h', e, k⟩ := q
    unfold iR3L at e
    split at e
    · rename_i i j c h1 e1
      split at e
      · rename_i hb
        cases e
        refine ⟨α, O, h, env, hr, sr, _, _, e1, fun α1 H1 xs s1 r1 o1 => ?_⟩
        obtain ⟨x, y, z, ex, o, o', o''⟩ := VAts3 o1
        exact ⟨i, j, c, _, by rw [ex, o.isD.int_eq, o'.isD.int_eq, o''.isD.int_eq], ⟨hb.1, hb.2.1, hb.2.2.1, hb.2.2.2⟩, k α1 H1 _ s1 r1 itok_range3⟩
      · cases e
    · cases e
end
end F
/-! F40: e.replace(y, z) of written texts, in a def's body (a token is out there) -/
namespace F
open PySem PySem.Spec PyProof.Rows L2 CwR
def SET (Γ : G) (e : Expr) (f : DE) : Prop := ∀ X : Cx, Γ.At X → PET X e (tE Γ.g.K f)
def S1T (Γ : G) (st : Stmt) (f : DS) : Prop := ∀ X : Cx, Γ.At X → ∀ B, PST X st (tS Γ.g.K B f)
def SST (Γ : G) (sts : List Stmt) (f : DS) : Prop := ∀ X : Cx, Γ.At X → ∀ B, PSsT X sts (tS Γ.g.K B f)
theorem PET.imp {X : Cx} {e : Expr} {t u : TE} (h : PET X e t) (i : ∀ σ H Q, u σ H Q → t σ H Q) : PET X e u := fun pins s σ H Q h0 I q => h pins s σ H Q h0 I (i σ H Q q)
theorem PST.imp {X : Cx} {st : Stmt} {t u : TS} (h : PST X st t) (i : ∀ D σ H, u D σ H → t D σ H) : PST X st u := fun pins s σ H D h0 I q => h pins s σ H D h0 I (i D σ H q)
theorem PSsT.imp {X : Cx} {st : List Stmt} {t u : TS} (h : PSsT X st t) (i : ∀ D σ H, u D σ H → t D σ H) : PSsT X st u := fun pins s σ H D h0 I q => h pins s σ H D h0 I (i D σ H q)
def rplN (s y z : List Nat) : List Nat := TL.tl (Txt.replace (S s) (S y) (S z))
theorem S_rpl (s y z : List Nat) : Txt.replace (S s) (S y) (S z) = S (rplN s y z) := TL.ext_tl (by rw [S_tl]; rfl)
def eRpl (fo : DE) (y z : List Nat) : DE := fun env h => match fo env h with
  | some (.d (.str s), h1) => if s.length + (s.length + 1) * z.length ≤ 16777216 then some (.d (.str (rplN s y z)), h1) else none
  | _ => none
section
variable {Γ : G} {pos apos c0 c1 : Pos} {o e : Expr} {fo fe : DE} {y z : List Nat} {j k : Nat} {ys zs : Str}
theorem rpl_imp {K : PySem.W.Frag} {σ : St} {H : Hp} {Q : VK} (q : tE K (eRpl fo y z) σ H Q) : CwR.tReplC (tE K fo) (S y) (S z) σ H Q := by
  obtain ⟨α, O, h, env, hr, sr, rv, h', e, k⟩ := q
  unfold eRpl at e
  split at e
  · rename_i s h1 e1
    split at e
    · rename_i hz
      cases e
      refine ⟨α, O, h, env, hr, sr, _, _, e1, fun α1 H1 x s1 o1 => ?_⟩
      refine ⟨S s, o1.isD.str_eq, by rw [S_len, S_len]; exact hz, ?_⟩
      rw [S_rpl]
      exact k α1 H1 _ s1 (.d o1.hr R.str_mk)
    · cases e
  · cases e
theorem set_rpl (ho : SE Γ o fo) (hy : ys = S y := by rfl) (hzz : zs = S z := by rfl) (hyz : (ys == zs) = false := by decide)
    (hst : ∀ env, starEach [.Constant (.str ys) j c0, .Constant (.str zs) k c1] env = [(false, eval (.Constant (.str ys) j c0) env), (false, eval (.Constant (.str zs) k c1) env)] := by intro _; rfl)
    (hbase : ∀ env, attributeBase o "replace" env (eval o env) = eval o env := by intro _; rfl) (hline : (apos.endLine == pos.line) = true := by rfl) :
    SET Γ (.Call (.Attribute o "replace" apos) [.Constant (.str ys) j c0, .Constant (.str zs) k c1] [] pos) (eRpl fo y z) := fun X c => by
  subst hy hzz
  exact PET.imp (pet_replC (ho X c) hyz (hst _) (hbase _) hline) fun σ H Q q => rpl_imp q
theorem set_rplT (ho : SET Γ o fo) (hy : ys = S y := by rfl) (hzz : zs = S z := by rfl) (hyz : (ys == zs) = false := by decide)
    (hst : ∀ env, starEach [.Constant (.str ys) j c0, .Constant (.str zs) k c1] env = [(false, eval (.Constant (.str ys) j c0) env), (false, eval (.Constant (.str zs) k c1) env)] := by intro _; rfl)
    (hbase : ∀ env, attributeBase o "replace" env (eval o env) = eval o env := by intro _; rfl) (hline : (apos.endLine == pos.line) = true := by rfl) :
    SET Γ (.Call (.Attribute o "replace" apos) [.Constant (.str ys) j c0, .Constant (.str zs) k c1] [] pos) (eRpl fo y z) := fun X c => by
  subst hy hzz
  exact PET.imp (pet_replT (ho X c) hyz (hst _) (hbase _) hline) fun σ H Q q => rpl_imp q
theorem set_of (h : SE Γ e fe) : SET Γ e fe := fun X c => PET.of (h X c)
theorem s1t_ret (he : SET Γ e fe) (hb : ∀ env h c h1, fe env h ≠ some (.b c, h1)) : S1T Γ (.Return (some e) pos) (dRet fe) := fun X c B => PST.imp (pst_ret (he X c)) fun D σ H q => by
  obtain ⟨α, O, h, env, hr, sr, br, o, e, k⟩ := q
  unfold dRet at e
  split at e
  · rename_i rv h1 e1
    cases e
    refine ⟨α, O, h, env, hr, sr, _, h1, e1, fun α1 H1 x s1 o1 => ?_⟩
    exact k α1 O H1 x (.d (br.bh.stp hr o1.hr s1) o1.hr o1.isD)
  · rename_i rv h1 e1
    cases e
    refine ⟨α, O, h, env, hr, sr, _, h1, e1, fun α1 H1 x s1 o1 => ?_⟩
    have r0 := o1.hr
    cases o1 with
    | l n r q => exact k α1 _ H1 _ (.l ((br.bh.stp hr r0 s1).ins (br.bh.none_back n)) r q (.inl rfl) (.inl (br.bh.none_back n)))
  · rename_i rv h1 e1
    exact absurd e1 (hb _ _ _ _)
  · cases e
theorem nb_rpl : ∀ env h c h1, eRpl fo y z env h ≠ some (.b c, h1) := fun env h c h1 e => by
  unfold eRpl at e
  split at e
  · split at e <;> cases e
  · cases e
theorem sst_of {sts : List Stmt} {f : DS} (h : SS Γ sts f) : SST Γ sts f := fun X c B => PSsT.of (h X c B)
end
theorem eRpl_e {fo : DE} {y z : List Nat} {env : Env} {h : Hs} {s : List Nat} {h1 : Hs} (e : fo env h = some (.d (.str s), h1)) (hz : s.length + (s.length + 1) * z.length ≤ 16777216) : eRpl fo y z env h = some (.d (.str (rplN s y z)), h1) := by
  unfold eRpl
  rw [e]
  exact if_pos hz
theorem PSsT.nox {X : Cx} {st : List Stmt} {t : TS} (h : PSsT X.nox st t) : PSsT X st t := fun pins s σ H D h0 I hw =>
  wpAny_mono (h pins s σ H D h0 (I.wish _) hw) (fun _ _ q => q.unwish) fun _ _ z => False.elim z
theorem sst_one {Γ : G} {st : Stmt} {f : DS} (h : S1T Γ st f) : SST Γ [st] f := fun X c B => PSsT.imp (psst_cons (h X c B) psst_nil) fun D σ H q => by
  obtain ⟨α, O, h, env, hr, sr, br, o, e, k⟩ := q
  exact ⟨α, O, h, env, hr, sr, br, o, e, by cases o <;> exact k⟩
theorem fn_okT {g : GG} {x qual : Str} {st : Stmt} {f : Addr} {fd : FuncData} {N ps : List Str} {k : Nat} {b : DS} (F : Fun g.K x qual st f fd) (S : FnScope N ps (defScope st)) (hnc : ∀ y ∈ (defScope st).names, y.2 ≠ .cell) (hps : 1 ≤ ps.length) (hb : SST ⟨g, N, defScope st, k, fun _ => true⟩ (defBody st) b) :
    FnOk g.P g.w g.K g.mg g.base CX0 (k + 1) f fd ps (spM g.K ps.length (mOf N.length b)) := by
  obtain ⟨oc, od, kV, doc, pm, an, cdv, ct, osl, rfl, lk, hcd⟩ := F.ex
  refine fn_ofT lk hcd S hnc hps (fun vs H Q E q => ?_) (fun A outer s H vs Q E hr q => ?_)
  · obtain ⟨α, O, h, ds, hr, rl, hl, _⟩ := q
    rw [← rl.length]; exact hl
  · obtain ⟨α, O, h, ds, hr1, rl, hl, rv, h', e, nb, k'⟩ := q
    let B : Bs := ⟨α, O, H, fun _ => False, hr1.trk, fun a o m => hr1.dis a m o⟩
    refine ⟨_, PSsT.nox (hb _ ⟨rfl, rfl, rfl, rfl, rfl, rfl, rfl, S.nd, rfl, hr, rfl, rfl⟩ B), ?_⟩
    have sr := SRel.start (N.length - ds.length) rl
    have hst : L2.start N vs = vs.map some ++ List.replicate (N.length - ds.length) none := by
      unfold L2.start
      rw [rl.length]
    have noown : ∀ a, ¬ Own (L2.start N vs) (ds.map Slot.v ++ List.replicate (N.length - ds.length) .no) a := fun a w => by
      obtain ⟨i, c, e, _⟩ := w
      rcases List.mem_append.mp (List.mem_of_getElem? e) with z | z
      · obtain ⟨_, _, q⟩ := List.mem_map.mp z
        cases q
      · cases (List.mem_replicate.mp z).2
    have br : BRel B α O H (L2.start N vs) (ds.map Slot.v ++ List.replicate (N.length - ds.length) .no) :=
      ⟨⟨fun a o e n _ => ⟨e, n⟩, fun _ _ e => e, fun _ m => .inl m, fun _ o => .inl o, fun _ o => .inr o, fun _ o e => ⟨o, e⟩⟩, fun a w => absurd w (noown a)⟩
    rw [← hst] at sr
    have fin : ∀ {α' : List Addr} {O' : Addr → Prop} {H' : Hp} {h2 : Hs} {rv : RV} {x : V}, RtOk g.K B α' O' H' h2 rv x → ∃ α'', Stp α H α'' H' ∧ VOk g.K O H α'' H' (gc h h2 rv) rv x := fun {α' O' H' h2 rv x} ok => by
      have st : ∀ {O'}, BH B α' O' H' → Stp α H α' H' := fun {O'} bh => ⟨fun a o e n => (bh.fr a o e n fun z => z).1, bh.pre, fun a m => (bh.new a m).imp id fun z => z.elim id False.elim⟩
      cases ok with
      | d bh r q =>
        refine gc_rel hr1 (st bh) (.d (r.less fun a o => ?_) (R.mv (Mv.less fun a o => ?_) _ _ q))
        · exact (bh.oo a o).elim False.elim id
        · exact (bh.oo a o).elim False.elim id
      | l bh r q o w =>
        have le : ∀ a', Ins O _ a' → O' a' := fun a' z => by
          rcases z with z | z
          · exact z ▸ o
          · exact (bh.oo a' z).elim False.elim id
        exact gc_rel hr1 (st bh) (.l (w.elim id False.elim) (r.less le) (q.less le))
    unfold mOf at e
    refine ⟨α, O, h, _, hr1, sr, br, ?_⟩
    split at e
    · rename_i rv2 h2 e2
      cases e
      refine ⟨_, e2, fun α' O' H' y ok => ?_⟩
      obtain ⟨α'', s2, o2⟩ := fin ok
      exact k' α'' H' y s2 o2
    · rename_i env2 h2 e2
      cases e
      refine ⟨_, e2, fun α' O' H' σ' r' s' b' => ?_⟩
      obtain ⟨α'', s2, o2⟩ := fin (x := .non) (rv := .d .non) (.d b'.bh r' R.non_mk)
      exact k' α'' H' .non s2 o2
    · cases e

theorem fnAtT {g : GG} {x : Str} {st : Stmt} {N ps : List Str} {k : Nat} {b : DS} (Fx : FnFact g x st ps) (S : FnScope N ps (defScope st)) (hb : SST ⟨g, N, defScope st, k, fun _ => true⟩ (defBody st) b) (hnc : (defScope st).names.all (fun y => y.2 != .cell) = true := by decide +kernel) (hps : 1 ≤ ps.length := by decide) : FnAt g (k + 1) x ps (mOf N.length b) := by
  obtain ⟨f, fd, h1, h2, h3⟩ := Fx.ex
  exact ⟨f, fd, h1, h2.kp, h3, fn_okT h2 S (fun y hy => by have := List.all_eq_true.mp hnc y hy; simpa using this) hps hb⟩
theorem kwAtT {g : GG} {x : Str} {st : Stmt} {N ps : List Str} {k n : Nat} {ks : List Str} {ix : List Nat} {b : DS} (Fx : KwFact g x st ps n ks ix) (S : FnScope N ps (defScope st)) (hb : SST ⟨g, N, defScope st, k, fun _ => true⟩ (defBody st) b) (hnc : (defScope st).names.all (fun y => y.2 != .cell) = true := by decide +kernel) (hps : 1 ≤ ps.length := by decide) : KwAt g (k + 1) x ps n ks ix (mOf N.length b) := by
  obtain ⟨f, fd, h1, h2, h3⟩ := Fx.ex
  exact ⟨f, fd, h1, h2.kp, h3, fn_okT h2 S (fun y hy => by have := List.all_eq_true.mp hnc y hy; simpa using this) hps hb⟩
end F
namespace F
open PySem PySem.Spec PyProof.Rows L2
/-! ### for k in D, D a dict of the module with text keys -/
/-- the global x is a written dict; ks: its keys in order -/
structure KsAt (g : GG) (x : Str) (ks : List (List Nat)) : Prop where
  ex : ∃ (d : Addr) (es : Array DictEntry) (n : Nat) (ts : List Tok), g.mg x = some (.ref d) ∧ g.K.lookup d = some ⟨.type "dict", none, .dict es n, #[]⟩ ∧ (d == sysModules) = false ∧
    es.toList.map (·.key) = (ks.zip ts).map (fun q => .str (S q.1) q.2) ∧ ks.length = ts.length
theorem ksAt {g : GG} {x : Str} {ks : List (List Nat)} {d : Addr} {es : Array DictEntry} {n : Nat} {ts : List Tok} (h : g.mg x = some (.ref d)) (l : g.K.lookup d = some ⟨.type "dict", none, .dict es n, #[]⟩) (lo : (d == sysModules) = false)
    (m : es.toList.map (·.key) = (ks.zip ts).map fun q => .str (S q.1) q.2) (hts : ks.length = ts.length) : KsAt g x ks := ⟨d, es, n, ts, h, l, lo, m, hts⟩
def Itmk (ks : List (List Nat)) : It := ⟨fun i _ => i < ks.length, fun i H x H' => H' = H ∧ ∃ k, ks[i]? = some k ∧ x = .str (S k), fun i _ => ks.length ≤ i⟩
theorem mk_size {es : Array DictEntry} {ks : List (List Nat)} {ts : List Tok} (m : es.toList.map (·.key) = (ks.zip ts).map (fun q => Value.str (S q.1) q.2)) (hl : ks.length = ts.length) : es.size = ks.length := by
  have := congrArg List.length m
  simp only [List.length_map, List.length_zip, Array.length_toList] at this
  omega
theorem mk_get {es : Array DictEntry} {ks : List (List Nat)} {ts : List Tok} (m : es.toList.map (·.key) = (ks.zip ts).map (fun q => Value.str (S q.1) q.2)) (hl : ks.length = ts.length) {i : Nat} (hi : i < ks.length) :
    ∃ (en : DictEntry) (k : List Nat) (t : Tok), es[i]? = some en ∧ ks[i]? = some k ∧ en.key = .str (S k) t := by
  have hs := mk_size m hl
  have h1 : i < es.size := by omega
  have h2 : i < ts.length := by omega
  have e := congrArg (fun l => l[i]?) m
  simp only [List.getElem?_map, List.getElem?_zip_eq_some, Array.getElem?_toList] at e
  rw [Array.getElem?_eq_getElem h1] at e
  have z : (ks.zip ts)[i]? = some (ks[i], ts[i]) := by
    rw [List.getElem?_zip_eq_some]
    exact ⟨List.getElem?_eq_getElem hi, List.getElem?_eq_getElem h2⟩
  rw [z] at e
  exact ⟨_, _, ts[i], Array.getElem?_eq_getElem h1, List.getElem?_eq_getElem hi, Option.some.inj e⟩
section
variable {P : Program} {w : World} {K : PySem.W.Frag} {tg : Expr} {d : Addr} {es : Array DictEntry} {n : Nat} {ks : List (List Nat)} {ts : List Tok}
theorem turn_mk (it : Addr) (l : K.lookup d = some ⟨.type "dict", none, .dict es n, #[]⟩) (m : es.toList.map (·.key) = (ks.zip ts).map (fun q => Value.str (S q.1) q.2)) (hl : ks.length = ts.length) : Turn P w K tg (Itmk ks) [it] it (fun i h => h.IsKeyIter it d i ks.length n) where
  mem := by simp
  obj := fun i h st b hb => by
    have e : b = it := by simpa using hb
    subst e
    obtain ⟨oi, e, c, dd⟩ := st
    exact ⟨oi, e, fun v z => by rw [dd] at z; cases z⟩
  keep := fun i h h' st k => st.at fun oi e => k it (by simp) oi e
  item := by
    intro X hP hw hK hc i pins s σ H E I hf st hg
    subst hP hw hK
    obtain ⟨f0, f1, f2, f3, f4, f5⟩ := hf it (by simp)
    have hgd := I.kIn _ _ l
    obtain ⟨en, k, t, hen, hk, hkey⟩ := mk_get m hl hg
    refine next_key_item st hgd rfl (mk_size m hl) hen fun h' st' sb => ?_
    have I1 : Inv X pins σ H { s with heap := h' } := I.turned (t' := s.toks) (fun b ob hb e => (sb.2 b hb).trans e) f0 f1 f3 f4 f5
    obtain ⟨oi, e, c, dd⟩ := id st'
    exact ⟨en.key, rfl, go_of (s := { s with heap := h' }) e c dd (by decide) ⟨.str (S k), H, I1, ⟨t, hkey⟩, ⟨rfl, k, hk, rfl⟩, st', fun b hb => (hf b hb).1⟩⟩
  done := by
    intro X hP hw hK hc i pins s σ H E I hf st hg
    subst hP hw hK
    obtain ⟨f0, f1, f2, f3, f4, f5⟩ := hf it (by simp)
    have hgd := I.kIn _ _ l
    exact next_key_end (I.ok.hd hc) st hgd rfl (mk_size m hl) hg fun h' eb => ⟨rfl, I.turned (t' := s.toks) (fun b ob hb e => eb b ob hb e) f0 f1 f3 f4 f5⟩
  self := fun A i s Q E st h => wpAny_pyIter_keyiter st h
end
def iMK (ks : List (List Nat)) : DI := fun _ h => some (ks.map D.str, h)
theorem itok_mk {K : PySem.W.Frag} {α : List Addr} {O : Addr → Prop} {H : Hp} {ks : List (List Nat)} : ItOk K (Itmk ks) (ks.map D.str) α O H := fun α' O' H' h' m hr i => by
  refine ⟨fun d e => ?_, fun l => (by simpa using l : ks.length ≤ i)⟩
  rw [List.getElem?_map] at e
  cases hk : ks[i]? with
  | none => rw [hk] at e; cases e
  | some k =>
    rw [hk] at e
    cases e
    refine ⟨(List.getElem?_eq_some_iff.mp hk).1, fun x H'' yl => ?_⟩
    obtain ⟨e2, k2, e3, e4⟩ := yl
    subst e2 e4
    rw [hk] at e3
    cases e3
    exact ⟨Stp.refl _ _, hr, R.str_mk⟩
theorem si_mk {Γ : G} {tg : Expr} {x : Str} {p : Pos} {ks : List (List Nat)} (C : KsAt Γ.g x ks) (hg : Γ.sc.names.lookup x = some .globalImplicit := by rfl) (hd : (x == ("__debug__" : Str)) = false := by decide) : SI Γ tg (.Name x p) (iMK ks) := fun X c => by
  obtain ⟨d, es, n, ts, e1, l, lo, m, hl⟩ := C.ex
  have he : PE X (.Name x p) (tC (.ref d)) := pe_glob (v := .ref d) (u := .ref d) (by show X.env.scope.names.lookup x = _; rw [c.sc]; exact hg) (by rw [c.mg]; exact e1) rfl hd
  refine ⟨fun pins s σ H R I q => ?_⟩
  refine thn (he.run pins s σ H (fun x H1 => x = .ref d ∧ H1 = H) I ⟨rfl, rfl⟩) fun u s1 ⟨x, H1, I1, rx, ex, eH⟩ => ?_
  subst ex eH
  obtain rfl : u = Value.ref d := rx
  obtain ⟨α, O, h, env, hr, sr, ds, h', e, k⟩ := q
  cases e
  rw [← c.K] at l
  refine iter_keys lo (I1.kIn _ _ l) ⟨rfl, rfl, rfl⟩ rfl (pi_one (tk := s1.toks) I1 _ (turn_mk _ l m hl) ⟨_, Heap.get?_push_size _ rfl, rfl, ?_⟩ (k α H1 _ (Stp.refl _ _) hr itok_mk))
  rw [mk_size m hl] <;> rfl
theorem iMK_e {ks : List (List Nat)} {env : Env} {h : Hs} : iMK ks env h = some (ks.map D.str, h) := rfl
end F
/-! F42: bodies in which a token is out: seq, if, for, assignments (for replace of written texts) -/
namespace F
open PySem PySem.Spec PyProof.Rows L2 CwR
theorem thnT {M : Model} {A : Around} {T : Type} {c : Sem T} {Q R : T → Shared → Prop} {E : Value → Shared → Prop} {s : Shared} (h : wpAny M A c Q E s) (f : ∀ v s1, s.toks ≤ s1.toks → Q v s1 → R v s1) : wpAny M A c R E s :=
  wpAny_mono (PySem.wpAny_toks h) (fun v s1 q => f v s1 q.1 q.2) fun _ _ z => z.2
section
variable {X : Cx} {tg iter e : Expr} {body : List Stmt} {wi : TI} {te : TE} {g : TG} {tb : TS} {pos pos' : Pos}
theorem pst_forT (hp : PassesOwn (model X.prog X.w) X.A X.env X.xe) (hc : X.calm = true) (hi : PI X tg iter wi) (hg : PG X tg g) (hb : PSsT X body tb)
    (hs : ∀ x, foldedSetIterable iter X.env x = pure x := by intro _; rfl) : PST X (.For tg iter body [] pos) (tFor wi g tb) := by
  intro pins s σ H D h0 I h
  refine wpAny_For (thnT (hi.run pins s σ H _ I h) fun v s1 t1 h1 => thnT h1 fun itv s2 t2 h2 => ?_) hs
  obtain ⟨it, fp, tn, J, H2, e, I2, T, st2, f2, W, ⟨m0, w0⟩, turn⟩ := h2
  subst e
  have stat : ∀ {H' : Hp}, (∀ b ∈ fp, H' b = none) → ∀ b ∈ fp, FpOk X pins H' b := fun hn b hb => ⟨hn b hb, (f2 b hb).2⟩
  refine codeAny_forLoop_any (fun n s' => 1 ≤ s'.toks ∧ ∃ i σ' H', Inv X pins σ' H' s' ∧ tn i s'.heap ∧ (∀ b ∈ fp, H' b = none) ∧ W i n σ' H') ?_ m0 ⟨Nat.le_trans h0 (Nat.le_trans t1 t2), 0, σ, H2, I2, st2, fun b hb => (f2 b hb).1, w0⟩
  rintro n s3 ⟨t3, i, σ3, H3, I3, st3, fr3, w3⟩
  rcases turn i n σ3 H3 w3 with ⟨stop, qn⟩ | ⟨go, N, hN, step⟩
  · refine wpAny_passesOwn hp (thn (T.done X rfl rfl rfl hc i pins s3 σ3 H3 X.xe I3 (stat fr3) st3 stop) fun r s4 ⟨hr, I4⟩ => ?_)
    subst hr
    exact wpAny_execs_nil ⟨σ3, H3, I4, qn⟩
  · refine wpAny_passesOwn hp (thnT (T.item X rfl rfl rfl hc i pins s3 σ3 H3 X.xe I3 (stat fr3) st3 go) fun r s4 t4 ⟨u, hr, h4⟩ => ?_)
    subst hr
    refine wpAny_passesOwn hp (thnT h4 fun _ s5 t5 ⟨x, H5, I5, r5, y5, st5, fr5⟩ => ?_)
    have I5' := I5.pinned (stat fr5) (T.obj _ _ st5)
    refine wpAny_passesOwn hp (thnT (hg.run _ s5 σ3 H5 x u _ I5' r5 (step x H5 y5)) fun _ s6 t6 ⟨σ6, H6, I6, q6⟩ => ?_)
    have t7 : 1 ≤ s6.toks := Nat.le_trans t3 (Nat.le_trans t4 (Nat.le_trans t5 t6))
    refine wpAny_passesOwn hp (thnT (hb _ s6 σ6 H6 _ t7 I6 q6) fun f s7 t8 q7 => ?_)
    have again : ∀ {σ7 : St} {H7 : Hp}, Inv X (pins ++ pinsAt fp s5.heap) σ7 H7 s7 → N σ7 H7 → ∃ m, m < n ∧ 1 ≤ s7.toks ∧ ∃ i σ' H', Inv X pins σ' H' s7 ∧ tn i s7.heap ∧ (∀ b ∈ fp, H' b = none) ∧ W i m σ' H' := fun {σ7 H7} I7 n7 => by
      obtain ⟨m', hm, w7⟩ := hN σ7 H7 n7
      refine ⟨m', hm, Nat.le_trans t7 t8, i + 1, σ7, H7, I7.unpinned, T.keep _ _ _ st5 fun b hb o e => (I7.pin (b, o) (List.mem_append_right _ (List.mem_append_right _ (mem_pinsAt hb e)))).1, fun b hb => ?_, w7⟩
      obtain ⟨o, e, d⟩ := T.obj _ _ st5 b hb
      exact (I7.pin (b, o) (List.mem_append_right _ (List.mem_append_right _ (mem_pinsAt hb e)))).2.1
    cases f with
    | next => obtain ⟨σ7, H7, I7, n7⟩ := q7; exact again I7 n7
    | cont => obtain ⟨σ7, H7, I7, n7⟩ := q7; exact again I7 n7
    | brk => obtain ⟨σ7, H7, I7, q7⟩ := q7; exact ⟨σ7, H7, I7.unpinned, q7⟩
    | ret v => obtain ⟨x7, σ7, H7, I7, r7, q7⟩ := q7; exact ⟨x7, σ7, H7, I7.unpinned, r7, q7⟩
theorem pst_set {i : Nat} {x : Str} (hN : X.N.Nodup) (hi : X.N[i]? = some x) (hx : Loc X.env.scope x) (he : PET X e te) (hs : swapsWith e (some (.Name x pos')) pos.line X.env = pure false := by rfl) (hf : X.fn x = true ∨ X.env.scope.names.lookup x = some .local := by first | exact .inl rfl | exact .inr rfl | assumption) :
    PST X (.Assign [.Name x pos'] e pos) (tAsg te (gName i)) := by
  intro pins s σ H D h0 I h
  refine wpAny_Assign_Name (thn (he pins s σ H _ h0 I h) fun v s1 ⟨y, H1, I1, r1, q1⟩ => ?_) hs
  exact store_ok I1 hN hi hx r1 (fun s2 I2 => ⟨_, H1, I2, q1⟩) hf
end
section
variable {Γ : G} {pos pos' : Pos} {st : Stmt} {sts : List Stmt} {f g : DS} {c e tg iter : Expr} {body : List Stmt} {fc : DT} {fe : DE} {it : DI} {gg : DG} {b : DS} {ws : List Nat}
theorem s1t_of (h : S1 Γ st f) : S1T Γ st f := fun X c B => PST.of (h X c B)
theorem sst_cons (h1 : S1T Γ st f) (h2 : SST Γ sts g) : SST Γ (st :: sts) (dSeq f g) := fun X c B => PSsT.imp (psst_cons (h1 X c B) (h2 X c B)) fun D σ H q => by
  obtain ⟨α, O, h, env, hr, sr, br, o, e, k⟩ := q
  unfold dSeq at e
  split at e
  · rename_i env1 h1 e1
    exact ⟨α, O, h, env, hr, sr, br, _, e1, fun α1 O1 H1 σ1 hr1 sr1 br1 => ⟨α1, O1, h1, env1, hr1, sr1, br1, o, e, k⟩⟩
  · rename_i r hn
    refine ⟨α, O, h, env, hr, sr, br, o, e, ?_⟩
    cases o with
    | nx env1 h1 => exact absurd e (hn env1 h1)
    | rt rv h1 => exact k
    | bk env1 h1 => exact k
    | ct env1 h1 => exact k
theorem s1t_if {a b : List Stmt} (hc : ST Γ c fc) (ha : SST Γ a f) (hb : SST Γ b g) : S1T Γ (.If c a b pos) (dIf fc f g) := fun X cc B => PST.imp (pst_if (hc X cc) (ha X cc B) (hb X cc B)) fun D σ H q => by
  obtain ⟨α, O, h, env, hr, sr, br, o, e, k⟩ := q
  unfold dIf at e
  split at e
  · rename_i h1 e1
    refine ⟨α, O, h, env, hr, sr, true, h1, e1, fun α1 H1 s1 r1 => iteT ?_⟩
    exact ⟨α1, O, h1, env, r1, sr.stp hr s1, br.stp hr r1 s1, o, e, k⟩
  · rename_i h1 e1
    refine ⟨α, O, h, env, hr, sr, false, h1, e1, fun α1 H1 s1 r1 => iteF ?_⟩
    exact ⟨α1, O, h1, env, r1, sr.stp hr s1, br.stp hr r1 s1, o, e, k⟩
  · cases e
theorem s1t_set {i : Nat} {x : Str} (hN : Γ.N[i]? = some x := by rfl) (hx : Γ.sc.names.lookup x = some .local ∨ Γ.sc.names.lookup x = some .cell := by first | exact .inl rfl | exact .inr rfl) (he : SET Γ e fe)
    (hs : ∀ env, swapsWith e (some (.Name x pos')) pos.line env = pure false := by intro _; rfl) (hf : Γ.fn x = true ∨ Γ.sc.names.lookup x = some .local := by first | exact .inr rfl | exact .inl rfl) : S1T Γ (.Assign [.Name x pos'] e pos) (dSet i fe) := fun X c B =>
  PST.imp (pst_set (by rw [c.N]; exact c.nd) (by rw [c.N]; exact hN) (Loc.of c hx) (he X c) (hs _) (hf_of c hf)) fun D σ H q => by
    obtain ⟨α, O, h, env, hr, sr, br, o, e, k⟩ := q
    unfold dSet at e
    split at e
    · rename_i d h1 e1
      cases e
      refine ⟨α, O, h, env, hr, sr, _, h1, e1, fun α1 H1 x s1 o1 => ?_⟩
      obtain ⟨O', r, s, b⟩ := store_imp (i := i) hr sr br s1 o1 rfl
      exact k α1 O' H1 _ r s b
    · rename_i d h1 e1
      cases e
      refine ⟨α, O, h, env, hr, sr, _, h1, e1, fun α1 H1 x s1 o1 => ?_⟩
      obtain ⟨O', r, s, b⟩ := store_imp (i := i) hr sr br s1 o1 rfl
      exact k α1 O' H1 _ r s b
    · cases e
theorem s1t_for (hi : SI Γ tg iter it) (hg : SG Γ tg ws gg) (hb : SST Γ body b) (hs : ∀ env x, foldedSetIterable iter env x = pure x := by intro _ _; rfl) : S1T Γ (.For tg iter body [] pos) (dFor it gg b) := fun X cc B0 => by
  intro pins s σ H D h0 I q
  obtain ⟨α, O, h, env, hr, sr, br, o, e, k⟩ := q
  unfold dFor at e
  split at e
  · rename_i ds h1 e1
    -- the body is read for the base at the loop's begin: B is chosen inside
    refine (pst_forT (wi := tI Γ.g.K it) (g := tG Γ.g.K ws gg) (tb := fun D σ H => ∃ B, tS Γ.g.K B b D σ H) (by rw [cc.xe]; exact PassesOwn.never) cc.calm (hi X cc) (hg X cc) (fun pins s σ H D h0 I q => by
      obtain ⟨B, q⟩ := q
      exact hb X cc B pins s σ H D h0 I q) (hs _)) pins s σ H D h0 I ?_
    refine ⟨α, O, h, env, hr, sr, ds, h1, e1, fun α1 H1 J s1 r1 ok => ?_⟩
    have sr1 := sr.stp hr s1
    have br1 := br.stp hr r1 s1
    have k1 := SK.of_now r1 br1 sr1 k
    refine ⟨fun i m σ' H' => m = ds.length - i ∧ i ≤ ds.length ∧ ∃ α' O' h' env', HRel Γ.g.K α' O' H' h' ∧ SRel Γ.g.K α' O' H' σ' env' ∧ BRel (Bs.now r1 (Own σ env)) α' O' H' σ' env' ∧ dFl gg b (ds.drop i) env' h' = some o,
      ⟨ds.length, by omega, Nat.zero_le _, α1, O, h1, env, r1, sr1, BRel.now r1 sr1, by rw [List.drop_zero]; exact e⟩, ?_⟩
    rintro i m σ' H' ⟨rfl, hi, α', O', h', env', hr', sr', br', e'⟩
    have mv := BH.mv r1 sr1 br'.bh
    obtain ⟨go, stop⟩ := ok α' O' H' h' mv hr' i
    cases hd : ds.drop i with
    | nil =>
      rw [hd] at e'
      unfold dFl at e'
      cases e'
      refine .inl ⟨stop ?_, k1 α' O' H' σ' hr' sr' br'⟩
      have := congrArg List.length hd
      simp at this
      omega
    | cons d rest =>
      have hlt : i < ds.length := by
        have := congrArg List.length hd
        simp at this
        omega
      have hd1 : ds[i]? = some d := by
        have := congrArg (·[0]?) hd
        simpa using this
      have hd2 : ds.drop (i + 1) = rest := by
        have := congrArg List.tail hd
        simpa using this
      rw [hd] at e'
      unfold dFl at e'
      obtain ⟨go1, yl⟩ := go d hd1
      refine .inr ⟨go1, fun σ'' H'' => ∃ α'' O'' h'' env'', HRel Γ.g.K α'' O'' H'' h'' ∧ SRel Γ.g.K α'' O'' H'' σ'' env'' ∧ BRel (Bs.now r1 (Own σ env)) α'' O'' H'' σ'' env'' ∧ dFl gg b rest env'' h'' = some o,
        fun σ'' H'' ⟨α'', O'', h'', env'', z1, z2, z3, z4⟩ => ⟨ds.length - (i + 1), by omega, rfl, hlt, α'', O'', h'', env'', z1, z2, z3, by rw [hd2]; exact z4⟩, fun x H'' y => ?_⟩
      obtain ⟨st, hr2, rx⟩ := yl x H'' y
      have sr2 := sr'.stp hr' st
      have br2 := br'.stp hr' hr2 st
      split at e'
      · rename_i env1 e2
        refine ⟨α', O', h', env', d, hr2, sr2, rx, env1, e2, fun σ3 sr3 l3 _ => ?_⟩
        have br3 := br2.less l3
        split at e'
        · rename_i env2 h2 e3
          exact ⟨Bs.now r1 (Own σ env), α', O', h', env1, hr2, sr3, br3, _, e3, fun α4 O4 H4 σ4 hr4 sr4 br4 => ⟨α4, O4, h2, env2, hr4, sr4, br4, e'⟩⟩
        · rename_i env2 h2 e3
          exact ⟨Bs.now r1 (Own σ env), α', O', h', env1, hr2, sr3, br3, _, e3, fun α4 O4 H4 σ4 hr4 sr4 br4 => ⟨α4, O4, h2, env2, hr4, sr4, br4, e'⟩⟩
        · rename_i env2 h2 e3
          cases e'
          exact ⟨Bs.now r1 (Own σ env), α', O', h', env1, hr2, sr3, br3, _, e3, k1⟩
        · rename_i r n1 n2 n3
          refine ⟨Bs.now r1 (Own σ env), α', O', h', env1, hr2, sr3, br3, o, e', ?_⟩
          cases o with
          | nx env2 h2 => exact absurd e' (n1 _ _)
          | ct env2 h2 => exact absurd e' (n2 _ _)
          | bk env2 h2 => exact absurd e' (n3 _ _)
          | rt rv h2 => exact k1
      · cases e'
  · cases e
end
end F
/-! F43: tuple(d.items()) -/
namespace TuI
open PySem PySem.Spec PyProof.Rows L2
section
variable {prog : Program} {w : World} {K : Type} [DecidableEq K] {knd : KeyKind prog w K} {A : Around} {E : Value → Shared → Prop} {s : Shared} {r d : Addr} {kvs : List (K × Value)} {ep : Nat}
theorem code_tuple_new_items {Q₁ : Value → Shared → Prop} (hh : A.handled = none) (hv : s.heap.IsItemsView r d) (hm : s.heap.DictAt knd d kvs ep) (hn : kvs.length ≤ sizeLine)
    (h : ∀ (h' : Heap) (tk : Nat) (as : List Addr), (∀ b o, s.heap.get? b = some o → h'.get? b = some o) → as.length = kvs.length → PySem.W.KdxG knd kvs s.heap.objs.size h' as →
      Q₁ (.ref h'.objs.size) { s with heap := h'.push { cls := .type "tuple", data := .seq (as.map Value.ref).toArray }, toks := tk }) :
    codeAny (model prog w) A (.call (.builtin "tuple.__new__") ⟨[.type "tuple", .ref r], []⟩) (wants Q₁ E) s := by
  refine codeAny_of_tree ?_
  show wpAny _ A.in1 (do checkBuiltinCall "tuple.__new__" ⟨[.type "tuple", .ref r], []⟩; again (.builtin "tuple.__new__" ⟨[.type "tuple", .ref r], []⟩)) _ _ s
  refine wpAny_bind (wpAny_of_eq (PySem.F.newCall_tuple_1 _) (wpAny_pure ⟨plainId_quiet PySem.F.plain_tuple_new _, codeAny_builtin PySem.F.entry_tuple_new ?_⟩))
  rw [Around.under_plainId PySem.F.plain_tuple_new _]
  have hsub := sub_tuple_self
  have hinit := init_tuple_lookup
  have hmh := madeHere_tuple
  have hTI : s.TypeIs (.ref r) "dict_items" := let ⟨o, ho, hc, _⟩ := hv; ⟨o, ho, hc⟩
  have hh1 : A.in1.handled = none := hh
  wp_walk using wpAny_typeOf hTI, PySem.W.kdx_collect (knd := knd) (kvs := kvs) (ep := ep) (A := A.in1) hh1 hv hm hn
  intro h' tk as hk hl hG
  show wpAny _ _ (Builtin.Tuple.tupleExact (as.map Value.ref).toArray >>= fun v => ret v) _ _ _
  unfold Builtin.Tuple.tupleExact
  refine wpAny_bind (wpAny_newObj_type ?_ (by show (as.map Value.ref).toArray.size ≤ sizeLine; rw [List.size_toArray, List.length_map]; omega))
  refine wpAny_pure ?_
  exact h h' tk as hk hl hG
theorem call_tuple_items {Q : Value → Shared → Prop} (hh : A.handled = none) (hv : s.heap.IsItemsView r d) (hm : s.heap.DictAt knd d kvs ep) (hn : kvs.length ≤ sizeLine)
    (hQ : ∀ (h' : Heap) (tk : Nat) (as : List Addr), (∀ b o, s.heap.get? b = some o → h'.get? b = some o) → as.length = kvs.length → PySem.W.KdxG knd kvs s.heap.objs.size h' as →
      Q (.ref h'.objs.size) { s with heap := h'.push { cls := .type "tuple", data := .seq (as.map Value.ref).toArray }, toks := tk }) :
    wpAny (model prog w) A (call (.type "tuple") [.ref r]) Q E s := by
  refine callType_codes (Q₁ := fun obj s₁ => s₁.TypeIs obj "tuple" ∧ Q obj s₁) PySem.F.called_tuple (PySem.F.typeCall_tuple_1 _) PySem.F.entry_object_init
    (code_tuple_new_items (knd := knd) (kvs := kvs) (ep := ep) (A := A.in1) hh hv hm hn fun h' tk as hk hl hG => ⟨⟨_, Heap.get?_push_size _ rfl, rfl⟩, hQ h' tk as hk hl hG⟩) fun obj s₁ h₁ => ?_
  exact ⟨h₁.1, PySem.F.args_object_init_2 obj _, object_init_meets PySem.F.called_tuple.init.lookup PySem.F.called_tuple.made (by decide) prog w A.in1 _ s₁ ⟨h₁.1, rfl, h₁.2⟩⟩
end
def rItemsT : V → Hp → VK → Prop := fun x H Q => ∃ (d : Addr) (kvs : List (Key × V)), x = .ref d ∧ H d = some (.dK kvs) ∧
  ∀ (H' : Hp) (p : Addr) (ts : List Addr), (∀ b o, H b = some o → H' b = some o) → H p = none → (∀ t ∈ ts, H t = none) → H' p = some (.tup (ts.map V.ref)) → Paired (fun (t : Addr) (q : Key × V) => H' t = some (.tup [kV q.1, q.2])) ts kvs → Q (.ref p) H'
def tTupItems (te : TE) : TE := fun σ H Q => te σ H fun x H1 => rItemsT x H1 Q
section
variable {X : Cx} {e : Expr} {te : TE} {p apos cpos pos : Pos}
/-- the pairs of a dict, laid as tuples -/
theorem pairs_laid {pins : List (Addr × Obj)} {σ : L2.St} {H : Hp} {s : Shared} {h' : Heap} {tk : Nat} {kvs : List (Key × V)} {vs : List (Key × Value)} {as : List Addr} {lo : Addr} (I : Inv X pins σ H s) (hlo : s.heap.objs.size ≤ lo) (kv : KV kvs vs)
    (hk : ∀ b o, s.heap.get? b = some o → h'.get? b = some o) (hl : as.length = vs.length) (hG : PySem.W.KdxG (mixKind X.prog X.w) vs lo h' as) :
    ∃ H' : Hp, (∀ b o, H b = some o → H' b = some o) ∧ (∀ t ∈ as, H t = none) ∧ Paired (fun (t : Addr) (q : Key × V) => H' t = some (.tup [kV q.1, q.2])) as kvs ∧ Inv X pins σ H' { s with heap := h', toks := tk } := by
  have lk : kvs.length = vs.length := Paired.length kv
  have nd : as.Nodup := List.Pairwise.imp (fun {a b} (h : a < b) => Nat.ne_of_lt h) hG.rise
  have new : ∀ t ∈ as, H t = none := fun t ht => I.hok.fresh (Nat.le_of_lt (Nat.lt_of_le_of_lt hlo (hG.above t ht)))
  have atP := LiI.putT_at as kvs H (by omega) nd
  have off : ∀ b, b ∉ as → LiI.putT H as kvs b = H b := fun b h1 => LiI.putT_off as kvs _ h1
  have low : ∀ b o, s.heap.get? b = some o → b ∉ as := fun b o e z => absurd (Heap.lt_size e) (Nat.not_lt.mpr (Nat.le_of_lt (Nat.lt_of_le_of_lt hlo (hG.above b z))))
  have kp : ∀ b u, H b = some u → (LiI.putT H as kvs) b = some u := fun b u e => by
    rw [off b (fun z => by rw [new b z] at e; cases e)]
    exact e
  refine ⟨LiI.putT H as kvs, kp, new, atP, ?_⟩
  refine I.call' (ch := []) rfl ⟨fun b o q _ _ _ => hk b o q, fun b o q _ _ _ => ⟨o.slots, hk b o q⟩, fun b o q n _ => ?_, fun b o q _ => ⟨o, hk b o q⟩, fun b xs q => kp b _ q, fun b o u q => kp b _ q, fun b ps q => ⟨#[], by rw [kp b _ q]; simp⟩⟩ (fun b u q => ?_) I.bare fun b z => by simp at z
  · rw [off b (low b o q)]
    exact n
  · by_cases hb : b ∈ as
    · obtain ⟨j, pk, e1, e2, e3⟩ := LiI.paired_ix atP hb
      rw [e3] at q
      cases q
      obtain ⟨key, k, x, f1, f2, f3⟩ := hG.pairs j b e1
      obtain ⟨qv, g1, g2, g3⟩ := LiI.paired_get kv e2
      rw [f1] at g1
      cases g1
      have rk : RelV (kV pk.1) key := by
        rw [g2]
        exact relV_key (show keyIs k key = true from f2)
      exact ⟨by show 2 ≤ sizeLine; decide, [key, x], .cons rk (.cons g3 .nil), ⟨_, f3, rfl, _, rfl⟩⟩
    · rw [off b hb] at q
      exact (I.hok b u q).stay (fun d v _ y => hk d v y) (fun d y => kp d _ y) fun d xs y => kp d _ y
/-- tuple(e.items()) -/
theorem pe_tupItems (hc : X.calm = true) (he : PE X e te) (hg : Gl X "tuple") (hm : X.mg "tuple" = none) (hbase : attributeBase e "items" X.env (eval e X.env) = eval e X.env := by rfl) (hline : (apos.endLine == cpos.line) = true := by rfl)
    (hs : starEach [.Call (.Attribute e "items" apos) [] [] cpos] X.env = (false, eval (.Call (.Attribute e "items" apos) [] [] cpos) X.env) :: starEach [] X.env := by rfl) :
    PE X (.Call (.Name "tuple" p) [.Call (.Attribute e "items" apos) [] [] cpos] [] pos) (tTupItems te) := by
  refine ⟨fun pins s σ H Q I hq => ?_⟩
  refine wpAny_Call_Name_kw (ld_blt I hg hm boot_tuple ?_)
  refine PyProof.Rows.callWith_type1 ?_ hs rfl
  rw [hs]
  show wpAny _ _ (spliced ((false, eval (.Call (.Attribute e "items" apos) [] [] cpos) X.env) :: backTo pos (starEach [] X.env))) _ _ s
  refine Calls.spliced_cons ?_
  refine wpAny_Call_method (T := "dict") (id := "dict.items") hbase rfl hline PySem.F.plainAttrs_dict PySem.F.slot_dict_items PySem.F.type_dict_items (thn (he.run pins s σ H _ I hq) fun u s1 ⟨x, H1, I1, rx, d, kvs, ex, hd, q⟩ => ?_)
  subst ex
  obtain rfl : u = Value.ref d := rx
  obtain ⟨hz, hs0, vs, kv, hdo⟩ := I1.hok d _ hd
  obtain ⟨ep, hat⟩ := hdo.dictAt
  have lk : kvs.length = vs.length := Paired.length kv
  have I2 : Inv X pins σ H1 { s1 with heap := s1.heap.push { cls := .type "dict_items", data := .fields #[.ref d] } } := I1.kept (t' := s1.toks) fun b ob q => Heap.get?_push_of_some _ q
  refine ⟨hdo.typeIs, hdo.mapOf.noDict, ?_⟩
  show wpAny _ _ (callWith cpos (.builtin "dict.items") [.ref d] [] []) _ X.xe s1
  refine method_meetsIn PySem.F.slot_dict_items PySem.F.entry_dict_items rfl (PySem.evalArgs_none ⟨rfl, hdo.typeIs, PySem.F.args_dict_items_1 _, _, meets_dict_items (mixKind X.prog X.w) d hs0, ⟨vs, hdo⟩, ?_⟩)
  refine Calls.spliced_nil ?_
  refine call_tuple_items (knd := mixKind X.prog X.w) (kvs := vs) (ep := ep) (I1.ok.hd hc) ⟨_, Heap.get?_push_size _ rfl, rfl, rfl⟩ (hat.push _) (by omega) fun h' tk as hk hl hG => ?_
  obtain ⟨H', k1, k2, k3, J⟩ := pairs_laid (tk := tk) I2 (Nat.le_refl _) kv hk hl hG
  have I3 : Inv X pins σ (upd H' h'.objs.size (.tup (as.map V.ref))) { s1 with heap := h'.push { cls := .type "tuple", data := .seq (as.map Value.ref).toArray }, toks := tk } :=
    J.laid (t' := tk) (fun b o e => Heap.get?_push_of_some _ e) (Nat.le_refl _) (show ObjOk X.prog X.w _ _ _ (.tup (as.map V.ref)) from ⟨by rw [List.length_map]; omega, as.map Value.ref, LiI.vals_refs as, IsTup.new _ _⟩)
  have np : H' h'.objs.size = none := J.hok.fresh (Nat.le_refl _)
  have keep : ∀ b o, H' b = some o → (upd H' h'.objs.size (.tup (as.map V.ref))) b = some o := fun b o e => by rw [upd_ne (fun z => by rw [z, np] at e; cases e)]; exact e
  have n1 : H1 h'.objs.size = none := by
    cases e1 : H1 h'.objs.size with
    | none => rfl
    | some o => rw [k1 _ _ e1] at np; cases np
  refine ⟨.ref _, _, I3, rfl, q _ _ as (fun b o e => keep b o (k1 b o e)) n1 k2 upd_same ?_⟩
  have : ∀ {xs : List Addr} {ys : List (Key × V)}, Paired (fun (t : Addr) (q : Key × V) => H' t = some (.tup [kV q.1, q.2])) xs ys → Paired (fun (t : Addr) (q : Key × V) => (upd H' h'.objs.size (.tup (as.map V.ref))) t = some (.tup [kV q.1, q.2])) xs ys := fun {xs ys} r => by
    induction r with
    | nil => exact .nil
    | cons h t ih => exact .cons (keep _ _ h) ih
  exact this k3
end
end TuI
namespace F
open PySem PySem.Spec PyProof.Rows L2
theorem key_mk {K : PySem.W.Frag} {α : List Addr} {O : Addr → Prop} {H : Hp} {d : D} {k : Key} (e : keyOf d = some k) : R K α O H d (kV k) := by
  cases d <;> simp [keyOf] at e
  · subst e; exact R.int_mk
  · subst e; exact R.str_mk
def pairD (kv : D × D) : D := .tup [kv.1, kv.2]
theorem pairs_R {K : PySem.W.Frag} {α : List Addr} {O : Addr → Prop} {H H' : Hp} (hx : ∀ b o, H b = some o → H' b = some o) (nα : ∀ t, H t = none → t ∉ α) (nO : ∀ t, H t = none → ¬ O t) : ∀ {kvs : List (D × D)} {ps : List (Key × V)} {ts : List Addr}, RP K α O H kvs ps → (∀ t ∈ ts, H t = none) →
    Paired (fun (t : Addr) (q : Key × V) => H' t = some (.tup [kV q.1, q.2])) ts ps → RL K α O H' (kvs.map pairD) (ts.map V.ref)
  | [], ps, ts, r, hn, p => by
    have : ps = [] := r
    subst this
    cases p
    exact RL.nil
  | kv :: kvs, ps, ts, r, hn, p => by
    obtain ⟨k, x, q, e, ek, r1, r2⟩ := r
    subst e
    cases p with
    | cons h t =>
      rename_i a ts
      rw [List.map_cons, List.map_cons]
      have mv : Mv α O H α O H' := ⟨fun b u e n n2 => ⟨hx b u e, n, n2⟩, fun _ _ e => e⟩
      refine RL.cons ?_ (pairs_R hx nα nO r2 (fun t m => hn t (List.mem_cons_of_mem _ m)) t)
      have ha := hn a List.mem_cons_self
      unfold pairD
      simp only [R]
      exact ⟨a, _, rfl, .inl ⟨h, nα a ha, nO a ha⟩, RL.cons (key_mk ek) (RL.one (R.mv mv _ _ r1))⟩
def eTupItems (fo : DE) : DE := fun env h => match fo env h with
  | some (.b (.dct kvs), h1) => some (.d (.tup (kvs.map pairD)), h1)
  | _ => none
section
variable {Γ : G} {pos p apos cpos : Pos} {e : Expr} {f : DE}
theorem se_tupItems (he : SE Γ e f) (hm : Γ.g.mg ("tuple" : Str) = none) (hg : Γ.sc.names.lookup ("tuple" : Str) = some .globalImplicit := by rfl) (hbase : ∀ env, attributeBase e "items" env (eval e env) = eval e env := by intro _; rfl) (hline : (apos.endLine == cpos.line) = true := by rfl)
    (hs : ∀ env, starEach [.Call (.Attribute e "items" apos) [] [] cpos] env = (false, eval (.Call (.Attribute e "items" apos) [] [] cpos) env) :: starEach [] env := by intro _; rfl) : SE Γ (.Call (.Name "tuple" p) [.Call (.Attribute e "items" apos) [] [] cpos] [] pos) (eTupItems f) := fun X cc =>
  PE.imp (TuI.pe_tupItems cc.calm (he X cc) (Gl.of cc hg) (by rw [cc.mg]; exact hm) (hbase _) hline (hs _)) fun σ H Q q => by
    obtain ⟨α, O, h, env, hr, sr, rv, h', eo, k⟩ := q
    unfold eTupItems at eo
    split at eo
    · rename_i kvs h1 e1
      cases eo
      refine ⟨α, O, h, env, hr, sr, _, _, e1, fun α1 H1 x s1 o1 => ?_⟩
      cases o1 with
      | b r q n =>
        rename_i a
        obtain ⟨ps, e2, rp⟩ := q
        refine ⟨a, ps, rfl, e2, fun H' p ts hx hp hts e3 pr => ?_⟩
        have nα : ∀ t, H1 t = none → t ∉ α1 := fun t ht => r.notin ht
        have nO : ∀ t, H1 t = none → ¬ O t := fun t ht => r.notO ht
        have mv : Mv α1 O H1 α1 O H' := ⟨fun b u e n n2 => ⟨hx b u e, n, n2⟩, fun _ _ e => e⟩
        have st : Stp α1 H1 α1 H' := ⟨fun b o e n => hx b o e, fun _ _ e => e, fun _ m => .inl m⟩
        have hr' : HRel Γ.g.K α1 O H' h' := ⟨r.len, r.nd, fun n c b e1 e2 => (r.cell n c b e1 e2).mv mv fun u e => hx b u e, r.dis, fun b e => by
          obtain ⟨u, z⟩ := r.trk b e
          exact ⟨u, hx b u z⟩⟩
        refine k α1 H' _ (s1.trans st) (.d hr' ?_)
        simp only [R]
        exact ⟨p, _, rfl, .inl ⟨e3, nα p hp, nO p hp⟩, pairs_R hx nα nO rp hts pr⟩
    · cases eo
end
theorem eTupItems_e {fo : DE} {env : Env} {h h1 : Hs} {kvs : List (D × D)} (e : fo env h = some (.b (.dct kvs), h1)) : eTupItems fo env h = some (.d (.tup (kvs.map pairD)), h1) := by
  unfold eTupItems
  rw [e]
end F
/-! F44: t[::-1] of a tuple; sum(xs); a, b = xs.pop() -/
namespace HT
open PySem PySem.Spec PyProof.Rows L2
section
variable {prog : Program} {w : World} {A : Around} {E : Value → Shared → Prop} {s : Shared}
theorem sliceApplied_back {sl : Addr} {vk : Value} {n : Nat} {Q : Int × Int × Nat → Shared → Prop} (hs : s.heap.IsSliceOf sl .none .none vk) (pk : IsPart vk (some (-1)))
    (h : Q ((n : Int) - 1, -1, n) s) : wpAny (model prog w) A (Builtin.Slice.sliceApplied (.ref sl) (pure (n : Int))) Q E s := by
  obtain ⟨os, hos, hcs, hds⟩ := id hs
  unfold Builtin.Slice.sliceApplied Builtin.Slice.sliceFields
  refine wpAny_bind (wpAny_bind (wpAny_field hos hds (x := .none) rfl (wpAny_bind (wpAny_field hos hds (x := .none) rfl (wpAny_bind (wpAny_field hos hds (x := vk) rfl (wpAny_pure ?_)))))))
  refine wpAny_bind (slicePart_ pk ?_)
  show wpAny _ _ (if ((-1 : Int) == 0) = true then _ else _) _ _ s
  rw [if_neg (by decide)]
  refine wpAny_bind (slicePart_none (wpAny_bind (slicePart_none (wpAny_bind (wpAny_pure ?_)))))
  show wpAny _ _ (match Builtin.Slice.sliceAdjust none none (-1) (n : Int) with | (lo, hi) => pure (lo, (-1 : Int), Builtin.Slice.slicePlaces lo hi (-1))) _ _ s
  have adj : Builtin.Slice.sliceAdjust none none (-1) (n : Int) = ((n : Int) - 1, -1) := rfl
  rw [adj]
  show wpAny _ _ (pure ((n : Int) - 1, (-1 : Int), Builtin.Slice.slicePlaces ((n : Int) - 1) (-1) (-1))) _ _ s
  have pl : Builtin.Slice.slicePlaces ((n : Int) - 1) (-1) (-1) = n := by
    unfold Builtin.Slice.slicePlaces
    rw [if_neg (by decide)]
    have e : - (-1 : Int) = 1 := rfl
    rw [e, Int.ediv_one]
    split <;> omega
  rw [pl]
  exact wpAny_pure h
theorem pick_back (xs : Array Value) : ((List.range xs.size).filterMap fun (m : Nat) => xs[((xs.size : Int) - 1 + (m : Int) * -1).toNat]?).toArray = xs.toList.reverse.toArray := by
  have e : (fun (m : Nat) => xs[((xs.size : Int) - 1 + (m : Int) * -1).toNat]?) = (fun m => xs[m]?) ∘ fun k => xs.size - 1 - k := by
    funext m
    show xs[((xs.size : Int) - 1 + (m : Int) * -1).toNat]? = xs[xs.size - 1 - m]?
    have : ((xs.size : Int) - 1 + (m : Int) * -1).toNat = xs.size - 1 - m := by omega
    rw [this]
  rw [e, ← List.filterMap_map, PySem.W.krv_range, List.filterMap_reverse, PySem.W.krv_all]
theorem getItem_tuple_back {t sl : Addr} {items : Array Value} {vk : Value} {Q : Value → Shared → Prop} (ht : IsTup s.heap t items) (hs : s.heap.IsSliceOf sl .none .none vk) (pk : IsPart vk (some (-1)))
    (h : Q (.ref s.heap.objs.size) { s with heap := s.heap.push { cls := .type "tuple", data := .seq items.toList.reverse.toArray } }) (hsz : items.size ≤ sizeLine) : wpAny (model prog w) A (getItem (.ref t) (.ref sl)) Q E s := by
  have htake : sizeOk (.seq items.toList.reverse.toArray) := by
    show items.toList.reverse.toArray.size ≤ sizeLine
    rw [List.size_toArray, List.length_reverse, Array.length_toList]
    exact hsz
  obtain ⟨os, hos, hcs, hds⟩ := id hs
  have hTs : s.TypeIs (.ref sl) "slice" := ⟨os, hos, hcs⟩
  unfold getItem
  try with_reducible refine wpAny_holding ?_
  first | refine wpAny_bind (wpAny_pure ?_) | skip
  refine wpAny_bind (wpAny_sequenceKey ht.typeIs (by decide) ?_)
  refine wpAny_bind (wpAny_callSpecial?_slot (name := Str.ofString "__getitem__") ht.typeIs PyProof.Rows.slot_tuple_getitem
    (wpAny_call_entry PyProof.Rows.slot_tuple_getitem ht.typeIs entry_tuple_getitem ?_ (args_tuple_getitem _ _)))
  show wpAny _ _ (Builtin.Tuple.tupleItemsOf (.ref t) >>= _) _ _ s
  refine wpAny_bind (tupleItemsOf_ ht ?_)
  refine wpAny_bind (wpAny_typeOf hTs ?_)
  rw [if_pos (by decide)]
  refine wpAny_bind (sliceApplied_back hs pk ?_)
  show wpAny _ _ (if (((items.size : Int) - 1) == 0 && (-1 : Int) == 1 && items.size == items.size) = true then _ else _) _ _ s
  rw [if_neg (by
    intro q
    rw [Bool.and_eq_true, Bool.and_eq_true] at q
    exact absurd (eq_of_beq q.1.2) (by decide)), pick_back]
  first
    | exact wpAny_bind (m := Builtin.Tuple.tupleExact _) (wpAny_newObj_type (wpAny_pure ⟨_, rfl, wpAny_pure h⟩) htake)
    | exact wpAny_bind (m := Builtin.Tuple.tupleExact _) (wpAny_newObj_type (wpAny_bind (wpAny_pure (wpAny_pure ⟨_, rfl, wpAny_pure h⟩))) htake)
    | exact wpAny_bind (wpAny_bind (m := Builtin.Tuple.tupleExact _) (wpAny_newObj_type (wpAny_pure (wpAny_pure ⟨_, rfl, wpAny_pure h⟩)) htake))
    | exact wpAny_bind (wpAny_bind (m := Builtin.Tuple.tupleExact _) (wpAny_newObj_type (wpAny_pure ⟨_, rfl, wpAny_pure h⟩) htake))
end
end HT
namespace F
open PySem PySem.Spec PyProof.Rows L2
def rBackT (K : PySem.W.Frag) : V → Hp → VK → Prop := fun x H Q => ∃ a xs, x = .ref a ∧ SqT K H a xs ∧ ∀ p, H p = none → Q (.ref p) (upd H p (.tup xs.reverse))
section
variable {X : Cx} {e : Expr} {te tst : TE} {pos p2 cp up : Pos} {j : Nat}
theorem pe_backT (he : PE X e te) (hst : PE X (.UnaryOp .USub (.Constant (.int 1) j cp) up) tst) : PE X (.Subscript e (.Slice none none (some (.UnaryOp .USub (.Constant (.int 1) j cp) up)) p2) pos) (fun σ H Q => te σ H fun x H1 => tst σ H1 fun z H2 => z = .int (-1) ∧ rBackT X.K x H2 Q) := by
  refine ⟨fun pins s σ H Q I h => ?_⟩
  refine Subscript_ (thn (he.run pins s σ H _ I h) fun v s1 ⟨x, H1, I1, r1, q1⟩ => ?_)
  refine wpAny_Slice ?_
  rw [evalPart_none]
  refine wpAny_pure ?_
  refine wpAny_pure ?_
  rw [evalPart_some]
  refine thn (hst.run pins s1 σ H1 _ I1 q1) fun vk s3 ⟨z, H3, I3, rk, ez, q3⟩ => ?_
  subst ez
  obtain ⟨t, rfl⟩ := rk
  obtain ⟨a, xs, rfl, hx, q⟩ := q3
  have I4 : Inv X pins σ H3 { s3 with heap := s3.heap.push { cls := .type "slice", data := .fields #[.none, .none, .int (-1) t] } } := I3.kept (t' := s3.toks) fun b ob q => Heap.get?_push_of_some _ q
  cases r1
  obtain ⟨its, r, ht, hz⟩ := I4.tuple hx
  refine tail_any (ops := [.ref a, .ref s3.heap.objs.size]) ht.typeIs PyProof.Rows.slot_tuple_getitem.lookup ?_ (by with_unfolding_all rfl)
  refine HT.getItem_tuple_back ht (Heap.IsSliceOf.new ..) (.int (-1) t) ?_ (by rw [List.size_toArray, ← r.length]; exact hz)
  have hz2 : xs.reverse.length ≤ sizeLine := by rw [List.length_reverse]; exact hz
  have rr : Vals xs.reverse its.reverse := by
    clear hz hz2 q hx ht
    induction r with
    | nil => exact .nil
    | cons r1 r2 ih => rw [List.reverse_cons, List.reverse_cons]; exact ih.append (.cons r1 .nil)
  refine ⟨.ref _, _, I4.laid (t' := s3.toks) (o := .tup xs.reverse) (fun b ob q => Heap.get?_push_of_some _ q) (Nat.le_refl _) ?_, rfl, q _ (I4.hok.fresh (Nat.le_refl _))⟩
  exact ⟨hz2, its.reverse, rr, IsTup.new _ _⟩
end
def eBackT (f : DE) : DE := fun env h => match f env h with
  | some (.d (.tup ds), h1) => some (.d (.tup ds.reverse), h1)
  | _ => none
section
variable {Γ : G} {pos p2 cp up : Pos} {j : Nat} {e : Expr} {f : DE}
theorem se_backT (ha : SE Γ e f) : SE Γ (.Subscript e (.Slice none none (some (.UnaryOp .USub (.Constant (.int 1) j cp) up)) p2) pos) (eBackT f) := fun X c =>
  PE.imp (pe_backT (ha X c) (se_neg se_int X c)) fun σ H Q q => by
    obtain ⟨α, O, h, env, hr, sr, rv, h', e1, k⟩ := q
    unfold eBackT at e1
    split at e1
    · rename_i ds h1 ef
      cases e1
      refine ⟨α, O, h, env, hr, sr, _, h', ef, fun α1 H1 xv s1 o1 => ?_⟩
      refine ⟨α1, O, h', env, o1.hr, sr.stp hr s1, .d (.int (-1)), h', rfl, fun α2 H2 z s2 o2 => ?_⟩
      refine ⟨o2.isD.int_eq, ?_⟩
      have r1 := R.mv s2.mv _ _ o1.isD
      simp only [R] at r1
      obtain ⟨p, ys, e4, qq, rr⟩ := r1
      refine ⟨p, ys, e4, ?_, fun l hl => ?_⟩
      · rw [c.K]
        rcases qq with ⟨q1, _⟩ | q1
        · exact .inl (.inl q1)
        · exact .inr q1
      · have v := VOk.tup o2.hr hl rr.rev
        cases v with
        | d r q => exact k α2 _ _ (s1.trans (s2.trans (Stp.upd o2.hr hl))) (.d r q)
    · cases e1
end
theorem eBackT_e {f : DE} {env : Env} {h h1 : Hs} {ds : List D} (e : f env h = some (.d (.tup ds), h1)) : eBackT f env h = some (.d (.tup ds.reverse), h1) := by
  unfold eBackT
  rw [e]
/-! sum -/
def gSum : List RV → Hs → Option (RV × Hs)
  | [x], h => match lv x h with
    | some ds => match intsD ds with
      | some is => some (.d (.int is.sum), h)
      | none => none
    | none => none
  | _, _ => none
theorem cS_sum {K : PySem.W.Frag} : CallS K (rSum K) gSum := fun α O H h xs rs rv h' Q hr o e k => by
  unfold gSum at e
  split at e
  · split at e
    · rename_i ds ed
      split at e
      · rename_i is eb
        cases e
        obtain ⟨x, e1, o1⟩ := VAts1 o
        obtain ⟨p, ys, e2, qq, r⟩ := lv_sq hr o1 ed
        rw [intsD_R eb r] at qq
        exact ⟨p, is, by rw [e1, e2], qq, k _ α H (.refl _ _) (.d hr R.int_mk)⟩
      · cases e
    · cases e
  · cases e
section
variable {Γ : G} {pos p : Pos} {e : Expr} {es : List Expr} {fa : DA}
theorem se_sum (hm : Γ.g.mg "sum" = none) (ha : SA Γ (e :: es) fa) (hg : Γ.sc.names.lookup ("sum" : Str) = some .globalImplicit := by rfl) (he : ∀ env, starEach (e :: es) env = (false, eval e env) :: starEach es env := by intro _; rfl) (hpl : ∀ env, (backTo pos (starEach es env)).any (·.1) = false := by intro _; rfl) : SE Γ (.Call (.Name "sum" p) (e :: es) [] pos) (eF gSum fa) := se_bcall (fun X c => by rw [← c.K]; exact cr_sum c.calm) cS_sum ha hm (by decide +kernel) hg (by decide) (by decide) he hpl
end
theorem gSum_l {is : List Int} {h : Hs} : gSum [.l (.lst (is.map .int))] h = some (.d (.int is.sum), h) := by
  show (match intsD (is.map D.int) with | some is => some (RV.d (.int is.sum), h) | none => none) = _
  rw [intsD_map]
/-! a, b = xs.pop() -/
def dPopT (i : Nat) (g : DG) : DS := fun env h => match env[i]? with
  | some (.c (.lst ds)) => match ds.getLast? with
    | some d => match g d (env.set i (.c (.lst ds.dropLast))) with
      | some env1 => some (.nx env1 h)
      | none => none
    | none => none
  | _ => none
section
variable {Γ : G} {pos apos cpos p : Pos} {tg : Expr} {ws : List Nat} {g : DG}
theorem s1_popT {i : Nat} {x : Str} (hg : SG Γ tg ws g) (hN : Γ.N[i]? = some x := by rfl)
    (hv : Γ.sc.names.lookup x = some .local ∨ Γ.sc.names.lookup x = some .cell ∨ Γ.sc.names.lookup x = some .free := by first | exact Or.inl rfl | exact Or.inr (Or.inl rfl) | exact Or.inr (Or.inr rfl))
    (hd : (x == ("__debug__" : Str)) = false := by decide) (hcd : (x == ("__classdict__" : Str)) = false := by decide)
    (hbase : ∀ env, attributeBase (.Name x p) "pop" env (eval (.Name x p) env) = eval (.Name x p) env := by intro _; rfl)
    (hline : (apos.endLine == cpos.line) = true := by rfl)
    (hs : ∀ env, swapsWithSole [tg] (.Call (.Attribute (.Name x p) "pop" apos) [] [] cpos) pos.line env = pure false := by intro _; rfl) (hw : ∀ env, swappedStores [tg] (.Call (.Attribute (.Name x p) "pop" apos) [] [] cpos) env = pure none := by intro _; rfl)
    (h1 : ∀ env, (assignEach [tg] env).map (·.2) = [assign tg env] := by intro _; rfl) :
    S1 Γ (.Assign [tg] (.Call (.Attribute (.Name x p) "pop" apos) [] [] cpos) pos) (dPopT i g) := fun X c B =>
  PS.imp (ps_asg (pe_bm0 PySem.F.plainAttrs_list PySem.F.slot_list_pop PySem.F.type_list_pop mt_pop (pe_var (by rw [c.N]; exact hN) (Vis.of c hv) hd hcd) (hbase _) hline) (hg X c) (hs _) (hw _) (h1 _)) fun D σ H q => by
    obtain ⟨α, O, h, env, hr, sr, br, o, e, k⟩ := q
    unfold dPopT at e
    split at e
    · rename_i ds ei
      split at e
      · rename_i d ed
        split at e
        · rename_i env1 eg
          cases e
          obtain ⟨a, e2, ⟨xs, e3, rl⟩, oa⟩ := sr.own i _ ei
          have hl := rl.length
          have dne : ds ≠ [] := fun z => by rw [z] at ed; cases ed
          have pos : 0 < ds.length := List.length_pos_iff.mpr dne
          rw [List.getLast?_eq_getElem?] at ed
          obtain ⟨u, hu, ru⟩ := rl.get ed
          rw [hl] at hu
          refine ⟨.ref a, e2, .inl ⟨rfl, xs, sqL_some e3⟩, ?_⟩
          refine ⟨a, xs, u, rfl, rfl, e3, hu, ?_⟩
          obtain ⟨w1, w2, w3⟩ := wrC (c' := .lst ds.dropLast) (o := .lst xs.dropLast) hr sr br ei e2 (fun _ => trivial) ⟨_, upd_same, RL.mv (Mv.updO oa) _ _ (RL.dropLast rl)⟩
          exact ⟨α, O, h, _, d, w1, w2, R.mv (Mv.updO oa) _ _ ru, env1, eg, fun σ' s' l _ => k α O _ σ' w1 s' (w3.less l)⟩
        · cases e
      · cases e
    · cases e
end
theorem dPopT_e {i : Nat} {g : DG} {env env1 : Env} {h : Hs} {ds : List D} {d : D} (e : env[i]? = some (.c (.lst (ds ++ [d])))) (eg : g d (env.set i (.c (.lst ds))) = some env1) : dPopT i g env h = some (.nx env1 h) := by
  unfold dPopT
  simp only [e, List.getLast?_concat, List.dropLast_concat, eg]
end F
/-! F45: a comprehension over a list of the heap -/
namespace F
open PySem PySem.Spec PyProof.Rows L2
def lcLR (n : Nat) (g : DG) (tt : DT) (te : DE) (env : Env) : Nat → Nat → Hs → Option (List D × Hs)
  | 0, _, _ => none
  | k + 1, j, h => match h[n]? with
    | some (.lst ds) => match ds[j]? with
      | none => some ([], h)
      | some d => match g d env with
        | some env1 => match tt env1 h with
          | some (false, h1) => lcLR n g tt te env k (j + 1) h1
          | some (true, h1) => match te env1 h1 with
            | some (.d y, h2) => match lcLR n g tt te env k (j + 1) h2 with
              | some (ys, h3) => some (y :: ys, h3)
              | none => none
            | _ => none
          | none => none
        | none => none
    | _ => none
def eLcR (fo : DE) (g : DG) (tt : DT) (te : DE) (vs : List Nat) (kk : Nat) : DE := fun env h => match fo env h with
  | some (.d (.ref n), h1) => if kk ≤ sizeLine then match lcLR n g tt te (wipeE env vs) kk 0 h1 with
    | some (ys, h2) => some (.l (.lst ys), h2)
    | none => none
    else none
  | _ => none
section
variable {ws : List Nat} {fo : DE} {g : DG} {tt : DT} {te : DE} {kk : Nat}
theorem tLcR_imp {K : PySem.W.Frag} {vs : List Nat} (hw : ∀ i ∈ ws, i ∈ vs) {σ : St} {H : Hp} {Q : VK} (q : tE K (eLcR fo g tt te vs kk) σ H Q) : tLc (iList K (tE K fo)) (tG K ws g) (tT K tt) (tE K te) vs σ H Q := by
  obtain ⟨α, O, h, env, hr, sr, rv, h', e, k⟩ := q
  unfold eLcR at e
  split at e
  · rename_i n h1 e1
    split at e
    · rename_i hz
      split at e
      · rename_i ys h2 e2
        cases e
        refine ⟨α, O, h, env, hr, sr, _, h1, e1, fun α1 H1 x s1 o1 => ?_⟩
        have r1 := o1.hr
        have ra := o1.isD
        simp only [R] at ra
        obtain ⟨a, ea, an⟩ := ra
        have cellOf : ∀ {α' : List Addr} {O' : Addr → Prop} {H' : Hp} {h' : Hs} {ds : List F.D}, HRel K α' O' H' h' → α'[n]? = some a → h'[n]? = some (.lst ds) → ∃ xs, H' a = some (.lst xs) ∧ RL K α' O' H' ds xs := fun {α' O' H' h' ds} hr' e2 e3 => by
          obtain ⟨xs, e4, rl⟩ := hr'.cell n _ a e3 e2
          exact ⟨xs, e4, rl⟩
        have sq0 : ∃ xs, SqL K H1 a xs := by
          have eo2 := e2
          cases kk with
          | zero => cases eo2
          | succ kk =>
            unfold lcLR at eo2
            split at eo2
            · rename_i ds ed
              obtain ⟨xs, e4, rl⟩ := cellOf r1 an ed
              exact ⟨xs, SqL.of e4⟩
            · cases eo2
        refine ⟨a, ea, sq0, fun Dn hD => ?_⟩
        have sr1 := sr.stp hr s1
        have hn : H Dn = none := none_of_fr s1.fr (fun m => r1.notin hD (by
          obtain ⟨i, hi, e2⟩ := List.getElem_of_mem m
          exact List.mem_of_getElem? (s1.pre i _ (by rw [List.getElem?_eq_getElem hi, e2])))) hD
        refine ⟨fun i m H' => i + m = kk ∧ ∃ α' h2 acc xs ys', HRel K α' (Ins O Dn) H' h2 ∧ Stp α1 H1 α' H' ∧ H' Dn = some (.lst xs) ∧ RL K α' (Ins O Dn) H' acc xs ∧ acc.length ≤ i ∧
            lcLR n g tt te (wipeE env vs) m i h2 = some (ys', h') ∧ acc ++ ys' = ys,
          ⟨kk, Nat.zero_add _, α1, h1, [], [], ys, r1.fresh hD, ⟨fun a o e n => by rw [upd_ne (ne_of_none e hD)]; exact e, fun _ _ e => e, fun _ m => .inl m⟩, upd_same, RL.nil, Nat.zero_le _, e2, rfl⟩, ?_⟩
        rintro i m H' ⟨him, α', hc, acc, xs, ys', hr', st', hx, rl, hacc, e', eys⟩
        have nD : Dn ∉ α' := fun m => hr'.dis _ m (.inl rfl)
        have mv1 : Mv α1 O H1 α' (Ins O Dn) H' := ⟨fun a o e n n2 => ⟨st'.fr a o e n, (fun m => by
          rcases st'.new a m with z | z
          · exact n z
          · rw [z] at e; cases e), fun z => z.elim (ne_of_none e hD) n2⟩, st'.pre⟩
        have sr' : SRel K α' (Ins O Dn) H' σ env := sr1.mv mv1 (fun a o q e => st'.fr a o e fun m => r1.dis a m q) fun a q => .inr q
        have an' : α'[n]? = some a := st'.pre n a an
        cases m with
        | zero => cases e'
        | succ m =>
          unfold lcLR at e'
          split at e'
          · rename_i ds ed
            obtain ⟨xs0, ex, rl0⟩ := cellOf hr' an' ed
            have sq : SqL K H' a xs0 := SqL.of ex
            split at e'
            · rename_i en
              cases e'
              refine .inl ⟨⟨xs0, sq, ?_⟩, ?_⟩
              · rw [← rl0.length]
                exact List.getElem?_eq_none_iff.mp en
              · rw [List.append_nil] at eys
                subst eys
                exact k α' H' _ (s1.trans st') (.l hn hr' ⟨xs, hx, rl⟩)
            · rename_i d ed2
              obtain ⟨y0, ey, ry⟩ := rl0.get ed2
              refine .inr ⟨⟨xs0, y0, sq, ey⟩, fun H'' => ∃ α'' h2 acc xs ys'', HRel K α'' (Ins O Dn) H'' h2 ∧ Stp α1 H1 α'' H'' ∧ H'' Dn = some (.lst xs) ∧ RL K α'' (Ins O Dn) H'' acc xs ∧ acc.length ≤ i + 1 ∧
                  lcLR n g tt te (wipeE env vs) m (i + 1) h2 = some (ys'', h') ∧ acc ++ ys'' = ys,
                fun H'' ⟨α'', h2, acc, xs, ys'', z1, z2, z3, z4, z5, z6, z7⟩ => ⟨m, Nat.lt_succ_self m, by omega, α'', h2, acc, xs, ys'', z1, z2, z3, z4, z5, z6, z7⟩, fun x2 H'' yl => ?_⟩
              obtain ⟨eH, hx2⟩ := yl
              subst eH
              have exy := hx2 xs0 sq
              rw [ey] at exy
              cases exy
              obtain ⟨sw, lw⟩ := sr'.wipe vs
              split at e'
              · rename_i env1 e3
                refine ⟨α', _, hc, _, d, hr', sw, ry, env1, e3, fun σ3 sr3 l3 w3 => ⟨?_, ?_⟩⟩
                · rw [w3 vs hw, wipe_sub vs fun _ h => h]
                · split at e'
                  · rename_i h3 e4
                    refine ⟨α', _, hc, env1, hr', sr3, false, h3, e4, fun α3 H3 s3 r3 => iteF ?_⟩
                    exact ⟨α3, h3, acc, xs, ys', r3, st'.trans s3, s3.fr _ _ hx nD, RL.mv s3.mv _ _ rl, by omega, e', eys⟩
                  · rename_i h3 e4
                    refine ⟨α', _, hc, env1, hr', sr3, true, h3, e4, fun α3 H3 s3 r3 => iteT ?_⟩
                    split at e'
                    · rename_i y' h4 e5
                      split at e'
                      · rename_i zs h5 e6
                        cases e'
                        refine ⟨α3, _, h3, env1, r3, sr3.stp hr' s3, _, h4, e5, fun α4 H4 w s4 o4 => ?_⟩
                        have nD3 : Dn ∉ α3 := fun m => r3.dis _ m (.inl rfl)
                        have hx4 : H4 Dn = some (.lst xs) := s4.fr _ _ (s3.fr _ _ hx nD) nD3
                        have rl4 := RL.mv s4.mv _ _ (RL.mv s3.mv _ _ rl)
                        have hl := rl4.length
                        have q : Ins O Dn Dn := .inl rfl
                        refine ⟨xs, hx4, by omega, α4, h4, acc ++ [y'], xs ++ [w], zs, o4.hr.updO q, ?_, upd_same, RL.mv (Mv.updO q) _ _ (rl4.app (RL.one o4.isD)), by simp; omega, e6, by simpa using eys⟩
                        have st5 := st'.trans (s3.trans s4)
                        exact ⟨fun a o e n => by rw [upd_ne (ne_of_none e hD)]; exact st5.fr a o e n, st5.pre, st5.new⟩
                      · cases e'
                    · cases e'
                  · cases e'
              · cases e'
          · cases e'
      · cases e
    · cases e
  · cases e
variable {Γ : G} {pos : Pos} {elt tg iter : Expr} {ifs : List Expr} {scope : Scope} {own : List (Str × Nat)}
theorem se_lcR (hi : SE Γ iter fo) (hg : SG (Γ.blk scope) tg ws g) (ht : STs (Γ.blk scope) ifs tt) (he : SE (Γ.blk scope) elt te) (ok : blkC Γ.N Γ.sc scope own = true := by (dsimp only [F.G.blk]; decide +kernel)) (hw : (ws.all fun i => (own.map (·.2)).contains i) = true := by rfl)
    (hs : ∀ env x, foldedSetIterable iter env x = pure x := by intro _ _; rfl) : SE Γ (.ListComp elt [⟨tg, iter, ifs, 0⟩] scope pos) (eLcR fo g tt te (own.map (·.2)) kk) := fun X cc =>
  PE.imp (pe_lc (wi := iList X.K (tE Γ.g.K fo)) cc.calm (by rw [cc.N]; exact cc.nd) (pi_list (hi X cc)) (by rw [cc.N, cc.sc]; exact blkOk_by ok) (fun s H C cl fp => hg _ (cc.blk s H scope C cl fp)) (fun s H C cl fp => ht _ (cc.blk s H scope C cl fp)) (fun s H C cl fp => he _ (cc.blk s H scope C cl fp)) (hs _)) fun σ H Q q => by
    rw [cc.K]
    exact tLcR_imp (fun i hi => by
      have := List.all_eq_true.mp hw i hi
      simpa using this) q
end
/-- where no round changes the heap -/
theorem lcLR_same {n : Nat} {g : DG} {tt : DT} {te : DE} {env : Env} {h : Hs} {ds : List D} (hn : h[n]? = some (.lst ds)) (v : D → D) (H : ∀ d ∈ ds, ∃ env1, g d env = some env1 ∧ tt env1 h = some (true, h) ∧ te env1 h = some (.d (v d), h)) : ∀ (m k j : Nat), ds.length = j + m → m < k →
    lcLR n g tt te env k j h = some ((ds.drop j).map v, h)
  | m, 0, j, _, hk => absurd hk (by omega)
  | 0, k + 1, j, e, hk => by
    unfold lcLR
    simp only [hn]
    rw [List.getElem?_eq_none (by omega), List.drop_eq_nil_of_le (by omega)]
    rfl
  | m + 1, k + 1, j, e, hk => by
    have hj : j < ds.length := by omega
    obtain ⟨env1, e1, e2, e3⟩ := H ds[j] (List.getElem_mem hj)
    have ih := lcLR_same hn v H m k (j + 1) (by omega) (by omega)
    unfold lcLR
    simp only [hn, List.getElem?_eq_getElem hj, e1, e2, e3, ih]
    rw [List.drop_eq_getElem_cons hj]
    rfl
theorem eLcR_same {fo : DE} {g : DG} {tt : DT} {te : DE} {vs : List Nat} {kk n : Nat} {env : Env} {h h1 : Hs} {ds : List D} (e0 : fo env h = some (.d (.ref n), h1)) (hn : h1[n]? = some (.lst ds)) (hk : ds.length < kk) (hz : kk ≤ sizeLine) (v : D → D) (H : ∀ d ∈ ds, ∃ env1, g d (wipeE env vs) = some env1 ∧ tt env1 h1 = some (true, h1) ∧ te env1 h1 = some (.d (v d), h1)) :
    eLcR fo g tt te vs kk env h = some (.l (.lst (ds.map v)), h1) := by
  unfold eLcR
  rw [e0]
  simp only [if_pos hz, lcLR_same hn v H ds.length kk 0 (by omega) hk, List.drop_zero]
end F
namespace F
open PySem PySem.Spec PyProof.Rows L2
/-! o.reverse() -/
def dRevR (fo : DE) : DS := fun env h => match fo env h with
  | some (.d (.ref n), h1) => match h1[n]? with
    | some (.lst ds) => some (.nx env (h1.set n (.lst ds.reverse)))
    | _ => none
  | _ => none
section
variable {Γ : G} {pos apos cpos : Pos} {o : Expr} {fo : DE}
theorem s1_revR (ho : SE Γ o fo) (hbase : ∀ env, attributeBase o "reverse" env (eval o env) = eval o env := by intro _; rfl)
    (hline : (apos.endLine == cpos.line) = true := by rfl)
    (hsw : ∀ env, swapsWith (.Call (.Attribute o "reverse" apos) [] [] cpos) none pos.line env = pure false := by intro _; rfl) :
    S1 Γ (.Expr (.Call (.Attribute o "reverse" apos) [] [] cpos) pos) (dRevR fo) := fun X c B =>
  PS.imp (ps_expr (pe_bm0 PySem.F.plainAttrs_list PySem.F.slot_list_reverse PySem.F.type_list_reverse mt_reverse (ho X c) (hbase _) hline) (hsw _)) fun D σ H q => by
    obtain ⟨α, O, h, env, hr, sr, br, o, e, k⟩ := q
    unfold dRevR at e
    split at e
    · rename_i n h1 e1
      split at e
      · rename_i es e2
        cases e
        refine ⟨α, O, h, env, hr, sr, _, h1, e1, fun α1 H1 x s1 o1 => ?_⟩
        obtain ⟨a, e5, e6, xs, e7, rl⟩ := o1.isD.ref_cell o1.hr e2
        subst e5
        refine ⟨.inl ⟨rfl, xs, sqL_some e7⟩, ?_⟩
        refine ⟨a, xs, rfl, rfl, e7, ?_⟩
        obtain ⟨w1, w2⟩ := wrR (c := .lst es.reverse) (o := .lst xs.reverse) o1.hr e6 ⟨_, upd_same, RL.mv (upd_stp e6).mv _ _ rl.rev⟩
        have s4 := s1.trans w2
        exact k α1 O _ σ w1 (sr.stp hr s4) (br.stp hr w1 s4)
      · cases e
    · cases e
end
/-! name = [.. for .. in a heap list] -/
section
variable {Γ : G} {pos : Pos} {elt tg iter : Expr} {ifs : List Expr} {scope : Scope} {own : List (Str × Nat)} {ws : List Nat} {fo : DE} {g : DG} {tt : DT} {te : DE} {kk : Nat}
theorem s1_setLcR {i : Nat} {y : Str} {py spos : Pos} (hN : Γ.N[i]? = some y := by rfl) (hyl : Γ.sc.names.lookup y = some .local := by rfl) (hi : SE Γ iter fo) (hg : SG (Γ.blk scope) tg ws g) (ht : STs (Γ.blk scope) ifs tt) (he : SE (Γ.blk scope) elt te) (ok : blkC Γ.N Γ.sc scope own = true := by (dsimp only [F.G.blk]; decide +kernel)) (hw : (ws.all fun i => (own.map (·.2)).contains i) = true := by rfl)
    (hl : (py.line == pos.line) = true := by rfl) (ha : (scope.names.any fun (n, k) => n == y && (k == .local || k == .cell)) = false := by decide +kernel) (hs : ∀ env x, foldedSetIterable iter env x = pure x := by intro _ _; rfl) :
    S1 Γ (.Assign [.Name y py] (.ListComp elt [⟨tg, iter, ifs, 0⟩] scope pos) spos) (dSet i (eLcR fo g tt te (own.map (·.2)) kk)) := fun X cc B => by
  refine ⟨fun pins s σ H D I q => ?_⟩
  have hk : X.env.scope.kind = .function := I.ok.kind
  have hy2 : X.env.scope.names.lookup y = some .local := by rw [cc.sc]; exact hyl
  refine (ps_setLc (wi := iList X.K (tE Γ.g.K fo)) cc.calm (by rw [cc.N]; exact cc.nd) (by rw [cc.N]; exact hN) hy2 (sw_true hk hy2 hl ha) (pi_list (hi X cc)) (by rw [cc.N, cc.sc]; exact blkOk_by ok) (fun s H C cl fp => hg _ (cc.blk s H scope C cl fp)) (fun s H C cl fp => ht _ (cc.blk s H scope C cl fp)) (fun s H C cl fp => he _ (cc.blk s H scope C cl fp)) (hs _)).run pins s σ H D I ?_
  obtain ⟨α, O, h, env, hr, sr, br, o, e, k⟩ := q
  have hw' : ∀ i ∈ ws, i ∈ own.map (·.2) := fun i hi => by
    have := List.all_eq_true.mp hw i hi
    simpa using this
  rw [cc.K]
  unfold dSet at e
  split at e
  · rename_i d h1 e1
    cases e
    refine tLcR_imp hw' ⟨α, O, h, env, hr, sr, _, h1, e1, fun α1 H1 x s1 o1 => ?_⟩
    obtain ⟨O', r, s, b⟩ := store_imp (i := i) hr sr br s1 o1 rfl
    exact k α1 O' H1 _ r s b
  · rename_i d h1 e1
    cases e
    refine tLcR_imp hw' ⟨α, O, h, env, hr, sr, _, h1, e1, fun α1 H1 x s1 o1 => ?_⟩
    obtain ⟨O', r, s, b⟩ := store_imp (i := i) hr sr br s1 o1 rfl
    exact k α1 O' H1 _ r s b
  · cases e
end
theorem dRevR_e {fo : DE} {env : Env} {h h1 : Hs} {n : Nat} {ds : List D} (e : fo env h = some (.d (.ref n), h1)) (e2 : h1[n]? = some (.lst ds)) : dRevR fo env h = some (.nx env (h1.set n (.lst ds.reverse))) := by
  unfold dRevR
  rw [e]
  simp only [e2]
end F
/-! F47: a heap list against [] (what lies in it may be deep) -/
namespace F
open PySem PySem.Spec PyProof.Rows L2
def gEqNl (ng : Bool) : RV → RV → Hs → Option (RV × Hs)
  | .d (.ref n), .l (.lst []), h => match h[n]? with
    | some (.lst ds) => match tPs (tPh h 63) ds with
      | some ps => if SeqAt.shaped (.list ps) then some (.d (.bl (if ng then !ps.isEmpty else ps.isEmpty)), h) else none
      | none => none
    | _ => none
  | _, _, _ => none
theorem eqv_nil (ps : List PyData) : PyData.eqv (.list ps) (.list []) = ps.isEmpty := by
  cases ps with
  | nil => simp only [PyData.eqv, PyData.eqvAll]; rfl
  | cons p ps => simp only [PyData.eqv, PyData.eqvAll]; rfl
theorem oS_eqNl {K : PySem.W.Frag} {ng : Bool} : OpS K (rEqN K ng) (gEqNl ng) := fun α O H h x y rx ry rv h' Q hr ox oy e k => by
  unfold gEqNl at e
  split at e
  · rename_i n
    split at e
    · rename_i ds ed
      split at e
      · rename_i ps ep
        split at e
        · rename_i hs
          cases e
          have ra := ox.isD
          obtain ⟨a, ea, e4, xs, q1, q2⟩ := ra.ref_cell hr ed
          have d1 : Dp K H x (.list ps) := by
            rw [ea]
            exact Dp.lst (sqL_some q1) (tPs_dp (fun n p x e r => tPh_dp hr 63 n p x e r) ds ps xs ep q2)
          have d2 : Dp K H y (.list []) := tR_dp hr (rv := .l (.lst [])) (by simp only [tR, tPs]) oy
          have s2 : SeqAt.shaped (.list []) = true := by
            simp only [SeqAt.shaped, PyData.canLay0, PyData.canLayAll0, PyData.depth, PyData.depthAll]
            decide
          refine .inr ⟨_, _, d1, d2, hs, s2, ?_⟩
          rw [eqv_nil]
          exact k _ α H (.refl _ _) (.d hr R.bl_mk)
        · cases e
      · cases e
    · cases e
  · cases e
theorem gEqNl_e {ng : Bool} {n : Nat} {h : Hs} {ds : List D} {ps : List PyData} (e : h[n]? = some (.lst ds)) (ep : tPs (tPh h 63) ds = some ps) (hs : SeqAt.shaped (.list ps) = true) : gEqNl ng (.d (.ref n)) (.l (.lst [])) h = some (.d (.bl (if ng then !ps.isEmpty else ps.isEmpty)), h) := by
  unfold gEqNl
  simp only [e, ep, hs, if_true]
/-! a, b = constants -/
theorem s1_asgC {Γ : G} {pos : Pos} {tg e : Expr} {ws : List Nat} {f : DE} {g : DG} (he : SE Γ e f) (hg : SG Γ tg ws g) (hs : ∀ env, swapsWithSole [tg] e pos.line env = pure false := by intro _; rfl)
    (hw : ∀ env, env.scope = Γ.sc → swappedStores [tg] e env = pure none := by intro env hs; unfold swappedStores Env.blockKind Env.kindOf; rw [hs]; with_unfolding_all rfl)
    (h1 : ∀ env, (assignEach [tg] env).map (·.2) = [assign tg env] := by intro _; rfl) : S1 Γ (.Assign [tg] e pos) (dAsg f g) := fun X c B => PS.imp (ps_asg (he X c) (hg X c) (hs _) (hw _ c.sc) (h1 _)) fun D σ H q => by
  obtain ⟨α, O, h, env, hr, sr, br, o, e, k⟩ := q
  unfold dAsg at e
  split at e
  · rename_i d h1 e1
    split at e
    · rename_i env1 e2
      cases e
      refine ⟨α, O, h, env, hr, sr, _, h1, e1, fun α1 H1 x s1 o1 => ?_⟩
      exact ⟨α1, O, h1, env, d, o1.hr, sr.stp hr s1, o1.isD, env1, e2, fun σ' s' l _ => k α1 O H1 σ' o1.hr s' ((br.stp hr o1.hr s1).less l)⟩
    · cases e
  · cases e
end F
/-! F48: more where a token is out: a + b, xs.append(e) -/
namespace F
open PySem PySem.Spec PyProof.Rows L2 CwR
section
variable {X : Cx} {o e : Expr} {es : List Expr} {to te : TE} {t : TA} {T name id : String} {r : V → List V → Hp → VK → Prop} {apos cpos pos : Pos}
theorem pet_bm (pa : PlainAttrs T) (slot : PySem.Slot T name id) (hty : typeOf (.builtin id) = pure (.type "method_descriptor")) (hm : MtR X id r) (ho : PE X o to) (ha : PAT X (e :: es) t)
    (hbase : attributeBase o name X.env (eval o X.env) = eval o X.env := by rfl)
    (hfew : ((backTo cpos (starEach (e :: es) X.env)).all (fun x => !x.1) && (backToKw cpos (keywordEach [] X.env)).all (fun x => x.1.isSome)
      && decide ((e :: es).length + ([] : List Keyword).length + (if ([] : List Keyword).isEmpty then 0 else 1) < 30)) = true := by rfl)
    (hline : (apos.endLine == cpos.line) = true := by rfl) (hs : starEach (e :: es) X.env = (false, eval e X.env) :: starEach es X.env := by rfl) (hplain : (backTo cpos (starEach es X.env)).any (·.1) = false := by rfl) :
    PET X (.Call (.Attribute o name apos) (e :: es) [] cpos) (tBM X.K T r to t) := by
  intro pins s σ H Q h0 I h
  refine wpAny_Call_method_late hbase hfew hline rfl (thnT (ho.run pins s σ H _ I h) fun v s1 tk ⟨x, H1, I1, r1, ty, q1⟩ => ?_)
  obtain ⟨h1, h2⟩ := tyV_is I1 r1 ty
  refine ⟨T, id, pa, slot, hty, h1, h2, ?_⟩
  have hA := ha cpos pins s1 σ H1 _ (Nat.le_trans h0 tk) I1 q1
  rw [hs] at hA ⊢
  refine Calls.callWith_builtin (by show (false || (backTo cpos (starEach es X.env)).any (·.1)) = false; rw [hplain] <;> rfl) (Calls.evalArgs_plain ?_)
  exact thn hA fun us s2 ⟨vs, H2, I2, r2, q2⟩ => hm pins s2 σ H2 x vs v us Q I2 r1 r2 q2
theorem pst_expr (he : PET X e te) (hs : swapsWith e none pos.line X.env = pure false := by rfl) : PST X (.Expr e pos) (tDrop te) := by
  intro pins s σ H D h0 I h
  exact wpAny_Expr_any (thn (he pins s σ H _ h0 I h) fun v s1 ⟨x, H1, I1, r1, q1⟩ => ⟨σ, H1, I1, q1⟩) I.quiet hs
end
section
variable {Γ : G} {pos apos cpos p : Pos} {a b e : Expr} {fa fb f : DE}
theorem set_add (ha : SET Γ a fa) (hb : SET Γ b fb) : SET Γ (.BinOp a .Add b pos) (eB gAdd fa fb) := fun X c => PET.imp (pet_op (oR_add c) (ha X c) (hb X c)) fun σ H Q q => tOp_imp oS_add q
theorem s1t_app {i : Nat} {x : Str} (hN : Γ.N[i]? = some x := by rfl) (he : SET Γ e f) (hv : Γ.sc.names.lookup x = some .local ∨ Γ.sc.names.lookup x = some .cell ∨ Γ.sc.names.lookup x = some .free := by first | exact Or.inl rfl | exact Or.inr (Or.inl rfl) | exact Or.inr (Or.inr rfl))
    (hd : (x == ("__debug__" : Str)) = false := by decide) (hcd : (x == ("__classdict__" : Str)) = false := by decide)
    (hbase : ∀ env, attributeBase (.Name x p) "append" env (eval (.Name x p) env) = eval (.Name x p) env := by intro _; rfl)
    (hfew : ∀ env, ((backTo cpos (starEach [e] env)).all (fun x => !x.1) && (backToKw cpos (keywordEach [] env)).all (fun x => x.1.isSome)
      && decide (([e] : List Expr).length + ([] : List Keyword).length + (if ([] : List Keyword).isEmpty then 0 else 1) < 30)) = true := by intro _; rfl)
    (hline : (apos.endLine == cpos.line) = true := by rfl) (hs : ∀ env, starEach [e] env = (false, eval e env) :: starEach [] env := by intro _; rfl) (hplain : ∀ env, (backTo cpos (starEach [] env)).any (·.1) = false := by intro _; rfl)
    (hsw : ∀ env, swapsWith (.Call (.Attribute (.Name x p) "append" apos) [e] [] cpos) none pos.line env = pure false := by intro _; rfl) :
    S1T Γ (.Expr (.Call (.Attribute (.Name x p) "append" apos) [e] [] cpos) pos) (dApp i f) := fun X c B =>
  PST.imp (pst_expr (pet_bm PySem.F.plainAttrs_list PySem.F.slot_list_append PySem.F.type_list_append mt_append (pe_var (by rw [c.N]; exact hN) (Vis.of c hv) hd hcd) (pat_cons (he X c) pat_nil (hs _)) (hbase _) (hfew _) hline (hs _) (hplain _)) (hsw _)) fun D σ H q => by
    obtain ⟨α, O, h, env, hr, sr, br, o, e, k⟩ := q
    unfold dApp at e
    split at e
    · rename_i ds ei
      split at e
      · rename_i d h1 e1
        split at e
        · rename_i hz
          cases e
          obtain ⟨a, e2, ⟨xs, e3, rl⟩, oa⟩ := sr.own i _ ei
          refine ⟨.ref a, e2, .inl ⟨rfl, xs, sqL_some e3⟩, ?_⟩
          refine ⟨α, O, h, env, hr, sr, _, h1, e1, fun α1 H1 y s1 o1 => ?_⟩
          have sr1 := sr.stp hr s1
          obtain ⟨a', e2', ⟨xs', e3', rl'⟩, oa'⟩ := sr1.own i _ ei
          rw [e2] at e2'
          cases e2'
          refine ⟨a, xs', y, rfl, rfl, e3', by rw [← rl'.length]; exact hz, ?_⟩
          obtain ⟨w1, w2, w3⟩ := wrC (c' := .lst (ds ++ [d])) (o := .lst (xs' ++ [y])) o1.hr sr1 (br.stp hr o1.hr s1) ei e2 (fun _ => trivial) ⟨_, upd_same, RL.mv (Mv.updO oa') _ _ (rl'.app (RL.one o1.isD))⟩
          exact k α1 O _ σ w1 w2 w3
        · cases e
      · cases e
    · cases e
end
end F
/-! F49: behind a test against a written text a token is out (for defs whose parameter is a cell) -/
namespace F
open PySem PySem.Spec PyProof.Rows L2 CwR
def PTO (X : Cx) (e : Expr) (t : TT) : Prop := ∀ (pins : List (Addr × Obj)) (s : Shared) (σ : St) (H : Hp) (Q : Bool → Hp → Prop), Inv X pins σ H s → t σ H Q → wpAny (model X.prog X.w) X.A (isTrue e X.env (eval e X.env)) (fun b s1 => 1 ≤ s1.toks ∧ TP X pins σ Q b s1) X.xe s
section
variable {X : Cx} {a : Expr} {ta : TE} {y : Str} {j : Nat} {cp pos : Pos}
theorem pto_cmp {op : CmpOp} {r : R2} (ho : OpR X (compareOp op) r) (ha : PE X a ta) (hm : behindInMarks op (.Constant (.str y) j cp) = false) : PTO X (.Compare a [op] [.Constant (.str y) j cp] pos) (tTest (tOp r ta (tC (.str y)))) := by
  intro pins s σ H Q I h
  refine wpAny_isTrue_Compare1 (thn (ha.run pins s σ H _ I h) fun v s1 ⟨x, H1, I1, r1, q1⟩ => Calls.Constant_str ?_) hm
  have hq := ho pins { s1 with toks := s1.toks + 1 } σ H1 x (.str y) v (.str y s1.toks) _ (I1.tok _) r1 ⟨_, rfl⟩ q1
  refine thnT hq fun c s3 tk ⟨z, H3, I3, r3, k, e, q3⟩ => ?_
  subst e
  cases r3
  exact wpAny_truthy_bool ⟨Nat.le_trans (Nat.le_add_left 1 _) tk, H3, I3, q3⟩
theorem pss_ifO {c : Expr} {p q rest : List Stmt} {tc : TT} {t u v : TS} (hc : PTO X c tc) (ha : PSsT X p t) (hb : PSsT X q u) (hr : PSsT X rest v) : PSs X (.If c p q pos :: rest) (tSeq (tIfS tc t u) v) := by
  refine ⟨fun pins s σ H D I h => ?_⟩
  refine wpAny_execs_cons (thn (wpAny_If (Q := fun f s2 => 1 ≤ s2.toks ∧ SP X pins { D with nx := v D } f s2) (thn (hc pins s σ H _ I h) fun d s1 ⟨tk, H1, I1, q1⟩ => ?_)) fun f s1 ⟨tk, q⟩ => ?_)
  · cases d with
    | true => exact thnT (ha pins s1 σ H1 _ tk I1 q1) fun f s2 t2 q => ⟨Nat.le_trans tk t2, q⟩
    | false => exact thnT (hb pins s1 σ H1 _ tk I1 q1) fun f s2 t2 q => ⟨Nat.le_trans tk t2, q⟩
  · cases f with
    | next =>
      obtain ⟨σ', H', I', q⟩ := q
      exact hr pins s1 σ' H' D tk I' q
    | ret v => exact q
    | brk => exact q
    | cont => exact q
end
theorem tE_mono {K : PySem.W.Frag} {f : DE} {σ : St} {H : Hp} {Q Q2 : VK} (q : tE K f σ H Q) (i : ∀ x H', Q x H' → Q2 x H') : tE K f σ H Q2 := by
  obtain ⟨α, O, h, env, hr, sr, rv, h', e, k⟩ := q
  exact ⟨α, O, h, env, hr, sr, rv, h', e, fun α1 H1 x s1 o1 => i _ _ (k α1 H1 x s1 o1)⟩
theorem tE_str {K : PySem.W.Frag} {l : List Nat} {σ : St} {H : Hp} {Q : VK} (q : tE K (eC (.str l)) σ H Q) : Q (.str (S l)) H := by
  obtain ⟨α, O, h, env, hr, sr, rv, h', e, k⟩ := q
  cases e
  exact k α H _ (.refl _ _) (.d hr R.str_mk)
section
variable {Γ : G} {pos cpos cp : Pos} {j : Nat} {a : Expr} {p q sts : List Stmt} {fa : DE} {r : R2} {g : RV → RV → Hs → Option (RV × Hs)} {f1 f2 f3 : DS} {l : List Nat} {ys : Str}
theorem ss_ifO {op : CmpOp} (ho : ∀ X, Γ.At X → OpR X (compareOp op) r) (hs : OpS Γ.g.K r g) (he : SE Γ a fa) (h1 : SST Γ p f1) (h2 : SST Γ q f2) (h3 : SST Γ sts f3) (hy : ys = S l := by rfl) (hm : behindInMarks op (.Constant (.str ys) j cp) = false := by first | exact nomark _ | rfl) :
    SS Γ (.If (.Compare a [op] [.Constant (.str ys) j cp] cpos) p q pos :: sts) (dSeq (dIf (fB (eB g fa (eC (.str l)))) f1 f2) f3) := fun X cc B => by
  subst hy
  refine PSs.imp (pss_ifO (pto_cmp (ho X cc) (he X cc) hm) (h1 X cc B) (h2 X cc B) (h3 X cc B)) fun D σ H q => ?_
  obtain ⟨α, O, h, env, hr, sr, br, o, e, k⟩ := q
  have go : ∀ (D2 : Ends) (o2 : SOut), dIf (fB (eB g fa (eC (.str l)))) f1 f2 env h = some o2 → SK Γ.g.K B D2 o2 → tIfS (tTest (tOp r (tE Γ.g.K fa) (tC (.str (S l))))) (tS Γ.g.K B f1) (tS Γ.g.K B f2) D2 σ H := fun D2 o2 e2 k2 => by
    unfold dIf at e2
    have cv : ∀ Q, tT Γ.g.K (fB (eB g fa (eC (.str l)))) σ H Q → tTest (tOp r (tE Γ.g.K fa) (tC (.str (S l)))) σ H Q := fun Q q => by
      have := tB_imp (t := tOp r (tE Γ.g.K fa) (tE Γ.g.K (eC (.str l)))) (fun σ H Q q => tOp_imp hs q) q
      exact tE_mono this fun x H' q => tE_str q
    split at e2
    · rename_i h1 e1
      refine cv _ ⟨α, O, h, env, hr, sr, true, h1, e1, fun α1 H1 s1 r1 => iteT ?_⟩
      exact ⟨α1, O, h1, env, r1, sr.stp hr s1, br.stp hr r1 s1, o2, e2, k2⟩
    · rename_i h1 e1
      refine cv _ ⟨α, O, h, env, hr, sr, false, h1, e1, fun α1 H1 s1 r1 => iteF ?_⟩
      exact ⟨α1, O, h1, env, r1, sr.stp hr s1, br.stp hr r1 s1, o2, e2, k2⟩
    · cases e2
  unfold dSeq at e
  split at e
  · rename_i env1 h1 e1
    exact go _ _ e1 (fun α1 O1 H1 σ1 hr1 sr1 br1 => ⟨α1, O1, h1, env1, hr1, sr1, br1, o, e, k⟩)
  · rename_i r hn
    refine go _ o e ?_
    cases o with
    | nx env1 h1 => exact absurd e (hn env1 h1)
    | rt rv h1 => exact k
    | bk env1 h1 => exact k
    | ct env1 h1 => exact k
end
end F
/-! F50: len(set(xs)), xs a list of texts -/
namespace StT
open PySem PySem.Spec PyProof.Rows L2
section
variable {K : Type} [DecidableEq K]
def ad (σ : List K) (k : K) : List K := if k ∈ σ then σ else σ ++ [k]
def dd (l : List K) : List K := l.foldl ad []
theorem dd_snoc {l : List K} {k : K} : dd (l ++ [k]) = ad (dd l) k := by unfold dd; rw [List.foldl_append]; rfl
theorem mem_ad {σ : List K} {k x : K} : x ∈ ad σ k ↔ x ∈ σ ∨ x = k := by
  unfold ad
  split
  · rename_i h
    exact ⟨.inl, fun q => q.elim id fun e => e ▸ h⟩
  · rw [List.mem_append, List.mem_singleton]
theorem len_ad {σ : List K} {k : K} : (ad σ k).length = if k ∈ σ then σ.length else σ.length + 1 := by
  unfold ad
  split <;> simp
theorem mem_fold {l : List K} : ∀ {σ : List K} {x : K}, x ∈ l.foldl ad σ ↔ x ∈ σ ∨ x ∈ l := by
  induction l with
  | nil => intro σ x; simp
  | cons a l ih => intro σ x; rw [List.foldl_cons, ih, mem_ad, List.mem_cons, or_assoc]
theorem mem_dd {l : List K} {x : K} : x ∈ dd l ↔ x ∈ l := by unfold dd; rw [mem_fold]; simp
theorem len_fold_le {l : List K} : ∀ {σ : List K}, (l.foldl ad σ).length ≤ σ.length + l.length := by
  induction l with
  | nil => intro σ; simp
  | cons a l ih =>
    intro σ
    rw [List.foldl_cons, List.length_cons]
    have h1 := @ih (ad σ a)
    have h2 : (ad σ a).length ≤ σ.length + 1 := by rw [len_ad]; split <;> omega
    omega
theorem len_dd_le {l : List K} : (dd l).length ≤ l.length := by
  have q := @len_fold_le K _ l []
  rw [List.length_nil, Nat.zero_add] at q
  exact q
theorem len_fold_lt {l : List K} : ∀ {σ : List K}, (l.foldl ad σ).length < σ.length + l.length ↔ ¬ (l.Nodup ∧ ∀ x ∈ l, x ∉ σ) := by
  induction l with
  | nil => intro σ; simp
  | cons a l ih =>
    intro σ
    rw [List.foldl_cons, List.length_cons, List.nodup_cons]
    by_cases h : a ∈ σ
    · have e : ad σ a = σ := by unfold ad; rw [if_pos h]
      rw [e]
      have := @len_fold_le K _ l σ
      constructor
      · intro _ q
        exact q.2 a List.mem_cons_self h
      · intro _
        omega
    · have e : ad σ a = σ ++ [a] := by unfold ad; rw [if_neg h]
      rw [e]
      have i := @ih (σ ++ [a])
      rw [List.length_append, List.length_singleton] at i
      have e2 : σ.length + (l.length + 1) = σ.length + 1 + l.length := by omega
      rw [e2, i]
      refine not_congr ⟨fun q => ⟨⟨fun m => q.2 a m (by simp), q.1⟩, fun x m => ?_⟩, fun q => ⟨q.1.2, fun x m z => ?_⟩⟩
      · rcases List.mem_cons.mp m with m | m
        · exact m ▸ h
        · exact fun z => q.2 x m (List.mem_append_left _ z)
      · rcases List.mem_append.mp z with z | z
        · exact q.2 x (List.mem_cons_of_mem _ m) z
        · rw [List.mem_singleton] at z
          exact q.1.1 (z ▸ m)
theorem len_dd_lt {l : List K} : (dd l).length < l.length ↔ ¬ l.Nodup := by
  have := @len_fold_lt K _ l []
  unfold dd
  simpa using this
theorem dd_map {L : Type} [DecidableEq L] {f : K → L} (hf : ∀ a b, f a = f b → a = b) {l : List K} : dd (l.map f) = (dd l).map f := by
  have go : ∀ (l σ : List K), (l.map f).foldl ad (σ.map f) = (l.foldl ad σ).map f := by
    intro l
    induction l with
    | nil => intro σ; rfl
    | cons a l ih =>
      intro σ
      rw [List.map_cons, List.foldl_cons, List.foldl_cons, ← ih]
      congr 1
      unfold ad
      have : f a ∈ σ.map f ↔ a ∈ σ := by
        rw [List.mem_map]
        exact ⟨fun ⟨b, m, e⟩ => hf _ _ e ▸ m, fun m => ⟨a, m, rfl⟩⟩
      by_cases h : a ∈ σ
      · rw [if_pos h, if_pos (this.mpr h)]
      · rw [if_neg h, if_neg (fun z => h (this.mp z)), List.map_append]; rfl
  exact go l []
end
abbrev tk {K : Type} [DecidableEq K] (xs : List K) (i : Nat) : List K := dd (xs.take i)
theorem tk_succ {K : Type} [DecidableEq K] {xs : List K} {i : Nat} {x : K} (h : xs[i]? = some x) : tk xs (i + 1) = ad (tk xs i) x := by
  unfold tk
  rw [List.take_add_one, h]
  exact dd_snoc
section
variable {prog : Program} {w : World} {A : Around} {R : Result → Shared → Prop} {I : Addr} {fp wr : List Addr} {G : Array GenState → Array GenState → Prop} {n : Nat} {P : Nat → Value → Prop} {St : Nat → Shared → Prop}
abbrev Holds (prog : Program) (w : World) (h : Heap) (S : Addr) (l : List Str) : Prop := h.SetOf (PySem.strKind prog w) S (fun k => decide (k ∈ l)) l.length
theorem Holds.same {h h' : Heap} {S : Addr} {l : List Str} (x : Holds prog w h S l) (e : ∀ o, h.get? S = some o → h'.get? S = some o) : Holds prog w h' S l := by
  obtain ⟨o, es, ep, t, ho, r⟩ := x
  exact ⟨o, es, ep, t, e o ho, r⟩
/-- the loop that fills the set -/
theorem fills (W : WalksS prog w A.in1 I fp wr G n P St) (S : Addr) (hSf : S ∉ fp) (xs : List Str) (hl : xs.length = n) (hb : n + 1 < scanBound)
    (hv : ∀ i v, P i v → ∃ t x, xs[i]? = some x ∧ v = .str x t) :
    ∀ (m i : Nat) (s : Shared), n - i = m → i ≤ n → St i s → Holds prog w s.heap S (tk xs i) →
      (∀ s', Moved (S :: wr) G s s' → Holds prog w s'.heap S (dd xs) → R (.ok (.ret .none)) s') →
      codeAny (model prog w) A (.builtin "set.update.loop" ⟨[.ref S, .ref I], []⟩) R s := by
  have n1 : S ∉ wr := fun z => hSf (W.sub _ z)
  have n2 : ∀ b ∈ wr, b ∈ S :: wr := fun b z => List.mem_cons_of_mem _ z
  intro m
  induction m with
  | zero =>
    intro i s hm hi st hS hR
    have e : i = n := by omega
    subst e
    refine codeAny_builtin PyProof.Rows.F.entry_set_update_loop ?_
    rw [Around.under_plainId PyProof.Rows.F.plain_set_update_loop _]
    show wpAny _ A.in1 (pyNext (.ref I) >>= fun x => _) _ _ s
    refine wpAny_bind (W.done s _ _ st fun s1 mv => ?_)
    have hS1 := hS.same (h' := s1.heap) fun o q => mv.heap S o n1 q
    rw [tk, ← hl, List.take_length] at hS1
    exact wpAny_pure (hR s1 (mv.mono n2) hS1)
  | succ m ih =>
    intro i s hm hi st hS hR
    have lt : i < n := by omega
    refine codeAny_builtin PyProof.Rows.F.entry_set_update_loop ?_
    rw [Around.under_plainId PyProof.Rows.F.plain_set_update_loop _]
    show wpAny _ A.in1 (pyNext (.ref I) >>= fun x => _) _ _ s
    refine wpAny_bind (W.item i s _ _ lt st fun v s1 hP st1 mv => ?_)
    obtain ⟨t, x, ex, rfl⟩ := hv i v hP
    have hS1 := hS.same (h' := s1.heap) fun o q => mv.heap S o n1 q
    have len : (tk xs i).length ≤ i := Nat.le_trans len_dd_le (by rw [List.length_take]; omega)
    show wpAny _ A.in1 (holding [Value.str x t] (setAdd S (.str x t)) >>= fun x => _) _ _ s1
    refine wpAny_bind (wpAny_holding ?_)
    unfold setAdd
    refine wpAny_holding ?_
    refine wpAny_bind ((PySem.strKind prog w).pyHash (k := x) (strKind_is _ _ _ _) ?_)
    refine wpAny_setAddHashed_of (knd := PySem.strKind prog w) (s := { s1 with toks := s1.toks + 1 }) (strKind_is _ _ _ _) rfl hS1 (by omega) fun h2 sb hS2 => ?_
    have hS3 : Holds prog w h2 S (tk xs (i + 1)) := by
      rw [tk_succ ex]
      refine SetOf_congr hS2 (fun k => ?_) ?_
      · rw [Bool.eq_iff_iff]
        simp only [Bool.or_eq_true, decide_eq_true_eq, mem_ad]
      · rw [len_ad]
        simp only [decide_eq_true_eq]
    refine wpAny_pure ⟨plainId_quiet PyProof.Rows.F.plain_set_update_loop _, ih (i + 1) _ (by omega) lt (W.frame _ s1 _ _ st1 (Nat.le_succ _) fun b z o e => (sb.2 b (fun q : b = S => hSf (q ▸ z))).trans e) hS3 fun s2 mv2 hS4 => ?_⟩
    exact hR s2 (Moved.trans W.gtrans ((mv.mono n2).then_heap (Nat.le_succ _) fun b o z e => (sb.2 b (fun q : b = S => z (q ▸ List.mem_cons_self))).trans e) mv2) hS4
end
section
variable {prog : Program} {w : World} {A : Around} {E : Value → Shared → Prop} {s : Shared}
theorem strs_get : ∀ {us : List Value} {xs : List Str}, StrsAre us xs → ∀ (i : Nat) (v : Value), us[i]? = some v → ∃ t x, xs[i]? = some x ∧ v = .str x t
  | _, _, .nil, i, v, h => by simp at h
  | _, _, .cons n t hr, 0, v, h => by
    simp at h
    exact ⟨t, _, rfl, h.symm⟩
  | _, _, .cons n t hr, i + 1, v, h => by
    simp only [List.getElem?_cons_succ] at h ⊢
    exact strs_get hr i v h
abbrev bare (led : Bool) : Obj := { cls := .type "set", dict := none, data := .set #[] 0 (.fresh 0 0 led) }
/-- set(l), l a list of texts -/
theorem call_setL {l : Addr} {items : Array Value} {xs : List Str} {Q : Value → Shared → Prop} (hh : A.handled = none) (hl : s.heap.IsList l items) (hi : PyProof.Rows.StrsAre items.toList xs) (hb : items.size + 1 < scanBound)
    (h : ∀ (h' : Heap) (k : Nat), Holds prog w h' s.heap.objs.size (dd xs) → (∀ b o, b < s.heap.objs.size → s.heap.get? b = some o → h'.get? b = some o) → Q (.ref s.heap.objs.size) { s with heap := h', toks := k }) :
    wpAny (model prog w) A (call (.type "set") [.ref l]) Q E s := by
  obtain ⟨c, tl, hmro⟩ := PySem.F.called_set.mro
  have hmade := PySem.F.called_set.made
  have hsub := PySem.F.called_set.sub
  refine wpAny_call (codeAny_of_tree ?_)
  show wpAny _ _ (callAny (.type "set") _) _ _ _
  refine wpAny_pure ⟨Code.quiet_builtin _ (by decide +kernel), codeAny_builtin PySem.F.entry_type_call ?_⟩
  rw [Around.under_plain (weight_type_call_type "set" [.ref l] []) rfl]
  have h1 := PySem.F.called_set.notType
  have h2 := PySem.F.called_set.canCreate
  have hct := PySem.F.typeCall_set_1 (.ref l)
  repeat (any_goals (first | assumption | wp_step))
  refine codeAny_mono (code_set_new_1 (.ref l) (E := E) (Q₁ := fun obj s1 => ∃ led : Bool, obj = .ref s.heap.objs.size ∧ s1 = { s with heap := s.heap.push (bare led) }) fun led => ⟨led, rfl, rfl⟩) fun r s1 hr => ?_
  cases r with
  | error e => exact hr
  | ok fl =>
    cases fl with
    | ret obj =>
      obtain ⟨led, rfl, rfl⟩ := hr
      have hS : (s.heap.push (bare led)).get? s.heap.objs.size = some (bare led) := Heap.get?_push_size _ rfl
      have hT : Shared.TypeIs { s with heap := s.heap.push (bare led) } (.ref s.heap.objs.size) "set" := ⟨_, hS, rfl⟩
      have hli := PySem.F.called_set.init.lookup
      have hbi := PySem.F.called_set.init.bind (.ref s.heap.objs.size)
      repeat (any_goals (first | assumption | wp_step))
      refine codeAny_mono (codeAny_call_builtin (R := wants (fun r s2 => r = .none ∧ ∃ h' k, s2 = { s with heap := h', toks := k } ∧ Holds prog w h' s.heap.objs.size (dd xs) ∧
          (∀ b o, b < s.heap.objs.size → s.heap.get? b = some o → h'.get? b = some o)) E) PySem.F.called_set.init.plain PySem.F.entry_set_init (check_set_init_1 hT ?_)) fun r2 s2 hr2 => ?_
      · obtain ⟨⟨ocls, odict, odata, oslots⟩, hol, hcl, nl, hdl⟩ := hl
        simp only at hcl hdl
        subst hcl; subst hdl
        have hol' : (s.heap.push (bare led)).get? l = some { cls := .type "list", dict := odict, data := .seq items nl, slots := oslots } := Heap.get?_push_of_some _ hol
        have hsls := PySem.F.sub_list_set
        have hslf := PySem.F.sub_list_frozenset
        have hne : (Value.type "list" == Value.type "dict") = false := by decide
        have hl1 : (s.heap.push (bare led)).IsList l items := ⟨_, hol', rfl, nl, rfl⟩
        unfold Builtin.«set.__init__» noKeywords Builtin.Frozenset.updateFrom
        generalize hPI : pyIter = PI
        wp_walk
        subst hPI
        refine wpAny_pyIter_list hl1 ?_
        refine wpAny_bind (wpAny_runValue ?_)
        have ltl : l < s.heap.objs.size := Heap.lt_size hol
        have sz : (s.heap.push (bare led)).objs.size = s.heap.objs.size + 1 := Heap.size_push ..
        have hh3 : A.in1.in1.in1.handled = none := hh
        have neI : l ≠ (s.heap.push (bare led)).objs.size := by rw [Heap.size_push]; exact Nat.ne_of_lt (Nat.lt_succ_of_lt ltl)
        have nfp : s.heap.objs.size ∉ [(s.heap.push (bare led)).objs.size, l] := by
          intro z
          rcases List.mem_cons.mp z with z | z
          · rw [Heap.size_push] at z
            exact Nat.ne_of_lt (Nat.lt_succ_self _) z
          · rw [List.mem_singleton] at z
            exact Nat.ne_of_gt ltl z
        have hsz : xs.length = items.size := by rw [← StrsAre.len_eq hi, Array.length_toList]
        have hval : ∀ (i : Nat) (v : Value), items[i]? = some v → ∃ t x, xs[i]? = some x ∧ v = .str x t := fun i v hv => strs_get hi i v (by rw [Array.getElem?_toList]; exact hv)
        refine fills ((Walks.list hh3 _ l neI items).toS) s.heap.objs.size nfp xs hsz hb hval (items.size - 0) 0 _ (by omega) (Nat.zero_le _)
          ⟨⟨_, Heap.get?_push_size _ rfl, rfl, rfl⟩, (hl1.push _)⟩ ?hS0 ?hR
        case hS0 =>
          have hget : ((s.heap.push (bare led)).push { cls := .type "list_iterator", data := .fields #[.ref l, .int 0 0] }).get? s.heap.objs.size = some (bare led) := Heap.get?_push_of_some _ hS
          exact PyProof.Rows.SetOf_congr ((PyProof.Rows.setObjOf_fresh (knd := PySem.strKind prog w) led).setOf hget (by omega)) (fun k => by simp [tk, dd]) rfl
        case hR =>
          intro s' hm hS'
          obtain ⟨h', g', d', tk', os'⟩ := s'
          have eg : g' = s.gens := hm.gens
          have ed : d' = s.drawn := hm.drawn
          have eo : os' = s.os := hm.os
          subst eg; subst ed; subst eo
          refine wpAny_pure ?_
          refine wpAny_pure ⟨rfl, h', tk', rfl, hS', fun b o hb e => ?_⟩
          refine hm.heap b o (fun z => ?_) (Heap.get?_push_of_some _ (Heap.get?_push_of_some _ e))
          rcases List.mem_cons.mp z with z | z
          · exact Nat.ne_of_lt hb z
          · rw [List.mem_singleton, Heap.size_push] at z
            exact Nat.ne_of_lt (Nat.lt_succ_of_lt hb) z
      · cases r2 with
        | error e => exact hr2
        | ok fl2 =>
          cases fl2 with
          | ret r =>
            obtain ⟨rfl, h', k, rfl, hS', hk'⟩ := hr2
            repeat (any_goals (first | assumption | wp_step))
            exact h _ _ hS' hk'
          | _ => exact hr2.elim
    | _ => exact hr.elim
end
def tLenS (K : PySem.W.Frag) (ta : TE) : TE := fun σ H Q => ta σ H fun x H1 => ∃ l, ∃ xs : List Str, x = .ref l ∧ SqL K H1 l (xs.map V.str) ∧ xs.length + 1 < scanBound ∧ Q (.int (dd xs).length) H1
theorem pe_lenS {X : Cx} {a : Expr} {ta : TE} {p p2 q pos : Pos} (hc : X.calm = true) (hg : Gl X "len") (hm : X.mg "len" = none) (hg2 : Gl X "set") (hm2 : X.mg "set" = none) (ha : PE X a ta)
    (na : starEach [a] X.env = (false, eval a X.env) :: starEach [] X.env := by rfl) : PE X (.Call (.Name "len" p) [.Call (.Name "set" p2) [a] [] q] [] pos) (tLenS X.K ta) := by
  refine ⟨fun pins s σ H Q I h => ?_⟩
  refine Call_ (ld_blt I hg hm boot_len ?_)
  refine PyProof.Rows.callWith_builtin1 (PyProof.Rows.args_cons ?_ rfl) rfl rfl
  refine Call_ (ld_blt I hg2 hm2 boot_set ?_)
  refine PyProof.Rows.callWith_type1 (PyProof.Rows.args_cons (thn (ha.run pins s σ H _ I h) fun v s1 ⟨x, H1, I1, r1, q1⟩ => PyProof.Rows.args_nil ?_) na) na rfl
  obtain ⟨l, xs, rfl, hq, h1, q1⟩ := q1
  cases r1
  obtain ⟨its, r, pl, hz⟩ := I1.list hq
  have hl : its.toArray.size = xs.length := by rw [List.size_toArray, ← r.length, List.length_map]
  refine call_setL (I1.ok.hd hc) pl.isList (by simpa using L2.strsAre_of r) (by rw [hl]; exact h1) fun h' k hS hk => ?_
  refine PyProof.Rows.args_nil ?_
  obtain ⟨o, es, ep, t, ho, hex, hd, _, _, _, hf, hn⟩ := hS
  have le : (dd xs).length ≤ xs.length := len_dd_le
  have I2 : Inv X pins σ H1 { s1 with heap := h', toks := k } := I1.kept fun b o e => hk b o (Heap.lt_size e) e
  refine call_len_set ho hex hd hf (by rw [hn]; unfold scanBound at h1; omega) ⟨.int (dd xs).length, H1, I2.tok _, ⟨_, by rw [hn]⟩, q1⟩
end StT
/-! F51: list(zip(xs, ys)) of two lists -/
namespace ZL
open PySem PySem.Spec PyProof.Rows L2
theorem noLen : typeLookup (.type "zip") "__len__" = pure none := by rw [typeLookup_type, builtinLookup_eq_fast]; kernel_rfl
theorem noHint : typeLookup (.type "zip") "__length_hint__" = pure none := by rw [typeLookup_type, builtinLookup_eq_fast]; kernel_rfl
/-- a zip at turn i, while at S a list is being filled -/
structure ZS (h : Heap) (z TI TO i1 i2 l1 l2 S : Addr) (xs ys : Array Value) (i : Nat) : Prop where
  ti : IsPair h TI (.ref i1) (.ref i2)
  a1 : h.IsListIter i1 l1 i
  a2 : h.IsListIter i2 l2 i
  b1 : h.IsList l1 xs
  b2 : h.IsList l2 ys
  st : (IsZip h z TI TO .none ∧ ∃ a b, IsPair h TO a b) ∨ ∃ (T : Addr) (f : Bool) (oT : Obj), IsZipHeld h z TI TO T f ∧ h.get? T = some oT ∧ T ≠ z ∧ T ≠ i1 ∧ T ≠ i2 ∧ T ≠ S
section
variable {z TI TO i1 i2 l1 l2 S : Addr} {xs ys : Array Value} {i : Nat}
theorem ZS.keep {h h' : Heap} (t : ZS h z TI TO i1 i2 l1 l2 S xs ys i) (nS : ∀ b ∈ [z, TI, TO, i1, i2, l1, l2], b ≠ S) (hk : ∀ b o, b ≠ S → h.get? b = some o → h'.get? b = some o) : ZS h' z TI TO i1 i2 l1 l2 S xs ys i where
  ti := hk _ _ (nS _ (by simp)) t.ti
  a1 := t.a1.at fun o e => hk _ o (nS _ (by simp)) e
  a2 := t.a2.at fun o e => hk _ o (nS _ (by simp)) e
  b1 := t.b1.at fun o e => hk _ o (nS _ (by simp)) e
  b2 := t.b2.at fun o e => hk _ o (nS _ (by simp)) e
  st := by
    rcases t.st with ⟨hz, a, b, ht⟩ | ⟨T, f, oT, hz, hT, r1, r2, r3, r4⟩
    · exact .inl ⟨hk _ _ (nS _ (by simp)) hz, a, b, hk _ _ (nS _ (by simp)) ht⟩
    · exact .inr ⟨T, f, oT, hk _ _ (nS _ (by simp)) hz, hk _ _ r4 hT, r1, r2, r3, r4⟩
theorem ZS.ty {s : Shared} (t : ZS s.heap z TI TO i1 i2 l1 l2 S xs ys i) : s.TypeIs (.ref z) "zip" := by
  rcases t.st with ⟨hz, _⟩ | ⟨_, _, _, hz, _⟩
  · exact ⟨_, hz, rfl⟩
  · exact ⟨_, hz, rfl⟩
variable {prog : Program} {w : World} {A : Around} {E : Value → Shared → Prop} {s : Shared}
theorem zs_item {x y : Value} {Q : Option Value → Shared → Prop} (D : ZipApart z TI TO i1 i2 l1 l2) (t : ZS s.heap z TI TO i1 i2 l1 l2 S xs ys i) (hS : S < s.heap.objs.size) (ex : xs[i]? = some x) (ey : ys[i]? = some y)
    (hQ : ∀ h', ZS h' z TI TO i1 i2 l1 l2 S xs ys (i + 1) → IsPair h' s.heap.objs.size x y → (∀ c o, c ∉ [z, TO, i1, i2] → s.heap.get? c = some o → h'.get? c = some o) → Q (some (.ref s.heap.objs.size)) { s with heap := h' }) :
    wpAny (model prog w) A (pyNext (.ref z)) Q E s := by
  have lt : ∀ {c : Addr} {o : Obj}, s.heap.get? c = some o → s.heap.objs.size ≠ c := fun e => Nat.ne_of_gt (Heap.lt_size e)
  obtain ⟨ti, a1, a2, b1, b2, st⟩ := t
  have n1 : s.heap.objs.size ≠ i1 := by obtain ⟨_, e, _⟩ := a1; exact lt e
  have n2 : s.heap.objs.size ≠ i2 := by obtain ⟨_, e, _⟩ := a2; exact lt e
  rcases st with ⟨hz, a, b, ht⟩ | ⟨T, f, oT, hz, hT, r1, r2, r3, r4⟩
  · refine wpAny_pyNext_zip_item D hz ti ht a1 a2 b1 b2 ex ey fun h' c1 c2 c3 c4 c5 c6 hk => ?_
    refine hQ h' ⟨hk _ _ D.TIz D.TITO D.TIi1 D.TIi2 ti, c3, c4, b1.at fun o e => hk _ o D.l1z D.l1TO D.l1i1 D.l1i2 e, b2.at fun o e => hk _ o D.l2z D.l2TO D.l2i1 D.l2i2 e, .inr ⟨_, false, _, c1, c5, lt hz, n1, n2, Nat.ne_of_gt hS⟩⟩ c5 fun c o n e => ?_
    simp only [List.mem_cons, List.not_mem_nil, or_false, not_or] at n
    exact hk c o n.1 n.2.1 n.2.2.1 n.2.2.2 e
  · refine wpAny_pyNext_zip_item_held D hz hT ti a1 a2 b1 b2 ex ey fun h' c1 c3 c4 c5 c6 hk => ?_
    refine hQ h' ⟨hk _ _ D.TIz D.TIi1 D.TIi2 ti, c3, c4, b1.at fun o e => hk _ o D.l1z D.l1i1 D.l1i2 e, b2.at fun o e => hk _ o D.l2z D.l2i1 D.l2i2 e, .inr ⟨T, true, oT, c1, hk _ _ r1 r2 r3 hT, r1, r2, r3, r4⟩⟩ c5 fun c o n e => ?_
    simp only [List.mem_cons, List.not_mem_nil, or_false, not_or] at n
    exact hk c o n.1 n.2.2.1 n.2.2.2 e
theorem zs_done {Q : Option Value → Shared → Prop} (hh : A.handled = none) (D : ZipApart z TI TO i1 i2 l1 l2) (t : ZS s.heap z TI TO i1 i2 l1 l2 S xs ys i) (he : xs[i]? = none ∨ ys[i]? = none)
    (hQ : ∀ h', (∀ c o, c ∉ [z, TO, i1, i2] → s.heap.get? c = some o → h'.get? c = some o) → Q none { s with heap := h' }) : wpAny (model prog w) A (pyNext (.ref z)) Q E s := by
  obtain ⟨ti, a1, a2, b1, b2, st⟩ := t
  have ap : ∀ {c : Addr}, c ∉ [z, TO, i1, i2] → c ≠ z ∧ c ≠ TO ∧ c ≠ i1 ∧ c ≠ i2 := fun n => by
    simpa only [List.mem_cons, List.not_mem_nil, or_false, not_or] using n
  rcases st with ⟨hz, a, b, ht⟩ | ⟨T, f, oT, hz, hT, r1, r2, r3, r4⟩
  · exact wpAny_pyNext_zip_end hh D hz ti ht a1 a2 b1 b2 he fun h' hk => hQ h' fun c o n e => hk c o (ap n).1 (ap n).2.1 (ap n).2.2.1 (ap n).2.2.2 e
  · exact wpAny_pyNext_zip_end_held hh D hz hT ti a1 a2 b1 b2 he fun h' hk => hQ h' fun c o n e => hk c o (ap n).1 (ap n).2.2.1 (ap n).2.2.2 e
end
/-- the pairs made so far -/
structure ZG (xs ys : Array Value) (lo : Addr) (h : Heap) (as : List Addr) : Prop where
  rise : as.Pairwise (· < ·)
  above : ∀ a ∈ as, lo < a
  pairs : ∀ (j : Nat) (a : Addr), as[j]? = some a → ∃ x y, xs[j]? = some x ∧ ys[j]? = some y ∧ IsPair h a x y
theorem ZG.there {xs ys : Array Value} {lo : Addr} {h : Heap} {as : List Addr} (g : ZG xs ys lo h as) {a : Addr} (m : a ∈ as) : a < h.objs.size := by
  obtain ⟨j, hj⟩ := List.mem_iff_getElem?.mp m
  obtain ⟨_, _, _, _, e⟩ := g.pairs j a hj
  exact Heap.lt_size e
theorem ZG.keep {xs ys : Array Value} {lo : Addr} {h h' : Heap} {as : List Addr} (g : ZG xs ys lo h as) (hk : ∀ b o, lo < b → h.get? b = some o → h'.get? b = some o) : ZG xs ys lo h' as := by
  refine ⟨g.rise, g.above, fun j a e => ?_⟩
  obtain ⟨x, y, e1, e2, e3⟩ := g.pairs j a e
  exact ⟨x, y, e1, e2, hk a _ (g.above a (List.mem_of_getElem? e)) e3⟩
theorem ZG.snoc {xs ys : Array Value} {lo a : Addr} {h : Heap} {as : List Addr} {x y : Value} (g : ZG xs ys lo h as) (h1 : ∀ b ∈ as, b < a) (h2 : lo < a) (e1 : xs[as.length]? = some x) (e2 : ys[as.length]? = some y) (e3 : IsPair h a x y) : ZG xs ys lo h (as ++ [a]) := by
  refine ⟨List.pairwise_append.mpr ⟨g.rise, List.pairwise_singleton _ _, fun b m c q => ?_⟩, fun b m => ?_, fun j b e => ?_⟩
  · rw [List.mem_singleton.mp q]
    exact h1 b m
  · rcases List.mem_append.mp m with m | m
    · exact g.above b m
    · rw [List.mem_singleton.mp m]
      exact h2
  · rcases Nat.lt_or_ge j as.length with q | q
    · rw [List.getElem?_append_left q] at e
      exact g.pairs j b e
    · have lt : j < (as ++ [a]).length := (List.getElem?_eq_some_iff.mp e).1
      rw [List.length_append, List.length_singleton] at lt
      have ej : j = as.length := by omega
      subst ej
      rw [List.getElem?_concat_length] at e
      cases e
      exact ⟨x, y, e1, e2, e3⟩
abbrev lstOf (acc : Array Value) (c : Nat) : Obj := { cls := .type "list", dict := none, data := .seq acc c, slots := #[] }
section
variable {prog : Program} {w : World} {A : Around} {s : Shared} {R : Result → Shared → Prop} {z TI TO i1 i2 l1 l2 S : Addr} {xs ys : Array Value}
theorem zl_loop (hh : A.handled = none) (D : ZipApart z TI TO i1 i2 l1 l2) (nS : ∀ b ∈ [z, TI, TO, i1, i2, l1, l2], b < S) (hn : min xs.size ys.size ≤ sizeLine) (res : Value) {h1 : Heap}
    (hR : ∀ h' acc c as, (∀ b o, b ∉ [S, z, TO, i1, i2] → h1.get? b = some o → h'.get? b = some o) → h'.get? S = some (lstOf acc c) → as.length = min xs.size ys.size → ZG xs ys S h' as →
      acc.toList = as.map Value.ref → R (.ok (.ret res)) { s with heap := h' }) :
    ∀ (m i : Nat) (h : Heap) (c : Nat) (acc : Array Value) (as : List Addr), min xs.size ys.size - i = m → i ≤ min xs.size ys.size → ZS h z TI TO i1 i2 l1 l2 S xs ys i → (∀ b o, b ∉ [S, z, TO, i1, i2] → h1.get? b = some o → h.get? b = some o) →
      h.get? S = some (lstOf acc c) → acc.toList = as.map Value.ref → as.length = i → ZG xs ys S h as →
      codeAny (model prog w) A (.builtin "list.extend.loop" ⟨[.ref S, .ref z, res], []⟩) R { s with heap := h } := by
  have ne : ∀ b ∈ [z, TI, TO, i1, i2, l1, l2], b ≠ S := fun b q => Nat.ne_of_lt (nS b q)
  have nin : S ∉ [z, TO, i1, i2] := fun q => Nat.lt_irrefl S (nS S (by simp at q ⊢; rcases q with q | q | q | q <;> simp [q]))
  have big : ∀ b, S < b → b ∉ [z, TO, i1, i2] := fun b q y => by
    have q2 : b < S := nS b (by simp at y ⊢; rcases y with y | y | y | y <;> simp [y])
    exact Nat.lt_asymm q q2
  intro m
  induction m with
  | zero =>
    intro i h c acc as hm hi st hk hS ha hl g
    refine codeAny_builtin PySem.F.entry_extend_loop ?_
    rw [Around.under_plainId PySem.F.plain_extend_loop _]
    show wpAny _ A.in1 (pyNext (.ref z) >>= fun x => _) _ _ _
    refine wpAny_bind (zs_done (s := { s with heap := h }) (A := A.in1) hh D st ?_ fun h' hk' => ?_)
    · rcases Nat.le_total xs.size ys.size with q | q
      · exact .inl (Array.getElem?_eq_none (by omega))
      · exact .inr (Array.getElem?_eq_none (by omega))
    · refine wpAny_pure (hR h' acc c as (fun b o q e => hk' b o (fun y => q (List.mem_cons_of_mem _ y)) (hk b o q e)) (hk' S _ nin hS) (by omega) (g.keep fun b o q e => hk' b o (big b q) e) ha)
  | succ m ih =>
    intro i h c acc as hm hi st hk hS ha hl g
    have lx : i < xs.size := by omega
    have ly : i < ys.size := by omega
    have sz : acc.size = i := by rw [← Array.length_toList, ha, List.length_map, hl]
    have ltS : S < h.objs.size := Heap.lt_size hS
    refine codeAny_builtin PySem.F.entry_extend_loop ?_
    rw [Around.under_plainId PySem.F.plain_extend_loop _]
    show wpAny _ A.in1 (pyNext (.ref z) >>= fun x => _) _ _ _
    refine wpAny_bind (zs_item (s := { s with heap := h }) (S := S) D st ltS (Array.getElem?_eq_getElem lx) (Array.getElem?_eq_getElem ly) fun h' st' hp hk' => ?_)
    have hS' : h'.get? S = some (lstOf acc c) := hk' S _ nin hS
    have up : ∀ b o, b ≠ S → h'.get? b = some o → (h'.update S (Obj.mapSeq (·.push (Value.ref h.objs.size)))).get? b = some o := fun b o q e => (Heap.get?_update_other _ _ (Ne.symm q)).trans e
    show wpAny _ A.in1 (updateSeq S (·.push (Value.ref h.objs.size)) >>= fun x => _) _ _ _
    refine wpAny_bind ?_
    refine wpAny_updateSeq hS' rfl (wpAny_pure ⟨plainId_quiet PySem.F.plain_extend_loop _, ih (i + 1) _ _ (acc.push (Value.ref h.objs.size)) (as ++ [h.objs.size]) (by omega) (by omega) (st'.keep ne up) (fun b o q e => up b o (fun y => q (y ▸ List.mem_cons_self)) (hk' b o (fun y => q (List.mem_cons_of_mem _ y)) (hk b o q e)))
      (Heap.get?_update_self _ hS' rfl) (by rw [Array.toList_push, ha, List.map_append]; rfl) (by rw [List.length_append, hl]; rfl) ?_⟩) (by rw [sz]; omega) (by show (acc.push (Value.ref h.objs.size)).size ≤ sizeLine + 1; rw [Array.size_push, sz]; omega)
    refine ZG.snoc (x := xs[i]) (y := ys[i]) ((g.keep fun b o q e => hk' b o (big b q) e).keep fun b o q e => up b o (Nat.ne_of_gt q) e) (fun b q => g.there q) ltS ?_ ?_ (up _ _ (Nat.ne_of_gt ltS) hp)
    · rw [hl]
      exact Array.getElem?_eq_getElem lx
    · rw [hl]
      exact Array.getElem?_eq_getElem ly
variable {E : Value → Shared → Prop}
/-- list(z), z a zip of two lists at its start -/
theorem call_listZ {Q : Value → Shared → Prop} (hh : A.handled = none) (D : ZipApart z TI TO i1 i2 l1 l2) (lt : ∀ b ∈ [z, TI, TO, i1, i2, l1, l2], b < s.heap.objs.size) (st : ZS s.heap z TI TO i1 i2 l1 l2 s.heap.objs.size xs ys 0) (hn : min xs.size ys.size ≤ sizeLine)
    (hQ : ∀ h' acc c as, (∀ b o, b ∉ [z, TO, i1, i2] → s.heap.get? b = some o → h'.get? b = some o) → h'.get? s.heap.objs.size = some (lstOf acc c) → as.length = min xs.size ys.size → ZG xs ys s.heap.objs.size h' as →
      acc.toList = as.map Value.ref → Q (.ref s.heap.objs.size) { s with heap := h' }) :
    wpAny (model prog w) A (call (.type "list") [.ref z]) Q E s := by
  refine callType_codes (Q₁ := fun obj s1 => obj = .ref s.heap.objs.size ∧ s1 = { s with heap := s.heap.push { cls := .type "list", data := .seq #[] } }) PySem.F.called_list (PySem.F.typeCall_list_1 _) PySem.F.entry_list_init
    (code_list_new _ ⟨rfl, rfl⟩) fun obj s1 q1 => ?_
  obtain ⟨rfl, rfl⟩ := q1
  have hS : (s.heap.push { cls := .type "list", data := .seq #[] }).get? s.heap.objs.size = some { cls := .type "list", data := .seq #[] } := Heap.get?_push_size _ rfl
  have ne : ∀ b ∈ [z, TI, TO, i1, i2, l1, l2], b ≠ s.heap.objs.size := fun b q => Nat.ne_of_lt (lt b q)
  have nez : s.heap.objs.size ≠ z := Ne.symm (ne z (by simp))
  have fin : ∀ (h : Heap) (c : Nat), (∀ b o, b ≠ s.heap.objs.size → (s.heap.push { cls := .type "list", data := .seq #[] }).get? b = some o → h.get? b = some o) → h.get? s.heap.objs.size = some { cls := .type "list", data := .seq #[] c } →
      codeAny (model prog w) A.in1 (.builtin "list.extend.loop" ⟨[.ref s.heap.objs.size, .ref z, .none], []⟩) (wants (fun r s₂ => r = .none ∧ Q (.ref s.heap.objs.size) s₂) E) { s with heap := h } := by
    intro h c hk hS1
    have kp : ∀ b o, b ≠ s.heap.objs.size → s.heap.get? b = some o → h.get? b = some o := fun b o q e => hk b o q (Heap.get?_push_of_some _ e)
    refine zl_loop (A := A.in1) (s := s) (h1 := s.heap) hh D lt hn .none (fun h' acc c' as hk' hS' hl g ha => ?_) (min xs.size ys.size) 0 h c #[] [] (Nat.sub_zero _) (Nat.zero_le _) (st.keep ne kp)
      (fun b o q e => kp b o (fun y => q (y ▸ List.mem_cons_self)) e) hS1 rfl rfl ⟨List.Pairwise.nil, (fun _ q => nomatch q), fun j a e => by simp at e⟩
    refine ⟨rfl, hQ h' acc c' as (fun b o q e => hk' b o (fun y => ?_) e) hS' hl g ha⟩
    rcases List.mem_cons.mp y with y | y
    · exact absurd (Heap.lt_size e) (y ▸ Nat.lt_irrefl _)
    · exact q y
  refine ⟨⟨_, hS, rfl⟩, PySem.F.args_list_init_2 _ _, ?_⟩
  show wpAny _ _ (do let old ← Builtin.List.listItems (.ref s.heap.objs.size); Builtin.List.listUpdate (.ref s.heap.objs.size) (fun _ => #[]); letGo old.toList.reverse; Builtin.List.listExtendWith (.ref s.heap.objs.size) (.ref z) .none) _ _ _
  refine wpAny_bind ?_
  unfold Builtin.List.listItems
  refine wpAny_bind (wpAny_seqItems hS rfl (wpAny_pure ?_))
  show wpAny _ _ (updateSeq s.heap.objs.size (fun _ => #[]) >>= fun _ => letGo (#[] : Array Value).toList.reverse >>= fun _ => Builtin.List.listExtendWith (.ref s.heap.objs.size) (.ref z) .none) _ _ _
  refine wpAny_bind (wpAny_updateSeq hS rfl ?_)
  have hS2 := Heap.get?_update_self (Obj.mapSeq (fun _ => (#[] : Array Value))) hS rfl
  have k2 : ∀ b o, b ≠ s.heap.objs.size → (s.heap.push { cls := .type "list", data := .seq #[] }).get? b = some o → ((s.heap.push { cls := .type "list", data := .seq #[] }).update s.heap.objs.size (Obj.mapSeq (fun _ => (#[] : Array Value)))).get? b = some o :=
    fun b o q e => (Heap.get?_update_other _ _ (Ne.symm q)).trans e
  refine wpAny_bind (wpAny_letGo ?_)
  have st2 : ZS ((s.heap.push { cls := .type "list", data := .seq #[] }).update s.heap.objs.size (Obj.mapSeq (fun _ => (#[] : Array Value)))) z TI TO i1 i2 l1 l2 s.heap.objs.size xs ys 0 := st.keep ne fun b o q e => k2 b o q (Heap.get?_push_of_some _ e)
  have ty2 := ZS.ty (s := { s with heap := (s.heap.push { cls := .type "list", data := .seq #[] }).update s.heap.objs.size (Obj.mapSeq (fun _ => (#[] : Array Value))) }) st2
  unfold Builtin.List.listExtendWith
  refine wpAny_bind (wpAny_typeOf ty2 ?_)
  have e1 : Builtin.List.listSameRef (.ref s.heap.objs.size) (.ref z) = false := by simp [Builtin.List.listSameRef, nez]
  have e2 : (Value.type "zip" == Value.type "list") = false := by decide
  have e3 : (Value.type "zip" == Value.type "tuple") = false := by decide
  simp only [e1, e2, e3, Bool.or_false, Bool.false_eq_true, if_false]
  have hz : IsZip ((s.heap.push { cls := .type "list", data := .seq #[] }).update s.heap.objs.size (Obj.mapSeq (fun _ => (#[] : Array Value)))) z TI TO .none ∨ ∃ T f, IsZipHeld ((s.heap.push { cls := .type "list", data := .seq #[] }).update s.heap.objs.size (Obj.mapSeq (fun _ => (#[] : Array Value)))) z TI TO T f := by
    rcases st2.st with ⟨hz, _⟩ | ⟨T, f, _, hz, _⟩
    · exact .inl hz
    · exact .inr ⟨T, f, hz⟩
  have it : ∀ {Q' : Value → Shared → Prop}, Q' (.ref z) { s with heap := (s.heap.push { cls := .type "list", data := .seq #[] }).update s.heap.objs.size (Obj.mapSeq (fun _ => (#[] : Array Value))) } → wpAny (model prog w) A.in1.in1 (pyIter (.ref z)) Q' (fun e s' => wants (fun r s₂ => r = .none ∧ Q (.ref s.heap.objs.size) s₂) E (.error e) s') { s with heap := (s.heap.push { cls := .type "list", data := .seq #[] }).update s.heap.objs.size (Obj.mapSeq (fun _ => (#[] : Array Value))) } := fun q => by
    refine wpAny_pyIter_slot ty2 PySem.F.slot_zip_iter (wpAny_call_entry PySem.F.slot_zip_iter ty2 PySem.F.entry_zip_iter ?_ (PySem.F.args_zip_iter_1 _))
    exact wpAny_pure ⟨_, rfl, "zip", _, ty2, PySem.F.slot_zip_next.lookup, q⟩
  refine wpAny_bind (it ?_)
  refine wpAny_bind (wpAny_holding ?_)
  unfold Builtin.List.listLengthHint
  refine wpAny_bind (wpAny_specialOf ty2 noLen ?_)
  show wpAny _ _ (specialOf (Value.ref z) (Str.ofString "__length_hint__") >>= fun x => _) _ _ _
  refine wpAny_bind (wpAny_specialOf ty2 noHint ?_)
  refine wpAny_pure ?_
  show wpAny _ _ (rule "list.extend.makes-room" >>= fun _ => Builtin.List.listTouch (.ref s.heap.objs.size) >>= fun _ => again (.builtin "list.extend.loop" ⟨[.ref s.heap.objs.size, .ref z, .none], []⟩)) _ _ _
  refine wpAny_bind (wpAny_rule ?_)
  refine wpAny_bind ?_
  show wpAny _ _ (updateSeq s.heap.objs.size (·.push .none) >>= fun _ => updateSeq s.heap.objs.size (·.pop)) _ _ _
  refine wpAny_bind (wpAny_updateSeq hS2 rfl ?_)
  have hS3 := Heap.get?_update_self (Obj.mapSeq (·.push Value.none)) hS2 rfl
  refine wpAny_updateSeq (hz := by seq_fits) hS3 rfl ?_
  have hS4 := Heap.get?_update_self (Obj.mapSeq (·.pop)) hS3 rfl
  refine wpAny_pure ⟨plainId_quiet PySem.F.plain_extend_loop _, fin _ _ (fun b o q e => ?_) hS4⟩
  exact (Heap.get?_update_other _ _ (Ne.symm q)).trans ((Heap.get?_update_other _ _ (Ne.symm q)).trans (k2 b o q e))
end
end ZL
/-! F52: list(zip(xs, ys)) and len(set(xs)) told by data -/
namespace ZL
open PySem PySem.Spec PyProof.Rows L2
/-- pairs tracked at their addresses -/
def putP : Hp → List Addr → List (V × V) → Hp
  | H, a :: as, p :: ps => putP (upd H a (.tup [p.1, p.2])) as ps
  | H, _, _ => H
theorem putP_off {b : Addr} : ∀ (as : List Addr) (ps : List (V × V)) (H : Hp), b ∉ as → putP H as ps b = H b
  | [], _, _, _ => rfl
  | _ :: _, [], _, _ => rfl
  | a :: as, p :: ps, H, h => by
    rw [putP, putP_off as ps _ (fun z => h (List.mem_cons_of_mem _ z)), upd_ne (fun z => h (by rw [z]; exact List.mem_cons_self))]
theorem putP_at : ∀ (as : List Addr) (ps : List (V × V)) (H : Hp), as.length = ps.length → as.Nodup → Paired (fun (t : Addr) (p : V × V) => putP H as ps t = some (.tup [p.1, p.2])) as ps
  | [], [], _, _, _ => .nil
  | [], _ :: _, _, h, _ => by cases h
  | _ :: _, [], _, h, _ => by cases h
  | a :: as, p :: ps, H, h, hn => by
    have h2 := List.nodup_cons.mp hn
    refine .cons ?_ (putP_at as ps _ (Nat.succ.inj h) h2.2)
    rw [putP, putP_off as ps _ h2.1, upd_same]
section
variable {X : Cx}
theorem zip_laid {pins : List (Addr × Obj)} {σ : L2.St} {H : Hp} {s : Shared} {h' : Heap} {S : Addr} {vs us : List V} {xs ys : List Value} {acc : Array Value} {c : Nat} {as : List Addr} (I : Inv X pins σ H s) (hz : min vs.length us.length ≤ sizeLine)
    (rv : Vals vs xs) (ru : Vals us ys) (lo : s.heap.objs.size ≤ S) (hk : ∀ b o, s.heap.get? b = some o → h'.get? b = some o) (hS : h'.get? S = some (lstOf acc c)) (hl : as.length = min xs.length ys.length) (g : ZG xs.toArray ys.toArray S h' as) (ha : acc.toList = as.map Value.ref) :
    ∃ H' : Hp, (∀ b o, H b = some o → H' b = some o) ∧ H S = none ∧ (∀ t ∈ as, H t = none) ∧ H' S = some (.lst (as.map V.ref)) ∧ Paired (fun (t : Addr) (q : V × V) => H' t = some (.tup [q.1, q.2])) as (vs.zip us) ∧ Inv X pins σ H' { s with heap := h' } := by
  have l1 := rv.length
  have l2 := ru.length
  have lz : as.length = (vs.zip us).length := by rw [List.length_zip, hl, l1, l2]
  have nS : S ∉ as := fun z => Nat.lt_irrefl _ (g.above _ z)
  have nd : as.Nodup := List.Pairwise.imp (fun {a b} (h : a < b) => Nat.ne_of_lt h) g.rise
  have new : ∀ t ∈ as, H t = none := fun t m => I.hok.fresh (Nat.le_trans lo (Nat.le_of_lt (g.above t m)))
  have newS : H S = none := I.hok.fresh lo
  have atP := putP_at as (vs.zip us) (upd H S (.lst (as.map V.ref))) lz nd
  have off : ∀ b, b ∉ as → b ≠ S → putP (upd H S (.lst (as.map V.ref))) as (vs.zip us) b = H b := fun b h1 h2 => by rw [putP_off as _ _ h1, upd_ne h2]
  have kp : ∀ b u, H b = some u → (putP (upd H S (.lst (as.map V.ref))) as (vs.zip us)) b = some u := fun b u e => by
    rw [off b (fun z => by rw [new b z] at e; cases e) (fun z => by rw [z, newS] at e; cases e)]
    exact e
  have eS : putP (upd H S (.lst (as.map V.ref))) as (vs.zip us) S = some (.lst (as.map V.ref)) := by rw [putP_off as _ _ nS, upd_same]
  refine ⟨putP (upd H S (.lst (as.map V.ref))) as (vs.zip us), kp, newS, new, eS, atP, ?_⟩
  refine I.call' (ch := []) rfl ⟨fun b o q _ _ _ => hk b o q, fun b o q _ _ _ => ⟨o.slots, hk b o q⟩, fun b o q n _ => ?_, fun b o q _ => ⟨o, hk b o q⟩, fun b xs q => kp b _ q, fun b o u q => kp b _ q, fun b ps q => ⟨#[], by rw [kp b _ q]; simp⟩⟩ (fun b u q => ?_) I.bare fun b z => by simp at z
  · have z := Heap.lt_size q
    rw [off b (fun m => Nat.lt_irrefl _ (Nat.lt_trans (Nat.lt_of_lt_of_le z lo) (g.above b m))) (Nat.ne_of_lt (Nat.lt_of_lt_of_le z lo))]
    exact n
  · by_cases hb : b ∈ as
    · obtain ⟨j, pk, e1, e2, e3⟩ := LiI.paired_ix atP hb
      rw [e3] at q
      cases q
      obtain ⟨x, y, f1, f2, f3⟩ := g.pairs j b e1
      rw [List.getElem?_zip_eq_some] at e2
      obtain ⟨u1, g1, r1⟩ := rv.get e2.1
      obtain ⟨u2, g2, r2⟩ := ru.get e2.2
      have f1' : xs[j]? = some x := by simpa using f1
      have f2' : ys[j]? = some y := by simpa using f2
      rw [g1] at f1'
      rw [g2] at f2'
      cases f1'
      cases f2'
      exact ⟨by show 2 ≤ sizeLine; decide, [_, _], .cons r1 (.cons r2 .nil), ⟨_, f3, rfl, _, rfl⟩⟩
    · by_cases hb2 : b = S
      · rw [hb2] at q ⊢
        rw [eS] at q
        cases q
        refine ⟨by rw [List.length_map, hl, ← l1, ← l2]; exact hz, acc.toList, c, by rw [ha]; exact LiI.vals_refs as, ?_⟩
        rw [Array.toArray_toList]
        exact hS
      · rw [off b hb hb2] at q
        exact (I.hok b u q).stay (fun d v _ y => hk d v y) (fun d y => kp d _ y) fun d xs y => kp d _ y
def rZipL (K : PySem.W.Frag) : List V → Hp → VK → Prop := fun vs H Q => ∃ (a b : Addr) (xs ys : List V), vs = [.ref a, .ref b] ∧ SqL K H a xs ∧ SqL K H b ys ∧
  ∀ (H' : Hp) (p : Addr) (ts : List Addr), (∀ b o, H b = some o → H' b = some o) → H p = none → (∀ t ∈ ts, H t = none) → H' p = some (.lst (ts.map V.ref)) → Paired (fun (t : Addr) (q : V × V) => H' t = some (.tup [q.1, q.2])) ts (xs.zip ys) → Q (.ref p) H'
def tListZip (K : PySem.W.Frag) (ta : TA) : TE := fun σ H Q => ta σ H fun vs H1 => rZipL K vs H1 Q
theorem pe_listZip {e e2 : Expr} {ta : TA} {p p2 q pos : Pos} (hc : X.calm = true) (hg : Gl X "list") (hm : X.mg "list" = none) (hv : bootBuiltins "list" = some (.type "list")) (hg2 : Gl X "zip") (hm2 : X.mg "zip" = none) (ha : PA X [e, e2] ta)
    (hs : starEach [e, e2] X.env = (false, eval e X.env) :: starEach [e2] X.env := by rfl) (hpl : (backTo q (starEach [e2] X.env)).any (·.1) = false := by rfl) (hs2 : starEach [.Call (.Name "zip" p2) [e, e2] [] q] X.env = (false, eval (.Call (.Name "zip" p2) [e, e2] [] q) X.env) :: starEach [] X.env := by rfl) :
    PE X (.Call (.Name "list" p) [.Call (.Name "zip" p2) [e, e2] [] q] [] pos) (tListZip X.K ta) := by
  refine ⟨fun pins s σ H Q I h => ?_⟩
  refine Call_ (ld_blt I hg hm hv ?_)
  refine PyProof.Rows.callWith_type1 (PyProof.Rows.args_cons ?_ hs2) hs2 rfl
  refine Call_ (ld_blt I hg2 hm2 PyProof.Rows.boot_zip (PyProof.Rows.callWith_type1 (thn (ha.run q pins s σ H _ I h) fun us s1 ⟨vs, H1, I1, r1, q1⟩ => ?_) hs hpl))
  obtain ⟨a, b, xs, ys, ex, hqx, hqy, q1⟩ := q1
  subst ex
  cases r1 with
  | cons r rr =>
    cases rr with
    | cons r' rr =>
      cases rr
      cases r
      cases r'
      obtain ⟨its, rv, p1, z1⟩ := I1.list hqx
      obtain ⟨its2, rv2, p2, z2⟩ := I1.list hqy
      have la : a < s1.heap.objs.size := p1.lt
      have lb : b < s1.heap.objs.size := p2.lt
      refine call_zip_2 p1.isList p2.isList fun h1 hz hTI hTO h11 h12 hsz hk => ?_
      refine PyProof.Rows.args_nil ?_
      have lt : ∀ c ∈ [s1.heap.objs.size + 4, s1.heap.objs.size + 2, s1.heap.objs.size + 3, s1.heap.objs.size, s1.heap.objs.size + 1, a, b], c < h1.objs.size := fun c m => by
        rw [hsz]
        simp only [List.mem_cons, List.not_mem_nil, or_false] at m
        rcases m with m | m | m | m | m | m | m
        · rw [m]; exact Nat.lt_succ_self _
        · rw [m]; exact Nat.add_lt_add_left (by decide) _
        · rw [m]; exact Nat.add_lt_add_left (by decide) _
        · rw [m]; exact Nat.lt_add_of_pos_right (by decide)
        · rw [m]; exact Nat.add_lt_add_left (by decide) _
        · rw [m]; exact Nat.lt_of_lt_of_le la (Nat.le_add_right _ _)
        · rw [m]; exact Nat.lt_of_lt_of_le lb (Nat.le_add_right _ _)
      have e1 : its.toArray.size = xs.length := by rw [List.size_toArray, rv.length]
      have e2 : its2.toArray.size = ys.length := by rw [List.size_toArray, rv2.length]
      refine call_listZ (s := { s1 with heap := h1 }) (xs := its.toArray) (ys := its2.toArray) (I1.ok.hd hc) (PySem.W.ktu_apart s1.heap.objs.size a b la lb) lt ⟨hTI, h11, h12, p1.isList.at fun o e => hk _ o e, p2.isList.at fun o e => hk _ o e, .inl ⟨hz, _, _, hTO⟩⟩ (by rw [e1]; exact Nat.le_trans (Nat.min_le_left _ _) z1) fun h' acc c as hk' hS hl g hacc => ?_
      have kk : ∀ b o, s1.heap.get? b = some o → h'.get? b = some o := fun b o e => by
        refine hk' b o (fun m => ?_) (hk b o e)
        have z := Heap.lt_size e
        simp only [List.mem_cons, List.not_mem_nil, or_false] at m
        rcases m with m | m | m | m
        · rw [m] at z; exact Nat.not_lt.mpr (Nat.le_add_right _ _) z
        · rw [m] at z; exact Nat.not_lt.mpr (Nat.le_add_right _ _) z
        · rw [m] at z; exact Nat.lt_irrefl _ z
        · rw [m] at z; exact Nat.not_lt.mpr (Nat.le_add_right _ _) z
      have lo : s1.heap.objs.size ≤ h1.objs.size := by rw [hsz]; exact Nat.le_add_right _ _
      obtain ⟨H', k1, k2, k3, k4, k5, J⟩ := zip_laid I1 (Nat.le_trans (Nat.min_le_left _ _) z1) rv rv2 lo kk hS (by simpa using hl) g hacc
      exact ⟨.ref _, H', J, rfl, q1 H' _ as k1 k2 k3 k4 k5⟩
end
end ZL
namespace F
open PySem PySem.Spec PyProof.Rows L2
def pairDD (p : D × D) : D := .tup [p.1, p.2]
def eZipL (fa : DA) : DE := fun env h => match fa env h with
  | some ([x, y], h1) => match lv x h1, lv y h1 with
    | some ds, some es => some (.l (.lst ((ds.zip es).map pairDD)), h1)
    | _, _ => none
  | _ => none
theorem zip_R {K : PySem.W.Frag} {α : List Addr} {O O' : Addr → Prop} {H H' : Hp} (mv : Mv α O H α O' H') (fr : ∀ t, H t = none → H' t ≠ none → t ∉ α) : ∀ {ds es : List D} {xs ys : List V} {ts : List Addr}, RL K α O H ds xs → RL K α O H es ys → (∀ t ∈ ts, H t = none) →
    (∀ t ∈ ts, ∀ l, H' t = some (.tup l) → ¬ O' t) → Paired (fun (t : Addr) (q : V × V) => H' t = some (.tup [q.1, q.2])) ts (xs.zip ys) → RL K α O' H' ((ds.zip es).map pairDD) (ts.map V.ref)
  | [], es, xs, ys, ts, r1, r2, hn, ho, p => by
    have : xs = [] := r1
    subst this
    rw [List.zip_nil_left] at p
    cases p
    exact RL.nil
  | d :: ds, [], xs, ys, ts, r1, r2, hn, ho, p => by
    have : ys = [] := r2
    subst this
    rw [List.zip_nil_right] at p
    cases p
    exact RL.nil
  | d :: ds, e :: es, xs, ys, ts, r1, r2, hn, ho, p => by
    obtain ⟨x, xs', e1, rx, r1⟩ := r1
    obtain ⟨y, ys', e2, ry, r2⟩ := r2
    subst e1 e2
    rw [List.zip_cons_cons] at p
    cases p with
    | cons h t =>
      rename_i a ts
      rw [List.zip_cons_cons, List.map_cons, List.map_cons]
      refine RL.cons ?_ (zip_R mv fr r1 r2 (fun t m => hn t (List.mem_cons_of_mem _ m)) (fun t m => ho t (List.mem_cons_of_mem _ m)) t)
      unfold pairDD
      simp only [R]
      exact ⟨a, _, rfl, .inl ⟨h, fr a (hn a List.mem_cons_self) (by rw [h]; simp), ho a List.mem_cons_self _ h⟩, RL.cons (R.mv mv _ _ rx) (RL.one (R.mv mv _ _ ry))⟩
section
variable {Γ : G} {pos p p2 q : Pos} {e e2 : Expr} {fa : DA}
theorem se_zipL (ha : SA Γ [e, e2] fa) (hm : Γ.g.mg ("list" : Str) = none) (hm2 : Γ.g.mg ("zip" : Str) = none) (hg : Γ.sc.names.lookup ("list" : Str) = some .globalImplicit := by rfl) (hg2 : Γ.sc.names.lookup ("zip" : Str) = some .globalImplicit := by rfl)
    (hs : ∀ env, starEach [e, e2] env = (false, eval e env) :: starEach [e2] env := by intro _; rfl) (hpl : ∀ env, (backTo q (starEach [e2] env)).any (·.1) = false := by intro _; rfl)
    (hs2 : ∀ env, starEach [.Call (.Name "zip" p2) [e, e2] [] q] env = (false, eval (.Call (.Name "zip" p2) [e, e2] [] q) env) :: starEach [] env := by intro _; rfl) :
    SE Γ (.Call (.Name "list" p) [.Call (.Name "zip" p2) [e, e2] [] q] [] pos) (eZipL fa) := fun X cc =>
  PE.imp (ZL.pe_listZip cc.calm (Gl.of cc hg) (by rw [cc.mg]; exact hm) (by decide +kernel) (Gl.of cc hg2) (by rw [cc.mg]; exact hm2) (ha X cc) (hs _) (hpl _) (hs2 _)) fun σ H Q q => by
    obtain ⟨α, O, h, env, hr, sr, rv, h', eo, k⟩ := q
    unfold eZipL at eo
    split at eo
    · rename_i x y h1 e1
      split at eo
      · rename_i ds es ed ee
        cases eo
        refine ⟨α, O, h, env, hr, sr, _, _, e1, fun α1 H1 zs s1 r o1 => ?_⟩
        obtain ⟨vx, vy, e2, o2, o3⟩ := VAts2 o1
        obtain ⟨a, xs, e3, qx, rx⟩ := lv_sq r o2 ed
        obtain ⟨b, ys, e4, qy, ry⟩ := lv_sq r o3 ee
        rw [cc.K]
        refine ⟨a, b, xs, ys, by rw [e2, e3, e4], qx, qy, fun H' p ts hx hp hts e5 pr => ?_⟩
        have nα : ∀ t, H1 t = none → t ∉ α1 := fun t ht => r.notin ht
        have nO : ∀ t, H1 t = none → ¬ O t := fun t ht => r.notO ht
        have st : Stp α1 H1 α1 H' := ⟨fun b o e n => hx b o e, fun _ _ e => e, fun _ m => .inl m⟩
        have mv0 : Mv α1 O H1 α1 O H' := ⟨fun b u e n n2 => ⟨hx b u e, n, n2⟩, fun _ _ e => e⟩
        have hr' : HRel Γ.g.K α1 O H' h' := ⟨r.len, r.nd, fun n c b e1 e2 => (r.cell n c b e1 e2).mv mv0 fun u e => hx b u e, r.dis, fun b e => by
          obtain ⟨u, z⟩ := r.trk b e
          exact ⟨u, hx b u z⟩⟩
        have nO2 : ∀ b u, H1 b = some u → ¬ O b → ¬ Ins O p b := fun b u e n z => by
          rcases z with z | z
          · rw [z, hp] at e; cases e
          · exact n z
        have mv : Mv α1 O H1 α1 (Ins O p) H' := ⟨fun b u e n n2 => ⟨hx b u e, n, nO2 b u e n2⟩, fun _ _ e => e⟩
        have hr2 : HRel Γ.g.K α1 (Ins O p) H' h' := ⟨r.len, r.nd, fun n c b e1 e2 => (r.cell n c b e1 e2).mv mv fun u e => hx b u e, fun b m z => by
          rcases z with z | z
          · exact nα p hp (z ▸ m)
          · exact r.dis b m z, fun b e => by
          rcases e with e | e
          · exact ⟨_, e ▸ e5⟩
          · obtain ⟨u, z⟩ := r.trk b e
            exact ⟨u, hx b u z⟩⟩
        refine k α1 H' _ (s1.trans st) (.l ?_ hr2 ⟨_, e5, zip_R mv (fun t ht _ => nα t ht) rx ry hts (fun t m l el z => ?_) pr⟩)
        · cases e0 : H p with
          | none => rfl
          | some o =>
            exfalso
            by_cases ha : p ∈ α
            · obtain ⟨i, hi⟩ := List.mem_iff_getElem?.mp ha
              exact r.notin hp (List.mem_of_getElem? (s1.pre i p hi))
            · rw [s1.fr p o e0 ha] at hp
              cases hp
        · rcases z with z | z
          · rw [z, e5] at el; cases el
          · exact nO t (hts t m) z
      · cases eo
    · cases eo
end
theorem eZipL_e {fa : DA} {env : Env} {h h1 : Hs} {x y : RV} {ds es : List D} (e : fa env h = some ([x, y], h1)) (ex : lv x h1 = some ds) (ey : lv y h1 = some es) : eZipL fa env h = some (.l (.lst ((ds.zip es).map pairDD)), h1) := by
  unfold eZipL
  simp only [e, ex, ey]
/-! len(set(xs)) -/
def strsD : List D → Option (List (List Nat))
  | [] => some []
  | .str s :: ds => (strsD ds).map (s :: ·)
  | _ => none
theorem strsD_map {ss : List (List Nat)} : strsD (ss.map D.str) = some ss := by
  induction ss with
  | nil => rfl
  | cons s ss ih => rw [List.map_cons, strsD, ih]; rfl
theorem strsD_R {K : PySem.W.Frag} {α : List Addr} {O : Addr → Prop} {H : Hp} : ∀ {ds : List D} {ss : List (List Nat)} {xs : List V}, strsD ds = some ss → RL K α O H ds xs → xs = (ss.map S).map V.str
  | [], ss, xs, e, r => by
    cases e
    have : xs = [] := r
    subst this
    rfl
  | d :: ds, ss, xs, e, r => by
    obtain ⟨x, q, e1, rx, r⟩ := r
    subst e1
    cases d <;> first | (cases e; done) | skip
    rename_i s
    rw [strsD] at e
    cases e2 : strsD ds with
    | none => rw [e2] at e; cases e
    | some tt =>
      rw [e2] at e
      cases e
      rw [strsD_R e2 r]
      have : x = .str (S s) := rx
      rw [this]
      rfl
def eLenS (f : DE) : DE := fun env h => match f env h with
  | some (x, h1) => match lv x h1 with
    | some ds => match strsD ds with
      | some ss => if ss.length + 1 < scanBound then some (.d (.int (StT.dd ss).length), h1) else none
      | none => none
    | none => none
  | none => none
section
variable {Γ : G} {pos p p2 q : Pos} {e : Expr} {f : DE}
theorem se_lenS (ha : SE Γ e f) (hm : Γ.g.mg ("len" : Str) = none) (hm2 : Γ.g.mg ("set" : Str) = none) (hg : Γ.sc.names.lookup ("len" : Str) = some .globalImplicit := by rfl) (hg2 : Γ.sc.names.lookup ("set" : Str) = some .globalImplicit := by rfl)
    (hs : ∀ env, starEach [e] env = (false, eval e env) :: starEach [] env := by intro _; rfl) : SE Γ (.Call (.Name "len" p) [.Call (.Name "set" p2) [e] [] q] [] pos) (eLenS f) := fun X cc =>
  PE.imp (StT.pe_lenS cc.calm (Gl.of cc hg) (by rw [cc.mg]; exact hm) (Gl.of cc hg2) (by rw [cc.mg]; exact hm2) (ha X cc) (hs _)) fun σ H Q q => by
    obtain ⟨α, O, h, env, hr, sr, rv, h', eo, k⟩ := q
    unfold eLenS at eo
    split at eo
    · rename_i x h1 e1
      split at eo
      · rename_i ds ed
        split at eo
        · rename_i ss es
          split at eo
          · rename_i hb
            cases eo
            refine ⟨α, O, h, env, hr, sr, _, _, e1, fun α1 H1 v s1 o1 => ?_⟩
            obtain ⟨a, xs, e2, qx, rx⟩ := lv_sq o1.hr o1.at_ ed
            have e3 := strsD_R es rx
            rw [cc.K]
            refine ⟨a, ss.map S, e2, e3 ▸ qx, by rw [List.length_map]; exact hb, ?_⟩
            have e4 : (StT.dd (ss.map S)).length = (StT.dd ss).length := by
              rw [StT.dd_map (fun a b z => by
                have := congrArg (fun s : Str => s.cps.toList) z
                simpa using this), List.length_map]
            rw [e4]
            exact k α1 H1 _ s1 (.d o1.hr R.int_mk)
          · cases eo
        · cases eo
      · cases eo
    · cases eo
end
theorem eLenS_e {f : DE} {env : Env} {h h1 : Hs} {x : RV} {ss : List (List Nat)} (e : f env h = some (x, h1)) (ex : lv x h1 = some (ss.map D.str)) (hl : ss.length + 1 < scanBound) : eLenS f env h = some (.d (.int (StT.dd ss).length), h1) := by
  unfold eLenS
  simp only [e, ex, strsD_map, if_pos hl]
end F
/-! F53: name = [..], where the name is read within a comprehension (a cell) -/
namespace F
open PySem PySem.Spec PyProof.Rows L2
theorem sw_cell {elt : Expr} {gs : List Comprehension} {scope : Scope} {pos py : Pos} {y : Str} {l : Nat} {env : PySem.Env} (hy : env.scope.names.lookup y = some .cell) : swapsWith (.ListComp elt gs scope pos) (some (.Name y py)) l env = pure false := by
  have ky : env.kindOf y = some .cell := hy
  unfold swapsWith
  simp only [ky]
  have e : ((some NameKind.cell : Option NameKind) == some NameKind.local) = false := by decide
  rw [e, Bool.and_false, Bool.false_and, Bool.false_and]
section
variable {Γ : G} {pos pos' : Pos}
theorem s1_setLcC {i : Nat} {x : Str} {elt : Expr} {gs : List Comprehension} {scope : Scope} {lpos : Pos} {fe : DE} (he : SE Γ (.ListComp elt gs scope lpos) fe) (hN : Γ.N[i]? = some x := by rfl) (hc : Γ.sc.names.lookup x = some .cell := by rfl)
    (hf : Γ.fn x = true := by rfl) : S1 Γ (.Assign [.Name x pos'] (.ListComp elt gs scope lpos) pos) (dSet i fe) := fun X c B =>
  PS.imp (ps_set (by rw [c.N]; exact c.nd) (by rw [c.N]; exact hN) (Loc.of c (.inr hc)) (he X c) (sw_cell (by rw [c.sc]; exact hc)) (hf_of c (.inl hf))) fun D σ H q => by
    obtain ⟨α, O, h, env, hr, sr, br, o, e, k⟩ := q
    unfold dSet at e
    split at e
    · rename_i d h1 e1
      cases e
      refine ⟨α, O, h, env, hr, sr, _, h1, e1, fun α1 H1 x s1 o1 => ?_⟩
      obtain ⟨O', r, s, b⟩ := store_imp (i := i) hr sr br s1 o1 rfl
      exact k α1 O' H1 _ r s b
    · rename_i d h1 e1
      cases e
      refine ⟨α, O, h, env, hr, sr, _, h1, e1, fun α1 H1 x s1 o1 => ?_⟩
      obtain ⟨O', r, s, b⟩ := store_imp (i := i) hr sr br s1 o1 rfl
      exact k α1 O' H1 _ r s b
    · cases e
end
end F
/-! F54: xs.extend(t), t a tuple, xs a slot's own list -/
namespace ExT
open PySem PySem.Spec PyProof.Rows L2
theorem ext_tup (l : Addr) (xs : Array Value) (n : Nat) (b : Addr) (ys : Array Value) (m : Nat) (dc : Option Addr) (sl : Array (Option Value)) (h0 : (!xs.isEmpty && Builtin.List.listTooLong (xs.size + ys.size)) = false) (h1 : xs.size ≤ sizeLine) (h2 : xs.size + ys.size ≤ sizeLine + 1) :
    Meets (Builtin.«list.extend» ⟨[.ref l, .ref b], []⟩) (fun _ R s => s.heap.get? l = some { cls := .type "list", dict := none, data := .seq xs n, slots := #[] } ∧ s.heap.get? b = some { cls := .type "tuple", dict := dc, data := .seq ys m, slots := sl } ∧
      R (.ok (.ret Value.none)) { s with heap := s.heap.update l (Obj.mapSeq fun x => x ++ ys) }) :=
  .of_wp fun prog w A R s q => by
    obtain ⟨hp, g, d, tk, os⟩ := s
    obtain ⟨hl, hb, k⟩ := q
    have h3 : (xs ++ ys).size ≤ sizeLine + 1 := by rw [Array.size_append]; exact h2
    have g0 : ¬ (!xs.isEmpty && Builtin.List.listTooLong (xs.size + ys.size)) = true := by rw [h0]; exact Bool.false_ne_true
    have f1 := AutoSeq1.idx_int
    have f2 := AutoSeq1.sub_tuple_tuple
    have f3 := AutoSeq1.sub_list_list
    have f4 := AutoSeq1.sub_tuple_list
    have f5 := AutoSeq1.sub_list_tuple
    wp_walk using (wpAny_updateSeq hl rfl (hz := h1) (_hz' := h3)), wpAny_loadPart' hl, wpAny_loadPart' hb
    exact ⟨_, rfl, k⟩
def rExtT (K : PySem.W.Frag) : V → List V → Hp → VK → Prop := fun x vs H Q => ∃ l b xs zs, x = .ref l ∧ vs = [.ref b] ∧ H l = some (.lst xs) ∧ SqT K H b zs ∧ xs.length + zs.length ≤ sizeLine ∧ Q .non (upd H l (.lst (xs ++ zs)))
theorem mt_extT {X : Cx} : MtM X "list.extend" (rExtT X.K) := by
  intro pins s σ H x vs v us Q I rx rv h
  obtain ⟨l, b, xs, zs, rfl, rfl, hH, hB, hz, q⟩ := h
  cases rx
  obtain ⟨u, rfl, ru⟩ := rv.one
  cases ru
  obtain ⟨z, its, n, r, hl, e⟩ := I.lstM hH
  obtain ⟨its2, r2, ⟨⟨c2, d2, dat2, sl2⟩, e2, k2, n2, k3⟩, z2⟩ := I.tuple hB
  simp only at k2 k3
  subst k2; subst k3
  have hl2 := r2.length
  have sz : its.toArray.size + its2.toArray.size ≤ sizeLine := by rw [List.size_toArray, List.size_toArray]; omega
  refine call_meets PySem.F.slot_list_extend ⟨_, e, rfl⟩ PySem.F.entry_list_extend (PySem.F.args_list_extend_2 _ _)
    (ext_tup l its.toArray n b its2.toArray n2 d2 sl2 (by rw [notLongL sz, Bool.and_false]) (by rw [List.size_toArray]; omega) (by omega)) ⟨e, e2, ?_⟩
  refine ⟨.non, _, I.lset (its' := its ++ its2) hH e (by simp) (r.append r2) ?_, rfl, q⟩
  rw [List.length_append]
  omega
end ExT
namespace F
open PySem PySem.Spec PyProof.Rows L2
def dExtT (i : Nat) (f : DE) : DS := fun env h => match env[i]? with
  | some (.c (.lst ds)) => match f env h with
    | some (.d (.tup es), h1) => if ds.length + es.length ≤ sizeLine then some (.nx (env.set i (.c (.lst (ds ++ es)))) h1) else none
    | _ => none
  | _ => none
section
variable {Γ : G} {pos apos cpos p : Pos} {e : Expr} {f : DE}
theorem s1_extT {i : Nat} {x : Str} (hN : Γ.N[i]? = some x := by rfl) (he : SE Γ e f) (hv : Γ.sc.names.lookup x = some .local ∨ Γ.sc.names.lookup x = some .cell ∨ Γ.sc.names.lookup x = some .free := by first | exact Or.inl rfl | exact Or.inr (Or.inl rfl) | exact Or.inr (Or.inr rfl))
    (hd : (x == ("__debug__" : Str)) = false := by decide) (hcd : (x == ("__classdict__" : Str)) = false := by decide)
    (hbase : ∀ env, attributeBase (.Name x p) "extend" env (eval (.Name x p) env) = eval (.Name x p) env := by intro _; rfl)
    (hfew : ∀ env, ((backTo cpos (starEach [e] env)).all (fun x => !x.1) && (backToKw cpos (keywordEach [] env)).all (fun x => x.1.isSome)
      && decide (([e] : List Expr).length + ([] : List Keyword).length + (if ([] : List Keyword).isEmpty then 0 else 1) < 30)) = true := by intro _; rfl)
    (hline : (apos.endLine == cpos.line) = true := by rfl) (hs : ∀ env, starEach [e] env = (false, eval e env) :: starEach [] env := by intro _; rfl) (hplain : ∀ env, (backTo cpos (starEach [] env)).any (·.1) = false := by intro _; rfl)
    (hsw : ∀ env, swapsWith (.Call (.Attribute (.Name x p) "extend" apos) [e] [] cpos) none pos.line env = pure false := by intro _; rfl) :
    S1 Γ (.Expr (.Call (.Attribute (.Name x p) "extend" apos) [e] [] cpos) pos) (dExtT i f) := fun X c B =>
  PS.imp (ps_expr (pe_bm PySem.F.plainAttrs_list PySem.F.slot_list_extend PySem.F.type_list_extend ExT.mt_extT (pe_var (by rw [c.N]; exact hN) (Vis.of c hv) hd hcd) (pa_cons (he X c) pa_nil (hs _)) (hbase _) (hfew _) hline (hs _) (hplain _)) (hsw _)) fun D σ H q => by
    obtain ⟨α, O, h, env, hr, sr, br, o, e, k⟩ := q
    unfold dExtT at e
    split at e
    · rename_i ds ei
      split at e
      · rename_i es h1 e1
        split at e
        · rename_i hz
          cases e
          obtain ⟨a, e2, ⟨xs, e3, rl⟩, oa⟩ := sr.own i _ ei
          refine ⟨.ref a, e2, .inl ⟨rfl, xs, sqL_some e3⟩, ?_⟩
          refine ⟨α, O, h, env, hr, sr, _, h1, e1, fun α1 H1 y s1 o1 => ?_⟩
          have sr1 := sr.stp hr s1
          obtain ⟨a', e2', ⟨xs', e3', rl'⟩, oa'⟩ := sr1.own i _ ei
          rw [e2] at e2'
          cases e2'
          obtain ⟨b, zs, ey, eb, rz⟩ := o1.isD.tup_sq
          subst ey
          have hr1 := o1.hr
          refine ⟨a, b, xs', zs, rfl, rfl, e3', by rw [c.K]; exact eb, by rw [← rl'.length, ← rz.length]; exact hz, ?_⟩
          obtain ⟨w1, w2, w3⟩ := wrC (c' := .lst (ds ++ es)) (o := .lst (xs' ++ zs)) hr1 sr1 (br.stp hr hr1 s1) ei e2 (fun _ => trivial) ⟨_, upd_same, RL.mv (Mv.updO oa') _ _ (rl'.app rz)⟩
          exact k α1 O _ σ w1 w2 w3
        · cases e
      · cases e
    · cases e
end
theorem dExtT_e {i : Nat} {f : DE} {env : Env} {h h1 : Hs} {ds es : List D} (e : env[i]? = some (.c (.lst ds))) (ef : f env h = some (.d (.tup es), h1)) (hz : ds.length + es.length ≤ 100000) : dExtT i f env h = some (.nx (env.set i (.c (.lst (ds ++ es)))) h1) := by
  unfold dExtT
  simp only [e, ef]
  exact if_pos (Nat.le_trans hz (by decide))
end F
/-! F55: x is True, x is not True (both of them booleans) -/
namespace F
open PySem PySem.Spec PyProof.Rows L2
def gIsB (ng : Bool) : RV → RV → Hs → Option (RV × Hs)
  | .d (.bl a), .d (.bl b), h => some (.d (.bl (if ng then !decide (a = b) else decide (a = b))), h)
  | _, _, _ => none
theorem oS_isB {K : PySem.W.Frag} {ng : Bool} : OpS K (fun x y H Q => ∃ a b, x = .bl a ∧ y = .bl b ∧ Q (.bl (if ng then !decide (a = b) else decide (a = b))) H) (gIsB ng) := fun α O H h x y rx ry rv h' Q hr ox oy e k => by
  unfold gIsB at e
  split at e
  · rename_i h2 a b
    cases e
    have r1 := ox.isD
    have r2 := oy.isD
    simp only [R] at r1 r2
    exact ⟨a, b, r1, r2, k _ α H (.refl _ _) (.d hr R.bl_mk)⟩
  · cases e
theorem oR_isB {X : Cx} : OpR X (compareOp .Is) (fun x y H Q => ∃ a b, x = .bl a ∧ y = .bl b ∧ Q (.bl (if false then !decide (a = b) else decide (a = b))) H) := op_is_bl
theorem oR_isNotB {X : Cx} : OpR X (compareOp .IsNot) (fun x y H Q => ∃ a b, x = .bl a ∧ y = .bl b ∧ Q (.bl (if true then !decide (a = b) else decide (a = b))) H) := op_isnot_bl
theorem gIsB_e {a b : Bool} {h : Hs} : gIsB false (.d (.bl a)) (.d (.bl b)) h = some (.d (.bl (a == b)), h) := by cases a <;> cases b <;> rfl
theorem gIsNotB_e {a b : Bool} {h : Hs} : gIsB true (.d (.bl a)) (.d (.bl b)) h = some (.d (.bl (!(a == b))), h) := by cases a <;> cases b <;> rfl
end F
namespace W
open PySem PySem.Spec PyProof.Rows L2 F
def topS (i : Nat) : Stmt := PySem.Challenge.pw_freshpage_k05_whole_or_not.main.body.getD i (.Pass ⟨0, 0, 0, 0⟩)
def c_CODE : D := (.str [115, 99, 114, 105, 112, 116])
def c_CODE_END : D := (.str [60, 47, 115, 99, 114, 105, 112, 116, 62])
structure Ev (g : GG) : Prop where
  f_is_sound_tag : FnFact g "is_sound_tag" (topS 3) ["tag"]
  f_is_whole : FnFact g "is_whole" (topS 4) ["tree"]
  f__law_bag : FnFact g "_law_bag" (topS 6) ["script"]
  f__law_stirred : FnFact g "_law_stirred" (topS 7) ["bag", "many"]
  f__law_draw : FnFact g "_law_draw" (topS 8) ["bag", "many"]
  f__law_pool : FnFact g "_law_pool" (topS 9) ["bag"]
  f__law_word : FnFact g "_law_word" (topS 10) ["bag"]
  f__law_signs : FnFact g "_law_signs" (topS 11) ["bag", "many"]
  f__law_name : FnFact g "_law_name" (topS 12) ["bag"]
  f__law_worths : FnFact g "_law_worths" (topS 13) ["bag"]
  f__law_node : FnFact g "_law_node" (topS 14) ["one"]
  f__law_most : FnFact g "_law_most" (topS 15) ["bag"]
  f__law_grown : FnFact g "_law_grown" (topS 16) ["bag", "most"]
  f__law_sound : FnFact g "_law_sound" (topS 17) ["node"]
  f__law_many : FnFact g "_law_many" (topS 18) ["node"]
  f__law_odd : FnFact g "_law_odd" (topS 19) ["bag", "node"]
  f__law_put_odd : FnFact g "_law_put_odd" (topS 20) ["bag", "node", "at"]
  f_law : FnFact g "law" (topS 21) ["script"]
  w_is_whole_0_tree : KwFact g "is_whole" (topS 4) ["tree"] 0 ["tree"] [0]
  b_abs : g.mg (Str.ofString "abs") = none
  b_all : g.mg (Str.ofString "all") = none
  b_bool : g.mg (Str.ofString "bool") = none
  b_int : g.mg (Str.ofString "int") = none
  b_isinstance : g.mg (Str.ofString "isinstance") = none
  b_len : g.mg (Str.ofString "len") = none
  b_list : g.mg (Str.ofString "list") = none
  b_max : g.mg (Str.ofString "max") = none
  b_range : g.mg (Str.ofString "range") = none
  b_set : g.mg (Str.ofString "set") = none
  b_sum : g.mg (Str.ofString "sum") = none
  b_tuple : g.mg (Str.ofString "tuple") = none
  b_zip : g.mg (Str.ofString "zip") = none
  c_CODE : CAt g "CODE" c_CODE
  c_CODE_END : CAt g "CODE_END" c_CODE_END
/-! is_sound_tag -/
abbrev s_is_sound_tag : Stmt := topS 3
theorem sc_is_sound_tag : FnScope ["tag", "names", "kinds", "name", "value", "node"] ["tag"] (defScope s_is_sound_tag) := ⟨rfl, rfl, rfl, by decide +kernel, rfl, by decide +kernel, by decide +kernel⟩
noncomputable def b_is_sound_tag : DS := (dSeq (dSet 1 (eLc (iE (eB gIx (eV 0) (eC (.int 2)))) (gTp [(gNm 3), (gNm 4)]) fYes (eV 3) [3, 4])) (dFrz 1 (dSeq (dSet 2 (eLc (iE (eB gIx (eV 0) (eC (.int 3)))) (gNm 5) fYes (eB gIx (eV 5) (eC (.int 0))) [5])) (dFrz 2 (dSeq (dIf (fOr (fB (eB gGt (eF gLen (aCons (eV 1) aNil)) (eLenS (eV 1)))) (fB (eB (gInX false) (eTup (aCons (eC (.str [116, 101, 120, 116])) (aCons (eC (.str [116, 101, 120, 116])) aNil))) (eZipL (aCons (eV 2) (aCons (eSl (eV 2) (oI (eC (.int 1))) oN) aNil)))))) (dRet (eFrz (eC (.bl false)))) dNil) (dSeq (dIf (fOr (fB (eB gNe (eB gIx (eV 0) (eC (.int 1))) (eC c_CODE))) (fB (eB gEq (eV 2) (eLst aNil)))) (dRet (eFrz (eC (.bl true)))) dNil) (dRet (eFrz (eAnd (eB gEq (eV 2) (eLst (aCons (eC (.str [116, 101, 120, 116])) aNil))) (eB gNi (eC c_CODE_END) (eB gIx (eB gIx (eB gIx (eV 0) (eC (.int 3))) (eC (.int 0))) (eC (.int 1)))))))))))))
noncomputable def m_is_sound_tag : Mir := mOf 6 b_is_sound_tag
theorem ss_is_sound_tag {g : GG} (E : Ev g) : SS ⟨g, ["tag", "names", "kinds", "name", "value", "node"], defScope s_is_sound_tag, 0, fun _ => true⟩ (defBody s_is_sound_tag) b_is_sound_tag :=
  (ss_cons (s1_setLc (i := 1) (own := [("name", 3), ("value", 4)]) (hi := (si_e (se_ix (se_var (i := 0)) se_int))) (hg := (sg_tup (sgs_cons (sg_name (i := 3)) (sgs_cons (sg_name (i := 4)) sgs_nil)))) (ht := sts_nil) (he := (se_var (i := 3)))) (ss_frz 1 (ss_cons (s1_setLc (i := 2) (own := [("node", 5)]) (hi := (si_e (se_ix (se_var (i := 0)) se_int))) (hg := (sg_name (i := 5))) (ht := sts_nil) (he := (se_ix (se_var (i := 5)) se_int))) (ss_frz 2 (ss_cons (s1_if (st_w (sw_or (st_cmp (fun _ _ => oR_gt) oS_ord (se_len E.b_len (sa_cons (se_var (i := 1)) sa_nil)) (se_lenS (se_var (i := 1)) E.b_len E.b_set)) (sw_or1 (st_cmp (fun _ c => oR_inX c) oS_inX (se_tup (sa_cons (se_str (l := [116, 101, 120, 116])) (sa_cons (se_str (l := [116, 101, 120, 116])) sa_nil))) (se_zipL (sa_cons (se_var (i := 2)) (sa_cons (se_slice (se_var (i := 2)) (so_some se_int) so_none) sa_nil)) E.b_list E.b_zip))))) (ss_one (s1_ret (se_frz se_bl) nb_frz)) ss_nil) (ss_cons (s1_if (st_w (sw_or (st_cmp (fun _ c => oR_ne c) oS_eq (se_ix (se_var (i := 0)) se_int) (se_glob E.c_CODE)) (sw_or1 (st_cmp (fun _ c => oR_eq c) oS_eq (se_var (i := 2)) (se_lst sa_nil))))) (ss_one (s1_ret (se_frz se_bl) nb_frz)) ss_nil) (ss_one (s1_ret (se_frz (se_and (se_cmp (fun _ c => oR_eq c) oS_eq (se_var (i := 2)) (se_lst (sa_cons (se_str (l := [116, 101, 120, 116])) sa_nil))) (se_one (se_cmp (fun _ c => oR_ni c) oS_in (se_glob E.c_CODE_END) (se_ix (se_ix (se_ix (se_var (i := 0)) se_int) se_int) se_int))))) nb_frz))))))))
theorem at_is_sound_tag {g : GG} (E : Ev g) : FnAt g 1 "is_sound_tag" ["tag"] m_is_sound_tag := fnAt E.f_is_sound_tag sc_is_sound_tag (ss_is_sound_tag E)
/-! is_whole -/
abbrev s_is_whole : Stmt := topS 4
theorem sc_is_whole : FnScope ["tree", "waiting", "one"] ["tree"] (defScope s_is_whole) := ⟨rfl, rfl, rfl, by decide +kernel, rfl, by decide +kernel, by decide +kernel⟩
noncomputable def b_is_whole : DS := (dSeq (dIf (fOr (fB (eB gNe (eB gIx (eV 0) (eC (.int 0))) (eC (.str [116, 97, 103])))) (fOr (fB (eB gNe (eB gIx (eV 0) (eC (.int 1))) (eC (.str [112, 97, 103, 101])))) (fB (eB gNe (eB gIx (eV 0) (eC (.int 2))) (eTup aNil))))) (dRet (eFrz (eC (.bl false)))) dNil) (dSeq (dSet 1 (eLst (aCons (eV 0) aNil))) (dSeq (dWh (fB (eB gNe (eV 1) (eLst aNil))) (dSeq (dPopT 1 (gNm 2)) (dSeq (dIf (fB (eB gEq (eV 2) (eTup (aCons (eC (.str [116, 101, 120, 116])) (aCons (eC (.str [])) aNil))))) (dRet (eFrz (eC (.bl false)))) dNil) (dIf (fB (eB gEq (eB gIx (eV 2) (eC (.int 0))) (eC (.str [116, 97, 103])))) (dSeq (dIf (fNot (fB (eCall m_is_sound_tag (aCons (eV 2) aNil)))) (dRet (eFrz (eC (.bl false)))) dNil) (dExtT 1 (eB gIx (eV 2) (eC (.int 3))))) dNil))) 100000) (dRet (eFrz (eC (.bl true)))))))
noncomputable def m_is_whole : Mir := mOf 3 b_is_whole
theorem ss_is_whole {g : GG} (E : Ev g) : SS ⟨g, ["tree", "waiting", "one"], defScope s_is_whole, 1, fun _ => true⟩ (defBody s_is_whole) b_is_whole :=
  (ss_cons (s1_if (st_w (sw_or (st_cmp (fun _ c => oR_ne c) oS_eq (se_ix (se_var (i := 0)) se_int) (se_str (l := [116, 97, 103]))) (sw_or (st_cmp (fun _ c => oR_ne c) oS_eq (se_ix (se_var (i := 0)) se_int) (se_str (l := [112, 97, 103, 101]))) (sw_or1 (st_cmp (fun _ c => oR_ne c) oS_eq (se_ix (se_var (i := 0)) se_int) (se_tup sa_nil)))))) (ss_one (s1_ret (se_frz se_bl) nb_frz)) ss_nil) (ss_cons (s1_set (i := 1) (he := (se_lst (sa_cons (se_var (i := 0)) sa_nil)))) (ss_cons (s1_while 100000 (st_cmp (fun _ c => oR_ne c) oS_eq (se_var (i := 1)) (se_lst sa_nil)) (ss_cons (s1_popT (i := 1) (sg_name (i := 2))) (ss_cons (s1_if (st_cmp (fun _ c => oR_eq c) oS_eq (se_var (i := 2)) (se_tup (sa_cons (se_str (l := [116, 101, 120, 116])) (sa_cons (se_str (l := [])) sa_nil)))) (ss_one (s1_ret (se_frz se_bl) nb_frz)) ss_nil) (ss_one (s1_if (st_cmp (fun _ c => oR_eq c) oS_eq (se_ix (se_var (i := 2)) se_int) (se_str (l := [116, 97, 103]))) (ss_cons (s1_if (st_not (st_val (se_call (at_is_sound_tag E) (sa_cons (se_var (i := 2)) sa_nil) (alen_cons alen_nil) (hj := by (dsimp only [F.G.blk]; omega))))) (ss_one (s1_ret (se_frz se_bl) nb_frz)) ss_nil) (ss_one (s1_extT (i := 1) (he := (se_ix (se_var (i := 2)) se_int))))) ss_nil))))) (ss_one (s1_ret (se_frz se_bl) nb_frz)))))
theorem at_is_whole {g : GG} (E : Ev g) : FnAt g 2 "is_whole" ["tree"] m_is_whole := fnAt E.f_is_whole sc_is_whole (ss_is_whole E)
theorem kw_is_whole_0_tree {g : GG} (E : Ev g) : KwAt g 2 "is_whole" ["tree"] 0 ["tree"] [0] m_is_whole := kwAt E.w_is_whole_0_tree sc_is_whole (ss_is_whole E)
/-! _law_bag -/
abbrev s__law_bag : Stmt := topS 6
theorem sc__law_bag : FnScope ["script", "stir", "cell"] ["script"] (defScope s__law_bag) := ⟨rfl, rfl, rfl, by decide +kernel, rfl, by decide +kernel, by decide +kernel⟩
noncomputable def b__law_bag : DS := (dSeq (dSet 1 (eC (.int 31))) (dSeq (dFor (iE (eSl (eV 0) oN (oI (eC (.int 63))))) (gNm 2) (dSet 1 (eB (gI mod') (eB gAdd (eB gAdd (eB gMul (eV 1) (eC (.int 48271))) (eB (gI mod') (eV 2) (eC (.int 2147483629)))) (eC (.int 1))) (eC (.int 2147483647))))) (dRet (eLst (aCons (eFrz (eLc (iE (eSl (eV 0) oN (oI (eC (.int 63))))) (gNm 2) fYes (eB (gI mod') (eF gAbs (aCons (eV 2) aNil)) (eB (gI pow') (eB (gI pow') (eC (.int 10)) (eC (.int 60))) (eC (.int 10)))) [2])) (aCons (eC (.int 0)) (aCons (eC (.int 0)) (aCons (eV 1) (aCons (eC (.int 0)) aNil)))))))))
noncomputable def m__law_bag : Mir := mOf 3 b__law_bag
theorem ss__law_bag {g : GG} (E : Ev g) : SS ⟨g, ["script", "stir", "cell"], defScope s__law_bag, 0, fun _ => true⟩ (defBody s__law_bag) b__law_bag :=
  (ss_cons (s1_set (i := 1) (he := se_int)) (ss_cons (s1_for (si_e (se_slice (se_var (i := 0)) so_none (so_some se_int))) (sg_name (i := 2)) (ss_one (s1_set (i := 1) (he := (se_mod (se_add (se_add (se_mul (se_var (i := 1)) se_int) (se_mod (se_var (i := 2)) se_int)) se_int) se_int))))) (ss_one (s1_ret (se_lst (sa_cons (se_frz (se_lc (own := [("cell", 2)]) (hi := (si_e (se_slice (se_var (i := 0)) so_none (so_some se_int)))) (hg := (sg_name (i := 2))) (ht := sts_nil) (he := (se_mod (se_abs E.b_abs (sa_cons (se_var (i := 2)) sa_nil)) (se_pow (se_pow se_int se_int) se_int))))) (sa_cons se_int (sa_cons se_int (sa_cons (se_var (i := 1)) (sa_cons se_int sa_nil)))))) nb_lst))))
theorem at__law_bag {g : GG} (E : Ev g) : FnAt g 1 "_law_bag" ["script"] m__law_bag := fnAt E.f__law_bag sc__law_bag (ss__law_bag E)
/-! _law_stirred -/
abbrev s__law_stirred : Stmt := topS 7
theorem sc__law_stirred : FnScope ["bag", "many", "found", "k"] ["bag", "many"] (defScope s__law_stirred) := ⟨rfl, rfl, rfl, by decide +kernel, rfl, by decide +kernel, by decide +kernel⟩
noncomputable def b__law_stirred : DS := (dSeq (dSet 2 (eC (.int 0))) (dSeq (dFor (iR1 (aCons (eB gAdd (eC (.int 1)) (eB (gI fdiv') (eU gBits (eV 1)) (eC (.int 27)))) aNil)) (gNm 3) (dSeq (dPut (eV 0) (eC (.int 4)) (eB gAdd (eB gIx (eV 0) (eC (.int 4))) (eC (.int 1)))) (dSeq (dPut (eV 0) (eC (.int 3)) (eB (gI mod') (eB gAdd (eB gAdd (eB gAdd (eB (gI pow') (eB gIx (eV 0) (eC (.int 3))) (eC (.int 3))) (eB gMul (eC (.int 69621)) (eB gIx (eV 0) (eC (.int 3))))) (eB gMul (eC (.int 1031)) (eB gIx (eV 0) (eC (.int 4))))) (eC (.int 1))) (eC (.int 2147483647)))) (dSet 2 (eB gAdd (eB gMul (eV 2) (eC (.int 134217728))) (eB (gI fdiv') (eB gIx (eV 0) (eC (.int 3))) (eC (.int 16)))))))) (dRet (eFrz (eB (gI mod') (eV 2) (eV 1))))))
noncomputable def m__law_stirred : Mir := mOf 4 b__law_stirred
theorem ss__law_stirred {g : GG} (E : Ev g) : SS ⟨g, ["bag", "many", "found", "k"], defScope s__law_stirred, 0, fun _ => true⟩ (defBody s__law_stirred) b__law_stirred :=
  (ss_cons (s1_set (i := 2) (he := se_int)) (ss_cons (s1_for (si_range1 E.b_range (sa_cons (se_add se_int (se_fdiv (se_bits (se_var (i := 1))) se_int)) sa_nil)) (sg_name (i := 3)) (ss_cons (s1_put (se_var (i := 0)) se_int (se_add (se_ix (se_var (i := 0)) se_int) se_int)) (ss_cons (s1_put (se_var (i := 0)) se_int (se_mod (se_add (se_add (se_add (se_pow (se_ix (se_var (i := 0)) se_int) se_int) (se_mul se_int (se_ix (se_var (i := 0)) se_int))) (se_mul se_int (se_ix (se_var (i := 0)) se_int))) se_int) se_int)) (ss_one (s1_set (i := 2) (he := (se_add (se_mul (se_var (i := 2)) se_int) (se_fdiv (se_ix (se_var (i := 0)) se_int) se_int)))))))) (ss_one (s1_ret (se_frz (se_mod (se_var (i := 2)) (se_var (i := 1)))) nb_frz))))
theorem at__law_stirred {g : GG} (E : Ev g) : FnAt g 1 "_law_stirred" ["bag", "many"] m__law_stirred := fnAt E.f__law_stirred sc__law_stirred (ss__law_stirred E)
/-! _law_draw -/
abbrev s__law_draw : Stmt := topS 8
theorem sc__law_draw : FnScope ["bag", "many", "found"] ["bag", "many"] (defScope s__law_draw) := ⟨rfl, rfl, rfl, by decide +kernel, rfl, by decide +kernel, by decide +kernel⟩
noncomputable def b__law_draw : DS := (dSeq (dIf (fAnd (fB (eB gEq (eB gIx (eV 0) (eC (.int 2))) (eC (.int 0)))) (fB (eB gLt (eB gIx (eV 0) (eC (.int 1))) (eF gLen (aCons (eB gIx (eV 0) (eC (.int 0))) aNil))))) (dSeq (dPut (eV 0) (eC (.int 2)) (eB gIx (eB gIx (eV 0) (eC (.int 0))) (eB gIx (eV 0) (eC (.int 1))))) (dPut (eV 0) (eC (.int 1)) (eB gAdd (eB gIx (eV 0) (eC (.int 1))) (eC (.int 1))))) (dIf (fB (eB gEq (eB gIx (eV 0) (eC (.int 2))) (eC (.int 0)))) (dRet (eFrz (eCall m__law_stirred (aCons (eV 0) (aCons (eV 1) aNil))))) dNil)) (dSeq (dSet 2 (eB (gI mod') (eB gIx (eV 0) (eC (.int 2))) (eV 1))) (dSeq (dPut (eV 0) (eC (.int 2)) (eB (gI fdiv') (eB gIx (eV 0) (eC (.int 2))) (eV 1))) (dRet (eFrz (eV 2))))))
noncomputable def m__law_draw : Mir := mOf 3 b__law_draw
theorem ss__law_draw {g : GG} (E : Ev g) : SS ⟨g, ["bag", "many", "found"], defScope s__law_draw, 1, fun _ => true⟩ (defBody s__law_draw) b__law_draw :=
  (ss_cons (s1_if (st_w (sw_and (st_cmp (fun _ c => oR_eq c) oS_eq (se_ix (se_var (i := 0)) se_int) se_int) (sw_and1 (st_cmp (fun _ _ => oR_lt) oS_ord (se_ix (se_var (i := 0)) se_int) (se_len E.b_len (sa_cons (se_ix (se_var (i := 0)) se_int) sa_nil)))))) (ss_cons (s1_put (se_var (i := 0)) se_int (se_ix (se_ix (se_var (i := 0)) se_int) (se_ix (se_var (i := 0)) se_int))) (ss_one (s1_put (se_var (i := 0)) se_int (se_add (se_ix (se_var (i := 0)) se_int) se_int)))) (ss_one (s1_if (st_cmp (fun _ c => oR_eq c) oS_eq (se_ix (se_var (i := 0)) se_int) se_int) (ss_one (s1_ret (se_frz (se_call (at__law_stirred E) (sa_cons (se_var (i := 0)) (sa_cons (se_var (i := 1)) sa_nil)) (alen_cons (alen_cons alen_nil)) (hj := by (dsimp only [F.G.blk]; omega)))) nb_frz)) ss_nil))) (ss_cons (s1_set (i := 2) (he := (se_mod (se_ix (se_var (i := 0)) se_int) (se_var (i := 1))))) (ss_cons (s1_put (se_var (i := 0)) se_int (se_fdiv (se_ix (se_var (i := 0)) se_int) (se_var (i := 1)))) (ss_one (s1_ret (se_frz (se_var (i := 2))) nb_frz)))))
theorem at__law_draw {g : GG} (E : Ev g) : FnAt g 2 "_law_draw" ["bag", "many"] m__law_draw := fnAt E.f__law_draw sc__law_draw (ss__law_draw E)
/-! _law_pool -/
abbrev s__law_pool : Stmt := topS 9
theorem sc__law_pool : FnScope ["bag", "letters", "style", "base", "found", "k", "word", "step", "j"] ["bag"] (defScope s__law_pool) := ⟨rfl, rfl, rfl, by decide +kernel, rfl, by decide +kernel, by decide +kernel⟩
noncomputable def b__law_pool : DS := (dSeq (dSet 1 (eC (.str [97, 98, 99, 100, 101, 102, 103, 104, 105, 106, 107, 108, 109, 110, 111, 112, 113, 114, 115, 116, 117, 118, 119, 120, 121, 122]))) (dSeq (dSet 2 (eCall m__law_draw (aCons (eV 0) (aCons (eC (.int 3)) aNil)))) (dSeq (dSet 3 (eM1 gJoin (eC (.str [])) (eLc (iR1 (aCons (eB gAdd (eC (.int 1)) (eCall m__law_draw (aCons (eV 0) (aCons (eC (.int 6)) aNil)))) aNil)) (gNm 5) fYes (eB gIx (eV 1) (eCall m__law_draw (aCons (eV 0) (aCons (eC (.int 26)) aNil)))) [5]))) (dSeq (dSet 4 (eLst aNil)) (dSeq (dFor (iR1 (aCons (eC (.int 5)) aNil)) (gNm 5) (dSeq (dSet 6 (eM1 gJoin (eC (.str [])) (eLc (iR1 (aCons (eB gAdd (eC (.int 1)) (eCall m__law_draw (aCons (eV 0) (aCons (eC (.int 6)) aNil)))) aNil)) (gNm 8) fYes (eB gIx (eV 1) (eCall m__law_draw (aCons (eV 0) (aCons (eC (.int 26)) aNil)))) [8]))) (dSeq (dSet 6 (eB gIx (eLst (aCons (eV 6) (aCons (eFrz (eB gAdd (eSl (eV 3) oN (oI (eU gNeg (eC (.int 1))))) (eSl (eV 6) oN (oI (eC (.int 1)))))) (aCons (eFrz (eSl (eB gAdd (eV 3) (eV 6)) oN (oI (eB gAdd (eC (.int 1)) (eCall m__law_draw (aCons (eV 0) (aCons (eC (.int 7)) aNil))))))) aNil)))) (eV 2))) (dSeq (dSet 7 (eC (.int 0))) (dSeq (dWh (fB (eB gIn (eV 6) (eV 4))) (dSeq (dSet 6 (eFrz (eB gAdd (eSl (eV 6) oN (oI (eC (.int 7)))) (eB gIx (eV 1) (eV 7))))) (dSet 7 (eB gAdd (eV 7) (eC (.int 1))))) 100000) (dApp 4 (eV 6))))))) (dFrz 4 (dRet (eFrz (eV 4)))))))))
noncomputable def m__law_pool : Mir := mOf 9 b__law_pool
theorem ss__law_pool {g : GG} (E : Ev g) : SS ⟨g, ["bag", "letters", "style", "base", "found", "k", "word", "step", "j"], defScope s__law_pool, 2, fun _ => true⟩ (defBody s__law_pool) b__law_pool :=
  (ss_cons (s1_set (i := 1) (he := (se_str (l := [97, 98, 99, 100, 101, 102, 103, 104, 105, 106, 107, 108, 109, 110, 111, 112, 113, 114, 115, 116, 117, 118, 119, 120, 121, 122])))) (ss_cons (s1_set (i := 2) (he := (se_call (at__law_draw E) (sa_cons (se_var (i := 0)) (sa_cons se_int sa_nil)) (alen_cons (alen_cons alen_nil)) (hj := by (dsimp only [F.G.blk]; omega))))) (ss_cons (s1_set (i := 3) (he := (se_join (se_str (l := [])) (se_lc (own := [("k", 5)]) (hi := (si_range1 E.b_range (sa_cons (se_add se_int (se_call (at__law_draw E) (sa_cons (se_var (i := 0)) (sa_cons se_int sa_nil)) (alen_cons (alen_cons alen_nil)) (hj := by (dsimp only [F.G.blk]; omega)))) sa_nil))) (hg := (sg_name (i := 5))) (ht := sts_nil) (he := (se_ix (se_var (i := 1)) (se_call (at__law_draw E) (sa_cons (se_var (i := 0)) (sa_cons se_int sa_nil)) (alen_cons (alen_cons alen_nil)) (hj := by (dsimp only [F.G.blk]; omega))))))))) (ss_cons (s1_set (i := 4) (he := (se_lst sa_nil))) (ss_cons (s1_for (si_range1 E.b_range (sa_cons se_int sa_nil)) (sg_name (i := 5)) (ss_cons (s1_set (i := 6) (he := (se_join (se_str (l := [])) (se_lc (own := [("j", 8)]) (hi := (si_range1 E.b_range (sa_cons (se_add se_int (se_call (at__law_draw E) (sa_cons (se_var (i := 0)) (sa_cons se_int sa_nil)) (alen_cons (alen_cons alen_nil)) (hj := by (dsimp only [F.G.blk]; omega)))) sa_nil))) (hg := (sg_name (i := 8))) (ht := sts_nil) (he := (se_ix (se_var (i := 1)) (se_call (at__law_draw E) (sa_cons (se_var (i := 0)) (sa_cons se_int sa_nil)) (alen_cons (alen_cons alen_nil)) (hj := by (dsimp only [F.G.blk]; omega))))))))) (ss_cons (s1_set (i := 6) (he := (se_ix (se_lst (sa_cons (se_var (i := 6)) (sa_cons (se_frz (se_add (se_slice (se_var (i := 3)) so_none (so_some (se_neg se_int))) (se_slice (se_var (i := 6)) so_none (so_some se_int)))) (sa_cons (se_frz (se_slice (se_add (se_var (i := 3)) (se_var (i := 6))) so_none (so_some (se_add se_int (se_call (at__law_draw E) (sa_cons (se_var (i := 0)) (sa_cons se_int sa_nil)) (alen_cons (alen_cons alen_nil)) (hj := by (dsimp only [F.G.blk]; omega))))))) sa_nil)))) (se_var (i := 2))))) (ss_cons (s1_set (i := 7) (he := se_int)) (ss_cons (s1_while 100000 (st_cmp (fun _ c => oR_in c) oS_in (se_var (i := 6)) (se_var (i := 4))) (ss_cons (s1_set (i := 6) (he := (se_frz (se_add (se_slice (se_var (i := 6)) so_none (so_some se_int)) (se_ix (se_var (i := 1)) (se_var (i := 7))))))) (ss_one (s1_set (i := 7) (he := (se_add (se_var (i := 7)) se_int)))))) (ss_one (s1_app (i := 4) (he := (se_var (i := 6)))))))))) (ss_frz 4 (ss_one (s1_ret (se_frz (se_var (i := 4))) nb_frz))))))))
theorem at__law_pool {g : GG} (E : Ev g) : FnAt g 3 "_law_pool" ["bag"] m__law_pool := fnAt E.f__law_pool sc__law_pool (ss__law_pool E)
/-! _law_word -/
abbrev s__law_word : Stmt := topS 10
theorem sc__law_word : FnScope ["bag"] ["bag"] (defScope s__law_word) := ⟨rfl, rfl, rfl, by decide +kernel, rfl, by decide +kernel, by decide +kernel⟩
noncomputable def b__law_word : DS := (dSeq (dIf (fB (eB gLt (eF gLen (aCons (eV 0) aNil)) (eC (.int 6)))) (dAppR (eV 0) (eCall m__law_pool (aCons (eV 0) aNil))) dNil) (dRet (eFrz (eB gIx (eB gIx (eV 0) (eC (.int 5))) (eCall m__law_draw (aCons (eV 0) (aCons (eC (.int 5)) aNil)))))))
noncomputable def m__law_word : Mir := mOf 1 b__law_word
theorem ss__law_word {g : GG} (E : Ev g) : SS ⟨g, ["bag"], defScope s__law_word, 3, fun _ => true⟩ (defBody s__law_word) b__law_word :=
  (ss_cons (s1_if (st_cmp (fun _ _ => oR_lt) oS_ord (se_len E.b_len (sa_cons (se_var (i := 0)) sa_nil)) se_int) (ss_one (s1_appR (se_var (i := 0)) (se_call (at__law_pool E) (sa_cons (se_var (i := 0)) sa_nil) (alen_cons alen_nil) (hj := by (dsimp only [F.G.blk]; omega))))) ss_nil) (ss_one (s1_ret (se_frz (se_ix (se_ix (se_var (i := 0)) se_int) (se_call (at__law_draw E) (sa_cons (se_var (i := 0)) (sa_cons se_int sa_nil)) (alen_cons (alen_cons alen_nil)) (hj := by (dsimp only [F.G.blk]; omega))))) nb_frz)))
theorem at__law_word {g : GG} (E : Ev g) : FnAt g 4 "_law_word" ["bag"] m__law_word := fnAt E.f__law_word sc__law_word (ss__law_word E)
/-! _law_signs -/
abbrev s__law_signs : Stmt := topS 11
theorem sc__law_signs : FnScope ["bag", "many", "every", "some", "k"] ["bag", "many"] (defScope s__law_signs) := ⟨rfl, rfl, rfl, by decide +kernel, rfl, by decide +kernel, by decide +kernel⟩
noncomputable def b__law_signs : DS := (dSeq (dSet 2 (eC (.str [32, 33, 34, 35, 36, 38, 39, 40, 41, 42, 43, 44, 45, 46, 47, 48, 49, 50, 51, 52, 53, 54, 55, 56, 57, 58, 59, 60, 61, 62, 63, 64, 65, 66, 67, 68, 69, 70, 71, 72, 73, 74, 75, 76, 77, 78, 79, 80, 81, 82, 83, 84, 85, 86, 87, 88, 89, 90, 91, 92, 93, 94, 95, 96, 97, 98, 99, 100, 101, 102, 103, 104, 105, 106, 107, 108, 109, 110, 111, 112, 113, 114, 115, 116, 117, 118, 119, 120, 121, 122, 123, 124, 125, 126, 10]))) (dSeq (dSet 3 (eB gIx (eLst (aCons (eV 2) (aCons (eC (.str [60, 62, 38, 34, 59, 32, 108, 116, 38, 103, 116, 59, 97, 109, 112, 47, 97, 98, 10])) (aCons (eC (.str [97, 98, 99, 32, 100])) (aCons (eC (.str [60, 38])) aNil))))) (eCall m__law_draw (aCons (eV 0) (aCons (eC (.int 4)) aNil))))) (dRet (eFrz (eM1 gJoin (eC (.str [])) (eLc (iR1 (aCons (eV 1) aNil)) (gNm 4) fYes (eB gIx (eV 3) (eCall m__law_draw (aCons (eV 0) (aCons (eF gLen (aCons (eV 3) aNil)) aNil)))) [4]))))))
noncomputable def m__law_signs : Mir := mOf 5 b__law_signs
theorem ss__law_signs {g : GG} (E : Ev g) : SS ⟨g, ["bag", "many", "every", "some", "k"], defScope s__law_signs, 2, fun _ => true⟩ (defBody s__law_signs) b__law_signs :=
  (ss_cons (s1_set (i := 2) (he := (se_str (l := [32, 33, 34, 35, 36, 38, 39, 40, 41, 42, 43, 44, 45, 46, 47, 48, 49, 50, 51, 52, 53, 54, 55, 56, 57, 58, 59, 60, 61, 62, 63, 64, 65, 66, 67, 68, 69, 70, 71, 72, 73, 74, 75, 76, 77, 78, 79, 80, 81, 82, 83, 84, 85, 86, 87, 88, 89, 90, 91, 92, 93, 94, 95, 96, 97, 98, 99, 100, 101, 102, 103, 104, 105, 106, 107, 108, 109, 110, 111, 112, 113, 114, 115, 116, 117, 118, 119, 120, 121, 122, 123, 124, 125, 126, 10])))) (ss_cons (s1_set (i := 3) (he := (se_ix (se_lst (sa_cons (se_var (i := 2)) (sa_cons (se_str (l := [60, 62, 38, 34, 59, 32, 108, 116, 38, 103, 116, 59, 97, 109, 112, 47, 97, 98, 10])) (sa_cons (se_str (l := [97, 98, 99, 32, 100])) (sa_cons (se_str (l := [60, 38])) sa_nil))))) (se_call (at__law_draw E) (sa_cons (se_var (i := 0)) (sa_cons se_int sa_nil)) (alen_cons (alen_cons alen_nil)) (hj := by (dsimp only [F.G.blk]; omega)))))) (ss_one (s1_ret (se_frz (se_join (se_str (l := [])) (se_lc (own := [("k", 4)]) (hi := (si_range1 E.b_range (sa_cons (se_var (i := 1)) sa_nil))) (hg := (sg_name (i := 4))) (ht := sts_nil) (he := (se_ix (se_var (i := 3)) (se_call (at__law_draw E) (sa_cons (se_var (i := 0)) (sa_cons (se_len E.b_len (sa_cons (se_var (i := 3)) sa_nil)) sa_nil)) (alen_cons (alen_cons alen_nil)) (hj := by (dsimp only [F.G.blk]; omega)))))))) nb_frz))))
theorem at__law_signs {g : GG} (E : Ev g) : FnAt g 3 "_law_signs" ["bag", "many"] m__law_signs := fnAt E.f__law_signs sc__law_signs (ss__law_signs E)
/-! _law_name -/
abbrev s__law_name : Stmt := topS 12
theorem sc__law_name : FnScope ["bag", "word"] ["bag"] (defScope s__law_name) := ⟨rfl, rfl, rfl, by decide +kernel, rfl, by decide +kernel, by decide +kernel⟩
noncomputable def b__law_name : DS := (dSeq (dSet 1 (eCall m__law_word (aCons (eV 0) aNil))) (dRet (eFrz (eB gIx (eLst (aCons (eC (.str [112])) (aCons (eC (.str [98])) (aCons (eC (.str [115, 99, 114, 105, 112, 116])) (aCons (eC (.str [112, 97, 103, 101])) (aCons (eC (.str [105, 116, 101, 109])) (aCons (eV 1) (aCons (eV 1) (aCons (eV 1) aNil))))))))) (eCall m__law_draw (aCons (eV 0) (aCons (eC (.int 8)) aNil)))))))
noncomputable def m__law_name : Mir := mOf 2 b__law_name
theorem ss__law_name {g : GG} (E : Ev g) : SS ⟨g, ["bag", "word"], defScope s__law_name, 4, fun _ => true⟩ (defBody s__law_name) b__law_name :=
  (ss_cons (s1_set (i := 1) (he := (se_call (at__law_word E) (sa_cons (se_var (i := 0)) sa_nil) (alen_cons alen_nil) (hj := by (dsimp only [F.G.blk]; omega))))) (ss_one (s1_ret (se_frz (se_ix (se_lst (sa_cons (se_str (l := [112])) (sa_cons (se_str (l := [98])) (sa_cons (se_str (l := [115, 99, 114, 105, 112, 116])) (sa_cons (se_str (l := [112, 97, 103, 101])) (sa_cons (se_str (l := [105, 116, 101, 109])) (sa_cons (se_var (i := 1)) (sa_cons (se_var (i := 1)) (sa_cons (se_var (i := 1)) sa_nil))))))))) (se_call (at__law_draw E) (sa_cons (se_var (i := 0)) (sa_cons se_int sa_nil)) (alen_cons (alen_cons alen_nil)) (hj := by (dsimp only [F.G.blk]; omega))))) nb_frz)))
theorem at__law_name {g : GG} (E : Ev g) : FnAt g 5 "_law_name" ["bag"] m__law_name := fnAt E.f__law_name sc__law_name (ss__law_name E)
/-! _law_worths -/
abbrev s__law_worths : Stmt := topS 13
theorem sc__law_worths : FnScope ["bag", "found", "k"] ["bag"] (defScope s__law_worths) := ⟨rfl, rfl, rfl, by decide +kernel, rfl, by decide +kernel, by decide +kernel⟩
noncomputable def b__law_worths : DS := (dSeq (dSet 1 eDNew) (dSeq (dFor (iR1 (aCons (eB gMul (eCall m__law_draw (aCons (eV 0) (aCons (eC (.int 5)) aNil))) (eF gInt (aCons (eB gEq (eCall m__law_draw (aCons (eV 0) (aCons (eC (.int 2)) aNil))) (eC (.int 0))) aNil))) aNil)) (gNm 2) (dDPut 1 (eB gIx (eLst (aCons (eC (.str [105, 100])) (aCons (eC (.str [99, 108, 97, 115, 115])) (aCons (eC (.str [108, 111, 111, 107])) (aCons (eCall m__law_word (aCons (eV 0) aNil)) aNil))))) (eCall m__law_draw (aCons (eV 0) (aCons (eC (.int 4)) aNil)))) (eCall m__law_signs (aCons (eV 0) (aCons (eCall m__law_draw (aCons (eV 0) (aCons (eC (.int 7)) aNil))) aNil))))) (dRet (eFrz (eTupItems (eV 1))))))
noncomputable def m__law_worths : Mir := mOf 3 b__law_worths
theorem ss__law_worths {g : GG} (E : Ev g) : SS ⟨g, ["bag", "found", "k"], defScope s__law_worths, 4, fun _ => true⟩ (defBody s__law_worths) b__law_worths :=
  (ss_cons (s1_set (i := 1) (he := se_dnew)) (ss_cons (s1_for (si_range1 E.b_range (sa_cons (se_mul (se_call (at__law_draw E) (sa_cons (se_var (i := 0)) (sa_cons se_int sa_nil)) (alen_cons (alen_cons alen_nil)) (hj := by (dsimp only [F.G.blk]; omega))) (se_intF E.b_int (sa_cons (se_cmp (fun _ c => oR_eq c) oS_eq (se_call (at__law_draw E) (sa_cons (se_var (i := 0)) (sa_cons se_int sa_nil)) (alen_cons (alen_cons alen_nil)) (hj := by (dsimp only [F.G.blk]; omega))) se_int) sa_nil))) sa_nil)) (sg_name (i := 2)) (ss_one (s1_dput (i := 1) (hi := (se_ix (se_lst (sa_cons (se_str (l := [105, 100])) (sa_cons (se_str (l := [99, 108, 97, 115, 115])) (sa_cons (se_str (l := [108, 111, 111, 107])) (sa_cons (se_call (at__law_word E) (sa_cons (se_var (i := 0)) sa_nil) (alen_cons alen_nil) (hj := by (dsimp only [F.G.blk]; omega))) sa_nil))))) (se_call (at__law_draw E) (sa_cons (se_var (i := 0)) (sa_cons se_int sa_nil)) (alen_cons (alen_cons alen_nil)) (hj := by (dsimp only [F.G.blk]; omega))))) (he := (se_call (at__law_signs E) (sa_cons (se_var (i := 0)) (sa_cons (se_call (at__law_draw E) (sa_cons (se_var (i := 0)) (sa_cons se_int sa_nil)) (alen_cons (alen_cons alen_nil)) (hj := by (dsimp only [F.G.blk]; omega))) sa_nil)) (alen_cons (alen_cons alen_nil)) (hj := by (dsimp only [F.G.blk]; omega))))))) (ss_one (s1_ret (se_frz (se_tupItems (se_var (i := 1)) E.b_tuple)) nb_frz))))
theorem at__law_worths {g : GG} (E : Ev g) : FnAt g 5 "_law_worths" ["bag"] m__law_worths := fnAt E.f__law_worths sc__law_worths (ss__law_worths E)
/-! _law_node -/
abbrev s__law_node : Stmt := topS 14
theorem sc__law_node : FnScope ["one", "child"] ["one"] (defScope s__law_node) := ⟨rfl, rfl, rfl, by decide +kernel, rfl, by decide +kernel, by decide +kernel⟩
noncomputable def b__law_node (m : Mir) : DS := (dSeq (dIf (fB (eB gEq (eB gIx (eV 0) (eC (.int 0))) (eC (.str [116, 101, 120, 116])))) (dRet (eFrz (eTup (aCons (eC (.str [116, 101, 120, 116])) (aCons (eB gIx (eV 0) (eC (.int 1))) aNil))))) dNil) (dRet (eFrz (eTup (aCons (eC (.str [116, 97, 103])) (aCons (eB gIx (eV 0) (eC (.int 1))) (aCons (eB gIx (eV 0) (eC (.int 2))) (aCons (eF gTupOf (aCons (eLcR (eB gIx (eV 0) (eC (.int 3))) (gNm 1) fYes (eCall m (aCons (eV 1) aNil)) [1] 10000) aNil)) aNil))))))))
noncomputable def m__law_node : Nat → Mir
  | 0 => mOf 2 dNever
  | n + 1 => mOf 2 (b__law_node (m__law_node n))
theorem at__law_node {g : GG} (E : Ev g) : ∀ n : Nat, FnAt g (n + 1) "_law_node" ["one"] (m__law_node n)
  | 0 => (fnAt E.f__law_node sc__law_node (k := 0) ss_never).mono (by omega)
  | n + 1 => by
    have A := at__law_node E n
    exact fnAt E.f__law_node sc__law_node (k := n + 1) (ss_cons (s1_if (st_cmp (fun _ c => oR_eq c) oS_eq (se_ix (se_var (i := 0)) se_int) (se_str (l := [116, 101, 120, 116]))) (ss_one (s1_ret (se_frz (se_tup (sa_cons (se_str (l := [116, 101, 120, 116])) (sa_cons (se_ix (se_var (i := 0)) se_int) sa_nil)))) nb_frz)) ss_nil) (ss_one (s1_ret (se_frz (se_tup (sa_cons (se_str (l := [116, 97, 103])) (sa_cons (se_ix (se_var (i := 0)) se_int) (sa_cons (se_ix (se_var (i := 0)) se_int) (sa_cons (se_tupF E.b_tuple (sa_cons (se_lcR (kk := 10000) (own := [("child", 1)]) (hi := (se_ix (se_var (i := 0)) se_int)) (hg := (sg_name (i := 1))) (ht := sts_nil) (he := (se_call A (sa_cons (se_var (i := 1)) sa_nil) (alen_cons alen_nil) (hj := by (dsimp only [F.G.blk]; omega))))) sa_nil)) sa_nil)))))) nb_frz)))
/-! _law_most -/
abbrev s__law_most : Stmt := topS 15
theorem sc__law_most : FnScope ["bag"] ["bag"] (defScope s__law_most) := ⟨rfl, rfl, rfl, by decide +kernel, rfl, by decide +kernel, by decide +kernel⟩
noncomputable def b__law_most : DS := (dRet (eFrz (eB gIx (eLst (aCons (eCall m__law_draw (aCons (eV 0) (aCons (eC (.int 5)) aNil))) (aCons (eCall m__law_draw (aCons (eV 0) (aCons (eC (.int 16)) aNil))) (aCons (eCall m__law_draw (aCons (eV 0) (aCons (eC (.int 60)) aNil))) (aCons (eC (.int 120)) aNil))))) (eCall m__law_draw (aCons (eV 0) (aCons (eC (.int 4)) aNil))))))
noncomputable def m__law_most : Mir := mOf 1 b__law_most
theorem ss__law_most {g : GG} (E : Ev g) : SS ⟨g, ["bag"], defScope s__law_most, 2, fun _ => true⟩ (defBody s__law_most) b__law_most :=
  (ss_one (s1_ret (se_frz (se_ix (se_lst (sa_cons (se_call (at__law_draw E) (sa_cons (se_var (i := 0)) (sa_cons se_int sa_nil)) (alen_cons (alen_cons alen_nil)) (hj := by (dsimp only [F.G.blk]; omega))) (sa_cons (se_call (at__law_draw E) (sa_cons (se_var (i := 0)) (sa_cons se_int sa_nil)) (alen_cons (alen_cons alen_nil)) (hj := by (dsimp only [F.G.blk]; omega))) (sa_cons (se_call (at__law_draw E) (sa_cons (se_var (i := 0)) (sa_cons se_int sa_nil)) (alen_cons (alen_cons alen_nil)) (hj := by (dsimp only [F.G.blk]; omega))) (sa_cons se_int sa_nil))))) (se_call (at__law_draw E) (sa_cons (se_var (i := 0)) (sa_cons se_int sa_nil)) (alen_cons (alen_cons alen_nil)) (hj := by (dsimp only [F.G.blk]; omega))))) nb_frz))
theorem at__law_most {g : GG} (E : Ev g) : FnAt g 3 "_law_most" ["bag"] m__law_most := fnAt E.f__law_most sc__law_most (ss__law_most E)
/-! _law_grown -/
abbrev s__law_grown : Stmt := topS 16
theorem sc__law_grown : FnScope ["bag", "most", "page", "tags", "many", "size", "style", "k", "last", "tag", "deep", "made", "code", "name", "value"] ["bag", "most"] (defScope s__law_grown) := ⟨rfl, rfl, rfl, by decide +kernel, rfl, by decide +kernel, by decide +kernel⟩
noncomputable def b__law_grown : DS := (dSeq (dSet 2 (eNew (eLst (aCons (eC (.str [116, 97, 103])) (aCons (eC (.str [112, 97, 103, 101])) (aCons (eTup aNil) (aCons (eNew (eLst aNil)) aNil))))))) (dSeq (dSet 3 (eLst (aCons (eFrz (eLst (aCons (eV 2) (aCons (eC (.int 1)) aNil)))) aNil))) (dSeq (dAsg (eTup (aCons (eC (.int 1)) (aCons (eC (.int 0)) aNil))) (gTp [(gNm 4), (gNm 5)])) (dSeq (dSet 6 (eCall m__law_draw (aCons (eV 0) (aCons (eC (.int 4)) aNil)))) (dSeq (dFor (iR1 (aCons (eV 1) aNil)) (gNm 7) (dSeq (dSet 8 (eB (gI sub') (eF gLen (aCons (eV 3) aNil)) (eC (.int 1)))) (dSeq (dAsg (eB gIx (eV 3) (eB gIx (eLst (aCons (eCall m__law_draw (aCons (eV 0) (aCons (eB gAdd (eV 8) (eC (.int 1))) aNil))) (aCons (eV 8) (aCons (eC (.int 0)) (aCons (eF gMax2 (aCons (eC (.int 0)) (aCons (eB (gI sub') (eV 8) (eCall m__law_draw (aCons (eV 0) (aCons (eC (.int 3)) aNil)))) aNil))) aNil))))) (eV 6))) (gLs [(gNm 9), (gNm 10)])) (dSeq (dIf (fOr (fB (eB gGt (eV 4) (eC (.int 112)))) (fOr (fB (eB gGt (eV 5) (eC (.int 3300)))) (fB (eB gGt (eV 10) (eC (.int 17)))))) (dRet (eFrz (eCall (m__law_node 22) (aCons (eV 2) aNil)))) dNil) (dIf (fAnd (fB (eB gEq (eCall m__law_draw (aCons (eV 0) (aCons (eC (.int 3)) aNil))) (eC (.int 0)))) (fOr (fB (eB (gEqNl false) (eB gIx (eV 9) (eC (.int 3))) (eLst aNil))) (fB (eB gNe (eB gIx (eB gIx (eB gIx (eV 9) (eC (.int 3))) (eU gNeg (eC (.int 1)))) (eC (.int 0))) (eC (.str [116, 101, 120, 116])))))) (dSeq (dAppR (eB gIx (eV 9) (eC (.int 3))) (eFrz (eLst (aCons (eC (.str [116, 101, 120, 116])) (aCons (eCall m__law_signs (aCons (eV 0) (aCons (eB gAdd (eC (.int 1)) (eCall m__law_draw (aCons (eV 0) (aCons (eC (.int 6)) aNil)))) aNil))) aNil))))) (dPar 4 5 (eB gAdd (eV 4) (eC (.int 1))) (eB gAdd (eV 5) (eC (.int 30))))) (dSeq (dSet 11 (eNew (eLst (aCons (eC (.str [116, 97, 103])) (aCons (eCall m__law_name (aCons (eV 0) aNil)) (aCons (eCall m__law_worths (aCons (eV 0) aNil)) (aCons (eNew (eLst aNil)) aNil))))))) (dSeq (dAppR (eB gIx (eV 9) (eC (.int 3))) (eV 11)) (dSeq (dSet 5 (eB gAdd (eB gAdd (eB gAdd (eV 5) (eB gMul (eC (.int 2)) (eF gLen (aCons (eB gIx (eV 11) (eC (.int 1))) aNil)))) (eC (.int 5))) (eF gSum (aCons (eLc (iE (eB gIx (eV 11) (eC (.int 2)))) (gTp [(gNm 13), (gNm 14)]) fYes (eB gAdd (eB gAdd (eF gLen (aCons (eV 13) aNil)) (eC (.int 4))) (eB gMul (eC (.int 6)) (eF gLen (aCons (eV 14) aNil)))) [13, 14]) aNil)))) (dSeq (dSet 12 (eRpl (eCall m__law_signs (aCons (eV 0) (aCons (eCall m__law_draw (aCons (eV 0) (aCons (eC (.int 9)) aNil))) aNil))) [60, 47, 115, 99, 114, 105, 112, 116, 62] [])) (dSeq (dIf (fB (eB gNe (eB gIx (eV 11) (eC (.int 1))) (eC (.str [115, 99, 114, 105, 112, 116])))) (dApp 3 (eFrz (eLst (aCons (eV 11) (aCons (eB gAdd (eV 10) (eC (.int 1))) aNil))))) (dIf (fAnd (fB (eB gNe (eV 12) (eC (.str [])))) (fB (eB gLt (eV 10) (eC (.int 17))))) (dAppR (eB gIx (eV 11) (eC (.int 3))) (eFrz (eLst (aCons (eC (.str [116, 101, 120, 116])) (aCons (eV 12) aNil))))) dNil)) (dPar 4 5 (eB gAdd (eB gAdd (eV 4) (eC (.int 1))) (eF gLen (aCons (eB gIx (eV 11) (eC (.int 3))) aNil))) (eB gAdd (eV 5) (eC (.int 9)))))))))))))) (dRet (eFrz (eCall (m__law_node 22) (aCons (eV 2) aNil)))))))))
noncomputable def m__law_grown : Mir := mOf 15 b__law_grown
theorem ss__law_grown {g : GG} (E : Ev g) : SST ⟨g, ["bag", "most", "page", "tags", "many", "size", "style", "k", "last", "tag", "deep", "made", "code", "name", "value"], defScope s__law_grown, 23, fun _ => true⟩ (defBody s__law_grown) b__law_grown :=
  (sst_cons (s1t_of (s1_set (i := 2) (he := (se_new (se_lst (sa_cons (se_str (l := [116, 97, 103])) (sa_cons (se_str (l := [112, 97, 103, 101])) (sa_cons (se_tup sa_nil) (sa_cons (se_new (se_lst sa_nil)) sa_nil))))))))) (sst_cons (s1t_of (s1_set (i := 3) (he := (se_lst (sa_cons (se_frz (se_lst (sa_cons (se_var (i := 2)) (sa_cons se_int sa_nil)))) sa_nil))))) (sst_cons (s1t_of (s1_asgC (se_tup (sa_cons se_int (sa_cons se_int sa_nil))) (sg_tup (sgs_cons (sg_name (i := 4)) (sgs_cons (sg_name (i := 5)) sgs_nil))))) (sst_cons (s1t_of (s1_set (i := 6) (he := (se_call (at__law_draw E) (sa_cons (se_var (i := 0)) (sa_cons se_int sa_nil)) (alen_cons (alen_cons alen_nil)) (hj := by (dsimp only [F.G.blk]; omega)))))) (sst_cons (s1t_for (si_range1 E.b_range (sa_cons (se_var (i := 1)) sa_nil)) (sg_name (i := 7)) (sst_cons (s1t_of (s1_set (i := 8) (he := (se_sub (se_len E.b_len (sa_cons (se_var (i := 3)) sa_nil)) se_int)))) (sst_cons (s1t_of (s1_asg (se_ix (se_var (i := 3)) (se_ix (se_lst (sa_cons (se_call (at__law_draw E) (sa_cons (se_var (i := 0)) (sa_cons (se_add (se_var (i := 8)) se_int) sa_nil)) (alen_cons (alen_cons alen_nil)) (hj := by (dsimp only [F.G.blk]; omega))) (sa_cons (se_var (i := 8)) (sa_cons se_int (sa_cons (se_max2 E.b_max (sa_cons se_int (sa_cons (se_sub (se_var (i := 8)) (se_call (at__law_draw E) (sa_cons (se_var (i := 0)) (sa_cons se_int sa_nil)) (alen_cons (alen_cons alen_nil)) (hj := by (dsimp only [F.G.blk]; omega)))) sa_nil))) sa_nil))))) (se_var (i := 6)))) (sg_lst (sgs_cons (sg_name (i := 9)) (sgs_cons (sg_name (i := 10)) sgs_nil))))) (sst_cons (s1t_of (s1_if (st_w (sw_or (st_cmp (fun _ _ => oR_gt) oS_ord (se_var (i := 4)) se_int) (sw_or (st_cmp (fun _ _ => oR_gt) oS_ord (se_var (i := 5)) se_int) (sw_or1 (st_cmp (fun _ _ => oR_gt) oS_ord (se_var (i := 10)) se_int))))) (ss_one (s1_ret (se_frz (se_call (at__law_node E 22) (sa_cons (se_var (i := 2)) sa_nil) (alen_cons alen_nil) (hj := by (dsimp only [F.G.blk]; omega)))) nb_frz)) ss_nil)) (sst_one (s1t_if (st_w (sw_and (st_cmp (fun _ c => oR_eq c) oS_eq (se_call (at__law_draw E) (sa_cons (se_var (i := 0)) (sa_cons se_int sa_nil)) (alen_cons (alen_cons alen_nil)) (hj := by (dsimp only [F.G.blk]; omega))) se_int) (sw_and1 (st_w (sw_or (st_cmp (fun _ c => oR_eq c) oS_eqNl (se_ix (se_var (i := 9)) se_int) (se_lst sa_nil)) (sw_or1 (st_cmp (fun _ c => oR_ne c) oS_eq (se_ix (se_ix (se_ix (se_var (i := 9)) se_int) (se_neg se_int)) se_int) (se_str (l := [116, 101, 120, 116]))))))))) (sst_of (ss_cons (s1_appR (se_ix (se_var (i := 9)) se_int) (se_frz (se_lst (sa_cons (se_str (l := [116, 101, 120, 116])) (sa_cons (se_call (at__law_signs E) (sa_cons (se_var (i := 0)) (sa_cons (se_add se_int (se_call (at__law_draw E) (sa_cons (se_var (i := 0)) (sa_cons se_int sa_nil)) (alen_cons (alen_cons alen_nil)) (hj := by (dsimp only [F.G.blk]; omega)))) sa_nil)) (alen_cons (alen_cons alen_nil)) (hj := by (dsimp only [F.G.blk]; omega))) sa_nil))))) (ss_one (s1_par (i := 4) (j := 5) (ha := (se_add (se_var (i := 4)) se_int)) (hb := (se_add (se_var (i := 5)) se_int)))))) (sst_cons (s1t_of (s1_set (i := 11) (he := (se_new (se_lst (sa_cons (se_str (l := [116, 97, 103])) (sa_cons (se_call (at__law_name E) (sa_cons (se_var (i := 0)) sa_nil) (alen_cons alen_nil) (hj := by (dsimp only [F.G.blk]; omega))) (sa_cons (se_call (at__law_worths E) (sa_cons (se_var (i := 0)) sa_nil) (alen_cons alen_nil) (hj := by (dsimp only [F.G.blk]; omega))) (sa_cons (se_new (se_lst sa_nil)) sa_nil))))))))) (sst_cons (s1t_of (s1_appR (se_ix (se_var (i := 9)) se_int) (se_var (i := 11)))) (sst_cons (s1t_of (s1_set (i := 5) (he := (se_add (se_add (se_add (se_var (i := 5)) (se_mul se_int (se_len E.b_len (sa_cons (se_ix (se_var (i := 11)) se_int) sa_nil)))) se_int) (se_sum E.b_sum (sa_cons (se_lc (own := [("name", 13), ("value", 14)]) (hi := (si_e (se_ix (se_var (i := 11)) se_int))) (hg := (sg_tup (sgs_cons (sg_name (i := 13)) (sgs_cons (sg_name (i := 14)) sgs_nil)))) (ht := sts_nil) (he := (se_add (se_add (se_len E.b_len (sa_cons (se_var (i := 13)) sa_nil)) se_int) (se_mul se_int (se_len E.b_len (sa_cons (se_var (i := 14)) sa_nil)))))) sa_nil)))))) (sst_cons (s1t_set (i := 12) (he := (set_rpl (y := [60, 47, 115, 99, 114, 105, 112, 116, 62]) (z := []) (se_call (at__law_signs E) (sa_cons (se_var (i := 0)) (sa_cons (se_call (at__law_draw E) (sa_cons (se_var (i := 0)) (sa_cons se_int sa_nil)) (alen_cons (alen_cons alen_nil)) (hj := by (dsimp only [F.G.blk]; omega))) sa_nil)) (alen_cons (alen_cons alen_nil)) (hj := by (dsimp only [F.G.blk]; omega)))))) (sst_of (ss_cons (s1_if (st_cmp (fun _ c => oR_ne c) oS_eq (se_ix (se_var (i := 11)) se_int) (se_str (l := [115, 99, 114, 105, 112, 116]))) (ss_one (s1_app (i := 3) (he := (se_frz (se_lst (sa_cons (se_var (i := 11)) (sa_cons (se_add (se_var (i := 10)) se_int) sa_nil))))))) (ss_one (s1_if (st_w (sw_and (st_cmp (fun _ c => oR_ne c) oS_eq (se_var (i := 12)) (se_str (l := []))) (sw_and1 (st_cmp (fun _ _ => oR_lt) oS_ord (se_var (i := 10)) se_int)))) (ss_one (s1_appR (se_ix (se_var (i := 11)) se_int) (se_frz (se_lst (sa_cons (se_str (l := [116, 101, 120, 116])) (sa_cons (se_var (i := 12)) sa_nil)))))) ss_nil))) (ss_one (s1_par (i := 4) (j := 5) (ha := (se_add (se_add (se_var (i := 4)) se_int) (se_len E.b_len (sa_cons (se_ix (se_var (i := 11)) se_int) sa_nil)))) (hb := (se_add (se_var (i := 5)) se_int)))))))))))))))) (sst_of (ss_one (s1_ret (se_frz (se_call (at__law_node E 22) (sa_cons (se_var (i := 2)) sa_nil) (alen_cons alen_nil) (hj := by (dsimp only [F.G.blk]; omega)))) nb_frz))))))))
theorem at__law_grown {g : GG} (E : Ev g) : FnAt g 24 "_law_grown" ["bag", "most"] m__law_grown := fnAtT E.f__law_grown sc__law_grown (ss__law_grown E)
/-! _law_sound -/
abbrev s__law_sound : Stmt := topS 17
theorem sc__law_sound : FnScope ["node", "names", "beside", "name", "value", "child", "k"] ["node"] (defScope s__law_sound) := ⟨rfl, rfl, rfl, by decide +kernel, rfl, by decide +kernel, by decide +kernel⟩
noncomputable def b__law_sound (m : Mir) : DS := (dSeq (dIf (fB (eB gEq (eB gIx (eV 0) (eC (.int 0))) (eC (.str [116, 101, 120, 116])))) (dRet (eFrz (eB gNe (eB gIx (eV 0) (eC (.int 1))) (eC (.str []))))) dNil) (dSeq (dSet 1 (eLc (iE (eB gIx (eV 0) (eC (.int 2)))) (gTp [(gNm 3), (gNm 4)]) fYes (eV 3) [3, 4])) (dFrz 1 (dSeq (dIf (fOr (fB (eB gNe (eLc (iE (eV 1)) (gNm 3) (fB (eB gGt (eLCnt (eV 1) (eV 3)) (eC (.int 1)))) (eV 3) [3]) (eLst aNil))) (fNot (fB (eF gAllB (aCons (eLc (iE (eB gIx (eV 0) (eC (.int 3)))) (gNm 5) fYes (eCall m (aCons (eV 5) aNil)) [5]) aNil))))) (dRet (eFrz (eC (.bl false)))) dNil) (dSeq (dSet 2 (eLc (iR2 (aCons (eC (.int 1)) (aCons (eF gLen (aCons (eB gIx (eV 0) (eC (.int 3))) aNil)) aNil))) (gNm 6) (fAnd (fB (eB gEq (eB gIx (eB gIx (eB gIx (eV 0) (eC (.int 3))) (eV 6)) (eC (.int 0))) (eC (.str [116, 101, 120, 116])))) (fB (eB gEq (eB gIx (eB gIx (eB gIx (eV 0) (eC (.int 3))) (eB (gI sub') (eV 6) (eC (.int 1)))) (eC (.int 0))) (eC (.str [116, 101, 120, 116]))))) (eV 6) [6])) (dFrz 2 (dSeq (dIf (fAnd (fB (eB gEq (eB gIx (eV 0) (eC (.int 1))) (eC (.str [115, 99, 114, 105, 112, 116])))) (fB (eB gGt (eF gLen (aCons (eB gIx (eV 0) (eC (.int 3))) aNil)) (eC (.int 0))))) (dRet (eFrz (eAnd (eB gEq (eF gLen (aCons (eB gIx (eV 0) (eC (.int 3))) aNil)) (eC (.int 1))) (eAnd (eB gEq (eB gIx (eB gIx (eB gIx (eV 0) (eC (.int 3))) (eC (.int 0))) (eC (.int 0))) (eC (.str [116, 101, 120, 116]))) (eB gNi (eC (.str [60, 47, 115, 99, 114, 105, 112, 116, 62])) (eB gIx (eB gIx (eB gIx (eV 0) (eC (.int 3))) (eC (.int 0))) (eC (.int 1)))))))) dNil) (dRet (eFrz (eB gEq (eV 2) (eLst aNil)))))))))))
noncomputable def m__law_sound : Nat → Mir
  | 0 => mOf 7 dNever
  | n + 1 => mOf 7 (b__law_sound (m__law_sound n))
theorem at__law_sound {g : GG} (E : Ev g) : ∀ n : Nat, FnAt g (n + 1) "_law_sound" ["node"] (m__law_sound n)
  | 0 => (fnAt E.f__law_sound sc__law_sound (k := 0) ss_never).mono (by omega)
  | n + 1 => by
    have A := at__law_sound E n
    exact fnAt E.f__law_sound sc__law_sound (k := n + 1) (ss_cons (s1_if (st_cmp (fun _ c => oR_eq c) oS_eq (se_ix (se_var (i := 0)) se_int) (se_str (l := [116, 101, 120, 116]))) (ss_one (s1_ret (se_frz (se_cmp (fun _ c => oR_ne c) oS_eq (se_ix (se_var (i := 0)) se_int) (se_str (l := [])))) nb_frz)) ss_nil) (ss_cons (s1_setLcC (i := 1) (se_lc (own := [("name", 3), ("value", 4)]) (hi := (si_e (se_ix (se_var (i := 0)) se_int))) (hg := (sg_tup (sgs_cons (sg_name (i := 3)) (sgs_cons (sg_name (i := 4)) sgs_nil)))) (ht := sts_nil) (he := (se_var (i := 3))))) (ss_frz 1 (ss_cons (s1_if (st_w (sw_or (st_cmp (fun _ c => oR_ne c) oS_eq (se_lc (own := [("name", 3)]) (hi := (si_e (se_var (i := 1)))) (hg := (sg_name (i := 3))) (ht := (sts_one (st_cmp (fun _ _ => oR_gt) oS_ord (se_lcnt (se_var (i := 1)) (se_var (i := 3))) se_int))) (he := (se_var (i := 3)))) (se_lst sa_nil)) (sw_or1 (st_not (st_val (se_all E.b_all (sa_cons (se_lc (own := [("child", 5)]) (hi := (si_e (se_ix (se_var (i := 0)) se_int))) (hg := (sg_name (i := 5))) (ht := sts_nil) (he := (se_call A (sa_cons (se_var (i := 5)) sa_nil) (alen_cons alen_nil) (hj := by (dsimp only [F.G.blk]; omega))))) sa_nil))))))) (ss_one (s1_ret (se_frz se_bl) nb_frz)) ss_nil) (ss_cons (s1_setLc (i := 2) (own := [("k", 6)]) (hi := (si_range2 E.b_range (sa_cons se_int (sa_cons (se_len E.b_len (sa_cons (se_ix (se_var (i := 0)) se_int) sa_nil)) sa_nil)))) (hg := (sg_name (i := 6))) (ht := (sts_one (st_w (sw_and (st_cmp (fun _ c => oR_eq c) oS_eq (se_ix (se_ix (se_ix (se_var (i := 0)) se_int) (se_var (i := 6))) se_int) (se_str (l := [116, 101, 120, 116]))) (sw_and1 (st_cmp (fun _ c => oR_eq c) oS_eq (se_ix (se_ix (se_ix (se_var (i := 0)) se_int) (se_sub (se_var (i := 6)) se_int)) se_int) (se_str (l := [116, 101, 120, 116])))))))) (he := (se_var (i := 6)))) (ss_frz 2 (ss_cons (s1_if (st_w (sw_and (st_cmp (fun _ c => oR_eq c) oS_eq (se_ix (se_var (i := 0)) se_int) (se_str (l := [115, 99, 114, 105, 112, 116]))) (sw_and1 (st_cmp (fun _ _ => oR_gt) oS_ord (se_len E.b_len (sa_cons (se_ix (se_var (i := 0)) se_int) sa_nil)) se_int)))) (ss_one (s1_ret (se_frz (se_and (se_cmp (fun _ c => oR_eq c) oS_eq (se_len E.b_len (sa_cons (se_ix (se_var (i := 0)) se_int) sa_nil)) se_int) (se_and (se_cmp (fun _ c => oR_eq c) oS_eq (se_ix (se_ix (se_ix (se_var (i := 0)) se_int) se_int) se_int) (se_str (l := [116, 101, 120, 116]))) (se_one (se_cmp (fun _ c => oR_ni c) oS_in (se_str (l := [60, 47, 115, 99, 114, 105, 112, 116, 62])) (se_ix (se_ix (se_ix (se_var (i := 0)) se_int) se_int) se_int)))))) nb_frz)) ss_nil) (ss_one (s1_ret (se_frz (se_cmp (fun _ c => oR_eq c) oS_eq (se_var (i := 2)) (se_lst sa_nil))) nb_frz)))))))))
/-! _law_many -/
abbrev s__law_many : Stmt := topS 18
theorem sc__law_many : FnScope ["node", "child"] ["node"] (defScope s__law_many) := ⟨rfl, rfl, rfl, by decide +kernel, rfl, by decide +kernel, by decide +kernel⟩
noncomputable def b__law_many (m : Mir) : DS := (dRet (eFrz (eIf (fB (eB gEq (eB gIx (eV 0) (eC (.int 0))) (eC (.str [116, 97, 103])))) (eB gAdd (eC (.int 1)) (eF gSum (aCons (eLc (iE (eB gIx (eV 0) (eC (.int 3)))) (gNm 1) fYes (eCall m (aCons (eV 1) aNil)) [1]) aNil))) (eC (.int 1)))))
noncomputable def m__law_many : Nat → Mir
  | 0 => mOf 2 dNever
  | n + 1 => mOf 2 (b__law_many (m__law_many n))
theorem at__law_many {g : GG} (E : Ev g) : ∀ n : Nat, FnAt g (n + 1) "_law_many" ["node"] (m__law_many n)
  | 0 => (fnAt E.f__law_many sc__law_many (k := 0) ss_never).mono (by omega)
  | n + 1 => by
    have A := at__law_many E n
    exact fnAt E.f__law_many sc__law_many (k := n + 1) (ss_one (s1_ret (se_frz (se_if (st_cmp (fun _ c => oR_eq c) oS_eq (se_ix (se_var (i := 0)) se_int) (se_str (l := [116, 97, 103]))) (se_add se_int (se_sum E.b_sum (sa_cons (se_lc (own := [("child", 1)]) (hi := (si_e (se_ix (se_var (i := 0)) se_int))) (hg := (sg_name (i := 1))) (ht := sts_nil) (he := (se_call A (sa_cons (se_var (i := 1)) sa_nil) (alen_cons alen_nil) (hj := by (dsimp only [F.G.blk]; omega))))) sa_nil))) se_int)) nb_frz))
/-! _law_odd -/
abbrev s__law_odd : Stmt := topS 19
theorem sc__law_odd : FnScope ["bag", "node", "way", "at", "some", "kind", "name", "worths", "children", "odd", "one", "code"] ["bag", "node"] (defScope s__law_odd) := ⟨rfl, rfl, rfl, by decide +kernel, rfl, by decide +kernel, by decide +kernel⟩
noncomputable def b__law_odd : DS := (dSeq (dSet 2 (eCall m__law_draw (aCons (eV 0) (aCons (eC (.int 12)) aNil)))) (dSeq (dIf (fB (eB gEq (eB gIx (eV 1) (eC (.int 0))) (eC (.str [116, 101, 120, 116])))) (dSeq (dSet 3 (eCall m__law_draw (aCons (eV 0) (aCons (eB gAdd (eF gLen (aCons (eB gIx (eV 1) (eC (.int 1))) aNil)) (eC (.int 1))) aNil)))) (dSeq (dSet 4 (eFrz (eLst (aCons (eFrz (eLst (aCons (eTup (aCons (eC (.str [116, 101, 120, 116])) (aCons (eC (.str [])) aNil))) aNil))) (aCons (eFrz (eLst (aCons (eV 1) (aCons (eTup (aCons (eC (.str [116, 101, 120, 116])) (aCons (eC (.str [120])) aNil))) aNil)))) (aCons (eFrz (eLst (aCons (eTup (aCons (eC (.str [116, 101, 120, 116])) (aCons (eFrz (eSl (eB gIx (eV 1) (eC (.int 1))) oN (oI (eV 3)))) aNil))) (aCons (eTup (aCons (eC (.str [116, 101, 120, 116])) (aCons (eFrz (eSl (eB gIx (eV 1) (eC (.int 1))) (oI (eV 3)) oN)) aNil))) aNil)))) aNil)))))) (dRet (eFrz (eB gIx (eB gAdd (eV 4) (eLst (aCons (eFrz (eLst (aCons (eTup (aCons (eC (.str [116, 101, 120, 116])) (aCons (eC (.str [97, 60, 47, 115, 99, 114, 105, 112, 116, 62, 98])) aNil))) aNil))) (aCons (eFrz (eLst (aCons (eV 1) (aCons (eTup (aCons (eC (.str [116, 97, 103])) (aCons (eC (.str [98])) (aCons (eTup aNil) (aCons (eTup aNil) aNil))))) aNil)))) (aCons (eFrz (eLst aNil)) aNil))))) (eB (gI mod') (eV 2) (eC (.int 6)))))))) dNil) (dSeq (dAsg (eV 1) (gTp [(gNm 5), (gNm 6), (gNm 7), (gNm 8)])) (dSeq (dSet 9 (eTup (aCons (eC (.str [116, 97, 103])) (aCons (eB gIx (eLst (aCons (eC (.str [115, 99, 114, 105, 112, 116])) (aCons (eC (.str [112, 97, 103, 101])) (aCons (eC (.str [112])) aNil)))) (eCall m__law_draw (aCons (eV 0) (aCons (eC (.int 3)) aNil)))) (aCons (eV 7) (aCons (eV 8) aNil)))))) (dSeq (dIf (fAnd (fB (eB gLt (eV 2) (eC (.int 3)))) (fB (eB gNe (eV 7) (eTup aNil)))) (dSeq (dSet 10 (eB gIx (eV 7) (eCall m__law_draw (aCons (eV 0) (aCons (eF gLen (aCons (eV 7) aNil)) aNil))))) (dSet 9 (eTup (aCons (eV 5) (aCons (eV 6) (aCons (eB gIx (eLst (aCons (eB gAdd (eV 7) (eTup (aCons (eV 10) aNil))) (aCons (eB gAdd (eTup (aCons (eV 10) aNil)) (eV 7)) (aCons (eB gAdd (eV 7) (eTup (aCons (eTup (aCons (eB gIx (eV 10) (eC (.int 0))) (aCons (eC (.str [111, 116, 104, 101, 114])) aNil))) aNil))) aNil)))) (eV 2)) (aCons (eV 8) aNil))))))) dNil) (dSeq (dIf (fB (eCh gLt gLt (eC (.int 2)) (eV 2) (eC (.int 6)))) (dSet 9 (eTup (aCons (eV 5) (aCons (eV 6) (aCons (eV 7) (aCons (eB gIx (eLst (aCons (eB gAdd (eTup (aCons (eTup (aCons (eC (.str [116, 101, 120, 116])) (aCons (eC (.str [120])) aNil))) aNil)) (eV 8)) (aCons (eB gAdd (eV 8) (eTup (aCons (eTup (aCons (eC (.str [116, 101, 120, 116])) (aCons (eC (.str [])) aNil))) aNil))) (aCons (eFrz (eSl (eV 8) oN (oI (eC (.int 1))))) aNil)))) (eB (gI sub') (eV 2) (eC (.int 3)))) aNil)))))) dNil) (dSeq (dIf (fB (eB gEq (eV 2) (eC (.int 6)))) (dSeq (dSet 11 (eB gIx (eLst (aCons (eC (.str [60, 47, 115, 99, 114, 105, 112, 116, 62])) (aCons (eC (.str [60, 47, 115, 99, 114, 105, 112])) (aCons (eC (.str [120, 60, 47, 115, 99, 114, 105, 112, 116, 62, 121])) (aCons (eC (.str [60, 47, 115, 99, 114, 105, 112, 116, 32, 62])) aNil))))) (eCall m__law_draw (aCons (eV 0) (aCons (eC (.int 4)) aNil))))) (dSet 9 (eTup (aCons (eC (.str [116, 97, 103])) (aCons (eC (.str [115, 99, 114, 105, 112, 116])) (aCons (eV 7) (aCons (eTup (aCons (eTup (aCons (eC (.str [116, 101, 120, 116])) (aCons (eV 11) aNil))) aNil)) aNil))))))) dNil) (dSeq (dIf (fB (eB gEq (eV 2) (eC (.int 7)))) (dSet 9 (eTup (aCons (eC (.str [116, 97, 103])) (aCons (eC (.str [115, 99, 114, 105, 112, 116])) (aCons (eV 7) (aCons (eTup (aCons (eTup (aCons (eC (.str [116, 101, 120, 116])) (aCons (eC (.str [120])) aNil))) (aCons (eTup (aCons (eC (.str [116, 97, 103])) (aCons (eC (.str [98])) (aCons (eTup aNil) (aCons (eTup aNil) aNil))))) aNil))) aNil)))))) dNil) (dRet (eFrz (eSl (eLst (aCons (eV 9) (aCons (eV 1) aNil))) oN (oI (eB gAdd (eC (.int 1)) (eF gInt (aCons (eAnd (eB gEq (eV 2) (eC (.int 8))) (eB gLt (eCall (m__law_many 30) (aCons (eV 1) aNil)) (eC (.int 4)))) aNil)))))))))))))))
noncomputable def m__law_odd : Mir := mOf 12 b__law_odd
theorem ss__law_odd {g : GG} (E : Ev g) : SS ⟨g, ["bag", "node", "way", "at", "some", "kind", "name", "worths", "children", "odd", "one", "code"], defScope s__law_odd, 31, fun _ => true⟩ (defBody s__law_odd) b__law_odd :=
  (ss_cons (s1_set (i := 2) (he := (se_call (at__law_draw E) (sa_cons (se_var (i := 0)) (sa_cons se_int sa_nil)) (alen_cons (alen_cons alen_nil)) (hj := by (dsimp only [F.G.blk]; omega))))) (ss_cons (s1_if (st_cmp (fun _ c => oR_eq c) oS_eq (se_ix (se_var (i := 1)) se_int) (se_str (l := [116, 101, 120, 116]))) (ss_cons (s1_set (i := 3) (he := (se_call (at__law_draw E) (sa_cons (se_var (i := 0)) (sa_cons (se_add (se_len E.b_len (sa_cons (se_ix (se_var (i := 1)) se_int) sa_nil)) se_int) sa_nil)) (alen_cons (alen_cons alen_nil)) (hj := by (dsimp only [F.G.blk]; omega))))) (ss_cons (s1_set (i := 4) (he := (se_frz (se_lst (sa_cons (se_frz (se_lst (sa_cons (se_tup (sa_cons (se_str (l := [116, 101, 120, 116])) (sa_cons (se_str (l := [])) sa_nil))) sa_nil))) (sa_cons (se_frz (se_lst (sa_cons (se_var (i := 1)) (sa_cons (se_tup (sa_cons (se_str (l := [116, 101, 120, 116])) (sa_cons (se_str (l := [120])) sa_nil))) sa_nil)))) (sa_cons (se_frz (se_lst (sa_cons (se_tup (sa_cons (se_str (l := [116, 101, 120, 116])) (sa_cons (se_frz (se_slice (se_ix (se_var (i := 1)) se_int) so_none (so_some (se_var (i := 3))))) sa_nil))) (sa_cons (se_tup (sa_cons (se_str (l := [116, 101, 120, 116])) (sa_cons (se_frz (se_slice (se_ix (se_var (i := 1)) se_int) (so_some (se_var (i := 3))) so_none)) sa_nil))) sa_nil)))) sa_nil))))))) (ss_one (s1_ret (se_frz (se_ix (se_add (se_var (i := 4)) (se_lst (sa_cons (se_frz (se_lst (sa_cons (se_tup (sa_cons (se_str (l := [116, 101, 120, 116])) (sa_cons (se_str (l := [97, 60, 47, 115, 99, 114, 105, 112, 116, 62, 98])) sa_nil))) sa_nil))) (sa_cons (se_frz (se_lst (sa_cons (se_var (i := 1)) (sa_cons (se_tup (sa_cons (se_str (l := [116, 97, 103])) (sa_cons (se_str (l := [98])) (sa_cons (se_tup sa_nil) (sa_cons (se_tup sa_nil) sa_nil))))) sa_nil)))) (sa_cons (se_frz (se_lst sa_nil)) sa_nil))))) (se_mod (se_var (i := 2)) se_int))) nb_frz)))) ss_nil) (ss_cons (s1_asg (se_var (i := 1)) (sg_tup (sgs_cons (sg_name (i := 5)) (sgs_cons (sg_name (i := 6)) (sgs_cons (sg_name (i := 7)) (sgs_cons (sg_name (i := 8)) sgs_nil)))))) (ss_cons (s1_set (i := 9) (he := (se_tup (sa_cons (se_str (l := [116, 97, 103])) (sa_cons (se_ix (se_lst (sa_cons (se_str (l := [115, 99, 114, 105, 112, 116])) (sa_cons (se_str (l := [112, 97, 103, 101])) (sa_cons (se_str (l := [112])) sa_nil)))) (se_call (at__law_draw E) (sa_cons (se_var (i := 0)) (sa_cons se_int sa_nil)) (alen_cons (alen_cons alen_nil)) (hj := by (dsimp only [F.G.blk]; omega)))) (sa_cons (se_var (i := 7)) (sa_cons (se_var (i := 8)) sa_nil))))))) (ss_cons (s1_if (st_w (sw_and (st_cmp (fun _ _ => oR_lt) oS_ord (se_var (i := 2)) se_int) (sw_and1 (st_cmp (fun _ c => oR_ne c) oS_eq (se_var (i := 7)) (se_tup sa_nil))))) (ss_cons (s1_set (i := 10) (he := (se_ix (se_var (i := 7)) (se_call (at__law_draw E) (sa_cons (se_var (i := 0)) (sa_cons (se_len E.b_len (sa_cons (se_var (i := 7)) sa_nil)) sa_nil)) (alen_cons (alen_cons alen_nil)) (hj := by (dsimp only [F.G.blk]; omega)))))) (ss_one (s1_set (i := 9) (he := (se_tup (sa_cons (se_var (i := 5)) (sa_cons (se_var (i := 6)) (sa_cons (se_ix (se_lst (sa_cons (se_add (se_var (i := 7)) (se_tup (sa_cons (se_var (i := 10)) sa_nil))) (sa_cons (se_add (se_tup (sa_cons (se_var (i := 10)) sa_nil)) (se_var (i := 7))) (sa_cons (se_add (se_var (i := 7)) (se_tup (sa_cons (se_tup (sa_cons (se_ix (se_var (i := 10)) se_int) (sa_cons (se_str (l := [111, 116, 104, 101, 114])) sa_nil))) sa_nil))) sa_nil)))) (se_var (i := 2))) (sa_cons (se_var (i := 8)) sa_nil))))))))) ss_nil) (ss_cons (s1_if (st_chain (fun _ _ => oR_lt) oS_ord (fun _ _ => oR_lt) oS_ord se_int (se_var (i := 2)) se_int) (ss_one (s1_set (i := 9) (he := (se_tup (sa_cons (se_var (i := 5)) (sa_cons (se_var (i := 6)) (sa_cons (se_var (i := 7)) (sa_cons (se_ix (se_lst (sa_cons (se_add (se_tup (sa_cons (se_tup (sa_cons (se_str (l := [116, 101, 120, 116])) (sa_cons (se_str (l := [120])) sa_nil))) sa_nil)) (se_var (i := 8))) (sa_cons (se_add (se_var (i := 8)) (se_tup (sa_cons (se_tup (sa_cons (se_str (l := [116, 101, 120, 116])) (sa_cons (se_str (l := [])) sa_nil))) sa_nil))) (sa_cons (se_frz (se_slice (se_var (i := 8)) so_none (so_some se_int))) sa_nil)))) (se_sub (se_var (i := 2)) se_int)) sa_nil)))))))) ss_nil) (ss_cons (s1_if (st_cmp (fun _ c => oR_eq c) oS_eq (se_var (i := 2)) se_int) (ss_cons (s1_set (i := 11) (he := (se_ix (se_lst (sa_cons (se_str (l := [60, 47, 115, 99, 114, 105, 112, 116, 62])) (sa_cons (se_str (l := [60, 47, 115, 99, 114, 105, 112])) (sa_cons (se_str (l := [120, 60, 47, 115, 99, 114, 105, 112, 116, 62, 121])) (sa_cons (se_str (l := [60, 47, 115, 99, 114, 105, 112, 116, 32, 62])) sa_nil))))) (se_call (at__law_draw E) (sa_cons (se_var (i := 0)) (sa_cons se_int sa_nil)) (alen_cons (alen_cons alen_nil)) (hj := by (dsimp only [F.G.blk]; omega)))))) (ss_one (s1_set (i := 9) (he := (se_tup (sa_cons (se_str (l := [116, 97, 103])) (sa_cons (se_str (l := [115, 99, 114, 105, 112, 116])) (sa_cons (se_var (i := 7)) (sa_cons (se_tup (sa_cons (se_tup (sa_cons (se_str (l := [116, 101, 120, 116])) (sa_cons (se_var (i := 11)) sa_nil))) sa_nil)) sa_nil))))))))) ss_nil) (ss_cons (s1_if (st_cmp (fun _ c => oR_eq c) oS_eq (se_var (i := 2)) se_int) (ss_one (s1_set (i := 9) (he := (se_tup (sa_cons (se_str (l := [116, 97, 103])) (sa_cons (se_str (l := [115, 99, 114, 105, 112, 116])) (sa_cons (se_var (i := 7)) (sa_cons (se_tup (sa_cons (se_tup (sa_cons (se_str (l := [116, 101, 120, 116])) (sa_cons (se_str (l := [120])) sa_nil))) (sa_cons (se_tup (sa_cons (se_str (l := [116, 97, 103])) (sa_cons (se_str (l := [98])) (sa_cons (se_tup sa_nil) (sa_cons (se_tup sa_nil) sa_nil))))) sa_nil))) sa_nil)))))))) ss_nil) (ss_one (s1_ret (se_frz (se_slice (se_lst (sa_cons (se_var (i := 9)) (sa_cons (se_var (i := 1)) sa_nil))) so_none (so_some (se_add se_int (se_intF E.b_int (sa_cons (se_and (se_cmp (fun _ c => oR_eq c) oS_eq (se_var (i := 2)) se_int) (se_one (se_cmp (fun _ _ => oR_lt) oS_ord (se_call (at__law_many E 30) (sa_cons (se_var (i := 1)) sa_nil) (alen_cons alen_nil) (hj := by (dsimp only [F.G.blk]; omega))) se_int))) sa_nil)))))) nb_frz))))))))))
theorem at__law_odd {g : GG} (E : Ev g) : FnAt g 32 "_law_odd" ["bag", "node"] m__law_odd := fnAt E.f__law_odd sc__law_odd (ss__law_odd E)
/-! _law_put_odd -/
abbrev s__law_put_odd : Stmt := topS 20
theorem sc__law_put_odd : FnScope ["bag", "node", "at", "found", "child"] ["bag", "node", "at"] (defScope s__law_put_odd) := ⟨rfl, rfl, rfl, by decide +kernel, rfl, by decide +kernel, by decide +kernel⟩
noncomputable def b__law_put_odd (m : Mir) : DS := (dSeq (dPut (eV 2) (eC (.int 0)) (eB (gI sub') (eB gIx (eV 2) (eC (.int 0))) (eC (.int 1)))) (dSeq (dIf (fB (eB gEq (eB gIx (eV 2) (eC (.int 0))) (eU gNeg (eC (.int 1))))) (dRet (eFrz (eCall m__law_odd (aCons (eV 0) (aCons (eV 1) aNil))))) dNil) (dSeq (dIf (fB (eB gEq (eB gIx (eV 1) (eC (.int 0))) (eC (.str [116, 101, 120, 116])))) (dRet (eFrz (eLst (aCons (eV 1) aNil)))) dNil) (dSeq (dSet 3 (eFrz (eLst aNil))) (dSeq (dFor (iE (eB gIx (eV 1) (eC (.int 3)))) (gNm 4) (dSet 3 (eFrz (eB gAdd (eV 3) (eCall m (aCons (eV 0) (aCons (eV 4) (aCons (eV 2) aNil)))))))) (dRet (eFrz (eLst (aCons (eTup (aCons (eB gIx (eV 1) (eC (.int 0))) (aCons (eB gIx (eV 1) (eC (.int 1))) (aCons (eB gIx (eV 1) (eC (.int 2))) (aCons (eF gTupOf (aCons (eV 3) aNil)) aNil))))) aNil)))))))))
noncomputable def m__law_put_odd : Nat → Mir
  | 0 => mOf 5 dNever
  | n + 1 => mOf 5 (b__law_put_odd (m__law_put_odd n))
theorem at__law_put_odd {g : GG} (E : Ev g) : ∀ n : Nat, FnAt g (n + 33) "_law_put_odd" ["bag", "node", "at"] (m__law_put_odd n)
  | 0 => (fnAt E.f__law_put_odd sc__law_put_odd (k := 0) ss_never).mono (by omega)
  | n + 1 => by
    have A := at__law_put_odd E n
    exact fnAt E.f__law_put_odd sc__law_put_odd (k := n + 33) (ss_cons (s1_put (se_var (i := 2)) se_int (se_sub (se_ix (se_var (i := 2)) se_int) se_int)) (ss_cons (s1_if (st_cmp (fun _ c => oR_eq c) oS_eq (se_ix (se_var (i := 2)) se_int) (se_neg se_int)) (ss_one (s1_ret (se_frz (se_call (at__law_odd E) (sa_cons (se_var (i := 0)) (sa_cons (se_var (i := 1)) sa_nil)) (alen_cons (alen_cons alen_nil)) (hj := by (dsimp only [F.G.blk]; omega)))) nb_frz)) ss_nil) (ss_cons (s1_if (st_cmp (fun _ c => oR_eq c) oS_eq (se_ix (se_var (i := 1)) se_int) (se_str (l := [116, 101, 120, 116]))) (ss_one (s1_ret (se_frz (se_lst (sa_cons (se_var (i := 1)) sa_nil))) nb_frz)) ss_nil) (ss_cons (s1_set (i := 3) (he := (se_frz (se_lst sa_nil)))) (ss_cons (s1_for (si_e (se_ix (se_var (i := 1)) se_int)) (sg_name (i := 4)) (ss_one (s1_set (i := 3) (he := (se_frz (se_add (se_var (i := 3)) (se_call A (sa_cons (se_var (i := 0)) (sa_cons (se_var (i := 4)) (sa_cons (se_var (i := 2)) sa_nil))) (alen_cons (alen_cons (alen_cons alen_nil))) (hj := by (dsimp only [F.G.blk]; omega))))))))) (ss_one (s1_ret (se_frz (se_lst (sa_cons (se_tup (sa_cons (se_ix (se_var (i := 1)) se_int) (sa_cons (se_ix (se_var (i := 1)) se_int) (sa_cons (se_ix (se_var (i := 1)) se_int) (sa_cons (se_tupF E.b_tuple (sa_cons (se_var (i := 3)) sa_nil)) sa_nil))))) sa_nil))) nb_frz)))))))
/-! law -/
abbrev s_law : Stmt := topS 21
theorem sc_law : FnScope ["script", "bag", "turn", "plant", "some", "k", "one", "due", "found"] ["script"] (defScope s_law) := ⟨rfl, rfl, rfl, by decide +kernel, rfl, by decide +kernel, by decide +kernel⟩
noncomputable def b_law : DS := (dSeq (dSet 1 (eNew (eCall m__law_bag (aCons (eV 0) aNil)))) (dSeq (dFor (iR1 (aCons (eC (.int 3)) aNil)) (gNm 2) (dSeq (dSet 3 (eCall m__law_grown (aCons (eV 1) (aCons (eCall m__law_most (aCons (eV 1) aNil)) aNil)))) (dSeq (dSet 4 (eFrz (eB gAdd (eLst (aCons (eV 3) (aCons (eTup (aCons (eC (.str [116, 97, 103])) (aCons (eC (.str [112, 97, 103, 101, 115])) (aCons (eTup aNil) (aCons (eB gIx (eV 3) (eC (.int 3))) aNil))))) (aCons (eTup (aCons (eC (.str [116, 97, 103])) (aCons (eC (.str [112, 97, 103, 101])) (aCons (eTup (aCons (eTup (aCons (eC (.str [105, 100])) (aCons (eC (.str [])) aNil))) aNil)) (aCons (eB gIx (eV 3) (eC (.int 3))) aNil))))) aNil)))) (eF gLstOf (aCons (eSl (eB gIx (eV 3) (eC (.int 3))) oN (oI (eC (.int 1)))) aNil))))) (dSeq (dFor (iR1 (aCons (eC (.int 8)) aNil)) (gNm 5) (dSet 4 (eFrz (eB gAdd (eV 4) (eCall (m__law_put_odd 30) (aCons (eV 1) (aCons (eV 3) (aCons (eNew (eLst (aCons (eCall m__law_draw (aCons (eV 1) (aCons (eCall (m__law_many 30) (aCons (eV 3) aNil)) aNil))) aNil))) aNil)))))))) (dFor (iE (eV 4)) (gNm 6) (dSeq (dSet 7 (eAnd (eB gEq (eB gIx (eV 6) (eC (.int 0))) (eC (.str [116, 97, 103]))) (eAnd (eB gEq (eSl (eV 6) (oI (eC (.int 1))) (oI (eC (.int 3)))) (eTup (aCons (eC (.str [112, 97, 103, 101])) (aCons (eTup aNil) aNil)))) (eCall (m__law_sound 30) (aCons (eV 6) aNil))))) (dFor (iE (eLst (aCons (eCall m_is_whole (aCons (eV 6) aNil)) (aCons (eCallK m_is_whole [0] aNil (aCons (eV 6) aNil)) aNil)))) (gNm 8) (dIf (fOr (fNot (fB (eIsi [.bl] (eV 8)))) (fB (eB gNe (eV 8) (eV 7)))) (dRet (eFrz (eC (.bl false)))) dNil)))))))) (dRet (eFrz (eB (gIsB false) (eCall m_is_whole (aCons (eTup (aCons (eC (.str [116, 97, 103])) (aCons (eC (.str [112, 97, 103, 101])) (aCons (eTup aNil) (aCons (eTup aNil) aNil))))) aNil)) (eC (.bl true)))))))
noncomputable def m_law : Mir := mOf 9 b_law
theorem ss_law {g : GG} (E : Ev g) : SS ⟨g, ["script", "bag", "turn", "plant", "some", "k", "one", "due", "found"], defScope s_law, 63, fun _ => true⟩ (defBody s_law) b_law :=
  (ss_cons (s1_set (i := 1) (he := (se_new (se_call (at__law_bag E) (sa_cons (se_var (i := 0)) sa_nil) (alen_cons alen_nil) (hj := by (dsimp only [F.G.blk]; omega)))))) (ss_cons (s1_for (si_range1 E.b_range (sa_cons se_int sa_nil)) (sg_name (i := 2)) (ss_cons (s1_set (i := 3) (he := (se_call (at__law_grown E) (sa_cons (se_var (i := 1)) (sa_cons (se_call (at__law_most E) (sa_cons (se_var (i := 1)) sa_nil) (alen_cons alen_nil) (hj := by (dsimp only [F.G.blk]; omega))) sa_nil)) (alen_cons (alen_cons alen_nil)) (hj := by (dsimp only [F.G.blk]; omega))))) (ss_cons (s1_set (i := 4) (he := (se_frz (se_add (se_lst (sa_cons (se_var (i := 3)) (sa_cons (se_tup (sa_cons (se_str (l := [116, 97, 103])) (sa_cons (se_str (l := [112, 97, 103, 101, 115])) (sa_cons (se_tup sa_nil) (sa_cons (se_ix (se_var (i := 3)) se_int) sa_nil))))) (sa_cons (se_tup (sa_cons (se_str (l := [116, 97, 103])) (sa_cons (se_str (l := [112, 97, 103, 101])) (sa_cons (se_tup (sa_cons (se_tup (sa_cons (se_str (l := [105, 100])) (sa_cons (se_str (l := [])) sa_nil))) sa_nil)) (sa_cons (se_ix (se_var (i := 3)) se_int) sa_nil))))) sa_nil)))) (se_listF E.b_list (sa_cons (se_slice (se_ix (se_var (i := 3)) se_int) so_none (so_some se_int)) sa_nil)))))) (ss_cons (s1_for (si_range1 E.b_range (sa_cons se_int sa_nil)) (sg_name (i := 5)) (ss_one (s1_set (i := 4) (he := (se_frz (se_add (se_var (i := 4)) (se_call (at__law_put_odd E 30) (sa_cons (se_var (i := 1)) (sa_cons (se_var (i := 3)) (sa_cons (se_new (se_lst (sa_cons (se_call (at__law_draw E) (sa_cons (se_var (i := 1)) (sa_cons (se_call (at__law_many E 30) (sa_cons (se_var (i := 3)) sa_nil) (alen_cons alen_nil) (hj := by (dsimp only [F.G.blk]; omega))) sa_nil)) (alen_cons (alen_cons alen_nil)) (hj := by (dsimp only [F.G.blk]; omega))) sa_nil))) sa_nil))) (alen_cons (alen_cons (alen_cons alen_nil))) (hj := by (dsimp only [F.G.blk]; omega))))))))) (ss_one (s1_for (si_e (se_var (i := 4))) (sg_name (i := 6)) (ss_cons (s1_set (i := 7) (he := (se_and (se_cmp (fun _ c => oR_eq c) oS_eq (se_ix (se_var (i := 6)) se_int) (se_str (l := [116, 97, 103]))) (se_and (se_cmp (fun _ c => oR_eq c) oS_eq (se_slice (se_var (i := 6)) (so_some se_int) (so_some se_int)) (se_tup (sa_cons (se_str (l := [112, 97, 103, 101])) (sa_cons (se_tup sa_nil) sa_nil)))) (se_one (se_call (at__law_sound E 30) (sa_cons (se_var (i := 6)) sa_nil) (alen_cons alen_nil) (hj := by (dsimp only [F.G.blk]; omega)))))))) (ss_one (s1_for (si_e (se_lst (sa_cons (se_call (at_is_whole E) (sa_cons (se_var (i := 6)) sa_nil) (alen_cons alen_nil) (hj := by (dsimp only [F.G.blk]; omega))) (sa_cons (se_callK0 (kw_is_whole_0_tree E) (sk_cons (se_var (i := 6)) sk_nil) (alen_cons alen_nil) (hj := by (dsimp only [F.G.blk]; omega))) sa_nil)))) (sg_name (i := 8)) (ss_one (s1_if (st_w (sw_or (st_not (st_val (se_isi1 .bl (by decide) E.b_isinstance E.b_bool (se_var (i := 8))))) (sw_or1 (st_cmp (fun _ c => oR_ne c) oS_eq (se_var (i := 8)) (se_var (i := 7)))))) (ss_one (s1_ret (se_frz se_bl) nb_frz)) ss_nil))))))))))) (ss_one (s1_ret (se_frz (se_cmp (fun _ _ => oR_isB) oS_isB (se_call (at_is_whole E) (sa_cons (se_tup (sa_cons (se_str (l := [116, 97, 103])) (sa_cons (se_str (l := [112, 97, 103, 101])) (sa_cons (se_tup sa_nil) (sa_cons (se_tup sa_nil) sa_nil))))) sa_nil) (alen_cons alen_nil) (hj := by (dsimp only [F.G.blk]; omega))) se_bl)) nb_frz))))
theorem at_law {g : GG} (E : Ev g) : FnAt g 64 "law" ["script"] m_law := fnAt E.f_law sc_law (ss_law E)

end W
namespace W
open PySem hiding Env
open L2 F
set_option hygiene false
local macro_rules | `(tactic| simp_arith only [$as,*]) => `(tactic| simp -implicitDefEqProofs only [$as,*, dSeq_e, dNil_e, dIf_e, dSet_e, dRet_e, dExpr_e, dAsg_e, dFor_e, eC_e, eV_e, eB_e, eU_e, fB_e, eCh_e, fAnd_e, fOr_e, fNot_e, fYes_e, eIf_e, eNot_e, eAnd_e, eOr_e, aNil_e, aCons_e,  plain_nil, plain_cons, eTup_e, eLst_e, frzR_l, frzR_d, eFrz_e, newR_l, eNew_e, oN_e, oI_e, eSl_e, eF_e, eM1_e, eIsi_e, eKget_e, eKin_e, callR_d, callR_l, eCall_e, sqS_nx, sqS_rt, sqS_none, sqS_cond,  bd_some, bd_none, bd_cond, bK_eq, iK_eq, sK_eq, dK_eq, rdS_v, rdS_c, setR_d, setR_l, retR_d, retR_l, retR_b, gTp_e, gNm_e, gAll_nil, gAll_cons, fin_rt, fin_nx, fin_none, fin_cond, mOf_e, gc_same, rnd_nx, rnd_ct, rnd_bk, rnd_rt, rnd_none, rnd_cond,  iE_e, itR_rol, itR_scr, itR_l, itR_tup, itR_str, iR1_e, eLc_e, List.getElem?_cons_zero, List.getElem?_cons_succ, List.set_cons_zero, List.set_cons_succ, List.map_cons, List.map_nil, List.length_cons, List.length_nil, List.cons_append, List.nil_append,  List.replicate_succ, List.replicate_zero, Nat.reduceSub, Nat.reduceAdd, Nat.zero_add, List.reduceReplicate, cond_true, cond_false, gEq_str, gNe_str, gEq_int, gNe_int, gEq_bl, gNe_bl, gLt_int, gLe_int, gGt_int, gGe_int, gAdd_int, gSub_e, gNeg_e, gIn_sign, gNi_sign, gIs_e, gIsNot_e, gLen_rol, gLen_scr, gLen_tup, gLen_l, gLen_b, gSl_tup, gSl_rol, gSl_scr, gInt_bl, gAbs_e, gTupOf_rol, gTupOf_b,  wipeE, tupK_0, tupK_1, tupK_2, tupK_3, tupK_4, tupK_5, tupK_6, tupK_7, tupK_8, lstK_0, lstK_1, lstK_2, lstK_3, lstK_4, lstK_5, lstK_6, lstK_7, lstK_8, one_eq, inF_cons, inF_nil, cut_take1, cut_drop1, Bool.or_false, Bool.not_true, Bool.not_false, dApp_e, slK_c, appS_e, dFrz_e, frK_c, frK_v, dPut_e, rfK_e, Nat.reduceLeDiff, dFl_cons, dFl_nil, lcK_one, ixK_e, gIx_ref_e, ptK_e, putS_k, ix5_0, ix5_1, ix5_2, ix5_3, ix5_4, at5_0, at5_1, at5_2, at5_3, at5_4, List.set_set])
/-! what all laws share: the bag, the draws, the comparison -/
def bagC (T : List D) (xs : List Int) (i v s k : Int) : Cell := .lst (.rol (xs.map .int) :: .int i :: .int v :: .int s :: .int k :: T)
def BagOk (T : List D) (c : Cell) : Prop := ∃ (xs : List Int) (i v s k : Int), c = bagC T xs i v s k ∧ 0 ≤ i ∧ i ≤ xs.length ∧ (∀ x ∈ xs, 0 ≤ x) ∧ 0 ≤ v ∧ 0 ≤ s ∧ s < 2147483647
/-- one round of stirring -/
def stB : DS := (dSeq (dPut (eV 0) (eC (.int 4)) (eB gAdd (eB gIx (eV 0) (eC (.int 4))) (eC (.int 1)))) (dSeq (dPut (eV 0) (eC (.int 3)) (eB (gI mod') (eB gAdd (eB gAdd (eB gAdd (eB (gI pow') (eB gIx (eV 0) (eC (.int 3))) (eC (.int 3))) (eB gMul (eC (.int 69621)) (eB gIx (eV 0) (eC (.int 3))))) (eB gMul (eC (.int 1031)) (eB gIx (eV 0) (eC (.int 4))))) (eC (.int 1))) (eC (.int 2147483647)))) (dSet 2 (eB gAdd (eB gMul (eV 2) (eC (.int 134217728))) (eB (gI fdiv') (eB gIx (eV 0) (eC (.int 3))) (eC (.int 16)))))))
section
variable {a b c d e : D} {r : List D}
theorem b4_0 : atI (a :: b :: c :: d :: e :: r) 0 = some a := atI_zero
theorem b4_1 : atI (a :: b :: c :: d :: e :: r) 1 = some b := by rw [atI_int (by decide) (by simp; omega)]; rfl
theorem b4_2 : atI (a :: b :: c :: d :: e :: r) 2 = some c := by rw [atI_int (by decide) (by simp; omega)]; rfl
theorem b4_3 : atI (a :: b :: c :: d :: e :: r) 3 = some d := by rw [atI_int (by decide) (by simp; omega)]; rfl
theorem b4_4 : atI (a :: b :: c :: d :: e :: r) 4 = some e := by rw [atI_int (by decide) (by simp; omega)]; rfl
theorem ixN_in {n : Nat} {k : Nat} (h : k < n) : ixN n (k : Int) = some k := by
  unfold ixN
  simp
  omega
theorem n4 {k : Nat} (h : k < 5) : ixN (r.length + 1 + 1 + 1 + 1 + 1) (k : Int) = some k := ixN_in (by omega)
theorem n4_1 : ixN (r.length + 1 + 1 + 1 + 1 + 1) 1 = some 1 := n4 (k := 1) (by decide)
theorem n4_2 : ixN (r.length + 1 + 1 + 1 + 1 + 1) 2 = some 2 := n4 (k := 2) (by decide)
theorem n4_3 : ixN (r.length + 1 + 1 + 1 + 1 + 1) 3 = some 3 := n4 (k := 3) (by decide)
theorem n4_4 : ixN (r.length + 1 + 1 + 1 + 1 + 1) 4 = some 4 := n4 (k := 4) (by decide)
end
theorem set_same {h : Hs} {n : Nat} {c : Cell} (e : h[n]? = some c) : h.set n c = h := by
  refine List.ext_getElem? fun i => ?_
  by_cases z : n = i
  · subst z; rw [List.getElem?_set_self (List.getElem?_eq_some_iff.mp e).1, e]
  · rw [List.getElem?_set_ne z]
theorem stir_loop {T : List D} {xs : List Int} {i v m : Int} {n : Nat} : ∀ (rs : List D) (found s k : Int) (x3 : F.Slot) (h : Hs), h[n]? = some (bagC T xs i v s k) → 0 ≤ s → s < 2147483647 →
    ∃ found' s' k' x3', dFl (gNm 3) stB rs [.v (.ref n), .v (.int m), .v (.int found), x3] h = some (.nx [.v (.ref n), .v (.int m), .v (.int found'), x3'] (h.set n (bagC T xs i v s' k'))) ∧ 0 ≤ s' ∧ s' < 2147483647
  | [], found, s, k, x3, h, hn, s0, s1 => ⟨found, s, k, x3, by rw [set_same hn]; rfl, s0, s1⟩
  | d :: rs, found, s, k, x3, h, hn, s0, s1 => by
    have hlt : n < h.length := (List.getElem?_eq_some_iff.mp hn).1
    have hset : ∀ c, (h.set n c)[n]? = some c := fun c => List.getElem?_set_self hlt
    have mod_p : ∀ {a h'}, gI mod' (.d (.int a)) (.d (.int 2147483647)) h' = some (.d (.int (a.fmod 2147483647)), h') := fun {a h'} => gMod_e (by decide)
    have div_s : ∀ {a h'}, gI fdiv' (.d (.int a)) (.d (.int 16)) h' = some (.d (.int (a.fdiv 16)), h') := fun {a h'} => gFdiv_e (by decide) (by decide)
    have pow_3 : ∀ {h'}, gI pow' (.d (.int s)) (.d (.int 3)) h' = some (.d (.int (s ^ 3)), h') := fun {h'} => gPow_e (by decide) (by
      have := PySem.intBits_le_64 (k := s) (by omega) (by omega)
      omega)
    have mul_a : ∀ {a h'}, gMul (.d (.int 69621)) (.d (.int a)) h' = some (.d (.int (69621 * a)), h') := fun {a h'} => gMul_int (.inl (by omega))
    have mul_b : ∀ {a h'}, gMul (.d (.int 1031)) (.d (.int a)) h' = some (.d (.int (1031 * a)), h') := fun {a h'} => gMul_int (.inl (by omega))
    have mul_c : ∀ {a h'}, gMul (.d (.int a)) (.d (.int 134217728)) h' = some (.d (.int (a * 134217728)), h') := fun {a h'} => gMul_int (.inr (by omega))
    obtain ⟨s2, hs2⟩ : ∃ s2, s2 = (s ^ 3 + 69621 * s + 1031 * (k + 1) + 1).fmod 2147483647 := ⟨_, rfl⟩
    have p0 : 0 ≤ s2 := by rw [hs2]; exact Int.fmod_nonneg_of_pos _ (by omega)
    have p1 : s2 < 2147483647 := by rw [hs2]; exact Int.fmod_lt_of_pos _ (by omega)
    obtain ⟨f', s', k', x3', e, q0, q1⟩ := stir_loop (T := T) (xs := xs) (i := i) (v := v) (m := m) (n := n) rs (found * 134217728 + s2.fdiv 16) s2 (k + 1) (.v d) (h.set n (bagC T xs i v s2 (k + 1))) (hset _) p0 p1
    refine ⟨f', s', k', x3', ?_, q0, q1⟩
    rw [List.set_set] at e
    rw [dFl_cons, ← e]
    unfold bagC at hn ⊢
    simp_arith only [stB, hn, hset, b4_3, b4_4, n4_3, n4_4, mod_p, div_s, pow_3, mul_a, mul_b, mul_c, ← hs2]
theorem stirred_ok {h : Hs} {n : Nat} {c : Cell} {T : List D} (hn : h[n]? = some c) (B : BagOk T c) {m : Int} (h1 : 1 ≤ m) (h2 : Builtin.Int.intBits m ≤ 1000) :
    ∃ x c', m__law_stirred [.ref n, .int m] h = some (.d (.int x), h.set n c') ∧ BagOk T c' ∧ 0 ≤ x ∧ x < m := by
  obtain ⟨xs, i, v, s, k, e, i0, i1, hx, v0, s0, s1⟩ := B
  subst e
  have m0 : m ≠ 0 := by omega
  have gl : ∀ c rv, gc h (h.set n c) rv = h.set n c := fun c rv => gc_len (by simp)
  have mod_m : ∀ {a h'}, gI mod' (.d (.int a)) (.d (.int m)) h' = some (.d (.int (a.fmod m)), h') := fun {a h'} => gMod_e m0
  have div_27 : ∀ {a h'}, gI fdiv' (.d (.int a)) (.d (.int 27)) h' = some (.d (.int (a.fdiv 27)), h') := fun {a h'} => gFdiv_e (by decide) (by decide)
  have r1 : ∀ {h'}, rngK h' [.d (.int (1 + ((Builtin.Int.intBits m : Nat) : Int).fdiv 27))] = some (rangeL 0 1 (1 + ((Builtin.Int.intBits m : Nat) : Int).fdiv 27).toNat, h') := fun {h'} => rngK_e (by
    rw [Int.fdiv_eq_ediv_of_nonneg _ (by decide)]; omega) (by rw [Int.fdiv_eq_ediv_of_nonneg _ (by decide)]; omega)
  obtain ⟨f', s', k', x3', es, q0, q1⟩ := stir_loop (T := T) (xs := xs) (i := i) (v := v) (m := m) (n := n) (rangeL 0 1 (1 + ((Builtin.Int.intBits m : Nat) : Int).fdiv 27).toNat) 0 s k .no h hn s0 s1
  unfold stB at es
  refine ⟨f'.fmod m, bagC T xs i v s' k', ?_, ⟨xs, i, v, s', k', rfl, i0, i1, hx, v0, q0, q1⟩, Int.fmod_nonneg_of_pos _ (by omega), Int.fmod_lt_of_pos _ (by omega)⟩
  unfold m__law_stirred b__law_stirred
  have es' := es
  simp only [dSeq_e, dNil_e, dIf_e, dSet_e, dRet_e, dExpr_e, dAsg_e, dFor_e, eC_e, eV_e, eB_e, eU_e, fB_e, eCh_e, fAnd_e, fOr_e, fNot_e, fYes_e, eIf_e, eNot_e, eAnd_e, eOr_e, aNil_e, aCons_e,  plain_nil, plain_cons, eTup_e, eLst_e, frzR_l, frzR_d, eFrz_e, newR_l, eNew_e, oN_e, oI_e, eSl_e, eF_e, eM1_e, eIsi_e, eKget_e, eKin_e, callR_d, callR_l, eCall_e, sqS_nx, sqS_rt, sqS_none, sqS_cond,  bd_some, bd_none, bd_cond, bK_eq, iK_eq, sK_eq, dK_eq, rdS_v, rdS_c, setR_d, setR_l, retR_d, retR_l, retR_b, gTp_e, gNm_e, gAll_nil, gAll_cons, fin_rt, fin_nx, fin_none, fin_cond, mOf_e, gc_same, rnd_nx, rnd_ct, rnd_bk, rnd_rt, rnd_none, rnd_cond,  iE_e, itR_rol, itR_scr, itR_l, itR_tup, itR_str, iR1_e, eLc_e, List.getElem?_cons_zero, List.getElem?_cons_succ, List.set_cons_zero, List.set_cons_succ, List.map_cons, List.map_nil, List.length_cons, List.length_nil, List.cons_append, List.nil_append,  List.replicate_succ, List.replicate_zero, Nat.reduceSub, Nat.reduceAdd, Nat.zero_add, List.reduceReplicate, cond_true, cond_false, gEq_str, gNe_str, gEq_int, gNe_int, gEq_bl, gNe_bl, gLt_int, gLe_int, gGt_int, gGe_int, gAdd_int, gSub_e, gNeg_e, gIn_sign, gNi_sign, gIs_e, gIsNot_e, gLen_rol, gLen_scr, gLen_tup, gLen_l, gLen_b, gSl_tup, gSl_rol, gSl_scr, gInt_bl, gAbs_e, gTupOf_rol, gTupOf_b,  wipeE, tupK_0, tupK_1, tupK_2, tupK_3, tupK_4, tupK_5, tupK_6, tupK_7, tupK_8, lstK_0, lstK_1, lstK_2, lstK_3, lstK_4, lstK_5, lstK_6, lstK_7, lstK_8, one_eq, inF_cons, inF_nil, cut_take1, cut_drop1, Bool.or_false, Bool.not_true, Bool.not_false, dApp_e, slK_c, appS_e, dFrz_e, frK_c, frK_v, dPut_e, rfK_e, Nat.reduceLeDiff, dFl_cons, dFl_nil, lcK_one, ixK_e, gIx_ref_e, ptK_e, putS_k, ix5_0, ix5_1, ix5_2, ix5_3, ix5_4, at5_0, at5_1, at5_2, at5_3, at5_4, List.set_set, gBits_int, div_27, r1] at es' ⊢
  rw [es']
  simp_arith only [mod_m, gl]
theorem bits_m {m : Int} (h1 : 1 ≤ m) (h2 : m ≤ 1000000000000000000000000) : Builtin.Int.intBits m ≤ 1000 := by
  have : Builtin.Int.intBits m ≤ 80 := PyProof.Rows.intBits_le (k := 80) (by omega)
  omega
theorem draw_ok {h : Hs} {n : Nat} {c : Cell} {T : List D} (hn : h[n]? = some c) (B : BagOk T c) {m : Int} (h1 : 1 ≤ m) (h2 : m ≤ 1000000000000000000000000) :
    ∃ x c', m__law_draw [.ref n, .int m] h = some (.d (.int x), h.set n c') ∧ BagOk T c' ∧ 0 ≤ x ∧ x < m := by
  obtain ⟨xs, i, v, s, k, e, i0, i1, hx, v0, s0, s1⟩ := B
  subst e
  unfold bagC at hn
  have hlt : n < h.length := (List.getElem?_eq_some_iff.mp hn).1
  have hset : ∀ c, (h.set n c)[n]? = some c := fun c => List.getElem?_set_self hlt
  have gl : ∀ c rv, gc h (h.set n c) rv = h.set n c := fun c rv => gc_len (by simp)
  have m0 : m ≠ 0 := by omega
  have mod_m : ∀ {a h'}, gI mod' (.d (.int a)) (.d (.int m)) h' = some (.d (.int (a.fmod m)), h') := fun {a h'} => gMod_e m0
  have div_m : ∀ {a h'}, gI fdiv' (.d (.int a)) (.d (.int m)) h' = some (.d (.int (a.fdiv m)), h') := fun {a h'} => gFdiv_L m0 (by omega)
  have fm : ∀ {a : Int}, 0 ≤ a.fmod m ∧ a.fmod m < m := fun {a} => ⟨Int.fmod_nonneg_of_pos _ (by omega), Int.fmod_lt_of_pos _ (by omega)⟩
  have fd : ∀ {a : Int}, 0 ≤ a → 0 ≤ a.fdiv m := fun {a} ha => Int.fdiv_nonneg ha (by omega)
  unfold m__law_draw b__law_draw
  by_cases hv : v = 0
  · subst hv
    by_cases hi : i < xs.length
    · have e1 : ((0 : Int) == 0) = true := rfl
      have e2 : decide (i < (((xs.map D.int).length : Nat) : Int)) = true := decide_eq_true (by simpa using hi)
      obtain ⟨x, ex, mx⟩ := atI_mem (l := xs.map D.int) (i := i) i0 (by simp; omega)
      obtain ⟨y, my, rfl⟩ := List.mem_map.mp mx
      have ei : ∀ {h'}, gIx (.d (.rol (xs.map .int))) (.d (.int i)) h' = some (.d (.int y), h') := fun {h'} => gIx_rol ex
      refine ⟨_, bagC T xs (i + 1) (y.fdiv m) s k, ?_, ⟨xs, i + 1, y.fdiv m, s, k, rfl, by omega, by omega, hx, fd (hx y my), s0, s1⟩, (fm (a := y)).1, fm.2⟩
      · simp_arith only [bagC, b4_0, b4_1, b4_2, b4_3, b4_4, n4_1, n4_2, hn, hset, e1, e2, gl, ei, mod_m, div_m]
    · have e1 : ((0 : Int) == 0) = true := rfl
      have e2 : decide (i < (((xs.map D.int).length : Nat) : Int)) = false := decide_eq_false (by simpa using hi)
      obtain ⟨x, c', es, b', x0, x1⟩ := stirred_ok (h := h) (n := n) (c := bagC T xs i 0 s k) hn ⟨xs, i, 0, s, k, rfl, i0, i1, hx, v0, s0, s1⟩ h1 (bits_m h1 h2)
      refine ⟨x, c', ?_, b', x0, x1⟩
      simp_arith only [bagC, b4_0, b4_1, b4_2, b4_3, b4_4, n4_1, n4_2, hn, e1, e2, es, gl]
  · have e1 : (v == (0 : Int)) = false := by simpa using hv
    refine ⟨_, bagC T xs i (v.fdiv m) s k, ?_, ⟨xs, i, v.fdiv m, s, k, rfl, i0, i1, hx, fd v0, s0, s1⟩, (fm (a := v)).1, fm.2⟩
    · simp_arith only [bagC, b4_0, b4_1, b4_2, b4_3, b4_4, n4_1, n4_2, hn, hset, e1, gl, mod_m, div_m]

theorem stir_ok (a x : Slot) (h : Hs) : ∀ (ns : List Int) (st : Int) (x : Slot), 0 ≤ st → st < 2147483647 → ∃ st' x', 0 ≤ st' ∧ st' < 2147483647 ∧
    dFl (gNm 2) (dSet 1 (eB (gI mod') (eB gAdd (eB gAdd (eB gMul (eV 1) (eC (.int 48271))) (eB (gI mod') (eV 2) (eC (.int 2147483629)))) (eC (.int 1))) (eC (.int 2147483647)))) (ns.map .int) [a, .v (.int st), x] h = some (.nx [a, .v (.int st'), x'] h)
  | [], st, x, h0, h1 => ⟨st, x, h0, h1, rfl⟩
  | n :: ns, st, x, h0, h1 => by
    obtain ⟨st', x', h2, h3, e⟩ := stir_ok a x h ns ((st * 48271 + n.fmod 2147483629 + 1).fmod 2147483647) (.v (.int n)) (Int.fmod_nonneg_of_pos _ (by omega)) (Int.fmod_lt_of_pos _ (by omega))
    refine ⟨st', x', h2, h3, ?_⟩
    have g1 : gMul (.d (.int st)) (.d (.int 48271)) h = some (.d (.int (st * 48271)), h) := gMul_int (.inr (by omega))
    have g2 : gI mod' (.d (.int n)) (.d (.int 2147483629)) h = some (.d (.int (n.fmod 2147483629)), h) := gMod_e (by decide)
    have g3 : ∀ a : Int, gI mod' (.d (.int a)) (.d (.int 2147483647)) h = some (.d (.int (a.fmod 2147483647)), h) := fun a => gMod_e (by decide)
    rw [List.map_cons, dFl_cons]
    simp only [gNm_e, dSet_e, eC_e, eV_e, eB_e, List.getElem?_cons_zero, List.getElem?_cons_succ, List.set_cons_zero, List.set_cons_succ, rdS_v, bd_some, gAdd_int, g1, g2, g3, setR_d, rnd_nx]
    exact e
theorem bag_ok (ns : List Int) (hl : ns.length ≤ 63) (h : Hs) : ∃ c, m__law_bag [.scr (ns.map .int)] h = some (.l c, h) ∧ BagOk [] c := by
  unfold m__law_bag b__law_bag
  have hc : cut (ns.map D.int) none (some 63) = ns.map D.int := by
    rw [show (63 : Int) = ((63 : Nat) : Int) from rfl, cut_take]
    exact List.take_of_length_le (by simpa using hl)
  obtain ⟨st', x', h2, h3, e⟩ := stir_ok (.v (.scr (ns.map .int))) .no h ns 31 .no (by decide) (by decide)
  have p1 : ∀ h', gI pow' (.d (.int 10)) (.d (.int 60)) h' = some (.d (.int (10 ^ 60)), h') := fun h' => gPow_e (by decide) (by decide +kernel)
  have p2 : ∃ M : Int, 0 < M ∧ ∀ h', gI pow' (.d (.int (10 ^ 60))) (.d (.int 10)) h' = some (.d (.int M), h') := ⟨_, by decide +kernel, fun h' => gPow_e (by decide) (by decide +kernel)⟩
  generalize hT : (10 : Int) ^ 60 = T at p1 p2
  obtain ⟨M, M0, p2⟩ := p2
  have g1 : ∀ a h', gI mod' (.d (.int a)) (.d (.int M)) h' = some (.d (.int (a.fmod M)), h') := fun a h' => gMod_e (by omega)
  have key := lcK_T (l := ns) (c := D.int) (k := 2) (te := (eB (gI mod') (eF gAbs (aCons (eV 2) aNil)) (eB (gI pow') (eB (gI pow') (eC (.int 10)) (eC (.int 60))) (eC (.int 10))))) (env := [.v (.scr (ns.map .int)), .v (.int st'), x']) (h := h) (fun t => .int ((if t < 0 then -t else t).fmod M)) (by omega) fun t _ => by
    simp_arith only [p1, p2, g1]
  refine ⟨.lst [.rol ((ns.map fun t => (if t < 0 then -t else t).fmod M).map .int), .int 0, .int 0, .int st', .int 0], ?_, ⟨_, 0, 0, st', 0, rfl, by omega, by omega, fun x hx => ?_, by omega, h2, h3⟩⟩
  · have e' := e
    simp only [dSeq_e, dNil_e, dIf_e, dSet_e, dRet_e, dExpr_e, dAsg_e, dFor_e, eC_e, eV_e, eB_e, eU_e, fB_e, eCh_e, fAnd_e, fOr_e, fNot_e, fYes_e, eIf_e, eNot_e, eAnd_e, eOr_e, aNil_e, aCons_e,  plain_nil, plain_cons, eTup_e, eLst_e, frzR_l, frzR_d, eFrz_e, newR_l, eNew_e, oN_e, oI_e, eSl_e, eF_e, eM1_e, eIsi_e, eKget_e, eKin_e, callR_d, callR_l, eCall_e, sqS_nx, sqS_rt, sqS_none, sqS_cond,  bd_some, bd_none, bd_cond, bK_eq, iK_eq, sK_eq, dK_eq, rdS_v, rdS_c, setR_d, setR_l, retR_d, retR_l, retR_b, gTp_e, gNm_e, gAll_nil, gAll_cons, fin_rt, fin_nx, fin_none, fin_cond, mOf_e, gc_same, rnd_nx, rnd_ct, rnd_bk, rnd_rt, rnd_none, rnd_cond,  iE_e, itR_rol, itR_scr, itR_l, itR_tup, itR_str, iR1_e, eLc_e, List.getElem?_cons_zero, List.getElem?_cons_succ, List.set_cons_zero, List.set_cons_succ, List.map_cons, List.map_nil, List.length_cons, List.length_nil, List.cons_append, List.nil_append,  List.replicate_succ, List.replicate_zero, Nat.reduceSub, Nat.reduceAdd, Nat.zero_add, List.reduceReplicate, cond_true, cond_false, gEq_str, gNe_str, gEq_int, gNe_int, gEq_bl, gNe_bl, gLt_int, gLe_int, gGt_int, gGe_int, gAdd_int, gSub_e, gNeg_e, gIn_sign, gNi_sign, gIs_e, gIsNot_e, gLen_rol, gLen_scr, gLen_tup, gLen_l, gLen_b, gSl_tup, gSl_rol, gSl_scr, gInt_bl, gAbs_e, gTupOf_rol, gTupOf_b,  wipeE, tupK_0, tupK_1, tupK_2, tupK_3, tupK_4, tupK_5, tupK_6, tupK_7, tupK_8, lstK_0, lstK_1, lstK_2, lstK_3, lstK_4, lstK_5, lstK_6, lstK_7, lstK_8, one_eq, inF_cons, inF_nil, cut_take1, cut_drop1, Bool.or_false, Bool.not_true, Bool.not_false, dApp_e, slK_c, appS_e, dFrz_e, frK_c, frK_v, dPut_e, rfK_e, Nat.reduceLeDiff, dFl_cons, dFl_nil, lcK_one, ixK_e, gIx_ref_e, ptK_e, putS_k, ix5_0, ix5_1, ix5_2, ix5_3, ix5_4, at5_0, at5_1, at5_2, at5_3, at5_4, List.set_set, hc] at e' ⊢
    rw [e']
    simp_arith only [hc, key]
    simp only [List.map_map]
    rfl
  · obtain ⟨t, _, rfl⟩ := List.mem_map.mp hx
    exact Int.fmod_nonneg_of_pos _ M0

mutual
/-- plain data of depth below n -/
def pl : Nat → D → Bool
  | 0, _ => false
  | _ + 1, .non => true
  | _ + 1, .bl _ => true
  | _ + 1, .int _ => true
  | _ + 1, .str _ => true
  | n + 1, .tup ds => decide (ds.length ≤ 40000) && pls n ds
  | n + 1, .rol ds => decide (ds.length ≤ 40000) && pls n ds
  | _ + 1, _ => false
def pls : Nat → List D → Bool
  | _, [] => true
  | n, d :: ds => pl n d && pls n ds
end
theorem pls_get {n : Nat} : ∀ {ds : List D} {i : Nat} {d : D}, pls n ds = true → ds[i]? = some d → pl n d = true
  | [], i, d, _, e => by simp at e
  | x :: ds, 0, d, h, e => by
    simp at e
    subst e
    simp only [pls, Bool.and_eq_true] at h
    exact h.1
  | x :: ds, i + 1, d, h, e => by
    simp only [pls, Bool.and_eq_true] at h
    exact pls_get h.2 (by simpa using e)
/-- the heap has its bag at n, T behind the five; all other cells are as in L -/
def BT (T : List D) (L : Hs) (n : Nat) (h : Hs) : Prop := h.length = L.length ∧ (∃ c, h[n]? = some c ∧ BagOk T c) ∧ ∀ i, i ≠ n → h[i]? = L[i]?
abbrev BJ := BT []
theorem draw_J {T : List D} {L : Hs} {n : Nat} {h : Hs} (j : BT T L n h) {m : Int} (h1 : 1 ≤ m) (h2 : m ≤ 1000000000000000000000000) : ∃ x h', m__law_draw [.ref n, .int m] h = some (.d (.int x), h') ∧ BT T L n h' ∧ 0 ≤ x ∧ x < m := by
  obtain ⟨l, ⟨c, hn, B⟩, fr⟩ := j
  obtain ⟨x, c', e, B', x0, x1⟩ := draw_ok hn B h1 h2
  exact ⟨x, _, e, ⟨by simpa using l, ⟨c', List.getElem?_set_self (List.getElem?_eq_some_iff.mp hn).1, B'⟩, fun i hi => by rw [List.getElem?_set_ne (fun z => hi z.symm)]; exact fr i hi⟩, x0, x1⟩
/-- a drawn one of a few texts -/
theorem pick_txt {ls : List (List Nat)} {x : Int} {h : Hs} (h0 : 0 ≤ x) (h1 : x < (ls.length : Nat)) : ∃ a, gIx (.l (.lst (ls.map .str))) (.d (.int x)) h = some (.d (.str a), h) ∧ a ∈ ls := by
  obtain ⟨y, e, m⟩ := atI_mem (l := ls.map D.str) h0 (by simpa using h1)
  obtain ⟨a, ha, rfl⟩ := List.mem_map.mp m
  exact ⟨a, gIx_lst e, ha⟩
theorem pick_sign {s : List Nat} {x : Int} {h : Hs} (hz : s.length ≤ 1000) (h0 : 0 ≤ x) (h1 : x < (s.length : Nat)) : ∃ c, gIx (.d (.str s)) (.d (.int x)) h = some (.d (.str [c]), h) ∧ c ∈ s := by
  obtain ⟨c, e, m⟩ := atI_mem (l := s) h0 h1
  exact ⟨c, gIx_str (by omega) e, m⟩

end W
namespace W
open PySem hiding Env
open L2 F
set_option hygiene false
local macro_rules | `(tactic| simp_arith only [$as,*]) => `(tactic| simp -implicitDefEqProofs only [$as,*, dSeq_e, dNil_e, dIf_e, dSet_e, dRet_e, dExpr_e, dAsg_e, dFor_e, eC_e, eV_e, eB_e, eU_e, fB_e, eCh_e, fAnd_e, fOr_e, fNot_e, fYes_e, eIf_e, eNot_e, eAnd_e, eOr_e, aNil_e, aCons_e,  plain_nil, plain_cons, eTup_e, eLst_e, frzR_l, frzR_d, eFrz_e, newR_l, eNew_e, oN_e, oI_e, eSl_e, eF_e, eM1_e, eIsi_e, eKget_e, eKin_e, callR_d, callR_l, eCall_e, sqS_nx, sqS_rt, sqS_none, sqS_cond,  bd_some, bd_none, bd_cond, bK_eq, iK_eq, sK_eq, dK_eq, rdS_v, rdS_c, setR_d, setR_l, retR_d, retR_l, retR_b, gTp_e, gNm_e, gAll_nil, gAll_cons, fin_rt, fin_nx, fin_none, fin_cond, mOf_e, gc_same, rnd_nx, rnd_ct, rnd_bk, rnd_rt, rnd_none, rnd_cond,  iE_e, itR_rol, itR_scr, itR_l, itR_tup, itR_str, iR1_e, eLc_e, List.getElem?_cons_zero, List.getElem?_cons_succ, List.set_cons_zero, List.set_cons_succ, List.map_cons, List.map_nil, List.length_cons, List.length_nil, List.cons_append, List.nil_append,  List.replicate_succ, List.replicate_zero, Nat.reduceSub, Nat.reduceAdd, Nat.zero_add, List.reduceReplicate, cond_true, cond_false, gEq_str, gNe_str, gEq_int, gNe_int, gEq_bl, gNe_bl, gLt_int, gLe_int, gGt_int, gGe_int, gAdd_int, gSub_e, gNeg_e, gIn_sign, gNi_sign, gIs_e, gIsNot_e, gLen_rol, gLen_scr, gLen_tup, gLen_l, gLen_b, gSl_tup, gSl_rol, gSl_scr, gInt_bl, gAbs_e, gTupOf_rol, gTupOf_b,  wipeE, tupK_0, tupK_1, tupK_2, tupK_3, tupK_4, tupK_5, tupK_6, tupK_7, tupK_8, lstK_0, lstK_1, lstK_2, lstK_3, lstK_4, lstK_5, lstK_6, lstK_7, lstK_8, one_eq, inF_cons, inF_nil, cut_take1, cut_drop1, Bool.or_false, Bool.not_true, Bool.not_false, dApp_e, slK_c, appS_e, dFrz_e, frK_c, frK_v, dPut_e, rfK_e, Nat.reduceLeDiff, dFl_cons, dFl_nil, lcK_one, ixK_e, gIx_ref_e, ptK_e, putS_k, ix5_0, ix5_1, ix5_2, ix5_3, ix5_4, at5_0, at5_1, at5_2, at5_3, at5_4, List.set_set])
local macro_rules | `(tactic| simp_arith! only [$as,*]) => `(tactic| simp -implicitDefEqProofs only [$as,*, dSeq_e, dNil_e, dIf_e, dSet_e, dRet_e, dExpr_e, dAsg_e, dFor_e, eC_e, eV_e, eB_e, eU_e, fB_e, eCh_e, fAnd_e, fOr_e, fNot_e, fYes_e, eIf_e, eNot_e, eAnd_e, eOr_e, aNil_e, aCons_e, plain_nil, plain_cons, eTup_e, eLst_e, frzR_l, frzR_d, eFrz_e, newR_l, eNew_e, oN_e, oI_e, eSl_e, eF_e, eM1_e, eIsi_e, eKget_e, eKin_e, eCall_e, bd_none, bK_eq, iK_eq, sK_eq, dK_eq, rdS_v, rdS_c, setR_d, setR_l, retR_d, retR_l, retR_b, gTp_e, gNm_e, gAll_nil, gAll_cons, mOf_e, iE_e, itR_rol, itR_scr, itR_l, itR_tup, itR_str, iR1_e, eLc_e, List.getElem?_cons_zero, List.getElem?_cons_succ, List.set_cons_zero, List.set_cons_succ, List.map_cons, List.map_nil, List.length_cons, List.length_nil, List.cons_append, List.nil_append, List.replicate_succ, List.replicate_zero, Nat.reduceSub, Nat.reduceAdd, Nat.zero_add, List.reduceReplicate, cond_true, cond_false, gEq_str, gNe_str, gEq_int, gNe_int, gEq_bl, gNe_bl, gLt_int, gLe_int, gGt_int, gGe_int, gAdd_int, gSub_e, gNeg_e, gIn_sign, gNi_sign, gIs_e, gIsNot_e, gLen_rol, gLen_scr, gLen_tup, gLen_l, gLen_b, gSl_tup, gSl_rol, gSl_scr, gInt_bl, gAbs_e, gTupOf_rol, gTupOf_b, wipeE, tupK_0, tupK_1, tupK_2, tupK_3, tupK_4, tupK_5, tupK_6, tupK_7, tupK_8, lstK_0, lstK_1, lstK_2, lstK_3, lstK_4, lstK_5, lstK_6, lstK_7, lstK_8, one_eq, inF_cons, inF_nil, cut_take1, cut_drop1, Bool.or_false, Bool.not_true, Bool.not_false, dApp_e, slK_c, appS_e, dFrz_e, frK_c, frK_v, dPut_e, rfK_e, Nat.reduceLeDiff, dFl_cons, dFl_nil, lcK_one, ixK_e, gIx_ref_e, ptK_e, putS_k, ix5_0, ix5_1, ix5_2, ix5_3, ix5_4, at5_0, at5_1, at5_2, at5_3, at5_4, List.set_set, Int.cast_ofNat_Int, Int.reduceAdd, Int.reduceSub, Int.reduceMul, Int.reduceNeg, Int.reduceLT, Int.reduceLE, Int.reduceEq, Int.reduceNe, Int.reduceBEq, decide_true, decide_false, ixr0, ixr1, ixr2, drop1c, drop2c, take1c, gSl_l, gSl_b, dExtO_e, dPopX_e, dPopO_e, dPutO_e, iR2_e, iEn_e, enK_e, eMN_e, gFind3_e, gStarts3_e, gAug_int, gAugS_int, gInt_int, gMax2_e, gMin2_e, gLstOf_rol, gLstOf_tup, gLstOf_l, gTupOf_l, ixb0, ixt0, ixt1, ixt2, eMinDf_e, gMinDf_l, eBack_e, gBack_rol, gBack_b, dPar_e, eDNew_e, dDPut_e, dcK_c, eDGt_e, dv_b, dvK_some, dgtS_i, gDi_t, gDi_f, eDsp_e, dspK_2, eCallK_e, isNon_rol, isNon_non, List.length_map, List.length_append, ok_wp, wp_some, wp_bd, wp_sqS, wp_rnd, wp_fin, wp_callR, Ho_q, sqC_nx, sqC_rt, sqC_bk, sqC_ct, rndC_nx, rndC_ct, rndC_bk, rndC_rt, finC_rt, finC_nx, callC_d, callC_l, Bool.false_eq_true, if_true, if_false])
local macro_rules | `(tactic| ac_rfl) => `(tactic| (first     | simp_arith! only [eC_e]     | (with_reducible refine wp_of (draw_w (by assumption) (by (first | assumption | omega | decide | (simp only [List.length_map, List.length_take, List.length_drop, List.length_eraseIdx, List.length_append, List.length_cons, List.length_nil, List.length_singleton]; omega) | (simp; done) | (simp; omega))) (by (first | assumption | omega | decide | (simp only [List.length_map, List.length_take, List.length_drop, List.length_eraseIdx, List.length_append, List.length_cons, List.length_nil, List.length_singleton]; omega) | (simp; done) | (simp; omega)))) ?_; rintro _ ⟨_, _, rfl, _, _, _⟩)     | (with_reducible refine wp_cond_dec (fun hc => ?_) (fun hc => ?_))     | (with_reducible refine wp_cond_beq (fun hc => ?_) (fun hc => ?_))     | (with_reducible refine wp_cond_not ?_)     | (with_reducible refine wp_lstK (by simp) ?_)     | (with_reducible refine wp_tupK (by simp) ?_)     | (with_reducible refine wp_addS (by (first | assumption | omega | decide | (simp only [List.length_map, List.length_take, List.length_drop, List.length_eraseIdx, List.length_append, List.length_cons, List.length_nil, List.length_singleton]; omega) | (simp; done) | (simp; omega))) ?_)     | (with_reducible refine wp_addT (by simp) ?_)     | (with_reducible refine wp_add_rr (by (first | assumption | omega | decide | (simp only [List.length_map, List.length_take, List.length_drop, List.length_eraseIdx, List.length_append, List.length_cons, List.length_nil, List.length_singleton]; omega) | (simp; done) | (simp; omega))) ?_)     | (with_reducible refine wp_add_rl (by (first | assumption | omega | decide | (simp only [List.length_map, List.length_take, List.length_drop, List.length_eraseIdx, List.length_append, List.length_cons, List.length_nil, List.length_singleton]; omega) | (simp; done) | (simp; omega))) ?_)     | (with_reducible refine wp_add_rb (by (first | assumption | omega | decide | (simp only [List.length_map, List.length_take, List.length_drop, List.length_eraseIdx, List.length_append, List.length_cons, List.length_nil, List.length_singleton]; omega) | (simp; done) | (simp; omega))) ?_)     | (with_reducible refine wp_add_lr (by (first | assumption | omega | decide | (simp only [List.length_map, List.length_take, List.length_drop, List.length_eraseIdx, List.length_append, List.length_cons, List.length_nil, List.length_singleton]; omega) | (simp; done) | (simp; omega))) ?_)     | (with_reducible refine wp_add_ll (by (first | assumption | omega | decide | (simp only [List.length_map, List.length_take, List.length_drop, List.length_eraseIdx, List.length_append, List.length_cons, List.length_nil, List.length_singleton]; omega) | (simp; done) | (simp; omega))) ?_)     | (with_reducible refine wp_add_lb (by (first | assumption | omega | decide | (simp only [List.length_map, List.length_take, List.length_drop, List.length_eraseIdx, List.length_append, List.length_cons, List.length_nil, List.length_singleton]; omega) | (simp; done) | (simp; omega))) ?_)     | (with_reducible refine wp_add_br (by (first | assumption | omega | decide | (simp only [List.length_map, List.length_take, List.length_drop, List.length_eraseIdx, List.length_append, List.length_cons, List.length_nil, List.length_singleton]; omega) | (simp; done) | (simp; omega))) ?_)     | (with_reducible refine wp_add_bl (by (first | assumption | omega | decide | (simp only [List.length_map, List.length_take, List.length_drop, List.length_eraseIdx, List.length_append, List.length_cons, List.length_nil, List.length_singleton]; omega) | (simp; done) | (simp; omega))) ?_)     | (with_reducible refine wp_add_bb (by (first | assumption | omega | decide | (simp only [List.length_map, List.length_take, List.length_drop, List.length_eraseIdx, List.length_append, List.length_cons, List.length_nil, List.length_singleton]; omega) | (simp; done) | (simp; omega))) ?_)     | (with_reducible refine wp_ext_l (by (first | assumption | omega | decide | (simp only [List.length_map, List.length_take, List.length_drop, List.length_eraseIdx, List.length_append, List.length_cons, List.length_nil, List.length_singleton]; omega) | (simp; done) | (simp; omega))) ?_)     | (with_reducible refine wp_ext_r (by (first | assumption | omega | decide | (simp only [List.length_map, List.length_take, List.length_drop, List.length_eraseIdx, List.length_append, List.length_cons, List.length_nil, List.length_singleton]; omega) | (simp; done) | (simp; omega))) ?_)     | (with_reducible refine wp_ext_b (by (first | assumption | omega | decide | (simp only [List.length_map, List.length_take, List.length_drop, List.length_eraseIdx, List.length_append, List.length_cons, List.length_nil, List.length_singleton]; omega) | (simp; done) | (simp; omega))) ?_)     | (with_reducible refine wp_app (by (first | assumption | omega | decide | (simp only [List.length_map, List.length_take, List.length_drop, List.length_eraseIdx, List.length_append, List.length_cons, List.length_nil, List.length_singleton]; omega) | (simp; done) | (simp; omega))) ?_)     | (with_reducible refine wp_augS (by (first | assumption | omega | decide | (simp only [List.length_map, List.length_take, List.length_drop, List.length_eraseIdx, List.length_append, List.length_cons, List.length_nil, List.length_singleton]; omega) | (simp; done) | (simp; omega))) ?_)     | (with_reducible refine wp_rng2 (by (first | assumption | omega | decide | (simp only [List.length_map, List.length_take, List.length_drop, List.length_eraseIdx, List.length_append, List.length_cons, List.length_nil, List.length_singleton]; omega) | (simp; done) | (simp; omega))) (by (first | assumption | omega | decide | (simp only [List.length_map, List.length_take, List.length_drop, List.length_eraseIdx, List.length_append, List.length_cons, List.length_nil, List.length_singleton]; omega) | (simp; done) | (simp; omega))) (by (first | assumption | omega | decide | (simp only [List.length_map, List.length_take, List.length_drop, List.length_eraseIdx, List.length_append, List.length_cons, List.length_nil, List.length_singleton]; omega) | (simp; done) | (simp; omega))) (by (first | assumption | omega | decide | (simp only [List.length_map, List.length_take, List.length_drop, List.length_eraseIdx, List.length_append, List.length_cons, List.length_nil, List.length_singleton]; omega) | (simp; done) | (simp; omega))) ?_)     | (with_reducible refine wp_split (by (simp; done)) (by decide) (by (first | assumption | omega | decide | (simp only [List.length_map, List.length_take, List.length_drop, List.length_eraseIdx, List.length_append, List.length_cons, List.length_nil, List.length_singleton]; omega) | (simp; done) | (simp; omega))) ?_)     | (with_reducible refine wp_pickMr (by (first | assumption | omega | decide | (simp only [List.length_map, List.length_take, List.length_drop, List.length_eraseIdx, List.length_append, List.length_cons, List.length_nil, List.length_singleton]; omega) | (simp; done) | (simp; omega))) (by (first | assumption | omega | decide | (simp only [List.length_map, List.length_take, List.length_drop, List.length_eraseIdx, List.length_append, List.length_cons, List.length_nil, List.length_singleton]; omega) | (simp; done) | (simp; omega))) ?_; intro a ha)     | (with_reducible refine wp_pickMb (by (first | assumption | omega | decide | (simp only [List.length_map, List.length_take, List.length_drop, List.length_eraseIdx, List.length_append, List.length_cons, List.length_nil, List.length_singleton]; omega) | (simp; done) | (simp; omega))) (by (first | assumption | omega | decide | (simp only [List.length_map, List.length_take, List.length_drop, List.length_eraseIdx, List.length_append, List.length_cons, List.length_nil, List.length_singleton]; omega) | (simp; done) | (simp; omega))) ?_; intro a ha)     | (with_reducible refine wp_popXm (by (first | assumption | omega | decide | (simp only [List.length_map, List.length_take, List.length_drop, List.length_eraseIdx, List.length_append, List.length_cons, List.length_nil, List.length_singleton]; omega) | (simp; done) | (simp; omega))) (by (first | assumption | omega | decide | (simp only [List.length_map, List.length_take, List.length_drop, List.length_eraseIdx, List.length_append, List.length_cons, List.length_nil, List.length_singleton]; omega) | (simp; done) | (simp; omega))) (by (first | assumption | omega | decide | (simp only [List.length_map, List.length_take, List.length_drop, List.length_eraseIdx, List.length_append, List.length_cons, List.length_nil, List.length_singleton]; omega) | (simp; done) | (simp; omega))) ?_; intro a ha hat ls hls hll hlm)     | (simp (disch := omega) only [cut_takeI, cut_dropI])     | (with_reducible refine wp_lenS (by (first | assumption | omega | decide | (simp only [List.length_map, List.length_take, List.length_drop, List.length_eraseIdx, List.length_append, List.length_cons, List.length_nil, List.length_singleton]; omega) | (simp; done) | (simp; omega))) ?_)     | (with_reducible refine wp_slS (by (first | assumption | omega | decide | (simp only [List.length_map, List.length_take, List.length_drop, List.length_eraseIdx, List.length_append, List.length_cons, List.length_nil, List.length_singleton]; omega) | (simp; done) | (simp; omega))) ?_)     | (with_reducible refine wp_rng (by (first | decide | omega)) (by (first | decide | omega)) ?_)     | (with_reducible refine wp_pickS (by (first | decide | omega)) (by (first | assumption | omega)) (by (first | assumption | (simp; omega))) ?_; intro c hc)     | (with_reducible refine wp_pickT (by with_unfolding_all rfl) (by omega) (by (simp; omega)) ?_; intro a ha)))
/-! k11: what the law draws -/
/-- signs of texts: not beyond the common ones -/
def Tk (k : Nat) (s : List Nat) : Prop := (∀ c ∈ s, c < 127) ∧ s.length ≤ k
def let27 : List Nat := [97, 98, 99, 100, 101, 102, 103, 104, 105, 106, 107, 108, 109, 110, 111, 112, 113, 114, 115, 116, 117, 118, 119, 120, 121, 122, 45]
/-! k01: what the law draws -/

theorem draw_w {T : List D} {L : Hs} {n : Nat} {h : Hs} (j : BT T L n h) {m : Int} (h1 : 1 ≤ m) (h2 : m ≤ 1000000000000000000000000) : ok (m__law_draw [.ref n, .int m] h) fun p => ∃ x h', p = (.d (.int x), h') ∧ BT T L n h' ∧ 0 ≤ x ∧ x < m := by
  obtain ⟨x, h', e, j', x0, x1⟩ := draw_J j h1 h2
  exact ⟨_, e, x, h', rfl, j', x0, x1⟩
theorem BT.gc {T T' : List D} {L : Hs} {n : Nat} {h h' : Hs} {rv : RV} (j : BT T L n h) (j' : BT T' L n h') : BT T' L n (gc h h' rv) := by
  rw [gc_len (by rw [j'.1, j.1])]
  exact j'
theorem bag_len {T : List D} {L : Hs} {n : Nat} {h : Hs} (j : BT T L n h) : gLen [.d (.ref n)] h = some (.d (.int ((5 + T.length : Nat) : Int)), h) := by
  obtain ⟨_, ⟨c, hc, xs, i, v, s, k, e, _⟩, _⟩ := j
  subst e
  unfold bagC at hc
  rw [gLen_ref hc]
  simp only [List.length_cons]
  congr 4
  omega
/-- signs drawn of a text -/
theorem lc_w {T : List D} {L : Hs} {n k m : Nat} {te : DE} {E : F.Env} {h : Hs} (hm : m ≤ 100000) (j : BT T L n h)
    (H : ∀ d h, BT T L n h → ok (te ((wipeE E [k]).set k (.v d)) h) fun p => ∃ c h', p = (.d (.str [c]), h') ∧ c < 127 ∧ BT T L n h') :
    ok (lcK [k] (gNm k) fYes te E (rangeL 0 1 m) h) fun q => ∃ ys h', q = (.l (.lst ys), h') ∧ ys.length = m ∧ (∀ y ∈ ys, ∃ c, y = .str [c] ∧ c < 127) ∧ BT T L n h' := by
  refine wp_ok ?_
  refine wp_lcK (J := BT T L n) (P := fun y => ∃ c, y = .str [c] ∧ c < 127) (by rw [rangeL_len]; exact hm) (fun d _ h j => ?_) h j fun ys h' l p j' => ?_
  · refine (H d h j).mono fun q z => ?_
    obtain ⟨c, h', rfl, hc, j'⟩ := z
    exact ⟨_, rfl, ⟨c, rfl, hc⟩, j'⟩
  · rw [rangeL_len] at l
    exact ⟨ys, h', rfl, l, p, j'⟩
def abcM : List Nat := [97, 98, 99, 100, 101, 102, 103, 104, 105, 106, 107, 108, 109, 110, 111, 112, 113, 114, 115, 116, 117, 118, 119, 120, 121, 122]
theorem abcM_ok : ∀ c ∈ abcM, c < 127 := by decide
theorem let27_ok : ∀ c ∈ let27, c < 127 := by decide
def everyS : List Nat := [32, 33, 34, 35, 36, 38, 39, 40, 41, 42, 43, 44, 45, 46, 47, 48, 49, 50, 51, 52, 53, 54, 55, 56, 57, 58, 59, 60, 61, 62, 63, 64, 65, 66, 67, 68, 69, 70, 71, 72, 73, 74, 75, 76, 77, 78, 79, 80, 81, 82, 83, 84, 85, 86, 87, 88, 89, 90, 91, 92, 93, 94, 95, 96, 97, 98, 99, 100, 101, 102, 103, 104, 105, 106, 107, 108, 109, 110, 111, 112, 113, 114, 115, 116, 117, 118, 119, 120, 121, 122, 123, 124, 125, 126, 10]
def sgL : List (List Nat) := [everyS, [60, 62, 38, 34, 59, 32, 108, 116, 38, 103, 116, 59, 97, 109, 112, 47, 97, 98, 10], [97, 98, 99, 32, 100], [60, 38]]
theorem sgL_ok : ∀ v ∈ sgL, (∀ c ∈ v, c < 127) ∧ 1 ≤ v.length ∧ v.length ≤ 100 := by decide
theorem signs_w {T : List D} {L : Hs} {n : Nat} {h : Hs} (j : BT T L n h) {m : Int} (h0 : 0 ≤ m) (h1 : m ≤ 100) : ok (m__law_signs [.ref n, .int m] h) fun q => ∃ w h', q = (.d (.str w), h') ∧ BT T L n h' ∧ Tk m.toNat w := by
  have j0 := j
  unfold m__law_signs b__law_signs
  refine wp_ok ?_
  have ee : (D.str [32, 33, 34, 35, 36, 38, 39, 40, 41, 42, 43, 44, 45, 46, 47, 48, 49, 50, 51, 52, 53, 54, 55, 56, 57, 58, 59, 60, 61, 62, 63, 64, 65, 66, 67, 68, 69, 70, 71, 72, 73, 74, 75, 76, 77, 78, 79, 80, 81, 82, 83, 84, 85, 86, 87, 88, 89, 90, 91, 92, 93, 94, 95, 96, 97, 98, 99, 100, 101, 102, 103, 104, 105, 106, 107, 108, 109, 110, 111, 112, 113, 114, 115, 116, 117, 118, 119, 120, 121, 122, 123, 124, 125, 126, 10]) = .str everyS := rfl
  rw [ee]
  have rg : ∀ h, rngK h [.d (.int m)] = some (rangeL 0 1 m.toNat, h) := fun h => rngK_e (by omega) (by omega)
  simp_arith! only [eC_e]
  repeat' ac_rfl
  have vo := sgL_ok a ha
  generalize a = v at *
  have lv : ∀ h, gLen [.d (.str v)] h = some (.d (.int (v.length : Nat)), h) := fun h => gLen_str (by omega)
  refine wp_of (lc_w (T := T) (L := L) (n := n) (by omega) (by assumption) fun d h j => ?_) ?_
  · refine wp_ok ?_
    simp_arith! only [lv]
    repeat' ac_rfl
    exact ⟨c, _, rfl, vo.1 c hc, by assumption⟩
  rintro _ ⟨ys, h', rfl, l, p, j'⟩
  obtain ⟨w, ew, lw, pw⟩ := F.join_signs (P := fun c => c < 127) (h := h') (by omega) p
  simp_arith! only [ew]
  exact ⟨w, _, rfl, .gc j0 j', pw, by omega⟩
/-! k01: the pool -/

theorem few26 {A : Type} [BEq A] [LawfulBEq A] (f : Nat → A) (inj : ∀ i j, i < 26 → j < 26 → f i = f j → i = j) : ∀ (k : Nat) (l : List A), k ≤ 26 → (∀ j, j < k → f j ∈ l) → k ≤ l.length
  | 0, l, _, _ => Nat.zero_le _
  | k + 1, l, hk, h => by
    have hm := h k (by omega)
    have ih := few26 f inj k (l.erase (f k)) (by omega) fun j hj => (List.mem_erase_of_ne fun e => by have := inj j k (by omega) (by omega) e; omega).mpr (h j (by omega))
    rw [List.length_erase_of_mem hm] at ih
    have : 0 < l.length := List.length_pos_of_mem hm
    omega
theorem abc_inj : ∀ i j : Fin 26, some (abcM.getD i.val 0) = some (abcM.getD j.val 0) → i = j := by decide
theorem ab26 {x : Int} (h : x < 26) : x < ((abcM.length : Nat) : Int) := h
/-- five words of a pool -/
def Pw (ws : List (List Nat)) : Prop := ws.length = 5 ∧ ∀ w ∈ ws, Tk 12 w
theorem Tk.mono {a b : Nat} {s : List Nat} (h : Tk a s) (l : a ≤ b) : Tk b s := ⟨h.1, Nat.le_trans h.2 l⟩
theorem Tk.app {a b : Nat} {s t : List Nat} (h : Tk a s) (k : Tk b t) : Tk (a + b) (s ++ t) := ⟨fun c hc => (List.mem_append.mp hc).elim (h.1 c) (k.1 c), by have := h.2; have := k.2; simp; omega⟩
theorem Tk.take {a : Nat} {s : List Nat} (h : Tk a s) (k : Nat) : Tk (min k a) (s.take k) := ⟨fun c hc => h.1 c (List.mem_of_mem_take hc), by have := h.2; simp; omega⟩
theorem Tk.drop {a : Nat} {s : List Nat} (h : Tk a s) (k : Nat) : Tk a (s.drop k) := ⟨fun c hc => h.1 c (List.mem_of_mem_drop hc), by have := h.2; simp; omega⟩
theorem Tk.cut {a : Nat} {s : List Nat} (h : Tk a s) (lo hi : Option Int) : Tk a (cut s lo hi) := ⟨fun c hc => h.1 c (F.cut_mem hc), Nat.le_trans F.cut_len h.2⟩
theorem pool_w {L : Hs} {n : Nat} {h : Hs} (j : BT [] L n h) : ok (m__law_pool [.ref n] h) fun q => ∃ ws h', q = (.d (.rol (ws.map .str)), h') ∧ BT [] L n h' ∧ Pw ws := by
  have j00 := j
  have ab : (D.str [97, 98, 99, 100, 101, 102, 103, 104, 105, 106, 107, 108, 109, 110, 111, 112, 113, 114, 115, 116, 117, 118, 119, 120, 121, 122]) = .str abcM := rfl
  have lets : ∀ (m k : Nat) (E : F.Env) (h : Hs) (Q : Ho (RV × Hs)), m ≤ 12 → k < E.length → E[0]? = some (.v (.ref n)) → E[1]? = some (.v (.str abcM)) → 1 < k → BT [] L n h → (∀ ys w h', gJoin [] (.l (.lst ys)) h' = some (.d (.str w), h') → Tk m w → w.length = m → BT [] L n h' → Q.q (.l (.lst ys), h')) → @wp _ (lcK [k] (gNm k) fYes (eB gIx (eV 1) (eCall m__law_draw (aCons (eV 0) (aCons (eC (.int 26)) aNil)))) E (rangeL 0 1 m) h) Q := fun m k E h Q hm hk e0 e1 h1k j H => by
    refine wp_of (lc_w (T := []) (L := L) (n := n) (by omega) j fun d h j => ?_) ?_
    · have a0 : ((wipeE E [k]).set k (.v d))[0]? = some (.v (.ref n)) := by rw [List.getElem?_set_ne (by omega)]; simp only [wipeE]; rw [List.getElem?_set_ne (by omega)]; exact e0
      have a1 : ((wipeE E [k]).set k (.v d))[1]? = some (.v (.str abcM)) := by rw [List.getElem?_set_ne (by omega)]; simp only [wipeE]; rw [List.getElem?_set_ne (by omega)]; exact e1
      generalize (wipeE E [k]).set k (.v d) = E' at a0 a1 ⊢
      refine wp_ok ?_
      repeat' (first
    | (simp_arith! only [a0, a1]) | (with_reducible refine wp_pickS (s := abcM) (by decide) (by assumption) (ab26 (by assumption)) fun c hc => ?_)
    | ac_rfl)
      exact ⟨c, _, rfl, abcM_ok c hc, by assumption⟩
    rintro _ ⟨ys, h', rfl, l, p, j'⟩
    obtain ⟨w, ew, lw, pw⟩ := F.join_signs (P := fun c => c < 127) (h := h') (by omega) p
    exact H ys w h' ew ⟨pw, by omega⟩ (by omega) j'
  unfold m__law_pool b__law_pool
  rw [ab]
  refine wp_ok ?_
  rw [mOf_e]
  simp_arith! only [eC_e]
  repeat' ac_rfl
  rename_i style h1 j1 s0 s1 mb h2 j2 b0 b1
  refine lets (1 + mb).toNat 5 _ _ _ (by omega) (by simp) rfl rfl (by omega) (by assumption) fun ys base h3 ew tb lb j3 => ?_
  simp_arith! only [ew]
  repeat' ac_rfl
  have tb : Tk 6 base := tb.mono (by omega)
  refine wp_of (R := fun s => ∃ (fs : List (List Nat)) (x5 x6 x7 x8 : F.Slot) (h' : Hs), s = .nx [.v (.ref n), .v (.str abcM), .v (.int style), .v (.str base), .c (.lst (fs.map .str)), x5, x6, x7, x8] h' ∧ BT [] L n h' ∧ Pw fs)
    (ok_dFl (I := fun ds env h => ∃ (fs : List (List Nat)) (x5 x6 x7 x8 : F.Slot), env = [.v (.ref n), .v (.str abcM), .v (.int style), .v (.str base), .c (.lst (fs.map .str)), x5, x6, x7, x8] ∧ BT [] L n h ∧ fs.length + ds.length = 5 ∧ ∀ w ∈ fs, Tk 12 w) ?_ ?_ _ _ _ ⟨[], _, _, _, _, rfl, by assumption, by rw [rangeL_len]; rfl, fun w hw => by cases hw⟩) ?_
  · rintro d ds _ h ⟨fs, x5, x6, x7, x8, rfl, j, hl, hw⟩
    simp only [List.length_cons] at hl
    refine wp_ok ?_
    simp -implicitDefEqProofs only [gNm_e, wp_some, Ho_q, ok_wp, List.set_cons_succ, List.set_cons_zero]
    rw [dSeq_e, wp_sqS]
    refine wp_of (R := fun s => ∃ (w : List Nat) (h' : Hs), s = .nx [.v (.ref n), .v (.str abcM), .v (.int style), .v (.str base), .c (.lst (fs.map .str)), .v d, .v (.str w), x7, x8] h' ∧ BT [] L n h' ∧ Tk 6 w) ?_ ?_
    · refine wp_ok ?_
      simp_arith! only [eC_e]
      repeat' ac_rfl
      rename_i mw h4 j4 c0 c1
      refine lets (1 + mw).toNat 8 _ _ _ (by omega) (by simp) rfl rfl (by omega) (by assumption) fun ys w h5 ew tw lw j5 => ?_
      simp_arith! only [ew]
      exact ⟨w, h5, rfl, j5, tw.mono (by omega)⟩
    rintro _ ⟨w, h4, rfl, j4, tw⟩
    simp -implicitDefEqProofs only [Ho_q, sqC_nx]
    rw [dSeq_e, wp_sqS]
    refine wp_of (R := fun s => ∃ (w : List Nat) (h' : Hs), s = .nx [.v (.ref n), .v (.str abcM), .v (.int style), .v (.str base), .c (.lst (fs.map .str)), .v d, .v (.str w), x7, x8] h' ∧ BT [] L n h' ∧ Tk 12 w) ?_ ?_
    · refine wp_ok ?_
      have b1 := tb.2
      have w1 := tw.2
      have q1 : ∀ h, gSl (.d (.str base)) none (some (-1)) h = some (.d (.str (cut base none (some (-1)))), h) := fun h => gSl_str (by omega)
      have q2 : ∀ h, gSl (.d (.str w)) none (some 1) h = some (.d (.str (w.take 1)), h) := fun h => by rw [gSl_str (by omega), cut_take1]
      have t1 := tb.cut none (some (-1))
      have t2 := tw.take 1
      have q3 : ∀ h, gAdd (.d (.str (cut base none (some (-1))))) (.d (.str (w.take 1))) h = some (.d (.str (cut base none (some (-1)) ++ w.take 1)), h) := fun h => gAdd_str (by have := t1.2; have := t2.2; omega)
      have q4 : ∀ h, gAdd (.d (.str base)) (.d (.str w)) h = some (.d (.str (base ++ w)), h) := fun h => gAdd_str (by omega)
      have ng : ∀ h, gNeg (.d (.int 1)) h = some (.d (.int (-1)), h) := fun h => rfl
      have t3 := t1.app t2
      have t4 := tb.app tw
      generalize hA : cut base none (some (-1)) ++ w.take 1 = A at *
      have q5 : ∀ (x : Int) h, gSl (.d (.str (base ++ w))) none (some x) h = some (.d (.str (cut (base ++ w) none (some x))), h) := fun x h => gSl_str (by have := t4.2; omega)
      simp_arith! only [ng, q1, q2, q3, q4, q5]
      refine wp_of (draw_w j4 (by decide) (by decide)) ?_
      rintro _ ⟨x, h5, rfl, j5, x0, x1⟩
      simp_arith! only [ng, q1, q2, q3, q4, q5]
      refine wp_pickT (ls := [w, A, cut (base ++ w) none (some (1 + x))]) rfl s0 s1 fun v hv => ?_
      simp_arith! only [eC_e]
      refine ⟨v, _, rfl, j5, ?_⟩
      simp only [List.mem_cons, List.not_mem_nil, or_false] at hv
      rcases hv with rfl | rfl | rfl
      · exact tw.mono (by omega)
      · exact t3.mono (by omega)
      · exact (t4.cut _ _).mono (by omega)
    rintro _ ⟨w, h5, rfl, j5, tw⟩
    simp -implicitDefEqProofs only [Ho_q, sqC_nx]
    have gin : ∀ (w : List Nat) (h : Hs), gInN false (.d (.str w)) (.b (.lst (fs.map .str))) h = some (.d (.bl (fs.contains w)), h) := fun w h => by
      rw [gIn_sq (x := .b (.lst (fs.map .str))) (ds := fs.map .str) rfl rfl (flD_strs fs) (fun _ e => by cases e), inF_strs]
    have gx : ∀ (s : Nat) (h : Hs), s < 26 → gIx (.d (.str abcM)) (.d (.int ((s : Nat) : Int))) h = some (.d (.str [abcM.getD s 0]), h) := fun s h hs => gIx_str (by decide) (by
      rw [F.atI_nat (show s < abcM.length from hs), List.getD_eq_getElem?_getD, List.getElem?_eq_getElem (show s < abcM.length from hs)]
      rfl)
    have ac : ∀ s, s < 26 → abcM.getD s 0 < 127 := fun s hs => abcM_ok _ (by rw [List.getD_eq_getElem?_getD, List.getElem?_eq_getElem (show s < abcM.length from hs)]; exact List.getElem_mem _)
    have inj : ∀ i j, i < 26 → j < 26 → some (abcM.getD i 0) = some (abcM.getD j 0) → i = j := fun i j hi hj e => congrArg Fin.val (abc_inj ⟨i, hi⟩ ⟨j, hj⟩ e)
    simp_arith! only [eC_e]
    refine wp_of (R := fun s => ∃ (w : List Nat) (x7 : F.Slot), s = .nx [.v (.ref n), .v (.str abcM), .v (.int style), .v (.str base), .c (.lst (fs.map .str)), .v d, .v (.str w), x7, x8] h5 ∧ Tk 12 w)
      (ok_dWh (I := fun k env h => ∃ (w : List Nat) (s : Nat), env = [.v (.ref n), .v (.str abcM), .v (.int style), .v (.str base), .c (.lst (fs.map .str)), .v d, .v (.str w), .v (.int (s : Nat)), x8] ∧ h = h5 ∧ k = 8 - s ∧ s ≤ 6 ∧ Tk 12 w ∧ (s = 0 ∨ w.getLast? = some (abcM.getD (s - 1) 0)) ∧ ∀ j, j + 1 < s → some (abcM.getD j 0) ∈ fs.map List.getLast?) ?_ 100000 8 _ _ (by omega) ⟨w, 0, rfl, rfl, rfl, by omega, tw, .inl rfl, fun j hj => by omega⟩) ?_
    · rintro k _ hh ⟨w, s, rfl, eh, rfl, s6, ww, hc, hall⟩
      have eh := eh.symm
      subst eh
      refine wp_ok ?_
      simp_arith! only [gin]
      cases hin : fs.contains w with
      | false => exact ⟨w, _, rfl, ww⟩
      | true =>
        have wm : w ∈ fs := by simpa using hin
        have wl : w.getLast? ∈ fs.map List.getLast? := List.mem_map.mpr ⟨w, wm, rfl⟩
        have all2 : ∀ j, j < s → some (abcM.getD j 0) ∈ fs.map List.getLast? := fun j hj => by
          rcases Nat.lt_or_ge (j + 1) s with z | z
          · exact hall j z
          · have : j = s - 1 := by omega
            rcases hc with q | q
            · omega
            · rw [this, ← q]; exact wl
        have s5 : s ≤ 4 := by
          have := few26 (fun j => some (abcM.getD j 0)) inj s (fs.map List.getLast?) (by omega) all2
          simp at this
          omega
        have gxs := fun h => gx s h (by omega)
        have w12 := ww.2
        have st : ∀ h, gSl (.d (.str w)) none (some 7) h = some (.d (.str (w.take 7)), h) := fun h => by rw [gSl_str (by omega), show (7 : Int) = ((7 : Nat) : Int) from rfl, cut_take]
        have ga : ∀ h, gAdd (.d (.str (w.take 7))) (.d (.str [abcM.getD s 0])) h = some (.d (.str (w.take 7 ++ [abcM.getD s 0])), h) := fun h => gAdd_str (by simp; omega)
        refine wp_ok ?_
        simp_arith! only [st, gxs, ga]
        refine ⟨8 - (s + 1), by omega, _, s + 1, rfl, trivial, rfl, by omega, ⟨fun c hc => ?_, by simp; omega⟩, .inr (by simp), fun j hj => all2 j (by omega)⟩
        rcases List.mem_append.mp hc with z | z
        · exact ww.1 c (List.mem_of_mem_take z)
        · rw [List.mem_singleton.mp z]; exact ac s (by omega)
    rintro _ ⟨w, x7, rfl, ww⟩
    have ap := appS_e (i := 4) (env := [.v (.ref n), .v (.str abcM), .v (.int style), .v (.str base), .c (.lst (fs.map .str)), .v d, .v (.str w), x7, x8]) (h := h5) (ds := fs.map .str) (d := .str w) (by simp; omega)
    simp_arith! only [eC_e]
    rw [ap]
    simp_arith! only [eC_e]
    refine ⟨fs ++ [w], .v d, .v (.str w), x7, x8, ?_, j5, by simp; omega, fun v hv => ?_⟩
    · simp
    · rcases List.mem_append.mp hv with z | z
      · exact hw v z
      · rw [List.mem_singleton.mp z]; exact ww
  · rintro _ h ⟨fs, x5, x6, x7, x8, rfl, j, hl, hw⟩
    exact ⟨fs, x5, x6, x7, x8, h, rfl, j, by simpa using hl, hw⟩
  rintro _ ⟨fs, x5, x6, x7, x8, h', rfl, j', hp⟩
  simp_arith! only [eC_e]
  exact ⟨fs, _, rfl, .gc j00 j', hp⟩
def okT (T : List D) : Prop := T = [] ∨ ∃ ws : List (List Nat), T = [.rol (ws.map .str)] ∧ Pw ws
theorem word_w {T : List D} {L : Hs} {n : Nat} {h : Hs} (hT : okT T) (j : BT T L n h) : ok (m__law_word [.ref n] h) fun q => ∃ w h' T', q = (.d (.str w), h') ∧ okT T' ∧ BT T' L n h' ∧ Tk 12 w := by
  have j0 := j
  have bl := bag_len j
  have main : ∀ (ws : List (List Nat)) (h1 : Hs), Pw ws → BT [.rol (ws.map .str)] L n h1 → ok (eFrz (eB gIx (eB gIx (eV 0) (eC (.int 5))) (eCall m__law_draw (aCons (eV 0) (aCons (eC (.int 5)) aNil)))) [.v (.ref n)] h1) fun q => ∃ w h', q = (.d (.str w), h') ∧ BT [.rol (ws.map .str)] L n h' ∧ Tk 12 w := fun ws h1 hp j1 => by
    have g5 : ixK 5 h1 h1[n]? = some (.d (.rol (ws.map .str)), h1) := by
      obtain ⟨l, ⟨cc, hc, xs, i, v, s, k, eb, B3⟩, fr⟩ := j1
      subst eb
      unfold bagC at hc
      rw [hc, ixK_e, show (5 : Int) = ((5 : Nat) : Int) from rfl, F.atI_nat (by simp)]
      rfl
    refine wp_ok ?_
    simp_arith! only [g5]
    refine wp_of (draw_w j1 (by decide) (by decide)) ?_
    rintro _ ⟨x, h2, rfl, j2, x0, x1⟩
    simp_arith! only [eC_e]
    refine wp_pickMr x0 (by rw [hp.1]; exact x1) fun v hv => ?_
    simp_arith! only [eC_e]
    exact ⟨v, _, rfl, j2, hp.2 v hv⟩
  unfold m__law_word b__law_word
  refine wp_ok ?_
  rw [mOf_e]
  rcases hT with rfl | ⟨ws, rfl, hp⟩
  · have c1 : decide (((5 : Nat) : Int) < 6) = true := rfl
    obtain ⟨q, e, ws, h1, rfl, j1, hp⟩ := pool_w j
    have hn : ∃ ds, h[n]? = some (.lst ds) := by
      obtain ⟨l, ⟨cc, hc, xs, i, v, s, k, eb, B3⟩, fr⟩ := j
      subst eb
      exact ⟨_, hc⟩
    obtain ⟨ds, hn⟩ := hn
    have ap : ∃ h2, (∀ env : F.Env, appC n env h1 (.rol (ws.map .str)) = some (.nx env h2)) ∧ BT [.rol (ws.map .str)] L n h2 := by
      obtain ⟨l, ⟨cc, hc, xs, i, v, s, k, eb, B3⟩, fr⟩ := j1
      subst eb
      refine ⟨h1.set n (bagC [.rol (ws.map .str)] xs i v s k), fun env => ?_, by simpa using l, ⟨_, List.getElem?_set_self (List.getElem?_eq_some_iff.mp hc).1, xs, i, v, s, k, rfl, B3⟩, fun i hi => by rw [List.getElem?_set_ne (fun z => hi z.symm)]; exact fr i hi⟩
      unfold bagC at hc ⊢
      rw [appC_e hc (by simp)]
      rfl
    obtain ⟨h2, ap, j2⟩ := ap
    obtain ⟨q, e2, w, h3, rfl, j3, tw⟩ := main ws h2 hp j2
    simp -implicitDefEqProofs only [dSeq_e, dIf_e, fB_e, eB_e, eF_e, aCons_e, aNil_e, eV_e, eC_e, List.map_cons, List.map_nil, List.cons_append, List.nil_append, List.length_cons, List.length_nil, Nat.zero_add, Nat.reduceAdd, Nat.reduceSub, Nat.add_zero, List.replicate_zero, List.getElem?_cons_zero, rdS_v, bd_some, bl, gLt_int, c1, bK_eq, cond_true, dAppR_e, rfK_e, lsK_e, hn, eCall_e, plain_nil, plain_cons, e, callR_d, dK_eq, ap, sqS_nx, dRet_e, e2, retR_d, fin_rt, wp_some, Ho_q]
    exact ⟨w, _, _, rfl, .inr ⟨ws, rfl, hp⟩, .gc j0 j3, tw⟩
  · have c1 : decide (((6 : Nat) : Int) < 6) = false := rfl
    obtain ⟨q, e2, w, h3, rfl, j3, tw⟩ := main ws h hp j
    simp -implicitDefEqProofs only [dSeq_e, dIf_e, dNil_e, fB_e, eB_e, eF_e, aCons_e, aNil_e, eV_e, eC_e, List.map_cons, List.map_nil, List.cons_append, List.nil_append, List.length_cons, List.length_nil, Nat.zero_add, Nat.reduceAdd, Nat.reduceSub, Nat.add_zero, List.replicate_zero, List.getElem?_cons_zero, rdS_v, bd_some, bl, gLt_int, c1, bK_eq, cond_false, sqS_nx, dRet_e, e2, retR_d, fin_rt, wp_some, Ho_q]
    exact ⟨w, _, _, rfl, .inr ⟨ws, rfl, hp⟩, .gc j0 j3, tw⟩
theorem wp_pickN {ds : List D} {x : Int} {h : Hs} {P : Int → Prop} {Q : Ho (RV × Hs)} (h0 : 0 ≤ x) (h1 : x < (ds.length : Nat)) (hd : ∀ d ∈ ds, ∃ i, d = .int i ∧ P i) (H : ∀ i, P i → Q.q (.d (.int i), h)) : @wp _ (gIx (.l (.lst ds)) (.d (.int x)) h) Q :=
  wp_pick h0 h1 fun d hm => by
    obtain ⟨i, rfl, p⟩ := hd d hm
    exact H i p
end W
namespace W
open PySem hiding Env
open L2 F
set_option hygiene false
local macro_rules | `(tactic| simp_arith only [$as,*]) => `(tactic| simp -implicitDefEqProofs only [$as,*, dSeq_e, dNil_e, dIf_e, dSet_e, dRet_e, dExpr_e, dAsg_e, dFor_e, eC_e, eV_e, eB_e, eU_e, fB_e, eCh_e, fAnd_e, fOr_e, fNot_e, fYes_e, eIf_e, eNot_e, eAnd_e, eOr_e, aNil_e, aCons_e,  plain_nil, plain_cons, eTup_e, eLst_e, frzR_l, frzR_d, eFrz_e, newR_l, eNew_e, oN_e, oI_e, eSl_e, eF_e, eM1_e, eIsi_e, eKget_e, eKin_e, callR_d, callR_l, eCall_e, sqS_nx, sqS_rt, sqS_none, sqS_cond,  bd_some, bd_none, bd_cond, bK_eq, iK_eq, sK_eq, dK_eq, rdS_v, rdS_c, setR_d, setR_l, retR_d, retR_l, retR_b, gTp_e, gNm_e, gAll_nil, gAll_cons, fin_rt, fin_nx, fin_none, fin_cond, mOf_e, gc_same, rnd_nx, rnd_ct, rnd_bk, rnd_rt, rnd_none, rnd_cond,  iE_e, itR_rol, itR_scr, itR_l, itR_tup, itR_str, iR1_e, eLc_e, List.getElem?_cons_zero, List.getElem?_cons_succ, List.set_cons_zero, List.set_cons_succ, List.map_cons, List.map_nil, List.length_cons, List.length_nil, List.cons_append, List.nil_append,  List.replicate_succ, List.replicate_zero, Nat.reduceSub, Nat.reduceAdd, Nat.zero_add, List.reduceReplicate, cond_true, cond_false, gEq_str, gNe_str, gEq_int, gNe_int, gEq_bl, gNe_bl, gLt_int, gLe_int, gGt_int, gGe_int, gAdd_int, gSub_e, gNeg_e, gIn_sign, gNi_sign, gIs_e, gIsNot_e, gLen_rol, gLen_scr, gLen_tup, gLen_l, gLen_b, gSl_tup, gSl_rol, gSl_scr, gInt_bl, gAbs_e, gTupOf_rol, gTupOf_b,  wipeE, tupK_0, tupK_1, tupK_2, tupK_3, tupK_4, tupK_5, tupK_6, tupK_7, tupK_8, lstK_0, lstK_1, lstK_2, lstK_3, lstK_4, lstK_5, lstK_6, lstK_7, lstK_8, one_eq, inF_cons, inF_nil, cut_take1, cut_drop1, Bool.or_false, Bool.not_true, Bool.not_false, dApp_e, slK_c, appS_e, dFrz_e, frK_c, frK_v, dPut_e, rfK_e, Nat.reduceLeDiff, dFl_cons, dFl_nil, lcK_one, ixK_e, gIx_ref_e, ptK_e, putS_k, ix5_0, ix5_1, ix5_2, ix5_3, ix5_4, at5_0, at5_1, at5_2, at5_3, at5_4, List.set_set])
local macro_rules | `(tactic| simp_arith! only [$as,*]) => `(tactic| simp -implicitDefEqProofs only [$as,*, dSeq_e, dNil_e, dIf_e, dSet_e, dRet_e, dExpr_e, dAsg_e, dFor_e, eC_e, eV_e, eB_e, eU_e, fB_e, eCh_e, fAnd_e, fOr_e, fNot_e, fYes_e, eIf_e, eNot_e, eAnd_e, eOr_e, aNil_e, aCons_e, plain_nil, plain_cons, eTup_e, eLst_e, frzR_l, frzR_d, eFrz_e, newR_l, eNew_e, oN_e, oI_e, eSl_e, eF_e, eM1_e, eIsi_e, eKget_e, eKin_e, eCall_e, bd_none, bK_eq, iK_eq, sK_eq, dK_eq, rdS_v, rdS_c, setR_d, setR_l, retR_d, retR_l, retR_b, gTp_e, gNm_e, gAll_nil, gAll_cons, mOf_e, iE_e, itR_rol, itR_scr, itR_l, itR_tup, itR_str, iR1_e, eLc_e, List.getElem?_cons_zero, List.getElem?_cons_succ, List.set_cons_zero, List.set_cons_succ, List.map_cons, List.map_nil, List.length_cons, List.length_nil, List.cons_append, List.nil_append, List.replicate_succ, List.replicate_zero, Nat.reduceSub, Nat.reduceAdd, Nat.zero_add, List.reduceReplicate, cond_true, cond_false, gEq_str, gNe_str, gEq_int, gNe_int, gEq_bl, gNe_bl, gLt_int, gLe_int, gGt_int, gGe_int, gAdd_int, gSub_e, gNeg_e, gIn_sign, gNi_sign, gIs_e, gIsNot_e, gLen_rol, gLen_scr, gLen_tup, gLen_l, gLen_b, gSl_tup, gSl_rol, gSl_scr, gInt_bl, gAbs_e, gTupOf_rol, gTupOf_b, wipeE, tupK_0, tupK_1, tupK_2, tupK_3, tupK_4, tupK_5, tupK_6, tupK_7, tupK_8, lstK_0, lstK_1, lstK_2, lstK_3, lstK_4, lstK_5, lstK_6, lstK_7, lstK_8, one_eq, inF_cons, inF_nil, cut_take1, cut_drop1, Bool.or_false, Bool.not_true, Bool.not_false, dApp_e, slK_c, appS_e, dFrz_e, frK_c, frK_v, dPut_e, rfK_e, Nat.reduceLeDiff, dFl_cons, dFl_nil, lcK_one, ixK_e, gIx_ref_e, ptK_e, putS_k, ix5_0, ix5_1, ix5_2, ix5_3, ix5_4, at5_0, at5_1, at5_2, at5_3, at5_4, List.set_set, Int.cast_ofNat_Int, Int.reduceAdd, Int.reduceSub, Int.reduceMul, Int.reduceNeg, Int.reduceLT, Int.reduceLE, Int.reduceEq, Int.reduceNe, Int.reduceBEq, decide_true, decide_false, ixr0, ixr1, ixr2, drop1c, drop2c, take1c, gSl_l, gSl_b, dExtO_e, dPopX_e, dPopO_e, dPutO_e, iR2_e, iEn_e, enK_e, eMN_e, gFind3_e, gStarts3_e, gAug_int, gAugS_int, gInt_int, gMax2_e, gMin2_e, gLstOf_rol, gLstOf_tup, gLstOf_l, gTupOf_l, ixb0, ixt0, ixt1, ixt2, eMinDf_e, gMinDf_l, eBack_e, gBack_rol, gBack_b, dPar_e, eDNew_e, dDPut_e, dcK_c, eDGt_e, dv_b, dvK_some, dgtS_i, gDi_t, gDi_f, eDsp_e, dspK_2, eCallK_e, isNon_rol, isNon_non, List.length_map, List.length_append, ok_wp, wp_some, wp_bd, wp_sqS, wp_rnd, wp_fin, wp_callR, Ho_q, sqC_nx, sqC_rt, sqC_bk, sqC_ct, rndC_nx, rndC_ct, rndC_bk, rndC_rt, finC_rt, finC_nx, callC_d, callC_l, Bool.false_eq_true, if_true, if_false])
/-! k11: names, worths, how many -/
theorem name_w {T : List D} {L : Hs} {n : Nat} {h : Hs} (hT : okT T) (j : BT T L n h) : ok (m__law_name [.ref n] h) fun q => ∃ w h' T', q = (.d (.str w), h') ∧ okT T' ∧ BT T' L n h' ∧ Tk 12 w := by
  have j0 := j
  unfold m__law_name b__law_name
  refine wp_ok ?_
  rw [mOf_e]
  simp_arith! only [eC_e]
  refine wp_of (word_w hT j) ?_
  rintro _ ⟨w, h1, T', rfl, hT', j1, tw⟩
  simp_arith! only [eC_e]
  refine wp_of (draw_w j1 (by decide) (by decide)) ?_
  rintro _ ⟨x, h2, rfl, j2, x0, x1⟩
  simp_arith! only [eC_e]
  refine wp_pickT (ls := [[112], [98], [115, 99, 114, 105, 112, 116], [112, 97, 103, 101], [105, 116, 101, 109], w, w, w]) rfl x0 x1 fun v hv => ?_
  simp_arith! only [eC_e]
  refine ⟨v, _, _, rfl, hT', .gc j0 j2, ?_⟩
  simp only [List.mem_cons, List.not_mem_nil, or_false] at hv
  have fx : ∀ v : List Nat, (∀ c ∈ v, c < 127) ∧ v.length ≤ 12 → Tk 12 v := fun v h => h
  rcases hv with rfl | rfl | rfl | rfl | rfl | rfl | rfl | rfl
  · exact fx _ (by decide)
  · exact fx _ (by decide)
  · exact fx _ (by decide)
  · exact fx _ (by decide)
  · exact fx _ (by decide)
  · exact tw
  · exact tw
  · exact tw
abbrev Wt := List Nat × List Nat
def wtD (w : Wt) : D := .tup [.str w.1, .str w.2]
def wtK (w : Wt) : D × D := (.str w.1, .str w.2)
def WtOk (ws : List Wt) : Prop := ws.length ≤ 4 ∧ ∀ w ∈ ws, Tk 12 w.1 ∧ Tk 6 w.2
theorem put_wt (k v : List Nat) (hk : Tk 12 k) (hv : Tk 6 v) (ws : List Wt) (h : ∀ w ∈ ws, Tk 12 w.1 ∧ Tk 6 w.2) : ∃ ws' : List Wt, putL (ws.map wtK) (.str k) (.str v) = ws'.map wtK ∧ ws'.length ≤ ws.length + 1 ∧ ∀ w ∈ ws', Tk 12 w.1 ∧ Tk 6 w.2 := by
  unfold putL
  split
  · refine ⟨ws.map fun w => if keyEq (.str w.1) (.str k) = true then (w.1, v) else w, ?_, by simp, fun w hw => ?_⟩
    · rw [List.map_map, List.map_map]
      refine List.map_congr_left fun w _ => ?_
      show (if keyEq (.str w.1) (.str k) = true then ((.str w.1 : D), (.str v : D)) else wtK w) = wtK (if keyEq (.str w.1) (.str k) = true then (w.1, v) else w)
      by_cases z : keyEq (.str w.1) (.str k) = true
      · rw [if_pos z, if_pos z]; rfl
      · rw [if_neg z, if_neg z]
    · obtain ⟨u, hu, rfl⟩ := List.mem_map.mp hw
      split
      · exact ⟨(h u hu).1, hv⟩
      · exact h u hu
  · refine ⟨ws ++ [(k, v)], by simp [wtK], by simp, fun w hw => ?_⟩
    rcases List.mem_append.mp hw with z | z
    · exact h w z
    · rw [List.mem_singleton.mp z]; exact ⟨hk, hv⟩
theorem worths_w {T : List D} {L : Hs} {n : Nat} {h : Hs} (hT : okT T) (j : BT T L n h) : ok (m__law_worths [.ref n] h) fun q => ∃ ws h' T', q = (.d (.tup (ws.map wtD)), h') ∧ okT T' ∧ BT T' L n h' ∧ WtOk ws := by
  have j0 := j
  unfold m__law_worths b__law_worths
  refine wp_ok ?_
  rw [mOf_e]
  simp_arith! only [eC_e]
  refine wp_of (draw_w j (by decide) (by decide)) ?_
  rintro _ ⟨x, h1, rfl, j1, x0, x1⟩
  simp_arith! only [eC_e]
  refine wp_of (draw_w j1 (by decide) (by decide)) ?_
  rintro _ ⟨y, h2, rfl, j2, y0, y1⟩
  obtain ⟨m, em, m0, m4⟩ : ∃ m : Int, (∀ h, gMul (.d (.int x)) (.d (.int (if (y == 0) = true then 1 else 0))) h = some (.d (.int m), h)) ∧ 0 ≤ m ∧ m ≤ 4 := by
    refine ⟨x * (if (y == 0) = true then 1 else 0), fun h => gMul_int (.inl (by omega)), ?_, ?_⟩ <;> split <;> omega
  have rg : ∀ h, rngK h [.d (.int m)] = some (rangeL 0 1 m.toNat, h) := fun h => rngK_e (by omega) (by omega)
  simp_arith! only [em, rg]
  refine wp_of (R := fun s => ∃ (ws : List Wt) (x2 : F.Slot) (T' : List D) (h' : Hs), s = .nx [.v (.ref n), .c (.dct (ws.map wtK)), x2] h' ∧ okT T' ∧ BT T' L n h' ∧ WtOk ws)
    (ok_dFl (I := fun ds env h => ∃ (ws : List Wt) (x2 : F.Slot) (T' : List D), env = [.v (.ref n), .c (.dct (ws.map wtK)), x2] ∧ okT T' ∧ BT T' L n h ∧ ws.length + ds.length ≤ 4 ∧ ∀ w ∈ ws, Tk 12 w.1 ∧ Tk 6 w.2) ?_ ?_ _ _ _ ⟨[], _, T, rfl, hT, j2, by rw [rangeL_len]; simp; omega, fun w hw => by cases hw⟩) ?_
  · rintro d ds _ h ⟨ws, x2, T', rfl, hT', j, hz, hw⟩
    simp only [List.length_cons] at hz
    refine wp_ok ?_
    simp_arith! only [gNm_e]
    refine wp_of (draw_w j (by decide) (by decide)) ?_
    rintro _ ⟨a, h1, rfl, j1, a0, a1⟩
    simp_arith! only [eC_e]
    refine wp_of (signs_w j1 a0 (by omega)) ?_
    rintro _ ⟨v, h2, rfl, j2, tv⟩
    simp_arith! only [eC_e]
    refine wp_of (word_w hT' j2) ?_
    rintro _ ⟨w, h3, T2, rfl, hT2, j3, tw⟩
    simp_arith! only [eC_e]
    refine wp_of (draw_w j3 (by decide) (by decide)) ?_
    rintro _ ⟨b, h4, rfl, j4, b0, b1⟩
    simp_arith! only [eC_e]
    refine wp_pickT (ls := [[105, 100], [99, 108, 97, 115, 115], [108, 111, 111, 107], w]) rfl b0 b1 fun k hk => ?_
    have tk : Tk 12 k := by
      simp only [List.mem_cons, List.not_mem_nil, or_false] at hk
      have fx : ∀ v : List Nat, (∀ c ∈ v, c < 127) ∧ v.length ≤ 12 → Tk 12 v := fun v h => h
      rcases hk with rfl | rfl | rfl | rfl
      · exact fx _ (by decide)
      · exact fx _ (by decide)
      · exact fx _ (by decide)
      · exact tw
    obtain ⟨ws', e1, e2, e3⟩ := put_wt k v tk (tv.mono (by omega)) ws hw
    have ds1 : (ws.map wtK).length < sizeLine := by
      have : sizeLine > 1000 := by decide
      simp; omega
    have dp := fun env h => dputS_e (i := 1) (env := env) (h := h) (kvs := ws.map wtK) (k := .str k) (d := .str v) rfl (by simp; omega)
    rw [e1] at dp
    simp_arith! only [dp]
    exact ⟨ws', _, T2, rfl, hT2, j4, by omega, e3⟩
  · rintro _ h ⟨ws, x2, T', rfl, hT', j, hz, hw⟩
    exact ⟨ws, x2, T', h, rfl, hT', j, by simp at hz; exact hz, hw⟩
  rintro _ ⟨ws, x2, T', h3, rfl, hT', j3, hw⟩
  have ti := fun env h e => eTupItems_e (fo := eV 1) (env := env) (h := h) (h1 := h) (kvs := ws.map wtK) e
  have pm : (ws.map wtK).map pairD = ws.map wtD := by rw [List.map_map]; rfl
  rw [pm] at ti
  have ti2 := ti [.v (.ref n), .c (.dct (ws.map wtK)), x2] h3 rfl
  simp_arith! only [ti2]
  exact ⟨ws, _, _, rfl, hT', .gc j0 j3, hw⟩
theorem most_w {T : List D} {L : Hs} {n : Nat} {h : Hs} (j : BT T L n h) : ok (m__law_most [.ref n] h) fun q => ∃ m h', q = (.d (.int m), h') ∧ BT T L n h' ∧ 0 ≤ m ∧ m ≤ 120 := by
  have j0 := j
  unfold m__law_most b__law_most
  refine wp_ok ?_
  rw [mOf_e]
  simp_arith! only [eC_e]
  refine wp_of (draw_w j (by decide) (by decide)) ?_
  rintro _ ⟨x, h1, rfl, j1, x0, x1⟩
  simp_arith! only [eC_e]
  refine wp_of (draw_w j1 (by decide) (by decide)) ?_
  rintro _ ⟨y, h2, rfl, j2, y0, y1⟩
  simp_arith! only [eC_e]
  refine wp_of (draw_w j2 (by decide) (by decide)) ?_
  rintro _ ⟨z, h3, rfl, j3, z0, z1⟩
  simp_arith! only [eC_e]
  refine wp_of (draw_w j3 (by decide) (by decide)) ?_
  rintro _ ⟨w, h4, rfl, j4, w0, w1⟩
  simp_arith! only [eC_e]
  refine wp_pickN (P := fun i => 0 ≤ i ∧ i ≤ 120) w0 w1 (fun d hd => ?_) fun m hm => ?_
  · simp only [List.mem_cons, List.not_mem_nil, or_false] at hd
    rcases hd with rfl | rfl | rfl | rfl
    · exact ⟨_, rfl, x0, by omega⟩
    · exact ⟨_, rfl, y0, by omega⟩
    · exact ⟨_, rfl, z0, by omega⟩
    · exact ⟨_, rfl, by decide, by decide⟩
  simp_arith! only [eC_e]
  exact ⟨m, _, rfl, .gc j0 j4, hm⟩
end W
namespace W
open PySem hiding Env
open L2 F
set_option hygiene false
local macro_rules | `(tactic| simp_arith only [$as,*]) => `(tactic| simp -implicitDefEqProofs only [$as,*, dSeq_e, dNil_e, dIf_e, dSet_e, dRet_e, dExpr_e, dAsg_e, dFor_e, eC_e, eV_e, eB_e, eU_e, fB_e, eCh_e, fAnd_e, fOr_e, fNot_e, fYes_e, eIf_e, eNot_e, eAnd_e, eOr_e, aNil_e, aCons_e,  plain_nil, plain_cons, eTup_e, eLst_e, frzR_l, frzR_d, eFrz_e, newR_l, eNew_e, oN_e, oI_e, eSl_e, eF_e, eM1_e, eIsi_e, eKget_e, eKin_e, callR_d, callR_l, eCall_e, sqS_nx, sqS_rt, sqS_none, sqS_cond,  bd_some, bd_none, bd_cond, bK_eq, iK_eq, sK_eq, dK_eq, rdS_v, rdS_c, setR_d, setR_l, retR_d, retR_l, retR_b, gTp_e, gNm_e, gAll_nil, gAll_cons, fin_rt, fin_nx, fin_none, fin_cond, mOf_e, gc_same, rnd_nx, rnd_ct, rnd_bk, rnd_rt, rnd_none, rnd_cond,  iE_e, itR_rol, itR_scr, itR_l, itR_tup, itR_str, iR1_e, eLc_e, List.getElem?_cons_zero, List.getElem?_cons_succ, List.set_cons_zero, List.set_cons_succ, List.map_cons, List.map_nil, List.length_cons, List.length_nil, List.cons_append, List.nil_append,  List.replicate_succ, List.replicate_zero, Nat.reduceSub, Nat.reduceAdd, Nat.zero_add, List.reduceReplicate, cond_true, cond_false, gEq_str, gNe_str, gEq_int, gNe_int, gEq_bl, gNe_bl, gLt_int, gLe_int, gGt_int, gGe_int, gAdd_int, gSub_e, gNeg_e, gIn_sign, gNi_sign, gIs_e, gIsNot_e, gLen_rol, gLen_scr, gLen_tup, gLen_l, gLen_b, gSl_tup, gSl_rol, gSl_scr, gInt_bl, gAbs_e, gTupOf_rol, gTupOf_b,  wipeE, tupK_0, tupK_1, tupK_2, tupK_3, tupK_4, tupK_5, tupK_6, tupK_7, tupK_8, lstK_0, lstK_1, lstK_2, lstK_3, lstK_4, lstK_5, lstK_6, lstK_7, lstK_8, one_eq, inF_cons, inF_nil, cut_take1, cut_drop1, Bool.or_false, Bool.not_true, Bool.not_false, dApp_e, slK_c, appS_e, dFrz_e, frK_c, frK_v, dPut_e, rfK_e, Nat.reduceLeDiff, dFl_cons, dFl_nil, lcK_one, ixK_e, gIx_ref_e, ptK_e, putS_k, ix5_0, ix5_1, ix5_2, ix5_3, ix5_4, at5_0, at5_1, at5_2, at5_3, at5_4, List.set_set])
/-! k11: trees; how they lie in the heap while they grow -/
def wTx : List Nat := [116, 101, 120, 116]
def wTg : List Nat := [116, 97, 103]
inductive Tr where
  | tx (s : List Nat)
  | tg (nm : List Nat) (ws : List Wt) (cs : List Tr)
mutual
def trD : Tr → D
  | .tx s => .tup [.str wTx, .str s]
  | .tg nm ws cs => .tup [.str wTg, .str nm, .tup (ws.map wtD), .tup (trDs cs)]
def trDs : List Tr → List D
  | [] => []
  | t :: ts => trD t :: trDs ts
end
mutual
def sz : Tr → Nat
  | .tx _ => 1
  | .tg _ _ cs => 1 + szs cs
def szs : List Tr → Nat
  | [] => 0
  | t :: ts => sz t + szs ts
end
theorem trDs_map : ∀ ts : List Tr, trDs ts = ts.map trD
  | [] => rfl
  | t :: ts => by rw [trDs, trDs_map ts]; rfl
theorem szs_sum : ∀ ts : List Tr, szs ts = (ts.map sz).sum
  | [] => rfl
  | t :: ts => by rw [szs, szs_sum ts]; simp
inductive Ch where
  | tx (s : List Nat)
  | tg (k : Nat)
structure Nd where
  nm : List Nat
  ws : List Wt
  cs : List Ch
  dep : Nat
def chD (L : Nat) : Ch → D
  | .tx s => .rol [.str wTx, .str s]
  | .tg k => .ref (L + 2 * k + 1)
def cs0 (L : Nat) (nd : Nd) : Cell := .lst (nd.cs.map (chD L))
def cs1 (L k : Nat) (nd : Nd) : Cell := .lst [.str wTg, .str nd.nm, .tup (nd.ws.map wtD), .ref (L + 2 * k)]
/-- the tree at a tag -/
def unf (ts : List Nd) : Nat → Nat → Tr
  | 0, _ => .tx []
  | f + 1, k => match ts[k]? with
    | some nd => .tg nd.nm nd.ws (nd.cs.map fun c => match c with
      | .tx s => .tx s
      | .tg j => unf ts f j)
    | none => .tx []
def unC (ts : List Nd) (f : Nat) : Ch → Tr
  | .tx s => .tx s
  | .tg j => unf ts f j
theorem unf_succ {ts : List Nd} {f k : Nat} {nd : Nd} (h : ts[k]? = some nd) : unf ts (f + 1) k = .tg nd.nm nd.ws (nd.cs.map (unC ts f)) := by
  rw [unf, h]
  show Tr.tg nd.nm nd.ws (nd.cs.map _) = _
  rw [List.map_congr_left (g := unC ts f)]
  intro c _
  cases c <;> rfl
/-- the heap lies so: what was there, then two cells for each tag -/
structure HG (base : Hs) (ts : List Nd) (h : Hs) : Prop where
  len : h.length = base.length + 2 * ts.length
  cel : ∀ k nd, ts[k]? = some nd → h[base.length + 2 * k]? = some (cs0 base.length nd) ∧ h[base.length + 2 * k + 1]? = some (cs1 base.length k nd)
  low : ∀ i, i < base.length → h[i]? = base[i]?
theorem HG.start (base : Hs) : HG base [] base := ⟨by simp, fun k nd e => by simp at e, fun i _ => rfl⟩
theorem HG.new {base : Hs} {ts : List Nd} {h : Hs} (g : HG base ts h) {nd : Nd} : HG base (ts ++ [nd]) (h ++ [cs0 base.length nd, cs1 base.length ts.length nd]) := by
  refine ⟨by simp [g.len]; omega, fun k d e => ?_, fun i hi => ?_⟩
  · rcases Nat.lt_or_ge k ts.length with z | z
    · rw [List.getElem?_append_left z] at e
      have hl := g.len
      rw [List.getElem?_append_left (by omega), List.getElem?_append_left (by omega)]
      exact g.cel k d e
    · rw [List.getElem?_append_right z] at e
      have hk : k = ts.length := by
        have := (List.getElem?_eq_some_iff.mp e).1
        simp at this
        omega
      subst hk
      simp at e
      subst e
      have hl := g.len
      rw [List.getElem?_append_right (by omega), List.getElem?_append_right (by omega), hl]
      constructor
      · rw [show base.length + 2 * ts.length - (base.length + 2 * ts.length) = 0 by omega]; rfl
      · rw [show base.length + 2 * ts.length + 1 - (base.length + 2 * ts.length) = 1 by omega]; rfl
  · have hl := g.len
    rw [List.getElem?_append_left (by omega)]
    exact g.low i hi
theorem HG.push {base : Hs} {ts : List Nd} {h : Hs} (g : HG base ts h) {p : Nat} {nd : Nd} (e : ts[p]? = some nd) (c : Ch) : HG base (ts.set p { nd with cs := nd.cs ++ [c] }) (h.set (base.length + 2 * p) (cs0 base.length { nd with cs := nd.cs ++ [c] })) := by
  have hp : p < ts.length := (List.getElem?_eq_some_iff.mp e).1
  have hl := g.len
  refine ⟨by simp [g.len], fun k d e2 => ?_, fun i hi => ?_⟩
  · by_cases hk : p = k
    · subst hk
      rw [List.getElem?_set_self hp] at e2
      cases e2
      refine ⟨List.getElem?_set_self (by omega), ?_⟩
      rw [List.getElem?_set_ne (by omega)]
      exact (g.cel p nd e).2
    · rw [List.getElem?_set_ne hk] at e2
      rw [List.getElem?_set_ne (by omega), List.getElem?_set_ne (by omega)]
      exact g.cel k d e2
  · rw [List.getElem?_set_ne (by omega)]
    exact g.low i hi
/-- .. but for the bag -/
theorem BT.app {T : List D} {L : Hs} {n : Nat} {h X : Hs} (j : BT T L n h) (hn : n < L.length) : BT T (L ++ X) n (h ++ X) := by
  obtain ⟨l, ⟨c, hc, B⟩, fr⟩ := j
  refine ⟨by simp [l], ⟨c, by rw [List.getElem?_append_left (by omega)]; exact hc, B⟩, fun i hi => ?_⟩
  rcases Nat.lt_or_ge i L.length with z | z
  · rw [List.getElem?_append_left (by omega), List.getElem?_append_left z]
    exact fr i hi
  · rw [List.getElem?_append_right (by omega), List.getElem?_append_right z, l]
theorem BT.set {T : List D} {L : Hs} {n i : Nat} {c : Cell} {h : Hs} (j : BT T L n h) (hi : i ≠ n) : BT T (L.set i c) n (h.set i c) := by
  obtain ⟨l, ⟨c', hc, B⟩, fr⟩ := j
  refine ⟨by simp [l], ⟨c', by rw [List.getElem?_set_ne hi]; exact hc, B⟩, fun k hk => ?_⟩
  by_cases z : i = k
  · subst z
    rcases Nat.lt_or_ge i L.length with y | y
    · rw [List.getElem?_set_self (by omega), List.getElem?_set_self y]
    · rw [List.getElem?_eq_none (by simp; omega), List.getElem?_eq_none (by simp; omega)]
  · rw [List.getElem?_set_ne z, List.getElem?_set_ne z]
    exact fr k hk
def chF (f : Nat → Nat) (u : Nat) : Ch → Nat
  | .tg j => f j
  | .tx _ => u
def csF (f : Nat → Nat) (u : Nat) (nd : Nd) : Nat := (nd.cs.map (chF f u)).sum
/-- what holds of the tags -/
structure GI (ts : List Nd) (many : Nat) : Prop where
  root : ∃ nd : Nd, ts[0]? = some nd ∧ nd.dep = 1
  dep : ∀ (k : Nat) (nd : Nd), ts[k]? = some nd → 1 ≤ nd.dep ∧ nd.dep ≤ 20
  chd : ∀ (k : Nat) (nd : Nd), ts[k]? = some nd → ∀ j, Ch.tg j ∈ nd.cs → ∃ nj : Nd, ts[j]? = some nj ∧ nj.dep = nd.dep + 1
  wok : ∀ (k : Nat) (nd : Nd), ts[k]? = some nd → Tk 12 nd.nm ∧ WtOk nd.ws ∧ ∀ s, Ch.tx s ∈ nd.cs → Tk 20 s
  once : ∀ f : Nat → Nat, (ts.map (csF f 0)).sum + f 0 = ((List.range ts.length).map f).sum
  cnt : (ts.map (csF (fun _ => 0) 1)).sum + ts.length = many
theorem sum_set {A : Type} (g : A → Nat) : ∀ {l : List A} {p : Nat} {a b : A}, l[p]? = some a → ((l.set p b).map g).sum + g a = (l.map g).sum + g b
  | [], p, a, b, e => by simp at e
  | x :: l, 0, a, b, e => by
    simp at e
    subst e
    simp only [List.set_cons_zero, List.map_cons, List.sum_cons]
    omega
  | x :: l, p + 1, a, b, e => by
    have := sum_set g (l := l) (p := p) (a := a) (b := b) (by simpa using e)
    simp only [List.set_cons_succ, List.map_cons, List.sum_cons]
    omega
/-- one more child, a text -/
theorem GI.text {ts : List Nd} {many p : Nat} {nd : Nd} (g : GI ts many) (e : ts[p]? = some nd) {s : List Nat} (hs : Tk 20 s) : GI (ts.set p { nd with cs := nd.cs ++ [.tx s] }) (many + 1) := by
  have hp : p < ts.length := (List.getElem?_eq_some_iff.mp e).1
  have at_ : ∀ (k : Nat) (d : Nd), (ts.set p { nd with cs := nd.cs ++ [.tx s] })[k]? = some d → ∃ d0 : Nd, ts[k]? = some d0 ∧ d0.dep = d.dep ∧ d0.nm = d.nm ∧ d0.ws = d.ws ∧ ∀ c ∈ d.cs, c ∈ d0.cs ∨ c = .tx s := fun k d h => by
    by_cases z : p = k
    · subst z
      rw [List.getElem?_set_self hp] at h
      cases h
      exact ⟨nd, e, rfl, rfl, rfl, fun c hc => (List.mem_append.mp hc).imp id List.mem_singleton.mp⟩
    · rw [List.getElem?_set_ne z] at h
      exact ⟨d, h, rfl, rfl, rfl, fun c hc => .inl hc⟩
  have to_ : ∀ (k : Nat) (d : Nd), ts[k]? = some d → ∃ d1 : Nd, (ts.set p { nd with cs := nd.cs ++ [.tx s] })[k]? = some d1 ∧ d1.dep = d.dep := fun k d h => by
    by_cases z : p = k
    · subst z
      rw [e] at h
      cases h
      exact ⟨_, List.getElem?_set_self hp, rfl⟩
    · exact ⟨d, by rw [List.getElem?_set_ne z]; exact h, rfl⟩
  refine ⟨?_, fun k d h => ?_, fun k d h j hj => ?_, fun k d h => ?_, fun f => ?_, ?_⟩
  · obtain ⟨r, h1, h2⟩ := g.root
    obtain ⟨d1, h3, h4⟩ := to_ 0 r h1
    exact ⟨d1, h3, h4.trans h2⟩
  · obtain ⟨d0, h0, h1, _⟩ := at_ k d h
    have := g.dep k d0 h0
    omega
  · obtain ⟨d0, h0, h1, _, _, h2⟩ := at_ k d h
    rcases h2 _ hj with z | z
    · obtain ⟨nj, h3, h4⟩ := g.chd k d0 h0 j z
      obtain ⟨d1, h5, h6⟩ := to_ j nj h3
      exact ⟨d1, h5, by omega⟩
    · cases z
  · obtain ⟨d0, h0, h1, h2, h3, h4⟩ := at_ k d h
    obtain ⟨w1, w2, w3⟩ := g.wok k d0 h0
    rw [h2] at w1
    rw [h3] at w2
    refine ⟨w1, w2, fun s' hs' => ?_⟩
    rcases h4 _ hs' with z | z
    · exact w3 s' z
    · cases z; exact hs
  · have h1 := sum_set (csF f 0) e (b := { nd with cs := nd.cs ++ [.tx s] })
    have h2 := g.once f
    have h3 : csF f 0 { nd with cs := nd.cs ++ [.tx s] } = csF f 0 nd := by simp [csF, chF]
    rw [List.length_set]
    omega
  · have h1 := sum_set (csF (fun _ => 0) 1) e (b := { nd with cs := nd.cs ++ [.tx s] })
    have h2 := g.cnt
    have h3 : csF (fun _ => 0) 1 { nd with cs := nd.cs ++ [.tx s] } = csF (fun _ => 0) 1 nd + 1 := by simp [csF, chF]
    rw [List.length_set]
    omega
/-- one more child, a new tag -/
theorem GI.tag {ts : List Nd} {many p : Nat} {nd : Nd} (g : GI ts many) (e : ts[p]? = some nd) (hd : nd.dep ≤ 19) {nm : List Nat} {ws : List Wt} (hn : Tk 12 nm) (hw : WtOk ws) : GI (ts.set p { nd with cs := nd.cs ++ [.tg ts.length] } ++ [⟨nm, ws, [], nd.dep + 1⟩]) (many + 1) := by
  have hp : p < ts.length := (List.getElem?_eq_some_iff.mp e).1
  have ll : (ts.set p { nd with cs := nd.cs ++ [.tg ts.length] }).length = ts.length := List.length_set
  have at_ : ∀ (k : Nat) (d : Nd), (ts.set p { nd with cs := nd.cs ++ [.tg ts.length] } ++ [⟨nm, ws, [], nd.dep + 1⟩])[k]? = some d → (k = ts.length ∧ d = ⟨nm, ws, [], nd.dep + 1⟩) ∨ ∃ d0 : Nd, ts[k]? = some d0 ∧ d0.dep = d.dep ∧ d0.nm = d.nm ∧ d0.ws = d.ws ∧ ∀ c ∈ d.cs, c ∈ d0.cs ∨ (c = .tg ts.length ∧ d.dep = nd.dep) := fun k d h => by
    rcases Nat.lt_or_ge k ts.length with y | y
    · rw [List.getElem?_append_left (by omega)] at h
      refine .inr ?_
      by_cases z : p = k
      · subst z
        rw [List.getElem?_set_self hp] at h
        cases h
        exact ⟨nd, e, rfl, rfl, rfl, fun c hc => (List.mem_append.mp hc).imp id fun z => ⟨List.mem_singleton.mp z, rfl⟩⟩
      · rw [List.getElem?_set_ne z] at h
        exact ⟨d, h, rfl, rfl, rfl, fun c hc => .inl hc⟩
    · rw [List.getElem?_append_right (by omega)] at h
      have hk : k = ts.length := by
        have := (List.getElem?_eq_some_iff.mp h).1
        simp at this
        omega
      subst hk
      rw [ll] at h
      simp at h
      exact .inl ⟨rfl, h.symm⟩
  have to_ : ∀ (k : Nat) (d : Nd), ts[k]? = some d → ∃ d1 : Nd, (ts.set p { nd with cs := nd.cs ++ [.tg ts.length] } ++ [⟨nm, ws, [], nd.dep + 1⟩])[k]? = some d1 ∧ d1.dep = d.dep := fun k d h => by
    have hk := (List.getElem?_eq_some_iff.mp h).1
    rw [List.getElem?_append_left (by omega)]
    by_cases z : p = k
    · subst z
      rw [e] at h
      cases h
      exact ⟨_, List.getElem?_set_self hp, rfl⟩
    · exact ⟨d, by rw [List.getElem?_set_ne z]; exact h, rfl⟩
  have new_ : (ts.set p { nd with cs := nd.cs ++ [.tg ts.length] } ++ [⟨nm, ws, [], nd.dep + 1⟩])[ts.length]? = some ⟨nm, ws, [], nd.dep + 1⟩ := by
    rw [List.getElem?_append_right (by omega), ll]
    simp
  have dp := g.dep p nd e
  refine ⟨?_, fun k d h => ?_, fun k d h j hj => ?_, fun k d h => ?_, fun f => ?_, ?_⟩
  · obtain ⟨r, h1, h2⟩ := g.root
    obtain ⟨d1, h3, h4⟩ := to_ 0 r h1
    exact ⟨d1, h3, h4.trans h2⟩
  · rcases at_ k d h with ⟨_, rfl⟩ | ⟨d0, h0, h1, _⟩
    · exact ⟨by show 1 ≤ nd.dep + 1; omega, by show nd.dep + 1 ≤ 20; omega⟩
    · have := g.dep k d0 h0
      omega
  · rcases at_ k d h with ⟨_, rfl⟩ | ⟨d0, h0, h1, _, _, h2⟩
    · cases hj
    · rcases h2 _ hj with z | ⟨z, z2⟩
      · obtain ⟨nj, h3, h4⟩ := g.chd k d0 h0 j z
        obtain ⟨d1, h5, h6⟩ := to_ j nj h3
        exact ⟨d1, h5, by omega⟩
      · cases z
        exact ⟨_, new_, by show nd.dep + 1 = d.dep + 1; omega⟩
  · rcases at_ k d h with ⟨_, rfl⟩ | ⟨d0, h0, h1, h2, h3, h4⟩
    · exact ⟨hn, hw, fun s hs => by cases hs⟩
    · obtain ⟨w1, w2, w3⟩ := g.wok k d0 h0
      rw [h2] at w1
      rw [h3] at w2
      refine ⟨w1, w2, fun s' hs' => ?_⟩
      rcases h4 _ hs' with z | ⟨z, _⟩
      · exact w3 s' z
      · cases z
  · have h1 := sum_set (csF f 0) e (b := { nd with cs := nd.cs ++ [.tg ts.length] })
    have h2 := g.once f
    have h3 : csF f 0 { nd with cs := nd.cs ++ [.tg ts.length] } = csF f 0 nd + f ts.length := by simp [csF, chF]
    rw [List.length_append, ll, List.map_append, List.sum_append, List.length_singleton, List.range_succ, List.map_append, List.sum_append]
    have h4 : (List.map (csF f 0) [(⟨nm, ws, [], nd.dep + 1⟩ : Nd)]).sum = 0 := by simp [csF]
    have h5 : (List.map f [ts.length]).sum = f ts.length := by simp
    omega
  · have h1 := sum_set (csF (fun _ => 0) 1) e (b := { nd with cs := nd.cs ++ [.tg ts.length] })
    have h2 := g.cnt
    have h3 : csF (fun _ => 0) 1 { nd with cs := nd.cs ++ [.tg ts.length] } = csF (fun _ => 0) 1 nd := by simp [csF, chF]
    rw [List.length_append, ll, List.map_append, List.sum_append, List.length_singleton]
    have h4 : (List.map (csF (fun _ => 0) 1) [(⟨nm, ws, [], nd.dep + 1⟩ : Nd)]).sum = 0 := by simp [csF]
    omega
end W
namespace W
open PySem hiding Env
open L2 F
set_option hygiene false
local macro_rules | `(tactic| simp_arith only [$as,*]) => `(tactic| simp -implicitDefEqProofs only [$as,*, dSeq_e, dNil_e, dIf_e, dSet_e, dRet_e, dExpr_e, dAsg_e, dFor_e, eC_e, eV_e, eB_e, eU_e, fB_e, eCh_e, fAnd_e, fOr_e, fNot_e, fYes_e, eIf_e, eNot_e, eAnd_e, eOr_e, aNil_e, aCons_e,  plain_nil, plain_cons, eTup_e, eLst_e, frzR_l, frzR_d, eFrz_e, newR_l, eNew_e, oN_e, oI_e, eSl_e, eF_e, eM1_e, eIsi_e, eKget_e, eKin_e, callR_d, callR_l, eCall_e, sqS_nx, sqS_rt, sqS_none, sqS_cond,  bd_some, bd_none, bd_cond, bK_eq, iK_eq, sK_eq, dK_eq, rdS_v, rdS_c, setR_d, setR_l, retR_d, retR_l, retR_b, gTp_e, gNm_e, gAll_nil, gAll_cons, fin_rt, fin_nx, fin_none, fin_cond, mOf_e, gc_same, rnd_nx, rnd_ct, rnd_bk, rnd_rt, rnd_none, rnd_cond,  iE_e, itR_rol, itR_scr, itR_l, itR_tup, itR_str, iR1_e, eLc_e, List.getElem?_cons_zero, List.getElem?_cons_succ, List.set_cons_zero, List.set_cons_succ, List.map_cons, List.map_nil, List.length_cons, List.length_nil, List.cons_append, List.nil_append,  List.replicate_succ, List.replicate_zero, Nat.reduceSub, Nat.reduceAdd, Nat.zero_add, List.reduceReplicate, cond_true, cond_false, gEq_str, gNe_str, gEq_int, gNe_int, gEq_bl, gNe_bl, gLt_int, gLe_int, gGt_int, gGe_int, gAdd_int, gSub_e, gNeg_e, gIn_sign, gNi_sign, gIs_e, gIsNot_e, gLen_rol, gLen_scr, gLen_tup, gLen_l, gLen_b, gSl_tup, gSl_rol, gSl_scr, gInt_bl, gAbs_e, gTupOf_rol, gTupOf_b,  wipeE, tupK_0, tupK_1, tupK_2, tupK_3, tupK_4, tupK_5, tupK_6, tupK_7, tupK_8, lstK_0, lstK_1, lstK_2, lstK_3, lstK_4, lstK_5, lstK_6, lstK_7, lstK_8, one_eq, inF_cons, inF_nil, cut_take1, cut_drop1, Bool.or_false, Bool.not_true, Bool.not_false, dApp_e, slK_c, appS_e, dFrz_e, frK_c, frK_v, dPut_e, rfK_e, Nat.reduceLeDiff, dFl_cons, dFl_nil, lcK_one, ixK_e, gIx_ref_e, ptK_e, putS_k, ix5_0, ix5_1, ix5_2, ix5_3, ix5_4, at5_0, at5_1, at5_2, at5_3, at5_4, List.set_set])
/-! k11: the tree that the tags make -/
theorem csF_add (f : Nat → Nat) (nd : Nd) : csF f 1 nd = csF f 0 nd + csF (fun _ => 0) 1 nd := by
  unfold csF
  induction nd.cs with
  | nil => rfl
  | cons c r ih =>
    simp only [List.map_cons, List.sum_cons]
    have : chF f 1 c = chF f 0 c + chF (fun _ => 0) 1 c := by cases c <;> simp [chF]
    omega
theorem sum_add {A : Type} (f g : A → Nat) : ∀ l : List A, (l.map fun a => f a + g a).sum = (l.map f).sum + (l.map g).sum
  | [] => rfl
  | a :: l => by
    have := sum_add f g l
    simp only [List.map_cons, List.sum_cons]
    omega
theorem sum_one {A : Type} : ∀ l : List A, (l.map fun _ => 1).sum = l.length
  | [] => rfl
  | a :: l => by
    have := sum_one l
    simp only [List.map_cons, List.sum_cons, List.length_cons]
    omega
theorem le_sum {A : Type} (F : A → Nat) : ∀ {l : List A} {a : A}, a ∈ l → F a ≤ (l.map F).sum
  | x :: l, a, h => by
    simp only [List.map_cons, List.sum_cons]
    rcases List.mem_cons.mp h with z | z
    · rw [z]; omega
    · have := le_sum F z; omega
def szK (ts : List Nd) (k : Nat) : Nat := match ts[k]? with
  | some nd => sz (unf ts (23 - nd.dep) k)
  | none => 0
theorem szK_eq {ts : List Nd} {many k : Nat} {nd : Nd} (g : GI ts many) (e : ts[k]? = some nd) : szK ts k = 1 + csF (szK ts) 1 nd := by
  have hd := g.dep k nd e
  unfold szK
  rw [e]
  simp only
  rw [show 23 - nd.dep = (22 - nd.dep) + 1 by omega, unf_succ e, sz, szs_sum, List.map_map]
  congr 1
  unfold csF
  congr 1
  refine List.map_congr_left fun c hc => ?_
  cases c with
  | tx s => rfl
  | tg j =>
    obtain ⟨nj, e1, e2⟩ := g.chd k nd e j hc
    show sz (unf ts (22 - nd.dep) j) = chF (szK ts) 1 (.tg j)
    show _ = szK ts j
    unfold szK
    rw [e1]
    simp only
    rw [show 23 - nj.dep = 22 - nd.dep by omega]
theorem size_ok {ts : List Nd} {many : Nat} (g : GI ts many) : sz (unf ts 22 0) = many := by
  obtain ⟨r, e, d⟩ := g.root
  have h0 : szK ts 0 = sz (unf ts 22 0) := by
    unfold szK
    rw [e]
    simp only
    rw [d]
  have h1 := g.once (szK ts)
  have h2 : (List.range ts.length).map (szK ts) = ts.map fun nd => 1 + csF (szK ts) 1 nd := by
    refine List.ext_getElem (by simp) fun i h1 h2 => ?_
    simp at h1
    rw [List.getElem_map, List.getElem_range, List.getElem_map]
    exact szK_eq g (List.getElem?_eq_getElem h1)
  have h3 : (ts.map fun nd => 1 + csF (szK ts) 1 nd).sum = ts.length + ((ts.map (csF (szK ts) 0)).sum + (ts.map (csF (fun _ => 0) 1)).sum) := by
    have ef : csF (szK ts) 1 = fun nd => csF (szK ts) 0 nd + csF (fun _ => 0) 1 nd := funext (csF_add _)
    rw [sum_add (fun _ => 1) (csF (szK ts) 1), ef, sum_add, sum_one]
  have h4 := g.cnt
  rw [h2, h3] at h1
  omega
/-- names, worths, texts are short, and it is not deep -/
def Good : Nat → Tr → Prop
  | 0, _ => False
  | f + 1, .tx s => Tk 20 s
  | f + 1, .tg nm ws cs => Tk 12 nm ∧ WtOk ws ∧ ∀ c ∈ cs, Good f c
theorem good_ok {ts : List Nd} {many : Nat} (g : GI ts many) : ∀ (f k : Nat) (nd : Nd), ts[k]? = some nd → 23 ≤ f + nd.dep → Good f (unf ts f k)
  | 0, k, nd, e, h => by have := g.dep k nd e; omega
  | f + 1, k, nd, e, h => by
    obtain ⟨w1, w2, w3⟩ := g.wok k nd e
    have hd := g.dep k nd e
    rw [unf_succ e]
    refine ⟨w1, w2, fun t ht => ?_⟩
    obtain ⟨c, hc, rfl⟩ := List.mem_map.mp ht
    cases c with
    | tx s =>
      obtain ⟨f', rfl⟩ : ∃ f', f = f' + 1 := ⟨f - 1, by omega⟩
      exact w3 s hc
    | tg j =>
      obtain ⟨nj, e1, e2⟩ := g.chd k nd e j hc
      exact good_ok g f j nj e1 (by omega)
theorem dOk_s {n : Nat} {k : Nat} {s : List Nat} (h : Tk k s) : dOk n (.str s) = true := dOk_str fun c hc => by have := h.1 c hc; omega
theorem al_s {k : Nat} {s : List Nat} (h : Tk k s) : s.all (fun x => decide (x < 1114112)) = true := List.all_eq_true.mpr fun c hc => decide_eq_true (by have := h.1 c hc; omega)
mutual
theorem dOk_le : ∀ {n m : Nat} {d : D}, dOk n d = true → n ≤ m → dOk m d = true
  | n, m, .non, _, _ => by cases m <;> simp only [dOk]
  | n, m, .bl b, _, _ => by cases m <;> simp only [dOk]
  | n, m, .int i, _, _ => by cases m <;> simp only [dOk]
  | n, m, .str s, h, _ => by simp only [dOk] at h ⊢; exact h
  | n + 1, m + 1, .tup ds, h, l => by simp only [dOk] at h ⊢; exact dOks_le h (by omega)
  | n + 1, m + 1, .rol ds, h, l => by simp only [dOk] at h ⊢; exact dOks_le h (by omega)
  | n + 1, m + 1, .scr ds, h, l => by simp only [dOk] at h ⊢; exact dOks_le h (by omega)
  | 0, m, .tup ds, h, l => by simp only [dOk] at h; cases h
  | 0, m, .rol ds, h, l => by simp only [dOk] at h; cases h
  | 0, m, .scr ds, h, l => by simp only [dOk] at h; cases h
  | n + 1, 0, .tup ds, h, l => absurd l (by omega)
  | n + 1, 0, .rol ds, h, l => absurd l (by omega)
  | n + 1, 0, .scr ds, h, l => absurd l (by omega)
  | n, m, .ref i, h, _ => by cases n <;> (simp only [dOk] at h; cases h)
theorem dOks_le : ∀ {n m : Nat} {ds : List D}, dOks n ds = true → n ≤ m → dOks m ds = true
  | n, m, [], _, _ => by simp only [dOks]
  | n, m, d :: ds, h, l => by
    simp only [dOks, Bool.and_eq_true] at h ⊢
    exact ⟨dOk_le h.1 l, dOks_le h.2 l⟩
end
theorem dOk_wt {n : Nat} {w : Wt} (h : Tk 12 w.1 ∧ Tk 6 w.2) : dOk (n + 1) (wtD w) = true := by
  unfold wtD
  simp only [dOk, dOks, al_s h.1, al_s h.2, Bool.and_self]
theorem tk_w : Tk 10 wTx ∧ Tk 10 wTg := ⟨⟨by decide, by decide⟩, by decide, by decide⟩
theorem good_dOk : ∀ (f : Nat) (t : Tr), Good f t → dOk (2 * f + 1) (trD t) = true
  | 0, t, h => h.elim
  | f + 1, .tx s, h => by
    rw [trD, show 2 * (f + 1) + 1 = (2 * f + 2) + 1 by omega]
    have h' : Tk 20 s := h
    simp only [dOk, dOks, al_s tk_w.1, al_s h', Bool.and_self]
  | f + 1, .tg nm ws cs, h => by
    obtain ⟨h1, h2, h3⟩ := h
    rw [trD, trDs_map, show 2 * (f + 1) + 1 = (2 * f + 2) + 1 by omega]
    have a : dOks (2 * f + 1) (ws.map wtD) = true := dOks_map fun w hw => dOk_wt (n := 2 * f) (h2.2 w hw)
    have b : dOks (2 * f + 1) (cs.map trD) = true := dOks_map fun t ht => good_dOk f t (h3 t ht)
    simp only [dOk, dOks, al_s tk_w.2, al_s h1, a, b, Bool.and_self]
/-! the law's own reading of it -/
theorem node_tx {f : Nat} {s : List Nat} {h : Hs} : m__law_node (f + 1) [.rol [.str wTx, .str s]] h = some (.d (trD (.tx s)), h) := by
  have i0 : gIx (.d (.rol [.str wTx, .str s])) (.d (.int 0)) h = some (.d (.str wTx), h) := gIx_rol atI_zero
  have i1 : gIx (.d (.rol [.str wTx, .str s])) (.d (.int 1)) h = some (.d (.str s), h) := gIx_rol atI_one
  have q : (wTx == [116, 101, 120, 116]) = true := rfl
  show mOf 2 (b__law_node (m__law_node f)) _ h = _
  unfold b__law_node
  simp_arith only [i0, i1, q]
  rfl
def vN (ts : List Nd) (L f : Nat) : D → D
  | .ref r => trD (unf ts f ((r - L - 1) / 2))
  | .rol [_, .str s] => trD (.tx s)
  | _ => .non
theorem vN_ch (ts : List Nd) (L f : Nat) (c : Ch) : vN ts L f (chD L c) = trD (unC ts f c) := by
  cases c with
  | tx s => rfl
  | tg k =>
    show trD (unf ts f ((L + 2 * k + 1 - L - 1) / 2)) = trD (unf ts f k)
    rw [show (L + 2 * k + 1 - L - 1) / 2 = k by omega]
theorem cs_len {ts : List Nd} {many k : Nat} {nd : Nd} (g : GI ts many) (e : ts[k]? = some nd) : nd.cs.length ≤ many + many := by
  have a := g.once fun _ => 1
  have b := g.cnt
  have c : csF (fun _ => 1) 1 nd = nd.cs.length := by
    unfold csF
    rw [show nd.cs.map (chF (fun _ => 1) 1) = nd.cs.map fun _ => 1 from List.map_congr_left fun c _ => by cases c <;> rfl, sum_one]
  have d := csF_add (fun _ => 1) nd
  have l1 := le_sum (csF (fun _ => 1) 0) (List.mem_of_getElem? e)
  have l2 := le_sum (csF (fun _ => 0) 1) (List.mem_of_getElem? e)
  have s1 : ((List.range ts.length).map fun _ => 1).sum = ts.length := by rw [sum_one, List.length_range]
  omega
theorem node_ok {ts : List Nd} {many L : Nat} {h : Hs} (g : GI ts many) (hm : many ≤ 1000) (cel : ∀ (k : Nat) (nd : Nd), ts[k]? = some nd → h[L + 2 * k]? = some (cs0 L nd) ∧ h[L + 2 * k + 1]? = some (cs1 L k nd)) :
    ∀ (f k : Nat) (nd : Nd), ts[k]? = some nd → 23 ≤ f + nd.dep → m__law_node f [.ref (L + 2 * k + 1)] h = some (.d (trD (unf ts f k)), h)
  | 0, k, nd, e, hf => by have := g.dep k nd e; omega
  | f + 1, k, nd, e, hf => by
    have hd := g.dep k nd e
    obtain ⟨c0, c1⟩ := cel k nd e
    have i0 : ixK 0 h h[L + 2 * k + 1]? = some (.d (.str wTg), h) := by rw [c1]; rfl
    have i1 : ixK 1 h h[L + 2 * k + 1]? = some (.d (.str nd.nm), h) := by rw [c1]; rfl
    have i2 : ixK 2 h h[L + 2 * k + 1]? = some (.d (.tup (nd.ws.map wtD)), h) := by rw [c1]; rfl
    have i3 : ixK 3 h h[L + 2 * k + 1]? = some (.d (.ref (L + 2 * k)), h) := by rw [c1]; rfl
    have q : (wTg == [116, 101, 120, 116]) = false := rfl
    have cl := cs_len g e
    have lc : eLcR (eB gIx (eV 0) (eC (.int 3))) (gNm 1) fYes (eCall (m__law_node f) (aCons (eV 1) aNil)) [1] 10000 [.v (.ref (L + 2 * k + 1)), .no] h = some (.l (.lst ((nd.cs.map (unC ts f)).map trD)), h) := by
      have := eLcR_same (fo := eB gIx (eV 0) (eC (.int 3))) (g := gNm 1) (tt := fYes) (te := eCall (m__law_node f) (aCons (eV 1) aNil)) (vs := [1]) (kk := 10000) (n := L + 2 * k) (env := [.v (.ref (L + 2 * k + 1)), .no]) (h := h) (h1 := h) (ds := nd.cs.map (chD L))
        (by simp_arith only [i3]) c0 (by simp; omega) (by decide) (vN ts L f) fun d hd => by
          obtain ⟨c, hc, rfl⟩ := List.mem_map.mp hd
          refine ⟨_, rfl, rfl, ?_⟩
          rw [vN_ch]
          have m1 : m__law_node f [chD L c] h = some (.d (trD (unC ts f c)), h) := by
            cases c with
            | tx s =>
              obtain ⟨f', rfl⟩ : ∃ f', f = f' + 1 := ⟨f - 1, by omega⟩
              exact node_tx
            | tg j =>
              obtain ⟨nj, e1, e2⟩ := g.chd k nd e j hc
              exact node_ok g hm cel f j nj e1 (by omega)
          simp_arith only [m1]
      rw [this, List.map_map, List.map_map]
      congr 4
      refine List.map_congr_left fun c _ => vN_ch ts L f c
    show mOf 2 (b__law_node (m__law_node f)) _ h = _
    unfold b__law_node
    simp_arith only [i0, i1, i2, lc, q, gTupOf_l]
    rw [unf_succ e, trD, trDs_map]
    rfl

/-! a tag's children against [] -/
def rdN (ts : List Nd) : Nat → Nat → D
  | 0, _ => .non
  | f + 1, k => match ts[k]? with
    | some nd => .rol [.str wTg, .str nd.nm, .tup (nd.ws.map wtD), .rol (nd.cs.map fun c => match c with
      | .tx s => .rol [.str wTx, .str s]
      | .tg j => rdN ts f j)]
    | none => .non
def rdC (ts : List Nd) (f : Nat) : Ch → D
  | .tx s => .rol [.str wTx, .str s]
  | .tg j => rdN ts f j
theorem rdN_succ {ts : List Nd} {f k : Nat} {nd : Nd} (h : ts[k]? = some nd) : rdN ts (f + 1) k = .rol [.str wTg, .str nd.nm, .tup (nd.ws.map wtD), .rol (nd.cs.map (rdC ts f))] := by
  rw [rdN, h]
  show D.rol [.str wTg, .str nd.nm, .tup (nd.ws.map wtD), .rol (nd.cs.map _)] = _
  rw [List.map_congr_left (g := rdC ts f)]
  intro c _
  cases c <;> rfl
theorem tPs_map {rf : Nat → Option PyData} {A : Type} {f g : A → D} : ∀ {l : List A}, (∀ a ∈ l, tP rf (f a) = some (toP (g a))) → tPs rf (l.map f) = some (toPs (l.map g))
  | [], _ => by simp only [List.map_nil, tPs, toPs]
  | a :: l, h => by
    have ih := tPs_map (l := l) fun b hb => h b (List.mem_cons_of_mem _ hb)
    simp only [List.map_cons, tPs, toPs, h a List.mem_cons_self, ih]
theorem rd_tx {rf : Nat → Option PyData} {s : List Nat} : tP rf (.rol [.str wTx, .str s]) = some (toP (.rol [.str wTx, .str s])) := by
  simp only [tP, tPs, toP, toPs]
theorem rd_dOk {ts : List Nd} {many : Nat} (g : GI ts many) : ∀ (f k : Nat) (nd : Nd), ts[k]? = some nd → 22 ≤ f + nd.dep → dOk (2 * f + 1) (rdN ts f k) = true ∧ dOks (2 * f) (nd.cs.map (rdC ts (f - 1))) = true
  | 0, k, nd, e, h => by have := g.dep k nd e; omega
  | f + 1, k, nd, e, h => by
    obtain ⟨w1, w2, w3⟩ := g.wok k nd e
    have hd := g.dep k nd e
    have cs : ∀ n, 2 * f + 1 ≤ n → dOks n (nd.cs.map (rdC ts f)) = true := fun n hn => by
      refine dOks_map fun c hc => ?_
      cases c with
      | tx s =>
        obtain ⟨m, rfl⟩ : ∃ m, n = m + 1 := ⟨n - 1, by omega⟩
        show dOk (m + 1) (.rol [.str wTx, .str s]) = true
        simp only [dOk, dOks, al_s tk_w.1, al_s (w3 s hc), Bool.and_self]
      | tg j =>
        obtain ⟨nj, e1, e2⟩ := g.chd k nd e j hc
        exact dOk_le (rd_dOk g f j nj e1 (by omega)).1 hn
    rw [rdN_succ e, show 2 * (f + 1) + 1 = (2 * f + 2) + 1 by omega, show 2 * (f + 1) = 2 * f + 1 + 1 by omega, show f + 1 - 1 = f by omega]
    have a : dOks (2 * f + 1) (nd.ws.map wtD) = true := dOks_map fun w hw => dOk_wt (n := 2 * f) (w2.2 w hw)
    have b := cs (2 * f + 1) (by omega)
    refine ⟨?_, cs _ (by omega)⟩
    simp only [dOk, dOks, al_s tk_w.2, al_s w1, a, b, Bool.and_self]
theorem rd_ok {ts : List Nd} {many L : Nat} {h : Hs} (g : GI ts many) (cel : ∀ (k : Nat) (nd : Nd), ts[k]? = some nd → h[L + 2 * k]? = some (cs0 L nd) ∧ h[L + 2 * k + 1]? = some (cs1 L k nd)) :
    ∀ (f k : Nat) (nd : Nd), ts[k]? = some nd → 22 ≤ f + nd.dep → (∀ m, 2 * f ≤ m → tPh h m (L + 2 * k + 1) = some (toP (rdN ts f k))) ∧ ∀ m, 2 * f ≤ m + 2 → tPs (tPh h m) (nd.cs.map (chD L)) = some (toPs (nd.cs.map (rdC ts (f - 1))))
  | 0, k, nd, e, hf => by have := g.dep k nd e; omega
  | f + 1, k, nd, e, hf => by
    obtain ⟨w1, w2, w3⟩ := g.wok k nd e
    have hd := g.dep k nd e
    obtain ⟨c0, c1⟩ := cel k nd e
    have kid : ∀ m, 2 * f ≤ m → tPs (tPh h m) (nd.cs.map (chD L)) = some (toPs (nd.cs.map (rdC ts f))) := fun m hm => by
      refine tPs_map fun c hc => ?_
      cases c with
      | tx s => exact rd_tx
      | tg j =>
        obtain ⟨nj, e1, e2⟩ := g.chd k nd e j hc
        show tP (tPh h m) (.ref (L + 2 * j + 1)) = some (toP (rdN ts f j))
        rw [tP]
        exact (rd_ok g cel f j nj e1 (by omega)).1 m hm
    refine ⟨fun m hm => ?_, fun m hm => by rw [show f + 1 - 1 = f by omega]; exact kid m (by omega)⟩
    obtain ⟨m, rfl⟩ : ∃ m', m = m' + 2 := ⟨m - 2, by omega⟩
    have ws := tPs_toPs (rf := tPh h (m + 1)) 1 (nd.ws.map wtD) (dOks_map fun w hw => dOk_wt (n := 0) (w2.2 w hw))
    have k1 := kid m (by omega)
    have r2 : tPh h (m + 1) (L + 2 * k) = some (.list (toPs (nd.cs.map (rdC ts f)))) := by
      rw [tPh, c0]
      unfold cs0
      simp only [k1]
    rw [tPh, c1, rdN_succ e]
    unfold cs1
    simp only [tPs, tP, ws, r2, toP, toPs]
theorem nil_ok {ts : List Nd} {many L k : Nat} {nd : Nd} {h : Hs} (g : GI ts many) (cel : ∀ (k : Nat) (nd : Nd), ts[k]? = some nd → h[L + 2 * k]? = some (cs0 L nd) ∧ h[L + 2 * k + 1]? = some (cs1 L k nd)) (e : ts[k]? = some nd) : ∃ b, gEqNl false (.d (.ref (L + 2 * k))) (.l (.lst [])) h = some (.d (.bl b), h) ∧ (b = true ↔ nd.cs = []) := by
  have hd := g.dep k nd e
  have k1 := (rd_ok g cel 21 k nd e (by omega)).2 63 (by omega)
  have k2 := (rd_dOk g 21 k nd e (by omega)).2
  have sh : SeqAt.shaped (.list (toPs (nd.cs.map (rdC ts 20)))) = true := by
    have k3 : dOk 43 (.rol (nd.cs.map (rdC ts 20))) = true := by simp only [dOk]; exact k2
    have l := lay_toP 43 _ k3
    unfold toP at l
    unfold SeqAt.shaped
    rw [l.1]
    have := l.2
    simp
    omega
  refine ⟨_, gEqNl_e (ng := false) (cel k nd e).1 k1 sh, ?_⟩
  cases hc : nd.cs with
  | nil => simp [toPs]
  | cons c r => simp [toPs]
end W
namespace W
open PySem hiding Env
open L2 F
set_option hygiene false
local macro_rules | `(tactic| simp_arith only [$as,*]) => `(tactic| simp -implicitDefEqProofs only [$as,*, dSeq_e, dNil_e, dIf_e, dSet_e, dRet_e, dExpr_e, dAsg_e, dFor_e, eC_e, eV_e, eB_e, eU_e, fB_e, eCh_e, fAnd_e, fOr_e, fNot_e, fYes_e, eIf_e, eNot_e, eAnd_e, eOr_e, aNil_e, aCons_e,  plain_nil, plain_cons, eTup_e, eLst_e, frzR_l, frzR_d, eFrz_e, newR_l, eNew_e, oN_e, oI_e, eSl_e, eF_e, eM1_e, eIsi_e, eKget_e, eKin_e, callR_d, callR_l, eCall_e, sqS_nx, sqS_rt, sqS_none, sqS_cond,  bd_some, bd_none, bd_cond, bK_eq, iK_eq, sK_eq, dK_eq, rdS_v, rdS_c, setR_d, setR_l, retR_d, retR_l, retR_b, gTp_e, gNm_e, gAll_nil, gAll_cons, fin_rt, fin_nx, fin_none, fin_cond, mOf_e, gc_same, rnd_nx, rnd_ct, rnd_bk, rnd_rt, rnd_none, rnd_cond,  iE_e, itR_rol, itR_scr, itR_l, itR_tup, itR_str, iR1_e, eLc_e, List.getElem?_cons_zero, List.getElem?_cons_succ, List.set_cons_zero, List.set_cons_succ, List.map_cons, List.map_nil, List.length_cons, List.length_nil, List.cons_append, List.nil_append,  List.replicate_succ, List.replicate_zero, Nat.reduceSub, Nat.reduceAdd, Nat.zero_add, List.reduceReplicate, cond_true, cond_false, gEq_str, gNe_str, gEq_int, gNe_int, gEq_bl, gNe_bl, gLt_int, gLe_int, gGt_int, gGe_int, gAdd_int, gSub_e, gNeg_e, gIn_sign, gNi_sign, gIs_e, gIsNot_e, gLen_rol, gLen_scr, gLen_tup, gLen_l, gLen_b, gSl_tup, gSl_rol, gSl_scr, gInt_bl, gAbs_e, gTupOf_rol, gTupOf_b,  wipeE, tupK_0, tupK_1, tupK_2, tupK_3, tupK_4, tupK_5, tupK_6, tupK_7, tupK_8, lstK_0, lstK_1, lstK_2, lstK_3, lstK_4, lstK_5, lstK_6, lstK_7, lstK_8, one_eq, inF_cons, inF_nil, cut_take1, cut_drop1, Bool.or_false, Bool.not_true, Bool.not_false, dApp_e, slK_c, appS_e, dFrz_e, frK_c, frK_v, dPut_e, rfK_e, Nat.reduceLeDiff, dFl_cons, dFl_nil, lcK_one, ixK_e, gIx_ref_e, ptK_e, putS_k, ix5_0, ix5_1, ix5_2, ix5_3, ix5_4, at5_0, at5_1, at5_2, at5_3, at5_4, List.set_set])
/-! k11: a tree grown -/
theorem eRpl_bd {fo : DE} {y z : List Nat} {env : F.Env} {h : Hs} : eRpl fo y z env h = bd (fo env h) fun p => sK (fun s => if s.length + (s.length + 1) * z.length ≤ 16777216 then some (.d (.str (rplN s y z)), p.2) else none) p.1 := by
  unfold eRpl
  cases fo env h with
  | none => rfl
  | some p =>
    obtain ⟨x, h1⟩ := p
    cases x with
    | d d => cases d <;> rfl
    | l c => rfl
    | b c => rfl
theorem rpl_nil (y : List Nat) (hy : y ≠ []) : ∀ (n : Nat) (s : List Nat), s.length ≤ n → (∀ c ∈ StrLaws.replL y [] s, c ∈ s) ∧ (StrLaws.replL y [] s).length ≤ s.length
  | n, [], _ => by rw [StrLaws.replL_nil]; exact ⟨fun c hc => hc, Nat.le_refl _⟩
  | 0, c :: r, h => absurd h (by simp)
  | n + 1, c :: r, h => by
    have yl : 1 ≤ y.length := List.length_pos_iff.mpr hy
    by_cases e : (c :: r).take y.length = y
    · rw [StrLaws.replL_hit hy e, List.nil_append]
      obtain ⟨h1, h2⟩ := rpl_nil y hy n ((c :: r).drop y.length) (by simp at h ⊢; omega)
      exact ⟨fun d hd => List.mem_of_mem_drop (h1 d hd), by simp at h2 ⊢; omega⟩
    · rw [StrLaws.replL_miss e]
      obtain ⟨h1, h2⟩ := rpl_nil y hy n r (by simp at h; omega)
      refine ⟨fun d hd => ?_, by simp at h2 ⊢; omega⟩
      rcases List.mem_cons.mp hd with z | z
      · rw [z]; exact List.mem_cons_self
      · exact List.mem_cons_of_mem _ (h1 d z)
theorem rpl_tk {k : Nat} {y s : List Nat} (hy : y ≠ []) (h : Tk k s) : Tk k (rplN s y []) := by
  have e : rplN s y [] = StrLaws.replL y [] s := StrLaws.replace_list (x := S s) (y := S y) (z := S []) (by rw [S_len]; exact List.length_pos_iff.mpr hy)
  obtain ⟨h1, h2⟩ := rpl_nil y hy s.length s (Nat.le_refl _)
  rw [e]
  exact ⟨fun c hc => h.1 c (h1 c hc), Nat.le_trans h2 h.2⟩
mutual
theorem bel_tr (n : Nat) : ∀ t : Tr, bel n (trD t) = true
  | .tx s => by simp only [trD, bel, bels, Bool.and_self]
  | .tg nm ws cs => by
    have w : bels n (ws.map wtD) = true := by
      induction ws with
      | nil => simp only [List.map_nil, bels]
      | cons a l ih => simp only [List.map_cons, bels, wtD, bel, Bool.and_self, ih]
    simp only [trD, bel, bels, bel_trs n cs, w, Bool.and_self]
theorem bel_trs (n : Nat) : ∀ ts : List Tr, bels n (trDs ts) = true
  | [] => by simp only [trDs, bels]
  | t :: ts => by simp only [trDs, bels, bel_tr n t, bel_trs n ts, Bool.and_self]
end
theorem bels_ints (n : Nat) : ∀ xs : List Int, bels n (xs.map .int) = true
  | [] => by simp only [List.map_nil, bels]
  | x :: xs => by simp only [List.map_cons, bels, bel, bels_ints n xs, Bool.and_self]
theorem bels_strs (n : Nat) : ∀ xs : List (List Nat), bels n (xs.map .str) = true
  | [] => by simp only [List.map_nil, bels]
  | x :: xs => by simp only [List.map_cons, bels, bel, bels_strs n xs, Bool.and_self]
theorem bag_bel {T : List D} {c : Cell} (hT : okT T) (B : BagOk T c) (n : Nat) : cbel n c = true := by
  obtain ⟨xs, i, v, s, k, e, _⟩ := B
  subst e
  have t : bels n T = true := by
    rcases hT with rfl | ⟨ws, rfl, _⟩
    · simp only [bels]
    · simp only [bels, bel, bels_strs, Bool.and_self]
  simp only [bagC, cbel, bels, bel, bels_ints, t, Bool.and_self]
/-- the state: the bag at n, the tags behind L -/
structure GS (L : Hs) (n : Nat) (T : List D) (ts : List Nd) (m : Nat) (Lh h : Hs) : Prop where
  hT : okT T
  gi : GI ts m
  hg : HG L ts Lh
  j : BT T Lh n h
  nl : n < L.length
theorem GS.cel {L : Hs} {n : Nat} {T : List D} {ts : List Nd} {m : Nat} {Lh h : Hs} (s : GS L n T ts m Lh h) (k : Nat) (nd : Nd) (e : ts[k]? = some nd) : h[L.length + 2 * k]? = some (cs0 L.length nd) ∧ h[L.length + 2 * k + 1]? = some (cs1 L.length k nd) := by
  have := s.nl
  rw [s.j.2.2 _ (by omega), s.j.2.2 _ (by omega)]
  exact s.hg.cel k nd e
theorem GS.len {L : Hs} {n : Nat} {T : List D} {ts : List Nd} {m : Nat} {Lh h : Hs} (s : GS L n T ts m Lh h) : h.length = L.length + 2 * ts.length := by rw [s.j.1, s.hg.len]
/-- .. is dropped when the tree is told -/
theorem GS.gc {L : Hs} {n : Nat} {T T0 : List D} {ts : List Nd} {m : Nat} {Lh h h0 : Hs} (s : GS L n T ts m Lh h) (j0 : BT T0 L n h0) (t : Tr) : BT T L n (gc h0 h (.d (trD t))) := by
  have hl := s.len
  have nl := s.nl
  obtain ⟨l0, _, fr0⟩ := j0
  obtain ⟨l, ⟨c, hc, B⟩, fr⟩ := s.j
  have G : GcOk h0 h (.d (trD t)) := ⟨bel_tr _ t, fun i c' hi e => by
    by_cases z : i = n
    · subst z
      rw [hc] at e
      cases e
      exact .inr (bag_bel s.hT B _)
    · left
      rw [fr0 i z, ← s.hg.low i (by omega), ← fr i z]
      exact e⟩
  unfold F.gc
  rw [if_pos G, l0]
  refine ⟨by simp; omega, ⟨c, by rw [List.getElem?_take, if_pos nl]; exact hc, B⟩, fun i hi => ?_⟩
  rw [List.getElem?_take]
  split
  · rename_i z
    rw [fr i hi, s.hg.low i z]
  · rename_i z
    rw [List.getElem?_eq_none (by omega)]
theorem GS.text {L : Hs} {n : Nat} {T : List D} {ts : List Nd} {m p : Nat} {nd : Nd} {Lh h : Hs} (s : GS L n T ts m Lh h) (e : ts[p]? = some nd) {w : List Nat} (hw : Tk 20 w) : GS L n T (ts.set p { nd with cs := nd.cs ++ [.tx w] }) (m + 1) (Lh.set (L.length + 2 * p) (cs0 L.length { nd with cs := nd.cs ++ [.tx w] })) (h.set (L.length + 2 * p) (.lst (nd.cs.map (chD L.length) ++ [.rol [.str wTx, .str w]]))) := by
  have nl := s.nl
  refine ⟨s.hT, s.gi.text e hw, s.hg.push e _, ?_, nl⟩
  have : cs0 L.length { nd with cs := nd.cs ++ [.tx w] } = .lst (nd.cs.map (chD L.length) ++ [.rol [.str wTx, .str w]]) := by
    unfold cs0
    rw [List.map_append]
    rfl
  rw [this]
  exact s.j.set (by omega)
theorem GS.tag {L : Hs} {n : Nat} {T : List D} {ts : List Nd} {m p : Nat} {nd : Nd} {Lh h : Hs} (s : GS L n T ts m Lh h) (e : ts[p]? = some nd) (hd : nd.dep ≤ 19) {nm : List Nat} {ws : List Wt} (hn : Tk 12 nm) (hw : WtOk ws) :
    ∃ Lh', GS L n T (ts.set p { nd with cs := nd.cs ++ [.tg ts.length] } ++ [⟨nm, ws, [], nd.dep + 1⟩]) (m + 1) Lh'
      ((h ++ [Cell.lst [], Cell.lst [.str wTg, .str nm, .tup (ws.map wtD), .ref h.length]]).set (L.length + 2 * p) (.lst (nd.cs.map (chD L.length) ++ [.ref (h.length + 1)]))) := by
  have nl := s.nl
  have hl := s.len
  have hp : p < ts.length := (List.getElem?_eq_some_iff.mp e).1
  have a := s.hg.new (nd := ⟨nm, ws, [], nd.dep + 1⟩)
  have e1 : (ts ++ [(⟨nm, ws, [], nd.dep + 1⟩ : Nd)])[p]? = some nd := by rw [List.getElem?_append_left hp]; exact e
  have b := a.push e1 (.tg ts.length)
  rw [List.set_append_left _ _ hp] at b
  refine ⟨_, s.hT, s.gi.tag e hd hn hw, b, ?_, nl⟩
  have c1 : cs0 L.length { nd with cs := nd.cs ++ [.tg ts.length] } = .lst (nd.cs.map (chD L.length) ++ [.ref (h.length + 1)]) := by
    unfold cs0
    rw [List.map_append, hl]
    rfl
  have c2 : cs1 L.length ts.length ⟨nm, ws, [], nd.dep + 1⟩ = .lst [.str wTg, .str nm, .tup (ws.map wtD), .ref h.length] := by
    unfold cs1
    rw [hl]
  rw [c1, c2]
  exact (s.j.app (by have := s.hg.len; omega)).set (by omega)
/-- the open tags -/
def opD (L : Nat) (o : Nat × Nat) : D := .rol [.ref (L + 2 * o.1 + 1), .int (o.2 : Nat)]
def OpOk (ts : List Nd) (op : List (Nat × Nat)) : Prop := op ≠ [] ∧ op.length ≤ ts.length ∧ ∀ o ∈ op, ∃ nd : Nd, ts[o.1]? = some nd ∧ nd.dep = o.2
end W
namespace W
open PySem hiding Env
open L2 F
set_option hygiene false
local macro_rules | `(tactic| simp_arith only [$as,*]) => `(tactic| simp -implicitDefEqProofs only [$as,*, dSeq_e, dNil_e, dIf_e, dSet_e, dRet_e, dExpr_e, dAsg_e, dFor_e, eC_e, eV_e, eB_e, eU_e, fB_e, eCh_e, fAnd_e, fOr_e, fNot_e, fYes_e, eIf_e, eNot_e, eAnd_e, eOr_e, aNil_e, aCons_e,  plain_nil, plain_cons, eTup_e, eLst_e, frzR_l, frzR_d, eFrz_e, newR_l, eNew_e, oN_e, oI_e, eSl_e, eF_e, eM1_e, eIsi_e, eKget_e, eKin_e, callR_d, callR_l, eCall_e, sqS_nx, sqS_rt, sqS_none, sqS_cond,  bd_some, bd_none, bd_cond, bK_eq, iK_eq, sK_eq, dK_eq, rdS_v, rdS_c, setR_d, setR_l, retR_d, retR_l, retR_b, gTp_e, gNm_e, gAll_nil, gAll_cons, fin_rt, fin_nx, fin_none, fin_cond, mOf_e, gc_same, rnd_nx, rnd_ct, rnd_bk, rnd_rt, rnd_none, rnd_cond,  iE_e, itR_rol, itR_scr, itR_l, itR_tup, itR_str, iR1_e, eLc_e, List.getElem?_cons_zero, List.getElem?_cons_succ, List.set_cons_zero, List.set_cons_succ, List.map_cons, List.map_nil, List.length_cons, List.length_nil, List.cons_append, List.nil_append,  List.replicate_succ, List.replicate_zero, Nat.reduceSub, Nat.reduceAdd, Nat.zero_add, List.reduceReplicate, cond_true, cond_false, gEq_str, gNe_str, gEq_int, gNe_int, gEq_bl, gNe_bl, gLt_int, gLe_int, gGt_int, gGe_int, gAdd_int, gSub_e, gNeg_e, gIn_sign, gNi_sign, gIs_e, gIsNot_e, gLen_rol, gLen_scr, gLen_tup, gLen_l, gLen_b, gSl_tup, gSl_rol, gSl_scr, gInt_bl, gAbs_e, gTupOf_rol, gTupOf_b,  wipeE, tupK_0, tupK_1, tupK_2, tupK_3, tupK_4, tupK_5, tupK_6, tupK_7, tupK_8, lstK_0, lstK_1, lstK_2, lstK_3, lstK_4, lstK_5, lstK_6, lstK_7, lstK_8, one_eq, inF_cons, inF_nil, cut_take1, cut_drop1, Bool.or_false, Bool.not_true, Bool.not_false, dApp_e, slK_c, appS_e, dFrz_e, frK_c, frK_v, dPut_e, rfK_e, Nat.reduceLeDiff, dFl_cons, dFl_nil, lcK_one, ixK_e, gIx_ref_e, ptK_e, putS_k, ix5_0, ix5_1, ix5_2, ix5_3, ix5_4, at5_0, at5_1, at5_2, at5_3, at5_4, List.set_set])
local macro_rules | `(tactic| simp_arith! only [$as,*]) => `(tactic| simp -implicitDefEqProofs only [$as,*, dSeq_e, dNil_e, dIf_e, dSet_e, dRet_e, dExpr_e, dAsg_e, dFor_e, eC_e, eV_e, eB_e, eU_e, fB_e, eCh_e, fAnd_e, fOr_e, fNot_e, fYes_e, eIf_e, eNot_e, eAnd_e, eOr_e, aNil_e, aCons_e, plain_nil, plain_cons, eTup_e, eLst_e, frzR_l, frzR_d, eFrz_e, newR_l, eNew_e, oN_e, oI_e, eSl_e, eF_e, eM1_e, eIsi_e, eKget_e, eKin_e, eCall_e, bd_none, bK_eq, iK_eq, sK_eq, dK_eq, rdS_v, rdS_c, setR_d, setR_l, retR_d, retR_l, retR_b, gTp_e, gNm_e, gAll_nil, gAll_cons, mOf_e, iE_e, itR_rol, itR_scr, itR_l, itR_tup, itR_str, iR1_e, eLc_e, List.getElem?_cons_zero, List.getElem?_cons_succ, List.set_cons_zero, List.set_cons_succ, List.map_cons, List.map_nil, List.length_cons, List.length_nil, List.cons_append, List.nil_append, List.replicate_succ, List.replicate_zero, Nat.reduceSub, Nat.reduceAdd, Nat.zero_add, List.reduceReplicate, cond_true, cond_false, gEq_str, gNe_str, gEq_int, gNe_int, gEq_bl, gNe_bl, gLt_int, gLe_int, gGt_int, gGe_int, gAdd_int, gSub_e, gNeg_e, gIn_sign, gNi_sign, gIs_e, gIsNot_e, gLen_rol, gLen_scr, gLen_tup, gLen_l, gLen_b, gSl_tup, gSl_rol, gSl_scr, gInt_bl, gAbs_e, gTupOf_rol, gTupOf_b, wipeE, tupK_0, tupK_1, tupK_2, tupK_3, tupK_4, tupK_5, tupK_6, tupK_7, tupK_8, lstK_0, lstK_1, lstK_2, lstK_3, lstK_4, lstK_5, lstK_6, lstK_7, lstK_8, one_eq, inF_cons, inF_nil, cut_take1, cut_drop1, Bool.or_false, Bool.not_true, Bool.not_false, dApp_e, slK_c, appS_e, dFrz_e, frK_c, frK_v, dPut_e, rfK_e, Nat.reduceLeDiff, dFl_cons, dFl_nil, lcK_one, ixK_e, gIx_ref_e, ptK_e, putS_k, ix5_0, ix5_1, ix5_2, ix5_3, ix5_4, at5_0, at5_1, at5_2, at5_3, at5_4, List.set_set, Int.cast_ofNat_Int, Int.reduceAdd, Int.reduceSub, Int.reduceMul, Int.reduceNeg, Int.reduceLT, Int.reduceLE, Int.reduceEq, Int.reduceNe, Int.reduceBEq, decide_true, decide_false, ixr0, ixr1, ixr2, drop1c, drop2c, take1c, gSl_l, gSl_b, dExtO_e, dPopX_e, dPopO_e, dPutO_e, iR2_e, iEn_e, enK_e, eMN_e, gFind3_e, gStarts3_e, gAug_int, gAugS_int, gInt_int, gMax2_e, gMin2_e, gLstOf_rol, gLstOf_tup, gLstOf_l, gTupOf_l, ixb0, ixt0, ixt1, ixt2, eMinDf_e, gMinDf_l, eBack_e, gBack_rol, gBack_b, dPar_e, eDNew_e, dDPut_e, dcK_c, eDGt_e, dv_b, dvK_some, dgtS_i, gDi_t, gDi_f, eDsp_e, dspK_2, eCallK_e, isNon_rol, isNon_non, List.length_map, List.length_append, ok_wp, wp_some, wp_bd, wp_sqS, wp_rnd, wp_fin, wp_callR, Ho_q, sqC_nx, sqC_rt, sqC_bk, sqC_ct, rndC_nx, rndC_ct, rndC_bk, rndC_rt, finC_rt, finC_nx, callC_d, callC_l, Bool.false_eq_true, if_true, if_false])
/-! k11: the walk of a tree's growth -/
theorem atI_last {A : Type} {l : List A} {a : A} : atI (l ++ [a]) (-1) = some a := by
  unfold atI ixN
  simp only [List.length_append, List.length_singleton]
  rw [if_neg (by decide), if_pos (by omega)]
  show (l ++ [a])[_]? = _
  rw [show ((-1 : Int) + ((l.length + 1 : Nat) : Int)).toNat = l.length by omega]
  simp
theorem last_ok {L c : Nat} {nd : Nd} {h : Hs} (hc : h[c]? = some (cs0 L nd)) (ne : nd.cs ≠ []) (cel : ∀ k, Ch.tg k ∈ nd.cs → ∃ d : Nd, h[L + 2 * k + 1]? = some (cs1 L k d)) : ∃ (x : D) (w : List Nat), ixK (-1) h h[c]? = some (.d x, h) ∧ gIx (.d x) (.d (.int 0)) h = some (.d (.str w), h) := by
  obtain ⟨r, x, e⟩ : ∃ r x, nd.cs = r ++ [x] := ⟨_, _, (List.dropLast_concat_getLast ne).symm⟩
  refine ⟨chD L x, ?_⟩
  have e1 : ixK (-1) h h[c]? = some (.d (chD L x), h) := by
    rw [hc]
    unfold cs0
    rw [ixK_e, e, List.map_append]
    show bd (atI (r.map (chD L) ++ [chD L x]) (-1)) _ = _
    rw [atI_last]
    rfl
  cases x with
  | tx s => exact ⟨wTx, e1, gIx_rol atI_zero⟩
  | tg k =>
    obtain ⟨d, hd⟩ := cel k (by rw [e]; simp)
    refine ⟨wTg, e1, ?_⟩
    show gIx (.d (.ref (L + 2 * k + 1))) (.d (.int 0)) h = _
    rw [gIx_ref_e, hd]
    rfl
noncomputable def bA : DS := (dSeq (dAppR (eB gIx (eV 9) (eC (.int 3))) (eFrz (eLst (aCons (eC (.str [116, 101, 120, 116])) (aCons (eCall m__law_signs (aCons (eV 0) (aCons (eB gAdd (eC (.int 1)) (eCall m__law_draw (aCons (eV 0) (aCons (eC (.int 6)) aNil)))) aNil))) aNil))))) (dPar 4 5 (eB gAdd (eV 4) (eC (.int 1))) (eB gAdd (eV 5) (eC (.int 30)))))
noncomputable def bB : DS := (dSeq (dSet 11 (eNew (eLst (aCons (eC (.str [116, 97, 103])) (aCons (eCall m__law_name (aCons (eV 0) aNil)) (aCons (eCall m__law_worths (aCons (eV 0) aNil)) (aCons (eNew (eLst aNil)) aNil))))))) (dSeq (dAppR (eB gIx (eV 9) (eC (.int 3))) (eV 11)) (dSeq (dSet 5 (eB gAdd (eB gAdd (eB gAdd (eV 5) (eB gMul (eC (.int 2)) (eF gLen (aCons (eB gIx (eV 11) (eC (.int 1))) aNil)))) (eC (.int 5))) (eF gSum (aCons (eLc (iE (eB gIx (eV 11) (eC (.int 2)))) (gTp [(gNm 13), (gNm 14)]) fYes (eB gAdd (eB gAdd (eF gLen (aCons (eV 13) aNil)) (eC (.int 4))) (eB gMul (eC (.int 6)) (eF gLen (aCons (eV 14) aNil)))) [13, 14]) aNil)))) (dSeq (dSet 12 (eRpl (eCall m__law_signs (aCons (eV 0) (aCons (eCall m__law_draw (aCons (eV 0) (aCons (eC (.int 9)) aNil))) aNil))) [60, 47, 115, 99, 114, 105, 112, 116, 62] [])) (dSeq (dIf (fB (eB gNe (eB gIx (eV 11) (eC (.int 1))) (eC (.str [115, 99, 114, 105, 112, 116])))) (dApp 3 (eFrz (eLst (aCons (eV 11) (aCons (eB gAdd (eV 10) (eC (.int 1))) aNil))))) (dIf (fAnd (fB (eB gNe (eV 12) (eC (.str [])))) (fB (eB gLt (eV 10) (eC (.int 17))))) (dAppR (eB gIx (eV 11) (eC (.int 3))) (eFrz (eLst (aCons (eC (.str [116, 101, 120, 116])) (aCons (eV 12) aNil))))) dNil)) (dPar 4 5 (eB gAdd (eB gAdd (eV 4) (eC (.int 1))) (eF gLen (aCons (eB gIx (eV 11) (eC (.int 3))) aNil))) (eB gAdd (eV 5) (eC (.int 9)))))))))
noncomputable def bL : DS := (dSeq (dSet 8 (eB (gI sub') (eF gLen (aCons (eV 3) aNil)) (eC (.int 1)))) (dSeq (dAsg (eB gIx (eV 3) (eB gIx (eLst (aCons (eCall m__law_draw (aCons (eV 0) (aCons (eB gAdd (eV 8) (eC (.int 1))) aNil))) (aCons (eV 8) (aCons (eC (.int 0)) (aCons (eF gMax2 (aCons (eC (.int 0)) (aCons (eB (gI sub') (eV 8) (eCall m__law_draw (aCons (eV 0) (aCons (eC (.int 3)) aNil)))) aNil))) aNil))))) (eV 6))) (gLs [(gNm 9), (gNm 10)])) (dSeq (dIf (fOr (fB (eB gGt (eV 4) (eC (.int 112)))) (fOr (fB (eB gGt (eV 5) (eC (.int 3300)))) (fB (eB gGt (eV 10) (eC (.int 17)))))) (dRet (eFrz (eCall (m__law_node 22) (aCons (eV 2) aNil)))) dNil) (dIf (fAnd (fB (eB gEq (eCall m__law_draw (aCons (eV 0) (aCons (eC (.int 3)) aNil))) (eC (.int 0)))) (fOr (fB (eB (gEqNl false) (eB gIx (eV 9) (eC (.int 3))) (eLst aNil))) (fB (eB gNe (eB gIx (eB gIx (eB gIx (eV 9) (eC (.int 3))) (eU gNeg (eC (.int 1)))) (eC (.int 0))) (eC (.str [116, 101, 120, 116])))))) bA bB))))
theorem b_grown_eq : b__law_grown = (dSeq (dSet 2 (eNew (eLst (aCons (eC (.str [116, 97, 103])) (aCons (eC (.str [112, 97, 103, 101])) (aCons (eTup aNil) (aCons (eNew (eLst aNil)) aNil))))))) (dSeq (dSet 3 (eLst (aCons (eFrz (eLst (aCons (eV 2) (aCons (eC (.int 1)) aNil)))) aNil))) (dSeq (dAsg (eTup (aCons (eC (.int 1)) (aCons (eC (.int 0)) aNil))) (gTp [(gNm 4), (gNm 5)])) (dSeq (dSet 6 (eCall m__law_draw (aCons (eV 0) (aCons (eC (.int 4)) aNil)))) (dSeq (dFor (iR1 (aCons (eV 1) aNil)) (gNm 7) bL) (dRet (eFrz (eCall (m__law_node 22) (aCons (eV 2) aNil))))))))) := rfl

theorem OpOk.mono {ts ts' : List Nd} {op : List (Nat × Nat)} (h : OpOk ts op) (l : ts.length ≤ ts'.length) (d : ∀ (k : Nat) (nd : Nd), ts[k]? = some nd → ∃ nd' : Nd, ts'[k]? = some nd' ∧ nd'.dep = nd.dep) : OpOk ts' op := ⟨h.1, Nat.le_trans h.2.1 l, fun o ho => by
  obtain ⟨nd, h1, h2⟩ := h.2.2 o ho
  obtain ⟨nd', h3, h4⟩ := d _ nd h1
  exact ⟨nd', h3, h4.trans h2⟩⟩
theorem set_dep {ts : List Nd} {p : Nat} {nd b : Nd} (e : ts[p]? = some nd) (hb : b.dep = nd.dep) : ∀ (k : Nat) (d : Nd), ts[k]? = some d → ∃ d' : Nd, (ts.set p b)[k]? = some d' ∧ d'.dep = d.dep := fun k d h => by
  have hp : p < ts.length := (List.getElem?_eq_some_iff.mp e).1
  by_cases z : p = k
  · subst z
    rw [e] at h
    cases h
    exact ⟨_, List.getElem?_set_self hp, hb⟩
  · exact ⟨d, by rw [List.getElem?_set_ne z]; exact h, rfl⟩
/-- what a round leaves -/
def Nx (L : Hs) (n : Nat) (most style : Int) (m : Nat) (r : SOut) : Prop := ∃ (op : List (Nat × Nat)) (m' : Nat) (size : Int) (T : List D) (ts : List Nd) (Lh h : Hs) (x7 x8 x9 x10 x11 x12 x13 x14 : F.Slot),
  r = .nx [.v (.ref n), .v (.int most), .v (.ref (L.length + 1)), .c (.lst (op.map (opD L.length))), .v (.int (m' : Nat)), .v (.int size), .v (.int style), x7, x8, x9, x10, x11, x12, x13, x14] h ∧ GS L n T ts m' Lh h ∧ OpOk ts op ∧ m' ≤ m + 2
section
variable {L : Hs} {n p m : Nat} {T : List D} {ts : List Nd} {nd : Nd} {Lh h : Hs} {op : List (Nat × Nat)} {most size style : Int} {x7 x8 x11 x12 x13 x14 : F.Slot}
theorem bA_w (s : GS L n T ts m Lh h) (e : ts[p]? = some nd) (ho : OpOk ts op) (hm : m ≤ 200) : ok (bA [.v (.ref n), .v (.int most), .v (.ref (L.length + 1)), .c (.lst (op.map (opD L.length))), .v (.int (m : Nat)), .v (.int size), .v (.int style), x7, x8, .v (.ref (L.length + 2 * p + 1)), .v (.int (nd.dep : Nat)), x11, x12, x13, x14] h) (Nx L n most style m) := by
  obtain ⟨c0, c1⟩ := s.cel p nd e
  have i3 : ixK 3 h h[L.length + 2 * p + 1]? = some (.d (.ref (L.length + 2 * p)), h) := by rw [c1]; rfl
  have lk : ∀ {A : Type} (k : Option A), lsK k h[L.length + 2 * p]? = k := fun k => by rw [c0]; rfl
  unfold bA
  refine wp_ok ?_
  simp_arith! only [dAppR_e, rfK_e, i3, lk]
  refine wp_of (draw_w s.j (by decide) (by decide)) ?_
  rintro _ ⟨x, h1, rfl, j1, x0, x1⟩
  simp_arith! only [eC_e]
  refine wp_of (signs_w j1 (by omega) (by omega)) ?_
  rintro _ ⟨w, h2, rfl, j2, tw⟩
  have s2 : GS L n T ts m Lh h2 := ⟨s.hT, s.gi, s.hg, j2, s.nl⟩
  have c2 := (s2.cel p nd e).1
  unfold cs0 at c2
  have ap := fun env => appC_e (env := env) (d := .rol [.str [116, 101, 120, 116], .str w]) c2 (by have := cs_len s.gi e; simp; omega)
  simp_arith! only [ap]
  exact ⟨op, m + 1, size + 30, T, _, _, _, x7, x8, .v (.ref (L.length + 2 * p + 1)), .v (.int (nd.dep : Nat)), x11, x12, x13, x14, rfl, s2.text e (tw.mono (by omega)), ho.mono (by simp) (set_dep e rfl), by omega⟩

theorem sum_ws {ws : List Wt} (hw : WtOk ws) {env : F.Env} {h : Hs} (hl : env.length = 15) : ∃ (ds : List D) (z : Int), lcK [13, 14] (gTp [(gNm 13), (gNm 14)]) fYes (eB gAdd (eB gAdd (eF gLen (aCons (eV 13) aNil)) (eC (.int 4))) (eB gMul (eC (.int 6)) (eF gLen (aCons (eV 14) aNil)))) env (ws.map wtD) h = some (.l (.lst ds), h) ∧ ∀ h, gSum [.l (.lst ds)] h = some (.d (.int z), h) := by
  have e0 : ∃ a0 a1 a2 a3 a4 a5 a6 a7 a8 a9 a10 a11 a12 a13 a14, env = [a0, a1, a2, a3, a4, a5, a6, a7, a8, a9, a10, a11, a12, a13, a14] := by
    match env, hl with
    | [a0, a1, a2, a3, a4, a5, a6, a7, a8, a9, a10, a11, a12, a13, a14], _ => exact ⟨_, _, _, _, _, _, _, _, _, _, _, _, _, _, _, rfl⟩
  obtain ⟨a0, a1, a2, a3, a4, a5, a6, a7, a8, a9, a10, a11, a12, a13, a14, rfl⟩ := e0
  have main : lcK [13, 14] (gTp [(gNm 13), (gNm 14)]) fYes (eB gAdd (eB gAdd (eF gLen (aCons (eV 13) aNil)) (eC (.int 4))) (eB gMul (eC (.int 6)) (eF gLen (aCons (eV 14) aNil)))) [a0, a1, a2, a3, a4, a5, a6, a7, a8, a9, a10, a11, a12, a13, a14] (ws.map wtD) h = some (.l (.lst ((ws.map fun w => (((w.1.length : Nat) : Int) + 4 + 6 * ((w.2.length : Nat) : Int))).map .int)), h) := by
    have key := lcK_map (vs := [13, 14]) (g := gTp [(gNm 13), (gNm 14)]) (tt := fYes) (te := eB gAdd (eB gAdd (eF gLen (aCons (eV 13) aNil)) (eC (.int 4))) (eB gMul (eC (.int 6)) (eF gLen (aCons (eV 14) aNil)))) (env := [a0, a1, a2, a3, a4, a5, a6, a7, a8, a9, a10, a11, a12, a13, a14]) (h := h) (ds := ws.map wtD)
      (E := fun d => match d with | .tup [x, y] => [a0, a1, a2, a3, a4, a5, a6, a7, a8, a9, a10, a11, a12, .v x, .v y] | _ => []) (v := fun d => match d with | .tup [.str x, .str y] => .int (((x.length : Nat) : Int) + 4 + 6 * ((y.length : Nat) : Int)) | _ => .non) (by have := hw.1; simp; omega) fun d hd => by
        obtain ⟨w, hm, rfl⟩ := List.mem_map.mp hd
        have h1 := (hw.2 w hm).1.2
        have h2 := (hw.2 w hm).2.2
        have g1 := gLen_str (h := h) (s := w.1) (by omega)
        have g2 := gLen_str (h := h) (s := w.2) (by omega)
        have g3 : gMul (.d (.int 6)) (.d (.int ((w.2.length : Nat) : Int))) h = some (.d (.int (6 * ((w.2.length : Nat) : Int))), h) := gMul_int (.inl (by omega))
        refine ⟨rfl, rfl, ?_⟩
        show (eB gAdd _ _) [a0, a1, a2, a3, a4, a5, a6, a7, a8, a9, a10, a11, a12, .v (.str w.1), .v (.str w.2)] h = some (.d (.int _), h)
        simp_arith only [g1, g2, g3]
    rw [key, List.map_map, List.map_map]
    rfl
  exact ⟨_, _, main, fun h => gSum_l⟩
theorem bB_w (s : GS L n T ts m Lh h) (e : ts[p]? = some nd) (hd : nd.dep ≤ 19) (ho : OpOk ts op) (hm : m ≤ 200) : ok (bB [.v (.ref n), .v (.int most), .v (.ref (L.length + 1)), .c (.lst (op.map (opD L.length))), .v (.int (m : Nat)), .v (.int size), .v (.int style), x7, x8, .v (.ref (L.length + 2 * p + 1)), .v (.int (nd.dep : Nat)), x11, x12, x13, x14] h) (Nx L n most style m) := by
  have hp : p < ts.length := (List.getElem?_eq_some_iff.mp e).1
  have tm : ts.length ≤ m := by have := s.gi.cnt; omega
  have ol := ho.2.1
  unfold bB
  refine wp_ok ?_
  rw [dSeq_e, wp_sqS]
  refine wp_of (R := fun r => ∃ (nm : List Nat) (ws : List Wt) (T : List D) (h' : Hs), r = .nx [.v (.ref n), .v (.int most), .v (.ref (L.length + 1)), .c (.lst (op.map (opD L.length))), .v (.int (m : Nat)), .v (.int size), .v (.int style), x7, x8, .v (.ref (L.length + 2 * p + 1)), .v (.int (nd.dep : Nat)), .v (.ref (h'.length + 1)), x12, x13, x14] (h' ++ [.lst [], .lst [.str wTg, .str nm, .tup (ws.map wtD), .ref h'.length]]) ∧ GS L n T ts m Lh h' ∧ Tk 12 nm ∧ WtOk ws) ?_ ?_
  · refine wp_ok ?_
    simp_arith! only [eC_e]
    refine wp_of (name_w s.hT s.j) ?_
    rintro _ ⟨nm, h1, T1, rfl, hT1, j1, tn⟩
    simp_arith! only [eC_e]
    refine wp_of (worths_w hT1 j1) ?_
    rintro _ ⟨ws, h2, T2, rfl, hT2, j2, tw⟩
    simp_arith! only [bd_some, eNew_e, newR_l]
    refine ⟨nm, ws, T2, h2, ?_, ⟨hT2, s.gi, s.hg, j2, s.nl⟩, tn, tw⟩
    rw [List.append_assoc]
    rfl
  rintro _ ⟨nm, ws, T, h1, rfl, s, tn, tw⟩
  have hl := s.len
  have nl := s.nl
  simp -implicitDefEqProofs only [Ho_q, sqC_nx]
  rw [dSeq_e, wp_sqS]
  obtain ⟨c0, c1⟩ := s.cel p nd e
  obtain ⟨h2, eh2⟩ : ∃ h2, h2 = h1 ++ [Cell.lst [], Cell.lst [.str wTg, .str nm, .tup (ws.map wtD), .ref h1.length]] := ⟨_, rfl⟩
  have c0' : h2[L.length + 2 * p]? = some (.lst (nd.cs.map (chD L.length))) := by rw [eh2, List.getElem?_append_left (by omega)]; exact c0
  have i3 : ixK 3 h2 h2[L.length + 2 * p + 1]? = some (.d (.ref (L.length + 2 * p)), h2) := by rw [eh2, List.getElem?_append_left (by omega), c1]; rfl
  have lk : ∀ {A : Type} (k : Option A), lsK k h2[L.length + 2 * p]? = k := fun k => by rw [c0']; rfl
  have ap := fun env => appC_e (env := env) (d := .ref (h1.length + 1)) c0' (by have := cs_len s.gi e; simp; omega)
  obtain ⟨Lh3, s3⟩ := s.tag e hd tn tw
  rw [← eh2] at s3 ⊢
  obtain ⟨ts3, ets⟩ : ∃ ts3, ts3 = ts.set p { nd with cs := nd.cs ++ [.tg ts.length] } ++ [(⟨nm, ws, [], nd.dep + 1⟩ : Nd)] := ⟨_, rfl⟩
  have new3 : ts3[ts.length]? = some ⟨nm, ws, [], nd.dep + 1⟩ := by
    rw [ets, List.getElem?_append_right (by simp), List.length_set]
    simp
  have dep3 : ∀ (k : Nat) (d : Nd), ts[k]? = some d → ∃ d' : Nd, ts3[k]? = some d' ∧ d'.dep = d.dep := fun k d h => by
    obtain ⟨d', h1, h2⟩ := set_dep (b := { nd with cs := nd.cs ++ [.tg ts.length] }) e rfl k d h
    exact ⟨d', by rw [ets, List.getElem?_append_left (List.getElem?_eq_some_iff.mp h1).1]; exact h1, h2⟩
  have len3 : ts3.length = ts.length + 1 := by rw [ets]; simp
  rw [← ets] at s3
  obtain ⟨h3, eh3⟩ : ∃ h3, h3 = h2.set (L.length + 2 * p) (.lst (nd.cs.map (chD L.length) ++ [.ref (h1.length + 1)])) := ⟨_, rfl⟩
  rw [← eh3] at s3
  rw [← eh3] at ap
  refine wp_of (R := fun r => r = .nx [.v (.ref n), .v (.int most), .v (.ref (L.length + 1)), .c (.lst (op.map (opD L.length))), .v (.int (m : Nat)), .v (.int size), .v (.int style), x7, x8, .v (.ref (L.length + 2 * p + 1)), .v (.int (nd.dep : Nat)), .v (.ref (h1.length + 1)), x12, x13, x14] h3) ?_ ?_
  · refine wp_ok ?_
    simp_arith! only [dAppR_e, rfK_e, i3, lk, ap]
  rintro _ rfl
  simp -implicitDefEqProofs only [Ho_q, sqC_nx]
  have cel3 : ∀ {Lh h : Hs} {T : List D} {m : Nat}, GS L n T ts3 m Lh h → h[h1.length]? = some (.lst []) ∧ h[h1.length + 1]? = some (.lst [.str wTg, .str nm, .tup (ws.map wtD), .ref h1.length]) := fun s => by
    have := s.cel ts.length _ new3
    rw [← hl] at this
    refine ⟨this.1, ?_⟩
    rw [this.2]
    unfold cs1
    rw [hl]
  obtain ⟨k0, k1⟩ := cel3 s3
  rw [dSeq_e, wp_sqS]
  have j1 : ixK 1 h3 h3[h1.length + 1]? = some (.d (.str nm), h3) := by rw [k1]; rfl
  have j2 : ixK 2 h3 h3[h1.length + 1]? = some (.d (.tup (ws.map wtD)), h3) := by rw [k1]; rfl
  have ln : ∀ h, gLen [.d (.str nm)] h = some (.d (.int (nm.length : Nat)), h) := fun h => gLen_str (by have := tn.2; omega)
  have ml : ∀ h, gMul (.d (.int 2)) (.d (.int (nm.length : Nat))) h = some (.d (.int (2 * (nm.length : Nat))), h) := fun h => gMul_int (.inl (by omega))
  obtain ⟨ds, z, l1, l2⟩ := sum_ws tw (env := [.v (.ref n), .v (.int most), .v (.ref (L.length + 1)), .c (.lst (op.map (opD L.length))), .v (.int (m : Nat)), .v (.int size), .v (.int style), x7, x8, .v (.ref (L.length + 2 * p + 1)), .v (.int (nd.dep : Nat)), .v (.ref (h1.length + 1)), x12, x13, x14]) (h := h3) rfl
  refine wp_of (R := fun r => ∃ size : Int, r = .nx [.v (.ref n), .v (.int most), .v (.ref (L.length + 1)), .c (.lst (op.map (opD L.length))), .v (.int (m : Nat)), .v (.int size), .v (.int style), x7, x8, .v (.ref (L.length + 2 * p + 1)), .v (.int (nd.dep : Nat)), .v (.ref (h1.length + 1)), x12, x13, x14] h3) ?_ ?_
  · refine wp_ok ?_
    simp_arith! only [j1, j2, ln, ml, l1, l2]
    exact ⟨_, rfl⟩
  rintro _ ⟨size, rfl⟩
  simp -implicitDefEqProofs only [Ho_q, sqC_nx]
  rw [dSeq_e, wp_sqS]
  refine wp_of (R := fun r => ∃ (code : List Nat) (h' : Hs), r = .nx [.v (.ref n), .v (.int most), .v (.ref (L.length + 1)), .c (.lst (op.map (opD L.length))), .v (.int (m : Nat)), .v (.int size), .v (.int style), x7, x8, .v (.ref (L.length + 2 * p + 1)), .v (.int (nd.dep : Nat)), .v (.ref (h1.length + 1)), .v (.str code), x13, x14] h' ∧ GS L n T ts3 (m + 1) Lh3 h' ∧ Tk 20 code) ?_ ?_
  · refine wp_ok ?_
    simp_arith! only [eRpl_bd]
    refine wp_of (draw_w s3.j (by decide) (by decide)) ?_
    rintro _ ⟨x, h4, rfl, j4, x0, x1⟩
    simp_arith! only [eC_e]
    refine wp_of (signs_w j4 x0 (by omega)) ?_
    rintro _ ⟨w, h5, rfl, j5, tk⟩
    have wl := tk.2
    simp_arith! only [eC_e]
    rw [if_pos (by simp; omega)]
    simp_arith! only [eC_e]
    exact ⟨_, h5, rfl, ⟨s3.hT, s3.gi, s3.hg, j5, s3.nl⟩, rpl_tk (by simp) (tk.mono (by omega))⟩
  rintro _ ⟨code, h4, rfl, s4, tc⟩
  simp -implicitDefEqProofs only [Ho_q, sqC_nx]
  obtain ⟨q0, q1⟩ := cel3 s4
  have r1 : ixK 1 h4 h4[h1.length + 1]? = some (.d (.str nm), h4) := by rw [q1]; rfl
  have r3 : ixK 3 h4 h4[h1.length + 1]? = some (.d (.ref h1.length), h4) := by rw [q1]; rfl
  have lk4 : ∀ {A : Type} (k : Option A), lsK k h4[h1.length]? = k := fun k => by rw [q0]; rfl
  rw [dSeq_e, wp_sqS]
  refine wp_of (R := fun r => ∃ (op' : List (Nat × Nat)) (ts5 : List Nd) (Lh5 h5 : Hs) (nd5 : Nd), r = .nx [.v (.ref n), .v (.int most), .v (.ref (L.length + 1)), .c (.lst (op'.map (opD L.length))), .v (.int (m : Nat)), .v (.int size), .v (.int style), x7, x8, .v (.ref (L.length + 2 * p + 1)), .v (.int (nd.dep : Nat)), .v (.ref (h1.length + 1)), .v (.str code), x13, x14] h5 ∧ GS L n T ts5 (m + 1 + nd5.cs.length) Lh5 h5 ∧ OpOk ts5 op' ∧ ts5[ts.length]? = some nd5 ∧ nd5.cs.length ≤ 1) ?_ ?_
  · refine wp_ok ?_
    simp_arith! only [r1]
    cases hs : nm == [115, 99, 114, 105, 112, 116] with
    | false =>
      have as := fun env h => appS_e (i := 3) (env := env) (h := h) (ds := op.map (opD L.length)) (d := .rol [.ref (h1.length + 1), .int (((nd.dep : Nat) : Int) + 1)]) (by simp; omega)
      simp_arith! only [as, Bool.not_false]
      refine ⟨op ++ [(ts.length, nd.dep + 1)], ts3, Lh3, h4, ⟨nm, ws, [], nd.dep + 1⟩, ?_, s4, ⟨by simp, by rw [len3]; simp; omega, fun o hm => ?_⟩, new3, by simp⟩
      · rw [List.map_append]
        simp only [List.map_cons, List.map_nil, opD, hl]
        rfl
      · rcases List.mem_append.mp hm with z | z
        · obtain ⟨d, z1, z2⟩ := ho.2.2 o z
          obtain ⟨d', z3, z4⟩ := dep3 _ d z1
          exact ⟨d', z3, z4.trans z2⟩
        · rw [List.mem_singleton.mp z]
          exact ⟨_, new3, rfl⟩
    | true =>
      have ho3 : OpOk ts3 op := ho.mono (by omega) dep3
      have stay : ∃ (op' : List (Nat × Nat)) (ts5 : List Nd) (Lh5 h5 : Hs) (nd5 : Nd), SOut.nx [.v (.ref n), .v (.int most), .v (.ref (L.length + 1)), .c (.lst (op.map (opD L.length))), .v (.int (m : Nat)), .v (.int size), .v (.int style), x7, x8, .v (.ref (L.length + 2 * p + 1)), .v (.int (nd.dep : Nat)), .v (.ref (h1.length + 1)), .v (.str code), x13, x14] h4 = .nx [.v (.ref n), .v (.int most), .v (.ref (L.length + 1)), .c (.lst (op'.map (opD L.length))), .v (.int (m : Nat)), .v (.int size), .v (.int style), x7, x8, .v (.ref (L.length + 2 * p + 1)), .v (.int (nd.dep : Nat)), .v (.ref (h1.length + 1)), .v (.str code), x13, x14] h5 ∧ GS L n T ts5 (m + 1 + nd5.cs.length) Lh5 h5 ∧ OpOk ts5 op' ∧ ts5[ts.length]? = some nd5 ∧ nd5.cs.length ≤ 1 :=
        ⟨op, ts3, Lh3, h4, ⟨nm, ws, [], nd.dep + 1⟩, rfl, s4, ho3, new3, by simp⟩
      have ap4 := fun env => appC_e (env := env) (d := .rol [.str [116, 101, 120, 116], .str code]) q0 (by simp)
      simp_arith! only [Bool.not_true]
      cases hc : code == [] with
      | true =>
        simp_arith! only [hc, Bool.not_true]
        exact stay
      | false =>
        cases hdd : decide (((nd.dep : Nat) : Int) < 17) with
        | false =>
          simp_arith! only [hc, hdd, Bool.not_false]
          exact stay
        | true =>
          simp_arith! only [hc, hdd, Bool.not_false, dAppR_e, rfK_e, r3, lk4, ap4]
          have s5 := s4.text new3 tc
          rw [← hl] at s5
          refine ⟨op, _, _, _, ⟨nm, ws, [.tx code], nd.dep + 1⟩, rfl, s5, ho3.mono (by simp) (set_dep new3 rfl), List.getElem?_set_self (by omega), by simp⟩
  rintro _ ⟨op', ts5, Lh5, h5, nd5, rfl, s5, ho5, e5, l5⟩
  simp -implicitDefEqProofs only [Ho_q, sqC_nx]
  obtain ⟨w0, w1⟩ := s5.cel ts.length nd5 e5
  rw [← hl] at w0 w1
  have u3 : ixK 3 h5 h5[h1.length + 1]? = some (.d (.ref h1.length), h5) := by rw [w1]; unfold cs1; rw [← hl]; rfl
  have gl : gLen [.d (.ref h1.length)] h5 = some (.d (.int (nd5.cs.length : Nat)), h5) := by
    unfold cs0 at w0
    rw [gLen_ref w0, List.length_map]
  simp_arith! only [dPar_e, u3, gl]
  exact ⟨op', m + 1 + nd5.cs.length, size + 9, T, ts5, Lh5, h5, x7, x8, _, _, _, _, x13, x14, rfl, s5, ho5, by omega⟩
end
end W
namespace W
open PySem hiding Env
open L2 F
set_option hygiene false
local macro_rules | `(tactic| simp_arith only [$as,*]) => `(tactic| simp -implicitDefEqProofs only [$as,*, dSeq_e, dNil_e, dIf_e, dSet_e, dRet_e, dExpr_e, dAsg_e, dFor_e, eC_e, eV_e, eB_e, eU_e, fB_e, eCh_e, fAnd_e, fOr_e, fNot_e, fYes_e, eIf_e, eNot_e, eAnd_e, eOr_e, aNil_e, aCons_e,  plain_nil, plain_cons, eTup_e, eLst_e, frzR_l, frzR_d, eFrz_e, newR_l, eNew_e, oN_e, oI_e, eSl_e, eF_e, eM1_e, eIsi_e, eKget_e, eKin_e, callR_d, callR_l, eCall_e, sqS_nx, sqS_rt, sqS_none, sqS_cond,  bd_some, bd_none, bd_cond, bK_eq, iK_eq, sK_eq, dK_eq, rdS_v, rdS_c, setR_d, setR_l, retR_d, retR_l, retR_b, gTp_e, gNm_e, gAll_nil, gAll_cons, fin_rt, fin_nx, fin_none, fin_cond, mOf_e, gc_same, rnd_nx, rnd_ct, rnd_bk, rnd_rt, rnd_none, rnd_cond,  iE_e, itR_rol, itR_scr, itR_l, itR_tup, itR_str, iR1_e, eLc_e, List.getElem?_cons_zero, List.getElem?_cons_succ, List.set_cons_zero, List.set_cons_succ, List.map_cons, List.map_nil, List.length_cons, List.length_nil, List.cons_append, List.nil_append,  List.replicate_succ, List.replicate_zero, Nat.reduceSub, Nat.reduceAdd, Nat.zero_add, List.reduceReplicate, cond_true, cond_false, gEq_str, gNe_str, gEq_int, gNe_int, gEq_bl, gNe_bl, gLt_int, gLe_int, gGt_int, gGe_int, gAdd_int, gSub_e, gNeg_e, gIn_sign, gNi_sign, gIs_e, gIsNot_e, gLen_rol, gLen_scr, gLen_tup, gLen_l, gLen_b, gSl_tup, gSl_rol, gSl_scr, gInt_bl, gAbs_e, gTupOf_rol, gTupOf_b,  wipeE, tupK_0, tupK_1, tupK_2, tupK_3, tupK_4, tupK_5, tupK_6, tupK_7, tupK_8, lstK_0, lstK_1, lstK_2, lstK_3, lstK_4, lstK_5, lstK_6, lstK_7, lstK_8, one_eq, inF_cons, inF_nil, cut_take1, cut_drop1, Bool.or_false, Bool.not_true, Bool.not_false, dApp_e, slK_c, appS_e, dFrz_e, frK_c, frK_v, dPut_e, rfK_e, Nat.reduceLeDiff, dFl_cons, dFl_nil, lcK_one, ixK_e, gIx_ref_e, ptK_e, putS_k, ix5_0, ix5_1, ix5_2, ix5_3, ix5_4, at5_0, at5_1, at5_2, at5_3, at5_4, List.set_set])
local macro_rules | `(tactic| simp_arith! only [$as,*]) => `(tactic| simp -implicitDefEqProofs only [$as,*, dSeq_e, dNil_e, dIf_e, dSet_e, dRet_e, dExpr_e, dAsg_e, dFor_e, eC_e, eV_e, eB_e, eU_e, fB_e, eCh_e, fAnd_e, fOr_e, fNot_e, fYes_e, eIf_e, eNot_e, eAnd_e, eOr_e, aNil_e, aCons_e, plain_nil, plain_cons, eTup_e, eLst_e, frzR_l, frzR_d, eFrz_e, newR_l, eNew_e, oN_e, oI_e, eSl_e, eF_e, eM1_e, eIsi_e, eKget_e, eKin_e, eCall_e, bd_none, bK_eq, iK_eq, sK_eq, dK_eq, rdS_v, rdS_c, setR_d, setR_l, retR_d, retR_l, retR_b, gTp_e, gNm_e, gAll_nil, gAll_cons, mOf_e, iE_e, itR_rol, itR_scr, itR_l, itR_tup, itR_str, iR1_e, eLc_e, List.getElem?_cons_zero, List.getElem?_cons_succ, List.set_cons_zero, List.set_cons_succ, List.map_cons, List.map_nil, List.length_cons, List.length_nil, List.cons_append, List.nil_append, List.replicate_succ, List.replicate_zero, Nat.reduceSub, Nat.reduceAdd, Nat.zero_add, List.reduceReplicate, cond_true, cond_false, gEq_str, gNe_str, gEq_int, gNe_int, gEq_bl, gNe_bl, gLt_int, gLe_int, gGt_int, gGe_int, gAdd_int, gSub_e, gNeg_e, gIn_sign, gNi_sign, gIs_e, gIsNot_e, gLen_rol, gLen_scr, gLen_tup, gLen_l, gLen_b, gSl_tup, gSl_rol, gSl_scr, gInt_bl, gAbs_e, gTupOf_rol, gTupOf_b, wipeE, tupK_0, tupK_1, tupK_2, tupK_3, tupK_4, tupK_5, tupK_6, tupK_7, tupK_8, lstK_0, lstK_1, lstK_2, lstK_3, lstK_4, lstK_5, lstK_6, lstK_7, lstK_8, one_eq, inF_cons, inF_nil, cut_take1, cut_drop1, Bool.or_false, Bool.not_true, Bool.not_false, dApp_e, slK_c, appS_e, dFrz_e, frK_c, frK_v, dPut_e, rfK_e, Nat.reduceLeDiff, dFl_cons, dFl_nil, lcK_one, ixK_e, gIx_ref_e, ptK_e, putS_k, ix5_0, ix5_1, ix5_2, ix5_3, ix5_4, at5_0, at5_1, at5_2, at5_3, at5_4, List.set_set, Int.cast_ofNat_Int, Int.reduceAdd, Int.reduceSub, Int.reduceMul, Int.reduceNeg, Int.reduceLT, Int.reduceLE, Int.reduceEq, Int.reduceNe, Int.reduceBEq, decide_true, decide_false, ixr0, ixr1, ixr2, drop1c, drop2c, take1c, gSl_l, gSl_b, dExtO_e, dPopX_e, dPopO_e, dPutO_e, iR2_e, iEn_e, enK_e, eMN_e, gFind3_e, gStarts3_e, gAug_int, gAugS_int, gInt_int, gMax2_e, gMin2_e, gLstOf_rol, gLstOf_tup, gLstOf_l, gTupOf_l, ixb0, ixt0, ixt1, ixt2, eMinDf_e, gMinDf_l, eBack_e, gBack_rol, gBack_b, dPar_e, eDNew_e, dDPut_e, dcK_c, eDGt_e, dv_b, dvK_some, dgtS_i, gDi_t, gDi_f, eDsp_e, dspK_2, eCallK_e, isNon_rol, isNon_non, List.length_map, List.length_append, ok_wp, wp_some, wp_bd, wp_sqS, wp_rnd, wp_fin, wp_callR, Ho_q, sqC_nx, sqC_rt, sqC_bk, sqC_ct, rndC_nx, rndC_ct, rndC_bk, rndC_rt, finC_rt, finC_nx, callC_d, callC_l, Bool.false_eq_true, if_true, if_false])
/-! k11: a tree grown -/
/-- what is told -/
def Rt (L : Hs) (n : Nat) (r : SOut) : Prop := ∃ (t : Tr) (m : Nat) (T : List D) (ts : List Nd) (Lh h : Hs), r = .rt (.d (trD t)) h ∧ GS L n T ts m Lh h ∧ t = unf ts 22 0 ∧ m ≤ 130
theorem root_node {L : Hs} {n m : Nat} {T : List D} {ts : List Nd} {Lh h : Hs} (s : GS L n T ts m Lh h) (hm : m ≤ 1000) : m__law_node 22 [.ref (L.length + 1)] h = some (.d (trD (unf ts 22 0)), h) := by
  obtain ⟨nd, e, d⟩ := s.gi.root
  exact node_ok s.gi hm s.cel 22 0 nd e (by omega)
section
variable {L : Hs} {n m : Nat} {T : List D} {ts : List Nd} {Lh h : Hs} {op : List (Nat × Nat)} {most size style : Int} {x7 x8 x9 x10 x11 x12 x13 x14 : F.Slot}
theorem bL_w (s : GS L n T ts m Lh h) (ho : OpOk ts op) (hm : m ≤ 120) (t0 : 0 ≤ style) (t1 : style < 4) : ok (bL [.v (.ref n), .v (.int most), .v (.ref (L.length + 1)), .c (.lst (op.map (opD L.length))), .v (.int (m : Nat)), .v (.int size), .v (.int style), x7, x8, x9, x10, x11, x12, x13, x14] h) fun r => Rt L n r ∨ (m ≤ 117 ∧ Nx L n most style m r) := by
  have tm : ts.length ≤ m := by have := s.gi.cnt; omega
  have ol := ho.2.1
  have o1 : 1 ≤ op.length := List.length_pos_iff.mpr ho.1
  unfold bL
  refine wp_ok ?_
  rw [dSeq_e, wp_sqS]
  refine wp_of (R := fun r => r = .nx [.v (.ref n), .v (.int most), .v (.ref (L.length + 1)), .c (.lst (op.map (opD L.length))), .v (.int (m : Nat)), .v (.int size), .v (.int style), x7, .v (.int ((op.length : Nat) - 1)), x9, x10, x11, x12, x13, x14] h) ?_ ?_
  · refine wp_ok ?_
    simp_arith! only [eC_e]
  rintro _ rfl
  simp -implicitDefEqProofs only [Ho_q, sqC_nx]
  rw [dSeq_e, wp_sqS]
  have gl : ∀ (o : Nat × Nat) (env : F.Env), gLs [gNm 9, gNm 10] (opD L.length o) env = some ((env.set 9 (.v (.ref (L.length + 2 * o.1 + 1)))).set 10 (.v (.int (o.2 : Nat)))) := fun o env => rfl
  refine wp_of (R := fun r => ∃ (p : Nat) (nd : Nd) (h' : Hs), r = .nx [.v (.ref n), .v (.int most), .v (.ref (L.length + 1)), .c (.lst (op.map (opD L.length))), .v (.int (m : Nat)), .v (.int size), .v (.int style), x7, .v (.int ((op.length : Nat) - 1)), .v (.ref (L.length + 2 * p + 1)), .v (.int (nd.dep : Nat)), x11, x12, x13, x14] h' ∧ GS L n T ts m Lh h' ∧ ts[p]? = some nd) ?_ ?_
  · refine wp_ok ?_
    simp_arith! only [dAsg_e]
    refine wp_of (draw_w s.j (by omega) (by omega)) ?_
    rintro _ ⟨x, h1, rfl, j1, x0, x1⟩
    simp_arith! only [eC_e]
    refine wp_of (draw_w j1 (by decide) (by decide)) ?_
    rintro _ ⟨y, h2, rfl, j2, y0, y1⟩
    simp_arith! only [eC_e]
    refine wp_pickN (P := fun i => 0 ≤ i ∧ i < ((op.length : Nat) : Int)) t0 t1 (fun d hd => ?_) fun i hi => ?_
    · simp only [List.mem_cons, List.not_mem_nil, or_false] at hd
      rcases hd with rfl | rfl | rfl | rfl
      · exact ⟨_, rfl, x0, by omega⟩
      · exact ⟨_, rfl, by omega, by omega⟩
      · exact ⟨_, rfl, by omega, by omega⟩
      · refine ⟨_, rfl, ?_, ?_⟩ <;> split <;> omega
    simp_arith! only [eC_e]
    refine wp_pickB hi.1 (by rw [List.length_map]; exact hi.2) fun d hd => ?_
    obtain ⟨o, hm, rfl⟩ := List.mem_map.mp hd
    obtain ⟨nd, e1, e2⟩ := ho.2.2 o hm
    simp_arith! only [gl]
    exact ⟨o.1, nd, h2, by rw [e2], ⟨s.hT, s.gi, s.hg, j2, s.nl⟩, e1⟩
  rintro _ ⟨p, nd, h1, rfl, s, e⟩
  simp -implicitDefEqProofs only [Ho_q, sqC_nx]
  rw [dSeq_e, wp_sqS]
  have rn := root_node s (by omega)
  refine wp_of (R := fun r => Rt L n r ∧ (∃ x y, r = .rt x y) ∨ (r = .nx [.v (.ref n), .v (.int most), .v (.ref (L.length + 1)), .c (.lst (op.map (opD L.length))), .v (.int (m : Nat)), .v (.int size), .v (.int style), x7, .v (.int ((op.length : Nat) - 1)), .v (.ref (L.length + 2 * p + 1)), .v (.int (nd.dep : Nat)), x11, x12, x13, x14] h1 ∧ m ≤ 117 ∧ nd.dep ≤ 19)) ?_ ?_
  · refine wp_ok ?_
    have rt : ∀ r, r = SOut.rt (.d (trD (unf ts 22 0))) h1 → Rt L n r ∧ (∃ x y, r = .rt x y) := fun r hr => ⟨⟨_, m, T, ts, Lh, h1, hr, s, rfl, by omega⟩, _, _, hr⟩
    cases c1 : decide ((112 : Int) < ((m : Nat) : Int)) with
    | true =>
      simp_arith! only [c1, rn]
      exact .inl (rt _ rfl)
    | false =>
      cases c2 : decide ((3300 : Int) < size) with
      | true =>
        simp_arith! only [c1, c2, rn]
        exact .inl (rt _ rfl)
      | false =>
        cases c3 : decide ((17 : Int) < ((nd.dep : Nat) : Int)) with
        | true =>
          simp_arith! only [c1, c2, c3, rn]
          exact .inl (rt _ rfl)
        | false =>
          simp_arith! only [c1, c2, c3]
          have := of_decide_eq_false c1
          have := of_decide_eq_false c3
          exact .inr ⟨trivial, by omega, by omega⟩
  rintro _ (⟨q, x, y, rfl⟩ | ⟨rfl, m117, d19⟩)
  · simp_arith! only [eC_e]
    exact .inl q
  simp -implicitDefEqProofs only [Ho_q, sqC_nx]
  obtain ⟨c0, c1⟩ := s.cel p nd e
  have i3 : ixK 3 h1 h1[L.length + 2 * p + 1]? = some (.d (.ref (L.length + 2 * p)), h1) := by rw [c1]; rfl
  rw [dIf_e, wp_bd]
  refine wp_of (R := fun (q : Bool × Hs) => ∃ (b : Bool) (h' : Hs), q = (b, h') ∧ GS L n T ts m Lh h') ?_ ?_
  · refine wp_ok ?_
    simp_arith! only [fAnd_e, fOr_e]
    refine wp_of (draw_w s.j (by decide) (by decide)) ?_
    rintro _ ⟨x, h2, rfl, j2, x0, x1⟩
    have s2 : GS L n T ts m Lh h2 := ⟨s.hT, s.gi, s.hg, j2, s.nl⟩
    obtain ⟨c0, c1⟩ := s2.cel p nd e
    have i3 : ixK 3 h2 h2[L.length + 2 * p + 1]? = some (.d (.ref (L.length + 2 * p)), h2) := by rw [c1]; rfl
    cases hx : x == 0 with
    | false =>
      simp_arith! only [hx]
      exact ⟨_, _, rfl, s2⟩
    | true =>
      obtain ⟨b0, e0, n0⟩ := nil_ok s.gi s2.cel e
      cases b0 with
      | true =>
        simp_arith! only [hx, i3, e0]
        exact ⟨_, _, rfl, s2⟩
      | false =>
        have ne : nd.cs ≠ [] := fun z => by have := n0.mpr z; cases this
        obtain ⟨y, w, l1, l2⟩ := last_ok c0 ne fun k hk => by
          obtain ⟨d, d1, _⟩ := s.gi.chd p nd e k hk
          exact ⟨d, (s2.cel k d d1).2⟩
        have ng : ∀ h, gNeg (.d (.int 1)) h = some (.d (.int (-1)), h) := fun h => rfl
        simp_arith! only [hx, i3, e0, ng, l1, l2]
        exact ⟨_, _, rfl, s2⟩
  rintro _ ⟨b, h2, rfl, s2⟩
  cases b with
  | true => exact (bA_w s2 e ho (by omega)).mono fun r hr => .inr ⟨m117, hr⟩
  | false => exact (bB_w s2 e d19 ho (by omega)).mono fun r hr => .inr ⟨m117, hr⟩
end

def pageW : List Nat := [112, 97, 103, 101]
/-- a tree is told: not deep, not large -/
theorem grown_w {T : List D} {L : Hs} {n : Nat} {h : Hs} (hT : okT T) (j : BT T L n h) (nl : n < L.length) {most : Int} (m0 : 0 ≤ most) (m1 : most ≤ 120) : ok (m__law_grown [.ref n, .int most] h) fun q => ∃ (t : Tr) (h' : Hs) (T' : List D), q = (.d (trD t), h') ∧ okT T' ∧ BT T' L n h' ∧ Good 22 t ∧ sz t ≤ 130 ∧ ∃ nm ws cs, t = .tg nm ws cs := by
  have hl := j.1
  have j0 := j
  have rg : ∀ h, rngK h [.d (.int most)] = some (rangeL 0 1 most.toNat, h) := fun h => rngK_e (by omega) (by omega)
  have rt : ∀ (t : Tr) (m : Nat) (T : List D) (ts : List Nd) (Lh h' : Hs), GS L n T ts m Lh h' → t = unf ts 22 0 → m ≤ 130 → ∃ (t' : Tr) (h2 : Hs) (T' : List D), ((.d (trD t), gc h h' (.d (trD t))) : RV × Hs) = (.d (trD t'), h2) ∧ okT T' ∧ BT T' L n h2 ∧ Good 22 t' ∧ sz t' ≤ 130 ∧ ∃ nm ws cs, t' = .tg nm ws cs := fun t m T ts Lh h' s ht hm => by
    obtain ⟨nd, e, d⟩ := s.gi.root
    refine ⟨t, _, T, rfl, s.hT, s.gc j0 t, ?_, ?_, _, _, _, ht.trans (unf_succ e)⟩
    · rw [ht]; exact good_ok s.gi 22 0 nd e (by omega)
    · rw [ht, size_ok s.gi]; exact hm
  have g0 : GI [(⟨pageW, [], [], 1⟩ : Nd)] 1 := by
    have one : ∀ (k : Nat) (nd : Nd), [(⟨pageW, [], [], 1⟩ : Nd)][k]? = some nd → nd = ⟨pageW, [], [], 1⟩ := fun k nd e => by
      cases k with
      | zero => simpa using e.symm
      | succ k => simp at e
    refine ⟨⟨_, rfl, rfl⟩, fun k nd e => ?_, fun k nd e j hj => ?_, fun k nd e => ?_, fun f => ?_, ?_⟩
    · rw [one k nd e]; exact ⟨by show 1 ≤ 1; omega, by show 1 ≤ 20; omega⟩
    · rw [one k nd e] at hj; cases hj
    · rw [one k nd e]; exact ⟨⟨by decide, by decide⟩, ⟨by simp, fun w hw => by cases hw⟩, fun s hs => by cases hs⟩
    · simp [csF]
    · simp [csF]
  have s0 : GS L n T [(⟨pageW, [], [], 1⟩ : Nd)] 1 (L ++ [cs0 L.length ⟨pageW, [], [], 1⟩, cs1 L.length 0 ⟨pageW, [], [], 1⟩]) (h ++ [.lst [], .lst [.str wTg, .str pageW, .tup [], .ref h.length]]) := by
    have a := (HG.start L).new (nd := ⟨pageW, [], [], 1⟩)
    refine ⟨hT, g0, a, ?_, nl⟩
    have := j.app (X := [cs0 L.length ⟨pageW, [], [], 1⟩, cs1 L.length 0 ⟨pageW, [], [], 1⟩]) nl
    rw [show (h ++ [cs0 L.length ⟨pageW, [], [], 1⟩, cs1 L.length 0 ⟨pageW, [], [], 1⟩] : Hs) = h ++ [.lst [], .lst [.str wTg, .str pageW, .tup [], .ref h.length]] by rw [hl]; rfl] at this
    exact this
  unfold m__law_grown
  rw [b_grown_eq]
  refine wp_ok ?_
  rw [mOf_e]
  simp_arith! only [bd_some, eNew_e, newR_l, dAsg_e]
  have ea : h ++ [Cell.lst []] ++ [Cell.lst [.str [116, 97, 103], .str [112, 97, 103, 101], .tup [], .ref h.length]] = h ++ [.lst [], .lst [.str wTg, .str pageW, .tup [], .ref h.length]] := by rw [List.append_assoc]; rfl
  rw [ea]
  refine wp_of (draw_w s0.j (by decide) (by decide)) ?_
  rintro _ ⟨style, h1, rfl, j1, t0, t1⟩
  simp_arith! only [rg, hl]
  refine wp_of (R := fun r => Rt L n r ∨ ∃ (op : List (Nat × Nat)) (m : Nat) (size : Int) (T : List D) (ts : List Nd) (Lh h : Hs) (x7 x8 x9 x10 x11 x12 x13 x14 : F.Slot), r = .nx [.v (.ref n), .v (.int most), .v (.ref (L.length + 1)), .c (.lst (op.map (opD L.length))), .v (.int (m : Nat)), .v (.int size), .v (.int style), x7, x8, x9, x10, x11, x12, x13, x14] h ∧ GS L n T ts m Lh h ∧ m ≤ 120)
    (ok_dFl (I := fun ds env h => ∃ (op : List (Nat × Nat)) (m : Nat) (size : Int) (T : List D) (ts : List Nd) (Lh : Hs) (x7 x8 x9 x10 x11 x12 x13 x14 : F.Slot), env = [.v (.ref n), .v (.int most), .v (.ref (L.length + 1)), .c (.lst (op.map (opD L.length))), .v (.int (m : Nat)), .v (.int size), .v (.int style), x7, x8, x9, x10, x11, x12, x13, x14] ∧ GS L n T ts m Lh h ∧ OpOk ts op ∧ m ≤ 120) ?_ ?_ _ _ _
      ⟨[(0, 1)], 1, 0, T, _, _, .no, .no, .no, .no, .no, .no, .no, .no, rfl, ⟨hT, g0, s0.hg, j1, nl⟩, ⟨by simp, by simp, fun o ho => by rw [List.mem_singleton.mp ho]; exact ⟨_, rfl, rfl⟩⟩, by omega⟩) ?_
  · rintro d ds _ h ⟨op, m, size, T, ts, Lh, x7, x8, x9, x10, x11, x12, x13, x14, rfl, s, ho, hm⟩
    refine wp_ok ?_
    simp -implicitDefEqProofs only [gNm_e, wp_some, Ho_q, ok_wp, List.set_cons_succ, List.set_cons_zero]
    refine (bL_w s ho hm t0 t1).mono fun r hr => ?_
    rcases hr with hr | ⟨m117, op', m', size', T', ts', Lh', h', y7, y8, y9, y10, y11, y12, y13, y14, rfl, s', ho', hm'⟩
    · obtain ⟨t, m', T', ts', Lh', h', e, s', et, hm'⟩ := hr
      subst e
      exact .inl ⟨t, m', T', ts', Lh', h', rfl, s', et, hm'⟩
    · exact ⟨op', m', size', T', ts', Lh', y7, y8, y9, y10, y11, y12, y13, y14, rfl, s', ho', by omega⟩
  · rintro _ h ⟨op, m, size, T, ts, Lh, x7, x8, x9, x10, x11, x12, x13, x14, rfl, s, ho, hm⟩
    exact .inr ⟨op, m, size, T, ts, Lh, h, x7, x8, x9, x10, x11, x12, x13, x14, rfl, s, hm⟩
  rintro _ (⟨t, m, T', ts, Lh, h', rfl, s, et, hm⟩ | ⟨op, m, size, T', ts, Lh, h', x7, x8, x9, x10, x11, x12, x13, x14, rfl, s, hm⟩)
  · simp_arith! only [eC_e]
    exact rt t m T' ts Lh h' s et hm
  · have rn := root_node s (by omega)
    simp_arith! only [rn]
    exact rt _ m T' ts Lh h' s rfl (by omega)
end W
namespace W
open PySem hiding Env
open L2 F
set_option hygiene false
local macro_rules | `(tactic| simp_arith only [$as,*]) => `(tactic| simp -implicitDefEqProofs only [$as,*, dSeq_e, dNil_e, dIf_e, dSet_e, dRet_e, dExpr_e, dAsg_e, dFor_e, eC_e, eV_e, eB_e, eU_e, fB_e, eCh_e, fAnd_e, fOr_e, fNot_e, fYes_e, eIf_e, eNot_e, eAnd_e, eOr_e, aNil_e, aCons_e,  plain_nil, plain_cons, eTup_e, eLst_e, frzR_l, frzR_d, eFrz_e, newR_l, eNew_e, oN_e, oI_e, eSl_e, eF_e, eM1_e, eIsi_e, eKget_e, eKin_e, callR_d, callR_l, eCall_e, sqS_nx, sqS_rt, sqS_none, sqS_cond,  bd_some, bd_none, bd_cond, bK_eq, iK_eq, sK_eq, dK_eq, rdS_v, rdS_c, setR_d, setR_l, retR_d, retR_l, retR_b, gTp_e, gNm_e, gAll_nil, gAll_cons, fin_rt, fin_nx, fin_none, fin_cond, mOf_e, gc_same, rnd_nx, rnd_ct, rnd_bk, rnd_rt, rnd_none, rnd_cond,  iE_e, itR_rol, itR_scr, itR_l, itR_tup, itR_str, iR1_e, eLc_e, List.getElem?_cons_zero, List.getElem?_cons_succ, List.set_cons_zero, List.set_cons_succ, List.map_cons, List.map_nil, List.length_cons, List.length_nil, List.cons_append, List.nil_append,  List.replicate_succ, List.replicate_zero, Nat.reduceSub, Nat.reduceAdd, Nat.zero_add, List.reduceReplicate, cond_true, cond_false, gEq_str, gNe_str, gEq_int, gNe_int, gEq_bl, gNe_bl, gLt_int, gLe_int, gGt_int, gGe_int, gAdd_int, gSub_e, gNeg_e, gIn_sign, gNi_sign, gIs_e, gIsNot_e, gLen_rol, gLen_scr, gLen_tup, gLen_l, gLen_b, gSl_tup, gSl_rol, gSl_scr, gInt_bl, gAbs_e, gTupOf_rol, gTupOf_b,  wipeE, tupK_0, tupK_1, tupK_2, tupK_3, tupK_4, tupK_5, tupK_6, tupK_7, tupK_8, lstK_0, lstK_1, lstK_2, lstK_3, lstK_4, lstK_5, lstK_6, lstK_7, lstK_8, one_eq, inF_cons, inF_nil, cut_take1, cut_drop1, Bool.or_false, Bool.not_true, Bool.not_false, dApp_e, slK_c, appS_e, dFrz_e, frK_c, frK_v, dPut_e, rfK_e, Nat.reduceLeDiff, dFl_cons, dFl_nil, lcK_one, ixK_e, gIx_ref_e, ptK_e, putS_k, ix5_0, ix5_1, ix5_2, ix5_3, ix5_4, at5_0, at5_1, at5_2, at5_3, at5_4, List.set_set])
/-! k05: any trees; what is_sound_tag looks at -/
def WtO (ws : List Wt) : Prop := ws.length ≤ 5 ∧ ∀ w ∈ ws, Tk 12 w.1 ∧ Tk 20 w.2
def GoodO : Nat → Tr → Prop
  | 0, _ => False
  | f + 1, .tx s => Tk 20 s
  | f + 1, .tg nm ws cs => Tk 12 nm ∧ WtO ws ∧ ∀ c ∈ cs, GoodO f c
theorem wtO_of {ws : List Wt} (h : WtOk ws) : WtO ws := ⟨by have := h.1; omega, fun w hw => ⟨(h.2 w hw).1, (h.2 w hw).2.1, by have := (h.2 w hw).2.2; omega⟩⟩
theorem goodO_of : ∀ {f : Nat} {t : Tr}, Good f t → GoodO f t
  | 0, t, h => h.elim
  | f + 1, .tx s, h => h
  | f + 1, .tg nm ws cs, h => ⟨h.1, wtO_of h.2.1, fun c hc => goodO_of (h.2.2 c hc)⟩
theorem goodO_le : ∀ {f g : Nat} {t : Tr}, GoodO f t → f ≤ g → GoodO g t
  | 0, g, t, h, _ => h.elim
  | f + 1, 0, t, h, l => absurd l (by omega)
  | f + 1, g + 1, .tx s, h, l => h
  | f + 1, g + 1, .tg nm ws cs, h, l => ⟨h.1, h.2.1, fun c hc => goodO_le (h.2.2 c hc) (by omega)⟩
theorem dOk_wtO {n : Nat} {w : Wt} (h : Tk 12 w.1 ∧ Tk 20 w.2) : dOk (n + 1) (wtD w) = true := by
  unfold wtD
  simp only [dOk, dOks, al_s h.1, al_s h.2, Bool.and_self]
theorem goodO_dOk : ∀ (f : Nat) (t : Tr), GoodO f t → dOk (2 * f + 1) (trD t) = true
  | 0, t, h => h.elim
  | f + 1, .tx s, h => by
    rw [trD, show 2 * (f + 1) + 1 = (2 * f + 2) + 1 by omega]
    have h' : Tk 20 s := h
    simp only [dOk, dOks, al_s tk_w.1, al_s h', Bool.and_self]
  | f + 1, .tg nm ws cs, h => by
    obtain ⟨h1, h2, h3⟩ := h
    rw [trD, trDs_map, show 2 * (f + 1) + 1 = (2 * f + 2) + 1 by omega]
    have a : dOks (2 * f + 1) (ws.map wtD) = true := dOks_map fun w hw => dOk_wtO (n := 2 * f) (h2.2 w hw)
    have b : dOks (2 * f + 1) (cs.map trD) = true := dOks_map fun t ht => goodO_dOk f t (h3 t ht)
    simp only [dOk, dOks, al_s tk_w.2, al_s h1, a, b, Bool.and_self]
/-! plain words -/
def isX : Tr → Bool
  | .tx _ => true
  | _ => false
def kd (t : Tr) : List Nat := cond (isX t) wTx wTg
def adj : List Tr → Bool
  | [] => false
  | [_] => false
  | a :: b :: r => (isX a && isX b) || adj (b :: r)
def cEnd : List Nat := [60, 47, 115, 99, 114, 105, 112, 116, 62]
def scrW : List Nat := [115, 99, 114, 105, 112, 116]
def nms (ws : List Wt) : List (List Nat) := ws.map (·.1)
def codeOk : List Tr → Bool
  | [.tx s] => !occ cEnd s
  | _ => false
def sndT (nm : List Nat) (ws : List Wt) (cs : List Tr) : Bool :=
  cond (decide (¬ (nms ws).Nodup) || adj cs) false (cond (!(nm == scrW) || cs.isEmpty) true (codeOk cs))
mutual
def snd : Tr → Bool
  | .tx s => !(s == [])
  | .tg nm ws cs => sndT nm ws cs && snds cs
def snds : List Tr → Bool
  | [] => true
  | t :: ts => snd t && snds ts
end
theorem snds_all : ∀ cs : List Tr, snds cs = cs.all snd
  | [] => rfl
  | c :: cs => by rw [snds, snds_all cs]; rfl
/-! texts beside each other -/
theorem eqD_pair (a b : Tr) : eqD (pairDD (.str (kd a), .str (kd b))) (.tup [.str wTx, .str wTx]) = (isX a && isX b) := by
  cases a <;> cases b <;> (unfold pairDD; simp only [eqD, eqDs]; rfl)
theorem adj_any : ∀ cs : List Tr, ((((cs.map fun c => D.str (kd c)).zip ((cs.map fun c => D.str (kd c)).drop 1)).map pairDD).any fun z => eqD z (.tup [.str wTx, .str wTx])) = adj cs
  | [] => rfl
  | [a] => rfl
  | a :: b :: r => by
    have ih := adj_any (b :: r)
    simp only [List.map_cons, List.drop_succ_cons, List.drop_zero, List.zip_cons_cons, List.any_cons] at ih ⊢
    rw [ih, eqD_pair, adj]
theorem kd_dOk (c : Tr) (n : Nat) : dOk n (.str (kd c)) = true := by
  cases c with
  | tx s => simp only [dOk]; exact al_s tk_w.1
  | tg a b c => simp only [dOk]; exact al_s tk_w.2
theorem pairs_dOk : ∀ {xs ys : List D}, dOks 3 xs = true → dOks 3 ys = true → dOks 4 ((xs.zip ys).map pairDD) = true
  | [], ys, _, _ => by rw [List.zip_nil_left]; rfl
  | x :: xs, [], _, _ => by rw [List.zip_nil_right]; rfl
  | x :: xs, y :: ys, h1, h2 => by
    simp only [dOks, Bool.and_eq_true] at h1 h2
    rw [List.zip_cons_cons, List.map_cons]
    unfold pairDD
    simp only [dOk, dOks, h1.1, h2.1, Bool.and_self, Bool.true_and]
    exact pairs_dOk h1.2 h2.2
theorem kinds_dOks (cs : List Tr) (n : Nat) : dOks n (cs.map fun c => D.str (kd c)) = true := dOks_map fun c _ => kd_dOk c n
theorem dOks_drop {n : Nat} : ∀ {l : List D} (k : Nat), dOks n l = true → dOks n (l.drop k) = true
  | [], k, h => by rw [List.drop_nil]; rfl
  | x :: l, 0, h => h
  | x :: l, k + 1, h => by
    simp only [dOks, Bool.and_eq_true] at h
    exact dOks_drop k h.2
theorem i_kd (t : Tr) (h : Hs) : gIx (.d (trD t)) (.d (.int 0)) h = some (.d (.str (kd t)), h) := by
  cases t <;> (rw [trD]; exact gIx_tup atI_zero)
theorem wtd_34 (w : Wt) (env : F.Env) : gTp [(gNm 3), (gNm 4)] (wtD w) env = some ((env.set 3 (.v (.str w.1))).set 4 (.v (.str w.2))) := rfl
theorem names_lc {ws : List Wt} (hz : ws.length ≤ 5) {env : F.Env} {h : Hs} (h3 : ∀ w : Wt, eV 3 (((wipeE env [3, 4]).set 3 (.v (.str w.1))).set 4 (.v (.str w.2))) h = some (.d (.str w.1), h)) : lcK [3, 4] (gTp [(gNm 3), (gNm 4)]) fYes (eV 3) env (ws.map wtD) h = some (.l (.lst ((nms ws).map .str)), h) := by
  have := lcK_map (vs := [3, 4]) (g := gTp [gNm 3, gNm 4]) (tt := fYes) (te := eV 3) (env := env) (h := h) (ds := ws.map wtD) (E := fun d => match d with | .tup [x, y] => ((wipeE env [3, 4]).set 3 (.v x)).set 4 (.v y) | _ => []) (v := fun d => match d with | .tup [x, y] => x | _ => .non) (by simp; omega) fun d hd => by
    obtain ⟨x, _, rfl⟩ := List.mem_map.mp hd
    exact ⟨rfl, rfl, h3 x⟩
  rw [this, List.map_map]
  unfold nms
  rw [List.map_map]
  rfl
theorem eq_kinds (cs : List Tr) : eqD (.rol (cs.map fun c => D.str (kd c))) (.rol [.str wTx]) = (match cs with | [c] => isX c | _ => false) := by
  match cs with
  | [] => simp only [List.map_nil, eqD, eqDs]
  | [c] => cases c <;> (simp only [List.map_cons, List.map_nil, eqD, eqDs]; rfl)
  | a :: b :: r => simp only [List.map_cons, eqD, eqDs, Bool.and_false]
theorem sound_ok {nm : List Nat} {ws : List Wt} {cs : List Tr} (g1 : Tk 12 nm) (g2 : WtO ws) (hz : cs.length ≤ 1000) (h : Hs) : m_is_sound_tag [trD (.tg nm ws cs)] h = some (.d (.bl (sndT nm ws cs)), h) := by
  have i1 : ∀ h, gIx (.d (trD (.tg nm ws cs))) (.d (.int 1)) h = some (.d (.str nm), h) := fun h => by rw [trD]; exact gIx_tup atI_one
  have i2 : ∀ h, gIx (.d (trD (.tg nm ws cs))) (.d (.int 2)) h = some (.d (.tup (ws.map wtD)), h) := fun h => by rw [trD]; exact gIx_tup atI_two
  have i3 : ∀ h, gIx (.d (trD (.tg nm ws cs))) (.d (.int 3)) h = some (.d (.tup (cs.map trD)), h) := fun h => by rw [trD, trDs_map]; rfl
  have wl := g2.1
  have nl : (nms ws).length = ws.length := by unfold nms; rw [List.length_map]
  have n1 := fun x1 x2 x5 => names_lc (ws := ws) g2.1 (env := [.v (trD (.tg nm ws cs)), x1, x2, .no, .no, x5]) (h := h) fun w => rfl
  have k1 := fun x1 x2 x3 x4 => lcK_T (l := cs) (c := trD) (k := 5) (te := eB gIx (eV 5) (eC (.int 0))) (env := [.v (trD (.tg nm ws cs)), x1, x2, x3, x4, .no]) (h := h) (fun c => .str (kd c)) (by omega) fun c hc => by
    have := i_kd c
    simp_arith only [this]
  have l1 := fun env => eLenS_e (f := eV 1) (env := .v (trD (.tg nm ws cs)) :: .v (.rol ((nms ws).map .str)) :: env) (h := h) (ss := nms ws) rfl rfl (by unfold scanBound; omega)
  have z1 := fun x1 env => eZipL_e (fa := aCons (eV 2) (aCons (eSl (eV 2) (oI (eC (.int 1))) oN) aNil)) (env := .v (trD (.tg nm ws cs)) :: x1 :: .v (.rol (cs.map fun c => .str (kd c))) :: env) (h := h) (x := .d (.rol (cs.map fun c => .str (kd c)))) (h1 := h) (y := .l (.lst ((cs.map fun c => D.str (kd c)).drop 1))) (by simp_arith only [eC_e]) rfl rfl
  have x1 := gInX_plain (ng := false) (x := .d (.tup [.str [116, 101, 120, 116], .str [116, 101, 120, 116]])) (y := .l (.lst (((cs.map fun c => D.str (kd c)).zip ((cs.map fun c => D.str (kd c)).drop 1)).map pairDD))) (h := h) rfl rfl 4 (by decide) (pairs_dOk (kinds_dOks cs 3) (dOks_drop 1 (kinds_dOks cs 3)))
  rw [show (D.tup [.str [116, 101, 120, 116], .str [116, 101, 120, 116]]) = .tup [.str wTx, .str wTx] from rfl, adj_any, if_neg Bool.false_ne_true] at x1
  rw [show (D.tup [.str wTx, .str wTx]) = .tup [.str [116, 101, 120, 116], .str [116, 101, 120, 116]] from rfl] at x1
  have e0 := gEq_any (ng := false) (x := .d (.rol (cs.map fun c => D.str (kd c)))) (y := .l (.lst [])) (h := h) rfl rfl 3 (by simp only [dOk]; exact kinds_dOks cs 2) (by decide)
  have e1 := gEq_any (ng := false) (x := .d (.rol (cs.map fun c => D.str (kd c)))) (y := .l (.lst [.str wTx])) (h := h) rfl rfl 3 (by simp only [dOk]; exact kinds_dOks cs 2) (by decide)
  rw [eq_kinds, if_neg Bool.false_ne_true, show (D.str wTx) = .str [116, 101, 120, 116] from rfl] at e1
  have en : eqD (.rol (cs.map fun c => D.str (kd c))) (.rol []) = cs.isEmpty := by cases cs <;> (simp only [List.map_nil, List.map_cons, eqD, eqDs]; rfl)
  rw [en, if_neg Bool.false_ne_true] at e0
  have ed : decide ((((StT.dd (nms ws)).length : Nat) : Int) < (((List.map D.str (nms ws)).length : Nat) : Int)) = decide (¬ (nms ws).Nodup) := by
    rw [decide_eq_decide, ← StT.len_dd_lt, List.length_map]
    omega
  have ni : ∀ s : List Nat, gNi (.d c_CODE_END) (.d (.str s)) h = some (.d (.bl (!occ cEnd s)), h) := fun s => rfl
  unfold m_is_sound_tag b_is_sound_tag sndT
  have nc : gNe (.d (.str nm)) (.d c_CODE) h = some (.d (.bl (!(nm == scrW))), h) := rfl
  simp_arith only [i1, i2, i3, n1, k1, l1, z1, x1, e0, e1, ed, nc]
  cases decide (¬ (nms ws).Nodup) with
  | true => rfl
  | false =>
    rw [Bool.false_or, cond_false]
    cases adj cs with
    | true => rfl
    | false =>
      cases nm == scrW with
      | false => rfl
      | true =>
        match cs with
        | [] => rfl
        | [.tx s] =>
          have c1 : gIx (.d (.tup [trD (.tx s)])) (.d (.int 0)) h = some (.d (trD (.tx s)), h) := gIx_tup atI_zero
          have c2 : gIx (.d (trD (.tx s))) (.d (.int 1)) h = some (.d (.str s), h) := by rw [trD]; exact gIx_tup atI_one
          simp_arith only [c1, c2, ni, isX, List.isEmpty_cons, codeOk, Bool.or_false]
        | [.tg a b c] => rfl
        | a :: b :: r => cases a <;> rfl
end W
namespace W
open PySem hiding Env
open L2 F
set_option hygiene false
local macro_rules | `(tactic| simp_arith only [$as,*]) => `(tactic| simp -implicitDefEqProofs only [$as,*, dSeq_e, dNil_e, dIf_e, dSet_e, dRet_e, dExpr_e, dAsg_e, dFor_e, eC_e, eV_e, eB_e, eU_e, fB_e, eCh_e, fAnd_e, fOr_e, fNot_e, fYes_e, eIf_e, eNot_e, eAnd_e, eOr_e, aNil_e, aCons_e,  plain_nil, plain_cons, eTup_e, eLst_e, frzR_l, frzR_d, eFrz_e, newR_l, eNew_e, oN_e, oI_e, eSl_e, eF_e, eM1_e, eIsi_e, eKget_e, eKin_e, callR_d, callR_l, eCall_e, sqS_nx, sqS_rt, sqS_none, sqS_cond,  bd_some, bd_none, bd_cond, bK_eq, iK_eq, sK_eq, dK_eq, rdS_v, rdS_c, setR_d, setR_l, retR_d, retR_l, retR_b, gTp_e, gNm_e, gAll_nil, gAll_cons, fin_rt, fin_nx, fin_none, fin_cond, mOf_e, gc_same, rnd_nx, rnd_ct, rnd_bk, rnd_rt, rnd_none, rnd_cond,  iE_e, itR_rol, itR_scr, itR_l, itR_tup, itR_str, iR1_e, eLc_e, List.getElem?_cons_zero, List.getElem?_cons_succ, List.set_cons_zero, List.set_cons_succ, List.map_cons, List.map_nil, List.length_cons, List.length_nil, List.cons_append, List.nil_append,  List.replicate_succ, List.replicate_zero, Nat.reduceSub, Nat.reduceAdd, Nat.zero_add, List.reduceReplicate, cond_true, cond_false, gEq_str, gNe_str, gEq_int, gNe_int, gEq_bl, gNe_bl, gLt_int, gLe_int, gGt_int, gGe_int, gAdd_int, gSub_e, gNeg_e, gIn_sign, gNi_sign, gIs_e, gIsNot_e, gLen_rol, gLen_scr, gLen_tup, gLen_l, gLen_b, gSl_tup, gSl_rol, gSl_scr, gInt_bl, gAbs_e, gTupOf_rol, gTupOf_b,  wipeE, tupK_0, tupK_1, tupK_2, tupK_3, tupK_4, tupK_5, tupK_6, tupK_7, tupK_8, lstK_0, lstK_1, lstK_2, lstK_3, lstK_4, lstK_5, lstK_6, lstK_7, lstK_8, one_eq, inF_cons, inF_nil, cut_take1, cut_drop1, Bool.or_false, Bool.not_true, Bool.not_false, dApp_e, slK_c, appS_e, dFrz_e, frK_c, frK_v, dPut_e, rfK_e, Nat.reduceLeDiff, dFl_cons, dFl_nil, lcK_one, ixK_e, gIx_ref_e, ptK_e, putS_k, ix5_0, ix5_1, ix5_2, ix5_3, ix5_4, at5_0, at5_1, at5_2, at5_3, at5_4, List.set_set])
local macro_rules | `(tactic| simp_arith! only [$as,*]) => `(tactic| simp -implicitDefEqProofs only [$as,*, dSeq_e, dNil_e, dIf_e, dSet_e, dRet_e, dExpr_e, dAsg_e, dFor_e, eC_e, eV_e, eB_e, eU_e, fB_e, eCh_e, fAnd_e, fOr_e, fNot_e, fYes_e, eIf_e, eNot_e, eAnd_e, eOr_e, aNil_e, aCons_e, plain_nil, plain_cons, eTup_e, eLst_e, frzR_l, frzR_d, eFrz_e, newR_l, eNew_e, oN_e, oI_e, eSl_e, eF_e, eM1_e, eIsi_e, eKget_e, eKin_e, eCall_e, bd_none, bK_eq, iK_eq, sK_eq, dK_eq, rdS_v, rdS_c, setR_d, setR_l, retR_d, retR_l, retR_b, gTp_e, gNm_e, gAll_nil, gAll_cons, mOf_e, iE_e, itR_rol, itR_scr, itR_l, itR_tup, itR_str, iR1_e, eLc_e, List.getElem?_cons_zero, List.getElem?_cons_succ, List.set_cons_zero, List.set_cons_succ, List.map_cons, List.map_nil, List.length_cons, List.length_nil, List.cons_append, List.nil_append, List.replicate_succ, List.replicate_zero, Nat.reduceSub, Nat.reduceAdd, Nat.zero_add, List.reduceReplicate, cond_true, cond_false, gEq_str, gNe_str, gEq_int, gNe_int, gEq_bl, gNe_bl, gLt_int, gLe_int, gGt_int, gGe_int, gAdd_int, gSub_e, gNeg_e, gIn_sign, gNi_sign, gIs_e, gIsNot_e, gLen_rol, gLen_scr, gLen_tup, gLen_l, gLen_b, gSl_tup, gSl_rol, gSl_scr, gInt_bl, gAbs_e, gTupOf_rol, gTupOf_b, wipeE, tupK_0, tupK_1, tupK_2, tupK_3, tupK_4, tupK_5, tupK_6, tupK_7, tupK_8, lstK_0, lstK_1, lstK_2, lstK_3, lstK_4, lstK_5, lstK_6, lstK_7, lstK_8, one_eq, inF_cons, inF_nil, cut_take1, cut_drop1, Bool.or_false, Bool.not_true, Bool.not_false, dApp_e, slK_c, appS_e, dFrz_e, frK_c, frK_v, dPut_e, rfK_e, Nat.reduceLeDiff, dFl_cons, dFl_nil, lcK_one, ixK_e, gIx_ref_e, ptK_e, putS_k, ix5_0, ix5_1, ix5_2, ix5_3, ix5_4, at5_0, at5_1, at5_2, at5_3, at5_4, List.set_set, Int.cast_ofNat_Int, Int.reduceAdd, Int.reduceSub, Int.reduceMul, Int.reduceNeg, Int.reduceLT, Int.reduceLE, Int.reduceEq, Int.reduceNe, Int.reduceBEq, decide_true, decide_false, ixr0, ixr1, ixr2, drop1c, drop2c, take1c, gSl_l, gSl_b, dExtO_e, dPopX_e, dPopO_e, dPutO_e, iR2_e, iEn_e, enK_e, eMN_e, gFind3_e, gStarts3_e, gAug_int, gAugS_int, gInt_int, gMax2_e, gMin2_e, gLstOf_rol, gLstOf_tup, gLstOf_l, gTupOf_l, ixb0, ixt0, ixt1, ixt2, eMinDf_e, gMinDf_l, eBack_e, gBack_rol, gBack_b, dPar_e, eDNew_e, dDPut_e, dcK_c, eDGt_e, dv_b, dvK_some, dgtS_i, gDi_t, gDi_f, eDsp_e, dspK_2, eCallK_e, isNon_rol, isNon_non, List.length_map, List.length_append, ok_wp, wp_some, wp_bd, wp_sqS, wp_rnd, wp_fin, wp_callR, Ho_q, sqC_nx, sqC_rt, sqC_bk, sqC_ct, rndC_nx, rndC_ct, rndC_bk, rndC_rt, finC_rt, finC_nx, callC_d, callC_l, Bool.false_eq_true, if_true, if_false])
/-! k05: is_whole -/
def whole : Tr → Bool
  | .tx _ => false
  | .tg nm ws cs => (nm == pageW && ws.isEmpty) && snd (.tg nm ws cs)
def szL (st : List Tr) : Nat := (st.map sz).sum
theorem sz_pos (t : Tr) : 1 ≤ sz t := by cases t <;> simp [sz]
theorem len_szL : ∀ st : List Tr, st.length ≤ szL st
  | [] => Nat.le_refl _
  | t :: r => by
    have ih := len_szL r
    have := sz_pos t
    unfold szL at ih ⊢
    simp only [List.map_cons, List.sum_cons, List.length_cons]
    omega
theorem szL_rev (cs r : List Tr) : szL (cs.reverse ++ r) = szs cs + szL r := by
  unfold szL
  rw [List.map_append, List.sum_append, List.map_reverse, List.sum_reverse, szs_sum]
theorem szs_len (cs : List Tr) : cs.length ≤ szs cs := by rw [szs_sum]; exact len_szL cs
theorem eqDs_nilL (l : List D) : eqD (.rol l) (.rol []) = l.isEmpty := by
  cases l with
  | nil => simp only [eqD, eqDs]; rfl
  | cons a l => simp only [eqD, eqDs]; rfl
theorem eq_tx (t : Tr) : eqD (trD t) (.tup [.str [116, 101, 120, 116], .str []]) = (match t with | .tx s => s == [] | _ => false) := by
  cases t with
  | tx s =>
    rw [trD]
    simp only [eqD, eqDs, Bool.and_true]
    rfl
  | tg a b c =>
    rw [trD]
    simp only [eqD, eqDs, Bool.and_false]
theorem all_rev (f : Tr → Bool) (cs r : List Tr) : (cs.reverse ++ r).all f = (cs.all f && r.all f) := by rw [List.all_append, List.all_reverse]
theorem eq_nilT (l : List Wt) : eqD (.tup (l.map wtD)) (.tup []) = l.isEmpty := by
  cases l with
  | nil => simp only [List.map_nil, eqD, eqDs]; rfl
  | cons a l => simp only [List.map_cons, eqD, eqDs]; rfl
theorem whole_ok {t : Tr} (g : GoodO 25 t) (hz : sz t ≤ 900) (h : Hs) : m_is_whole [trD t] h = some (.d (.bl (whole t)), h) := by
  have key : ok (m_is_whole [trD t] h) fun q => q = (.d (.bl (whole t)), h) := by
    have i0 := i_kd t
    unfold m_is_whole b_is_whole
    refine wp_ok ?_
    rw [mOf_e]
    cases t with
    | tx s =>
      have q : (kd (.tx s) == [116, 97, 103]) = false := rfl
      simp_arith! only [bd_some, i0, q, gc_same]
      rfl
    | tg nm ws cs =>
      have q : (kd (.tg nm ws cs) == [116, 97, 103]) = true := rfl
      have i1 : ∀ h, gIx (.d (trD (.tg nm ws cs))) (.d (.int 1)) h = some (.d (.str nm), h) := fun h => by rw [trD]; exact gIx_tup atI_one
      have i2 : ∀ h, gIx (.d (trD (.tg nm ws cs))) (.d (.int 2)) h = some (.d (.tup (ws.map wtD)), h) := fun h => by rw [trD]; exact gIx_tup atI_two
      have a : dOks 2 (ws.map wtD) = true := dOks_map fun w hw => dOk_wtO (n := 1) (g.2.1.2 w hw)
      have e2 := gEq_plain (ng := true) (d := .tup (ws.map wtD)) (e := .tup []) (h := h) 3 (by simp only [dOk]; exact a) (by decide)
      rw [eq_nilT, if_pos rfl] at e2
      obtain ⟨T, hT⟩ : ∃ T, T = Tr.tg nm ws cs := ⟨_, rfl⟩
      have wT : whole (.tg nm ws cs) = ((nm == pageW && ws.isEmpty) && snd T) := by rw [hT]; rfl
      rw [wT]
      rw [← hT] at i0 i1 i2 q g hz ⊢
      simp_arith! only [bd_some, i0, i1, i2, e2, q]
      have qp : (nm == [112, 97, 103, 101]) = (nm == pageW) := rfl
      rw [qp]
      cases nm == pageW with
      | false =>
        simp_arith! only [Bool.false_and, gc_same]
      | true =>
        cases ws.isEmpty with
        | false => simp_arith! only [Bool.false_and, Bool.and_false, gc_same]
        | true =>
          simp_arith! only [Bool.true_and]
          refine wp_of (R := fun o => (snd T = false ∧ o = .rt (.d (.bl false)) h) ∨ (snd T = true ∧ ∃ e, o = .nx e h))
            (ok_dWh (I := fun k env hh => ∃ (st : List Tr) (x2 : F.Slot), env = [.v (trD T), .c (.lst (st.reverse.map trD)), x2] ∧ hh = h ∧ k = szL st ∧ snd T = st.all snd ∧ (∀ x ∈ st, GoodO 25 x) ∧ szL st ≤ 900) ?_ 100000 (sz T) _ _ (by omega)
              ⟨[T], .no, rfl, rfl, by simp [szL], by simp, fun x hx => by rw [List.mem_singleton.mp hx]; exact g, by simp [szL]; exact hz⟩) ?_
          · rintro k _ hh ⟨st, x2, rfl, eh, rfl, e, hst, hl⟩
            have eh := eh.symm
            subst eh
            have ne := gEq_any (ng := true) (x := .b (.lst (st.reverse.map trD))) (y := .l (.lst [])) (h := h) rfl rfl 52 (by show dOk (51 + 1) _ = true; simp only [dOk]; exact dOks_map fun x hx => goodO_dOk 25 x (hst x (List.mem_reverse.mp hx))) (by show dOk (51 + 1) _ = true; simp only [dOk, dOks])
            rw [eqDs_nilL, if_pos rfl] at ne
            refine wp_ok ?_
            simp_arith! only [ne]
            cases st with
            | nil => exact .inr ⟨by rw [e]; rfl, _, rfl⟩
            | cons x r =>
              have hx := hst _ List.mem_cons_self
              have hr : ∀ y ∈ r, GoodO 25 y := fun y hy => hst y (List.mem_cons_of_mem _ hy)
              have e1 : (x :: r).reverse.map trD = r.reverse.map trD ++ [trD x] := by rw [List.reverse_cons, List.map_append]; rfl
              have b1 : (!(r.reverse.map trD ++ [trD x]).isEmpty) = true := by simp
              rw [e1, b1]
              have zs : szL (x :: r) = sz x + szL r := by simp [szL]
              have xp := sz_pos x
              have rl := len_szL r
              rw [zs] at hl ⊢
              have pp := dPopT_e (i := 1) (g := gNm 2) (env := [.v (trD T), .c (.lst (r.reverse.map trD ++ [trD x])), x2]) (env1 := [.v (trD T), .c (.lst (r.reverse.map trD)), .v (trD x)]) (h := h) rfl rfl
              have ex := gEq_plain (ng := false) (d := trD x) (e := .tup [.str [116, 101, 120, 116], .str []]) (h := h) 51 (goodO_dOk 25 x hx) (by decide)
              rw [eq_tx, if_neg Bool.false_ne_true] at ex
              have j0 := i_kd x
              show ok _ _
              refine wp_ok ?_
              cases x with
              | tx s =>
                have qx : (kd (.tx s) == [116, 97, 103]) = false := rfl
                simp only at ex
                have es : snd T = ((!(s == [])) && r.all snd) := e
                simp_arith! only [pp, ex]
                cases hs : s == [] with
                | true =>
                  rw [hs] at es
                  simp_arith! only [eC_e]
                  exact .inl ⟨es, trivial⟩
                | false =>
                  rw [hs] at es
                  simp_arith! only [j0, qx]
                  exact ⟨szL r, by simp [sz], r, _, rfl, trivial, rfl, es, hr, by omega⟩
              | tg nm ws cs =>
                have qx : (kd (.tg nm ws cs) == [116, 97, 103]) = true := rfl
                simp only at ex
                have es : snd T = ((sndT nm ws cs && snds cs) && r.all snd) := e
                have hc := szs_len cs
                rw [sz] at hl
                have sk := sound_ok (cs := cs) hx.1 hx.2.1 (by omega) h
                have i3 : gIx (.d (trD (.tg nm ws cs))) (.d (.int 3)) h = some (.d (.tup (cs.map trD)), h) := by rw [trD, trDs_map]; rfl
                have xt := dExtT_e (i := 1) (f := eB gIx (eV 2) (eC (.int 3))) (env := [.v (trD T), .c (.lst (r.reverse.map trD)), .v (trD (.tg nm ws cs))]) (h := h) (h1 := h) (ds := r.reverse.map trD) (es := cs.map trD) rfl (by simp_arith only [i3]) (by simp; omega)
                simp_arith! only [pp, ex, j0, qx, sk]
                cases hs : sndT nm ws cs with
                | false =>
                  rw [hs] at es
                  simp_arith! only [eC_e]
                  exact .inl ⟨es, trivial⟩
                | true =>
                  rw [hs, Bool.true_and] at es
                  simp_arith! only [xt]
                  refine ⟨szL (cs.reverse ++ r), by rw [szL_rev, sz]; omega, cs.reverse ++ r, .v (trD (.tg nm ws cs)), ?_, trivial, rfl, by rw [all_rev, ← snds_all]; exact es, fun y hy => ?_, by rw [szL_rev]; omega⟩
                  · rw [List.reverse_append, List.reverse_reverse, List.map_append]
                  · rcases List.mem_append.mp hy with z | z
                    · exact goodO_le (f := 24) (g := 25) (hx.2.2 y (List.mem_reverse.mp z)) (by decide)
                    · exact hr y z
          rintro _ (⟨e, rfl⟩ | ⟨e, env, rfl⟩)
          · rw [e]
            simp_arith! only [gc_same]
            rfl
          · rw [e]
            simp_arith! only [gc_same]
            rfl
  obtain ⟨q, e, rfl⟩ := key
  exact e
end W
namespace W
open PySem hiding Env
open L2 F
set_option hygiene false
local macro_rules | `(tactic| simp_arith only [$as,*]) => `(tactic| simp -implicitDefEqProofs only [$as,*, dSeq_e, dNil_e, dIf_e, dSet_e, dRet_e, dExpr_e, dAsg_e, dFor_e, eC_e, eV_e, eB_e, eU_e, fB_e, eCh_e, fAnd_e, fOr_e, fNot_e, fYes_e, eIf_e, eNot_e, eAnd_e, eOr_e, aNil_e, aCons_e,  plain_nil, plain_cons, eTup_e, eLst_e, frzR_l, frzR_d, eFrz_e, newR_l, eNew_e, oN_e, oI_e, eSl_e, eF_e, eM1_e, eIsi_e, eKget_e, eKin_e, callR_d, callR_l, eCall_e, sqS_nx, sqS_rt, sqS_none, sqS_cond,  bd_some, bd_none, bd_cond, bK_eq, iK_eq, sK_eq, dK_eq, rdS_v, rdS_c, setR_d, setR_l, retR_d, retR_l, retR_b, gTp_e, gNm_e, gAll_nil, gAll_cons, fin_rt, fin_nx, fin_none, fin_cond, mOf_e, gc_same, rnd_nx, rnd_ct, rnd_bk, rnd_rt, rnd_none, rnd_cond,  iE_e, itR_rol, itR_scr, itR_l, itR_tup, itR_str, iR1_e, eLc_e, List.getElem?_cons_zero, List.getElem?_cons_succ, List.set_cons_zero, List.set_cons_succ, List.map_cons, List.map_nil, List.length_cons, List.length_nil, List.cons_append, List.nil_append,  List.replicate_succ, List.replicate_zero, Nat.reduceSub, Nat.reduceAdd, Nat.zero_add, List.reduceReplicate, cond_true, cond_false, gEq_str, gNe_str, gEq_int, gNe_int, gEq_bl, gNe_bl, gLt_int, gLe_int, gGt_int, gGe_int, gAdd_int, gSub_e, gNeg_e, gIn_sign, gNi_sign, gIs_e, gIsNot_e, gLen_rol, gLen_scr, gLen_tup, gLen_l, gLen_b, gSl_tup, gSl_rol, gSl_scr, gInt_bl, gAbs_e, gTupOf_rol, gTupOf_b,  wipeE, tupK_0, tupK_1, tupK_2, tupK_3, tupK_4, tupK_5, tupK_6, tupK_7, tupK_8, lstK_0, lstK_1, lstK_2, lstK_3, lstK_4, lstK_5, lstK_6, lstK_7, lstK_8, one_eq, inF_cons, inF_nil, cut_take1, cut_drop1, Bool.or_false, Bool.not_true, Bool.not_false, dApp_e, slK_c, appS_e, dFrz_e, frK_c, frK_v, dPut_e, rfK_e, Nat.reduceLeDiff, dFl_cons, dFl_nil, lcK_one, ixK_e, gIx_ref_e, ptK_e, putS_k, ix5_0, ix5_1, ix5_2, ix5_3, ix5_4, at5_0, at5_1, at5_2, at5_3, at5_4, List.set_set])
/-! k05: the law's own look; how many nodes -/
def xAt (cs : List Tr) (k : Nat) : Bool := match cs[k]? with
  | some t => isX t
  | none => false
theorem adj_range : ∀ cs : List Tr, ((List.range (cs.length - 1)).any fun i => xAt cs (i + 1) && xAt cs i) = adj cs
  | [] => rfl
  | [a] => rfl
  | a :: b :: r => by
    have ih := adj_range (b :: r)
    have e : (a :: b :: r).length - 1 = r.length + 1 := rfl
    rw [e, List.range_succ_eq_map, List.any_cons, List.any_map]
    have e2 : (b :: r).length - 1 = r.length := rfl
    rw [e2] at ih
    rw [adj, ← ih]
    have e3 : (xAt (a :: b :: r) (0 + 1) && xAt (a :: b :: r) 0) = (isX a && isX b) := by
      show (isX b && isX a) = _
      rw [Bool.and_comm]
    rw [e3]
    rfl
def qB (cs : List Tr) : D → Bool
  | .int j => xAt cs j.toNat && xAt cs (j.toNat - 1)
  | _ => false
theorem qB_at (cs : List Tr) (i : Nat) : qB cs (.int (1 + (i : Nat) * 1)) = (xAt cs (i + 1) && xAt cs i) := by
  have e : ((1 : Int) + (i : Nat) * 1).toNat = i + 1 := by omega
  show (xAt cs ((1 : Int) + (i : Nat) * 1).toNat && xAt cs (((1 : Int) + (i : Nat) * 1).toNat - 1)) = _
  rw [e]
  rfl
theorem filter_empty {A : Type} (p : A → Bool) : ∀ l : List A, (l.filter p).isEmpty = !l.any p
  | [] => rfl
  | a :: l => by
    rw [List.filter_cons, List.any_cons]
    cases h : p a with
    | true => rfl
    | false => rw [if_neg Bool.false_ne_true, filter_empty p l]; rfl
theorem map_empty {A B : Type} (f : A → B) (l : List A) : (l.map f).isEmpty = l.isEmpty := by cases l <;> rfl
theorem beside_e (cs : List Tr) : (((rangeL 1 1 (cs.length - 1)).filter (qB cs)).map fun d => d).isEmpty = !adj cs := by
  rw [map_empty, filter_empty, rangeL, List.any_map, ← adj_range cs]
  congr 2
  funext i
  exact qB_at cs i
def qN (ns : List (List Nat)) : D → Bool
  | .str s => decide (1 < ns.count s)
  | _ => false
theorem dup_e (ns : List (List Nat)) : (((ns.map D.str).filter (qN ns)).map fun d => d).isEmpty = decide ns.Nodup := by
  rw [map_empty, filter_empty, List.any_map, Bool.eq_iff_iff, Bool.not_eq_true', decide_eq_true_eq, List.any_eq_false, List.nodup_iff_count]
  constructor
  · intro H a
    by_cases ha : a ∈ ns
    · have := H a ha
      have e : (qN ns ∘ D.str) a = decide (1 < ns.count a) := rfl
      rw [e, decide_eq_true_eq] at this
      omega
    · rw [List.count_eq_zero_of_not_mem ha]
      omega
  · intro H a _
    have := H a
    have e : (qN ns ∘ D.str) a = decide (1 < ns.count a) := rfl
    rw [e, decide_eq_true_eq]
    omega
theorem ints_dOks {l : List D} (hl : ∀ d ∈ l, ∃ i : Int, d = .int i) (n : Nat) : dOks n l = true := by
  induction l with
  | nil => simp only [dOks]
  | cons d l ih =>
    obtain ⟨i, rfl⟩ := hl _ List.mem_cons_self
    simp only [dOks, ih fun d hd => hl d (List.mem_cons_of_mem _ hd), Bool.and_true]
    cases n <;> simp only [dOk]
theorem sz_memO : ∀ {cs : List Tr} {c : Tr}, c ∈ cs → sz c ≤ szs cs
  | d :: cs, c, hc => by
    rw [szs]
    rcases List.mem_cons.mp hc with rfl | z
    · omega
    · have := sz_memO z
      omega
theorem law_sound_ok : ∀ (f : Nat) (t : Tr) (h : Hs), GoodO f t → sz t ≤ 900 → m__law_sound f [trD t] h = some (.d (.bl (snd t)), h)
  | 0, t, h, g, _ => g.elim
  | f + 1, t, h, g, hz => by
    have i0 := i_kd t
    show mOf 7 (b__law_sound (m__law_sound f)) _ h = _
    unfold b__law_sound
    cases t with
    | tx s =>
      have q : (kd (.tx s) == [116, 101, 120, 116]) = true := rfl
      have i1 : ∀ h, gIx (.d (trD (.tx s))) (.d (.int 1)) h = some (.d (.str s), h) := fun h => by rw [trD]; exact gIx_tup atI_one
      simp_arith only [i0, i1, q]
      rfl
    | tg nm ws cs =>
      obtain ⟨g1, g2, g3⟩ := g
      rw [sz] at hz
      have cl := szs_len cs
      have q : (kd (.tg nm ws cs) == [116, 101, 120, 116]) = false := rfl
      have i1 : ∀ h, gIx (.d (trD (.tg nm ws cs))) (.d (.int 1)) h = some (.d (.str nm), h) := fun h => by rw [trD]; exact gIx_tup atI_one
      have i2 : ∀ h, gIx (.d (trD (.tg nm ws cs))) (.d (.int 2)) h = some (.d (.tup (ws.map wtD)), h) := fun h => by rw [trD]; exact gIx_tup atI_two
      have i3 : ∀ h, gIx (.d (trD (.tg nm ws cs))) (.d (.int 3)) h = some (.d (.tup (cs.map trD)), h) := fun h => by rw [trD, trDs_map]; rfl
      have wl := g2.1
      have nl : (nms ws).length = ws.length := by unfold nms; rw [List.length_map]
      have n1 := fun x1 x2 x5 x6 => names_lc (ws := ws) g2.1 (env := [.v (trD (.tg nm ws cs)), x1, x2, .no, .no, x5, x6]) (h := h) fun w => rfl
      have d1 := fun x2 x4 x5 x6 => lcK_filter (vs := [3]) (g := gNm 3) (tt := fB (eB gGt (eLCnt (eV 1) (eV 3)) (eC (.int 1)))) (te := eV 3) (env := [.v (trD (.tg nm ws cs)), .v (.rol ((nms ws).map .str)), x2, .no, x4, x5, x6]) (h := h) (ds := (nms ws).map .str) (E := fun d => [.v (trD (.tg nm ws cs)), .v (.rol ((nms ws).map .str)), x2, .v d, x4, x5, x6]) (q := qN (nms ws)) (v := fun d => d) (by rw [List.length_map]; omega) fun d hd => by
        obtain ⟨s, hs, rfl⟩ := List.mem_map.mp hd
        have ec := eLCnt_e (fo := eV 1) (fa := eV 3) (env := [.v (trD (.tg nm ws cs)), .v (.rol ((nms ws).map .str)), x2, .v (.str s), x4, x5, x6]) (h := h) (ds := (nms ws).map .str) (h1 := h) rfl
        have gg : gGt (.d (.int ((nms ws).count s : Nat))) (.d (.int 1)) h = some (.d (.bl (qN (nms ws) (.str s))), h) := by
          rw [gGt_int]
          have : decide ((1 : Int) < (((nms ws).count s : Nat) : Int)) = decide (1 < (nms ws).count s) := by rw [decide_eq_decide]; omega
          rw [this]
          rfl
        refine ⟨rfl, ?_, fun _ => rfl⟩
        simp_arith only [ec, cntK_e, gg]
      have e1 := gEq_any (ng := true) (x := .l (.lst (((List.map D.str (nms ws)).filter (qN (nms ws))).map fun d => d))) (y := .l (.lst [])) (h := h) rfl rfl 3 (by
        simp only [dOk]
        exact dOks_map fun d hd => by
          obtain ⟨s, hs, rfl⟩ := List.mem_map.mp (List.mem_filter.mp hd).1
          obtain ⟨w, hw, rfl⟩ := List.mem_map.mp hs
          exact dOk_s (g2.2 w hw).1) (by decide)
      rw [eqDs_nilL, dup_e, if_pos rfl] at e1
      have a1 := fun x1 x2 x3 x4 x6 => lcK_T (l := cs) (c := trD) (k := 5) (te := eCall (m__law_sound f) (aCons (eV 5) aNil)) (env := [.v (trD (.tg nm ws cs)), x1, x2, x3, x4, .no, x6]) (h := h) (fun c => .bl (snd c)) (by omega) fun c hc => by
        have := fun h => law_sound_ok f c h (g3 c hc) (by have := sz_memO hc; omega)
        simp_arith only [this]
      have aa := fun h => gAllB_map (l := cs) (f := snd) (h := h)
      have rg : ∀ h, rngK2 h [.d (.int 1), .d (.int (((List.map trD cs).length : Nat) : Int))] = some (rangeL 1 1 (cs.length - 1), h) := fun h => by
        rw [List.length_map, rngK2_e (by omega) (by omega) (by omega) (by omega)]
        congr 3
        omega
      have b1 := fun x1 x2 x3 x4 x5 => lcK_filter (vs := [6]) (g := gNm 6) (tt := fAnd (fB (eB gEq (eB gIx (eB gIx (eB gIx (eV 0) (eC (.int 3))) (eV 6)) (eC (.int 0))) (eC (.str [116, 101, 120, 116])))) (fB (eB gEq (eB gIx (eB gIx (eB gIx (eV 0) (eC (.int 3))) (eB (gI sub') (eV 6) (eC (.int 1)))) (eC (.int 0))) (eC (.str [116, 101, 120, 116]))))) (te := eV 6)
          (env := [.v (trD (.tg nm ws cs)), x1, x2, x3, x4, x5, .no]) (h := h) (ds := rangeL 1 1 (cs.length - 1)) (E := fun d => [.v (trD (.tg nm ws cs)), x1, x2, x3, x4, x5, .v d]) (q := qB cs) (v := fun d => d) (by rw [rangeL_len]; omega) fun d hd => by
        unfold rangeL at hd
        obtain ⟨i, hi, rfl⟩ := List.mem_map.mp hd
        have hi : i < cs.length - 1 := by simpa using hi
        have c1 : gIx (.d (.tup (cs.map trD))) (.d (.int (1 + (i : Nat) * 1))) h = some (.d (trD (cs[i + 1]'(by omega))), h) := gIx_tup (by
          rw [show (1 : Int) + (i : Nat) * 1 = ((i + 1 : Nat) : Int) by omega, F.atI_nat (by rw [List.length_map]; omega), List.getElem?_map, List.getElem?_eq_getElem (by omega)]
          rfl)
        have c2 : gIx (.d (.tup (cs.map trD))) (.d (.int (1 + (i : Nat) * 1 - 1))) h = some (.d (trD (cs[i]'(by omega))), h) := gIx_tup (by
          rw [show (1 : Int) + (i : Nat) * 1 - 1 = ((i : Nat) : Int) by omega, F.atI_nat (by rw [List.length_map]; omega), List.getElem?_map, List.getElem?_eq_getElem (by omega)]
          rfl)
        have k1 := i_kd (cs[i + 1]'(by omega)) h
        have k2 := i_kd (cs[i]'(by omega)) h
        have x1 : (kd (cs[i + 1]'(by omega)) == [116, 101, 120, 116]) = xAt cs (i + 1) := by
          unfold xAt
          rw [List.getElem?_eq_getElem (by omega)]
          show _ = isX _
          cases cs[i + 1]'(by omega) <;> rfl
        have x2 : (kd (cs[i]'(by omega)) == [116, 101, 120, 116]) = xAt cs i := by
          unfold xAt
          rw [List.getElem?_eq_getElem (by omega)]
          show _ = isX _
          cases cs[i]'(by omega) <;> rfl
        refine ⟨rfl, ?_, fun _ => rfl⟩
        rw [qB_at]
        simp_arith only [i3, c1, c2, k1, k2, x1, x2]
        cases xAt cs (i + 1) <;> rfl
      have e2 := gEq_any (ng := false) (x := .d (.rol (((rangeL 1 1 (cs.length - 1)).filter (qB cs)).map fun d => d))) (y := .l (.lst [])) (h := h) rfl rfl 3 (by
        simp only [dOk]
        exact ints_dOks (fun d hd => by
          obtain ⟨d', hd', rfl⟩ := List.mem_map.mp hd
          have := (List.mem_filter.mp hd').1
          unfold rangeL at this
          obtain ⟨i, _, rfl⟩ := List.mem_map.mp this
          exact ⟨_, rfl⟩) 2) (by decide)
      rw [eqDs_nilL, beside_e, if_neg Bool.false_ne_true] at e2
      obtain ⟨B, hB⟩ : ∃ B, B = ((rangeL 1 1 (cs.length - 1)).filter (qB cs)).map fun d => d := ⟨_, rfl⟩
      rw [← hB] at e2
      simp only [← hB] at b1
      obtain ⟨N, hN⟩ : ∃ N, N = ((List.map D.str (nms ws)).filter (qN (nms ws))).map fun d => d := ⟨_, rfl⟩
      rw [← hN] at e1
      simp only [← hN] at d1
      simp_arith only [i0, i1, i2, i3, q, n1, d1, e1, a1, aa, rg, b1, e2, iR2_e]
      have es : snd (.tg nm ws cs) = (cond (!decide (nms ws).Nodup || adj cs) false (cond (!(nm == scrW) || cs.isEmpty) true (codeOk cs)) && cs.all snd) := by
        rw [snd, snds_all, sndT, show decide (¬ (nms ws).Nodup) = !decide (nms ws).Nodup from decide_not]
      have qs : (nm == [115, 99, 114, 105, 112, 116]) = (nm == scrW) := rfl
      rw [es, qs]
      have ni : ∀ s : List Nat, gNi (.d (.str [60, 47, 115, 99, 114, 105, 112, 116, 62])) (.d (.str s)) h = some (.d (.bl (!occ cEnd s)), h) := fun s => rfl
      cases decide (nms ws).Nodup with
      | false => rfl
      | true =>
        cases cs.all snd with
        | false => rw [Bool.and_false]; rfl
        | true =>
          cases nm == scrW with
          | false => cases adj cs <;> rfl
          | true =>
            clear es n1 d1 e1 a1 aa rg b1 e2 hB hN i0 i1 i2 i3 g3 nl wl cl hz q
            match cs with
            | [] => rfl
            | [.tx s] =>
              have c1 : gIx (.d (.tup [trD (.tx s)])) (.d (.int 0)) h = some (.d (trD (.tx s)), h) := gIx_tup atI_zero
              have c2 : gIx (.d (trD (.tx s))) (.d (.int 1)) h = some (.d (.str s), h) := by rw [trD]; exact gIx_tup atI_one
              have c3 := i_kd (.tx s) h
              have c4 : (kd (.tx s) == [116, 101, 120, 116]) = true := rfl
              have c5 : decide ((0 : Int) < (((List.map trD [Tr.tx s]).length : Nat) : Int)) = true := rfl
              have c6 : ((((List.map trD [Tr.tx s]).length : Nat) : Int) == 1) = true := rfl
              rw [c5, c6]
              simp_arith only [c1, c2, c3, c4, ni, adj, List.isEmpty_cons, codeOk, Bool.or_false, Bool.and_true]
            | [.tg a b c] =>
              have c1 : gIx (.d (.tup [trD (.tg a b c)])) (.d (.int 0)) h = some (.d (trD (.tg a b c)), h) := gIx_tup atI_zero
              have c3 := i_kd (.tg a b c) h
              have c4 : (kd (.tg a b c) == [116, 101, 120, 116]) = false := rfl
              have c5 : decide ((0 : Int) < (((List.map trD [Tr.tg a b c]).length : Nat) : Int)) = true := rfl
              have c6 : ((((List.map trD [Tr.tg a b c]).length : Nat) : Int) == 1) = true := rfl
              rw [c5, c6]
              simp_arith only [c1, c3, c4, adj, List.isEmpty_cons, codeOk, Bool.or_false, Bool.and_true]
            | a :: b :: r =>
              have c5 : decide ((0 : Int) < (((List.map trD (a :: b :: r)).length : Nat) : Int)) = true := decide_eq_true (by simp; omega)
              have c6 : ((((List.map trD (a :: b :: r)).length : Nat) : Int) == 1) = false := by
                rw [beq_eq_false_iff_ne]
                simp
                omega
              rw [c5, c6]
              have c7 : codeOk (a :: b :: r) = false := by cases a <;> rfl
              rw [c7]
              cases adj (a :: b :: r) <;> rfl
/-! how many nodes -/
theorem law_many_ok : ∀ (f : Nat) (t : Tr) (h : Hs), GoodO f t → sz t ≤ 900 → m__law_many f [trD t] h = some (.d (.int (sz t : Nat)), h)
  | 0, t, h, g, _ => g.elim
  | f + 1, t, h, g, hz => by
    have i0 := i_kd t
    show mOf 2 (b__law_many (m__law_many f)) _ h = _
    unfold b__law_many
    cases t with
    | tx s =>
      have q : (kd (.tx s) == [116, 97, 103]) = false := rfl
      simp_arith only [i0, q]
      rfl
    | tg nm ws cs =>
      obtain ⟨g1, g2, g3⟩ := g
      rw [sz] at hz
      have cl := szs_len cs
      have q : (kd (.tg nm ws cs) == [116, 97, 103]) = true := rfl
      have i3 : ∀ h, gIx (.d (trD (.tg nm ws cs))) (.d (.int 3)) h = some (.d (.tup (cs.map trD)), h) := fun h => by rw [trD, trDs_map]; rfl
      have a1 := lcK_T (l := cs) (c := trD) (k := 1) (te := eCall (m__law_many f) (aCons (eV 1) aNil)) (env := [.v (trD (.tg nm ws cs)), .no]) (h := h) (fun c => .int (sz c : Nat)) (by omega) fun c hc => by
        have := fun h => law_many_ok f c h (g3 c hc) (by have := sz_memO hc; omega)
        simp_arith only [this]
      have sm : gSum [.l (.lst (cs.map fun c => .int (sz c : Nat)))] h = some (.d (.int (szs cs : Nat)), h) := by
        have := gSum_l (is := cs.map fun c => ((sz c : Nat) : Int)) (h := h)
        rw [List.map_map] at this
        have e : (cs.map fun c => ((sz c : Nat) : Int)).sum = ((szs cs : Nat) : Int) := by
          rw [szs_sum]
          clear this a1 i3 q cl hz g3 i0
          induction cs with
          | nil => rfl
          | cons c cs ih => simp only [List.map_cons, List.sum_cons, ih]; omega
        rw [e] at this
        exact this
      simp_arith only [i0, i3, q, a1, sm]
      rw [sz, Int.natCast_add]
      rfl
end W
namespace W
open PySem hiding Env
open L2 F
set_option hygiene false
local macro_rules | `(tactic| simp_arith only [$as,*]) => `(tactic| simp -implicitDefEqProofs only [$as,*, dSeq_e, dNil_e, dIf_e, dSet_e, dRet_e, dExpr_e, dAsg_e, dFor_e, eC_e, eV_e, eB_e, eU_e, fB_e, eCh_e, fAnd_e, fOr_e, fNot_e, fYes_e, eIf_e, eNot_e, eAnd_e, eOr_e, aNil_e, aCons_e,  plain_nil, plain_cons, eTup_e, eLst_e, frzR_l, frzR_d, eFrz_e, newR_l, eNew_e, oN_e, oI_e, eSl_e, eF_e, eM1_e, eIsi_e, eKget_e, eKin_e, callR_d, callR_l, eCall_e, sqS_nx, sqS_rt, sqS_none, sqS_cond,  bd_some, bd_none, bd_cond, bK_eq, iK_eq, sK_eq, dK_eq, rdS_v, rdS_c, setR_d, setR_l, retR_d, retR_l, retR_b, gTp_e, gNm_e, gAll_nil, gAll_cons, fin_rt, fin_nx, fin_none, fin_cond, mOf_e, gc_same, rnd_nx, rnd_ct, rnd_bk, rnd_rt, rnd_none, rnd_cond,  iE_e, itR_rol, itR_scr, itR_l, itR_tup, itR_str, iR1_e, eLc_e, List.getElem?_cons_zero, List.getElem?_cons_succ, List.set_cons_zero, List.set_cons_succ, List.map_cons, List.map_nil, List.length_cons, List.length_nil, List.cons_append, List.nil_append,  List.replicate_succ, List.replicate_zero, Nat.reduceSub, Nat.reduceAdd, Nat.zero_add, List.reduceReplicate, cond_true, cond_false, gEq_str, gNe_str, gEq_int, gNe_int, gEq_bl, gNe_bl, gLt_int, gLe_int, gGt_int, gGe_int, gAdd_int, gSub_e, gNeg_e, gIn_sign, gNi_sign, gIs_e, gIsNot_e, gLen_rol, gLen_scr, gLen_tup, gLen_l, gLen_b, gSl_tup, gSl_rol, gSl_scr, gInt_bl, gAbs_e, gTupOf_rol, gTupOf_b,  wipeE, tupK_0, tupK_1, tupK_2, tupK_3, tupK_4, tupK_5, tupK_6, tupK_7, tupK_8, lstK_0, lstK_1, lstK_2, lstK_3, lstK_4, lstK_5, lstK_6, lstK_7, lstK_8, one_eq, inF_cons, inF_nil, cut_take1, cut_drop1, Bool.or_false, Bool.not_true, Bool.not_false, dApp_e, slK_c, appS_e, dFrz_e, frK_c, frK_v, dPut_e, rfK_e, Nat.reduceLeDiff, dFl_cons, dFl_nil, lcK_one, ixK_e, gIx_ref_e, ptK_e, putS_k, ix5_0, ix5_1, ix5_2, ix5_3, ix5_4, at5_0, at5_1, at5_2, at5_3, at5_4, List.set_set])
local macro_rules | `(tactic| simp_arith! only [$as,*]) => `(tactic| simp -implicitDefEqProofs only [$as,*, dSeq_e, dNil_e, dIf_e, dSet_e, dRet_e, dExpr_e, dAsg_e, dFor_e, eC_e, eV_e, eB_e, eU_e, fB_e, eCh_e, fAnd_e, fOr_e, fNot_e, fYes_e, eIf_e, eNot_e, eAnd_e, eOr_e, aNil_e, aCons_e, plain_nil, plain_cons, eTup_e, eLst_e, frzR_l, frzR_d, eFrz_e, newR_l, eNew_e, oN_e, oI_e, eSl_e, eF_e, eM1_e, eIsi_e, eKget_e, eKin_e, eCall_e, bd_none, bK_eq, iK_eq, sK_eq, dK_eq, rdS_v, rdS_c, setR_d, setR_l, retR_d, retR_l, retR_b, gTp_e, gNm_e, gAll_nil, gAll_cons, mOf_e, iE_e, itR_rol, itR_scr, itR_l, itR_tup, itR_str, iR1_e, eLc_e, List.getElem?_cons_zero, List.getElem?_cons_succ, List.set_cons_zero, List.set_cons_succ, List.map_cons, List.map_nil, List.length_cons, List.length_nil, List.cons_append, List.nil_append, List.replicate_succ, List.replicate_zero, Nat.reduceSub, Nat.reduceAdd, Nat.zero_add, List.reduceReplicate, cond_true, cond_false, gEq_str, gNe_str, gEq_int, gNe_int, gEq_bl, gNe_bl, gLt_int, gLe_int, gGt_int, gGe_int, gAdd_int, gSub_e, gNeg_e, gIn_sign, gNi_sign, gIs_e, gIsNot_e, gLen_rol, gLen_scr, gLen_tup, gLen_l, gLen_b, gSl_tup, gSl_rol, gSl_scr, gInt_bl, gAbs_e, gTupOf_rol, gTupOf_b, wipeE, tupK_0, tupK_1, tupK_2, tupK_3, tupK_4, tupK_5, tupK_6, tupK_7, tupK_8, lstK_0, lstK_1, lstK_2, lstK_3, lstK_4, lstK_5, lstK_6, lstK_7, lstK_8, one_eq, inF_cons, inF_nil, cut_take1, cut_drop1, Bool.or_false, Bool.not_true, Bool.not_false, dApp_e, slK_c, appS_e, dFrz_e, frK_c, frK_v, dPut_e, rfK_e, Nat.reduceLeDiff, dFl_cons, dFl_nil, lcK_one, ixK_e, gIx_ref_e, ptK_e, putS_k, ix5_0, ix5_1, ix5_2, ix5_3, ix5_4, at5_0, at5_1, at5_2, at5_3, at5_4, List.set_set, Int.cast_ofNat_Int, Int.reduceAdd, Int.reduceSub, Int.reduceMul, Int.reduceNeg, Int.reduceLT, Int.reduceLE, Int.reduceEq, Int.reduceNe, Int.reduceBEq, decide_true, decide_false, ixr0, ixr1, ixr2, drop1c, drop2c, take1c, gSl_l, gSl_b, dExtO_e, dPopX_e, dPopO_e, dPutO_e, iR2_e, iEn_e, enK_e, eMN_e, gFind3_e, gStarts3_e, gAug_int, gAugS_int, gInt_int, gMax2_e, gMin2_e, gLstOf_rol, gLstOf_tup, gLstOf_l, gTupOf_l, ixb0, ixt0, ixt1, ixt2, eMinDf_e, gMinDf_l, eBack_e, gBack_rol, gBack_b, dPar_e, eDNew_e, dDPut_e, dcK_c, eDGt_e, dv_b, dvK_some, dgtS_i, gDi_t, gDi_f, eDsp_e, dspK_2, eCallK_e, isNon_rol, isNon_non, List.length_map, List.length_append, ok_wp, wp_some, wp_bd, wp_sqS, wp_rnd, wp_fin, wp_callR, Ho_q, sqC_nx, sqC_rt, sqC_bk, sqC_ct, rndC_nx, rndC_ct, rndC_bk, rndC_rt, finC_rt, finC_nx, callC_d, callC_l, Bool.false_eq_true, if_true, if_false])
/-! k05: a node otherwise -/
def OddR (f z : Nat) (us : List Tr) : Prop := us.length ≤ 2 ∧ (∀ u ∈ us, GoodO (f + 2) u) ∧ szL us ≤ 6 * z
theorem OddR.nil {f z : Nat} : OddR f z [] := ⟨by simp, (fun u hu => nomatch hu), by simp [szL]⟩
theorem OddR.one {f z : Nat} {u : Tr} (g : GoodO (f + 2) u) (h : sz u ≤ 6 * z) : OddR f z [u] := ⟨by simp, fun v hv => by rw [List.mem_singleton.mp hv]; exact g, by simp [szL]; exact h⟩
theorem OddR.two {f z : Nat} {u v : Tr} (g : GoodO (f + 2) u) (g2 : GoodO (f + 2) v) (h : sz u + sz v ≤ 6 * z) : OddR f z [u, v] := ⟨by simp, fun x hx => by
  rcases List.mem_cons.mp hx with rfl | hx
  · exact g
  · rw [List.mem_singleton.mp hx]; exact g2, by simp [szL]; omega⟩
theorem tk_lit {s : List Nat} (h : (s.all fun c => decide (c < 127)) = true ∧ s.length ≤ 20) : Tk 20 s := ⟨fun c hc => by simpa using List.all_eq_true.mp h.1 c hc, h.2⟩
theorem tk12_lit {s : List Nat} (h : (s.all fun c => decide (c < 127)) = true ∧ s.length ≤ 12) : Tk 12 s := ⟨fun c hc => by simpa using List.all_eq_true.mp h.1 c hc, h.2⟩
theorem tk_take {s : List Nat} (h : Tk 20 s) (k : Nat) : Tk 20 (s.take k) := ⟨fun c hc => h.1 c (List.mem_of_mem_take hc), by rw [List.length_take]; have := h.2; omega⟩
theorem tk_drop {s : List Nat} (h : Tk 20 s) (k : Nat) : Tk 20 (s.drop k) := ⟨fun c hc => h.1 c (List.mem_of_mem_drop hc), by rw [List.length_drop]; have := h.2; omega⟩
theorem bT : GoodO 1 (.tg [98] [] []) := ⟨tk12_lit ⟨by decide, by decide⟩, ⟨by simp, fun w hw => nomatch hw⟩, fun c hc => nomatch hc⟩
theorem xT : GoodO 1 (.tx [120]) := tk_lit ⟨by decide, by decide⟩
theorem odd_tx {T : List D} {L : Hs} {n : Nat} {h : Hs} {f : Nat} {s : List Nat} (g : Tk 20 s) (j : BT T L n h) : ok (m__law_odd [.ref n, trD (.tx s)] h) fun q => ∃ us h', q = (.d (.rol (us.map trD)), h') ∧ BT T L n h' ∧ OddR f 1 us := by
  have j0 := j
  have i0 := i_kd (.tx s)
  have q : (kd (.tx s) == [116, 101, 120, 116]) = true := rfl
  have i1 : ∀ h, gIx (.d (trD (.tx s))) (.d (.int 1)) h = some (.d (.str s), h) := fun h => by rw [trD]; exact gIx_tup atI_one
  have sl := g.2
  have ln : ∀ h, gLen [.d (.str s)] h = some (.d (.int s.length), h) := fun h => gLen_str (by omega)
  unfold m__law_odd b__law_odd
  refine wp_ok ?_
  rw [mOf_e]
  simp_arith! only [bd_some]
  refine wp_of (draw_w j (by decide) (by decide)) ?_
  rintro _ ⟨way, h1, rfl, j1, w0, w1⟩
  simp_arith! only [i0, i1, q, ln]
  refine wp_of (draw_w j1 (by omega) (by omega)) ?_
  rintro _ ⟨at_, h2, rfl, j2, a0, a1⟩
  have s1 : ∀ h, gSl (.d (.str s)) none (some at_) h = some (.d (.str (s.take at_.toNat)), h) := fun h => by rw [gSl_str (by omega), cut_takeI a0]
  have s2 : ∀ h, gSl (.d (.str s)) (some at_) none h = some (.d (.str (s.drop at_.toNat)), h) := fun h => by rw [gSl_str (by omega), cut_dropI a0]
  have md : ∀ h, gI mod' (.d (.int way)) (.d (.int 6)) h = some (.d (.int (way % 6)), h) := fun h => by rw [gMod_e (by decide), Int.fmod_eq_emod_of_nonneg _ (by decide)]
  simp_arith! only [i0, i1, q, ln, s1, s2, md]
  refine wp_add_rl (by simp) ?_
  simp_arith! only [md]
  refine wp_pick (by omega) (by simp; omega) fun d hd => ?_
  have fin : ∀ us : List Tr, OddR f 1 us → d = .rol (us.map trD) → ∃ us h', ((RV.d d, F.gc h h2 (.d d)) : RV × Hs) = (.d (.rol (us.map trD)), h') ∧ BT T L n h' ∧ OddR f 1 us := fun us ho e => ⟨us, _, by rw [e], BT.gc j0 j2, ho⟩
  have up : ∀ {u : Tr}, GoodO 1 u → GoodO (f + 2) u := fun g => goodO_le g (by omega)
  have gt : ∀ {s : List Nat}, Tk 20 s → GoodO 1 (.tx s) := fun g => g
  simp only [List.cons_append, List.nil_append, List.mem_cons, List.not_mem_nil, or_false] at hd
  simp_arith! only [eC_e]
  rcases hd with rfl | rfl | rfl | rfl | rfl | rfl
  · exact fin [.tx []] (.one (up (gt (tk_lit ⟨by decide, by decide⟩))) (by simp [sz])) rfl
  · exact fin [.tx s, .tx [120]] (.two (up (gt g)) (up xT) (by simp [sz])) rfl
  · exact fin [.tx (s.take at_.toNat), .tx (s.drop at_.toNat)] (.two (up (gt (tk_take g _))) (up (gt (tk_drop g _))) (by simp [sz])) rfl
  · exact fin [.tx [97, 60, 47, 115, 99, 114, 105, 112, 116, 62, 98]] (.one (up (gt (tk_lit ⟨by decide, by decide⟩))) (by simp [sz])) rfl
  · exact fin [.tx s, .tg [98] [] []] (.two (up (gt g)) (up bT) (by simp [sz, szs])) rfl
  · exact fin [] .nil rfl

theorem gAdd_tt {a b : List D} {h : Hs} (hz : a.length + b.length ≤ 1000) : gAdd (.d (.tup a)) (.d (.tup b)) h = some (.d (.tup (a ++ b)), h) := if_pos (Nat.le_trans hz (by decide))
structure OT (f z : Nat) (u : Tr) : Prop where
  g : GoodO (f + 2) u
  s : sz u ≤ z + 2
theorem szs_app : ∀ a b : List Tr, szs (a ++ b) = szs a + szs b
  | [], b => by simp [szs]
  | x :: a, b => by rw [List.cons_append, szs, szs, szs_app a b]; omega
theorem szs_take : ∀ (cs : List Tr) (k : Nat), szs (cs.take k) ≤ szs cs
  | [], k => by rw [List.take_nil]; exact Nat.le_refl _
  | c :: cs, 0 => Nat.zero_le _
  | c :: cs, k + 1 => by rw [List.take_succ_cons, szs, szs]; have := szs_take cs k; omega
noncomputable def oA : DS := (dIf (fAnd (fB (eB gLt (eV 2) (eC (.int 3)))) (fB (eB gNe (eV 7) (eTup aNil)))) (dSeq (dSet 10 (eB gIx (eV 7) (eCall m__law_draw (aCons (eV 0) (aCons (eF gLen (aCons (eV 7) aNil)) aNil))))) (dSet 9 (eTup (aCons (eV 5) (aCons (eV 6) (aCons (eB gIx (eLst (aCons (eB gAdd (eV 7) (eTup (aCons (eV 10) aNil))) (aCons (eB gAdd (eTup (aCons (eV 10) aNil)) (eV 7)) (aCons (eB gAdd (eV 7) (eTup (aCons (eTup (aCons (eB gIx (eV 10) (eC (.int 0))) (aCons (eC (.str [111, 116, 104, 101, 114])) aNil))) aNil))) aNil)))) (eV 2)) (aCons (eV 8) aNil))))))) dNil)
noncomputable def oB : DS := (dIf (fB (eCh gLt gLt (eC (.int 2)) (eV 2) (eC (.int 6)))) (dSet 9 (eTup (aCons (eV 5) (aCons (eV 6) (aCons (eV 7) (aCons (eB gIx (eLst (aCons (eB gAdd (eTup (aCons (eTup (aCons (eC (.str [116, 101, 120, 116])) (aCons (eC (.str [120])) aNil))) aNil)) (eV 8)) (aCons (eB gAdd (eV 8) (eTup (aCons (eTup (aCons (eC (.str [116, 101, 120, 116])) (aCons (eC (.str [])) aNil))) aNil))) (aCons (eFrz (eSl (eV 8) oN (oI (eC (.int 1))))) aNil)))) (eB (gI sub') (eV 2) (eC (.int 3)))) aNil)))))) dNil)
noncomputable def oC : DS := (dIf (fB (eB gEq (eV 2) (eC (.int 6)))) (dSeq (dSet 11 (eB gIx (eLst (aCons (eC (.str [60, 47, 115, 99, 114, 105, 112, 116, 62])) (aCons (eC (.str [60, 47, 115, 99, 114, 105, 112])) (aCons (eC (.str [120, 60, 47, 115, 99, 114, 105, 112, 116, 62, 121])) (aCons (eC (.str [60, 47, 115, 99, 114, 105, 112, 116, 32, 62])) aNil))))) (eCall m__law_draw (aCons (eV 0) (aCons (eC (.int 4)) aNil))))) (dSet 9 (eTup (aCons (eC (.str [116, 97, 103])) (aCons (eC (.str [115, 99, 114, 105, 112, 116])) (aCons (eV 7) (aCons (eTup (aCons (eTup (aCons (eC (.str [116, 101, 120, 116])) (aCons (eV 11) aNil))) aNil)) aNil))))))) dNil)
noncomputable def oD : DS := (dIf (fB (eB gEq (eV 2) (eC (.int 7)))) (dSet 9 (eTup (aCons (eC (.str [116, 97, 103])) (aCons (eC (.str [115, 99, 114, 105, 112, 116])) (aCons (eV 7) (aCons (eTup (aCons (eTup (aCons (eC (.str [116, 101, 120, 116])) (aCons (eC (.str [120])) aNil))) (aCons (eTup (aCons (eC (.str [116, 97, 103])) (aCons (eC (.str [98])) (aCons (eTup aNil) (aCons (eTup aNil) aNil))))) aNil))) aNil)))))) dNil)
noncomputable def oE : DS := (dRet (eFrz (eSl (eLst (aCons (eV 9) (aCons (eV 1) aNil))) oN (oI (eB gAdd (eC (.int 1)) (eF gInt (aCons (eAnd (eB gEq (eV 2) (eC (.int 8))) (eB gLt (eCall (m__law_many 30) (aCons (eV 1) aNil)) (eC (.int 4)))) aNil)))))))
theorem b_odd_eq : b__law_odd = (dSeq (dSet 2 (eCall m__law_draw (aCons (eV 0) (aCons (eC (.int 12)) aNil)))) (dSeq (dIf (fB (eB gEq (eB gIx (eV 1) (eC (.int 0))) (eC (.str [116, 101, 120, 116])))) (dSeq (dSet 3 (eCall m__law_draw (aCons (eV 0) (aCons (eB gAdd (eF gLen (aCons (eB gIx (eV 1) (eC (.int 1))) aNil)) (eC (.int 1))) aNil)))) (dSeq (dSet 4 (eFrz (eLst (aCons (eFrz (eLst (aCons (eTup (aCons (eC (.str [116, 101, 120, 116])) (aCons (eC (.str [])) aNil))) aNil))) (aCons (eFrz (eLst (aCons (eV 1) (aCons (eTup (aCons (eC (.str [116, 101, 120, 116])) (aCons (eC (.str [120])) aNil))) aNil)))) (aCons (eFrz (eLst (aCons (eTup (aCons (eC (.str [116, 101, 120, 116])) (aCons (eFrz (eSl (eB gIx (eV 1) (eC (.int 1))) oN (oI (eV 3)))) aNil))) (aCons (eTup (aCons (eC (.str [116, 101, 120, 116])) (aCons (eFrz (eSl (eB gIx (eV 1) (eC (.int 1))) (oI (eV 3)) oN)) aNil))) aNil)))) aNil)))))) (dRet (eFrz (eB gIx (eB gAdd (eV 4) (eLst (aCons (eFrz (eLst (aCons (eTup (aCons (eC (.str [116, 101, 120, 116])) (aCons (eC (.str [97, 60, 47, 115, 99, 114, 105, 112, 116, 62, 98])) aNil))) aNil))) (aCons (eFrz (eLst (aCons (eV 1) (aCons (eTup (aCons (eC (.str [116, 97, 103])) (aCons (eC (.str [98])) (aCons (eTup aNil) (aCons (eTup aNil) aNil))))) aNil)))) (aCons (eFrz (eLst aNil)) aNil))))) (eB (gI mod') (eV 2) (eC (.int 6)))))))) dNil) (dSeq (dAsg (eV 1) (gTp [(gNm 5), (gNm 6), (gNm 7), (gNm 8)])) (dSeq (dSet 9 (eTup (aCons (eC (.str [116, 97, 103])) (aCons (eB gIx (eLst (aCons (eC (.str [115, 99, 114, 105, 112, 116])) (aCons (eC (.str [112, 97, 103, 101])) (aCons (eC (.str [112])) aNil)))) (eCall m__law_draw (aCons (eV 0) (aCons (eC (.int 3)) aNil)))) (aCons (eV 7) (aCons (eV 8) aNil)))))) (dSeq oA (dSeq oB (dSeq oC (dSeq oD oE)))))))) := rfl
section
variable {T : List D} {L : Hs} {n : Nat} {f : Nat} {nm : List Nat} {ws : List Wt} {cs : List Tr}
abbrev oN_ (n : Nat) (t : D) (way : Int) (nm : List Nat) (ws : List Wt) (cs : List Tr) (u : Tr) (x10 x11 : F.Slot) : F.Env := [.v (.ref n), .v t, .v (.int way), .no, .no, .v (.str wTg), .v (.str nm), .v (.tup (ws.map wtD)), .v (.tup (cs.map trD)), .v (trD u), x10, x11]
structure OBase (f : Nat) (nm : List Nat) (ws : List Wt) (cs : List Tr) : Prop where
  n : Tk 12 nm
  w : WtOk ws
  c : ∀ c ∈ cs, GoodO (f + 2) c
  z : szs cs ≤ 130
theorem OT.mk' {nm' : List Nat} {ws' : List Wt} {cs' : List Tr} (h1 : Tk 12 nm') (h2 : WtO ws') (h3 : ∀ c ∈ cs', GoodO (f + 2) c) (h4 : szs cs' ≤ szs cs + 2) : OT (f + 1) (1 + szs cs) (.tg nm' ws' cs') := ⟨⟨h1, h2, h3⟩, by rw [sz]; omega⟩
theorem mkd (nm' : List Nat) (ws' : List Wt) (cs' : List Tr) : trD (.tg nm' ws' cs') = .tup [.str wTg, .str nm', .tup (ws'.map wtD), .tup (cs'.map trD)] := by rw [trD, trDs_map]
theorem oA_w (b : OBase f nm ws cs) {t : D} {way : Int} (w0 : 0 ≤ way) {u : Tr} (o : OT (f + 1) (1 + szs cs) u) {x10 x11 : F.Slot} {h : Hs} (j : BT T L n h) : ok (oA (oN_ n t way nm ws cs u x10 x11) h) fun s => ∃ u' x10' h', s = .nx (oN_ n t way nm ws cs u' x10' x11) h' ∧ BT T L n h' ∧ OT (f + 1) (1 + szs cs) u' := by
  have a : dOks 2 (ws.map wtD) = true := dOks_map fun w hw => dOk_wtO (n := 1) ((wtO_of b.w).2 w hw)
  have e2 := fun h => gEq_plain (ng := true) (d := .tup (ws.map wtD)) (e := .tup []) (h := h) 3 (by simp only [dOk]; exact a) (by decide)
  simp only [eq_nilT, if_true] at e2
  have wl := b.w.1
  unfold oA
  refine wp_ok ?_
  cases hc : decide (way < 3) with
  | false =>
    simp_arith! only [hc]
    exact ⟨u, x10, h, rfl, j, o⟩
  | true =>
    simp only [decide_eq_true_eq] at hc
    have hc' : decide (way < 3) = true := decide_eq_true hc
    simp_arith! only [hc', e2]
    cases ws with
    | nil =>
      simp_arith! only [List.isEmpty_nil]
      exact ⟨u, x10, h, rfl, j, o⟩
    | cons w ws =>
      simp_arith! only [List.isEmpty_cons]
      simp only [List.length_cons] at wl
      refine wp_of (draw_w j (by omega) (by omega)) ?_
      rintro _ ⟨k, h1, rfl, j1, k0, k1⟩
      have kl : k < ((w :: ws).length : Nat) := by simp only [List.length_cons]; omega
      obtain ⟨v, hv, ev⟩ : ∃ v, v ∈ w :: ws ∧ (w :: ws)[k.toNat]? = some v := ⟨(w :: ws)[k.toNat]'(by omega), List.getElem_mem _, List.getElem?_eq_getElem (by omega)⟩
      have iv : ∀ h, gIx (.d (.tup (wtD w :: ws.map wtD))) (.d (.int k)) h = some (.d (wtD v), h) := fun h => gIx_tup (by
        have : wtD w :: ws.map wtD = (w :: ws).map wtD := rfl
        rw [this, F.atI_int k0 (by rw [List.length_map]; exact kl), List.getElem?_map, ev]
        rfl)
      have i0 : ∀ h, gIx (.d (wtD v)) (.d (.int 0)) h = some (.d (.str v.1), h) := fun h => gIx_tup atI_zero
      have vk := b.w.2 v hv
      have vO := (wtO_of b.w).2 v hv
      have g1 : ∀ h, gAdd (.d (.tup (wtD w :: ws.map wtD))) (.d (.tup [wtD v])) h = some (.d (.tup ((wtD w :: ws.map wtD) ++ [wtD v])), h) := fun h => gAdd_tt (by simp; omega)
      have g2 : ∀ h, gAdd (.d (.tup [wtD v])) (.d (.tup (wtD w :: ws.map wtD))) h = some (.d (.tup ([wtD v] ++ (wtD w :: ws.map wtD))), h) := fun h => gAdd_tt (by simp; omega)
      have g3 : ∀ h, gAdd (.d (.tup (wtD w :: ws.map wtD))) (.d (.tup [.tup [.str v.1, .str [111, 116, 104, 101, 114]]])) h = some (.d (.tup ((wtD w :: ws.map wtD) ++ [.tup [.str v.1, .str [111, 116, 104, 101, 114]]])), h) := fun h => gAdd_tt (by simp; omega)
      simp_arith! only [iv, i0, g1, g2, g3]
      refine wp_pick w0 (by simp; omega) fun d hd => ?_
      simp_arith! only [eC_e]
      have fin : ∀ ws' : List Wt, WtO ws' → d = .tup (ws'.map wtD) → ∃ u' x10' h', SOut.nx [Slot.v (.ref n), Slot.v t, Slot.v (.int way), Slot.no, Slot.no, Slot.v (.str wTg), Slot.v (.str nm), Slot.v (.tup (wtD w :: ws.map wtD)), Slot.v (.tup (cs.map trD)), Slot.v (.tup [.str wTg, .str nm, d, .tup (cs.map trD)]), Slot.v (wtD v), x11] h1 = .nx (oN_ n t way nm (w :: ws) cs u' x10' x11) h' ∧ BT T L n h' ∧ OT (f + 1) (1 + szs cs) u' := fun ws' ho e =>
        ⟨.tg nm ws' cs, .v (wtD v), h1, by rw [e, ← mkd]; rfl, j1, .mk' b.n ho b.c (by omega)⟩
      have wo := (wtO_of b.w).2
      have oth : Tk 12 v.1 ∧ Tk 20 [111, 116, 104, 101, 114] := ⟨vO.1, tk_lit ⟨by decide, by decide⟩⟩
      simp only [List.mem_cons, List.not_mem_nil, or_false] at hd
      rcases hd with rfl | rfl | rfl
      · exact fin ((w :: ws) ++ [v]) ⟨by simp; omega, fun x hx => by
          rcases List.mem_append.mp hx with z | z
          · exact wo x z
          · rw [List.mem_singleton.mp z]; exact vO⟩ (by simp)
      · exact fin ([v] ++ (w :: ws)) ⟨by simp; omega, fun x hx => by
          rcases List.mem_append.mp hx with z | z
          · rw [List.mem_singleton.mp z]; exact vO
          · exact wo x z⟩ (by simp)
      · exact fin ((w :: ws) ++ [(v.1, [111, 116, 104, 101, 114])]) ⟨by simp; omega, fun x hx => by
          rcases List.mem_append.mp hx with z | z
          · exact wo x z
          · rw [List.mem_singleton.mp z]; exact oth⟩ (by simp [wtD])
theorem oB_w (b : OBase f nm ws cs) {t : D} {way : Int} {u : Tr} (o : OT (f + 1) (1 + szs cs) u) {x10 x11 : F.Slot} {h : Hs} (j : BT T L n h) : ok (oB (oN_ n t way nm ws cs u x10 x11) h) fun s => ∃ u' h', s = .nx (oN_ n t way nm ws cs u' x10 x11) h' ∧ BT T L n h' ∧ OT (f + 1) (1 + szs cs) u' := by
  have cl := szs_len cs
  have cz := b.z
  have xT' : GoodO (f + 2) (.tx [120]) := goodO_le xT (by omega)
  have eT' : GoodO (f + 2) (.tx []) := goodO_le (show GoodO 1 (.tx []) from tk_lit ⟨by decide, by decide⟩) (by omega)
  have g1 : ∀ h, gAdd (.d (.tup [.tup [.str [116, 101, 120, 116], .str [120]]])) (.d (.tup (cs.map trD))) h = some (.d (.tup ([.tup [.str [116, 101, 120, 116], .str [120]]] ++ cs.map trD)), h) := fun h => gAdd_tt (by simp; omega)
  have g2 : ∀ h, gAdd (.d (.tup (cs.map trD))) (.d (.tup [.tup [.str [116, 101, 120, 116], .str []]])) h = some (.d (.tup (cs.map trD ++ [.tup [.str [116, 101, 120, 116], .str []]])), h) := fun h => gAdd_tt (by simp; omega)
  unfold oB
  refine wp_ok ?_
  cases hc : decide (2 < way) with
  | false =>
    simp_arith! only [hc]
    exact ⟨u, h, rfl, j, o⟩
  | true =>
    have h2 : 2 < way := by simpa using hc
    cases hd : decide (way < 6) with
    | false =>
      simp_arith! only [hc, hd]
      exact ⟨u, h, rfl, j, o⟩
    | true =>
      have h6 : way < 6 := by simpa using hd
      simp_arith! only [hc, hd, g1, g2]
      refine wp_pick (by omega) (by simp; omega) fun d hd => ?_
      simp_arith! only [eC_e]
      have fin : ∀ cs' : List Tr, (∀ c ∈ cs', GoodO (f + 2) c) → szs cs' ≤ szs cs + 2 → d = .tup (cs'.map trD) → ∃ u' h', SOut.nx [Slot.v (.ref n), Slot.v t, Slot.v (.int way), Slot.no, Slot.no, Slot.v (.str wTg), Slot.v (.str nm), Slot.v (.tup (ws.map wtD)), Slot.v (.tup (cs.map trD)), Slot.v (.tup [.str wTg, .str nm, .tup (ws.map wtD), d]), x10, x11] h = .nx (oN_ n t way nm ws cs u' x10 x11) h' ∧ BT T L n h' ∧ OT (f + 1) (1 + szs cs) u' := fun cs' h1 h2 e =>
        ⟨.tg nm ws cs', h, by rw [e, ← mkd], j, .mk' b.n (wtO_of b.w) h1 h2⟩
      simp only [List.mem_cons, List.not_mem_nil, or_false] at hd
      rcases hd with rfl | rfl | rfl
      · exact fin (.tx [120] :: cs) (fun c hc => by
          rcases List.mem_cons.mp hc with rfl | z
          · exact xT'
          · exact b.c c z) (by rw [szs, sz]; omega) rfl
      · exact fin (cs ++ [.tx []]) (fun c hc => by
          rcases List.mem_append.mp hc with z | z
          · exact b.c c z
          · rw [List.mem_singleton.mp z]; exact eT') (by rw [szs_app, szs, szs, sz]; omega) (by simp [trD]; rfl)
      · exact fin (cs.take 1) (fun c hc => b.c c (List.mem_of_mem_take hc)) (by have := szs_take cs 1; omega) (by rw [List.map_take])
theorem oC_w (b : OBase f nm ws cs) {t : D} {way : Int} {u : Tr} (o : OT (f + 1) (1 + szs cs) u) {x10 x11 : F.Slot} {h : Hs} (j : BT T L n h) : ok (oC (oN_ n t way nm ws cs u x10 x11) h) fun s => ∃ u' x11' h', s = .nx (oN_ n t way nm ws cs u' x10 x11') h' ∧ BT T L n h' ∧ OT (f + 1) (1 + szs cs) u' := by
  unfold oC
  refine wp_ok ?_
  cases hc : way == 6 with
  | false =>
    simp_arith! only [hc]
    exact ⟨u, x11, h, rfl, j, o⟩
  | true =>
    simp_arith! only [hc]
    refine wp_of (draw_w j (by decide) (by decide)) ?_
    rintro _ ⟨k, h1, rfl, j1, k0, k1⟩
    simp_arith! only [eC_e]
    refine wp_pickT (ls := [[60, 47, 115, 99, 114, 105, 112, 116, 62], [60, 47, 115, 99, 114, 105, 112], [120, 60, 47, 115, 99, 114, 105, 112, 116, 62, 121], [60, 47, 115, 99, 114, 105, 112, 116, 32, 62]]) rfl k0 k1 fun a ha => ?_
    have ta : Tk 20 a := by
      simp only [List.mem_cons, List.not_mem_nil, or_false] at ha
      rcases ha with rfl | rfl | rfl | rfl <;> exact tk_lit ⟨by decide, by decide⟩
    simp_arith! only [eC_e]
    exact ⟨.tg scrW ws [.tx a], .v (.str a), h1, by simp only [oN_, mkd]; rfl, j1, .mk' (tk12_lit ⟨by decide, by decide⟩) (wtO_of b.w) (fun c hc => by
      rw [List.mem_singleton.mp hc]
      exact goodO_le (show GoodO 1 (.tx a) from ta) (by omega)) (by simp [szs, sz])⟩
theorem oD_w (b : OBase f nm ws cs) {t : D} {way : Int} {u : Tr} (o : OT (f + 1) (1 + szs cs) u) {x10 x11 : F.Slot} {h : Hs} : ok (oD (oN_ n t way nm ws cs u x10 x11) h) fun s => ∃ u', s = .nx (oN_ n t way nm ws cs u' x10 x11) h ∧ OT (f + 1) (1 + szs cs) u' := by
  unfold oD
  refine wp_ok ?_
  cases hc : way == 7 with
  | false =>
    simp_arith! only [hc]
    exact ⟨u, rfl, o⟩
  | true =>
    simp_arith! only [hc]
    exact ⟨.tg scrW ws [.tx [120], .tg [98] [] []], by simp only [oN_, mkd]; rfl, .mk' (tk12_lit ⟨by decide, by decide⟩) (wtO_of b.w) (fun c hc => by
      rcases List.mem_cons.mp hc with rfl | z
      · exact goodO_le xT (by omega)
      · rw [List.mem_singleton.mp z]; exact goodO_le bT (by omega)) (by simp [szs, sz])⟩
end
theorem odd_tg {T : List D} {L : Hs} {n : Nat} {h : Hs} {f : Nat} {nm : List Nat} {ws : List Wt} {cs : List Tr} (g : Good (f + 1) (.tg nm ws cs)) (hf : f ≤ 21) (hz : sz (.tg nm ws cs) ≤ 130) (j : BT T L n h) : ok (m__law_odd [.ref n, trD (.tg nm ws cs)] h) fun q => ∃ us h', q = (.d (.rol (us.map trD)), h') ∧ BT T L n h' ∧ OddR (f + 1) (sz (.tg nm ws cs)) us := by
  have j0 := j
  obtain ⟨t, ht⟩ : ∃ t, t = Tr.tg nm ws cs := ⟨_, rfl⟩
  have i0 := i_kd (.tg nm ws cs)
  have q : (kd (.tg nm ws cs) == [116, 101, 120, 116]) = false := rfl
  have gO : GoodO (f + 1) (.tg nm ws cs) := goodO_of g
  have sp := sz_pos (.tg nm ws cs)
  have mn := fun h => law_many_ok 30 (.tg nm ws cs) h (goodO_le gO (by omega)) (by omega)
  have gt : ∀ env : F.Env, env.length = 12 → gTp [(gNm 5), (gNm 6), (gNm 7), (gNm 8)] (trD (.tg nm ws cs)) env = some ((((env.set 5 (.v (.str wTg))).set 6 (.v (.str nm))).set 7 (.v (.tup (ws.map wtD)))).set 8 (.v (.tup (cs.map trD)))) := fun env he => by
    rw [trD, trDs_map]
    rfl
  rw [← ht] at i0 q gO sp mn gt ⊢
  obtain ⟨gn, gw, gc_⟩ := g
  have cO : ∀ c ∈ cs, GoodO f c := fun c hc => goodO_of (gc_ c hc)
  have st : sz t = 1 + szs cs := by rw [ht]; rfl
  have cU : ∀ c ∈ cs, GoodO (f + 2) c := fun c hc => goodO_le (cO c hc) (by omega)
  have b : OBase f nm ws cs := ⟨gn, gw, cU, by have hz' := hz; rw [sz] at hz'; omega⟩
  unfold m__law_odd
  rw [b_odd_eq]
  refine wp_ok ?_
  rw [mOf_e]
  simp_arith! only [bd_some]
  refine wp_of (draw_w j (by decide) (by decide)) ?_
  rintro _ ⟨way, h1, rfl, j1, w0, w1⟩
  simp_arith! only [i0, q, gt]
  refine wp_of (draw_w j1 (by decide) (by decide)) ?_
  rintro _ ⟨k, h2, rfl, j2, k0, k1⟩
  simp_arith! only [eC_e]
  refine wp_pickT (ls := [[115, 99, 114, 105, 112, 116], [112, 97, 103, 101], [112]]) rfl k0 k1 fun a ha => ?_
  have ta : Tk 12 a := by
    simp only [List.mem_cons, List.not_mem_nil, or_false] at ha
    rcases ha with rfl | rfl | rfl <;> exact tk12_lit ⟨by decide, by decide⟩
  simp_arith! only [eC_e]
  have o0 : OT (f + 1) (1 + szs cs) (.tg a ws cs) := .mk' ta (wtO_of gw) cU (by omega)
  have e0 : D.tup [D.str [116, 97, 103], D.str a, D.tup (List.map wtD ws), D.tup (List.map trD cs)] = trD (.tg a ws cs) := by rw [mkd]; rfl
  rw [e0]
  refine wp_of (oA_w b w0 o0 j2) ?_
  rintro _ ⟨u1, y10, h3, rfl, j3, o1⟩
  simp_arith! only [eC_e]
  refine wp_of (oB_w b o1 j3) ?_
  rintro _ ⟨u2, h4, rfl, j4, o2⟩
  simp_arith! only [eC_e]
  refine wp_of (oC_w b o2 j4) ?_
  rintro _ ⟨u3, y11, h5, rfl, j5, o3⟩
  simp_arith! only [eC_e]
  refine wp_of (oD_w b o3) ?_
  rintro _ ⟨u4, rfl, o4⟩
  unfold oE
  have us := o4.s
  have c1 : cut [trD u4, trD t] none (some (1 + 0)) = [trD u4] := rfl
  have c2 : cut [trD u4, trD t] none (some (1 + 1)) = [trD u4, trD t] := rfl
  have z0 : ((1 : Int) + (if (false = true) then 1 else 0)) = 1 + 0 := rfl
  cases hw : way == 8 with
  | false =>
    simp_arith! only [hw]
    exact ⟨[u4], _, rfl, BT.gc j0 j5, .one o4.g (by omega)⟩
  | true =>
    cases hm : decide (((sz t : Nat) : Int) < 4) with
    | false =>
      simp_arith! only [hw, mn, hm]
      exact ⟨[u4], _, rfl, BT.gc j0 j5, .one o4.g (by omega)⟩
    | true =>
      have h4 : ((sz t : Nat) : Int) < 4 := by simpa using hm
      simp_arith! only [hw, mn, hm]
      exact ⟨[u4, t], _, rfl, BT.gc j0 j5, .two o4.g (goodO_le gO (by omega)) (by omega)⟩
end W
namespace W
open PySem hiding Env
open L2 F
set_option hygiene false
local macro_rules | `(tactic| simp_arith only [$as,*]) => `(tactic| simp -implicitDefEqProofs only [$as,*, dSeq_e, dNil_e, dIf_e, dSet_e, dRet_e, dExpr_e, dAsg_e, dFor_e, eC_e, eV_e, eB_e, eU_e, fB_e, eCh_e, fAnd_e, fOr_e, fNot_e, fYes_e, eIf_e, eNot_e, eAnd_e, eOr_e, aNil_e, aCons_e,  plain_nil, plain_cons, eTup_e, eLst_e, frzR_l, frzR_d, eFrz_e, newR_l, eNew_e, oN_e, oI_e, eSl_e, eF_e, eM1_e, eIsi_e, eKget_e, eKin_e, callR_d, callR_l, eCall_e, sqS_nx, sqS_rt, sqS_none, sqS_cond,  bd_some, bd_none, bd_cond, bK_eq, iK_eq, sK_eq, dK_eq, rdS_v, rdS_c, setR_d, setR_l, retR_d, retR_l, retR_b, gTp_e, gNm_e, gAll_nil, gAll_cons, fin_rt, fin_nx, fin_none, fin_cond, mOf_e, gc_same, rnd_nx, rnd_ct, rnd_bk, rnd_rt, rnd_none, rnd_cond,  iE_e, itR_rol, itR_scr, itR_l, itR_tup, itR_str, iR1_e, eLc_e, List.getElem?_cons_zero, List.getElem?_cons_succ, List.set_cons_zero, List.set_cons_succ, List.map_cons, List.map_nil, List.length_cons, List.length_nil, List.cons_append, List.nil_append,  List.replicate_succ, List.replicate_zero, Nat.reduceSub, Nat.reduceAdd, Nat.zero_add, List.reduceReplicate, cond_true, cond_false, gEq_str, gNe_str, gEq_int, gNe_int, gEq_bl, gNe_bl, gLt_int, gLe_int, gGt_int, gGe_int, gAdd_int, gSub_e, gNeg_e, gIn_sign, gNi_sign, gIs_e, gIsNot_e, gLen_rol, gLen_scr, gLen_tup, gLen_l, gLen_b, gSl_tup, gSl_rol, gSl_scr, gInt_bl, gAbs_e, gTupOf_rol, gTupOf_b,  wipeE, tupK_0, tupK_1, tupK_2, tupK_3, tupK_4, tupK_5, tupK_6, tupK_7, tupK_8, lstK_0, lstK_1, lstK_2, lstK_3, lstK_4, lstK_5, lstK_6, lstK_7, lstK_8, one_eq, inF_cons, inF_nil, cut_take1, cut_drop1, Bool.or_false, Bool.not_true, Bool.not_false, dApp_e, slK_c, appS_e, dFrz_e, frK_c, frK_v, dPut_e, rfK_e, Nat.reduceLeDiff, dFl_cons, dFl_nil, lcK_one, ixK_e, gIx_ref_e, ptK_e, putS_k, ix5_0, ix5_1, ix5_2, ix5_3, ix5_4, at5_0, at5_1, at5_2, at5_3, at5_4, List.set_set])
local macro_rules | `(tactic| simp_arith! only [$as,*]) => `(tactic| simp -implicitDefEqProofs only [$as,*, dSeq_e, dNil_e, dIf_e, dSet_e, dRet_e, dExpr_e, dAsg_e, dFor_e, eC_e, eV_e, eB_e, eU_e, fB_e, eCh_e, fAnd_e, fOr_e, fNot_e, fYes_e, eIf_e, eNot_e, eAnd_e, eOr_e, aNil_e, aCons_e, plain_nil, plain_cons, eTup_e, eLst_e, frzR_l, frzR_d, eFrz_e, newR_l, eNew_e, oN_e, oI_e, eSl_e, eF_e, eM1_e, eIsi_e, eKget_e, eKin_e, eCall_e, bd_none, bK_eq, iK_eq, sK_eq, dK_eq, rdS_v, rdS_c, setR_d, setR_l, retR_d, retR_l, retR_b, gTp_e, gNm_e, gAll_nil, gAll_cons, mOf_e, iE_e, itR_rol, itR_scr, itR_l, itR_tup, itR_str, iR1_e, eLc_e, List.getElem?_cons_zero, List.getElem?_cons_succ, List.set_cons_zero, List.set_cons_succ, List.map_cons, List.map_nil, List.length_cons, List.length_nil, List.cons_append, List.nil_append, List.replicate_succ, List.replicate_zero, Nat.reduceSub, Nat.reduceAdd, Nat.zero_add, List.reduceReplicate, cond_true, cond_false, gEq_str, gNe_str, gEq_int, gNe_int, gEq_bl, gNe_bl, gLt_int, gLe_int, gGt_int, gGe_int, gAdd_int, gSub_e, gNeg_e, gIn_sign, gNi_sign, gIs_e, gIsNot_e, gLen_rol, gLen_scr, gLen_tup, gLen_l, gLen_b, gSl_tup, gSl_rol, gSl_scr, gInt_bl, gAbs_e, gTupOf_rol, gTupOf_b, wipeE, tupK_0, tupK_1, tupK_2, tupK_3, tupK_4, tupK_5, tupK_6, tupK_7, tupK_8, lstK_0, lstK_1, lstK_2, lstK_3, lstK_4, lstK_5, lstK_6, lstK_7, lstK_8, one_eq, inF_cons, inF_nil, cut_take1, cut_drop1, Bool.or_false, Bool.not_true, Bool.not_false, dApp_e, slK_c, appS_e, dFrz_e, frK_c, frK_v, dPut_e, rfK_e, Nat.reduceLeDiff, dFl_cons, dFl_nil, lcK_one, ixK_e, gIx_ref_e, ptK_e, putS_k, ix5_0, ix5_1, ix5_2, ix5_3, ix5_4, at5_0, at5_1, at5_2, at5_3, at5_4, List.set_set, Int.cast_ofNat_Int, Int.reduceAdd, Int.reduceSub, Int.reduceMul, Int.reduceNeg, Int.reduceLT, Int.reduceLE, Int.reduceEq, Int.reduceNe, Int.reduceBEq, decide_true, decide_false, ixr0, ixr1, ixr2, drop1c, drop2c, take1c, gSl_l, gSl_b, dExtO_e, dPopX_e, dPopO_e, dPutO_e, iR2_e, iEn_e, enK_e, eMN_e, gFind3_e, gStarts3_e, gAug_int, gAugS_int, gInt_int, gMax2_e, gMin2_e, gLstOf_rol, gLstOf_tup, gLstOf_l, gTupOf_l, ixb0, ixt0, ixt1, ixt2, eMinDf_e, gMinDf_l, eBack_e, gBack_rol, gBack_b, dPar_e, eDNew_e, dDPut_e, dcK_c, eDGt_e, dv_b, dvK_some, dgtS_i, gDi_t, gDi_f, eDsp_e, dspK_2, eCallK_e, isNon_rol, isNon_non, List.length_map, List.length_append, ok_wp, wp_some, wp_bd, wp_sqS, wp_rnd, wp_fin, wp_callR, Ho_q, sqC_nx, sqC_rt, sqC_bk, sqC_ct, rndC_nx, rndC_ct, rndC_bk, rndC_rt, finC_rt, finC_nx, callC_d, callC_l, Bool.false_eq_true, if_true, if_false])
/-! k05: a tree with a node otherwise -/
def PutR (f z : Nat) (us : List Tr) : Prop := (∀ u ∈ us, GoodO (f + 2) u) ∧ szL us ≤ 6 * z
theorem PutR.one {f z : Nat} {u : Tr} (g : GoodO (f + 2) u) (h : sz u ≤ 6 * z) : PutR f z [u] := ⟨fun v hv => by rw [List.mem_singleton.mp hv]; exact g, by simp [szL]; exact h⟩
theorem PutR.app {f y z : Nat} {us vs : List Tr} (a : PutR f y us) (b : PutR f z vs) : PutR f (y + z) (us ++ vs) := by
  refine ⟨fun u hu => ?_, ?_⟩
  · rcases List.mem_append.mp hu with q | q
    · exact a.1 u q
    · exact b.1 u q
  · have h1 := a.2
    have h2 := b.2
    unfold szL at h1 h2 ⊢
    rw [List.map_append, List.sum_append]
    omega
theorem szL_szs (us : List Tr) : szL us = szs us := by rw [szs_sum]; rfl
theorem BT.own {T : List D} {L : Hs} {n c : Nat} {x : Cell} {h : Hs} (j : BT T L n h) (hc : c ≠ n) (hx : L[c]? = some x) : h[c]? = some x := by rw [j.2.2 c hc]; exact hx
theorem put_odd_w {T : List D} {n c : Nat} (hcn : c ≠ n) : ∀ (m f : Nat) (t : Tr) (k : Int) (L h : Hs), f ≤ m → Good f t → f ≤ 22 → sz t ≤ 130 → BT T L n h → L[c]? = some (.lst [.int k]) →
    ok (m__law_put_odd m [.ref n, trD t, .ref c] h) fun q => ∃ us h' k', q = (.d (.rol (us.map trD)), h') ∧ BT T (L.set c (.lst [.int k'])) n h' ∧ PutR f (sz t) us
  | m, 0, t, k, L, h, _, g, _, _, _, _ => g.elim
  | 0, f + 1, t, k, L, h, l, g, _, _, _, _ => absurd l (by omega)
  | m + 1, f + 1, t, k, L, h, lm, g, hf, hz, j, hk => by
    have j0 := j
    have i0 := i_kd t
    have cl : c < L.length := (List.getElem?_eq_some_iff.mp hk).1
    have hl := j.1
    have hc : h[c]? = some (.lst [.int k]) := j.own hcn hk
    have at1 : ∀ k : Int, atI [D.int k] 0 = some (.int k) := fun k => rfl
    have ix1 : ixN 1 0 = some 0 := rfl
    have hc2 : (h.set c (.lst [.int (k - 1)]))[c]? = some (.lst [.int (k - 1)]) := List.getElem?_set_self (by omega)
    have j1 : BT T (L.set c (.lst [.int (k - 1)])) n (h.set c (.lst [.int (k - 1)])) := j.set hcn
    have gcl : ∀ {k' : Int} {h' : Hs} {rv : RV}, BT T (L.set c (.lst [.int k'])) n h' → BT T (L.set c (.lst [.int k'])) n (F.gc h h' rv) := fun {k' h' rv} jj => by
      have : F.gc h h' rv = h' := gc_len (by rw [jj.1, hl, List.length_set])
      rw [this]
      exact jj
    show ok (mOf 5 (b__law_put_odd (m__law_put_odd m)) _ h) _
    unfold b__law_put_odd
    refine wp_ok ?_
    rw [mOf_e]
    simp_arith! only [bd_some, hc, at1, ix1, hc2]
    cases t with
    | tx s =>
      have q : (kd (.tx s) == [116, 101, 120, 116]) = true := rfl
      cases hh : k - 1 == -1 with
      | true =>
        simp_arith! only [hh]
        refine wp_of (odd_tx (f := f + 1) g j1) ?_
        rintro _ ⟨us, h2, rfl, j2, o⟩
        simp_arith! only [eC_e]
        exact ⟨us, _, k - 1, rfl, gcl j2, fun u hu => o.2.1 u hu, o.2.2⟩
      | false =>
        simp_arith! only [hh, i0, q]
        exact ⟨[.tx s], _, k - 1, rfl, gcl j1, .one (goodO_le (goodO_of g) (by omega)) (by simp [sz])⟩
    | tg nm ws cs =>
      have q : (kd (.tg nm ws cs) == [116, 101, 120, 116]) = false := rfl
      cases hh : k - 1 == -1 with
      | true =>
        simp_arith! only [hh]
        refine wp_of (odd_tg g (by omega) hz j1) ?_
        rintro _ ⟨us, h2, rfl, j2, o⟩
        simp_arith! only [eC_e]
        exact ⟨us, _, k - 1, rfl, gcl j2, fun u hu => o.2.1 u hu, o.2.2⟩
      | false =>
        obtain ⟨gn, gw, gc_⟩ := g
        have i1 : ∀ h, gIx (.d (trD (.tg nm ws cs))) (.d (.int 1)) h = some (.d (.str nm), h) := fun h => by rw [trD]; exact gIx_tup atI_one
        have i2 : ∀ h, gIx (.d (trD (.tg nm ws cs))) (.d (.int 2)) h = some (.d (.tup (ws.map wtD)), h) := fun h => by rw [trD]; exact gIx_tup atI_two
        have i3 : ∀ h, gIx (.d (trD (.tg nm ws cs))) (.d (.int 3)) h = some (.d (.tup (cs.map trD)), h) := fun h => by rw [trD, trDs_map]; rfl
        rw [sz] at hz
        obtain ⟨D0, hD0⟩ : ∃ D0, D0 = trD (.tg nm ws cs) := ⟨_, rfl⟩
        rw [← hD0] at i0 i1 i2 i3 ⊢
        simp_arith! only [hh, i0, i3, q]
        refine wp_of (R := fun s => ∃ (us : List Tr) (k' : Int) (x4 : F.Slot) (h' : Hs), s = .nx [.v (.ref n), .v D0, .v (.ref c), .v (.rol (us.map trD)), x4] h' ∧ BT T (L.set c (.lst [.int k'])) n h' ∧ PutR f (szs cs) us)
          (ok_dFl (I := fun ds env hh => ∃ (a b : List Tr) (us : List Tr) (k' : Int) (x4 : F.Slot), cs = a ++ b ∧ ds = b.map trD ∧ env = [.v (.ref n), .v D0, .v (.ref c), .v (.rol (us.map trD)), x4] ∧ BT T (L.set c (.lst [.int k'])) n hh ∧ PutR f (szs a) us) ?_ ?_ _ _ _
            ⟨[], cs, [], k - 1, .no, rfl, rfl, rfl, j1, fun u hu => (nomatch hu), by simp [szL]⟩) ?_
        · rintro d ds _ hh' ⟨a, b, us, k', x4, ec, ed, rfl, jj, pr⟩
          cases b with
          | nil => cases ed
          | cons u b =>
            rw [List.map_cons] at ed
            injection ed with e1 e2
            subst e1 e2
            have hu : u ∈ cs := by rw [ec]; simp
            have su := sz_memO hu
            have sa : szs a + sz u + szs b = szs cs := by rw [ec, szs_app, szs]; omega
            refine wp_ok ?_
            simp_arith! only [gNm_e]
            refine wp_of (put_odd_w hcn m f u k' _ hh' (by omega) (gc_ u hu) (by omega) (by omega) jj (by rw [List.getElem?_set_self (by omega)])) ?_
            rintro _ ⟨vs, h2, k2, rfl, j2, p2⟩
            rw [List.set_set] at j2
            have pp := pr.app p2
            have l1 := len_szL us
            have l2 := len_szL vs
            have l3 := pr.2
            have l4 := p2.2
            simp_arith! only [eC_e]
            refine wp_add_rr (by rw [List.length_map, List.length_map]; omega) ?_
            simp_arith! only [eC_e]
            exact ⟨a ++ [u], b, us ++ vs, k2, _, by rw [ec]; simp, rfl, by rw [List.map_append], j2, by rw [szs_app, szs, szs, Nat.add_zero]; exact pp⟩
        · rintro _ hh' ⟨a, b, us, k', x4, ec, ed, rfl, jj, pr⟩
          have : b = [] := by cases b with
            | nil => rfl
            | cons _ _ => cases ed
          subst this
          rw [List.append_nil] at ec
          rw [ec]
          exact ⟨us, k', x4, hh', rfl, jj, pr⟩
        rintro _ ⟨us, k', x4, h2, rfl, j2, pr⟩
        have i0' := i0
        simp_arith! only [i0, i1, i2]
        rw [F.gc_len (by rw [j2.1, hl, List.length_set])]
        refine ⟨[.tg nm ws us], h2, k', ?_, j2, .one ⟨gn, wtO_of gw, fun u hu => pr.1 u hu⟩ ?_⟩
        · rw [List.map_cons, List.map_nil, mkd]; rfl
        · have := pr.2
          rw [szL_szs] at this
          rw [sz, sz]
          omega
end W
namespace W
open PySem hiding Env
open L2 F
set_option hygiene false
local macro_rules | `(tactic| simp_arith only [$as,*]) => `(tactic| simp -implicitDefEqProofs only [$as,*, dSeq_e, dNil_e, dIf_e, dSet_e, dRet_e, dExpr_e, dAsg_e, dFor_e, eC_e, eV_e, eB_e, eU_e, fB_e, eCh_e, fAnd_e, fOr_e, fNot_e, fYes_e, eIf_e, eNot_e, eAnd_e, eOr_e, aNil_e, aCons_e,  plain_nil, plain_cons, eTup_e, eLst_e, frzR_l, frzR_d, eFrz_e, newR_l, eNew_e, oN_e, oI_e, eSl_e, eF_e, eM1_e, eIsi_e, eKget_e, eKin_e, callR_d, callR_l, eCall_e, sqS_nx, sqS_rt, sqS_none, sqS_cond,  bd_some, bd_none, bd_cond, bK_eq, iK_eq, sK_eq, dK_eq, rdS_v, rdS_c, setR_d, setR_l, retR_d, retR_l, retR_b, gTp_e, gNm_e, gAll_nil, gAll_cons, fin_rt, fin_nx, fin_none, fin_cond, mOf_e, gc_same, rnd_nx, rnd_ct, rnd_bk, rnd_rt, rnd_none, rnd_cond,  iE_e, itR_rol, itR_scr, itR_l, itR_tup, itR_str, iR1_e, eLc_e, List.getElem?_cons_zero, List.getElem?_cons_succ, List.set_cons_zero, List.set_cons_succ, List.map_cons, List.map_nil, List.length_cons, List.length_nil, List.cons_append, List.nil_append,  List.replicate_succ, List.replicate_zero, Nat.reduceSub, Nat.reduceAdd, Nat.zero_add, List.reduceReplicate, cond_true, cond_false, gEq_str, gNe_str, gEq_int, gNe_int, gEq_bl, gNe_bl, gLt_int, gLe_int, gGt_int, gGe_int, gAdd_int, gSub_e, gNeg_e, gIn_sign, gNi_sign, gIs_e, gIsNot_e, gLen_rol, gLen_scr, gLen_tup, gLen_l, gLen_b, gSl_tup, gSl_rol, gSl_scr, gInt_bl, gAbs_e, gTupOf_rol, gTupOf_b,  wipeE, tupK_0, tupK_1, tupK_2, tupK_3, tupK_4, tupK_5, tupK_6, tupK_7, tupK_8, lstK_0, lstK_1, lstK_2, lstK_3, lstK_4, lstK_5, lstK_6, lstK_7, lstK_8, one_eq, inF_cons, inF_nil, cut_take1, cut_drop1, Bool.or_false, Bool.not_true, Bool.not_false, dApp_e, slK_c, appS_e, dFrz_e, frK_c, frK_v, dPut_e, rfK_e, Nat.reduceLeDiff, dFl_cons, dFl_nil, lcK_one, ixK_e, gIx_ref_e, ptK_e, putS_k, ix5_0, ix5_1, ix5_2, ix5_3, ix5_4, at5_0, at5_1, at5_2, at5_3, at5_4, List.set_set])
local macro_rules | `(tactic| simp_arith! only [$as,*]) => `(tactic| simp -implicitDefEqProofs only [$as,*, dSeq_e, dNil_e, dIf_e, dSet_e, dRet_e, dExpr_e, dAsg_e, dFor_e, eC_e, eV_e, eB_e, eU_e, fB_e, eCh_e, fAnd_e, fOr_e, fNot_e, fYes_e, eIf_e, eNot_e, eAnd_e, eOr_e, aNil_e, aCons_e, plain_nil, plain_cons, eTup_e, eLst_e, frzR_l, frzR_d, eFrz_e, newR_l, eNew_e, oN_e, oI_e, eSl_e, eF_e, eM1_e, eIsi_e, eKget_e, eKin_e, eCall_e, bd_none, bK_eq, iK_eq, sK_eq, dK_eq, rdS_v, rdS_c, setR_d, setR_l, retR_d, retR_l, retR_b, gTp_e, gNm_e, gAll_nil, gAll_cons, mOf_e, iE_e, itR_rol, itR_scr, itR_l, itR_tup, itR_str, iR1_e, eLc_e, List.getElem?_cons_zero, List.getElem?_cons_succ, List.set_cons_zero, List.set_cons_succ, List.map_cons, List.map_nil, List.length_cons, List.length_nil, List.cons_append, List.nil_append, List.replicate_succ, List.replicate_zero, Nat.reduceSub, Nat.reduceAdd, Nat.zero_add, List.reduceReplicate, cond_true, cond_false, gEq_str, gNe_str, gEq_int, gNe_int, gEq_bl, gNe_bl, gLt_int, gLe_int, gGt_int, gGe_int, gAdd_int, gSub_e, gNeg_e, gIn_sign, gNi_sign, gIs_e, gIsNot_e, gLen_rol, gLen_scr, gLen_tup, gLen_l, gLen_b, gSl_tup, gSl_rol, gSl_scr, gInt_bl, gAbs_e, gTupOf_rol, gTupOf_b, wipeE, tupK_0, tupK_1, tupK_2, tupK_3, tupK_4, tupK_5, tupK_6, tupK_7, tupK_8, lstK_0, lstK_1, lstK_2, lstK_3, lstK_4, lstK_5, lstK_6, lstK_7, lstK_8, one_eq, inF_cons, inF_nil, cut_take1, cut_drop1, Bool.or_false, Bool.not_true, Bool.not_false, dApp_e, slK_c, appS_e, dFrz_e, frK_c, frK_v, dPut_e, rfK_e, Nat.reduceLeDiff, dFl_cons, dFl_nil, lcK_one, ixK_e, gIx_ref_e, ptK_e, putS_k, ix5_0, ix5_1, ix5_2, ix5_3, ix5_4, at5_0, at5_1, at5_2, at5_3, at5_4, List.set_set, Int.cast_ofNat_Int, Int.reduceAdd, Int.reduceSub, Int.reduceMul, Int.reduceNeg, Int.reduceLT, Int.reduceLE, Int.reduceEq, Int.reduceNe, Int.reduceBEq, decide_true, decide_false, ixr0, ixr1, ixr2, drop1c, drop2c, take1c, gSl_l, gSl_b, dExtO_e, dPopX_e, dPopO_e, dPutO_e, iR2_e, iEn_e, enK_e, eMN_e, gFind3_e, gStarts3_e, gAug_int, gAugS_int, gInt_int, gMax2_e, gMin2_e, gLstOf_rol, gLstOf_tup, gLstOf_l, gTupOf_l, ixb0, ixt0, ixt1, ixt2, eMinDf_e, gMinDf_l, eBack_e, gBack_rol, gBack_b, dPar_e, eDNew_e, dDPut_e, dcK_c, eDGt_e, dv_b, dvK_some, dgtS_i, gDi_t, gDi_f, eDsp_e, dspK_2, eCallK_e, isNon_rol, isNon_non, List.length_map, List.length_append, ok_wp, wp_some, wp_bd, wp_sqS, wp_rnd, wp_fin, wp_callR, Ho_q, sqC_nx, sqC_rt, sqC_bk, sqC_ct, rndC_nx, rndC_ct, rndC_bk, rndC_rt, finC_rt, finC_nx, callC_d, callC_l, Bool.false_eq_true, if_true, if_false])
/-! k05: the law -/
def SOk (us : List Tr) : Prop := ∀ u ∈ us, GoodO 25 u ∧ sz u ≤ 900
theorem SOk.app {us vs : List Tr} (a : SOk us) (b : SOk vs) : SOk (us ++ vs) := fun u hu => by
  rcases List.mem_append.mp hu with q | q
  · exact a u q
  · exact b u q
theorem SOk.of {us : List Tr} (p : PutR 22 130 us) : SOk us := fun u hu => ⟨goodO_le (p.1 u hu) (by decide), by
  have h := p.2
  have : sz u ≤ szs us := sz_memO hu
  rw [szL_szs] at h
  omega⟩
abbrev sl (scr : D) (x2 x3 x4 x5 x6 x7 x8 : F.Slot) : F.Env := [.v scr, .v (.ref 0), x2, x3, x4, x5, x6, x7, x8]
noncomputable def cB : DS := (dSeq (dSet 7 (eAnd (eB gEq (eB gIx (eV 6) (eC (.int 0))) (eC (.str [116, 97, 103]))) (eAnd (eB gEq (eSl (eV 6) (oI (eC (.int 1))) (oI (eC (.int 3)))) (eTup (aCons (eC (.str [112, 97, 103, 101])) (aCons (eTup aNil) aNil)))) (eCall (m__law_sound 30) (aCons (eV 6) aNil))))) (dFor (iE (eLst (aCons (eCall m_is_whole (aCons (eV 6) aNil)) (aCons (eCallK m_is_whole [0] aNil (aCons (eV 6) aNil)) aNil)))) (gNm 8) (dIf (fOr (fNot (fB (eIsi [.bl] (eV 8)))) (fB (eB gNe (eV 8) (eV 7)))) (dRet (eFrz (eC (.bl false)))) dNil)))
noncomputable def gB : DS := (dSet 4 (eFrz (eB gAdd (eV 4) (eCall (m__law_put_odd 30) (aCons (eV 1) (aCons (eV 3) (aCons (eNew (eLst (aCons (eCall m__law_draw (aCons (eV 1) (aCons (eCall (m__law_many 30) (aCons (eV 3) aNil)) aNil))) aNil))) aNil)))))))
theorem due_ok {u : Tr} (g : GoodO 25 u) (z : sz u ≤ 900) {scr : D} {x2 x3 x4 x5 x7 x8 : F.Slot} {h : Hs} : ∃ y7 y8, cB (sl scr x2 x3 x4 x5 (.v (trD u)) x7 x8) h = some (.nx (sl scr x2 x3 x4 x5 (.v (trD u)) y7 y8) h) := by
  have w1 := fun h => whole_ok g z h
  have s1 := fun h => law_sound_ok 30 u h (goodO_le g (by decide)) z
  have i0 := i_kd u
  have pk : pick [0] [trD u] = [trD u] := rfl
  have ty : ∀ b h, tyN (.d (.bl b)) h = some .bl := fun b h => rfl
  have ta : [TN.bl].any (TN.is .bl) = true := rfl
  have ne : ∀ (b : Bool) h, gNe (.d (.bl b)) (.d (.bl b)) h = some (.d (.bl false), h) := fun b h => by cases b <;> rfl
  refine ⟨.v (.bl (whole u)), .v (.bl (whole u)), ?_⟩
  unfold cB
  cases u with
  | tx s =>
    have q : (kd (.tx s) == [116, 97, 103]) = false := rfl
    have ew : whole (.tx s) = false := rfl
    rw [ew] at w1 ⊢
    simp_arith only [i0, q, w1, pk, ty, ta, ne, eIsi_e, eCallK_e]
  | tg nm ws cs =>
    have q : (kd (.tg nm ws cs) == [116, 97, 103]) = true := rfl
    have ct : ∀ h, gSl (.d (trD (.tg nm ws cs))) (some 1) (some 3) h = some (.d (.tup [.str nm, .tup (ws.map wtD)]), h) := fun h => by rw [trD]; rfl
    have a : dOks 2 (ws.map wtD) = true := dOks_map fun w hw => dOk_wtO (n := 1) (g.2.1.2 w hw)
    have e1 := fun h => gEq_plain (ng := false) (d := .tup [.str nm, .tup (ws.map wtD)]) (e := .tup [.str [112, 97, 103, 101], .tup []]) (h := h) 4 (by simp only [dOk, dOks, a, al_s g.1, Bool.and_self]) (by decide)
    have e2 : eqD (.tup [.str nm, .tup (ws.map wtD)]) (.tup [.str [112, 97, 103, 101], .tup []]) = (nm == pageW && ws.isEmpty) := by
      have := eq_nilT ws
      simp only [eqD, eqDs, Bool.and_true] at this ⊢
      rw [this]
      rfl
    simp only [e2, Bool.false_eq_true, if_false] at e1
    have ew : whole (.tg nm ws cs) = ((nm == pageW && ws.isEmpty) && snd (.tg nm ws cs)) := rfl
    obtain ⟨D0, hD0⟩ : ∃ D0, D0 = trD (.tg nm ws cs) := ⟨_, rfl⟩
    rw [← hD0] at w1 s1 i0 pk ct ⊢
    rw [ew] at w1 ⊢
    cases hb : (nm == pageW && ws.isEmpty) with
    | false =>
      rw [hb] at w1 e1
      simp_arith only [i0, q, ct, e1, s1, w1, pk, ty, ta, ne, eIsi_e, eCallK_e, Bool.false_and]
    | true =>
      rw [hb] at w1 e1
      simp_arith only [i0, q, ct, e1, s1, w1, pk, ty, ta, ne, eIsi_e, eCallK_e, Bool.true_and]
theorem due_loop {scr : D} {x2 x3 x4 x5 : F.Slot} {h : Hs} : ∀ (us : List Tr), SOk us → ∀ x6 x7 x8, ∃ y6 y7 y8, dFl (gNm 6) cB (us.map trD) (sl scr x2 x3 x4 x5 x6 x7 x8) h = some (.nx (sl scr x2 x3 x4 x5 y6 y7 y8) h)
  | [], _, x6, x7, x8 => ⟨x6, x7, x8, rfl⟩
  | u :: us, H, x6, x7, x8 => by
    have hu := H u List.mem_cons_self
    obtain ⟨z7, z8, e⟩ := due_ok hu.1 hu.2 (scr := scr) (x2 := x2) (x3 := x3) (x4 := x4) (x5 := x5) (x7 := x7) (x8 := x8) (h := h)
    obtain ⟨y6, y7, y8, r⟩ := due_loop (scr := scr) (x2 := x2) (x3 := x3) (x4 := x4) (x5 := x5) (h := h) us (fun v hv => H v (List.mem_cons_of_mem _ hv)) (.v (trD u)) z7 z8
    have g : gNm 6 (trD u) (sl scr x2 x3 x4 x5 x6 x7 x8) = some (sl scr x2 x3 x4 x5 (.v (trD u)) x7 x8) := rfl
    refine ⟨y6, y7, y8, ?_⟩
    rw [List.map_cons, dFl_cons, g, bd_some, e, rnd_nx, r]
theorem gB_w {T : List D} {L : Hs} {h : Hs} (hT : okT T) (j : BT T L 0 h) (l0 : 0 < L.length) {t : Tr} (g : Good 22 t) (hz : sz t ≤ 130) {us : List Tr} (ho : SOk us) (hl : us.length ≤ 20000) {scr : D} {x2 x5 x6 x7 x8 : F.Slot} :
    ok (gB (sl scr x2 (.v (trD t)) (.v (.rol (us.map trD))) x5 x6 x7 x8) h) fun s => ∃ (vs : List Tr) (L' h' : Hs), s = .nx (sl scr x2 (.v (trD t)) (.v (.rol ((us ++ vs).map trD))) x5 x6 x7 x8) h' ∧ BT T L' 0 h' ∧ 0 < L'.length ∧ SOk vs ∧ vs.length ≤ 800 := by
  have mn := fun h => law_many_ok 30 t h (goodO_le (goodO_of g) (by decide)) (by omega)
  have tp := sz_pos t
  unfold gB
  refine wp_ok ?_
  simp_arith! only [mn]
  refine wp_of (draw_w j (by omega) (by omega)) ?_
  rintro _ ⟨x, h1, rfl, j1, x0, x1⟩
  have j2 := j1.app (X := [.lst [.int x]]) l0
  have hl1 := j1.1
  simp_arith! only [newR_l]
  rw [hl1]
  refine wp_of (put_odd_w (c := L.length) (by omega) 30 22 t x _ _ (by decide) g (by decide) hz j2 (by rw [List.getElem?_append_right (by omega)]; simp)) ?_
  rintro _ ⟨vs, h2, k2, rfl, j3, p⟩
  have ov : SOk vs := .of ⟨p.1, by have := p.2; omega⟩
  have lv := len_szL vs
  have pv := p.2
  simp_arith! only [eC_e]
  refine wp_add_rr (by rw [List.length_map, List.length_map]; omega) ?_
  simp_arith! only [eC_e]
  exact ⟨vs, _, h2, by rw [List.map_append], j3, by simp, ov, by omega⟩
theorem law_true : Law m_law := fun ns hl => by
  have key : ok (m_law [.scr (ns.map .int)] []) fun q => ∃ h', q = (.d (.bl true), h') := by
    obtain ⟨c, eb, B⟩ := bag_ok ns hl []
    have r3 : ∀ h, rngK h [.d (.int 3)] = some (rangeL 0 1 3, h) := fun h => rngK_e (by decide) (by decide)
    have r8 : ∀ h, rngK h [.d (.int 8)] = some (rangeL 0 1 8, h) := fun h => rngK_e (by decide) (by decide)
    unfold m_law b_law
    refine wp_ok ?_
    rw [mOf_e]
    simp_arith! only [bd_some, eb, eNew_e, newR_l, r3]
    refine wp_of (R := fun s => ∃ (e : F.Env) (h' : Hs), s = .nx e h')
      (ok_dFl (I := fun ds env h => ∃ (T : List D) (L : Hs) (x2 x3 x4 x5 x6 x7 x8 : F.Slot), env = sl (.scr (ns.map .int)) x2 x3 x4 x5 x6 x7 x8 ∧ okT T ∧ BT T L 0 h ∧ 0 < L.length) ?_ ?_ _ _ _
        ⟨[], [c], _, _, _, _, _, _, _, rfl, .inl rfl, ⟨rfl, ⟨c, rfl, B⟩, fun i hi => rfl⟩, by simp⟩) ?_
    · rintro d ds _ h ⟨T, L, x2, x3, x4, x5, x6, x7, x8, rfl, hT, j, l0⟩
      refine wp_ok ?_
      simp -implicitDefEqProofs only [gNm_e, wp_some, Ho_q, ok_wp, List.set_cons_succ, List.set_cons_zero]
      rw [dSeq_e, wp_sqS]
      refine wp_of (R := fun s => ∃ (t : Tr) (T : List D) (h' : Hs), s = .nx (sl (.scr (ns.map .int)) (.v d) (.v (trD t)) x4 x5 x6 x7 x8) h' ∧ okT T ∧ BT T L 0 h' ∧ Good 22 t ∧ sz t ≤ 130 ∧ ∃ nm ws cs, t = .tg nm ws cs) ?_ ?_
      · refine wp_ok ?_
        simp_arith! only [eC_e]
        refine wp_of (most_w j) ?_
        rintro _ ⟨m, h1, rfl, j1, m0, m1⟩
        simp_arith! only [eC_e]
        refine wp_of (grown_w hT j1 l0 m0 m1) ?_
        rintro _ ⟨t, h2, T2, rfl, hT2, j2, g, z, e⟩
        simp_arith! only [eC_e]
        exact ⟨t, T2, h2, rfl, hT2, j2, g, z, e⟩
      rintro _ ⟨t, T, h1, rfl, hT, j1, g, z, nm, ws, cs, et⟩
      simp -implicitDefEqProofs only [Ho_q, sqC_nx]
      have i3 : ∀ h, gIx (.d (trD t)) (.d (.int 3)) h = some (.d (.tup (cs.map trD)), h) := fun h => by rw [et, trD, trDs_map]; rfl
      have gg := g
      rw [et] at gg
      obtain ⟨gn, gw, gc_⟩ := gg
      have cs_le : szs cs ≤ 129 := by rw [et, sz] at z; omega
      have cl := szs_len cs
      have cO : ∀ c ∈ cs, GoodO 24 c := fun c hc => goodO_le (f := 21) (goodO_of (gc_ c hc)) (by decide)
      have gO : GoodO 25 t := goodO_le (goodO_of g) (by decide)
      rw [dSeq_e, wp_sqS]
      refine wp_of (R := fun s => ∃ us, s = .nx (sl (.scr (ns.map .int)) (.v d) (.v (trD t)) (.v (.rol (us.map trD))) x5 x6 x7 x8) h1 ∧ SOk us ∧ us.length ≤ 10) ?_ ?_
      · refine wp_ok ?_
        simp_arith! only [i3, gSl_tup, gLstOf_tup]
        refine wp_add_ll (by simp; omega) ?_
        simp_arith! only [eC_e]
        refine ⟨[t, .tg [112, 97, 103, 101, 115] [] cs, .tg [112, 97, 103, 101] [([105, 100], [])] cs] ++ cs.take 1, ?_, fun u hu => ?_, by simp; omega⟩
        · rw [List.map_append, List.map_take]
          simp only [List.map_cons, List.map_nil, mkd]
          rfl
        · rcases List.mem_append.mp hu with q | q
          · simp only [List.mem_cons, List.not_mem_nil, or_false] at q
            rcases q with rfl | rfl | rfl
            · exact ⟨gO, by omega⟩
            · exact ⟨⟨tk12_lit ⟨by decide, by decide⟩, ⟨by simp, fun w hw => nomatch hw⟩, cO⟩, by rw [sz]; omega⟩
            · exact ⟨⟨tk12_lit ⟨by decide, by decide⟩, ⟨by simp, fun w hw => by
                rw [List.mem_singleton.mp hw]
                exact ⟨tk12_lit ⟨by decide, by decide⟩, tk_lit ⟨by decide, by decide⟩⟩⟩, cO⟩, by rw [sz]; omega⟩
          · have := List.mem_of_mem_take q
            exact ⟨goodO_le (cO u this) (by decide), by have := sz_memO this; omega⟩
      rintro _ ⟨us0, rfl, so0, sl0⟩
      simp -implicitDefEqProofs only [Ho_q, sqC_nx]
      rw [dSeq_e, wp_sqS]
      refine wp_of (R := fun s => ∃ (us : List Tr) (L' h' : Hs) (y5 : F.Slot), s = .nx (sl (.scr (ns.map .int)) (.v d) (.v (trD t)) (.v (.rol (us.map trD))) y5 x6 x7 x8) h' ∧ SOk us ∧ BT T L' 0 h' ∧ 0 < L'.length ∧ us.length ≤ 20000) ?_ ?_
      · refine wp_ok ?_
        simp_arith! only [r8]
        refine (ok_dFl (I := fun ds env h => ∃ (us : List Tr) (L' : Hs) (y5 : F.Slot), env = sl (.scr (ns.map .int)) (.v d) (.v (trD t)) (.v (.rol (us.map trD))) y5 x6 x7 x8 ∧ SOk us ∧ BT T L' 0 h ∧ 0 < L'.length ∧ us.length + 800 * ds.length ≤ 10000) ?_ ?_ _ _ _
          ⟨us0, L, x5, rfl, so0, j1, l0, by rw [rangeL_len]; omega⟩)
        · rintro d2 ds2 _ h2 ⟨us, L', y5, rfl, so, jj, ll, lz⟩
          simp only [List.length_cons] at lz
          refine wp_ok ?_
          simp -implicitDefEqProofs only [gNm_e, wp_some, Ho_q, ok_wp, List.set_cons_succ, List.set_cons_zero]
          refine (gB_w hT jj ll g z so (by omega)).mono ?_
          rintro _ ⟨vs, L2, h3, rfl, j3, l3, ov, lv⟩
          exact ⟨us ++ vs, L2, _, rfl, so.app ov, j3, l3, by rw [List.length_append]; omega⟩
        · rintro _ h2 ⟨us, L', y5, rfl, so, jj, ll, lz⟩
          exact ⟨us, L', h2, y5, rfl, so, jj, ll, by omega⟩
      rintro _ ⟨us, L', h2, y5, rfl, so, j2, l2, lz⟩
      simp -implicitDefEqProofs only [Ho_q, sqC_nx]
      obtain ⟨y6, y7, y8, r⟩ := due_loop (scr := .scr (ns.map .int)) (x2 := .v d) (x3 := .v (trD t)) (x4 := .v (.rol (us.map trD))) (x5 := y5) (h := h2) us so x6 x7 x8
      unfold cB at r
      simp_arith! only [r]
      exact ⟨T, L', _, _, _, _, _, _, _, rfl, hT, j2, l2⟩
    · rintro _ h ⟨T, L, x2, x3, x4, x5, x6, x7, x8, rfl, hT, j, l0⟩
      exact ⟨_, _, rfl⟩
    rintro _ ⟨e, h', rfl⟩
    have wl := fun h => whole_ok (t := .tg [112, 97, 103, 101] [] []) ⟨tk12_lit ⟨by decide, by decide⟩, ⟨by simp, fun w hw => nomatch hw⟩, fun c hc => nomatch hc⟩ (by simp [sz, szs]) h
    have ew : whole (.tg [112, 97, 103, 101] [] []) = true := by decide
    have e0 : trD (.tg [112, 97, 103, 101] [] []) = .tup [.str [116, 97, 103], .str [112, 97, 103, 101], .tup [], .tup []] := by simp only [trD, trDs, List.map_nil]; rfl
    rw [ew, e0] at wl
    simp_arith! only [wl, gIsB_e]
    exact ⟨_, rfl⟩
  obtain ⟨q, e, h', rfl⟩ := key
  exact ⟨h', e⟩
end W
namespace W
open PySem PySem.Spec PyProof.Rows L2 F
theorem all_mk {l : PySem.W.OpenLaw} {w : World} {K : PySem.W.Frag} {h : Heap} {mg : Str → Option Value} {fa : Addr} (X : K.In h) (G : h.Ns mainGlobals mg) (hfa : mg "law" = some (.ref fa))
    {f_is_sound_tag : Addr}
    {od_is_sound_tag : Option Addr}
    {an_is_sound_tag : Option Addr}
    {sl_is_sound_tag : Array (Option Value)}
    {oc_is_sound_tag : Value}
    {kV_is_sound_tag : Value}
    {dc_is_sound_tag : Value}
    {pm_is_sound_tag : Value}
    {cd_is_sound_tag : Value}
    {ct_is_sound_tag : Value}
    {f_is_whole : Addr}
    {od_is_whole : Option Addr}
    {an_is_whole : Option Addr}
    {sl_is_whole : Array (Option Value)}
    {oc_is_whole : Value}
    {kV_is_whole : Value}
    {dc_is_whole : Value}
    {pm_is_whole : Value}
    {cd_is_whole : Value}
    {ct_is_whole : Value}
    {f__law_bag : Addr}
    {od__law_bag : Option Addr}
    {an__law_bag : Option Addr}
    {sl__law_bag : Array (Option Value)}
    {oc__law_bag : Value}
    {kV__law_bag : Value}
    {dc__law_bag : Value}
    {pm__law_bag : Value}
    {cd__law_bag : Value}
    {ct__law_bag : Value}
    {f__law_stirred : Addr}
    {od__law_stirred : Option Addr}
    {an__law_stirred : Option Addr}
    {sl__law_stirred : Array (Option Value)}
    {oc__law_stirred : Value}
    {kV__law_stirred : Value}
    {dc__law_stirred : Value}
    {pm__law_stirred : Value}
    {cd__law_stirred : Value}
    {ct__law_stirred : Value}
    {f__law_draw : Addr}
    {od__law_draw : Option Addr}
    {an__law_draw : Option Addr}
    {sl__law_draw : Array (Option Value)}
    {oc__law_draw : Value}
    {kV__law_draw : Value}
    {dc__law_draw : Value}
    {pm__law_draw : Value}
    {cd__law_draw : Value}
    {ct__law_draw : Value}
    {f__law_pool : Addr}
    {od__law_pool : Option Addr}
    {an__law_pool : Option Addr}
    {sl__law_pool : Array (Option Value)}
    {oc__law_pool : Value}
    {kV__law_pool : Value}
    {dc__law_pool : Value}
    {pm__law_pool : Value}
    {cd__law_pool : Value}
    {ct__law_pool : Value}
    {f__law_word : Addr}
    {od__law_word : Option Addr}
    {an__law_word : Option Addr}
    {sl__law_word : Array (Option Value)}
    {oc__law_word : Value}
    {kV__law_word : Value}
    {dc__law_word : Value}
    {pm__law_word : Value}
    {cd__law_word : Value}
    {ct__law_word : Value}
    {f__law_signs : Addr}
    {od__law_signs : Option Addr}
    {an__law_signs : Option Addr}
    {sl__law_signs : Array (Option Value)}
    {oc__law_signs : Value}
    {kV__law_signs : Value}
    {dc__law_signs : Value}
    {pm__law_signs : Value}
    {cd__law_signs : Value}
    {ct__law_signs : Value}
    {f__law_name : Addr}
    {od__law_name : Option Addr}
    {an__law_name : Option Addr}
    {sl__law_name : Array (Option Value)}
    {oc__law_name : Value}
    {kV__law_name : Value}
    {dc__law_name : Value}
    {pm__law_name : Value}
    {cd__law_name : Value}
    {ct__law_name : Value}
    {f__law_worths : Addr}
    {od__law_worths : Option Addr}
    {an__law_worths : Option Addr}
    {sl__law_worths : Array (Option Value)}
    {oc__law_worths : Value}
    {kV__law_worths : Value}
    {dc__law_worths : Value}
    {pm__law_worths : Value}
    {cd__law_worths : Value}
    {ct__law_worths : Value}
    {f__law_node : Addr}
    {od__law_node : Option Addr}
    {an__law_node : Option Addr}
    {sl__law_node : Array (Option Value)}
    {oc__law_node : Value}
    {kV__law_node : Value}
    {dc__law_node : Value}
    {pm__law_node : Value}
    {cd__law_node : Value}
    {ct__law_node : Value}
    {f__law_most : Addr}
    {od__law_most : Option Addr}
    {an__law_most : Option Addr}
    {sl__law_most : Array (Option Value)}
    {oc__law_most : Value}
    {kV__law_most : Value}
    {dc__law_most : Value}
    {pm__law_most : Value}
    {cd__law_most : Value}
    {ct__law_most : Value}
    {f__law_grown : Addr}
    {od__law_grown : Option Addr}
    {an__law_grown : Option Addr}
    {sl__law_grown : Array (Option Value)}
    {oc__law_grown : Value}
    {kV__law_grown : Value}
    {dc__law_grown : Value}
    {pm__law_grown : Value}
    {cd__law_grown : Value}
    {ct__law_grown : Value}
    {f__law_sound : Addr}
    {od__law_sound : Option Addr}
    {an__law_sound : Option Addr}
    {sl__law_sound : Array (Option Value)}
    {oc__law_sound : Value}
    {kV__law_sound : Value}
    {dc__law_sound : Value}
    {pm__law_sound : Value}
    {cd__law_sound : Value}
    {ct__law_sound : Value}
    {f__law_many : Addr}
    {od__law_many : Option Addr}
    {an__law_many : Option Addr}
    {sl__law_many : Array (Option Value)}
    {oc__law_many : Value}
    {kV__law_many : Value}
    {dc__law_many : Value}
    {pm__law_many : Value}
    {cd__law_many : Value}
    {ct__law_many : Value}
    {f__law_odd : Addr}
    {od__law_odd : Option Addr}
    {an__law_odd : Option Addr}
    {sl__law_odd : Array (Option Value)}
    {oc__law_odd : Value}
    {kV__law_odd : Value}
    {dc__law_odd : Value}
    {pm__law_odd : Value}
    {cd__law_odd : Value}
    {ct__law_odd : Value}
    {f__law_put_odd : Addr}
    {od__law_put_odd : Option Addr}
    {an__law_put_odd : Option Addr}
    {sl__law_put_odd : Array (Option Value)}
    {oc__law_put_odd : Value}
    {kV__law_put_odd : Value}
    {dc__law_put_odd : Value}
    {pm__law_put_odd : Value}
    {cd__law_put_odd : Value}
    {ct__law_put_odd : Value}
    {f_law : Addr}
    {od_law : Option Addr}
    {an_law : Option Addr}
    {sl_law : Array (Option Value)}
    {oc_law : Value}
    {kV_law : Value}
    {dc_law : Value}
    {pm_law : Value}
    {cd_law : Value}
    {ct_law : Value}
    {t_CODE : Tok}
    {t_CODE_END : Tok}
    (a_f_is_sound_tag : PySem.W.nsIn K mainGlobals "is_sound_tag" = some (some (.ref f_is_sound_tag)))
    (l_f_is_sound_tag : K.lookup f_is_sound_tag = some ⟨oc_is_sound_tag, od_is_sound_tag, .func (PySem.W.fnOf "is_sound_tag" "is_sound_tag" (defArgs s_is_sound_tag) (defBody s_is_sound_tag) (defScope s_is_sound_tag) .none kV_is_sound_tag dc_is_sound_tag pm_is_sound_tag an_is_sound_tag cd_is_sound_tag ct_is_sound_tag), sl_is_sound_tag⟩)
    (c_f_is_sound_tag : PySem.W.codeIn K cd_is_sound_tag "is_sound_tag" = true)
    (k_f_is_sound_tag : PySem.W.keepIn K (.ref f_is_sound_tag) = true)
    (a_f_is_whole : PySem.W.nsIn K mainGlobals "is_whole" = some (some (.ref f_is_whole)))
    (l_f_is_whole : K.lookup f_is_whole = some ⟨oc_is_whole, od_is_whole, .func (PySem.W.fnOf "is_whole" "is_whole" (defArgs s_is_whole) (defBody s_is_whole) (defScope s_is_whole) .none kV_is_whole dc_is_whole pm_is_whole an_is_whole cd_is_whole ct_is_whole), sl_is_whole⟩)
    (c_f_is_whole : PySem.W.codeIn K cd_is_whole "is_whole" = true)
    (k_f_is_whole : PySem.W.keepIn K (.ref f_is_whole) = true)
    (a_f__law_bag : PySem.W.nsIn K mainGlobals "_law_bag" = some (some (.ref f__law_bag)))
    (l_f__law_bag : K.lookup f__law_bag = some ⟨oc__law_bag, od__law_bag, .func (PySem.W.fnOf "_law_bag" "_law_bag" (defArgs s__law_bag) (defBody s__law_bag) (defScope s__law_bag) .none kV__law_bag dc__law_bag pm__law_bag an__law_bag cd__law_bag ct__law_bag), sl__law_bag⟩)
    (c_f__law_bag : PySem.W.codeIn K cd__law_bag "_law_bag" = true)
    (k_f__law_bag : PySem.W.keepIn K (.ref f__law_bag) = true)
    (a_f__law_stirred : PySem.W.nsIn K mainGlobals "_law_stirred" = some (some (.ref f__law_stirred)))
    (l_f__law_stirred : K.lookup f__law_stirred = some ⟨oc__law_stirred, od__law_stirred, .func (PySem.W.fnOf "_law_stirred" "_law_stirred" (defArgs s__law_stirred) (defBody s__law_stirred) (defScope s__law_stirred) .none kV__law_stirred dc__law_stirred pm__law_stirred an__law_stirred cd__law_stirred ct__law_stirred), sl__law_stirred⟩)
    (c_f__law_stirred : PySem.W.codeIn K cd__law_stirred "_law_stirred" = true)
    (k_f__law_stirred : PySem.W.keepIn K (.ref f__law_stirred) = true)
    (a_f__law_draw : PySem.W.nsIn K mainGlobals "_law_draw" = some (some (.ref f__law_draw)))
    (l_f__law_draw : K.lookup f__law_draw = some ⟨oc__law_draw, od__law_draw, .func (PySem.W.fnOf "_law_draw" "_law_draw" (defArgs s__law_draw) (defBody s__law_draw) (defScope s__law_draw) .none kV__law_draw dc__law_draw pm__law_draw an__law_draw cd__law_draw ct__law_draw), sl__law_draw⟩)
    (c_f__law_draw : PySem.W.codeIn K cd__law_draw "_law_draw" = true)
    (k_f__law_draw : PySem.W.keepIn K (.ref f__law_draw) = true)
    (a_f__law_pool : PySem.W.nsIn K mainGlobals "_law_pool" = some (some (.ref f__law_pool)))
    (l_f__law_pool : K.lookup f__law_pool = some ⟨oc__law_pool, od__law_pool, .func (PySem.W.fnOf "_law_pool" "_law_pool" (defArgs s__law_pool) (defBody s__law_pool) (defScope s__law_pool) .none kV__law_pool dc__law_pool pm__law_pool an__law_pool cd__law_pool ct__law_pool), sl__law_pool⟩)
    (c_f__law_pool : PySem.W.codeIn K cd__law_pool "_law_pool" = true)
    (k_f__law_pool : PySem.W.keepIn K (.ref f__law_pool) = true)
    (a_f__law_word : PySem.W.nsIn K mainGlobals "_law_word" = some (some (.ref f__law_word)))
    (l_f__law_word : K.lookup f__law_word = some ⟨oc__law_word, od__law_word, .func (PySem.W.fnOf "_law_word" "_law_word" (defArgs s__law_word) (defBody s__law_word) (defScope s__law_word) .none kV__law_word dc__law_word pm__law_word an__law_word cd__law_word ct__law_word), sl__law_word⟩)
    (c_f__law_word : PySem.W.codeIn K cd__law_word "_law_word" = true)
    (k_f__law_word : PySem.W.keepIn K (.ref f__law_word) = true)
    (a_f__law_signs : PySem.W.nsIn K mainGlobals "_law_signs" = some (some (.ref f__law_signs)))
    (l_f__law_signs : K.lookup f__law_signs = some ⟨oc__law_signs, od__law_signs, .func (PySem.W.fnOf "_law_signs" "_law_signs" (defArgs s__law_signs) (defBody s__law_signs) (defScope s__law_signs) .none kV__law_signs dc__law_signs pm__law_signs an__law_signs cd__law_signs ct__law_signs), sl__law_signs⟩)
    (c_f__law_signs : PySem.W.codeIn K cd__law_signs "_law_signs" = true)
    (k_f__law_signs : PySem.W.keepIn K (.ref f__law_signs) = true)
    (a_f__law_name : PySem.W.nsIn K mainGlobals "_law_name" = some (some (.ref f__law_name)))
    (l_f__law_name : K.lookup f__law_name = some ⟨oc__law_name, od__law_name, .func (PySem.W.fnOf "_law_name" "_law_name" (defArgs s__law_name) (defBody s__law_name) (defScope s__law_name) .none kV__law_name dc__law_name pm__law_name an__law_name cd__law_name ct__law_name), sl__law_name⟩)
    (c_f__law_name : PySem.W.codeIn K cd__law_name "_law_name" = true)
    (k_f__law_name : PySem.W.keepIn K (.ref f__law_name) = true)
    (a_f__law_worths : PySem.W.nsIn K mainGlobals "_law_worths" = some (some (.ref f__law_worths)))
    (l_f__law_worths : K.lookup f__law_worths = some ⟨oc__law_worths, od__law_worths, .func (PySem.W.fnOf "_law_worths" "_law_worths" (defArgs s__law_worths) (defBody s__law_worths) (defScope s__law_worths) .none kV__law_worths dc__law_worths pm__law_worths an__law_worths cd__law_worths ct__law_worths), sl__law_worths⟩)
    (c_f__law_worths : PySem.W.codeIn K cd__law_worths "_law_worths" = true)
    (k_f__law_worths : PySem.W.keepIn K (.ref f__law_worths) = true)
    (a_f__law_node : PySem.W.nsIn K mainGlobals "_law_node" = some (some (.ref f__law_node)))
    (l_f__law_node : K.lookup f__law_node = some ⟨oc__law_node, od__law_node, .func (PySem.W.fnOf "_law_node" "_law_node" (defArgs s__law_node) (defBody s__law_node) (defScope s__law_node) .none kV__law_node dc__law_node pm__law_node an__law_node cd__law_node ct__law_node), sl__law_node⟩)
    (c_f__law_node : PySem.W.codeIn K cd__law_node "_law_node" = true)
    (k_f__law_node : PySem.W.keepIn K (.ref f__law_node) = true)
    (a_f__law_most : PySem.W.nsIn K mainGlobals "_law_most" = some (some (.ref f__law_most)))
    (l_f__law_most : K.lookup f__law_most = some ⟨oc__law_most, od__law_most, .func (PySem.W.fnOf "_law_most" "_law_most" (defArgs s__law_most) (defBody s__law_most) (defScope s__law_most) .none kV__law_most dc__law_most pm__law_most an__law_most cd__law_most ct__law_most), sl__law_most⟩)
    (c_f__law_most : PySem.W.codeIn K cd__law_most "_law_most" = true)
    (k_f__law_most : PySem.W.keepIn K (.ref f__law_most) = true)
    (a_f__law_grown : PySem.W.nsIn K mainGlobals "_law_grown" = some (some (.ref f__law_grown)))
    (l_f__law_grown : K.lookup f__law_grown = some ⟨oc__law_grown, od__law_grown, .func (PySem.W.fnOf "_law_grown" "_law_grown" (defArgs s__law_grown) (defBody s__law_grown) (defScope s__law_grown) .none kV__law_grown dc__law_grown pm__law_grown an__law_grown cd__law_grown ct__law_grown), sl__law_grown⟩)
    (c_f__law_grown : PySem.W.codeIn K cd__law_grown "_law_grown" = true)
    (k_f__law_grown : PySem.W.keepIn K (.ref f__law_grown) = true)
    (a_f__law_sound : PySem.W.nsIn K mainGlobals "_law_sound" = some (some (.ref f__law_sound)))
    (l_f__law_sound : K.lookup f__law_sound = some ⟨oc__law_sound, od__law_sound, .func (PySem.W.fnOf "_law_sound" "_law_sound" (defArgs s__law_sound) (defBody s__law_sound) (defScope s__law_sound) .none kV__law_sound dc__law_sound pm__law_sound an__law_sound cd__law_sound ct__law_sound), sl__law_sound⟩)
    (c_f__law_sound : PySem.W.codeIn K cd__law_sound "_law_sound" = true)
    (k_f__law_sound : PySem.W.keepIn K (.ref f__law_sound) = true)
    (a_f__law_many : PySem.W.nsIn K mainGlobals "_law_many" = some (some (.ref f__law_many)))
    (l_f__law_many : K.lookup f__law_many = some ⟨oc__law_many, od__law_many, .func (PySem.W.fnOf "_law_many" "_law_many" (defArgs s__law_many) (defBody s__law_many) (defScope s__law_many) .none kV__law_many dc__law_many pm__law_many an__law_many cd__law_many ct__law_many), sl__law_many⟩)
    (c_f__law_many : PySem.W.codeIn K cd__law_many "_law_many" = true)
    (k_f__law_many : PySem.W.keepIn K (.ref f__law_many) = true)
    (a_f__law_odd : PySem.W.nsIn K mainGlobals "_law_odd" = some (some (.ref f__law_odd)))
    (l_f__law_odd : K.lookup f__law_odd = some ⟨oc__law_odd, od__law_odd, .func (PySem.W.fnOf "_law_odd" "_law_odd" (defArgs s__law_odd) (defBody s__law_odd) (defScope s__law_odd) .none kV__law_odd dc__law_odd pm__law_odd an__law_odd cd__law_odd ct__law_odd), sl__law_odd⟩)
    (c_f__law_odd : PySem.W.codeIn K cd__law_odd "_law_odd" = true)
    (k_f__law_odd : PySem.W.keepIn K (.ref f__law_odd) = true)
    (a_f__law_put_odd : PySem.W.nsIn K mainGlobals "_law_put_odd" = some (some (.ref f__law_put_odd)))
    (l_f__law_put_odd : K.lookup f__law_put_odd = some ⟨oc__law_put_odd, od__law_put_odd, .func (PySem.W.fnOf "_law_put_odd" "_law_put_odd" (defArgs s__law_put_odd) (defBody s__law_put_odd) (defScope s__law_put_odd) .none kV__law_put_odd dc__law_put_odd pm__law_put_odd an__law_put_odd cd__law_put_odd ct__law_put_odd), sl__law_put_odd⟩)
    (c_f__law_put_odd : PySem.W.codeIn K cd__law_put_odd "_law_put_odd" = true)
    (k_f__law_put_odd : PySem.W.keepIn K (.ref f__law_put_odd) = true)
    (a_f_law : PySem.W.nsIn K mainGlobals "law" = some (some (.ref f_law)))
    (l_f_law : K.lookup f_law = some ⟨oc_law, od_law, .func (PySem.W.fnOf "law" "law" (defArgs s_law) (defBody s_law) (defScope s_law) .none kV_law dc_law pm_law an_law cd_law ct_law), sl_law⟩)
    (c_f_law : PySem.W.codeIn K cd_law "law" = true)
    (k_f_law : PySem.W.keepIn K (.ref f_law) = true)
    (z_abs : PySem.W.nsIn K mainGlobals "abs" = some none)
    (z_all : PySem.W.nsIn K mainGlobals "all" = some none)
    (z_bool : PySem.W.nsIn K mainGlobals "bool" = some none)
    (z_int : PySem.W.nsIn K mainGlobals "int" = some none)
    (z_isinstance : PySem.W.nsIn K mainGlobals "isinstance" = some none)
    (z_len : PySem.W.nsIn K mainGlobals "len" = some none)
    (z_list : PySem.W.nsIn K mainGlobals "list" = some none)
    (z_max : PySem.W.nsIn K mainGlobals "max" = some none)
    (z_range : PySem.W.nsIn K mainGlobals "range" = some none)
    (z_set : PySem.W.nsIn K mainGlobals "set" = some none)
    (z_sum : PySem.W.nsIn K mainGlobals "sum" = some none)
    (z_tuple : PySem.W.nsIn K mainGlobals "tuple" = some none)
    (z_zip : PySem.W.nsIn K mainGlobals "zip" = some none)
    (g_CODE : PySem.W.nsIn K mainGlobals "CODE" = some (some (.str (S [115, 99, 114, 105, 112, 116]) t_CODE)))
    (g_CODE_END : PySem.W.nsIn K mainGlobals "CODE_END" = some (some (.str (S [60, 47, 115, 99, 114, 105, 112, 116, 62]) t_CODE_END)))
    : ∃ fd : FuncData, (∀ (s : Shared) (v : Value), BindsTo s fd ⟨[v], []⟩ [("script", v)]) ∧ ∀ base : Heap, K.In base → base.Ns mainGlobals mg → FnOk l.prog w K mg base CX0 64 fa fd ["script"] (spLaw K) := by
  have e := hfa.symm.trans (PySem.W.mg_of X G a_f_law)
  cases e
  refine ⟨PySem.W.fnOf "law" "law" (defArgs s_law) (defBody s_law) (defScope s_law) .none kV_law dc_law pm_law an_law cd_law ct_law, fun s v => .of_eq rfl, fun base _ _ => ?_⟩
  have E : Ev ⟨l.prog, w, K, mg, base⟩ :=
    ⟨fnFact (g := ⟨l.prog, w, K, mg, base⟩) (st := s_is_sound_tag) (PySem.W.mg_of X G a_f_is_sound_tag) l_f_is_sound_tag c_f_is_sound_tag k_f_is_sound_tag ((fun_mk (st := s_is_sound_tag) l_f_is_sound_tag c_f_is_sound_tag k_f_is_sound_tag).binds (ps := ["tag"]) fun _ _ _ _ _ _ us hl => match us, hl with | [_], _ => rfl),
     fnFact (g := ⟨l.prog, w, K, mg, base⟩) (st := s_is_whole) (PySem.W.mg_of X G a_f_is_whole) l_f_is_whole c_f_is_whole k_f_is_whole ((fun_mk (st := s_is_whole) l_f_is_whole c_f_is_whole k_f_is_whole).binds (ps := ["tree"]) fun _ _ _ _ _ _ us hl => match us, hl with | [_], _ => rfl),
     fnFact (g := ⟨l.prog, w, K, mg, base⟩) (st := s__law_bag) (PySem.W.mg_of X G a_f__law_bag) l_f__law_bag c_f__law_bag k_f__law_bag ((fun_mk (st := s__law_bag) l_f__law_bag c_f__law_bag k_f__law_bag).binds (ps := ["script"]) fun _ _ _ _ _ _ us hl => match us, hl with | [_], _ => rfl),
     fnFact (g := ⟨l.prog, w, K, mg, base⟩) (st := s__law_stirred) (PySem.W.mg_of X G a_f__law_stirred) l_f__law_stirred c_f__law_stirred k_f__law_stirred ((fun_mk (st := s__law_stirred) l_f__law_stirred c_f__law_stirred k_f__law_stirred).binds (ps := ["bag", "many"]) fun _ _ _ _ _ _ us hl => match us, hl with | [_, _], _ => rfl),
     fnFact (g := ⟨l.prog, w, K, mg, base⟩) (st := s__law_draw) (PySem.W.mg_of X G a_f__law_draw) l_f__law_draw c_f__law_draw k_f__law_draw ((fun_mk (st := s__law_draw) l_f__law_draw c_f__law_draw k_f__law_draw).binds (ps := ["bag", "many"]) fun _ _ _ _ _ _ us hl => match us, hl with | [_, _], _ => rfl),
     fnFact (g := ⟨l.prog, w, K, mg, base⟩) (st := s__law_pool) (PySem.W.mg_of X G a_f__law_pool) l_f__law_pool c_f__law_pool k_f__law_pool ((fun_mk (st := s__law_pool) l_f__law_pool c_f__law_pool k_f__law_pool).binds (ps := ["bag"]) fun _ _ _ _ _ _ us hl => match us, hl with | [_], _ => rfl),
     fnFact (g := ⟨l.prog, w, K, mg, base⟩) (st := s__law_word) (PySem.W.mg_of X G a_f__law_word) l_f__law_word c_f__law_word k_f__law_word ((fun_mk (st := s__law_word) l_f__law_word c_f__law_word k_f__law_word).binds (ps := ["bag"]) fun _ _ _ _ _ _ us hl => match us, hl with | [_], _ => rfl),
     fnFact (g := ⟨l.prog, w, K, mg, base⟩) (st := s__law_signs) (PySem.W.mg_of X G a_f__law_signs) l_f__law_signs c_f__law_signs k_f__law_signs ((fun_mk (st := s__law_signs) l_f__law_signs c_f__law_signs k_f__law_signs).binds (ps := ["bag", "many"]) fun _ _ _ _ _ _ us hl => match us, hl with | [_, _], _ => rfl),
     fnFact (g := ⟨l.prog, w, K, mg, base⟩) (st := s__law_name) (PySem.W.mg_of X G a_f__law_name) l_f__law_name c_f__law_name k_f__law_name ((fun_mk (st := s__law_name) l_f__law_name c_f__law_name k_f__law_name).binds (ps := ["bag"]) fun _ _ _ _ _ _ us hl => match us, hl with | [_], _ => rfl),
     fnFact (g := ⟨l.prog, w, K, mg, base⟩) (st := s__law_worths) (PySem.W.mg_of X G a_f__law_worths) l_f__law_worths c_f__law_worths k_f__law_worths ((fun_mk (st := s__law_worths) l_f__law_worths c_f__law_worths k_f__law_worths).binds (ps := ["bag"]) fun _ _ _ _ _ _ us hl => match us, hl with | [_], _ => rfl),
     fnFact (g := ⟨l.prog, w, K, mg, base⟩) (st := s__law_node) (PySem.W.mg_of X G a_f__law_node) l_f__law_node c_f__law_node k_f__law_node ((fun_mk (st := s__law_node) l_f__law_node c_f__law_node k_f__law_node).binds (ps := ["one"]) fun _ _ _ _ _ _ us hl => match us, hl with | [_], _ => rfl),
     fnFact (g := ⟨l.prog, w, K, mg, base⟩) (st := s__law_most) (PySem.W.mg_of X G a_f__law_most) l_f__law_most c_f__law_most k_f__law_most ((fun_mk (st := s__law_most) l_f__law_most c_f__law_most k_f__law_most).binds (ps := ["bag"]) fun _ _ _ _ _ _ us hl => match us, hl with | [_], _ => rfl),
     fnFact (g := ⟨l.prog, w, K, mg, base⟩) (st := s__law_grown) (PySem.W.mg_of X G a_f__law_grown) l_f__law_grown c_f__law_grown k_f__law_grown ((fun_mk (st := s__law_grown) l_f__law_grown c_f__law_grown k_f__law_grown).binds (ps := ["bag", "most"]) fun _ _ _ _ _ _ us hl => match us, hl with | [_, _], _ => rfl),
     fnFact (g := ⟨l.prog, w, K, mg, base⟩) (st := s__law_sound) (PySem.W.mg_of X G a_f__law_sound) l_f__law_sound c_f__law_sound k_f__law_sound ((fun_mk (st := s__law_sound) l_f__law_sound c_f__law_sound k_f__law_sound).binds (ps := ["node"]) fun _ _ _ _ _ _ us hl => match us, hl with | [_], _ => rfl),
     fnFact (g := ⟨l.prog, w, K, mg, base⟩) (st := s__law_many) (PySem.W.mg_of X G a_f__law_many) l_f__law_many c_f__law_many k_f__law_many ((fun_mk (st := s__law_many) l_f__law_many c_f__law_many k_f__law_many).binds (ps := ["node"]) fun _ _ _ _ _ _ us hl => match us, hl with | [_], _ => rfl),
     fnFact (g := ⟨l.prog, w, K, mg, base⟩) (st := s__law_odd) (PySem.W.mg_of X G a_f__law_odd) l_f__law_odd c_f__law_odd k_f__law_odd ((fun_mk (st := s__law_odd) l_f__law_odd c_f__law_odd k_f__law_odd).binds (ps := ["bag", "node"]) fun _ _ _ _ _ _ us hl => match us, hl with | [_, _], _ => rfl),
     fnFact (g := ⟨l.prog, w, K, mg, base⟩) (st := s__law_put_odd) (PySem.W.mg_of X G a_f__law_put_odd) l_f__law_put_odd c_f__law_put_odd k_f__law_put_odd ((fun_mk (st := s__law_put_odd) l_f__law_put_odd c_f__law_put_odd k_f__law_put_odd).binds (ps := ["bag", "node", "at"]) fun _ _ _ _ _ _ us hl => match us, hl with | [_, _, _], _ => rfl),
     fnFact (g := ⟨l.prog, w, K, mg, base⟩) (st := s_law) (PySem.W.mg_of X G a_f_law) l_f_law c_f_law k_f_law ((fun_mk (st := s_law) l_f_law c_f_law k_f_law).binds (ps := ["script"]) fun _ _ _ _ _ _ us hl => match us, hl with | [_], _ => rfl),
     kwFact (g := ⟨l.prog, w, K, mg, base⟩) (st := s_is_whole) (PySem.W.mg_of X G a_f_is_whole) l_f_is_whole c_f_is_whole k_f_is_whole (fun s us ws h1 h2 => match us, ws, h1, h2 with | [], [_], _, _ => .of_eq rfl),
     PySem.W.mg_none_of X G z_abs,
     PySem.W.mg_none_of X G z_all,
     PySem.W.mg_none_of X G z_bool,
     PySem.W.mg_none_of X G z_int,
     PySem.W.mg_none_of X G z_isinstance,
     PySem.W.mg_none_of X G z_len,
     PySem.W.mg_none_of X G z_list,
     PySem.W.mg_none_of X G z_max,
     PySem.W.mg_none_of X G z_range,
     PySem.W.mg_none_of X G z_set,
     PySem.W.mg_none_of X G z_sum,
     PySem.W.mg_none_of X G z_tuple,
     PySem.W.mg_none_of X G z_zip,
     .of (PySem.W.mg_of X G g_CODE) (kv_str rfl),
     .of (PySem.W.mg_of X G g_CODE_END) (kv_str rfl)⟩
  exact law_ok (fn_ok (g := ⟨l.prog, w, K, mg, base⟩) (fun_mk (st := s_law) l_f_law c_f_law k_f_law) sc_law (ss_law E)) law_true
theorem walk {l : PySem.W.OpenLaw} {q : Program} {loose : List Str} {XP : (Str → Option Value) → Heap → Prop} {YP : World → Heap → Prop} {d : DefRec} {K : Params → PySem.W.Frag} (hn : l.most = some 63) (hdf : d.params.defaults = [])
    (hY : ∀ (w : World) (h : Heap), YP w h → (K w.params).In h)
    (F : ∀ (w : World) (mg : Str → Option Value) (fa : Addr) (h : Heap), (K w.params).In h → h.Ns mainGlobals mg → mg d.name = some (.ref fa) →
      ∃ fd : FuncData, (∀ (s : Shared) (u : Value), BindsTo s fd ⟨[u], []⟩ [("script", u)]) ∧ ∀ base : Heap, (K w.params).In base → base.Ns mainGlobals mg → FnOk l.prog w (K w.params) mg base CX0 64 fa fd ["script"] (spLaw (K w.params))) :
    PySem.W.WalkO q loose XP YP l.row.toRowW d [] (fun f vs => PySem.call f vs) :=
  L2.walk_of (n := 63) (k := 64) (x := "script") (CX := fun _ => CX0) (sp := fun w => spLaw (K w.params)) hn (by decide) hdf ⟨rfl, by decide, by decide⟩ hY F (fun _ _ a ns hl _ hS => ⟨a, ns, rfl, hS, hl, fun _ => rfl⟩) fun _ _ _ _ _ z => z
end W
open PySem PySem.W PyProof.Rows in
set_option maxRecDepth 100000 in
set_option maxHeartbeats 0 in
theorem PySem.Challenge.cw_freshpage_k05_whole_or_not_holds : PySem.Challenge.rw_freshpage_k05_whole_or_not.Holds := by
  w_on; o_law; k_head; (case hw => w_witness2)
  k_fill
  refine W.walk (l := PySem.Challenge.rw_freshpage_k05_whole_or_not) rfl rfl (fun w h Y => PySem.W.kIn_of Y) ?F
  case F =>
    intro w mg fa h KX G hmg
    refine' W.all_mk KX G hmg ?a_f_is_sound_tag ?l_f_is_sound_tag ?c_f_is_sound_tag ?k_f_is_sound_tag ?a_f_is_whole ?l_f_is_whole ?c_f_is_whole ?k_f_is_whole ?a_f__law_bag ?l_f__law_bag ?c_f__law_bag ?k_f__law_bag ?a_f__law_stirred ?l_f__law_stirred ?c_f__law_stirred ?k_f__law_stirred ?a_f__law_draw ?l_f__law_draw ?c_f__law_draw ?k_f__law_draw ?a_f__law_pool ?l_f__law_pool ?c_f__law_pool ?k_f__law_pool ?a_f__law_word ?l_f__law_word ?c_f__law_word ?k_f__law_word ?a_f__law_signs ?l_f__law_signs ?c_f__law_signs ?k_f__law_signs ?a_f__law_name ?l_f__law_name ?c_f__law_name ?k_f__law_name ?a_f__law_worths ?l_f__law_worths ?c_f__law_worths ?k_f__law_worths ?a_f__law_node ?l_f__law_node ?c_f__law_node ?k_f__law_node ?a_f__law_most ?l_f__law_most ?c_f__law_most ?k_f__law_most ?a_f__law_grown ?l_f__law_grown ?c_f__law_grown ?k_f__law_grown ?a_f__law_sound ?l_f__law_sound ?c_f__law_sound ?k_f__law_sound ?a_f__law_many ?l_f__law_many ?c_f__law_many ?k_f__law_many ?a_f__law_odd ?l_f__law_odd ?c_f__law_odd ?k_f__law_odd ?a_f__law_put_odd ?l_f__law_put_odd ?c_f__law_put_odd ?k_f__law_put_odd ?a_f_law ?l_f_law ?c_f_law ?k_f_law ?z_abs ?z_all ?z_bool ?z_int ?z_isinstance ?z_len ?z_list ?z_max ?z_range ?z_set ?z_sum ?z_tuple ?z_zip ?g_CODE ?g_CODE_END
    (case a_f_is_sound_tag => k_is)
    (case l_f_is_sound_tag => k_is)
    (case c_f_is_sound_tag => k_is)
    (case k_f_is_sound_tag => k_is)
    (case a_f_is_whole => k_is)
    (case l_f_is_whole => k_is)
    (case c_f_is_whole => k_is)
    (case k_f_is_whole => k_is)
    (case a_f__law_bag => k_is)
    (case l_f__law_bag => k_is)
    (case c_f__law_bag => k_is)
    (case k_f__law_bag => k_is)
    (case a_f__law_stirred => k_is)
    (case l_f__law_stirred => k_is)
    (case c_f__law_stirred => k_is)
    (case k_f__law_stirred => k_is)
    (case a_f__law_draw => k_is)
    (case l_f__law_draw => k_is)
    (case c_f__law_draw => k_is)
    (case k_f__law_draw => k_is)
    (case a_f__law_pool => k_is)
    (case l_f__law_pool => k_is)
    (case c_f__law_pool => k_is)
    (case k_f__law_pool => k_is)
    (case a_f__law_word => k_is)
    (case l_f__law_word => k_is)
    (case c_f__law_word => k_is)
    (case k_f__law_word => k_is)
    (case a_f__law_signs => k_is)
    (case l_f__law_signs => k_is)
    (case c_f__law_signs => k_is)
    (case k_f__law_signs => k_is)
    (case a_f__law_name => k_is)
    (case l_f__law_name => k_is)
    (case c_f__law_name => k_is)
    (case k_f__law_name => k_is)
    (case a_f__law_worths => k_is)
    (case l_f__law_worths => k_is)
    (case c_f__law_worths => k_is)
    (case k_f__law_worths => k_is)
    (case a_f__law_node => k_is)
    (case l_f__law_node => k_is)
    (case c_f__law_node => k_is)
    (case k_f__law_node => k_is)
    (case a_f__law_most => k_is)
    (case l_f__law_most => k_is)
    (case c_f__law_most => k_is)
    (case k_f__law_most => k_is)
    (case a_f__law_grown => k_is)
    (case l_f__law_grown => k_is)
    (case c_f__law_grown => k_is)
    (case k_f__law_grown => k_is)
    (case a_f__law_sound => k_is)
    (case l_f__law_sound => k_is)
    (case c_f__law_sound => k_is)
    (case k_f__law_sound => k_is)
    (case a_f__law_many => k_is)
    (case l_f__law_many => k_is)
    (case c_f__law_many => k_is)
    (case k_f__law_many => k_is)
    (case a_f__law_odd => k_is)
    (case l_f__law_odd => k_is)
    (case c_f__law_odd => k_is)
    (case k_f__law_odd => k_is)
    (case a_f__law_put_odd => k_is)
    (case l_f__law_put_odd => k_is)
    (case c_f__law_put_odd => k_is)
    (case k_f__law_put_odd => k_is)
    (case a_f_law => k_is)
    (case l_f_law => k_is)
    (case c_f_law => k_is)
    (case k_f_law => k_is)
    (case z_abs => k_is)
    (case z_all => k_is)
    (case z_bool => k_is)
    (case z_int => k_is)
    (case z_isinstance => k_is)
    (case z_len => k_is)
    (case z_list => k_is)
    (case z_max => k_is)
    (case z_range => k_is)
    (case z_set => k_is)
    (case z_sum => k_is)
    (case z_tuple => k_is)
    (case z_zip => k_is)
    (case g_CODE => k_is)
    (case g_CODE_END => k_is)
